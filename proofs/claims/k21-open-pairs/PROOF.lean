import PyProof.Rows.All
import Wide.All
import OpenK.AllK
import Wide.FinOn
import HandS.ForMost
import HandS.ForExc
import HandS.IsInst
import HandS.Walk
import HandS.Wide
import HandS.Flow
import HandS.FStr
import HandS.Conv
import HandS.TupAny
import HandS.TupMul
import HandS.TupLe
import HandS.Zip
import HandS.Deep
import HandS.NoneIn
import HandS.Style
import HandS.ExcIs
import KE.DataCmp
import KE.SortData
import HandS.ExcValue
import HandS.WordsExc
import HandS.Defaults
import HandS.HeadEnd
import HandS.Head0
import HandS.Head1
import HandS.Head2
import HandS.HeadHook1
import HandS.HeadHook2
import HandS.Codes
import PySem.Challenge.RW_slopeshapes_k21_open_pairs
import KE.KStateDown
import Lean
set_option Elab.async false
set_option linter.all false
set_option maxRecDepth 100000
set_option autoImplicit false
set_option maxHeartbeats 0
/-! Elimination, in plain words: no program in sight. -/
namespace Lin
def sumN : Nat → (Nat → Int) → Int
  | 0, _ => 0
  | n + 1, f => sumN n f + f n
theorem sum_congr {f g : Nat → Int} : ∀ {n : Nat}, (∀ i, i < n → f i = g i) → sumN n f = sumN n g
  | 0, _ => rfl
  | n + 1, h => by rw [sumN, sumN, sum_congr (fun i hi => h i (by omega)), h n (by omega)]
theorem sum_zero {f : Nat → Int} : ∀ {n : Nat}, (∀ i, i < n → f i = 0) → sumN n f = 0
  | 0, _ => rfl
  | n + 1, h => by rw [sumN, sum_zero (fun i hi => h i (by omega)), h n (by omega)]; rfl
theorem sum_lin (a b : Int) (f g : Nat → Int) : ∀ n, sumN n (fun i => a * f i + b * g i) = a * sumN n f + b * sumN n g
  | 0 => by simp [sumN]
  | n + 1 => by
    rw [sumN, sumN, sumN, sum_lin a b f g n, Int.mul_add, Int.mul_add]
    omega
theorem sum_one {f : Nat → Int} {a : Nat} : ∀ {n : Nat}, a < n → (∀ i, i < n → i ≠ a → f i = 0) → sumN n f = f a
  | 0, h, _ => by omega
  | n + 1, h, hz => by
    rw [sumN]
    by_cases e : a = n
    · subst e
      rw [sum_zero fun i hi => hz i (by omega) (by omega)]
      omega
    · rw [sum_one (a := a) (by omega) fun i hi hne => hz i (by omega) hne, hz n (by omega) (by omega)]
      omega
theorem sum_two {f : Nat → Int} {a b : Nat} : ∀ {n : Nat}, a < n → b < n → a ≠ b → (∀ i, i < n → i ≠ a → i ≠ b → f i = 0) → sumN n f = f a + f b
  | 0, h, _, _, _ => by omega
  | n + 1, ha, hb, hab, hz => by
    rw [sumN]
    by_cases e : a = n
    · subst e
      rw [sum_one (a := b) (by omega) fun i hi hne => hz i (by omega) (by omega) hne]
      omega
    · by_cases e2 : b = n
      · subst e2
        rw [sum_one (a := a) (by omega) fun i hi hne => hz i (by omega) hne (by omega)]
      · rw [sum_two (a := a) (b := b) (by omega) (by omega) hab fun i hi h1 h2 => hz i (by omega) h1 h2, hz n (by omega) (by omega) (by omega)]
        omega
/-- the product of a functional and a vector -/
def dot (w : Nat) (c v : Nat → Int) : Int := sumN w fun i => c i * v i
theorem dot_lin (w : Nat) (a b : Int) (c d v : Nat → Int) : dot w (fun i => a * c i + b * d i) v = a * dot w c v + b * dot w d v := by
  unfold dot
  rw [← sum_lin]
  refine sum_congr fun i _ => ?_
  show (a * c i + b * d i) * v i = a * (c i * v i) + b * (d i * v i)
  rw [Int.add_mul, Int.mul_assoc, Int.mul_assoc]
theorem dot_scale {w : Nat} {g : Int} {c d v : Nat → Int} (h : ∀ i, g * d i = c i) : dot w c v = g * dot w d v := by
  have := dot_lin w g 0 d d v
  rw [Int.zero_mul, Int.add_zero] at this
  rw [← this]
  unfold dot
  refine sum_congr fun i _ => ?_
  show c i * v i = (g * d i + 0 * d i) * v i
  rw [← h i, Int.zero_mul, Int.add_zero]
theorem dot_scale_r {w : Nat} {g : Int} {c u v : Nat → Int} (h : ∀ i, g * v i = u i) : dot w c u = g * dot w c v := by
  have key := sum_lin g 0 (fun i => c i * v i) (fun _ => 0) w
  simp only [Int.zero_mul, Int.add_zero] at key
  unfold dot
  rw [← key]
  refine sum_congr fun i _ => ?_
  show c i * u i = g * (c i * v i)
  rw [← h i, Int.mul_left_comm]
/-- entry of a list -/
abbrev en (l : List Int) (i : Nat) : Int := l.getD i 0
def firstF : List Int → Option Nat
  | [] => none
  | x :: l => if x = 0 then (firstF l).map (· + 1) else some 0
theorem first_some : ∀ {l : List Int} {k : Nat}, firstF l = some k ↔ (en l k ≠ 0 ∧ ∀ i, i < k → en l i = 0)
  | [], k => by simp [firstF, en]
  | x :: l, k => by
    unfold firstF
    by_cases h : x = 0
    · rw [if_pos h]
      cases k with
      | zero => simp [en, h]
      | succ k =>
        rw [Option.map_eq_some_iff]
        constructor
        · rintro ⟨j, hj, e⟩
          have : j = k := by omega
          subst this
          obtain ⟨h1, h2⟩ := first_some.mp hj
          refine ⟨by simpa [en] using h1, fun i hi => ?_⟩
          cases i with
          | zero => simp [en, h]
          | succ i => have := h2 i (by omega); simpa [en] using this
        · rintro ⟨h1, h2⟩
          refine ⟨k, first_some.mpr ⟨by simpa [en] using h1, fun i hi => ?_⟩, rfl⟩
          have := h2 (i + 1) (by omega)
          simpa [en] using this
    · rw [if_neg h]
      constructor
      · intro e
        cases e
        exact ⟨by simpa [en] using h, fun i hi => by omega⟩
      · rintro ⟨h1, h2⟩
        cases k with
        | zero => rfl
        | succ k => exact absurd (by simpa [en] using h2 0 (by omega)) h
theorem first_none : ∀ {l : List Int}, firstF l = none ↔ ∀ i, en l i = 0
  | [] => by simp [firstF, en]
  | x :: l => by
    unfold firstF
    by_cases h : x = 0
    · rw [if_pos h, Option.map_eq_none_iff, first_none]
      constructor
      · intro hl i
        cases i with
        | zero => simp [en, h]
        | succ i => have := hl i; simpa [en] using this
      · intro hl i
        have := hl (i + 1)
        simpa [en] using this
    · rw [if_neg h]
      constructor
      · intro e; cases e
      · intro hl; exact absurd (by simpa [en] using hl 0) h
theorem first_lt {l : List Int} {k : Nat} (h : firstF l = some k) : k < l.length := by
  have := (first_some.mp h).1
  by_cases hk : k < l.length
  · exact hk
  · exact absurd (by simp [en, List.getD, List.getElem?_eq_none (by omega : l.length ≤ k)]) this
/-- one step of reduction by `other` -/
def Red (other row row' : List Int) : Prop := ∃ pl, firstF other = some pl ∧ ((en row pl = 0 ∧ row' = row) ∨ (en row pl ≠ 0 ∧ row'.length = row.length ∧ ∃ g, g ≠ 0 ∧ ∀ i, g * en row' i = en row i * en other pl - en row pl * en other i))
inductive Chain : List (List Int) → List Int → List Int → Prop
  | nil {r : List Int} : Chain [] r r
  | snoc {os : List (List Int)} {o r r' r'' : List Int} : Chain os r r' → Red o r' r'' → Chain (os ++ [o]) r r''
theorem Red.len {o r r' : List Int} (h : Red o r r') : r'.length = r.length := by
  obtain ⟨pl, _, ⟨_, rfl⟩ | ⟨_, h, _⟩⟩ := h
  · rfl
  · exact h
theorem Chain.len {os : List (List Int)} {r r' : List Int} (h : Chain os r r') : r'.length = r.length := by
  induction h with
  | nil => rfl
  | snoc _ h2 ih => rw [h2.len, ih]
theorem mul_cancel {g x : Int} (hg : g ≠ 0) (h : g * x = 0) : x = 0 := by
  rcases Int.mul_eq_zero.mp h with h | h
  · exact absurd h hg
  · exact h
theorem Red.null {w : Nat} {o r r' : List Int} {v : Nat → Int} (h : Red o r r') (h1 : dot w (en r) v = 0) (h2 : dot w (en o) v = 0) : dot w (en r') v = 0 := by
  obtain ⟨pl, _, ⟨_, rfl⟩ | ⟨_, _, g, hg, h⟩⟩ := h
  · exact h1
  · have e := dot_scale (w := w) (v := v) (c := fun i => en o pl * en r i + (-en r pl) * en o i) (d := en r') (g := g) fun i => by
      rw [h i, Int.mul_comm (en o pl), Int.neg_mul, Int.sub_eq_add_neg]
    rw [dot_lin, h1, h2, Int.mul_zero, Int.mul_zero] at e
    exact mul_cancel hg e.symm
theorem Chain.null {w : Nat} {os : List (List Int)} {r r' : List Int} {v : Nat → Int} (h : Chain os r r') (h1 : dot w (en r) v = 0) (h2 : ∀ o ∈ os, dot w (en o) v = 0) : dot w (en r') v = 0 := by
  induction h with
  | nil => exact h1
  | snoc _ hr ih => exact hr.null (ih h1 fun o ho => h2 o (by simp [ho])) (h2 _ (by simp))
/-- zero where `s` begins -/
def ZA (r s : List Int) : Prop := ∀ pl, firstF s = some pl → en r pl = 0
structure Sys (w : Nat) (own : List (List Int)) : Prop where
  len : ∀ r ∈ own, r.length = w
  fst : ∀ r ∈ own, ∃ pl, firstF r = some pl
  pair : own.Pairwise fun r s => ZA r s ∧ ZA s r
theorem Red.za {o r r' : List Int} (h : Red o r r') : ZA r' o := by
  intro q hq
  obtain ⟨pl, hp, h⟩ := h
  rw [hp] at hq
  have e : q = pl := (Option.some.inj hq).symm
  rw [e]
  rcases h with ⟨h, rfl⟩ | ⟨_, _, g, hg, h⟩
  · exact h
  · refine mul_cancel hg ?_
    rw [h pl]
    omega
theorem Red.za_keep {o r r' s : List Int} (h : Red o r r') (h1 : ZA r s) (h2 : ZA o s) : ZA r' s := by
  intro q hq
  obtain ⟨pl, hp, h⟩ := h
  rcases h with ⟨h, rfl⟩ | ⟨_, _, g, hg, h⟩
  · exact h1 q hq
  · refine mul_cancel hg ?_
    rw [h q, h1 q hq, h2 q hq]
    simp
theorem Chain.za {os : List (List Int)} {r r' : List Int} (h : Chain os r r') (hp : os.Pairwise fun r s => ZA r s ∧ ZA s r) : ∀ o ∈ os, ZA r' o := by
  induction h with
  | nil => simp
  | snoc _ hr ih =>
    rename_i os o a b c _
    rw [List.pairwise_append] at hp
    intro x hx
    rcases List.mem_append.mp hx with hx | hx
    · exact hr.za_keep (ih hp.1 x hx) (hp.2.2 x hx o (by simp)).2
    · rw [List.mem_singleton.mp hx]
      exact hr.za
theorem Red.first {o r r' : List Int} (h : Red o r r') {pl : Nat} (hr : firstF r = some pl) (hz : en o pl = 0) : firstF r' = some pl := by
  obtain ⟨q, hq, h⟩ := h
  rcases h with ⟨_, rfl⟩ | ⟨hn, _, g, hg, h⟩
  · exact hr
  · obtain ⟨r1, r2⟩ := first_some.mp hr
    obtain ⟨o1, o2⟩ := first_some.mp hq
    have hqp : pl < q := by
      rcases Nat.lt_trichotomy pl q with h | h | h
      · exact h
      · subst h; exact absurd hz o1
      · exact absurd (r2 q h) hn
    refine first_some.mpr ⟨fun e => ?_, fun i hi => ?_⟩
    · have := h pl
      rw [e, hz, Int.mul_zero, Int.mul_zero, Int.sub_zero] at this
      rcases Int.mul_eq_zero.mp this.symm with h | h
      · exact r1 h
      · exact o1 h
    · refine mul_cancel hg ?_
      rw [h i, r2 i hi, o2 i (by omega)]
      simp
/-- the step of elimination -/
theorem Sys.add {w : Nat} {own own' : List (List Int)} {row : List Int} {q : Nat} (h : Sys w own) (hrl : row.length = w) (hq : firstF row = some q) (hz : ∀ o ∈ own, ZA row o) (hm : own'.length = own.length) (hr : ∀ i (h1 : i < own.length) (h2 : i < own'.length), Red row own[i] own'[i]) : Sys w (own' ++ [row]) := by
  have fst : ∀ i (h1 : i < own.length) (h2 : i < own'.length), ∀ pl, firstF own[i] = some pl → firstF own'[i] = some pl := fun i h1 h2 pl hp =>
    (hr i h1 h2).first hp (hz _ (List.getElem_mem h1) pl hp)
  have fst' : ∀ i (h1 : i < own.length) (h2 : i < own'.length), ∀ pl, firstF own'[i] = some pl → firstF own[i] = some pl := fun i h1 h2 pl hp => by
    obtain ⟨p, hp2⟩ := h.fst _ (List.getElem_mem h1)
    rw [fst i h1 h2 p hp2] at hp
    rw [hp2, hp]
  have zr : ∀ i (h1 : i < own.length) (h2 : i < own'.length), ZA row own'[i] := fun i h1 h2 pl hp => hz _ (List.getElem_mem h1) pl (fst' i h1 h2 pl hp)
  refine ⟨fun r hr' => ?_, fun r hr' => ?_, ?_⟩
  · rcases List.mem_append.mp hr' with hr' | hr'
    · obtain ⟨i, hi, rfl⟩ := List.getElem_of_mem hr'
      rw [(hr i (by omega) hi).len]
      exact h.len _ (List.getElem_mem _)
    · rw [List.mem_singleton.mp hr']; exact hrl
  · rcases List.mem_append.mp hr' with hr' | hr'
    · obtain ⟨i, hi, rfl⟩ := List.getElem_of_mem hr'
      obtain ⟨p, hp⟩ := h.fst _ (List.getElem_mem (show i < own.length by omega))
      exact ⟨p, fst i (by omega) hi p hp⟩
    · rw [List.mem_singleton.mp hr']; exact ⟨q, hq⟩
  · rw [List.pairwise_append]
    refine ⟨?_, by simp, fun r hr' s hs => ?_⟩
    · rw [List.pairwise_iff_getElem]
      intro i j hi hj hij
      have hp := List.pairwise_iff_getElem.mp h.pair i j (by omega) (by omega) hij
      refine ⟨fun pl hpl => ?_, fun pl hpl => ?_⟩
      · have e := fst' j (by omega) hj pl hpl
        exact (hr i (by omega) hi).za_keep hp.1 (hz _ (List.getElem_mem _)) pl e
      · have e := fst' i (by omega) hi pl hpl
        exact (hr j (by omega) hj).za_keep hp.2 (hz _ (List.getElem_mem _)) pl e
    · rw [List.mem_singleton.mp hs]
      obtain ⟨i, hi, rfl⟩ := List.getElem_of_mem hr'
      exact ⟨(hr i (by omega) hi).za, zr i (by omega) hi⟩
/-- a functional, reduced by a system -/
theorem cred {w : Nat} : ∀ {own : List (List Int)}, Sys w own → ∀ c : Nat → Int, ∃ (c' : Nat → Int) (Q : Int), Q ≠ 0 ∧ (∀ v, (∀ r ∈ own, dot w (en r) v = 0) → dot w c' v = Q * dot w c v) ∧ ∀ r ∈ own, ∀ pl, firstF r = some pl → c' pl = 0
  | [], _, c => ⟨c, 1, by decide, fun v _ => by rw [Int.one_mul], by simp⟩
  | r :: own, h, c => by
    have hp := List.pairwise_cons.mp h.pair
    obtain ⟨c1, Q1, q1, e1, z1⟩ := cred (own := own) ⟨fun r hr => h.len r (by simp [hr]), fun r hr => h.fst r (by simp [hr]), hp.2⟩ c
    obtain ⟨pl, hpl⟩ := h.fst r (by simp)
    have hn := (first_some.mp hpl).1
    refine ⟨fun i => en r pl * c1 i + (-c1 pl) * en r i, Q1 * en r pl, Int.mul_ne_zero q1 hn, fun v hv => ?_, fun s hs q hq => ?_⟩
    · rw [dot_lin, e1 v fun r hr => hv r (by simp [hr]), hv r (by simp), Int.mul_zero, Int.add_zero, ← Int.mul_assoc, Int.mul_comm (en r pl)]
    · rcases List.mem_cons.mp hs with rfl | hs
      · rw [hpl] at hq
        have e : q = pl := (Option.some.inj hq).symm
        rw [e]
        show en s pl * c1 pl + -c1 pl * en s pl = 0
        rw [Int.neg_mul, Int.mul_comm (en s pl)]
        omega
      · show en r pl * c1 q + -c1 pl * en r q = 0
        rw [z1 s hs q hq, (hp.1 s hs).1 q hq]
        simp
/-- the solution that belongs to a free place -/
def IsSol (w : Nat) (own : List (List Int)) (f : Nat) (u : Nat → Int) : Prop := u f ≠ 0 ∧ (∀ r ∈ own, ∀ pl, firstF r = some pl → u pl * en r pl = -en r f * u f) ∧ ∀ i, i < w → i ≠ f → (∀ r ∈ own, firstF r ≠ some i) → u i = 0
theorem pair_za {w : Nat} {own : List (List Int)} (h : Sys w own) {r s : List Int} (hr : r ∈ own) (hs : s ∈ own) {p q : Nat} (hp : firstF r = some p) (hq : firstF s = some q) (hne : p ≠ q) : en r q = 0 := by
  obtain ⟨i, hi, rfl⟩ := List.getElem_of_mem hr
  obtain ⟨j, hj, rfl⟩ := List.getElem_of_mem hs
  have hij : i ≠ j := fun e => by
    subst e
    rw [hp] at hq
    cases hq
    exact hne rfl
  rcases Nat.lt_or_gt_of_ne hij with h1 | h1
  · exact (List.pairwise_iff_getElem.mp h.pair i j hi hj h1).1 q hq
  · exact (List.pairwise_iff_getElem.mp h.pair j i hj hi h1).2 q hq
theorem sol_null {w : Nat} {own : List (List Int)} (h : Sys w own) {f : Nat} {u : Nat → Int} (hf : f < w) (hfree : ∀ r ∈ own, firstF r ≠ some f) (hu : IsSol w own f u) : ∀ r ∈ own, dot w (en r) u = 0 := by
  intro r hr
  obtain ⟨pl, hpl⟩ := h.fst r hr
  have hlt : pl < w := by rw [← h.len r hr]; exact first_lt hpl
  have hne : pl ≠ f := fun e => hfree r hr (by rw [hpl, e])
  unfold dot
  rw [sum_two (a := pl) (b := f) hlt hf hne fun i hi h1 h2 => ?_]
  · have := hu.2.1 r hr pl hpl
    rw [Int.mul_comm (en r pl), this, Int.neg_mul]
    omega
  · by_cases hi' : ∀ s ∈ own, firstF s ≠ some i
    · rw [hu.2.2 i hi h2 hi', Int.mul_zero]
    · have : ∃ s, s ∈ own ∧ firstF s = some i := by
        refine Classical.byContradiction fun hc => hi' fun s hs e => hc ⟨s, hs, e⟩
      obtain ⟨s, hs, e⟩ := this
      rw [pair_za h hr hs hpl e (fun e => h1 e.symm), Int.zero_mul]
/-- THE SPAN: a functional that is nothing at each solution is nothing at each drawing -/
theorem span {w : Nat} {own : List (List Int)} (h : Sys w own) {c : Nat → Int} (hs : ∀ f, f < w → (∀ r ∈ own, firstF r ≠ some f) → ∃ u, IsSol w own f u ∧ dot w c u = 0) {v : Nat → Int} (hv : ∀ r ∈ own, dot w (en r) v = 0) : dot w c v = 0 := by
  obtain ⟨c', Q, hQ, e, z⟩ := cred h c
  have zero : ∀ i, i < w → c' i = 0 := by
    intro i hi
    by_cases hi' : ∀ s ∈ own, firstF s ≠ some i
    · obtain ⟨u, hu, hc⟩ := hs i hi hi'
      have e1 := e u (sol_null h hi hi' hu)
      rw [hc, Int.mul_zero] at e1
      unfold dot at e1
      rw [sum_one (a := i) hi fun j hj hne => ?_] at e1
      · rcases Int.mul_eq_zero.mp e1 with h | h
        · exact h
        · exact absurd h hu.1
      · by_cases hj' : ∀ s ∈ own, firstF s ≠ some j
        · rw [hu.2.2 j hj hne hj', Int.mul_zero]
        · have : ∃ s, s ∈ own ∧ firstF s = some j := Classical.byContradiction fun hc => hj' fun s hs e => hc ⟨s, hs, e⟩
          obtain ⟨s, hs, e⟩ := this
          rw [z s hs j e, Int.zero_mul]
    · have : ∃ s, s ∈ own ∧ firstF s = some i := Classical.byContradiction fun hc => hi' fun s hs e => hc ⟨s, hs, e⟩
      obtain ⟨s, hs, e⟩ := this
      exact z s hs i e
  have e2 := e v hv
  have : dot w c' v = 0 := sum_zero fun i hi => by rw [zero i hi, Int.zero_mul]
  rw [this] at e2
  exact mul_cancel hQ e2.symm
end Lin

/-! Deep values, a small code, its interpreter. -/
namespace Q7
open PySem

/-- deep values -/
inductive D where
  | none | bool (b : Bool) | int (i : Int) | str (s : Str)
  | list (ds : List D) | tup (ds : List D)
  | ref (k : Nat) | scr | edict | exc (c : Nat)
deriving Inhabited

/-- a state object -/
inductive SO where
  | town (xs : List Int)
abbrev Sta := List SO

inductive Res (α : Type) where
  | ok (a : α) (s : Sta) | exc (c : Nat) (s : Sta) | bad

abbrev M (α : Type) := Sta → Res α
def ret {α : Type} (a : α) : M α := fun s => .ok a s
def bad {α : Type} : M α := fun _ => .bad
def raise {α : Type} (c : Nat) : M α := fun s => .exc c s
def Res.bind {α β : Type} (r : Res α) (f : α → Sta → Res β) : Res β := match r with
  | .ok a s => f a s
  | .exc c s => .exc c s
  | .bad => .bad
def bind {α β : Type} (m : M α) (f : α → M β) : M β := fun s => (m s).bind f
instance : Monad M where
  pure := ret
  bind := bind
def lift {α : Type} (o : Option α) : M α := match o with
  | some a => ret a
  | .none => bad

abbrev Fn := List D → M D

inductive Slot where
  | un | val (d : D) | own (ds : List D)
deriving Inhabited
abbrev Env := List Slot

/-! ### the code -/
inductive BOp where
  | add | sub | mul | fdiv | mod | pow
deriving DecidableEq
inductive COp where
  | eq | ne | lt | le | gt | ge | is | isnot | inn | notin
deriving DecidableEq
inductive Ty where
  | int | bool | str | list | tuple | dict
deriving DecidableEq
/-- built-in functions of one argument or two -/
inductive Blt where
  | len | abs | list | tuple | any | all | int | str | max2 | min2 | sorted
deriving DecidableEq
inductive Mth where
  | partition | split | join | endswith | index | count
deriving DecidableEq

mutual
inductive Tg where
  | name (i : Nat) | tup (ts : Tgs)
inductive Tgs where
  | nil | cons (t : Tg) (ts : Tgs)
end

mutual
inductive CE where
  | var (i : Nat) | bv (i : Nat)
  | int (i : Int) | bl (b : Bool) | non | str (s : Str)
  | bin (o : BOp) (a b : CE)
  | neg (a : CE)
  | not (a : CE)
  | and (es : CEs) | or (es : CEs)
  | ite (t : CT) (a b : CE)
  | cmp (o : COp) (a b : CE)
  | chain (o p : COp) (a b c : CE)
  | tup (es : CEs) | lst (es : CEs)
  | idx (a b : CE)
  | slc (a : CE) (lo hi : CO)
  | call (f : Nat) (es : CEs)
  | blt (b : Blt) (es : CEs)
  | listRng (a b : CO) | tupRng (a b : CO)
  | isi (a : CE) (t : Ty)
  | isx (a : CE) (k : Option Nat)
  | edict
  | meth (m : Mth) (a : CE) (es : CEs)
  | comp (vs : List (Str × Nat)) (tg : Tg) (it : CI) (ifs : COT) (elt : CE)
  | comp2 (vs : List (Str × Nat)) (tg : Tg) (it : CI) (ifs : COT) (vs2 : List Nat) (tg2 : Tg) (it2 : CI) (ifs2 : COT) (elt : CE)
  | fstr (es : CEs)
inductive CT where
  | val (e : CE) | cmp (o : COp) (a b : CE) | chain (o p : COp) (a b c : CE)
  | and (ts : CTs) | or (ts : CTs) | not (a : CT)
inductive CI where
  | seq (e : CE) | rng1 (a : CE) | rng2 (a b : CE) | rng3 (a b c : CE) | enm (e : CE) | zip (a b : CE)
inductive CEs where
  | nil | cons (e : CE) (es : CEs)
inductive CTs where
  | nil | cons (t : CT) (ts : CTs)
inductive CO where
  | non | som (e : CE)
inductive COT where
  | non | som (t : CT)
end

mutual
inductive CS where
  | set (i : Nat) (e : CE) | setO (i : Nat) (e : CE) | frz (i : Nat)
  | par (ts : List (Bool × Tg)) (es : CEs)
  | unp (t : Tg) (e : CE)
  | app (i : Nat) (e : CE) | put (i : Nat) (k e : CE)
  | expr (e : CE)
  | ret (e : CE) | rais (c : Nat) (m : Str)
  | tryh (r c er f : Nat) (es : CEs)
  | ite (t : CT) (a b : CSs)
  | for_ (t : Tg) (it : CI) (b : CSs)
  | whl (t : CT) (b : CSs)
inductive CSs where
  | nil | cons (s : CS) (ss : CSs)
end

/-! ### operations on values -/
def sizeOk (n : Nat) : Bool := decide (n ≤ 1000000)
def mulOk (i j : Int) : Bool := decide (i.natAbs.log2 + j.natAbs.log2 < 1000000)
def divOk (j : Int) : Bool := decide (j ≠ 0) && decide (j.natAbs.log2 < 9000)

def rep (ds : List D) (n : Nat) : List D := (List.replicate n ds).flatten

def binop : BOp → D → D → Option D
  | .add, .int i, .int j => some (.int (i + j))
  | .add, .str x, .str y => if sizeOk (x.length + y.length) then some (.str (x ++ y)) else none
  | .add, .list xs, .list ys => if sizeOk (xs.length + ys.length) then some (.list (xs ++ ys)) else none
  | .add, .tup xs, .tup ys => if sizeOk (xs.length + ys.length) then some (.tup (xs ++ ys)) else none
  | .sub, .int i, .int j => some (.int (i - j))
  | .mul, .int i, .int j => if mulOk i j then some (.int (i * j)) else none
  | .mul, .list xs, .int k => if decide (0 ≤ k) && decide (k ≤ 1000) && decide (xs.length ≤ 1000) then some (.list (rep xs k.toNat)) else none
  | .mul, .tup xs, .int k => if decide (2 ≤ k) && decide (k ≤ 1000) && decide (xs.length ≤ 1000) && !xs.isEmpty then some (.tup (rep xs k.toNat)) else none
  | .fdiv, .int i, .int j => if divOk j then some (.int (i.fdiv j)) else none
  | .mod, .int i, .int j => if j = 0 then none else some (.int (i.fmod j))
  | .pow, .int i, .int j => if decide (0 ≤ j) && decide (j ≤ 1000) && decide (i.natAbs < 2 ^ 64) then some (.int (i ^ j.toNat)) else none
  | _, _, _ => none

/-- the data that == compares: no state objects, below a depth -/
def okD : Nat → D → Bool
  | _, .none | _, .bool _ | _, .int _ => true
  | _, .str x => PyData.strOk x
  | n + 1, .list ds | n + 1, .tup ds => ds.all (okD n)
  | _, _ => false
mutual
def pyd : D → PyData
  | .bool b => .bool b
  | .int i => .int i
  | .str s => .str s
  | .list ds => .list (pyds ds)
  | .tup ds => .tuple (pyds ds)
  | _ => .none
def pyds : List D → List PyData
  | [] => []
  | d :: ds => pyd d :: pyds ds
end
def eqD (a b : D) : Bool := PyData.eqv (pyd a) (pyd b)
def eqO (a b : D) : Option Bool := if okD 60 a && okD 60 b then some (eqD a b) else none

/-- may the two be compared by <? -/
def cmpOk (a b : D) : Bool := okD 50 a && okD 50 b && PySem.W.alike (pyd a) (pyd b) && (match a with | .none => false | _ => true)
def ltD (a b : D) : Bool := PySem.W.dataLt (pyd a) (pyd b)

def memO (x : D) (ds : List D) : Option Bool := if okD 60 x && ds.all (okD 59) then some (ds.any fun z => eqD z x) else none

def cmpop : COp → D → D → Option Bool
  | .eq, a, b => eqO a b
  | .ne, a, b => (eqO a b).map (!·)
  | .lt, .int i, .int j => some (decide (i < j))
  | .lt, .tup xs, .tup ys => if cmpOk (.tup xs) (.tup ys) then some (ltD (.tup xs) (.tup ys)) else none
  | .le, .int i, .int j => some (decide (i ≤ j))
  | .le, .tup xs, .tup ys => if cmpOk (.tup xs) (.tup ys) then some (!ltD (.tup ys) (.tup xs)) else none
  | .gt, .int i, .int j => some (decide (j < i))
  | .ge, .int i, .int j => some (decide (j ≤ i))
  | .is, a, .none => some (match a with | .none => true | _ => false)
  | .is, .bool a, .bool b => some (decide (a = b))
  | .isnot, a, .none => some (match a with | .none => false | _ => true)
  | .isnot, .bool a, .bool b => some (!decide (a = b))
  | .inn, .str x, .str z => (match x.cps.toList with
    | [c] => some (decide (c ∈ z.cps.toList))
    | _ => none)
  | .inn, x, .list ds => memO x ds
  | .inn, x, .tup ds => memO x ds
  | .notin, x, .list ds => (memO x ds).map (!·)
  | .notin, x, .tup ds => (memO x ds).map (!·)
  | _, _, _ => none

def truth : D → Option Bool
  | .none => some false
  | .bool b => some b
  | .int i => some (i != 0)
  | .str s => if sizeOk s.length then some ((s.length : Int) != 0) else none
  | .list ds => some (!ds.isEmpty)
  | .tup ds => some (!ds.isEmpty)
  | _ => none

/-- the place of an index -/
def at' (xs : List D) (i : Int) : Option D := L2.atI xs i
def getitem : D → D → Option D
  | .list xs, .int i => at' xs i
  | .tup xs, .int i => at' xs i
  | .str z, .int i => if sizeOk z.length then (L2.atI z.cps.toList i).map fun c => .str ⟨#[c]⟩ else none
  | _, _ => none
def cut {α : Type} (xs : List α) (lo hi : Option Int) : List α := (xs.drop (HT.sIx xs.length 0 lo)).take (HT.sIx xs.length xs.length hi - HT.sIx xs.length 0 lo)
def slice : D → Option Int → Option Int → Option D
  | .list xs, lo, hi => some (.list (cut xs lo hi))
  | .tup xs, lo, hi => some (.tup (cut xs lo hi))
  | .str z, lo, hi => if sizeOk z.length then some (.str (L2.cutS z lo hi)) else none
  | _, _, _ => none
def setitem (xs : List D) (i : Int) (d : D) : Option (List D) := (L2.ixN xs.length i).map fun j => xs.set j d

def isTy : D → Ty → Option Bool
  | .none, _ => some false
  | .bool _, .bool => some true
  | .bool _, .int => some true
  | .bool _, _ => some false
  | .int _, t => some (t == .int)
  | .str _, t => some (t == .str)
  | .list _, t => some (t == .list)
  | .tup _, t => some (t == .tuple)
  | .edict, t => some (t == .dict)
  | _, _ => none

/-- of an own class (by number), or of ValueError -/
def isX : D → Option Nat → Option Bool
  | .exc _, none => some true
  | .exc c, some k => some (decide (c = k))
  | _, _ => none
def iseq : D → Option (List D)
  | .list ds => some ds
  | .tup ds => some ds
  | .str z => some (z.cps.toList.map fun c => .str ⟨#[c]⟩)
  | _ => none
def iseqLT : D → Option (List D)
  | .list ds => some ds
  | .tup ds => some ds
  | _ => none

def strsOf : List D → Option (List Str)
  | [] => some []
  | .str s :: r => (strsOf r).map (s :: ·)
  | _ => none

def truths : List D → Option (List Bool)
  | [] => some []
  | .bool b :: r => (truths r).map (b :: ·)
  | .int i :: r => (truths r).map ((i != 0) :: ·)
  | _ => none

def max4 (i j k l : Int) : Int := let a := if j > i then j else i; let b := if k > a then k else a; if l > b then l else b
def isTup1 : D → Bool
  | .tup (_ :: _) => true
  | _ => false
def notTup : D → Bool
  | .bool _ | .int _ | .str _ | .list _ => true
  | _ => false
def blt : Blt → List D → Option D
  | .len, [.list ds] => some (.int ds.length)
  | .len, [.tup ds] => some (.int ds.length)
  | .len, [.str s] => if sizeOk s.length then some (.int s.length) else none
  | .abs, [.int i] => some (.int (if i < 0 then -i else i))
  | .list, [.list ds] => some (.list ds)
  | .list, [.tup ds] => some (.list ds)
  | .list, [.str z] => if sizeOk z.length then some (.list (z.cps.toList.map fun c => .str ⟨#[c]⟩)) else none
  | .tuple, [.list ds] => some (.tup ds)
  | .tuple, [.tup ds] => some (.tup ds)
  | .any, [.list ds] => (truths ds).map fun bs => .bool (bs.any id)
  | .all, [.list ds] => (truths ds).map fun bs => .bool (bs.all id)
  | .int, [.int i] => some (.int i)
  | .int, [.bool b] => some (.int (if b then 1 else 0))
  | .int, [.str s] => if decide (s.length ≤ 640) then (PySem.intText? s).map .int else none
  | .str, [.int i] => if decide (i.natAbs.log2 < 1920) then some (.str (toString i)) else none
  | .max2, [.int i, .int j] => some (.int (if j > i then j else i))
  | .max2, [.int i, .int j, .int k, .int l] => some (.int (max4 i j k l))
  | .min2, [.int i, .int j] => some (.int (if j < i then j else i))
  | .sorted, [.list ds] => if sizeOk ds.length && ds.all (okD 50) && ds.all (fun a => ds.all fun b => PySem.W.alike (pyd a) (pyd b)) && (ds.all isTup1 || ds.all notTup) then some (.list (ds.mergeSort (PySem.W.dataLe false pyd))) else none
  | _, _ => none

def boolsOf : List D → Option (List Bool)
  | [] => some []
  | .bool b :: r => (boolsOf r).map (b :: ·)
  | _ => none
def idxOf (x : D) : List D → Option Nat
  | [] => none
  | y :: ys => if eqD y x then some 0 else (idxOf x ys).map (· + 1)

def meth : Mth → D → List D → Option D
  | .partition, .str a, [.str b] => if b.length == 0 || !sizeOk a.length then none else
      let (x, y, z) := Txt.partition a b
      some (.tup [.str x, .str y, .str z])
  | .split, .str a, [.str b] => if b.length == 0 || !sizeOk a.length then none else some (.list ((Txt.split a b).map .str))
  | .join, .str a, [.list ds] => match strsOf ds with
      | some ys => if sizeOk ((ys.map (·.length)).sum + ys.length * a.length) then some (.str (Txt.join a ys)) else none
      | none => none
  | .endswith, .str a, [.str b] => some (.bool (Txt.endswith a b))
  | .count, .list ds, [.bool b] => (boolsOf ds).map fun bs => .int (bs.count b : Nat)
  | .index, .list ds, [x] => if okD 60 x && ds.all (okD 59) then (idxOf x ds).map (fun (j : Nat) => D.int ((j : Nat) : Int)) else none
  | _, _, _ => none

def mthOkT : Mth → D → Bool
  | .index, .list _ | .count, .list _ => true
  | .index, _ | .count, _ => false
  | _, .str _ => true
  | _, _ => false
def fmt : D → Option Str
  | .str y => if sizeOk y.length then some y else none
  | .int i => if decide (i.natAbs.log2 < 1920) then some (toString i) else none
  | _ => none

/-! ### the interpreter -/
mutual
def unpack : Tg → D → Env → Option Env
  | .name i, d, env => match env[i]? with
    | some (.own _) => none
    | some _ => some (env.set i (.val d))
    | none => none
  | .tup ts, d, env => match iseqLT d with
    | some ds => unpacks ts ds env
    | none => none
def unpacks : Tgs → List D → Env → Option Env
  | .nil, [], env => some env
  | .cons t ts, d :: ds, env => match unpack t d env with
    | some env' => unpacks ts ds env'
    | none => none
  | _, _, _ => none
end

def getv (env : Env) (i : Nat) : Option D := match env[i]? with
  | some (.val d) => some d
  | _ => none
def getb (env : Env) (i : Nat) : Option D := match env[i]? with
  | some (.val d) => some d
  | some (.own ds) => some (.list ds)
  | _ => none
def wipeE (env : Env) : List Nat → Env
  | [] => env
  | v :: vs => (wipeE env vs).set v .un
def rangeD (a b : Int) : List D := (List.range (b - a).toNat).map fun k => .int (a + (k : Nat))
def rngOk (a b : Int) : Bool := decide (-1000000 ≤ a) && decide (a ≤ 1000000) && decide (-1000000 ≤ b) && decide (b ≤ 1000000)
def enumD (ds : List D) : List D := ds.zipIdx.map fun p => .tup [.int (p.2 : Nat), p.1]
def zipD (xs ys : List D) : List D := (xs.zip ys).map fun p => .tup [p.1, p.2]
def enumO : D → Option (List D)
  | .list ds => some (enumD ds)
  | _ => none
def zipO : D → D → Option (List D)
  | .list xs, .list ys => some (zipD xs ys)
  | .tup xs, .tup ys => some (zipD xs ys)
  | _, _ => none
def rng1O : D → Option (List D)
  | .int j => if rngOk 0 j then some (rangeD 0 j) else none
  | _ => none
def rng2O : D → D → Option (List D)
  | .int i, .int j => if rngOk i j then some (rangeD i j) else none
  | _, _ => none
def rng3O : D → D → D → Option (List D)
  | .int i, .int j, .int k => if decide (i = 0) && decide (k = 2) && rngOk 0 j then some ((List.range ((j + 1).toNat / 2)).map fun k => .int (2 * (k : Nat))) else none
  | _, _, _ => none
/-- no exception leaves -/
def noexc {α : Type} (m : M α) : M α := fun s => match m s with
  | .ok a s' => .ok a s'
  | _ => .bad

/-- a comprehension's loop -/
def compLoop (body : D → M (List D)) : List D → M (List D)
  | [] => ret []
  | d :: ds => bind (body d) fun xs => bind (compLoop body ds) fun ys => ret (xs ++ ys)

section
variable (T : List Fn)
mutual
def ev : CE → Env → M D
  | .var i, env => lift (getv env i)
  | .bv i, env => lift (getb env i)
  | .int i, _ => ret (.int i)
  | .bl b, _ => ret (.bool b)
  | .non, _ => ret .none
  | .str s, _ => ret (.str s)
  | .bin o a b, env => bind (ev a env) fun x => bind (ev b env) fun y => lift (binop o x y)
  | .neg a, env => bind (ev a env) fun x => match x with
    | .int i => ret (.int (-i))
    | _ => bad
  | .not a, env => bind (ev a env) fun x => bind (lift (truth x)) fun b => ret (.bool (!b))
  | .and es, env => evAnd es env
  | .or es, env => evOr es env
  | .ite t a b, env => bind (evT t env) fun c => if c then ev a env else ev b env
  | .cmp o a b, env => bind (ev a env) fun x => bind (ev b env) fun y => lift ((cmpop o x y).map .bool)
  | .chain o p a b c, env => bind (ev a env) fun x => bind (ev b env) fun y => bind (lift (cmpop o x y)) fun k =>
      if k then bind (ev c env) fun z => lift ((cmpop p y z).map .bool) else ret (.bool false)
  | .tup es, env => bind (evs es env) fun ds => if sizeOk ds.length then ret (.tup ds) else bad
  | .lst es, env => bind (evs es env) fun ds => if sizeOk ds.length then ret (.list ds) else bad
  | .idx a b, env => bind (ev a env) fun x => bind (ev b env) fun y => lift (getitem x y)
  | .slc a lo hi, env => bind (ev a env) fun x => bind (evO lo env) fun l => bind (evO hi env) fun h => lift (slice x l h)
  | .call f es, env => bind (evs es env) fun ds => match T[f]? with
    | some F => F ds
    | none => bad
  | .blt b es, env => bind (evs es env) fun ds => lift (blt b ds)
  | .listRng a b, env => bind (evO a env) fun x => bind (evO b env) fun y => match x, y with
    | none, some j => if rngOk 0 j then ret (.list (rangeD 0 j)) else bad
    | some i, some j => if rngOk i j then ret (.list (rangeD i j)) else bad
    | _, _ => bad
  | .tupRng a b, env => bind (evO a env) fun x => bind (evO b env) fun y => match x, y with
    | none, some j => if rngOk 0 j then ret (.tup (rangeD 0 j)) else bad
    | some i, some j => if rngOk i j then ret (.tup (rangeD i j)) else bad
    | _, _ => bad
  | .isi a t, env => bind (ev a env) fun x => lift ((isTy x t).map .bool)
  | .isx a k, env => bind (ev a env) fun x => lift ((isX x k).map .bool)
  | .edict, _ => ret .edict
  | .meth m a es, env => bind (ev a env) fun x => if mthOkT m x then bind (evs es env) fun ds => lift (meth m x ds) else bad
  | .comp vs tg it ifs elt, env => bind (evI it env) fun ds =>
      bind (noexc (compLoop (fun d => match unpack tg d (wipeE env (vs.map (·.2))) with
        | none => bad
        | some env' => bind (evOT ifs env') fun c => if c then bind (ev elt env') fun y => ret [y] else ret []) ds)) fun ys => if sizeOk ys.length then ret (.list ys) else bad
  | .comp2 vs tg it ifs vs2 tg2 it2 ifs2 elt, env => bind (evI it env) fun ds =>
      bind (noexc (compLoop (fun d => match unpack tg d (wipeE env (vs.map (·.2))) with
        | none => bad
        | some env1 => bind (evOT ifs env1) fun c => if c then bind (evI it2 env1) fun es =>
            compLoop (fun e => match unpack tg2 e (wipeE env1 vs2) with
              | none => bad
              | some env2 => bind (evOT ifs2 env2) fun c2 => if c2 then bind (ev elt env2) fun y => ret [y] else ret []) es else ret []) ds)) fun ys => if sizeOk ys.length then ret (.list ys) else bad
  | .fstr es, env => bind (evJ es Str.empty env) fun y => ret (.str y)
def evs : CEs → Env → M (List D)
  | .nil, _ => ret []
  | .cons e es, env => bind (ev e env) fun x => bind (evs es env) fun xs => ret (x :: xs)
def evJ : CEs → Str → Env → M Str
  | .nil, acc, _ => ret acc
  | .cons e es, acc, env => bind (ev e env) fun x => bind (lift (fmt x)) fun y => if sizeOk (acc.length + y.length) then evJ es (acc ++ y) env else bad
def evAnd : CEs → Env → M D
  | .nil, _ => bad
  | .cons e .nil, env => ev e env
  | .cons e (.cons e2 es), env => bind (ev e env) fun x => bind (lift (truth x)) fun b => if b then evAnd (.cons e2 es) env else ret x
def evOr : CEs → Env → M D
  | .nil, _ => bad
  | .cons e .nil, env => ev e env
  | .cons e (.cons e2 es), env => bind (ev e env) fun x => bind (lift (truth x)) fun b => if b then ret x else evOr (.cons e2 es) env
def evTAnd : CTs → Env → M Bool
  | .nil, _ => bad
  | .cons t .nil, env => evT t env
  | .cons t (.cons t2 ts), env => bind (evT t env) fun x => if x then evTAnd (.cons t2 ts) env else ret false
def evTOr : CTs → Env → M Bool
  | .nil, _ => bad
  | .cons t .nil, env => evT t env
  | .cons t (.cons t2 ts), env => bind (evT t env) fun x => if x then ret true else evTOr (.cons t2 ts) env
def evT : CT → Env → M Bool
  | .val e, env => bind (ev e env) fun x => lift (truth x)
  | .cmp o a b, env => bind (ev a env) fun x => bind (ev b env) fun y => lift (cmpop o x y)
  | .chain o p a b c, env => bind (ev a env) fun x => bind (ev b env) fun y => bind (lift (cmpop o x y)) fun k =>
      if k then bind (ev c env) fun z => lift (cmpop p y z) else ret false
  | .and ts, env => evTAnd ts env
  | .or ts, env => evTOr ts env
  | .not a, env => bind (evT a env) fun x => ret (!x)
def evI : CI → Env → M (List D)
  | .seq e, env => bind (ev e env) fun x => lift (iseq x)
  | .rng1 a, env => bind (ev a env) fun x => lift (rng1O x)
  | .rng2 a b, env => bind (ev a env) fun x => bind (ev b env) fun y => lift (rng2O x y)
  | .rng3 a b c, env => bind (ev a env) fun x => bind (ev b env) fun y => bind (ev c env) fun z => lift (rng3O x y z)
  | .enm e, env => bind (ev e env) fun x => lift (enumO x)
  | .zip a b, env => bind (ev a env) fun x => bind (ev b env) fun y => lift (zipO x y)
def evO : CO → Env → M (Option Int)
  | .non, _ => ret none
  | .som e, env => bind (ev e env) fun x => match x with
    | .int i => ret (some i)
    | _ => bad
def evOT : COT → Env → M Bool
  | .non, _ => ret true
  | .som t, env => evT t env
end

/-- how a statement ends -/
inductive End where
  | nx (env : Env) | rt (d : D)
def forLoop (body : D → Env → M End) : List D → Env → M End
  | [], env => ret (.nx env)
  | d :: ds, env => bind (body d env) fun e => match e with
    | .nx env' => forLoop body ds env'
    | .rt v => ret (.rt v)
def whileLoop (test : Env → M Bool) (body : Env → M End) : Nat → Env → M End
  | 0, _ => bad
  | n + 1, env => bind (test env) fun c => if c then bind (body env) fun e => (match e with
    | .nx env' => whileLoop test body n env'
    | .rt v => ret (.rt v)) else ret (.nx env)
def store1 : Bool × Tg → D → Env → Option Env
  | (true, .name i), .list xs, env => if i < env.length then some (env.set i (.own xs)) else none
  | (false, .name i), d, env => if i < env.length then some (env.set i (.val d)) else none
  | (false, .tup ts), d, env => unpack (.tup ts) d env
  | _, _, _ => none
def storePar : List (Bool × Tg) → List D → Env → Option Env
  | [], [], env => some env
  | t :: ts, d :: ds, env => match store1 t d env with
    | some env' => storePar ts ds env'
    | none => none
  | _, _, _ => none
variable (fuel : Nat)
mutual
def ex : CS → Env → M End
  | .set i e, env => bind (ev T e env) fun d => match store1 (false, .name i) d env with
    | some env' => ret (.nx env')
    | none => bad
  | .setO i e, env => bind (ev T e env) fun d => match store1 (true, .name i) d env with
    | some env' => ret (.nx env')
    | none => bad
  | .frz i, env => match env[i]? with
    | some (.own ds) => ret (.nx (env.set i (.val (.list ds))))
    | _ => ret (.nx env)
  | .par ts es, env => bind (evs T es env) fun ds => match storePar ts ds env with
    | some env' => ret (.nx env')
    | none => bad
  | .unp t e, env => bind (ev T e env) fun d => match unpack t d env with
    | some env' => ret (.nx env')
    | none => bad
  | .app i e, env => match env[i]? with
    | some (.own ds) => bind (ev T e env) fun d => if sizeOk ds.length then ret (.nx (env.set i (.own (ds ++ [d])))) else bad
    | _ => bad
  | .put i k e, env => match env[i]? with
    | some (.own ds) => bind (ev T e env) fun d => bind (ev T k env) fun x => (match x with
      | .int j => (match setitem ds j d with
        | some ds' => ret (.nx (env.set i (.own ds')))
        | none => bad)
      | _ => bad)
    | _ => bad
  | .expr e, env => bind (ev T e env) fun _ => ret (.nx env)
  | .ret e, env => bind (ev T e env) fun d => ret (.rt d)
  | .rais c _, _ => raise c
  | .tryh r c er f es, env => fun s => match evs T es env s with
    | .ok ds s1 => (match T[f]? with
      | some F => (match F ds s1 with
        | .ok d s' => (match store1 (false, .name r) d env with
          | some env' => .ok (.nx env') s'
          | none => .bad)
        | .exc k s' => if k < 18 then (match env[er]? with
          | some (.own _) => .bad
          | _ => (match store1 (false, .name c) (.exc k) (env.set er .un) with
            | some env' => .ok (.nx env') s'
            | none => .bad)) else .bad
        | .bad => .bad)
      | none => .bad)
    | _ => .bad
  | .ite t a b, env => bind (evT T t env) fun c => if c then exs a env else exs b env
  | .for_ t it b, env => bind (evI T it env) fun ds => forLoop (fun d env => match unpack t d env with
    | some env' => exs b env'
    | none => bad) ds env
  | .whl t b, env => whileLoop (evT T t) (exs b) fuel env
def exs : CSs → Env → M End
  | .nil, env => ret (.nx env)
  | .cons s ss, env => bind (ex s env) fun e => match e with
    | .nx env' => exs ss env'
    | .rt d => ret (.rt d)
end
end

/-- a def: its parameters' number, its slots, its body -/
def run (T : List Fn) (fuel : Nat) (n k : Nat) (b : CSs) : Fn := fun ds =>
  if ds.length = n then bind (exs T fuel b (ds.map .val ++ List.replicate (k - n) .un)) fun e => (match e with
    | .nx _ => ret .none
    | .rt d => ret d) else bad
end Q7

/-! Does a piece of code stand for a piece of the text? -/
namespace Q7
open PySem

structure Names where
  N : List Str
  FN : List Str
  CN : List Str

def visB (sc : Scope) (x : Str) : Bool := match sc.names.lookup x with
  | some .local | some .cell | some .free => true
  | _ => false
def locB (sc : Scope) (x : Str) : Bool := match sc.names.lookup x with
  | some .local | some .cell => true
  | _ => false
def glB (sc : Scope) (x : Str) : Bool := match sc.names.lookup x with
  | some .globalImplicit => !(x == ("__debug__" : Str)) && !(x == ("__name__" : Str))
  | _ => false
def varB (N : List Str) (sc : Scope) (i : Nat) (x : Str) : Bool :=
  decide (N[i]? = some x) && visB sc x && !(x == ("__debug__" : Str)) && !(x == ("__classdict__" : Str))
def bopB : BOp → Operator → Bool
  | .add, .Add | .sub, .Sub | .mul, .Mult | .fdiv, .FloorDiv | .mod, .Mod | .pow, .Pow => true
  | _, _ => false
def copB : COp → CmpOp → Bool
  | .eq, .Eq | .ne, .NotEq | .lt, .Lt | .le, .LtE | .gt, .Gt | .ge, .GtE | .is, .Is | .isnot, .IsNot | .inn, .In | .notin, .NotIn => true
  | _, _ => false
def tyN : Ty → Str
  | .int => "int" | .bool => "bool" | .str => "str" | .list => "list" | .tuple => "tuple" | .dict => "dict"
def bltN : Blt → Str
  | .len => "len" | .abs => "abs" | .list => "list" | .tuple => "tuple" | .any => "any" | .all => "all" | .int => "int" | .str => "str" | .max2 => "max" | .min2 => "min" | .sorted => "sorted"
def mthN : Mth → Str
  | .partition => "partition" | .split => "split" | .join => "join" | .endswith => "endswith" | .index => "index" | .count => "count"
def noSuper : Expr → Bool
  | .Call (.Name _ _) [] [] _ => false
  | _ => true
def noSet : Expr → Bool
  | .Set _ _ _ => false
  | _ => true
def noStar : Expr → Bool
  | .Starred _ _ => false
  | _ => true
/-- its truth is its value's truth -/
def plainT : Expr → Bool
  | .UnaryOp .Not _ _ | .BoolOp _ _ _ | .IfExp _ _ _ _ | .Compare _ _ _ _ => false
  | _ => true
def noSlice : Expr → Bool
  | .Slice _ _ _ _ => false
  | _ => true
/-- the scope in which a comprehension's block runs -/
def relS (scope sc : Scope) : Scope := L2.relS scope sc

section
variable (Z : Names)
mutual
def chkG (sc : Scope) : Tg → Expr → Bool
  | .name i, .Name x _ => decide (Z.N[i]? = some x) && locB sc x
  | .tup ts, .Tuple es _ _ => chkGs sc ts es
  | _, _ => false
def chkGs (sc : Scope) : Tgs → List Expr → Bool
  | .nil, [] => true
  | .cons t ts, e :: es => chkG sc t e && chkGs sc ts es
  | _, _ => false
end
/-! the slots that a target stores are among these -/
mutual
def tgIn (vs : List Nat) : Tg → Bool
  | .name i => vs.contains i
  | .tup ts => tgsIn vs ts
def tgsIn (vs : List Nat) : Tgs → Bool
  | .nil => true
  | .cons t ts => tgIn vs t && tgsIn vs ts
end
/-- names of a block that are stored in it are its own cells or locals -/
def fnB (scope : Scope) (x : Str) : Bool := match scope.names.lookup x with
  | some .local | some .cell => true
  | _ => false
mutual
def tgFn (N : List Str) (scope : Scope) : Tg → Bool
  | .name i => (match N[i]? with
    | some x => fnB scope x
    | none => false)
  | .tup ts => tgsFn N scope ts
def tgsFn (N : List Str) (scope : Scope) : Tgs → Bool
  | .nil => true
  | .cons t ts => tgFn N scope t && tgsFn N scope ts
end
/-- a pair of targets for enumerate and zip -/
def isPairT : CI → Tg → Bool
  | .enm _, .tup _ => true
  | .zip _ _, .tup _ => true
  | .enm _, _ => false
  | .zip _ _, _ => false
  | _, _ => true

def clsN (k : Option Nat) (y : Str) : Bool := match k with
  | none => decide (y = ("ValueError" : Str))
  | some c => decide (Z.CN[c]? = some y)
mutual
def chkE : CE → Scope → Expr → Bool
  | .var i, sc, .Name x _ => varB Z.N sc i x
  | .bv i, sc, .Name x _ => varB Z.N sc i x
  | .int i, _, .Constant (.int j) _ _ => decide (i = j)
  | .bl b, _, .Constant (.bool c) _ _ => b == c
  | .non, _, .Constant .none _ _ => true
  | .str s, _, .Constant (.str t) _ _ => decide (s = t)
  | .bin o a b, sc, .BinOp e1 op e2 _ => bopB o op && (chkE a sc e1 && chkE b sc e2)
  | .neg a, sc, .UnaryOp .USub e _ => chkE a sc e
  | .not a, sc, .UnaryOp .Not e _ => chkE a sc e
  | .and es, sc, .BoolOp .And vs _ => decide (2 ≤ vs.length) && chkEs es sc vs
  | .or es, sc, .BoolOp .Or vs _ => decide (2 ≤ vs.length) && chkEs es sc vs
  | .ite t a b, sc, .IfExp c e1 e2 _ => chkT t sc c && (chkE a sc e1 && chkE b sc e2)
  | .cmp o a b, sc, .Compare e1 [op] [e2] _ => copB o op && (noSet e2 && (chkE a sc e1 && chkE b sc e2))
  | .chain o p a b c, sc, .Compare e1 [op, op'] [e2, e3] _ => copB o op && (copB p op' && (noSet e3 && (chkE a sc e1 && (chkE b sc e2 && chkE c sc e3))))
  | .tup es, sc, .Tuple vs _ _ => chkEs es sc vs
  | .lst es, sc, .List vs _ => chkEs es sc vs
  | .idx a b, sc, .Subscript e1 e2 _ => noSlice e2 && (chkE a sc e1 && chkE b sc e2)
  | .slc a lo hi, sc, .Subscript e (.Slice l u none _) _ => chkE a sc e && (chkO lo sc l && chkO hi sc u)
  | .call f es, sc, .Call (.Name x _) vs [] _ => decide (Z.FN[f]? = some x) && (glB sc x && chkEs es sc vs)
  | .blt b es, sc, .Call (.Name x _) vs [] _ => decide (bltN b = x) && (glB sc x && (decide (1 ≤ vs.length) && chkEs es sc vs))
  | .listRng a b, sc, .Call (.Name x _) [.Call (.Name y _) [e] [] _] [] _ => decide (x = ("list" : Str)) && (decide (y = ("range" : Str)) && (glB sc x && (glB sc y && (chkO a sc none && chkO b sc (some e)))))
  | .listRng a b, sc, .Call (.Name x _) [.Call (.Name y _) [e, e2] [] _] [] _ => decide (x = ("list" : Str)) && (decide (y = ("range" : Str)) && (glB sc x && (glB sc y && (chkO a sc (some e) && chkO b sc (some e2)))))
  | .tupRng a b, sc, .Call (.Name x _) [.Call (.Name y _) [e] [] _] [] _ => decide (x = ("tuple" : Str)) && (decide (y = ("range" : Str)) && (glB sc x && (glB sc y && (chkO a sc none && chkO b sc (some e)))))
  | .tupRng a b, sc, .Call (.Name x _) [.Call (.Name y _) [e, e2] [] _] [] _ => decide (x = ("tuple" : Str)) && (decide (y = ("range" : Str)) && (glB sc x && (glB sc y && (chkO a sc (some e) && chkO b sc (some e2)))))
  | .isi a t, sc, .Call (.Name x _) [e, .Name y _] [] _ => decide (x = ("isinstance" : Str)) && (decide (tyN t = y) && (glB sc x && (glB sc y && chkE a sc e)))
  | .isx a k, sc, .Call (.Name x _) [e, .Name y _] [] _ => decide (x = ("isinstance" : Str)) && (glB sc x && (glB sc y && (clsN Z k y && chkE a sc e)))
  | .edict, _, .Dict [] [] _ => true
  | .meth m a es, sc, .Call (.Attribute e n apos) [v] [] pos => decide (mthN m = n) && (noSuper e && ((apos.endLine == pos.line) && (chkE a sc e && chkEs es sc [v])))
  | .comp vs tg it ifs elt, sc, .ListComp e [⟨t, i, fs, 0⟩] scope _ =>
      L2.blkC Z.N sc scope vs && (chkI it sc i && (isPairT it tg && (noSet i && (chkG Z (relS scope sc) tg t && (tgIn (vs.map (·.2)) tg && (tgFn Z.N scope tg && (chkOT ifs (relS scope sc) fs && chkE elt (relS scope sc) e)))))))
  | .comp2 vs tg it ifs vs2 tg2 it2 ifs2 elt, sc, .ListComp e [⟨t, i, fs, 0⟩, ⟨t2, i2, fs2, 0⟩] scope _ =>
      L2.blkC Z.N sc scope vs && (chkI it sc i && (isPairT it tg && (noSet i && (chkG Z (relS scope sc) tg t && (tgIn (vs.map (·.2)) tg && (tgFn Z.N scope tg && (chkOT ifs (relS scope sc) fs &&
      (vs2.all (fun j => (vs.map (·.2)).contains j) && (chkI it2 (relS scope sc) i2 && (isPairT it2 tg2 && (noSet i2 && (chkG Z (relS scope sc) tg2 t2 && (tgIn vs2 tg2 && (tgFn Z.N scope tg2 && (chkOT ifs2 (relS scope sc) fs2 && chkE elt (relS scope sc) e)))))))))))))))
  | .fstr es, sc, .JoinedStr vs _ => decide (2 ≤ vs.length) && chkJ es sc vs
  | _, _, _ => false
def chkEs : CEs → Scope → List Expr → Bool
  | .nil, _, [] => true
  | .cons c cs, sc, e :: es => chkE c sc e && chkEs cs sc es
  | _, _, _ => false
def chkJ : CEs → Scope → List Expr → Bool
  | .nil, _, [] => true
  | .cons c cs, sc, .FormattedValue e (-1) none _ :: es => chkE c sc e && chkJ cs sc es
  | .cons c cs, sc, .Constant (.str s) k p :: es => chkE c sc (.Constant (.str s) k p) && chkJ cs sc es
  | _, _, _ => false
def chkT : CT → Scope → Expr → Bool
  | .val a, sc, e => plainT e && chkE a sc e
  | .cmp o a b, sc, .Compare e1 [op] [e2] _ => copB o op && (noSet e2 && (chkE a sc e1 && chkE b sc e2))
  | .chain o p a b c, sc, .Compare e1 [op, op'] [e2, e3] _ => copB o op && (copB p op' && (noSet e3 && (chkE a sc e1 && (chkE b sc e2 && chkE c sc e3))))
  | .and ts, sc, .BoolOp .And vs _ => decide (2 ≤ vs.length) && chkTs ts sc vs
  | .or ts, sc, .BoolOp .Or vs _ => decide (2 ≤ vs.length) && chkTs ts sc vs
  | .not t, sc, .UnaryOp .Not e _ => chkT t sc e
  | _, _, _ => false
def chkTs : CTs → Scope → List Expr → Bool
  | .nil, _, [] => true
  | .cons c cs, sc, e :: es => chkT c sc e && chkTs cs sc es
  | _, _, _ => false
def chkI : CI → Scope → Expr → Bool
  | .seq a, sc, e => chkE a sc e
  | .rng1 a, sc, .Call (.Name x _) [e] [] _ => decide (x = ("range" : Str)) && (glB sc x && chkE a sc e)
  | .rng2 a b, sc, .Call (.Name x _) [e1, e2] [] _ => decide (x = ("range" : Str)) && (glB sc x && (chkE a sc e1 && chkE b sc e2))
  | .rng3 a b c, sc, .Call (.Name x _) [e1, e2, e3] [] _ => decide (x = ("range" : Str)) && (glB sc x && (chkE a sc e1 && (chkE b sc e2 && chkE c sc e3)))
  | .enm a, sc, .Call (.Name x _) [e] [] _ => decide (x = ("enumerate" : Str)) && (glB sc x && chkE a sc e)
  | .zip a b, sc, .Call (.Name x _) [e1, e2] [] _ => decide (x = ("zip" : Str)) && (glB sc x && (chkE a sc e1 && chkE b sc e2))
  | _, _, _ => false
def chkO : CO → Scope → Option Expr → Bool
  | .non, _, none => true
  | .som a, sc, some e => chkE a sc e
  | _, _, _ => false
def chkOT : COT → Scope → List Expr → Bool
  | .non, _, [] => true
  | .som t, sc, [e] => chkT t sc e
  | _, _, _ => false
end

/-- code that makes a new list -/
def fresh : CE → Bool
  | .lst _ | .listRng _ _ | .comp _ _ _ _ _ | .comp2 _ _ _ _ _ _ _ _ _ => true
  | .bin .mul (.lst _) _ => true
  | .bin .add _ _ => true
  | .blt .list _ => true
  | _ => false
/-! a borrowed slot stands only where its value is not kept -/
def isB : CE → Bool
  | .bv _ => true
  | _ => false
def isBI : CI → Bool
  | .seq e | .enm e => isB e
  | .zip a b => isB a || isB b
  | _ => false
mutual
def wfE : CE → Bool
  | .bv _ | .var _ | .int _ | .bl _ | .non | .str _ => true
  | .bin _ a b => wfE a && wfE b
  | .neg a => wfE a
  | .not a => wfE a
  | .and es => kEs es
  | .or es => kEs es
  | .ite t a b => wfT t && (wfE a && (!isB a && (wfE b && !isB b)))
  | .cmp _ a b => wfE a && wfE b
  | .chain _ _ a b c => wfE a && (wfE b && wfE c)
  | .tup es | .lst es => kEs es
  | .idx a b => wfE a && wfE b
  | .slc a lo hi => wfE a && (wfO lo && wfO hi)
  | .call _ es => kEs es
  | .blt _ es => wEs es
  | .listRng a b | .tupRng a b => wfO a && wfO b
  | .isi a _ => wfE a
  | .isx a _ => wfE a
  | .edict => true
  | .meth _ a es => wfE a && wEs es
  | .comp _ _ it ifs elt => wfI it && (wfOT ifs && (wfE elt && !isB elt))
  | .comp2 _ _ it ifs _ _ it2 ifs2 elt => wfI it && (wfOT ifs && (wfI it2 && (!isBI it2 && (wfOT ifs2 && (wfE elt && !isB elt)))))
  | .fstr es => kEs es
def kEs : CEs → Bool
  | .nil => true
  | .cons e es => wfE e && (!isB e && kEs es)
def wEs : CEs → Bool
  | .nil => true
  | .cons e es => wfE e && wEs es
def wfT : CT → Bool
  | .val e => wfE e
  | .cmp _ a b => wfE a && wfE b
  | .chain _ _ a b c => wfE a && (wfE b && wfE c)
  | .and ts | .or ts => wfTs ts
  | .not t => wfT t
def wfTs : CTs → Bool
  | .nil => true
  | .cons t ts => wfT t && wfTs ts
def wfI : CI → Bool
  | .seq e | .rng1 e | .enm e => wfE e
  | .rng2 a b | .zip a b => wfE a && wfE b
  | .rng3 a b c => wfE a && (wfE b && wfE c)
def wfO : CO → Bool
  | .non => true
  | .som e => wfE e
def wfOT : COT → Bool
  | .non => true
  | .som t => wfT t
end
end
end Q7

/-! What a deep value is in the abstract heap. -/
namespace Q7
open PySem L2

abbrev Rho := List (List Addr)
def inT (ρ : Rho) (a : Addr) : Prop := ∃ l ∈ ρ, a ∈ l
structure Gb where
  K : PySem.W.Frag
  ns : List Int
  cls : Nat → Addr

/-- an own exception of the class at C, caught and held -/
def ExT (C a : Addr) : HO := .ext fun h => ∃ (oe : Obj) (vs : Array Value), h.get? a = some oe ∧ Zc (.ref C) none oe ∧ oe.data = .fields vs
mutual
inductive Den (G : Gb) (B : Addr → Prop) (ρ : Rho) (H : Hp) : V → D → Prop
  | non : Den G B ρ H .non .none
  | bl (b : Bool) : Den G B ρ H (.bl b) (.bool b)
  | int (i : Int) : Den G B ρ H (.int i) (.int i)
  | str (x : Str) : Den G B ρ H (.str x) (.str x)
  | lst {a : Addr} {xs : List V} {ds : List D} : H a = some (.lst xs) → ¬ B a → DenL G B ρ H xs ds → Den G B ρ H (.ref a) (.list ds)
  | tup {a : Addr} {xs : List V} {ds : List D} : H a = some (.tup xs) → DenL G B ρ H xs ds → Den G B ρ H (.ref a) (.tup ds)
  | ref {k : Nat} {a : Addr} {l : List Addr} : ρ[k]? = some (a :: l) → Den G B ρ H (.ref a) (.ref k)
  | scr {a : Addr} : ((∃ o, H a = some (.frz o (.lst (G.ns.map V.int)))) ∨ ∃ (o : Obj) (its : Array Value) (n : Nat), G.K.lookup a = some o ∧ o.cls = .type "list" ∧ o.dict = none ∧ o.data = .seq its n ∧ its.size ≤ sizeLine ∧ Vals (G.ns.map V.int) its.toList) → Den G B ρ H (.ref a) .scr
  | edict {a : Addr} : H a = some (.dK []) → ¬ B a → Den G B ρ H (.ref a) .edict
  | exc {a : Addr} {c : Nat} : H a = some (ExT (G.cls c) a) → c < 18 → Den G B ρ H (.ref a) (.exc c)
inductive DenL (G : Gb) (B : Addr → Prop) (ρ : Rho) (H : Hp) : List V → List D → Prop
  | nil : DenL G B ρ H [] []
  | cons {v : V} {vs : List V} {d : D} {ds : List D} : Den G B ρ H v d → DenL G B ρ H vs ds → DenL G B ρ H (v :: vs) (d :: ds)
end

/-- an operand: its outermost list may be one that is borrowed -/
inductive Den1 (G : Gb) (B : Addr → Prop) (ρ : Rho) (H : Hp) : V → D → Prop
  | of {v : V} {d : D} : Den G B ρ H v d → Den1 G B ρ H v d
  | lst {a : Addr} {xs : List V} {ds : List D} : H a = some (.lst xs) → ¬ inT ρ a → DenL G B ρ H xs ds → Den1 G B ρ H (.ref a) (.list ds)
inductive DenL1 (G : Gb) (B : Addr → Prop) (ρ : Rho) (H : Hp) : List V → List D → Prop
  | nil : DenL1 G B ρ H [] []
  | cons {v : V} {vs : List V} {d : D} {ds : List D} : Den1 G B ρ H v d → DenL1 G B ρ H vs ds → DenL1 G B ρ H (v :: vs) (d :: ds)

/-- what may change -/
def mutO : HO → Prop
  | .tup _ => False
  | .frz _ _ => False
  | .dK [] => False
  | .ext _ => False
  | _ => True

def SOk (H : Hp) (l : List Addr) : SO → Prop
  | .town xs => ∃ a, l = [a] ∧ H a = some (.lst (xs.map V.int))

structure StRel (ρ : Rho) (S : Sta) (H : Hp) : Prop where
  len : ρ.length = S.length
  ok : ∀ (k : Nat) l o, ρ[k]? = some l → S[k]? = some o → SOk H l o
  nd : ρ.flatten.Nodup
theorem StRel.mu {ρ : Rho} {S : Sta} {H : Hp} (h : StRel ρ S H) {a : Addr} (ha : inT ρ a) : ∃ o, H a = some o ∧ mutO o := by
  obtain ⟨l, hl, hm⟩ := ha
  obtain ⟨k, hk, e⟩ := List.getElem_of_mem hl
  have hk' : k < S.length := by rw [← h.len]; exact hk
  have := h.ok k l S[k] (by rw [← e]; exact List.getElem?_eq_getElem hk) (List.getElem?_eq_getElem hk')
  revert this
  cases S[k] with
  | town xs =>
    rintro ⟨b, rfl, hb⟩
    have : a = b := by simpa using hm
    subst this
    exact ⟨_, hb, trivial⟩

/-- from one heap to another -/
structure Step (ρ : Rho) (H : Hp) (ρ' : Rho) (H' : Hp) : Prop where
  keep : ∀ a o, H a = some o → ¬ inT ρ a → H' a = some o
  there : ∀ a, H' a = none → H a = none
  head : ∀ (k : Nat) (a : Addr) (l : List Addr), ρ[k]? = some (a :: l) → ∃ l', ρ'[k]? = some (a :: l')
  newT : ∀ a, inT ρ' a → inT ρ a ∨ H a = none
theorem Step.refl {ρ : Rho} {H : Hp} : Step ρ H ρ H := ⟨fun _ _ h _ => h, fun _ h => h, fun _ _ l h => ⟨l, h⟩, fun _ h => .inl h⟩
theorem Step.trans {ρ ρ1 ρ2 : Rho} {H H1 H2 : Hp} (a : Step ρ H ρ1 H1) (b : Step ρ1 H1 ρ2 H2) : Step ρ H ρ2 H2 where
  keep := fun c o h n => b.keep c o (a.keep c o h n) fun h1 => by
    rcases a.newT c h1 with q | q
    · exact n q
    · rw [h] at q; cases q
  there := fun c h => a.there c (b.there c h)
  head := fun k c l h => by
    obtain ⟨l', h'⟩ := a.head k c l h
    exact b.head k c l' h'
  newT := fun c h => by
    rcases b.newT c h with q | q
    · exact a.newT c q
    · exact .inr (a.there c q)
theorem Step.new {ρ : Rho} {H : Hp} {p : Addr} {o : HO} (h : H p = none) : Step ρ H ρ (upd H p o) :=
  ⟨fun a u e _ => by rw [upd_ne (ne_of_none e h)]; exact e, fun a e => by
    by_cases q : a = p
    · rw [q]; exact h
    · rw [upd_ne q] at e; exact e, fun _ _ l h => ⟨l, h⟩, fun _ h => .inl h⟩
theorem Step.same {ρ : Rho} {H H' : Hp} (h : Same H H') : Step ρ H ρ H' := ⟨fun a u e _ => h a u e, fun _ e => Same.free h e, fun _ _ l h => ⟨l, h⟩, fun _ h => .inl h⟩

section
variable {G : Gb} {B B1 B2 : Addr → Prop} {ρ ρ' : Rho} {H H' : Hp} {v : V} {d : D} {vs : List V} {ds : List D}
mutual
theorem Den.lift (hB : ∀ a, inT ρ a → B1 a) (hm : ∀ a, inT ρ a → ∃ o, H a = some o ∧ mutO o) (st : Step ρ H ρ' H') (h2 : ∀ a, B2 a → B1 a ∨ H a = none) : ∀ {v : V} {d : D}, Den G B1 ρ H v d → Den G B2 ρ' H' v d
  | _, _, .non => .non
  | _, _, .bl b => .bl b
  | _, _, .int i => .int i
  | _, _, .str x => .str x
  | _, _, .lst h n l => .lst (st.keep _ _ h fun q => n (hB _ q)) (fun q => (h2 _ q).elim n fun e => by rw [h] at e; cases e) (DenL.lift hB hm st h2 l)
  | _, _, .tup h l => .tup (st.keep _ _ h fun q => by
      obtain ⟨o, e, m⟩ := hm _ q
      rw [h] at e; cases e; exact m) (DenL.lift hB hm st h2 l)
  | _, _, .ref h => by
    obtain ⟨l', h'⟩ := st.head _ _ _ h
    exact .ref h'
  | _, _, .scr h => .scr (h.imp (fun ⟨o, e⟩ => ⟨o, st.keep _ _ e fun q => by
      obtain ⟨o', e', m⟩ := hm _ q
      rw [e] at e'; cases e'; exact m⟩) id)
  | _, _, .exc h n => .exc (st.keep _ _ h fun q => by
      obtain ⟨o, e, m⟩ := hm _ q
      rw [h] at e; cases e; exact m) n
  | _, _, .edict h n => .edict (st.keep _ _ h fun q => n (hB _ q)) (fun q => (h2 _ q).elim n fun e => by rw [h] at e; cases e)
theorem DenL.lift (hB : ∀ a, inT ρ a → B1 a) (hm : ∀ a, inT ρ a → ∃ o, H a = some o ∧ mutO o) (st : Step ρ H ρ' H') (h2 : ∀ a, B2 a → B1 a ∨ H a = none) : ∀ {vs : List V} {ds : List D}, DenL G B1 ρ H vs ds → DenL G B2 ρ' H' vs ds
  | _, _, .nil => .nil
  | _, _, .cons h l => .cons (Den.lift hB hm st h2 h) (DenL.lift hB hm st h2 l)
end
mutual
theorem Den.mono (h2 : ∀ a, B2 a → B1 a ∨ H a = none) : ∀ {v : V} {d : D}, Den G B1 ρ H v d → Den G B2 ρ H v d
  | _, _, .non => .non
  | _, _, .bl b => .bl b
  | _, _, .int i => .int i
  | _, _, .str x => .str x
  | _, _, .lst h n l => .lst h (fun q => (h2 _ q).elim n fun e => by rw [h] at e; cases e) (DenL.mono h2 l)
  | _, _, .tup h l => .tup h (DenL.mono h2 l)
  | _, _, .ref h => .ref h
  | _, _, .scr h => .scr h
  | _, _, .exc h n => .exc h n
  | _, _, .edict h n => .edict h (fun q => (h2 _ q).elim n fun e => by rw [h] at e; cases e)
theorem DenL.mono (h2 : ∀ a, B2 a → B1 a ∨ H a = none) : ∀ {vs : List V} {ds : List D}, DenL G B1 ρ H vs ds → DenL G B2 ρ H vs ds
  | _, _, .nil => .nil
  | _, _, .cons h l => .cons (Den.mono h2 h) (DenL.mono h2 l)
end
theorem DenL.length : ∀ {vs : List V} {ds : List D}, DenL G B ρ H vs ds → vs.length = ds.length
  | _, _, .nil => rfl
  | _, _, .cons _ l => congrArg Nat.succ (DenL.length l)
theorem DenL1.length : ∀ {vs : List V} {ds : List D}, DenL1 G B ρ H vs ds → vs.length = ds.length
  | _, _, .nil => rfl
  | _, _, .cons _ l => congrArg Nat.succ (DenL1.length l)
theorem DenL.get : ∀ {vs : List V} {ds : List D} {i : Nat} {d : D}, DenL G B ρ H vs ds → ds[i]? = some d → ∃ v, vs[i]? = some v ∧ Den G B ρ H v d
  | _, _, i, _, .nil, e => by simp at e
  | _, _, 0, _, .cons h _, e => by simp at e; subst e; exact ⟨_, rfl, h⟩
  | _, _, i + 1, d, .cons _ l, e => by
    obtain ⟨v, h1, h2⟩ := DenL.get (i := i) (d := d) l (by simpa using e)
    exact ⟨v, by simpa using h1, h2⟩
theorem DenL.getV : ∀ {vs : List V} {ds : List D} {i : Nat} {v : V}, DenL G B ρ H vs ds → vs[i]? = some v → ∃ d, ds[i]? = some d ∧ Den G B ρ H v d
  | _, _, i, _, .nil, e => by simp at e
  | _, _, 0, _, .cons h _, e => by simp at e; subst e; exact ⟨_, rfl, h⟩
  | _, _, i + 1, v, .cons _ l, e => by
    obtain ⟨d, h1, h2⟩ := DenL.getV (i := i) (v := v) l (by simpa using e)
    exact ⟨d, by simpa using h1, h2⟩
theorem DenL.append : ∀ {vs ws : List V} {ds es : List D}, DenL G B ρ H vs ds → DenL G B ρ H ws es → DenL G B ρ H (vs ++ ws) (ds ++ es)
  | _, _, _, _, .nil, s => s
  | _, _, _, _, .cons r t, s => .cons r (DenL.append t s)
theorem DenL.take : ∀ {vs : List V} {ds : List D} (n : Nat), DenL G B ρ H vs ds → DenL G B ρ H (vs.take n) (ds.take n)
  | _, _, 0, _ => .nil
  | _, _, _ + 1, .nil => .nil
  | _, _, n + 1, .cons r t => .cons r (DenL.take n t)
theorem DenL.drop : ∀ {vs : List V} {ds : List D} (n : Nat), DenL G B ρ H vs ds → DenL G B ρ H (vs.drop n) (ds.drop n)
  | _, _, 0, r => r
  | _, _, _ + 1, .nil => .nil
  | _, _, n + 1, .cons _ t => DenL.drop n t
theorem DenL.set {v : V} {d : D} (h : Den G B ρ H v d) : ∀ {vs : List V} {ds : List D} (i : Nat), DenL G B ρ H vs ds → DenL G B ρ H (vs.set i v) (ds.set i d)
  | _, _, _, .nil => .nil
  | _, _, 0, .cons _ t => .cons h t
  | _, _, i + 1, .cons q t => .cons q (DenL.set h i t)
theorem DenL.rep {vs : List V} {ds : List D} (h : DenL G B ρ H vs ds) : ∀ n : Nat, DenL G B ρ H (List.replicate n vs).flatten (rep ds n)
  | 0 => .nil
  | n + 1 => by
    unfold Q7.rep
    rw [List.replicate_succ, List.replicate_succ, List.flatten_cons, List.flatten_cons]
    exact h.append (DenL.rep h n)
theorem DenL.ofInts : ∀ (ns : List Int), DenL G B ρ H (ns.map V.int) (ns.map D.int)
  | [] => .nil
  | n :: ns => .cons (.int n) (DenL.ofInts ns)
theorem DenL.ofStrs : ∀ (ns : List Str), DenL G B ρ H (ns.map V.str) (ns.map D.str)
  | [] => .nil
  | n :: ns => .cons (.str n) (DenL.ofStrs ns)
end

/-- the addresses that a kept value does not reach -/
def av (B : Addr → Prop) (ρ : Rho) (ow : Nat → Option Addr) (a : Addr) : Prop := B a ∨ inT ρ a ∨ ∃ i, ow i = some a

structure Rel (G : Gb) (B : Addr → Prop) (env : Env) (S : Sta) (ρ : Rho) (ow : Nat → Option Addr) (σ : L2.St) (H : Hp) : Prop where
  len : σ.length = env.length
  st : StRel ρ S H
  bl : ∀ a, B a → H a ≠ none
  slot : ∀ (i : Nat) d, env[i]? = some (.val d) → ∃ v, σ[i]? = some (some v) ∧ Den G (av B ρ ow) ρ H v d
  own : ∀ (i : Nat) ds, env[i]? = some (.own ds) → ∃ a xs, σ[i]? = some (some (.ref a)) ∧ ow i = some a ∧ H a = some (.lst xs) ∧ DenL G (av B ρ ow) ρ H xs ds
  ow_of : ∀ i a, ow i = some a → ∃ ds, env[i]? = some (.own ds)
  inj : ∀ i j a, ow i = some a → ow j = some a → i = j
  disj : ∀ i a, ow i = some a → ¬ B a ∧ ¬ inT ρ a

section
variable {G : Gb} {B : Addr → Prop} {env : Env} {S S' : Sta} {ρ ρ' : Rho} {ow : Nat → Option Addr} {σ : L2.St} {H H' : Hp} {v : V} {d : D}
theorem Rel.tr (R : Rel G B env S ρ ow σ H) : ∀ a, av B ρ ow a → H a ≠ none := by
  intro a h
  rcases h with h | h | ⟨i, h⟩
  · exact R.bl a h
  · obtain ⟨o, e, _⟩ := R.st.mu h
    rw [e]; simp
  · obtain ⟨ds, e⟩ := R.ow_of i a h
    obtain ⟨b, xs, _, e1, e2, _⟩ := R.own i ds e
    rw [h] at e1; cases e1
    rw [e2]; simp
theorem av_step (st : Step ρ H ρ' H') : ∀ a, av B ρ' ow a → av B ρ ow a ∨ H a = none := by
  intro a h
  rcases h with h | h | h
  · exact .inl (.inl h)
  · rcases st.newT a h with q | q
    · exact .inl (.inr (.inl q))
    · exact .inr q
  · exact .inl (.inr (.inr h))
theorem Den.stp (R : StRel ρ S H) (st : Step ρ H ρ' H') (h : Den G (av B ρ ow) ρ H v d) : Den G (av B ρ' ow) ρ' H' v d :=
  h.lift (fun a q => .inr (.inl q)) (fun a q => R.mu q) st (av_step st)
theorem DenL.stp {vs : List V} {ds : List D} (R : StRel ρ S H) (st : Step ρ H ρ' H') (h : DenL G (av B ρ ow) ρ H vs ds) : DenL G (av B ρ' ow) ρ' H' vs ds :=
  h.lift (fun a q => .inr (.inl q)) (fun a q => R.mu q) st (av_step st)
theorem Rel.step (R : Rel G B env S ρ ow σ H) (st : Step ρ H ρ' H') (s' : StRel ρ' S' H') : Rel G B env S' ρ' ow σ H' where
  len := R.len
  st := s'
  bl := fun a h e => R.bl a h (st.there a e)
  slot := fun i d e => by
    obtain ⟨v, h1, h2⟩ := R.slot i d e
    exact ⟨v, h1, h2.stp R.st st⟩
  own := fun i ds e => by
    obtain ⟨a, xs, h1, h2, h3, h4⟩ := R.own i ds e
    exact ⟨a, xs, h1, h2, st.keep a _ h3 (R.disj i a h2).2, h4.stp R.st st⟩
  ow_of := R.ow_of
  inj := R.inj
  disj := fun i a e => ⟨(R.disj i a e).1, fun q => by
    rcases st.newT a q with q | q
    · exact (R.disj i a e).2 q
    · exact R.tr a (.inr (.inr ⟨i, e⟩)) q⟩
theorem Den1.stp (R : StRel ρ S H) (st : Step ρ H ρ' H') (h : Den1 G (av B ρ ow) ρ H v d) : Den1 G (av B ρ' ow) ρ' H' v d := by
  cases h with
  | of h => exact .of (h.stp R st)
  | lst h n l => exact .lst (st.keep _ _ h n) (fun q => (st.newT _ q).elim n fun e => by rw [h] at e; cases e) (l.stp R st)
theorem DenL1.stp (R : StRel ρ S H) (st : Step ρ H ρ' H') : ∀ {vs : List V} {ds : List D}, DenL1 G (av B ρ ow) ρ H vs ds → DenL1 G (av B ρ' ow) ρ' H' vs ds
  | _, _, .nil => .nil
  | _, _, .cons h l => .cons (h.stp R st) (DenL1.stp R st l)
theorem SOk.same {l : List Addr} {o : SO} (h : SOk H l o) (e : ∀ a ∈ l, H' a = H a) : SOk H' l o := by
  cases o with
  | town xs =>
    obtain ⟨a, rfl, q⟩ := h
    exact ⟨a, rfl, (e a (by simp)).trans q⟩
theorem StRel.same (R : StRel ρ S H) (e : ∀ a, inT ρ a → H' a = H a) : StRel ρ S H' :=
  ⟨R.len, fun k l o h1 h2 => (R.ok k l o h1 h2).same fun a ha => e a ⟨l, List.mem_of_getElem? h1, ha⟩, R.nd⟩
theorem StRel.new {p : Addr} {o : HO} (R : StRel ρ S H) (h : H p = none) : StRel ρ S (upd H p o) := R.same fun a ha => by
  obtain ⟨o', e, _⟩ := R.mu ha
  exact upd_ne (ne_of_none e h)
end
end Q7

/-! Readings by the interpreter; the operations on values. -/
namespace Q7
open PySem L2

def Post {α β : Type} (G : Gb) (E0 : XK) (rel : Rho → Hp → β → α → Prop) (ρ : Rho) (H : Hp) (r : Res α) (Q : β → Hp → Prop) : Prop := match r with
  | .ok a S' => ∀ b H' ρ', Step ρ H ρ' H' → StRel ρ' S' H' → rel ρ' H' b a → Q b H'
  | .exc c S' => ∀ H' ρ', Step ρ H ρ' H' → StRel ρ' S' H' → E0 (.ref (G.cls c)) none H'
  | .bad => False

abbrev RelT (α β : Type) := (Addr → Prop) → (Nat → Option Addr) → Rho → Hp → β → α → Prop
def rV (G : Gb) (b : Bool) : RelT D V := fun B ow ρ H v d => if b = true then Den1 G (av B ρ ow) ρ H v d else Den G (av B ρ ow) ρ H v d
def rK (G : Gb) : RelT D V := fun B ow ρ H v d => Den G (av B ρ ow) ρ H v d
def rK1 (G : Gb) : RelT D V := fun B ow ρ H v d => Den1 G (av B ρ ow) ρ H v d
def rKs (G : Gb) : RelT (List D) (List V) := fun B ow ρ H v d => DenL G (av B ρ ow) ρ H v d
def rKs1 (G : Gb) : RelT (List D) (List V) := fun B ow ρ H v d => DenL1 G (av B ρ ow) ρ H v d
def rEqv {α : Type} : RelT α α := fun _ _ _ _ b a => b = a

def iG {α β : Type} (G : Gb) (E0 : XK) (rel : RelT α β) (m : Env → M α) : L2.St → Hp → (β → Hp → Prop) → Prop := fun σ H Q =>
  ∃ B env S ρ ow, Rel G B env S ρ ow σ H ∧ Post G E0 (rel B ow) ρ H (m env S) Q

section
variable {G : Gb} {E0 : XK} {α β γ δ : Type} {rel : Rho → Hp → β → α → Prop} {rel2 : Rho → Hp → δ → γ → Prop} {ρ ρ' : Rho} {H H' : Hp} {Q : β → Hp → Prop} {S S' : Sta}
theorem Post.mono {r : Res α} {Q Q' : β → Hp → Prop} (h : Post G E0 rel ρ H r Q) (k : ∀ b H', Q b H' → Q' b H') : Post G E0 rel ρ H r Q' := by
  cases r with
  | ok a S' => exact fun b H' ρ' st s' r => k _ _ (h b H' ρ' st s' r)
  | exc c S' => exact h
  | bad => exact h
theorem Post.later {r : Res α} (h : Post G E0 rel ρ H r Q) (st : Step ρ H ρ' H') : Post G E0 rel ρ' H' r Q := by
  cases r with
  | ok a S' => exact fun b H2 ρ2 st2 s' r => h b H2 ρ2 (st.trans st2) s' r
  | exc c S' => exact fun H2 ρ2 st2 s' => h H2 ρ2 (st.trans st2) s'
  | bad => exact h
theorem Post.weak {rel' : Rho → Hp → β → α → Prop} {r : Res α} (h : Post G E0 rel ρ H r Q) (k : ∀ ρ' H' b a, rel' ρ' H' b a → rel ρ' H' b a) : Post G E0 rel' ρ H r Q := by
  cases r with
  | ok a S' => exact fun b H2 ρ2 st2 s' r => h b H2 ρ2 st2 s' (k _ _ _ _ r)
  | exc c S' => exact h
  | bad => exact h
theorem go1 {m : Res γ} {f : γ → Sta → Res α} (P : Post G E0 rel ρ H (m.bind f) Q) :
    Post G E0 rel2 ρ H m (fun b H1 => ∃ a S1 ρ1, Step ρ H ρ1 H1 ∧ StRel ρ1 S1 H1 ∧ rel2 ρ1 H1 b a ∧ Post G E0 rel ρ1 H1 (f a S1) Q) := by
  cases m with
  | ok a S1 => exact fun b H1 ρ1 st s1 r1 => ⟨a, S1, ρ1, st, s1, r1, Post.later P st⟩
  | exc c S1 => exact P
  | bad => exact P
end

section
variable {X : Cx}
theorem PE_weak {e : Expr} {t t' : TE} (h : PE X e t) (w : ∀ σ H Q, t' σ H Q → t σ H Q) : PE X e t' := ⟨fun pins s σ H Q I q => h.run pins s σ H Q I (w σ H Q q)⟩
theorem PT_weak {e : Expr} {t t' : TT} (h : PT X e t) (w : ∀ σ H Q, t' σ H Q → t σ H Q) : PT X e t' := ⟨fun pins s σ H Q I q => h.run pins s σ H Q I (w σ H Q q)⟩
theorem PW_weak {e : Expr} {t t' : TT} (h : PW X e t) (w : ∀ σ H Q, t' σ H Q → t σ H Q) : PW X e t' := ⟨fun wh pins s σ H Q I q => h.run wh pins s σ H Q I (w σ H Q q)⟩
theorem PA_weak {es : List Expr} {t t' : TA} (h : PA X es t) (w : ∀ σ H Q, t' σ H Q → t σ H Q) : PA X es t' := ⟨fun pos pins s σ H Q I q => h.run pos pins s σ H Q I (w σ H Q q)⟩
theorem PI_weak {tg e : Expr} {t t' : TI} (h : PI X tg e t) (w : ∀ σ H Q, t' σ H Q → t σ H Q) : PI X tg e t' := ⟨fun pins s σ H Q I q => h.run pins s σ H Q I (w σ H Q q)⟩
theorem PO_weak {e : Option Expr} {t t' : TO} (h : PO X e t) (w : ∀ σ H Q, t' σ H Q → t σ H Q) : PO X e t' := ⟨fun pins s σ H Q I q => h.run pins s σ H Q I (w σ H Q q)⟩
theorem PS_weak {e : Stmt} {t t' : TS} (h : PS X e t) (w : ∀ D σ H, t' D σ H → t D σ H) : PS X e t' := ⟨fun pins s σ H Q I q => h.run pins s σ H Q I (w Q σ H q)⟩
theorem PSs_weak {e : List Stmt} {t t' : TS} (h : PSs X e t) (w : ∀ D σ H, t' D σ H → t D σ H) : PSs X e t' := ⟨fun pins s σ H Q I q => h.run pins s σ H Q I (w Q σ H q)⟩
end

/-! ### values as the library's data -/
section
variable {G : Gb} {B : Addr → Prop} {ρ : Rho} {H : Hp} {K : PySem.W.Frag}
mutual
theorem toDp : ∀ {n : Nat} {d : D} {v : V}, okD n d = true → Den G B ρ H v d → Dp K H v (pyd d)
  | _, _, _, _, .non => .non
  | _, _, _, _, .bl b => .bl b
  | _, _, _, _, .int i => .int i
  | _, _, _, _, .str x => .str x
  | 0, _, _, h, .lst _ _ _ => by simp [okD] at h
  | n + 1, _, _, h, .lst e _ l => .lst (SqL.of e) (toDps (n := n) (by simpa [okD] using h) l)
  | 0, _, _, h, .tup _ _ => by simp [okD] at h
  | n + 1, _, _, h, .tup e l => .tup (SqT.of e) (toDps (n := n) (by simpa [okD] using h) l)
  | 0, _, _, h, .ref _ => by simp [okD] at h
  | n + 1, _, _, h, .ref _ => by simp [okD] at h
  | 0, _, _, h, .scr _ => by simp [okD] at h
  | n + 1, _, _, h, .scr _ => by simp [okD] at h
  | 0, _, _, h, .edict _ _ => by simp [okD] at h
  | 0, _, _, h, .exc _ _ => by simp [okD] at h
  | n + 1, _, _, h, .exc _ _ => by simp [okD] at h
  | n + 1, _, _, h, .edict _ _ => by simp [okD] at h
theorem toDps : ∀ {n : Nat} {ds : List D} {vs : List V}, (∀ d ∈ ds, okD n d = true) → DenL G B ρ H vs ds → DpAll K H vs (pyds ds)
  | _, _, _, _, .nil => .nil
  | _, _, _, h, .cons a l => .cons (toDp (h _ (by simp)) a) (toDps (fun d hd => h d (by simp [hd])) l)
end
theorem toDp1 {n : Nat} {d : D} {v : V} (h : okD n d = true) (q : Den1 G B ρ H v d) : Dp K H v (pyd d) := by
  cases q with
  | of q => exact toDp h q
  | lst e n' l =>
    cases n with
    | zero => simp [okD] at h
    | succ n => exact .lst (SqL.of e) (toDps (n := n) (by simpa [okD] using h) l)
end
mutual
theorem lay_ok : ∀ {n : Nat} {d : D}, okD n d = true → (pyd d).canLay0 = true ∧ (pyd d).depth ≤ n
  | _, .none, _ => by simp [pyd, PyData.canLay0, PyData.depth]
  | _, .bool _, _ => by simp [pyd, PyData.canLay0, PyData.depth]
  | _, .int _, _ => by simp [pyd, PyData.canLay0, PyData.depth]
  | n, .str x, h => by
    have h' : PyData.strOk x = true := by cases n <;> simpa [okD] using h
    simp [pyd, PyData.canLay0, PyData.depth, h']
  | 0, .list ds, h => by simp [okD] at h
  | n + 1, .list ds, h => by
    have q := lays_ok (n := n) (ds := ds) (by simpa [okD] using h)
    simp only [pyd, PyData.canLay0, PyData.depth]
    exact ⟨q.1, by omega⟩
  | 0, .tup ds, h => by simp [okD] at h
  | n + 1, .tup ds, h => by
    have q := lays_ok (n := n) (ds := ds) (by simpa [okD] using h)
    simp only [pyd, PyData.canLay0, PyData.depth]
    exact ⟨q.1, by omega⟩
  | 0, .ref _, h => by simp [okD] at h
  | n + 1, .ref _, h => by simp [okD] at h
  | 0, .scr, h => by simp [okD] at h
  | n + 1, .scr, h => by simp [okD] at h
  | 0, .edict, h => by simp [okD] at h
  | 0, .exc _, h => by simp [okD] at h
  | n + 1, .exc _, h => by simp [okD] at h
  | n + 1, .edict, h => by simp [okD] at h
theorem lays_ok : ∀ {n : Nat} {ds : List D}, (∀ d ∈ ds, okD n d = true) → PyData.canLayAll0 (pyds ds) = true ∧ PyData.depthAll (pyds ds) ≤ n
  | _, [], _ => by simp [pyds, PyData.canLayAll0, PyData.depthAll]
  | n, d :: ds, h => by
    have a := lay_ok (n := n) (h d (by simp))
    have b := lays_ok (n := n) (ds := ds) (fun d hd => h d (by simp [hd]))
    simp only [pyds, PyData.canLayAll0, PyData.depthAll, Bool.and_eq_true]
    exact ⟨⟨a.1, b.1⟩, by omega⟩
end
theorem shaped_ok {n : Nat} {d : D} (h : okD n d = true) (hn : n ≤ 64) : SeqAt.shaped (pyd d) = true := by
  obtain ⟨a, b⟩ := lay_ok h
  unfold SeqAt.shaped
  rw [Bool.and_eq_true]
  exact ⟨a, decide_eq_true (by omega)⟩

theorem size_line {n : Nat} (h : sizeOk n = true) : n ≤ sizeLine := by
  have : n ≤ 1000000 := of_decide_eq_true h
  rw [sizeLine_eq]; omega
theorem size_lineLt {n : Nat} (h : sizeOk n = true) : n + 2 < sizeLine := by
  have : n ≤ 1000000 := of_decide_eq_true h
  rw [sizeLine_eq]; omega

/-! ### rules for all kinds of values -/
section
variable {X : Cx}
def rAddA (K : PySem.W.Frag) : R2 := fun x y H Q => (rI0 fun i j => .int (i + j)) x y H Q ∨ (fun x y H Q => ∃ i j, x = V.str i ∧ y = V.str j ∧ i.length + j.length ≤ sizeLine ∧ Q (.str (i ++ j)) H) x y H Q ∨ rCat x y H Q ∨ rCatA K x y H Q
theorem op_addA : OpR X (binaryOp .Add) (rAddA X.K) := op_add.or (op_add_str.or (op_cat.or op_catA))
def rMulA (K : PySem.W.Frag) : R2 := fun x y H Q => (rI CMulW fun i j => .int (i * j)) x y H Q ∨ rRep x y H Q ∨ rRepT K x y H Q
theorem op_mulA : OpR X (binaryOp .Mult) (rMulA X.K) := op_mulW.or (op_rep.or op_repT)
def CDivA (_ j : Int) : Prop := j ≠ 0 ∧ j.natAbs.log2 < 9000
theorem op_fdivA : OpR X (binaryOp .FloorDiv) (rI CDivA fun i j => .int (i.fdiv j)) := opI fun i j _ _ _ _ _ hc q =>
  PyProof.Rows.floordiv_int hc.1 q (.inl (PyProof.noPylong_of_log2 hc.2))
def rBin (K : PySem.W.Frag) : BOp → R2
  | .add => rAddA K
  | .sub => rI0 fun i j => .int (i - j)
  | .mul => rMulA K
  | .fdiv => rI CDivA fun i j => .int (i.fdiv j)
  | .mod => rI (fun _ j => j ≠ 0) fun i j => .int (i.fmod j)
  | .pow => rI CPow fun i j => .int (i ^ j.toNat)
theorem op_bin {o : BOp} {op : Operator} (h : bopB o op = true) : OpR X (binaryOp op) (rBin X.K o) := by
  cases o <;> cases op <;> first
    | exact absurd h (by decide)
    | exact op_addA
    | exact op_sub
    | exact op_mulA
    | exact op_fdivA
    | exact op_modN
    | exact op_pow
end

section
variable {G : Gb} {B : Addr → Prop} {ρ : Rho} {ow : Nat → Option Addr} {S : Sta} {H : Hp} {K : PySem.W.Frag} {Q : VK} {x y : V} {a b d : D}
/-- what is wanted of the result, over all heaps that grew -/
def Want (G : Gb) (B : Addr → Prop) (ρ : Rho) (H : Hp) (d : D) (Q : VK) : Prop := ∀ v H', Step ρ H ρ H' → StRelKeep ρ H H' → Den G B ρ H' v d → Q v H'
where StRelKeep (ρ : Rho) (H H' : Hp) : Prop := ∀ S, StRel ρ S H → StRel ρ S H'
theorem Want.here {v : V} (w : Want G B ρ H d Q) (h : Den G B ρ H v d) : Q v H := w v H Step.refl (fun _ h => h) h
theorem Want.new {p : Addr} {o : HO} (w : Want G B ρ H d Q) (n : H p = none) (h : Den G B ρ (upd H p o) (.ref p) d) : Q (.ref p) (upd H p o) := w _ _ (Step.new n) (fun _ R => R.new n) h
/-- lists into a heap with one object more -/
theorem DenL.up {vs : List V} {ds : List D} {p : Addr} {o : HO} (hB : ∀ a, inT ρ a → B a) (R : StRel ρ S H) (n : H p = none) (h : DenL G B ρ H vs ds) : DenL G B ρ (upd H p o) vs ds :=
  h.lift hB (fun a q => R.mu q) (Step.new n) (fun _ q => .inl q)
theorem Den.up {v : V} {p : Addr} {o : HO} (hB : ∀ a, inT ρ a → B a) (R : StRel ρ S H) (n : H p = none) (h : Den G B ρ H v d) : Den G B ρ (upd H p o) v d :=
  h.lift hB (fun a q => R.mu q) (Step.new n) (fun _ q => .inl q)
theorem Den.newL {vs : List V} {ds : List D} {p : Addr} (hB : ∀ a, inT ρ a → B a) (hb : ∀ a, B a → H a ≠ none) (R : StRel ρ S H) (n : H p = none) (h : DenL G B ρ H vs ds) : Den G B ρ (upd H p (.lst vs)) (.ref p) (.list ds) :=
  .lst upd_same (fun q => hb p q n) (h.up hB R n)
theorem Den.newT {vs : List V} {ds : List D} {p : Addr} (hB : ∀ a, inT ρ a → B a) (R : StRel ρ S H) (n : H p = none) (h : DenL G B ρ H vs ds) : Den G B ρ (upd H p (.tup vs)) (.ref p) (.tup ds) :=
  .tup upd_same (h.up hB R n)
theorem Den1.list_inv {ds : List D} (h : Den1 G B ρ H x (.list ds)) : ∃ p xs, x = .ref p ∧ H p = some (.lst xs) ∧ DenL G B ρ H xs ds := by
  cases h with
  | of h => cases h with | lst e _ l => exact ⟨_, _, rfl, e, l⟩
  | lst e _ l => exact ⟨_, _, rfl, e, l⟩
theorem Den1.tup_inv {ds : List D} (h : Den1 G B ρ H x (.tup ds)) : ∃ p xs, x = .ref p ∧ H p = some (.tup xs) ∧ DenL G B ρ H xs ds := by
  cases h with
  | of h => cases h with | tup e l => exact ⟨_, _, rfl, e, l⟩
theorem Den1.int_inv {i : Int} (h : Den1 G B ρ H x (.int i)) : x = .int i := by
  cases h with
  | of h => cases h; rfl
theorem Den1.str_inv {i : Str} (h : Den1 G B ρ H x (.str i)) : x = .str i := by
  cases h with
  | of h => cases h; rfl
theorem Den1.bl_inv {i : Bool} (h : Den1 G B ρ H x (.bool i)) : x = .bl i := by
  cases h with
  | of h => cases h; rfl
theorem Den1.non_iff (h : Den1 G B ρ H x a) : (decide (x = .non)) = (match a with | .none => true | _ => false) := by
  cases h with
  | of h => cases h <;> rfl
  | lst _ _ _ => rfl

theorem bin_ok {o : BOp} (hB : ∀ a, inT ρ a → B a) (hb : ∀ a, B a → H a ≠ none) (R : StRel ρ S H) (h : binop o a b = some d) (hx : Den1 G B ρ H x a) (hy : Den1 G B ρ H y b) (w : Want G B ρ H d Q) : rBin K o x y H Q := by
  cases o with
  | add =>
    cases a <;> cases b <;> simp only [binop] at h <;> try (cases h; done)
    · cases h
      exact .inl ⟨_, _, hx.int_inv, hy.int_inv, w.here (.int _)⟩
    · split at h
      · rename_i hs
        cases h
        exact .inr (.inl ⟨_, _, hx.str_inv, hy.str_inv, size_line hs, w.here (.str _)⟩)
      · cases h
    · split at h
      · rename_i hs
        cases h
        obtain ⟨p, xs, rfl, e1, l1⟩ := hx.list_inv
        obtain ⟨q, ys, rfl, e2, l2⟩ := hy.list_inv
        refine .inr (.inr (.inl ⟨p, q, xs, ys, rfl, rfl, e1, e2, ?_, fun r hr => w.new hr (Den.newL hB hb R hr (l1.append l2))⟩))
        rw [l1.length, l2.length]; exact size_line hs
      · cases h
    · split at h
      · rename_i hs
        cases h
        obtain ⟨p, xs, rfl, e1, l1⟩ := hx.tup_inv
        obtain ⟨q, ys, rfl, e2, l2⟩ := hy.tup_inv
        refine .inr (.inr (.inr ⟨p, q, xs, ys, rfl, rfl, .of e1, .of e2, ?_, fun h0 => ?_, fun _ h0 => ?_, fun _ _ r hr => w.new hr (Den.newT hB R hr (l1.append l2))⟩))
        · rw [l1.length, l2.length]; exact size_line hs
        · subst h0
          cases l1
          exact w.here (.tup e2 l2)
        · subst h0
          cases l2
          rw [List.append_nil] at w
          exact w.here (.tup e1 l1)
      · cases h
  | sub =>
    cases a <;> cases b <;> simp only [binop] at h <;> try (cases h; done)
    cases h
    exact ⟨_, _, hx.int_inv, hy.int_inv, w.here (.int _)⟩
  | mul =>
    cases a <;> cases b <;> simp only [binop] at h <;> try (cases h; done)
    · split at h
      · rename_i hs
        cases h
        exact .inl ⟨_, _, hx.int_inv, hy.int_inv, (show _ + _ < _ from of_decide_eq_true hs), w.here (.int _)⟩
      · cases h
    · rename_i ds k
      split at h
      · rename_i hs
        cases h
        simp only [Bool.and_eq_true, decide_eq_true_eq] at hs
        obtain ⟨p, xs, rfl, e1, l1⟩ := hx.list_inv
        refine .inr (.inl ⟨p, k, xs, rfl, hy.int_inv, e1, by omega, by omega, ?_, fun r hr => w.new hr (Den.newL hB hb R hr (l1.rep _))⟩)
        have := Nat.mul_le_mul (show xs.length ≤ 1000 by rw [l1.length]; exact hs.2) (show k.toNat ≤ 1000 by omega)
        rw [sizeLine_eq]; omega
      · cases h
    · rename_i ds k
      split at h
      · rename_i hs
        cases h
        simp only [Bool.and_eq_true, decide_eq_true_eq, Bool.not_eq_true', List.isEmpty_eq_false_iff] at hs
        obtain ⟨p, xs, rfl, e1, l1⟩ := hx.tup_inv
        refine .inr (.inr ⟨p, k, xs, rfl, hy.int_inv, .of e1, fun e => hs.2 ?_, by omega, by omega, by rw [l1.length]; exact hs.1.2, fun r hr => w.new hr (Den.newT hB R hr (l1.rep _))⟩)
        subst e
        cases l1; rfl
      · cases h
  | fdiv =>
    cases a <;> cases b <;> simp only [binop] at h <;> try (cases h; done)
    split at h
    · rename_i hs
      cases h
      simp only [divOk, Bool.and_eq_true, decide_eq_true_eq] at hs
      exact ⟨_, _, hx.int_inv, hy.int_inv, hs, w.here (.int _)⟩
    · cases h
  | mod =>
    cases a <;> cases b <;> simp only [binop] at h <;> try (cases h; done)
    split at h
    · cases h
    · rename_i hs
      cases h
      exact ⟨_, _, hx.int_inv, hy.int_inv, hs, w.here (.int _)⟩
  | pow =>
    cases a <;> cases b <;> simp only [binop] at h <;> try (cases h; done)
    split at h
    · rename_i hs
      cases h
      simp only [Bool.and_eq_true, decide_eq_true_eq] at hs
      exact ⟨_, _, hx.int_inv, hy.int_inv, ⟨hs.1.1, by omega, hs.2⟩, w.here (.int _)⟩
    · cases h
end
end Q7

/-! The operations on values, further: comparisons, truth, items, built-ins. -/
namespace Q7
open PySem L2

/-- the world of values at a heap -/
structure Wl (G : Gb) (B : Addr → Prop) (ρ : Rho) (H : Hp) : Prop where
  hB : ∀ a, inT ρ a → B a
  hb : ∀ a, B a → H a ≠ none
  st : ∃ S, StRel ρ S H
theorem Rel.wl {G : Gb} {B : Addr → Prop} {env : Env} {S : Sta} {ρ : Rho} {ow : Nat → Option Addr} {σ : L2.St} {H : Hp} (R : Rel G B env S ρ ow σ H) : Wl G (av B ρ ow) ρ H :=
  ⟨fun _ q => .inr (.inl q), R.tr, S, R.st⟩

section
variable {X : Cx}
theorem room_in {da db : PyData} {A : Around} (h : SeqAt.shaped da = true) (hu : A.units + 70 < cLine) (k : Nat) (hk : k ≤ 5) : A.units + k + min da.depth db.depth < cLine := by
  unfold SeqAt.shaped at h
  rw [Bool.and_eq_true] at h
  have := of_decide_eq_true h.2
  have h2 : min da.depth db.depth ≤ da.depth := Nat.min_le_left _ _
  omega
theorem pyds_map (ds : List D) : pyds ds = ds.map pyd := by
  induction ds with
  | nil => rfl
  | cons d ds ih => simp [pyds, ih]
def rCmp (K : PySem.W.Frag) (o : COp) : R2 := fun x y H Q => ∃ G B ρ a b k, cmpop o a b = some k ∧ Den1 G B ρ H x a ∧ Den1 G B ρ H y b ∧ Q (.bl k) H
theorem op_cmp (hu : X.A.units + 100 < cLine) {o : COp} {op : CmpOp} (ho : copB o op = true) : OpR X (compareOp op) (rCmp X.K o) := by
  intro pins s σ H x y v u Q I rx ry ⟨G, B, ρ, a, b, k, hk, da, db, q⟩
  have fin : ∀ {k' : Bool}, k = k' → EP X pins σ Q (.bool k') s := fun e => fin_bl I q e
  have eq_case : ∀ k0, eqO a b = some k0 → (k0 = eqD a b ∧ ∃ as bs, Reads s.heap v (pyd a) as ∧ Reads s.heap u (pyd b) bs ∧ SeqAt.shaped (pyd a) = true ∧ SeqAt.shaped (pyd b) = true) := fun k0 e => by
    unfold eqO at e
    split at e
    · rename_i h
      rw [Bool.and_eq_true] at h
      cases e
      obtain ⟨as, r1⟩ := Dp.reads I (pyd a) x v (toDp1 h.1 da) rx
      obtain ⟨bs, r2⟩ := Dp.reads I (pyd b) y u (toDp1 h.2 db) ry
      exact ⟨rfl, as, bs, r1, r2, shaped_ok h.1 (by decide), shaped_ok h.2 (by decide)⟩
    · cases e
  have mem_case : ∀ ds k0, memO a ds = some k0 → (k0 = (pyds ds).any (fun z => PyData.eqv z (pyd a)) ∧ ∃ as, Reads s.heap v (pyd a) as ∧ SeqAt.shaped (pyd a) = true ∧ (∀ d ∈ ds, okD 59 d = true)) := fun ds k0 e => by
    unfold memO at e
    split at e
    · rename_i h
      rw [Bool.and_eq_true] at h
      cases e
      obtain ⟨as, r1⟩ := Dp.reads I (pyd a) x v (toDp1 h.1 da) rx
      refine ⟨?_, as, r1, shaped_ok h.1 (by decide), fun d hd => List.all_eq_true.mp h.2 d hd⟩
      rw [pyds_map, List.any_map]; rfl
    · cases e
  cases o with
  | eq =>
    cases op <;> first | exact absurd ho (by decide) | skip
    simp only [cmpop] at hk
    obtain ⟨e, as, bs, r1, r2, s1, s2⟩ := eq_case k hk
    exact SeqAt.compareEq_shaped r1 r2 s1 s2 (by omega) (fin e)
  | ne =>
    cases op <;> first | exact absurd ho (by decide) | skip
    simp only [cmpop, Option.map_eq_some_iff] at hk
    obtain ⟨k0, h0, e0⟩ := hk
    obtain ⟨e, as, bs, r1, r2, s1, s2⟩ := eq_case k0 h0
    exact SeqAt.compareNe_shaped r1 r2 s1 s2 (by omega) (fin (by rw [← e0, e]; rfl))
  | lt =>
    cases op <;> first | exact absurd ho (by decide) | skip
    cases a <;> cases b <;> simp only [cmpop] at hk <;> try (cases hk; done)
    · cases hk
      cases da.int_inv
      cases db.int_inv
      obtain ⟨t, rfl⟩ := rx
      obtain ⟨t', rfl⟩ := ry
      exact PyProof.Rows.lt_int (fin rfl)
    · split at hk
      · rename_i h
        cases hk
        simp only [cmpOk, Bool.and_eq_true] at h
        obtain ⟨as, r1⟩ := Dp.reads I _ x v (toDp1 h.1.1.1 da) rx
        obtain ⟨bs, r2⟩ := Dp.reads I _ y u (toDp1 h.1.1.2 db) ry
        refine PySem.W.lt_data r1 r2 h.1.2 (by simp [pyd]) (by have := (lay_ok h.1.1.1).2; omega) (fin rfl)
      · cases hk
  | le =>
    cases op <;> first | exact absurd ho (by decide) | skip
    cases a <;> cases b <;> simp only [cmpop] at hk <;> try (cases hk; done)
    · cases hk
      cases da.int_inv
      cases db.int_inv
      obtain ⟨t, rfl⟩ := rx
      obtain ⟨t', rfl⟩ := ry
      exact PyProof.Rows.le_int (fin rfl)
    · split at hk
      · rename_i h
        cases hk
        simp only [cmpOk, Bool.and_eq_true] at h
        obtain ⟨as, r1⟩ := Dp.reads I _ x v (toDp1 h.1.1.1 da) rx
        obtain ⟨bs, r2⟩ := Dp.reads I _ y u (toDp1 h.1.1.2 db) ry
        refine PySem.W.le_data r1 r2 h.1.2 (by simp [pyd]) (by have := (lay_ok h.1.1.1).2; omega) (fin rfl)
      · cases hk
  | gt =>
    cases op <;> first | exact absurd ho (by decide) | skip
    cases a <;> cases b <;> simp only [cmpop] at hk <;> try (cases hk; done)
    cases hk
    cases da.int_inv
    cases db.int_inv
    obtain ⟨t, rfl⟩ := rx
    obtain ⟨t', rfl⟩ := ry
    exact PyProof.Rows.gt_int (fin rfl)
  | ge =>
    cases op <;> first | exact absurd ho (by decide) | skip
    cases a <;> cases b <;> simp only [cmpop] at hk <;> try (cases hk; done)
    cases hk
    cases da.int_inv
    cases db.int_inv
    obtain ⟨t, rfl⟩ := rx
    obtain ⟨t', rfl⟩ := ry
    exact PyProof.Rows.ge_int (fin rfl)
  | is =>
    cases op <;> first | exact absurd ho (by decide) | skip
    have non_case : b = .none → k = decide (x = .non) → wpAny (model X.prog X.w) X.A (compareOp .Is v u) (EP X pins σ Q) X.xe s := fun eb ek => by
      subst eb
      have ey : y = .non := by cases db with | of h => cases h; rfl
      exact op_isN pins s σ H x y v u Q I rx ry ⟨ey, by rw [← ek]; exact q⟩
    cases b with
    | none => exact non_case rfl (by rw [da.non_iff]; cases a <;> simp only [cmpop, Option.some.injEq] at hk <;> exact hk.symm)
    | bool b =>
      cases a <;> simp only [cmpop] at hk <;> try (cases hk; done)
      cases hk
      exact op_is_bl pins s σ H x y v u Q I rx ry ⟨_, _, da.bl_inv, db.bl_inv, q⟩
    | _ => cases a <;> simp only [cmpop] at hk <;> cases hk
  | isnot =>
    cases op <;> first | exact absurd ho (by decide) | skip
    have non_case : b = .none → k = !decide (x = .non) → wpAny (model X.prog X.w) X.A (compareOp .IsNot v u) (EP X pins σ Q) X.xe s := fun eb ek => by
      subst eb
      have ey : y = .non := by cases db with | of h => cases h; rfl
      exact op_notN pins s σ H x y v u Q I rx ry ⟨ey, by rw [← ek]; exact q⟩
    cases b with
    | none => exact non_case rfl (by rw [da.non_iff]; cases a <;> simp only [cmpop, Option.some.injEq] at hk <;> rw [← hk] <;> rfl)
    | bool b =>
      cases a <;> simp only [cmpop] at hk <;> try (cases hk; done)
      cases hk
      exact op_isnot_bl pins s σ H x y v u Q I rx ry ⟨_, _, da.bl_inv, db.bl_inv, q⟩
    | _ => cases a <;> simp only [cmpop] at hk <;> cases hk
  | inn =>
    cases op <;> first | exact absurd ho (by decide) | skip
    have lst_case : ∀ ds, b = .list ds → memO a ds = some k → wpAny (model X.prog X.w) X.A (compareOp .In v u) (EP X pins σ Q) X.xe s := fun ds eb hm => by
      subst eb
      obtain ⟨e, as, r1, s1, all⟩ := mem_case ds k hm
      obtain ⟨p, xs, rfl, e1, l1⟩ := db.list_inv
      obtain ⟨bs, r2⟩ := Dp.reads I (.list (pyds ds)) (.ref p) u (.lst (SqL.of e1) (toDps all l1)) ry
      exact SeqAt.in_list_reads r2 r1 (lays_ok all).1 (SeqAt.canLay_of_shaped s1) (by have h2 := (lays_ok all).2; omega) (fin e)
    have tup_case : ∀ ds, b = .tup ds → memO a ds = some k → wpAny (model X.prog X.w) X.A (compareOp .In v u) (EP X pins σ Q) X.xe s := fun ds eb hm => by
      subst eb
      obtain ⟨e, as, r1, s1, all⟩ := mem_case ds k hm
      obtain ⟨p, xs, rfl, e1, l1⟩ := db.tup_inv
      obtain ⟨bs, r2⟩ := Dp.reads I (.tuple (pyds ds)) (.ref p) u (.tup (SqT.of e1) (toDps all l1)) ry
      exact SeqAt.in_tuple_reads r2 r1 (lays_ok all).1 (SeqAt.canLay_of_shaped s1) (by have h2 := (lays_ok all).2; omega) (fin e)
    cases b with
    | list ds => exact lst_case ds rfl (by cases a <;> simpa only [cmpop] using hk)
    | tup ds => exact tup_case ds rfl (by cases a <;> simpa only [cmpop] using hk)
    | str z =>
      cases a <;> simp only [cmpop] at hk <;> try (cases hk; done)
      rename_i x0
      split at hk
      · rename_i c hc
        cases hk
        refine op_in_sign pins s σ H x y v u Q I rx ry ⟨c, z, ?_, db.str_inv, q⟩
        rw [da.str_inv]
        congr 1
        exact Str.ext' (Array.toList_inj.mp (by simpa using hc))
      · cases hk
    | _ => cases a <;> simp only [cmpop] at hk <;> cases hk
  | notin =>
    cases op <;> first | exact absurd ho (by decide) | skip
    have lst_case : ∀ ds, b = .list ds → (memO a ds).map (!·) = some k → wpAny (model X.prog X.w) X.A (compareOp .NotIn v u) (EP X pins σ Q) X.xe s := fun ds eb hm => by
      subst eb
      obtain ⟨k0, h0, e0⟩ := Option.map_eq_some_iff.mp hm
      obtain ⟨e, as, r1, s1, all⟩ := mem_case ds k0 h0
      obtain ⟨p, xs, rfl, e1, l1⟩ := db.list_inv
      obtain ⟨bs, r2⟩ := Dp.reads I (.list (pyds ds)) (.ref p) u (.lst (SqL.of e1) (toDps all l1)) ry
      exact SeqAt.notIn_list_reads r2 r1 (lays_ok all).1 (SeqAt.canLay_of_shaped s1) (by have h2 := (lays_ok all).2; omega) (fin (by rw [← e0, e]))
    have tup_case : ∀ ds, b = .tup ds → (memO a ds).map (!·) = some k → wpAny (model X.prog X.w) X.A (compareOp .NotIn v u) (EP X pins σ Q) X.xe s := fun ds eb hm => by
      subst eb
      obtain ⟨k0, h0, e0⟩ := Option.map_eq_some_iff.mp hm
      obtain ⟨e, as, r1, s1, all⟩ := mem_case ds k0 h0
      obtain ⟨p, xs, rfl, e1, l1⟩ := db.tup_inv
      obtain ⟨bs, r2⟩ := Dp.reads I (.tuple (pyds ds)) (.ref p) u (.tup (SqT.of e1) (toDps all l1)) ry
      exact SeqAt.notIn_tuple_reads r2 r1 (lays_ok all).1 (SeqAt.canLay_of_shaped s1) (by have h2 := (lays_ok all).2; omega) (fin (by rw [← e0, e]))
    cases b with
    | list ds => exact lst_case ds rfl (by cases a <;> simpa only [cmpop] using hk)
    | tup ds => exact tup_case ds rfl (by cases a <;> simpa only [cmpop] using hk)
    | _ => cases a <;> simp only [cmpop] at hk <;> cases hk

theorem tru_of {G : Gb} {B : Addr → Prop} {ρ : Rho} {H : Hp} {x : V} {d : D} {k : Bool} {K : PySem.W.Frag} (h : truth d = some k) (q : Den1 G B ρ H x d) : TruV K x H k := by
  cases d with
  | none => cases q with | of q => cases q; cases h; exact rfl
  | bool b => cases q.bl_inv; cases h; exact rfl
  | int i => cases q.int_inv; cases h; exact rfl
  | str s =>
    cases q.str_inv
    simp only [truth] at h
    split at h
    · rename_i hs; cases h; exact ⟨size_line hs, rfl⟩
    · cases h
  | list ds =>
    obtain ⟨p, xs, rfl, e, l⟩ := q.list_inv
    cases h
    refine .inl ⟨xs, SqL.of e, ?_⟩
    cases l <;> rfl
  | tup ds =>
    obtain ⟨p, xs, rfl, e, l⟩ := q.tup_inv
    cases h
    refine .inr (.inl ⟨xs, SqT.of e, ?_⟩)
    cases l <;> rfl
  | _ => cases h

/-! ### items, slices -/
theorem at_ok {G : Gb} {B : Addr → Prop} {ρ : Rho} {H : Hp} {xs : List V} {ds : List D} {i : Int} {d : D} (l : DenL G B ρ H xs ds) (h : L2.atI ds i = some d) : ∃ v, L2.atI xs i = some v ∧ Den G B ρ H v d := by
  unfold L2.atI at h ⊢
  rw [l.length]
  cases e : L2.ixN ds.length i with
  | none => rw [e] at h; cases h
  | some j =>
    rw [e] at h
    exact l.get h
theorem idx_ok {G : Gb} {B : Addr → Prop} {ρ : Rho} {H : Hp} {K : PySem.W.Frag} {Q : VK} {x y : V} {a b d : D} (h : getitem a b = some d) (hx : Den1 G B ρ H x a) (hy : Den1 G B ρ H y b) (w : ∀ v, Den G B ρ H v d → Q v H) : rIx K x y H Q := by
  cases a <;> cases b <;> simp only [getitem] at h <;> try (cases h; done)
  · split at h
    · rename_i hs
      obtain ⟨c, hc, e⟩ := Option.map_eq_some_iff.mp h
      cases e
      exact .inr (.inr ⟨_, _, c, hx.str_inv, hy.int_inv, size_line hs, hc, w _ (.str _)⟩)
    · cases h
  · obtain ⟨p, xs, rfl, e, l⟩ := hx.list_inv
    obtain ⟨v, h1, h2⟩ := at_ok l h
    exact .inl ⟨p, xs, _, v, rfl, hy.int_inv, SqL.of e, h1, w v h2⟩
  · obtain ⟨p, xs, rfl, e, l⟩ := hx.tup_inv
    obtain ⟨v, h1, h2⟩ := at_ok l h
    exact .inr (.inl ⟨p, xs, _, v, rfl, hy.int_inv, SqT.of e, h1, w v h2⟩)
def rSlAll (K : PySem.W.Frag) : V → Option Int → Option Int → Hp → VK → Prop := fun x lo hi H Q => rSlL K x lo hi H Q ∨ rSlA K x lo hi H Q ∨ rSlS x lo hi H Q
theorem sl_all : SlR X (rSlAll X.K) := sl_list.or (sl_tupA.or sl_str)
theorem DenL.cut {G : Gb} {B : Addr → Prop} {ρ : Rho} {H : Hp} {xs : List V} {ds : List D} (l : DenL G B ρ H xs ds) (lo hi : Option Int) : DenL G B ρ H (cutV xs lo hi) (cut ds lo hi) := by
  unfold cutV Q7.cut
  rw [l.length]
  exact (l.drop _).take _
theorem slice_ok {G : Gb} {B : Addr → Prop} {ρ : Rho} {H : Hp} {K : PySem.W.Frag} {Q : VK} {x : V} {a d : D} {lo hi : Option Int} (W : Wl G B ρ H) (h : slice a lo hi = some d) (hx : Den1 G B ρ H x a) (w : Want G B ρ H d Q) : rSlAll K x lo hi H Q := by
  obtain ⟨S, R⟩ := W.st
  cases a <;> simp only [slice] at h <;> try (cases h; done)
  · split at h
    · rename_i hs
      cases h
      exact .inr (.inr ⟨_, hx.str_inv, size_line hs, w.here (.str _)⟩)
    · cases h
  · cases h
    obtain ⟨p, xs, rfl, e, l⟩ := hx.list_inv
    exact .inl ⟨p, xs, rfl, SqL.of e, fun r hr => w.new hr (Den.newL W.hB W.hb R hr (l.cut lo hi))⟩
  · rename_i ds
    cases h
    obtain ⟨p, xs, rfl, e, l⟩ := hx.tup_inv
    refine .inr (.inl ⟨p, xs, rfl, SqT.of e, fun hw => ?_, fun _ r hr => w.new hr (Den.newT W.hB R hr (l.cut lo hi))⟩)
    have : Q7.cut ds lo hi = ds := by
      unfold Q7.cut
      rw [← l.length, hw.1, hw.2]
      simp [l.length]
    rw [this] at w
    exact w.here (.tup e l)
end
end Q7

/-! max of four whole numbers. -/
namespace Q7
open PySem L2 PyProof.Rows
theorem best4 (bt : Nat → Nat → Bool) (f : Nat → Int) (hb : ∀ i j, bt i j = decide (f i > f j)) : f (argBest bt 3) = max4 (f 0) (f 1) (f 2) (f 3) := by
  have e1 : f (argBest bt 1) = if f 1 > f 0 then f 1 else f 0 := by
    show f (if bt 1 0 then 1 else 0) = _
    rw [hb]
    by_cases h : f 1 > f 0 <;> simp [h]
  have e2 : f (argBest bt 2) = if f 2 > f (argBest bt 1) then f 2 else f (argBest bt 1) := by
    show f (if bt 2 (argBest bt 1) then 2 else argBest bt 1) = _
    rw [hb]
    by_cases h : f 2 > f (argBest bt 1) <;> simp [h]
  have e3 : f (argBest bt 3) = if f 3 > f (argBest bt 2) then f 3 else f (argBest bt 2) := by
    show f (if bt 3 (argBest bt 2) then 3 else argBest bt 2) = _
    rw [hb]
    by_cases h : f 3 > f (argBest bt 2) <;> simp [h]
  rw [e3, e2, e1]
  rfl
theorem args_max4 (p q r t : Value) : argsOk "max" ⟨[p, q, r, t], []⟩ := by unfold argsOk; kernel_rfl
section
variable {prog : Program} {w : World} {A : Around} {E : Value → Shared → Prop} {s : Shared}
theorem max_many {p q r t : Value} {Q : Value → Shared → Prop}
    (h : wpAny (model prog w) A.in1 (pyIter (.ref s.heap.objs.size)) (fun it z => ∃ I fp wr n P St bt, it = .ref I ∧ Walks prog w A.in1 I fp wr n P St ∧ St 0 z.heap ∧ (∀ b ∈ fp, b < z.heap.objs.size) ∧ 0 < n ∧ CmpOf prog w A.in1 .Gt P bt ∧ ∀ v hp tk, P (argBest bt (n - 1)) v → (∀ b o, b ∉ wr → z.heap.get? b = some o → hp.get? b = some o) → Q v { z with heap := hp, toks := tk }) E { s with heap := s.heap.push { cls := .type "tuple", data := .seq #[p, q, r, t] } }) :
    wpAny (model prog w) A (call (.builtin "max") [p, q, r, t]) Q E s := by
  have nm : (toString "max" ++ toString ".loop" : String) = "max.loop" := by decide
  refine call_function_tree F.kind_max F.plain_max F.entry_max (args_max4 _ _ _ _) ?_
  show wpAny _ A.in1 (PySem.Builtin.Builtins.bindParams "max" ["key", "default"] 0 ⟨[], []⟩ >>= _) _ _ s
  refine wpAny_bind (wpAny_of_eq (show PySem.Builtin.Builtins.bindParams "max" ["key", "default"] 0 ⟨[], []⟩ = pure [none, none] from rfl) ?_)
  show wpAny _ A.in1 (newTuple [p, q, r, t] >>= _) _ _ s
  refine wpAny_bind (wpAny_newObj_type (wpAny_bind (wpAny_mono h (fun it z hz => ?_) fun _ _ e => e)))
  obtain ⟨I, fp, wr, n, P, St, bt, rfl, W, w1, w2, w3, w4, w5⟩ := hz
  have out : z.heap.objs.size ∉ fp := fun m => Nat.lt_irrefl _ (w2 _ m)
  refine wpAny_bind (wpAny_newObj_type ?_)
  rw [nm]
  refine wpAny_pure ⟨plainId_quiet F.plain_max_loop _, codeAny_max_loop_first W bt w4 z.heap.objs.size out w3 (W.frame _ _ _ w1 fun b _ o e => Heap.get?_push_of_some _ e) (Heap.get?_push_size _ rfl) fun v hp tk y1 y2 => ?_⟩
  exact w5 v hp tk y1 fun b o nb e => y2 b o nb (Nat.ne_of_lt (Heap.lt_size e)) (Heap.get?_push_of_some _ e)
theorem max_four {a b c d : Int} {t u x y : Tok} {Q : Value → Shared → Prop} (hh : A.handled = none)
    (h : ∀ v hp tk, (∃ tt, v = .int (max4 a b c d) tt) → (∀ e o, s.heap.get? e = some o → hp.get? e = some o) → Q v { s with heap := hp, toks := tk }) :
    wpAny (model prog w) A (call (.builtin "max") [.int a t, .int b u, .int c x, .int d y]) Q E s := by
  generalize har : (#[(a, t), (b, u), (c, x), (d, y)] : Array (Int × Tok)) = arr
  have hT : (s.heap.push { cls := .type "tuple", data := .seq #[.int a t, .int b u, .int c x, .int d y] }).IsTuple s.heap.objs.size (intItems arr) := ⟨_, Heap.get?_push_size _ rfl, rfl, 0, by rw [← har]; simp [intItems]⟩
  have ln : (intItems arr).size = 4 := by rw [← har]; simp [intItems]
  refine max_many (wpAny_pyIter_tuple hT ?_)
  have sz : (s.heap.push { cls := .type "tuple", data := .seq #[.int a t, .int b u, .int c x, .int d y] }).objs.size = s.heap.objs.size + 1 := Heap.size_push ..
  refine ⟨_, [_, s.heap.objs.size], [_], _, _, _, _, rfl, Walks.tuple (A := A.in1) hh _ s.heap.objs.size (by rw [sz]; exact Nat.ne_of_lt (Nat.lt_succ_self _)) (intItems arr), ⟨⟨_, Heap.get?_push_size _ rfl, rfl, rfl⟩, hT.push _⟩, fun e he => ?_, by rw [ln]; decide, CmpOf.ints_gt (numAt arr) (fun _ _ => intItems_at), fun v hp tk y1 y2 => ?_⟩
  · show e < ((s.heap.push _).push _).objs.size
    rw [Heap.size_push, sz]
    simp only [List.mem_cons, List.not_mem_nil, or_false] at he
    rcases he with rfl | rfl
    · rw [sz]; exact Nat.lt_succ_self _
    · exact Nat.lt_succ_of_lt (Nat.lt_succ_self _)
  · refine h v hp tk ?_ fun e o eo => ?_
    · rw [ln] at y1
      obtain ⟨tt, rfl⟩ := intItems_at y1
      refine ⟨tt, ?_⟩
      rw [best4 _ (numAt arr) (fun _ _ => rfl), ← har]
      rfl
    · refine y2 e o (fun m => ?_) (Heap.get?_push_of_some _ (Heap.get?_push_of_some _ eo))
      have l1 := Heap.lt_size eo
      rw [List.mem_singleton.mp m, sz] at l1
      exact absurd (Nat.lt_of_succ_lt l1) (Nat.lt_irrefl _)
end
theorem vals4 {x y z q : V} {us : List Value} (r : Vals [x, y, z, q] us) : ∃ a b c d, us = [a, b, c, d] ∧ RelV x a ∧ RelV y b ∧ RelV z c ∧ RelV q d := by
  cases r with
  | cons r1 r =>
    cases r with
    | cons r2 r =>
      cases r with
      | cons r3 r =>
        cases r with
        | cons r4 r => cases r; exact ⟨_, _, _, _, rfl, r1, r2, r3, r4⟩
theorem call_max4 {X : Cx} (hc : X.calm = true) : CallR X (.builtin "max") (fun xs H Q => ∃ i j k l, xs = [.int i, .int j, .int k, .int l] ∧ Q (.int (max4 i j k l)) H) := by
  intro pins s σ H xs us Q I r h
  obtain ⟨i, j, k, l, rfl, q⟩ := h
  obtain ⟨a, b, c, d, rfl, ⟨t1, rfl⟩, ⟨t2, rfl⟩, ⟨t3, rfl⟩, ⟨t4, rfl⟩⟩ := vals4 r
  refine max_four (I.ok.hd hc) fun v hp tk hv kk => ?_
  obtain ⟨tt, rfl⟩ := hv
  exact ⟨.int (max4 i j k l), H, I.kept kk, ⟨_, rfl⟩, q⟩
end Q7

/-! Built-in functions and methods on values. -/
namespace Q7
open PySem L2 PyProof.Rows

section
variable {X : Cx} {G : Gb} {B : Addr → Prop} {ρ : Rho} {H : Hp}
theorem DenL1.one {xs : List V} {d : D} (h : DenL1 G B ρ H xs [d]) : ∃ x, xs = [x] ∧ Den1 G B ρ H x d := by
  cases h with
  | cons a t => cases t; exact ⟨_, rfl, a⟩
theorem DenL1.two {xs : List V} {d e : D} (h : DenL1 G B ρ H xs [d, e]) : ∃ x y, xs = [x, y] ∧ Den1 G B ρ H x d ∧ Den1 G B ρ H y e := by
  cases h with
  | cons a t =>
    cases t with
    | cons b t => cases t; exact ⟨_, _, rfl, a, b⟩
theorem DenL1.four {xs : List V} {d e f g : D} (h : DenL1 G B ρ H xs [d, e, f, g]) : ∃ x y z q, xs = [x, y, z, q] ∧ Den1 G B ρ H x d ∧ Den1 G B ρ H y e ∧ Den1 G B ρ H z f ∧ Den1 G B ρ H q g := by
  cases h with
  | cons a t =>
    cases t with
    | cons b t =>
      cases t with
      | cons c t =>
        cases t with
        | cons d t => cases t; exact ⟨_, _, _, _, rfl, a, b, c, d⟩
theorem DenL1.len {xs : List V} {ds : List D} (h : DenL1 G B ρ H xs ds) : xs.length = ds.length := h.length

/-- the truth of each item -/
theorem truths_of {prog : Program} {w : World} {A : Around} : ∀ {ds : List D} {bs : List Bool} {xs : List V} {its : List Value}, truths ds = some bs → DenL G B ρ H xs ds → Vals xs its → TruthOf prog w A (fun i v => its.toArray[i]? = some v) (fun i => bs.getD i false)
  | [], _, _, _, _, .nil, .nil => fun i v s Q E hv _ => by simp at hv
  | d :: ds, bs, _, _, hb, .cons (v := x) hd hl, .cons (b := u) r rr => fun i v s Q E hv hq => by
    have key : ∃ b bs', bs = b :: bs' ∧ truths ds = some bs' ∧ ∀ (s : Shared) (Q : Bool → Shared → Prop) (E : Value → Shared → Prop), Q b s → wpAny (model prog w) A (truthy u) Q E s := by
      cases hd with
      | bl b =>
        simp only [truths, Option.map_eq_some_iff] at hb
        obtain ⟨bs', h1, h2⟩ := hb
        cases r
        exact ⟨b, bs', h2.symm, h1, fun s Q E q => wpAny_truthy_bool q⟩
      | int j =>
        simp only [truths, Option.map_eq_some_iff] at hb
        obtain ⟨bs', h1, h2⟩ := hb
        obtain ⟨t, rfl⟩ := r
        exact ⟨j != 0, bs', h2.symm, h1, fun s Q E q => PySem.P.truthy_int q⟩
      | _ => simp [truths] at hb
    obtain ⟨b, bs', rfl, h1, h2⟩ := key
    cases i with
    | zero =>
      simp at hv
      subst hv
      exact h2 s Q E (by simpa using hq)
    | succ i =>
      exact truths_of (prog := prog) (w := w) (A := A) h1 hl rr i v s Q E (by simpa using hv) (by simpa using hq)
theorem truths_len : ∀ {ds : List D} {bs : List Bool}, truths ds = some bs → bs.length = ds.length
  | [], bs, h => by cases h; rfl
  | .bool b :: r, bs, h => by
    simp only [truths, Option.map_eq_some_iff] at h
    obtain ⟨bs', h1, h2⟩ := h
    rw [← h2]; simp [truths_len h1]
  | .int b :: r, bs, h => by
    simp only [truths, Option.map_eq_some_iff] at h
    obtain ⟨bs', h1, h2⟩ := h
    rw [← h2]; simp [truths_len h1]
  | .none :: r, bs, h => by simp [truths] at h
  | .str _ :: r, bs, h => by simp [truths] at h
  | .list _ :: r, bs, h => by simp [truths] at h
  | .tup _ :: r, bs, h => by simp [truths] at h
  | .ref _ :: r, bs, h => by simp [truths] at h
  | .scr :: r, bs, h => by simp [truths] at h
  | .edict :: r, bs, h => by simp [truths] at h
  | .exc _ :: r, bs, h => by simp [truths] at h

def bltV : Blt → Value
  | .len => .builtin "len" | .abs => .builtin "abs" | .list => .type "list" | .tuple => .type "tuple" | .any => .builtin "any" | .all => .builtin "all"
  | .int => .type "int" | .str => .type "str" | .max2 => .builtin "max" | .min2 => .builtin "min" | .sorted => .builtin "sorted"
def rBltD (b : Blt) : List V → Hp → VK → Prop := fun xs H Q => ∃ G B ρ ds d, Wl G B ρ H ∧ blt b ds = some d ∧ DenL1 G B ρ H xs ds ∧ Want G B ρ H d Q

theorem any_go (hc : X.calm = true) {pins : List (Addr × Obj)} {s : Shared} {σ : L2.St} {Q : VK} {a : Addr} {xs : List V} {ds : List D} {bs : List Bool} (I : L2.Inv X pins σ H s) (hs : H a = some (.lst xs)) (l : DenL G B ρ H xs ds) (hb : truths ds = some bs) (q : Q (.bl (bs.any id)) H) :
    wpAny (model X.prog X.w) X.A (call (.builtin "any") [.ref a]) (EP X pins σ Q) X.xe s := by
  obtain ⟨its, rv, hl, _⟩ := I.list (SqL.of hs)
  refine call_any_walk (iter_any hl.isList fun s₂ e2 st hne => ?_)
  subst e2
  refine ⟨_, _, _, _, _, _, _, rfl, Walks.list (A := X.A.in1) (I.ok.hd hc) _ a hne its.toArray, st, truths_of hb l rv, fun h' tk hk => ?_⟩
  refine ⟨.bl _, H, I.kept fun b o eo => hk b o (fun hmem => ?_) (Heap.get?_push_of_some _ eo), ?_, q⟩
  · rcases List.mem_cons.mp hmem with e1 | hmem
    · exact absurd (e1 ▸ Heap.lt_size eo) (Nat.lt_irrefl _)
    · cases hmem
  · show Value.bool _ = Value.bool _
    rw [← L2.any_range, truths_len hb, ← l.length, rv.length, List.size_toArray]
theorem all_go (hc : X.calm = true) {pins : List (Addr × Obj)} {s : Shared} {σ : L2.St} {Q : VK} {a : Addr} {xs : List V} {ds : List D} {bs : List Bool} (I : L2.Inv X pins σ H s) (hs : H a = some (.lst xs)) (l : DenL G B ρ H xs ds) (hb : truths ds = some bs) (q : Q (.bl (bs.all id)) H) :
    wpAny (model X.prog X.w) X.A (call (.builtin "all") [.ref a]) (EP X pins σ Q) X.xe s := by
  obtain ⟨its, rv, hl, _⟩ := I.list (SqL.of hs)
  refine call_all_walk (iter_any hl.isList fun s₂ e2 st hne => ?_)
  subst e2
  refine ⟨_, _, _, _, _, _, _, rfl, Walks.list (A := X.A.in1) (I.ok.hd hc) _ a hne its.toArray, st, truths_of hb l rv, fun h' tk hk => ?_⟩
  refine ⟨.bl _, H, I.kept fun b o eo => hk b o (fun hmem => ?_) (Heap.get?_push_of_some _ eo), ?_, q⟩
  · rcases List.mem_cons.mp hmem with e1 | hmem
    · exact absurd (e1 ▸ Heap.lt_size eo) (Nat.lt_irrefl _)
    · cases hmem
  · show Value.bool _ = Value.bool _
    rw [← L2.all_range, truths_len hb, ← l.length, rv.length, List.size_toArray]

/-! sorted -/
theorem each_of : ∀ {xs : List V} {ds : List D} {us : List Value}, DenL G B ρ H xs ds → Vals xs us → PySem.W.EachIs (fun u d => ∃ v, RelV v u ∧ Den G B ρ H v d) us ds
  | _, _, _, .nil, .nil => .nil
  | _, _, _, .cons h l, .cons r rr => .cons ⟨_, r, h⟩ (each_of l rr)
theorem of_each : ∀ {ds : List D} {us : List Value}, PySem.W.EachIs (fun u d => ∃ v, RelV v u ∧ Den G B ρ H v d) us ds → ∃ xs, DenL G B ρ H xs ds ∧ Vals xs us
  | _, _, .nil => ⟨[], .nil, .nil⟩
  | _, _, .cons ⟨v, r, h⟩ t => by
    obtain ⟨xs, l, rr⟩ := of_each t
    exact ⟨v :: xs, .cons h l, .cons r rr⟩
theorem each_reads {pins : List (Addr × Obj)} {s : Shared} {σ : L2.St} (I : L2.Inv X pins σ H s) : ∀ {xs : List V} {ds : List D} {us : List Value}, (∀ d ∈ ds, okD 50 d = true) → DenL G B ρ H xs ds → Vals xs us → PySem.W.EachIs (fun u d => ∃ as, Reads s.heap u (pyd d) as) us ds
  | _, _, _, _, .nil, .nil => .nil
  | _, _, _, ok, .cons h l, .cons r rr => .cons (Dp.reads I _ _ _ (toDp (ok _ (by simp)) h) r) (each_reads I (fun d hd => ok d (by simp [hd])) l rr)

theorem sorted_go (hu : X.A.units + 100 < cLine) {pins : List (Addr × Obj)} {s : Shared} {σ : L2.St} {Q : VK} {a : Addr} {xs : List V} {ds : List D} (W : Wl G B ρ H) (I : L2.Inv X pins σ H s) (hs : H a = some (.lst xs)) (l : DenL G B ρ H xs ds) (hz : ds.length ≤ sizeLine)
    (ok : ∀ d ∈ ds, okD 50 d = true) (al : PySem.W.AllAlike (ds.map pyd)) (sb : PySem.W.Sortable (ds.map pyd)) (w : Want G B ρ H (.list (ds.mergeSort (PySem.W.dataLe false pyd))) Q) :
    wpAny (model X.prog X.w) X.A (call (.builtin "sorted") [.ref a]) (EP X pins σ Q) X.xe s := by
  obtain ⟨S, R⟩ := W.st
  obtain ⟨its, rv, hl, _⟩ := I.list (SqL.of hs)
  refine PySem.W.sorted_data (enc := pyd) hl.isList (each_of l rv) (each_reads I ok l rv) al sb hz (fun b hb => by have := (lay_ok (ok b hb)).2; omega) fun out hlen e => ?_
  obtain ⟨ys, l2, r2⟩ := of_each e
  have hn : H (s.heap.objs.size + 1) = none := I.hok.fresh (Nat.le_succ _)
  refine ⟨.ref (s.heap.objs.size + 1), upd H (s.heap.objs.size + 1) (.lst ys), ?_, rfl, w.new hn (Den.newL W.hB W.hb R hn l2)⟩
  obtain ⟨c, hc⟩ := sortedAll_at s.heap its out.toArray
  exact I.laid (t' := s.toks) (fun b o eo => sortedAll_old eo) (Nat.le_succ _) ⟨by rw [r2.length, hlen]; exact hz, out, c, r2, hc⟩

theorem den_signs (z : Str) : DenL G B ρ H (z.cps.toList.map fun c => V.str ⟨#[c]⟩) (z.cps.toList.map fun c => D.str ⟨#[c]⟩) := by
  generalize z.cps.toList = l
  induction l with
  | nil => exact .nil
  | cons c l ih => exact .cons (.str _) ih
theorem vals_pt : ∀ {xs : List V} {us : List Value}, xs.length = us.length → (∀ (j : Nat) v u, xs[j]? = some v → us[j]? = some u → RelV v u) → Vals xs us
  | [], [], _, _ => .nil
  | v :: xs, u :: us, hl, h => .cons (h 0 v u rfl rfl) (vals_pt (by simpa using hl) fun j v u h1 h2 => h (j + 1) v u (by simpa using h1) (by simpa using h2))
  | [], _ :: _, hl, _ => by simp at hl
  | _ :: _, [], hl, _ => by simp at hl
theorem list_signs (hd : X.A.handled = none) (pins : List (Addr × Obj)) (s : Shared) (σ : L2.St) (H : Hp) {z : Str} (us : List Value) (Q : VK) (I : L2.Inv X pins σ H s) (r : Vals [V.str z] us) (hz : z.length ≤ sizeLine) (q : ∀ p, H p = none → Q (.ref p) (upd H p (.lst (z.cps.toList.map fun c => V.str ⟨#[c]⟩)))) :
    wpAny (model X.prog X.w) X.A (call (.type "list") us) (EP X pins σ Q) X.xe s := by
  obtain ⟨u, rfl, t, rfl⟩ := r.one
  refine PySem.call_list_str hd z t (fun h' tk acc c' hk e hi => ?_) hz
  refine ⟨.ref s.heap.objs.size, upd H s.heap.objs.size (.lst (z.cps.toList.map fun c => V.str ⟨#[c]⟩)), I.laid hk (Nat.le_refl _) (show ObjOk X.prog X.w _ _ _ (.lst _) from ⟨?_, acc.toList, c', ?_, ?_⟩), rfl, q _ (I.hok.fresh (Nat.le_refl _))⟩
  · rw [List.length_map, Array.length_toList]; exact hz
  · refine vals_pt (by rw [List.length_map, Array.length_toList, Array.length_toList, hi.1]) fun j v u h1 h2 => ?_
    obtain ⟨c, hc, rfl⟩ : ∃ c, z.cps.toList[j]? = some c ∧ V.str ⟨#[c]⟩ = v := by
      rw [List.getElem?_map] at h1
      exact Option.map_eq_some_iff.mp h1
    obtain ⟨c2, t2, hc2, rfl⟩ := hi.2 j u (by rw [← Array.getElem?_toList]; exact h2)
    have : c = c2 := by
      have h3 : z.cps.toList[j]? = some c2 := by rw [Array.getElem?_toList]; exact hc2
      rw [hc] at h3; exact Option.some.inj h3
    subst this
    exact ⟨t2, rfl⟩
  · rw [Array.toArray_toList]; exact e
theorem op_blt (hu : X.A.units + 100 < cLine) (hc : X.calm = true) (b : Blt) : CallR X (bltV b) (rBltD b) := by
  intro pins s σ H xs us Q I r ⟨G, B, ρ, ds, d, W, hb, dl, w⟩
  obtain ⟨S, R⟩ := W.st
  have hd : X.A.handled = none := I.ok.hd hc
  match b, ds, hb, dl with
  | .len, [.list ds], hb, dl =>
    cases hb
    obtain ⟨x, rfl, h⟩ := dl.one
    obtain ⟨p, xs, rfl, e, l⟩ := h.list_inv
    exact call_len pins s σ H _ us Q I r ⟨_, xs.length, rfl, .inl ⟨xs, SqL.of e, rfl⟩, by rw [l.length]; exact w.here (.int _)⟩
  | .len, [.tup ds], hb, dl =>
    cases hb
    obtain ⟨x, rfl, h⟩ := dl.one
    obtain ⟨p, xs, rfl, e, l⟩ := h.tup_inv
    exact call_len pins s σ H _ us Q I r ⟨_, xs.length, rfl, .inr ⟨xs, SqT.of e, rfl⟩, by rw [l.length]; exact w.here (.int _)⟩
  | .len, [.str z], hb, dl =>
    simp only [blt] at hb
    split at hb
    · rename_i hs
      cases hb
      obtain ⟨x, rfl, h⟩ := dl.one
      cases h.str_inv
      exact call_len pins s σ H _ us Q I r ⟨_, z.length, rfl, ⟨size_line hs, rfl⟩, w.here (.int _)⟩
    · cases hb
  | .abs, [.int i], hb, dl =>
    cases hb
    obtain ⟨x, rfl, h⟩ := dl.one
    cases h.int_inv
    exact call_abs pins s σ H _ us Q I r ⟨i, rfl, w.here (.int _)⟩
  | .list, [.list ds], hb, dl =>
    cases hb
    obtain ⟨x, rfl, h⟩ := dl.one
    obtain ⟨p, xs, rfl, e, l⟩ := h.list_inv
    exact call_list_of pins s σ H _ us Q I r ⟨p, xs, rfl, .inl (SqL.of e), fun q hq => w.new hq (Den.newL W.hB W.hb R hq l)⟩
  | .list, [.tup ds], hb, dl =>
    cases hb
    obtain ⟨x, rfl, h⟩ := dl.one
    obtain ⟨p, xs, rfl, e, l⟩ := h.tup_inv
    exact call_list_of pins s σ H _ us Q I r ⟨p, xs, rfl, .inr (SqT.of e), fun q hq => w.new hq (Den.newL W.hB W.hb R hq l)⟩
  | .list, [.str z], hb, dl =>
    simp only [blt] at hb
    split at hb
    · rename_i hs
      cases hb
      obtain ⟨x, rfl, h⟩ := dl.one
      cases h.str_inv
      exact list_signs hd pins s σ H us Q I r (size_line hs) fun q hq => w.new hq (Den.newL W.hB W.hb R hq (den_signs z))
    · cases hb
  | .tuple, [.list ds], hb, dl =>
    cases hb
    obtain ⟨x, rfl, h⟩ := dl.one
    obtain ⟨p, xs, rfl, e, l⟩ := h.list_inv
    exact call_tuple_of pins s σ H _ us Q I r ⟨p, xs, rfl, .inl ⟨SqL.of e, fun q hq => w.new hq (Den.newT W.hB R hq l)⟩⟩
  | .tuple, [.tup ds], hb, dl =>
    cases hb
    obtain ⟨x, rfl, h⟩ := dl.one
    obtain ⟨p, xs, rfl, e, l⟩ := h.tup_inv
    exact call_tuple_of pins s σ H _ us Q I r ⟨p, xs, rfl, .inr ⟨SqT.of e, w.here (.tup e l)⟩⟩
  | .any, [.list ds], hb, dl =>
    simp only [blt, Option.map_eq_some_iff] at hb
    obtain ⟨bs, hb2, e2⟩ := hb
    subst e2
    obtain ⟨x, rfl, h⟩ := dl.one
    obtain ⟨p, xs, rfl, e, l⟩ := h.list_inv
    rw [Vals.ref1 r]
    exact any_go hc I e l hb2 (w.here (.bl _))
  | .all, [.list ds], hb, dl =>
    simp only [blt, Option.map_eq_some_iff] at hb
    obtain ⟨bs, hb2, e2⟩ := hb
    subst e2
    obtain ⟨x, rfl, h⟩ := dl.one
    obtain ⟨p, xs, rfl, e, l⟩ := h.list_inv
    rw [Vals.ref1 r]
    exact all_go hc I e l hb2 (w.here (.bl _))
  | .int, [.int i], hb, dl =>
    cases hb
    obtain ⟨x, rfl, h⟩ := dl.one
    cases h.int_inv
    exact call_int1 pins s σ H _ us Q I r (.inl ⟨i, rfl, w.here (.int _)⟩)
  | .int, [.bool i], hb, dl =>
    cases hb
    obtain ⟨x, rfl, h⟩ := dl.one
    cases h.bl_inv
    exact call_int1 pins s σ H _ us Q I r (.inr ⟨i, rfl, w.here (.int _)⟩)
  | .int, [.str z], hb, dl =>
    simp only [blt] at hb
    split at hb
    · rename_i hs
      obtain ⟨n, hn, rfl⟩ := Option.map_eq_some_iff.mp hb
      obtain ⟨x, rfl, h⟩ := dl.one
      cases h.str_inv
      exact call_int_str pins s σ H _ us Q I r ⟨z, n, rfl, hn, of_decide_eq_true hs, w.here (.int _)⟩
    · cases hb
  | .str, [.int i], hb, dl =>
    simp only [blt] at hb
    split at hb
    · rename_i hs
      cases hb
      obtain ⟨x, rfl, h⟩ := dl.one
      cases h.int_inv
      exact call_str_int pins s σ H _ us Q I r ⟨i, rfl, of_decide_eq_true hs, w.here (.str _)⟩
    · cases hb
  | .max2, [.int i, .int j], hb, dl =>
    cases hb
    obtain ⟨x, y, rfl, h, h2⟩ := dl.two
    cases h.int_inv
    cases h2.int_inv
    exact call_max2 hc pins s σ H _ us Q I r ⟨i, j, rfl, w.here (.int _)⟩
  | .max2, [.int i, .int j, .int k, .int l], hb, dl =>
    cases hb
    obtain ⟨x, y, z, q, rfl, h, h2, h3, h4⟩ := dl.four
    cases h.int_inv
    cases h2.int_inv
    cases h3.int_inv
    cases h4.int_inv
    exact call_max4 hc pins s σ H _ us Q I r ⟨i, j, k, l, rfl, w.here (.int _)⟩
  | .min2, [.int i, .int j], hb, dl =>
    cases hb
    obtain ⟨x, y, rfl, h, h2⟩ := dl.two
    cases h.int_inv
    cases h2.int_inv
    exact call_min2 hc pins s σ H _ us Q I r ⟨i, j, rfl, w.here (.int _)⟩
  | .sorted, [.list ds], hb, dl =>
    simp only [blt] at hb
    split at hb
    · rename_i hs
      cases hb
      simp only [Bool.and_eq_true, Bool.or_eq_true, List.all_eq_true] at hs
      obtain ⟨⟨⟨h1, h2⟩, h3⟩, h4⟩ := hs
      obtain ⟨x, rfl, h⟩ := dl.one
      obtain ⟨p, xs, rfl, e, l⟩ := h.list_inv
      rw [Vals.ref1 r]
      refine sorted_go hu W I e l (size_line h1) h2 ?_ ?_ w
      · intro a ha b hb
        obtain ⟨a', ha', rfl⟩ := List.mem_map.mp ha
        obtain ⟨b', hb', rfl⟩ := List.mem_map.mp hb
        exact h3 a' ha' b' hb'
      · rcases h4 with h4 | h4
        · refine .inl fun a ha => ?_
          obtain ⟨a', ha', rfl⟩ := List.mem_map.mp ha
          have := h4 a' ha'
          cases a' <;> simp [isTup1] at this
          rename_i ds
          cases ds with
          | nil => simp at this
          | cons x r => exact ⟨pyd x, pyds r, rfl⟩
        · refine .inr fun a ha => ?_
          obtain ⟨a', ha', rfl⟩ := List.mem_map.mp ha
          have := h4 a' ha'
          cases a' <;> simp [notTup] at this <;> exact ⟨(fun z => nomatch z), (fun xs z => nomatch z)⟩
    · cases hb

/-! methods -/
def mthT : Mth → String
  | .index | .count => "list"
  | _ => "str"
def mthId : Mth → String
  | .partition => "str.partition" | .split => "str.split" | .join => "str.join" | .endswith => "str.endswith" | .index => "list.index" | .count => "list.count"
def rMthD (m : Mth) : V → List V → Hp → VK → Prop := fun x xs H Q => ∃ G B ρ a ds d, Wl G B ρ H ∧ meth m a ds = some d ∧ Den1 G B ρ H x a ∧ DenL1 G B ρ H xs ds ∧ Want G B ρ H d Q
theorem strs_of : ∀ {ds : List D} {ys : List Str} {xs : List V}, strsOf ds = some ys → DenL G B ρ H xs ds → xs = ys.map V.str
  | [], _, _, h, .nil => by cases h; rfl
  | .str z :: r, _, _, h, .cons a l => by
    simp only [strsOf, Option.map_eq_some_iff] at h
    obtain ⟨ys', h1, rfl⟩ := h
    cases a
    rw [strs_of h1 l]; rfl
  | .none :: r, _, _, h, _ => by simp [strsOf] at h
  | .bool _ :: r, _, _, h, _ => by simp [strsOf] at h
  | .int _ :: r, _, _, h, _ => by simp [strsOf] at h
  | .list _ :: r, _, _, h, _ => by simp [strsOf] at h
  | .tup _ :: r, _, _, h, _ => by simp [strsOf] at h
  | .ref _ :: r, _, _, h, _ => by simp [strsOf] at h
  | .scr :: r, _, _, h, _ => by simp [strsOf] at h
  | .edict :: r, _, _, h, _ => by simp [strsOf] at h
  | .exc _ :: r, _, _, h, _ => by simp [strsOf] at h
theorem idx_first : ∀ {x : D} {ds : List D} {j : Nat}, idxOf x ds = some j → (∃ z, (pyds ds)[j]? = some z ∧ PyData.eqv z (pyd x) = true) ∧ ∀ (m : Nat) (z' : PyData), m < j → (pyds ds)[m]? = some z' → PyData.eqv z' (pyd x) = false
  | x, [], j, h => by cases h
  | x, y :: ys, j, h => by
    unfold idxOf at h
    split at h
    · rename_i e
      cases h
      exact ⟨⟨pyd y, rfl, e⟩, fun m z' hm => absurd hm (Nat.not_lt_zero _)⟩
    · rename_i e
      obtain ⟨j', h', rfl⟩ := Option.map_eq_some_iff.mp h
      obtain ⟨⟨z, h1, h2⟩, h3⟩ := idx_first h'
      refine ⟨⟨z, by simpa [pyds] using h1, h2⟩, fun m z' hm hz => ?_⟩
      cases m with
      | zero =>
        simp [pyds] at hz
        subst hz
        simpa [eqD] using e
      | succ m => exact h3 m z' (by omega) (by simpa [pyds] using hz)
def eqb (b : Bool) (v : Value) : Bool := match v with
  | .bool c => c == b
  | _ => false
theorem bools_of : ∀ {ds : List D} {bs : List Bool} {xs : List V} {us : List Value}, boolsOf ds = some bs → DenL G B ρ H xs ds → Vals xs us → us = bs.map Value.bool
  | [], bs, _, _, h, .nil, .nil => by cases h; rfl
  | d :: r, bs, _, _, h, .cons a l, .cons v t => by
    cases a <;> simp [boolsOf] at h
    obtain ⟨cs, hc, rfl⟩ := h
    rw [bools_of hc l t]
    cases (show _ = Value.bool _ from v)
    rfl
theorem count_bools (pins : List (Addr × Obj)) (s : Shared) (σ : L2.St) (H : Hp) {p : Addr} {b : Bool} {zs : List V} {ds : List D} {bs : List Bool} (v : Value) (us : List Value) (Q : VK) (I : L2.Inv X pins σ H s) (rx : RelV (.ref p) v) (r : Vals [V.bl b] us) (e : H p = some (.lst zs)) (l : DenL G B ρ H zs ds) (hb : boolsOf ds = some bs) (q : Q (.int (bs.count b : Nat)) H) :
    wpAny (model X.prog X.w) X.A (call (.builtin "list.count") (v :: us)) (EP X pins σ Q) X.xe s := by
  cases rx
  obtain ⟨u, rfl, ru⟩ := r.one
  cases (show u = Value.bool b from ru)
  obtain ⟨its, rv, ⟨⟨cls, dd, data, sl⟩, n, ho, hc, hdn, hd⟩, hlen⟩ := I.list (SqL.of e)
  simp only at hc hd
  subst hc hd
  have hi := bools_of hb l rv
  refine call_meets PySem.F.slot_list_count ⟨_, ho, rfl⟩ PySem.F.entry_list_count (PySem.F.args_list_count_2 _ _) (SeqAt.list_countAt p its.toArray n dd sl (.bool b) (eqb b)) ⟨ho, fun y hy => ?_, ?_⟩
  · rw [hi] at hy
    have : y ∈ bs.map Value.bool := by simpa using hy
    obtain ⟨c, _, rfl⟩ := List.mem_map.mp this
    exact SeqAt.EqAt.bool_bool c b
  · have ec : its.toArray.toList.countP (eqb b) = bs.count b := by
      rw [List.toList_toArray, hi, List.countP_map]
      rfl
    refine ⟨.int (bs.count b : Nat), H, I.tok _, ⟨s.toks, ?_⟩, q⟩
    show Value.int ((its.toArray.toList.countP (eqb b) : Nat) : Int) s.toks = _
    rw [ec]
theorem op_mth (hu : X.A.units + 100 < cLine) (m : Mth) : MtR X (mthId m) (rMthD m) := by
  intro pins s σ H x xs v us Q I rx r ⟨G, B, ρ, a, ds, d, W, hb, da, dl, w⟩
  obtain ⟨S, R⟩ := W.st
  match m, a, ds, hb, da, dl with
  | .partition, .str a, [.str b], hb, da, dl =>
    simp only [meth] at hb
    split at hb
    · cases hb
    · rename_i hs
      simp only [Bool.or_eq_true, not_or, Bool.not_eq_true, Bool.not_eq_false] at hs
      obtain ⟨y, rfl, h⟩ := dl.one
      cases h.str_inv
      cases da.str_inv
      cases hb
      exact mt_partition pins s σ H _ _ v us Q I rx r ⟨a, b, rfl, rfl, hs.1, size_line (by simpa using hs.2), fun p hp => w.new hp (Den.newT W.hB R hp (.cons (.str _) (.cons (.str _) (.cons (.str _) .nil))))⟩
  | .split, .str a, [.str b], hb, da, dl =>
    simp only [meth] at hb
    split at hb
    · cases hb
    · rename_i hs
      simp only [Bool.or_eq_true, not_or, Bool.not_eq_true, Bool.not_eq_false] at hs
      obtain ⟨y, rfl, h⟩ := dl.one
      cases h.str_inv
      cases da.str_inv
      cases hb
      exact mt_split pins s σ H _ _ v us Q I rx r ⟨a, b, rfl, rfl, hs.1, Nat.le_of_lt (size_lineLt (by simpa using hs.2)), fun p hp => w.new hp (Den.newL W.hB W.hb R hp (DenL.ofStrs _))⟩
  | .join, .str a, [.list ds], hb, da, dl =>
    simp only [meth] at hb
    split at hb
    · rename_i ys hy
      split at hb
      · rename_i hs
        cases hb
        obtain ⟨y, rfl, h⟩ := dl.one
        cases da.str_inv
        obtain ⟨p, zs, rfl, e, l⟩ := h.list_inv
        rw [strs_of hy l] at e
        exact mt_join pins s σ H _ _ v us Q I rx r ⟨a, p, ys, rfl, rfl, .inl (SqL.of e), by have := size_line hs; rw [sizeLine_eq] at this; exact this, w.here (.str _)⟩
      · cases hb
    · cases hb
  | .endswith, .str a, [.str b], hb, da, dl =>
    cases hb
    obtain ⟨y, rfl, h⟩ := dl.one
    cases h.str_inv
    cases da.str_inv
    exact mt_endswith pins s σ H _ _ v us Q I rx r ⟨a, b, rfl, rfl, w.here (.bl _)⟩
  | .count, .list ds, [.bool b], hb, da, dl =>
    simp only [meth, Option.map_eq_some_iff] at hb
    obtain ⟨bs, hb2, rfl⟩ := hb
    obtain ⟨y, rfl, h⟩ := dl.one
    obtain ⟨p, zs, rfl, e, l⟩ := da.list_inv
    cases h.bl_inv
    exact count_bools pins s σ H v us Q I rx r e l hb2 (w.here (.int _))
  | .index, .list ds, [x], hb, da, dl =>
    simp only [meth] at hb
    split at hb
    · rename_i hs
      simp only [Bool.and_eq_true, List.all_eq_true] at hs
      obtain ⟨j, hj, rfl⟩ := Option.map_eq_some_iff.mp hb
      obtain ⟨y, rfl, h⟩ := dl.one
      obtain ⟨p, zs, rfl, e, l⟩ := da.list_inv
      obtain ⟨⟨z, h1, h2⟩, h3⟩ := idx_first hj
      have hsl : SeqAt.shaped (.list (pyds ds)) = true := shaped_ok (d := .list ds) (n := 60) (by simpa [okD] using hs.2) (by decide)
      exact mt_indexD (by omega) pins s σ H _ _ v us Q I rx r ⟨p, y, pyd x, pyds ds, j, z, rfl, rfl, .lst (SqL.of e) (toDps hs.2 l), toDp1 hs.1 h, hsl, shaped_ok hs.1 (by decide), h1, h2, h3, w.here (.int _)⟩
    · cases hb
end
end Q7

/-! The context of a piece of code; what a def promises; sequencing. -/
namespace Q7
open PySem L2

def spOf (G : Gb) (n : Nat) (F : Fn) : Sp := fun vs H Q E => ∃ (B : Addr → Prop) (ρ : Rho) (S : Sta) (ds : List D), (∀ a, B a → H a ≠ none) ∧ StRel ρ S H ∧ DenL G (fun a => B a ∨ inT ρ a) ρ H vs ds ∧ vs.length = n ∧
  Post G E (fun ρ' H' v d => Den G (fun a => B a ∨ inT ρ' a) ρ' H' v d) ρ H (F ds S) Q

def bltNames : List Str := ["len", "abs", "list", "tuple", "any", "all", "int", "str", "max", "min", "sorted", "isinstance", "range", "enumerate", "zip", "bool", "dict", "ValueError"]

structure Ct (G : Gb) (T : List Fn) (Z : Names) (E0 : XK) (X : Cx) (sc : Scope) (fs : Str → Bool) : Prop where
  N : X.N = Z.N
  nd : X.N.Nodup
  sc : X.env.scope = sc
  K : X.K = G.K
  calm : X.calm = true
  hu : X.A.units + 100 < cLine
  fns : ∀ (f : Nat) F, T[f]? = some F → ∃ x fa fd k ps, Z.FN[f]? = some x ∧ X.mg x = some (.ref fa) ∧ FnOk X.prog X.w X.K X.mg X.base (L2.CX X.prog X.w) k fa fd ps (spOf G ps.length F) ∧ Room k X.A ∧
    PySem.W.keepIn X.K (.ref fa) = true ∧ Binds X.K fd ps [] ∧ ∀ ds S, ds.length ≠ ps.length → F ds S = .bad
  fnl : ∀ (f : Nat) x, Z.FN[f]? = some x → ∃ F, T[f]? = some F
  pass : Passes (L2.CX X.prog X.w) X E0
  blt : ∀ x ∈ bltNames, X.mg x = none
  cls : ∀ c, c < 18 → ExcC X.K (G.cls c) ∧ PySem.W.kitOne X.K (.ref (G.cls c)) (.type "ValueError") = some true ∧ ∀ k, k < 18 → PySem.W.kitOne X.K (.ref (G.cls c)) (.ref (G.cls k)) = some (decide (c = k))
  cnm : ∀ (c : Nat) x, Z.CN[c]? = some x → c < 18 ∧ X.mg x = some (.ref (G.cls c))
  fs : ∀ x, fs x = true → X.fn x = true ∨ X.env.scope.names.lookup x = some .local

section
variable {G : Gb} {T : List Fn} {Z : Names} {E0 : XK} {X : Cx} {sc : Scope} {fs : Str → Bool}
theorem Ct.vis (C : Ct G T Z E0 X sc fs) {x : Str} (h : visB sc x = true) : Vis X.env.scope x := by
  rw [C.sc]
  unfold visB at h
  unfold Vis
  split at h <;> first | (rename_i e; rw [e]; simp; done) | cases h
theorem Ct.loc (C : Ct G T Z E0 X sc fs) {x : Str} (h : locB sc x = true) : L2.Loc X.env.scope x := by
  rw [C.sc]
  unfold locB at h
  unfold L2.Loc
  split at h <;> first | (rename_i e; rw [e]; simp; done) | cases h
theorem Ct.gl (C : Ct G T Z E0 X sc fs) {x : Str} (h : glB sc x = true) : Gl X x ∧ (x == ("__debug__" : Str)) = false ∧ x ≠ "__name__" := by
  unfold glB at h
  split at h
  · rename_i e
    simp only [Bool.and_eq_true, Bool.not_eq_true', beq_eq_false_iff_ne] at h
    refine ⟨?_, by simpa using h.1, h.2⟩
    show X.env.scope.names.lookup x = _
    rw [C.sc]; exact e
  · cases h
theorem pe_name (C : Ct G T Z E0 X sc fs) {i : Nat} {x : Str} {pos : Pos} (h : varB Z.N sc i x = true) : PE X (.Name x pos) (tVar i) := by
  unfold varB at h
  simp only [Bool.and_eq_true, Bool.not_eq_true', decide_eq_true_eq] at h
  exact pe_var (by rw [C.N]; exact h.1.1.1) (C.vis h.1.1.2) h.1.2 h.2

/-! ### sequencing -/
theorem rV.to1 {b : Bool} {B : Addr → Prop} {ow : Nat → Option Addr} {ρ : Rho} {H : Hp} {v : V} {d : D} (h : rV G b B ow ρ H v d) : Den1 G (av B ρ ow) ρ H v d := by
  unfold rV at h
  split at h
  · exact h
  · exact .of h
theorem rV.toK {b : Bool} (hb : b = false) {B : Addr → Prop} {ow : Nat → Option Addr} {ρ : Rho} {H : Hp} {v : V} {d : D} (h : rV G b B ow ρ H v d) : Den G (av B ρ ow) ρ H v d := by
  subst hb
  unfold rV at h
  simpa using h
theorem rV.of {b : Bool} {B : Addr → Prop} {ow : Nat → Option Addr} {ρ : Rho} {H : Hp} {v : V} {d : D} (h : Den G (av B ρ ow) ρ H v d) : rV G b B ow ρ H v d := by
  unfold rV
  split
  · exact .of h
  · exact h
/-- the state between two pieces -/
def Mid {β α γ δ : Type} (G : Gb) (E0 : XK) (rel : RelT α β) (relb : RelT δ γ) (σ : L2.St) (f : Env → δ → M α) (Q : β → Hp → Prop) (b : γ) (H : Hp) : Prop :=
  ∃ B env S ρ ow d, Rel G B env S ρ ow σ H ∧ relb B ow ρ H b d ∧ Post G E0 (rel B ow) ρ H (f env d S) Q
theorem seq1 {β α γ δ : Type} {rel : RelT α β} {relb : RelT δ γ} {σ : L2.St} {H : Hp} {m : Env → M δ} {f : Env → δ → M α} {Q : β → Hp → Prop} (h : iG G E0 rel (fun env => bind (m env) (f env)) σ H Q) : iG G E0 relb m σ H (Mid G E0 rel relb σ f Q) := by
  obtain ⟨B, env, S, ρ, ow, R, P⟩ := h
  refine ⟨B, env, S, ρ, ow, R, (go1 (rel2 := relb B ow) P).mono fun b H1 ⟨a, S1, ρ1, st, s1, r1, P1⟩ => ⟨B, env, S1, ρ1, ow, a, R.step st s1, r1, P1⟩⟩
/-- .. further: what was known stays known -/
theorem Mid.seq {β α γ δ γ' δ' : Type} {rel : RelT α β} {relb : RelT δ γ} {relc : RelT δ' γ'} {σ : L2.St} {H : Hp} {b : γ} {m : Env → δ → M δ'} {f : Env → δ → δ' → M α} {Q : β → Hp → Prop}
    (hs : ∀ {B ow ρ ρ' S H H' d}, StRel ρ S H → Step ρ H ρ' H' → relb B ow ρ H b d → relb B ow ρ' H' b d)
    (h : Mid G E0 rel relb σ (fun env d => bind (m env d) (f env d)) Q b H) :
    ∃ d, iG G E0 relc (fun env => m env d) σ H (fun c H1 => ∃ B env S ρ ow e, Rel G B env S ρ ow σ H1 ∧ relb B ow ρ H1 b d ∧ relc B ow ρ H1 c e ∧ Post G E0 (rel B ow) ρ H1 (f env d e S) Q) := by
  obtain ⟨B, env, S, ρ, ow, d, R, rb, P⟩ := h
  refine ⟨d, B, env, S, ρ, ow, R, (go1 (rel2 := relc B ow) P).mono fun c H1 ⟨a, S1, ρ1, st, s1, r1, P1⟩ => ⟨B, env, S1, ρ1, ow, a, R.step st s1, hs R.st st rb, r1, P1⟩⟩
theorem rK1.step {B : Addr → Prop} {ow : Nat → Option Addr} {ρ ρ' : Rho} {S : Sta} {H H' : Hp} {v : V} {d : D} (R : StRel ρ S H) (st : Step ρ H ρ' H') (h : rK1 G B ow ρ H v d) : rK1 G B ow ρ' H' v d := Den1.stp R st h
theorem iG.rel1 {β α : Type} {rel rel' : RelT α β} {σ : L2.St} {H : Hp} {m : Env → M α} {Q : β → Hp → Prop} (h : iG G E0 rel m σ H Q) (k : ∀ {B ow ρ H b a}, rel' B ow ρ H b a → rel B ow ρ H b a) : iG G E0 rel' m σ H Q := by
  obtain ⟨B, env, S, ρ, ow, R, P⟩ := h
  exact ⟨B, env, S, ρ, ow, R, P.weak fun _ _ _ _ r => k r⟩
theorem iG.mono {β α : Type} {rel : RelT α β} {σ : L2.St} {H : Hp} {m : Env → M α} {Q Q' : β → Hp → Prop} (h : iG G E0 rel m σ H Q) (k : ∀ b H', Q b H' → Q' b H') : iG G E0 rel m σ H Q' := by
  obtain ⟨B, env, S, ρ, ow, R, P⟩ := h
  exact ⟨B, env, S, ρ, ow, R, P.mono k⟩
/-- two operands, then an operation on values -/
def Two (G : Gb) (E0 : XK) {α β : Type} (rel : RelT α β) (σ : L2.St) (f : Env → D → D → M α) (Q : β → Hp → Prop) (x y : V) (H : Hp) : Prop :=
  ∃ B env S ρ ow a b, Rel G B env S ρ ow σ H ∧ Den1 G (av B ρ ow) ρ H x a ∧ Den1 G (av B ρ ow) ρ H y b ∧ Post G E0 (rel B ow) ρ H (f env a b S) Q
theorem two {α β : Type} {rel : RelT α β} {σ : L2.St} {H : Hp} {ka kb : Bool} {ma mb : Env → M D} {f : Env → D → D → M α} {Q : β → Hp → Prop}
    (h : iG G E0 rel (fun env => bind (ma env) fun x => bind (mb env) fun y => f env x y) σ H Q) :
    iG G E0 (rV G ka) ma σ H fun x H1 => iG G E0 (rV G kb) mb σ H1 fun y H2 => Two G E0 rel σ f Q x y H2 := by
  refine ((seq1 (relb := rK1 G) h).rel1 fun r => rV.to1 r).mono fun x H1 h1 => ?_
  obtain ⟨d, h2⟩ := Mid.seq (G := G) (E0 := E0) (relb := rK1 G) (relc := rK1 G) (m := fun env _ => mb env) (f := f) (fun R st r => rK1.step R st r) h1
  exact (h2.rel1 fun r => rV.to1 r).mono fun y H2 ⟨B, env, S, ρ, ow, e, R, r1, r2, P⟩ => ⟨B, env, S, ρ, ow, d, e, R, r1, r2, P⟩
/-- one operand -/
def One (G : Gb) (E0 : XK) {α β : Type} (rel : RelT α β) (σ : L2.St) (f : Env → D → M α) (Q : β → Hp → Prop) (x : V) (H : Hp) : Prop :=
  ∃ B env S ρ ow a, Rel G B env S ρ ow σ H ∧ Den1 G (av B ρ ow) ρ H x a ∧ Post G E0 (rel B ow) ρ H (f env a S) Q
theorem one {α β : Type} {rel : RelT α β} {σ : L2.St} {H : Hp} {ka : Bool} {ma : Env → M D} {f : Env → D → M α} {Q : β → Hp → Prop}
    (h : iG G E0 rel (fun env => bind (ma env) fun x => f env x) σ H Q) :
    iG G E0 (rV G ka) ma σ H fun x H1 => One G E0 rel σ f Q x H1 := by
  refine ((seq1 (relb := rK1 G) h).rel1 fun r => rV.to1 r).mono fun x H1 ⟨B, env, S, ρ, ow, e, R, r1, P⟩ => ⟨B, env, S, ρ, ow, e, R, r1, P⟩
/-- from Post of a value to Want -/
theorem want_of {b : Bool} {B : Addr → Prop} {env : Env} {S : Sta} {ρ : Rho} {ow : Nat → Option Addr} {σ : L2.St} {H : Hp} {d : D} {Q : VK} (R : Rel G B env S ρ ow σ H) (P : Post G E0 (rV G b B ow) ρ H (.ok d S) Q) : Want G (av B ρ ow) ρ H d Q :=
  fun v H' st kp h => P v H' ρ st (kp S R.st) (rV.of h)
theorem lift_some {α : Type} {o : Option α} {S : Sta} {r : Res α} (h : lift o S = r) (hr : r ≠ .bad) : ∃ a, o = some a ∧ r = .ok a S := by
  cases o with
  | none => exact absurd h.symm hr
  | some a => exact ⟨a, rfl, h.symm⟩
theorem post_lift {α β : Type} {rel : Rho → Hp → β → α → Prop} {ρ : Rho} {H : Hp} {o : Option α} {S : Sta} {Q : β → Hp → Prop} (P : Post G E0 rel ρ H (lift o S) Q) : ∃ a, o = some a ∧ Post G E0 rel ρ H (.ok a S) Q := by
  cases o with
  | none => exact P.elim
  | some a => exact ⟨a, rfl, P⟩
end
end Q7

/-! What is walked. -/
namespace Q7
open PySem L2

section
variable {G : Gb} {B1 B2 : Addr → Prop} {ρ ρ' : Rho} {H H' : Hp}
/-- all that a kept value leans on is as it was -/
structure Kp (B1 B2 : Addr → Prop) (ρ ρ' : Rho) (H H' : Hp) : Prop where
  lst : ∀ a xs, H a = some (.lst xs) → ¬ B1 a → H' a = some (.lst xs)
  tup : ∀ a xs, H a = some (.tup xs) → H' a = some (.tup xs)
  frz : ∀ a o u, H a = some (.frz o u) → H' a = some (.frz o u)
  emp : ∀ a, H a = some (.dK []) → ¬ B1 a → H' a = some (.dK [])
  ext : ∀ a φ, H a = some (.ext φ) → H' a = some (.ext φ)
  head : ∀ (k : Nat) (a : Addr) (l : List Addr), ρ[k]? = some (a :: l) → ∃ l', ρ'[k]? = some (a :: l')
  bl : ∀ a, B2 a → B1 a ∨ H a = none
mutual
theorem Den.kp (k : Kp B1 B2 ρ ρ' H H') : ∀ {v : V} {d : D}, Den G B1 ρ H v d → Den G B2 ρ' H' v d
  | _, _, .non => .non
  | _, _, .bl b => .bl b
  | _, _, .int i => .int i
  | _, _, .str x => .str x
  | _, _, .lst h n l => .lst (k.lst _ _ h n) (fun q => (k.bl _ q).elim n fun e => by rw [h] at e; cases e) (DenL.kp k l)
  | _, _, .tup h l => .tup (k.tup _ _ h) (DenL.kp k l)
  | _, _, .ref h => by
    obtain ⟨l', h'⟩ := k.head _ _ _ h
    exact .ref h'
  | _, _, .scr h => .scr (h.imp (fun ⟨o, e⟩ => ⟨o, k.frz _ _ _ e⟩) id)
  | _, _, .exc h n => .exc (k.ext _ _ h) n
  | _, _, .edict h n => .edict (k.emp _ h n) (fun q => (k.bl _ q).elim n fun e => by rw [h] at e; cases e)
theorem DenL.kp (k : Kp B1 B2 ρ ρ' H H') : ∀ {vs : List V} {ds : List D}, DenL G B1 ρ H vs ds → DenL G B2 ρ' H' vs ds
  | _, _, .nil => .nil
  | _, _, .cons h l => .cons (Den.kp k h) (DenL.kp k l)
end
/-- a blocked list changes -/
theorem Kp.upd {B : Addr → Prop} {p : Addr} {xs : List V} {o : HO} (hp : H p = some (.lst xs)) (hb : B p) : Kp B B ρ ρ H (upd H p o) where
  lst := fun a ys h n => by rw [upd_ne (fun e : a = p => n (by rw [e]; exact hb))]; exact h
  tup := fun a ys h => by rw [upd_ne (fun e => by rw [e, hp] at h; cases h)]; exact h
  frz := fun a ob u h => by rw [upd_ne (fun e => by rw [e, hp] at h; cases h)]; exact h
  emp := fun a h n => by rw [upd_ne (fun e : a = p => n (by rw [e]; exact hb))]; exact h
  ext := fun a φ h => by rw [upd_ne (fun e => by rw [e, hp] at h; cases h)]; exact h
  head := fun k a l h => ⟨l, h⟩
  bl := fun a h => .inl h
end

/-! ### iterators over values -/
inductive ItD (G : Gb) (K : PySem.W.Frag) (b : Bool) (A : Addr → Prop) (ρ : Rho) (H : Hp) : It → List D → Prop
  | lst {a : Addr} {xs : List V} {ds : List D} : H a = some (.lst xs) → ¬ inT ρ a → (b = false → ¬ A a) → DenL G A ρ H xs ds → ItD G K b A ρ H (Itl K a) ds
  | tup {a : Addr} {xs : List V} {ds : List D} : H a = some (.tup xs) → DenL G A ρ H xs ds → ItD G K b A ρ H (Itt K a) ds
  | rng (lo : Int) (n : Nat) : ItD G K b A ρ H (Itr lo n) ((List.range n).map fun k => .int (lo + (k : Nat)))
  | rng2 (n : Nat) : ItD G K b A ρ H (Itc 0 2 n) ((List.range n).map fun k => .int (2 * (k : Nat)))
  | str (z : Str) : ItD G K b A ρ H (Its z) (z.cps.toList.map fun c => .str ⟨#[c]⟩)
  | enm {a : Addr} {xs : List V} {ds : List D} : H a = some (.lst xs) → ¬ inT ρ a → (b = false → ¬ A a) → DenL G A ρ H xs ds → ItD G K b A ρ H (Ite K a) (enumD ds)
  | zipL {a c : Addr} {xs ys : List V} {ds es : List D} : H a = some (.lst xs) → ¬ inT ρ a → (b = false → ¬ A a) → DenL G A ρ H xs ds → H c = some (.lst ys) → ¬ inT ρ c → (b = false → ¬ A c) → DenL G A ρ H ys es → ItD G K b A ρ H (Itz K a c) (zipD ds es)
  | zipT {a c : Addr} {xs ys : List V} {ds es : List D} : H a = some (.tup xs) → DenL G A ρ H xs ds → H c = some (.tup ys) → DenL G A ρ H ys es → ItD G K b A ρ H (RZ.ItzT K a c) (zipD ds es)

/-- what is given at a turn: the item, or a new pair -/
def YD (G : Gb) (A : Addr → Prop) (ρ : Rho) (H : Hp) (d : D) (H1 : Hp) (x : V) (H2 : Hp) : Prop :=
  (H2 = H1 ∧ Den G A ρ H x d) ∨ ∃ T u v d1 d2, x = .ref T ∧ H1 T = none ∧ H2 = upd H1 T (.tup [u, v]) ∧ d = .tup [d1, d2] ∧ Den G A ρ H u d1 ∧ Den G A ρ H v d2

/-- the lists that are walked stand as they stood -/
def Stay (b : Bool) (A : Addr → Prop) (ρ : Rho) (H H' : Hp) : Prop := (∀ a xs, H a = some (.lst xs) → ¬ inT ρ a → (b = false → ¬ A a) → H' a = some (.lst xs)) ∧ ∀ a xs, H a = some (.tup xs) → H' a = some (.tup xs)
theorem Stay.refl {b : Bool} {A : Addr → Prop} {ρ : Rho} {H : Hp} : Stay b A ρ H H := ⟨fun _ _ h _ _ => h, fun _ _ h => h⟩

section
variable {G : Gb} {K : PySem.W.Frag} {b : Bool} {A : Addr → Prop} {ρ : Rho} {H : Hp} {J : It} {ds : List D}
theorem enum_len (ds : List D) : (enumD ds).length = ds.length := by simp [enumD]
theorem enum_get {ds : List D} {i : Nat} {d : D} (h : (enumD ds)[i]? = some d) : ∃ e, ds[i]? = some e ∧ d = .tup [.int (i : Nat), e] := by
  unfold enumD at h
  rw [List.getElem?_map, List.getElem?_zipIdx] at h
  cases e : ds[i]? with
  | none => rw [e] at h; simp at h
  | some x => rw [e] at h; simp at h; exact ⟨x, rfl, h.symm⟩
theorem zip_len (xs ys : List D) : (zipD xs ys).length = min xs.length ys.length := by simp [zipD]
theorem zip_get {xs ys : List D} {i : Nat} {d : D} (h : (zipD xs ys)[i]? = some d) : ∃ x y, xs[i]? = some x ∧ ys[i]? = some y ∧ d = .tup [x, y] := by
  unfold zipD at h
  rw [List.getElem?_map] at h
  obtain ⟨p, hp, e⟩ := Option.map_eq_some_iff.mp h
  obtain ⟨h1, h2⟩ := List.getElem?_zip_eq_some.mp hp
  exact ⟨p.1, p.2, h1, h2, e.symm⟩
theorem DenL.at {xs : List V} {i : Nat} {x : V} {d : D} (l : DenL G A ρ H xs ds) (hx : xs[i]? = some x) (hd : ds[i]? = some d) : Den G A ρ H x d := by
  obtain ⟨v, h1, h2⟩ := l.get hd
  rw [hx] at h1; cases h1; exact h2
theorem ItD.walk (h : ItD G K b A ρ H J ds) : ∃ (P : Hp → Prop) (Y : Nat → Hp → V → Hp → Prop), Walk J ds.length P Y ∧ (∀ H', Stay b A ρ H H' → P H') ∧ ∀ i x H1 H2 d, ds[i]? = some d → Y i H1 x H2 → YD G A ρ H d H1 x H2 := by
  cases h with
  | @lst a xs ds e n s l =>
    refine ⟨fun H' => SqL K H' a xs, YAt xs, ?_, fun H' st => SqL.of (st.1 a xs e n s), fun i x H1 H2 d hd y => .inl ⟨y.1, l.at y.2 hd⟩⟩
    rw [← l.length]; exact walk_list
  | @tup a xs ds e l =>
    refine ⟨fun H' => SqT K H' a xs, YAt xs, ?_, fun H' st => SqT.of (st.2 a xs e), fun i x H1 H2 d hd y => .inl ⟨y.1, l.at y.2 hd⟩⟩
    rw [← l.length]; exact walk_tup
  | rng lo n =>
    refine ⟨fun _ => True, YFn fun i => .int (lo + i), ?_, fun _ _ => trivial, fun i x H1 H2 d hd y => .inl ⟨y.1, ?_⟩⟩
    · have : ((List.range n).map fun k => D.int (lo + (k : Nat))).length = n := by simp
      rw [this]; exact walk_range
    · rw [List.getElem?_map] at hd
      obtain ⟨k, hk, rfl⟩ := Option.map_eq_some_iff.mp hd
      have : i = k := by
        have := List.getElem?_eq_some_iff.mp hk
        obtain ⟨_, e⟩ := this
        simpa using e
      subst this
      rw [y.2]; exact .int _
  | rng2 n =>
    refine ⟨fun _ => True, YFn fun i => .int (0 + (i : Nat) * 2), ?_, fun _ _ => trivial, fun i x H1 H2 d hd y => .inl ⟨y.1, ?_⟩⟩
    · have : ((List.range n).map fun k => D.int (2 * (k : Nat))).length = n := by simp
      rw [this]; exact walk_rangeC
    · rw [List.getElem?_map] at hd
      obtain ⟨k, hk, rfl⟩ := Option.map_eq_some_iff.mp hd
      have : i = k := by
        have := List.getElem?_eq_some_iff.mp hk
        obtain ⟨_, e⟩ := this
        simpa using e
      subst this
      rw [y.2]
      have e : (0 : Int) + (i : Nat) * 2 = 2 * (i : Nat) := by omega
      show Den G A ρ H (.int (0 + (i : Nat) * 2)) _
      rw [e]; exact .int _
  | str z =>
    refine ⟨fun _ => True, fun i H v H' => H' = H ∧ ∃ c, z.cps[i]? = some c ∧ v = .str ⟨#[c]⟩, ?_, fun _ _ => trivial, fun i x H1 H2 d hd y => .inl ⟨y.1, ?_⟩⟩
    · have : (z.cps.toList.map fun c => D.str ⟨#[c]⟩).length = z.cps.size := by simp
      rw [this]; exact walk_str
    · obtain ⟨_, c, hc, rfl⟩ := y
      rw [List.getElem?_map] at hd
      obtain ⟨k, hk, rfl⟩ := Option.map_eq_some_iff.mp hd
      have : c = k := by
        have h1 : z.cps.toList[i]? = some c := by simpa using hc
        rw [h1] at hk; exact Option.some.inj hk
      subst this
      exact .str _
  | @enm a xs ds e n s l =>
    refine ⟨fun H' => SqL K H' a xs, YPair (fun i => some (.int (i : Nat))) (fun i => xs[i]?), ?_, fun H' st => SqL.of (st.1 a xs e n s), fun i x H1 H2 d hd y => .inr ?_⟩
    · rw [enum_len, ← l.length]; exact walk_enum
    · obtain ⟨T, u, v, rfl, h1, h2, h3, h4⟩ := y
      obtain ⟨d', h5, rfl⟩ := enum_get hd
      cases h3
      exact ⟨T, _, v, _, d', rfl, h1, h2, rfl, .int _, l.at h4 h5⟩
  | @zipL a c xs ys ds es e n s l e2 n2 s2 l2 =>
    refine ⟨fun H' => SqL K H' a xs ∧ SqL K H' c ys, YPair (fun i => xs[i]?) (fun i => ys[i]?), ?_, fun H' st => ⟨SqL.of (st.1 a xs e n s), SqL.of (st.1 c ys e2 n2 s2)⟩, fun i x H1 H2 d hd y => .inr ?_⟩
    · rw [zip_len, ← l.length, ← l2.length]; exact walk_zip rfl
    · obtain ⟨T, u, v, rfl, h1, h2, h3, h4⟩ := y
      obtain ⟨d1, d2, h5, h6, rfl⟩ := zip_get hd
      exact ⟨T, u, v, d1, d2, rfl, h1, h2, rfl, l.at h3 h5, l2.at h4 h6⟩
  | @zipT a c xs ys ds es e l e2 l2 =>
    refine ⟨fun H' => SqT K H' a xs ∧ SqT K H' c ys, YPair (fun i => xs[i]?) (fun i => ys[i]?), ?_, fun H' st => ⟨SqT.of (st.2 a xs e), SqT.of (st.2 c ys e2)⟩, fun i x H1 H2 d hd y => .inr ?_⟩
    · rw [zip_len, ← l.length, ← l2.length]
      refine ⟨fun i _ hi q => ?_, fun _ q => ⟨xs, ys, q.1, q.2, by omega⟩, fun i H v H' _ q y => ?_⟩
      · have h1 : i < xs.length := by omega
        have h2 : i < ys.length := by omega
        exact ⟨xs, ys, xs[i], ys[i], q.1, q.2, by simp [h1], by simp [h2]⟩
      · obtain ⟨T, x, z, h1, h2, h3, h4, h5⟩ := y
        exact ⟨T, x, z, h1, h2, h3, h4 xs q.1, h5 ys q.2⟩
    · obtain ⟨T, u, v, rfl, h1, h2, h3, h4⟩ := y
      obtain ⟨d1, d2, h5, h6, rfl⟩ := zip_get hd
      exact ⟨T, u, v, d1, d2, rfl, h1, h2, rfl, l.at h3 h5, l2.at h4 h6⟩
end

def rI (G : Gb) (K : PySem.W.Frag) (b : Bool) : RelT (List D) It := fun B ow ρ H J ds => ItD G K b (av B ρ ow) ρ H J ds

/-- a list, a tuple or a text that is walked -/
def iSeq (K : PySem.W.Frag) (te : TE) : TI := fun σ H R => te σ H fun x H1 =>
  (∃ a xs, x = .ref a ∧ SqL K H1 a xs ∧ R (Itl K a) H1) ∨ (∃ a xs, x = .ref a ∧ SqT K H1 a xs ∧ R (Itt K a) H1) ∨ ∃ z, x = .str z ∧ R (Its z) H1
theorem pi_seq {X : Cx} {tg e : Expr} {te : TE} (he : PE X e te) : PI X tg e (iSeq X.K te) := by
  refine ⟨fun pins s σ H R I h => ?_⟩
  refine thn (he.run pins s σ H _ I h) fun v s1 ⟨x, H1, I1, r1, q1⟩ => ?_
  rcases q1 with ⟨a, xs, rfl, hq, q⟩ | ⟨a, xs, rfl, hq, q⟩ | ⟨z, rfl, q⟩
  · cases r1
    obtain ⟨its, _, pl, _⟩ := I1.list hq
    exact wpAny_pyIter_list pl.isList (pi_one (tk := s1.toks) I1 _ (turn_list a _) ⟨_, Heap.get?_push_size _ rfl, rfl, rfl⟩ q)
  · cases r1
    obtain ⟨its, _, pl, _⟩ := I1.tuple hq
    exact wpAny_pyIter_tuple (show s1.heap.IsTuple a its.toArray from pl) (pi_one (tk := s1.toks) I1 _ (turn_tuple a _) ⟨_, Heap.get?_push_size _ rfl, rfl, rfl⟩ q)
  · obtain ⟨t, rfl⟩ := r1
    cases hw : z.cps.all (· < 128) with
    | false => exact PySem.wpAny_pyIter_wide hw (pi_one (tk := s1.toks) I1 _ (turn_str _ z t _ (.inr rfl)) ⟨_, Heap.get?_push_size _ rfl, rfl, rfl⟩ q)
    | true => exact PySem.wpAny_pyIter_ascii hw (pi_one (tk := s1.toks) I1 _ (turn_str _ z t _ (.inl rfl)) ⟨_, Heap.get?_push_size _ rfl, rfl, rfl⟩ q)
end Q7

/-! Expressions: one lemma a form. -/
namespace Q7
open PySem L2

section
variable {G : Gb} {T : List Fn} {Z : Names} {E0 : XK} {X : Cx} {sc : Scope} {fs : Str → Bool}
abbrev iE (G : Gb) (T : List Fn) (E0 : XK) (c : CE) : TE := iG G E0 (rV G (isB c)) (ev T c)
abbrev iEs (G : Gb) (T : List Fn) (E0 : XK) (c : CEs) : TA := iG G E0 (rKs G) (evs T c)
abbrev iEs1 (G : Gb) (T : List Fn) (E0 : XK) (c : CEs) : TA := iG G E0 (rKs1 G) (evs T c)
abbrev iT (G : Gb) (T : List Fn) (E0 : XK) (c : CT) : TT := iG G E0 rEqv (evT T c)
abbrev iO (G : Gb) (T : List Fn) (E0 : XK) (c : CO) : TO := iG G E0 rEqv (evO T c)
abbrev iI (G : Gb) (T : List Fn) (E0 : XK) (K : PySem.W.Frag) (c : CI) : TI := iG G E0 (rI G K (isBI c)) (evI T c)

theorem q_var (C : Ct G T Z E0 X sc fs) {i : Nat} {x : Str} {pos : Pos} (h : varB Z.N sc i x = true) : PE X (.Name x pos) (iE G T E0 (.var i)) := by
  refine PE_weak (pe_name C h) fun σ H Q ⟨B, env, S, ρ, ow, R, P⟩ => ?_
  have P : Post G E0 (rV G false B ow) ρ H (lift (getv env i) S) Q := P
  obtain ⟨d, hd, P⟩ := post_lift P
  have e : env[i]? = some (.val d) := by
    unfold getv at hd
    split at hd
    · rename_i e; cases hd; exact e
    · cases hd
  obtain ⟨v, h1, h2⟩ := R.slot i d e
  exact ⟨v, h1, P v H ρ Step.refl R.st (rV.of h2)⟩
theorem q_bv (C : Ct G T Z E0 X sc fs) {i : Nat} {x : Str} {pos : Pos} (h : varB Z.N sc i x = true) : PE X (.Name x pos) (iE G T E0 (.bv i)) := by
  refine PE_weak (pe_name C h) fun σ H Q ⟨B, env, S, ρ, ow, R, P⟩ => ?_
  have P : Post G E0 (rV G true B ow) ρ H (lift (getb env i) S) Q := P
  obtain ⟨d, hd, P⟩ := post_lift P
  unfold getb at hd
  split at hd
  · rename_i e
    cases hd
    obtain ⟨v, h1, h2⟩ := R.slot i _ e
    exact ⟨v, h1, P v H ρ Step.refl R.st (rV.of h2)⟩
  · rename_i e
    cases hd
    obtain ⟨a, xs, h1, h2, h3, h4⟩ := R.own i _ e
    exact ⟨_, h1, P _ H ρ Step.refl R.st (Den1.lst h3 (R.disj i a h2).2 h4)⟩
  · cases hd
theorem q_const {e : Expr} {v : V} {d : D} {c : CE} (hp : PE X e (tC v)) (hc : ∀ env S, ev T c env S = .ok d S) (hd : ∀ B ρ H, Den G B ρ H v d) : PE X e (iE G T E0 c) := by
  refine PE_weak hp fun σ H Q ⟨B, env, S, ρ, ow, R, P⟩ => ?_
  rw [hc] at P
  exact P v H ρ Step.refl R.st (rV.of (hd _ _ _))
theorem q_bin (C : Ct G T Z E0 X sc fs) {o : BOp} {op : Operator} {a b : CE} {e1 e2 : Expr} {pos : Pos} (ho : bopB o op = true) (ha : PE X e1 (iE G T E0 a)) (hb : PE X e2 (iE G T E0 b)) : PE X (.BinOp e1 op e2 pos) (iE G T E0 (.bin o a b)) := by
  refine PE_weak (pe_op (op_bin ho) ha hb) fun σ H Q h => ?_
  exact (two h).mono fun x H1 h1 => h1.mono fun y H2 ⟨B, env, S, ρ, ow, a, b, R, da, db, P⟩ => by
    obtain ⟨d, hd, P⟩ := post_lift P
    exact bin_ok R.wl.hB R.wl.hb R.st hd da db (want_of R P)
theorem q_neg {a : CE} {e : Expr} {pos : Pos} (ha : PE X e (iE G T E0 a)) : PE X (.UnaryOp .USub e pos) (iE G T E0 (.neg a)) := by
  refine PE_weak (pe_un un_neg ha) fun σ H Q h => ?_
  refine (one (rel := rV G false) (ma := ev T a) (f := fun _ x => match x with | .int i => ret (.int (-i)) | _ => bad) h).mono fun x H1 ⟨B, env, S, ρ, ow, a, R, da, P⟩ => ?_
  cases a <;> try exact P.elim
  exact ⟨_, da.int_inv, P _ H1 ρ Step.refl R.st (rV.of (.int _))⟩
theorem tru_one {α β : Type} {rel : RelT α β} {σ : L2.St} {H : Hp} {x : V} {f : Env → D → Bool → M α} {Q : β → Hp → Prop} {K : PySem.W.Frag} (h : One G E0 rel σ (fun env x => bind (lift (truth x)) fun b => f env x b) Q x H) :
    ∃ k, TruV K x H k ∧ ∃ B env S ρ ow a, Rel G B env S ρ ow σ H ∧ Den1 G (av B ρ ow) ρ H x a ∧ Post G E0 (rel B ow) ρ H (f env a k S) Q := by
  obtain ⟨B, env, S, ρ, ow, a, R, da, P⟩ := h
  cases e : truth a with
  | none =>
    have P : Post G E0 (rel B ow) ρ H ((lift (truth a) S).bind fun b => f env a b) Q := P
    rw [e] at P; exact P.elim
  | some k =>
    have P : Post G E0 (rel B ow) ρ H ((lift (truth a) S).bind fun b => f env a b) Q := P
    rw [e] at P
    exact ⟨k, tru_of e da, B, env, S, ρ, ow, a, R, da, P⟩
theorem q_not {a : CE} {e : Expr} {pos : Pos} (ha : PE X e (iE G T E0 a)) : PE X (.UnaryOp .Not e pos) (iE G T E0 (.not a)) := by
  refine PE_weak (pe_notT ha) fun σ H Q h => ?_
  refine (one (rel := rV G false) (ma := ev T a) (f := fun _ x => bind (lift (truth x)) fun b => ret (.bool (!b))) h).mono fun x H1 h1 => ?_
  obtain ⟨k, ht, B, env, S, ρ, ow, d, R, da, P⟩ := tru_one (K := X.K) h1
  exact ⟨k, ht, P _ H1 ρ Step.refl R.st (rV.of (.bl _))⟩
theorem q_ite {t : CT} {a b : CE} {c e1 e2 : Expr} {pos : Pos} (hc : PT X c (iT G T E0 t)) (ha : PE X e1 (iE G T E0 a)) (hb : PE X e2 (iE G T E0 b)) (na : isB a = false) (nb : isB b = false) : PE X (.IfExp c e1 e2 pos) (iE G T E0 (.ite t a b)) := by
  refine PE_weak (pe_ifExp hc ha hb) fun σ H Q h => ?_
  refine (seq1 (rel := rV G false) (relb := rEqv) (m := evT T t) (f := fun env c => if c then ev T a env else ev T b env) h).mono fun k H1 ⟨B, env, S, ρ, ow, k', R, e, P⟩ => ?_
  cases (show k = k' from e)
  cases k with
  | true =>
    refine iteT ⟨B, env, S, ρ, ow, R, ?_⟩
    rw [na]; exact P
  | false =>
    refine iteF ⟨B, env, S, ρ, ow, R, ?_⟩
    rw [nb]; exact P
theorem noset_mark {op : CmpOp} {e : Expr} (h : noSet e = true) : behindInMarks op e = false := by
  cases e <;> first | rfl | (simp [noSet] at h; done) | (simp [noStar] at h; done)
theorem q_cmp (C : Ct G T Z E0 X sc fs) {o : COp} {op : CmpOp} {a b : CE} {e1 e2 : Expr} {pos : Pos} (ho : copB o op = true) (hm : noSet e2 = true) (ha : PE X e1 (iE G T E0 a)) (hb : PE X e2 (iE G T E0 b)) : PE X (.Compare e1 [op] [e2] pos) (iE G T E0 (.cmp o a b)) := by
  refine PE_weak (pe_cmpR (op_cmp C.hu ho) ha hb (noset_mark hm)) fun σ H Q h => ?_
  exact (two h).mono fun x H1 h1 => h1.mono fun y H2 ⟨B, env, S, ρ, ow, a, b, R, da, db, P⟩ => by
    obtain ⟨d, hd, P⟩ := post_lift P
    obtain ⟨k, hk, rfl⟩ := Option.map_eq_some_iff.mp hd
    exact ⟨G, _, ρ, a, b, k, hk, da, db, P _ H2 ρ Step.refl R.st (rV.of (.bl k))⟩
theorem qt_cmp (C : Ct G T Z E0 X sc fs) {o : COp} {op : CmpOp} {a b : CE} {e1 e2 : Expr} {pos : Pos} (ho : copB o op = true) (hm : noSet e2 = true) (ha : PE X e1 (iE G T E0 a)) (hb : PE X e2 (iE G T E0 b)) : PT X (.Compare e1 [op] [e2] pos) (iT G T E0 (.cmp o a b)) := by
  refine PT_weak (pt_cmpR (op_cmp C.hu ho) ha hb (noset_mark hm)) fun σ H Q h => ?_
  exact (two h).mono fun x H1 h1 => h1.mono fun y H2 ⟨B, env, S, ρ, ow, a, b, R, da, db, P⟩ => by
    obtain ⟨k, hk, P⟩ := post_lift P
    exact ⟨G, _, ρ, a, b, k, hk, da, db, k, rfl, P k H2 ρ Step.refl R.st rfl⟩
theorem noset_last {o p : CmpOp} {a b : Expr} (h : noSet b = true) : lastMarks [o, p] [a, b] = false := by
  show behindInMarks p b = false
  exact noset_mark h
/-- what a chain asks, at its middle -/
theorem chain_mid {α β : Type} {rel : RelT α β} {σ : L2.St} {H : Hp} {x y : V} {o : COp} {f : Env → D → Bool → M α} {Q : β → Hp → Prop} {K : PySem.W.Frag} {Q' : VK}
    (h : Two G E0 rel σ (fun env x y => bind (lift (cmpop o x y)) fun k => f env y k) Q x y H)
    (q : ∀ k B env S ρ ow b, Rel G B env S ρ ow σ H → Den1 G (av B ρ ow) ρ H y b → Post G E0 (rel B ow) ρ H (f env b k S) Q → Q' (.bl k) H) : rCmp K o x y H Q' := by
  obtain ⟨B, env, S, ρ, ow, a, b, R, da, db, P⟩ := h
  have P : Post G E0 (rel B ow) ρ H ((lift (cmpop o a b) S).bind fun k => f env b k) Q := P
  cases e : cmpop o a b with
  | none => rw [e] at P; exact P.elim
  | some k =>
    rw [e] at P
    exact ⟨G, _, ρ, a, b, k, e, da, db, q k B env S ρ ow b R db P⟩
theorem q_chain (C : Ct G T Z E0 X sc fs) {o p : COp} {op op' : CmpOp} {a b c : CE} {e1 e2 e3 : Expr} {pos : Pos} (ho : copB o op = true) (hp : copB p op' = true) (hm : noSet e3 = true) (ha : PE X e1 (iE G T E0 a)) (hb : PE X e2 (iE G T E0 b)) (hc : PE X e3 (iE G T E0 c)) :
    PE X (.Compare e1 [op, op'] [e2, e3] pos) (iE G T E0 (.chain o p a b c)) := by
  refine PE_weak (pe_chain (op_cmp C.hu ho) (op_cmp C.hu hp) ha hb hc (noset_last hm)) fun σ H Q h => ?_
  refine (two (rel := rV G false) (f := fun env x y => bind (lift (cmpop o x y)) fun k => if k then bind (ev T c env) fun z => lift ((cmpop p y z).map D.bool) else ret (D.bool false)) h).mono fun x H1 h1 => h1.mono fun y H2 h2 => ?_
  refine chain_mid (f := fun env y k => if k then bind (ev T c env) fun z => lift ((cmpop p y z).map D.bool) else ret (D.bool false)) h2 fun k B env S ρ ow d R db P => ⟨k, rfl, ?_⟩
  cases k with
  | false => exact iteF (P _ H2 ρ Step.refl R.st (rV.of (.bl false)))
  | true =>
    refine iteT ⟨B, env, S, ρ, ow, R, ?_⟩
    refine ((go1 (rel2 := rK1 G B ow) P).weak fun _ _ _ _ r => rV.to1 r).mono fun z H3 ⟨e, S1, ρ1, st, s1, r1, P1⟩ => ?_
    obtain ⟨d', hd, P1⟩ := post_lift P1
    obtain ⟨k, hk, rfl⟩ := Option.map_eq_some_iff.mp hd
    exact ⟨G, _, ρ1, d, e, k, hk, db.stp R.st st, r1, P1 _ H3 ρ1 Step.refl s1 (rV.of (.bl k))⟩
theorem qt_chain (C : Ct G T Z E0 X sc fs) {o p : COp} {op op' : CmpOp} {a b c : CE} {e1 e2 e3 : Expr} {pos : Pos} (ho : copB o op = true) (hp : copB p op' = true) (hm : noSet e3 = true) (ha : PE X e1 (iE G T E0 a)) (hb : PE X e2 (iE G T E0 b)) (hc : PE X e3 (iE G T E0 c)) :
    PT X (.Compare e1 [op, op'] [e2, e3] pos) (iT G T E0 (.chain o p a b c)) := by
  refine PT_weak (pt_chain (op_cmp C.hu ho) (op_cmp C.hu hp) ha hb hc (noset_last hm)) fun σ H Q h => ?_
  refine (two (rel := rEqv) (f := fun env x y => bind (lift (cmpop o x y)) fun k => if k then bind (ev T c env) fun z => lift (cmpop p y z) else ret false) h).mono fun x H1 h1 => h1.mono fun y H2 h2 => ?_
  refine chain_mid (f := fun env y k => if k then bind (ev T c env) fun z => lift (cmpop p y z) else ret false) h2 fun k B env S ρ ow d R db P => ⟨k, rfl, ?_⟩
  cases k with
  | false => exact iteF ⟨false, rfl, P false H2 ρ Step.refl R.st rfl⟩
  | true =>
    refine iteT ⟨B, env, S, ρ, ow, R, ?_⟩
    refine ((go1 (rel2 := rK1 G B ow) P).weak fun _ _ _ _ r => rV.to1 r).mono fun z H3 ⟨e, S1, ρ1, st, s1, r1, P1⟩ => ?_
    obtain ⟨k, hk, P1⟩ := post_lift P1
    exact ⟨G, _, ρ1, d, e, k, hk, db.stp R.st st, r1, k, rfl, P1 k H3 ρ1 Step.refl s1 rfl⟩
/-! ### lists of expressions -/
theorem nostar {e : Expr} {es : List Expr} {env : PySem.Env} (h : noStar e = true) : starEach (e :: es) env = (false, eval e env) :: starEach es env := by
  cases e <;> first | rfl | (simp [noSet] at h; done) | (simp [noStar] at h; done)
theorem qs_nil : PA X [] (iEs G T E0 .nil) := PA_weak pa_nil fun σ H Q ⟨B, env, S, ρ, ow, R, P⟩ => P [] H ρ Step.refl R.st .nil
theorem qs1_nil : PA X [] (iEs1 G T E0 .nil) := PA_weak pa_nil fun σ H Q ⟨B, env, S, ρ, ow, R, P⟩ => P [] H ρ Step.refl R.st .nil
theorem qs_cons {a : CE} {as : CEs} {e : Expr} {es : List Expr} (hs : noStar e = true) (na : isB a = false) (ha : PE X e (iE G T E0 a)) (hr : PA X es (iEs G T E0 as)) : PA X (e :: es) (iEs G T E0 (.cons a as)) := by
  refine PA_weak (pa_cons ha hr (nostar hs)) fun σ H Q h => ?_
  obtain ⟨B, env, S, ρ, ow, R, P⟩ := h
  have P : Post G E0 (rKs G B ow) ρ H ((ev T a env S).bind fun x => bind (evs T as env) fun xs => ret (x :: xs)) Q := P
  refine ⟨B, env, S, ρ, ow, R, ((go1 (rel2 := rK G B ow) P).weak fun _ _ _ _ r => r.toK na).mono fun x H1 ⟨d, S1, ρ1, st, s1, r1, P1⟩ => ?_⟩
  refine ⟨B, env, S1, ρ1, ow, R.step st s1, (go1 (rel2 := rKs G B ow) P1).mono fun xs H2 ⟨ds, S2, ρ2, st2, s2, r2, P2⟩ => ?_⟩
  exact P2 _ H2 ρ2 Step.refl s2 (.cons (Den.stp s1 st2 r1) r2)
theorem qs1_cons {a : CE} {as : CEs} {e : Expr} {es : List Expr} (hs : noStar e = true) (ha : PE X e (iE G T E0 a)) (hr : PA X es (iEs1 G T E0 as)) : PA X (e :: es) (iEs1 G T E0 (.cons a as)) := by
  refine PA_weak (pa_cons ha hr (nostar hs)) fun σ H Q h => ?_
  obtain ⟨B, env, S, ρ, ow, R, P⟩ := h
  have P : Post G E0 (rKs1 G B ow) ρ H ((ev T a env S).bind fun x => bind (evs T as env) fun xs => ret (x :: xs)) Q := P
  refine ⟨B, env, S, ρ, ow, R, ((go1 (rel2 := rK1 G B ow) P).weak fun _ _ _ _ r => r.to1).mono fun x H1 ⟨d, S1, ρ1, st, s1, r1, P1⟩ => ?_⟩
  refine ⟨B, env, S1, ρ1, ow, R.step st s1, (go1 (rel2 := rKs1 G B ow) P1).mono fun xs H2 ⟨ds, S2, ρ2, st2, s2, r2, P2⟩ => ?_⟩
  exact P2 _ H2 ρ2 Step.refl s2 (.cons (Den1.stp s1 st2 r1) r2)
theorem q_tup {as : CEs} {es : List Expr} {k : Nat} {pos : Pos} (h : PA X es (iEs G T E0 as)) : PE X (.Tuple es k pos) (iE G T E0 (.tup as)) := by
  refine PE_weak (pe_tup h) fun σ H Q h => ?_
  refine (seq1 (rel := rV G false) (relb := rKs G) (m := evs T as) (f := fun _ ds => if sizeOk ds.length then ret (.tup ds) else bad) h).mono fun xs H1 ⟨B, env, S, ρ, ow, ds, R, r, P⟩ => ?_
  have r : DenL G (av B ρ ow) ρ H1 xs ds := r
  cases hs : sizeOk ds.length with
  | false => simp only [hs] at P; exact P.elim
  | true =>
    simp only [hs] at P
    refine ⟨by rw [r.length]; exact size_line hs, fun p hp => P _ _ ρ (Step.new hp) (R.st.new hp) (rV.of (Den.newT R.wl.hB R.st hp r))⟩
theorem q_lst {as : CEs} {es : List Expr} {pos : Pos} (h : PA X es (iEs G T E0 as)) : PE X (.List es pos) (iE G T E0 (.lst as)) := by
  refine PE_weak (pe_lst h) fun σ H Q h => ?_
  refine (seq1 (rel := rV G false) (relb := rKs G) (m := evs T as) (f := fun _ ds => if sizeOk ds.length then ret (.list ds) else bad) h).mono fun xs H1 ⟨B, env, S, ρ, ow, ds, R, r, P⟩ => ?_
  have r : DenL G (av B ρ ow) ρ H1 xs ds := r
  cases hs : sizeOk ds.length with
  | false => simp only [hs] at P; exact P.elim
  | true =>
    simp only [hs] at P
    refine ⟨by rw [r.length]; exact size_line hs, fun p hp => P _ _ ρ (Step.new hp) (R.st.new hp) (rV.of (Den.newL R.wl.hB R.wl.hb R.st hp r))⟩
theorem q_idx {a b : CE} {e1 e2 : Expr} {pos : Pos} (hs : noSlice e2 = true) (ha : PE X e1 (iE G T E0 a)) (hb : PE X e2 (iE G T E0 b)) : PE X (.Subscript e1 e2 pos) (iE G T E0 (.idx a b)) := by
  have pl : PlainIx e2 := fun o i => by cases e2 <;> first | rfl | (simp [noSlice] at hs; done)
  refine PE_weak (pe_ix ix_seq ha hb pl) fun σ H Q h => ?_
  exact (two h).mono fun x H1 h1 => h1.mono fun y H2 ⟨B, env, S, ρ, ow, a, b, R, da, db, P⟩ => by
    obtain ⟨d, hd, P⟩ := post_lift P
    exact idx_ok hd da db fun v hv => P v H2 ρ Step.refl R.st (rV.of hv)
theorem q_slc {a : CE} {lo hi : CO} {e : Expr} {l u : Option Expr} {p2 pos : Pos} (ha : PE X e (iE G T E0 a)) (hl : PO X l (iO G T E0 lo)) (hh : PO X u (iO G T E0 hi)) : PE X (.Subscript e (.Slice l u none p2) pos) (iE G T E0 (.slc a lo hi)) := by
  refine PE_weak (pe_slice sl_all ha hl hh) fun σ H Q h => ?_
  obtain ⟨B, env, S, ρ, ow, R, P⟩ := h
  have P : Post G E0 (rV G false B ow) ρ H ((ev T a env S).bind fun x => bind (evO T lo env) fun l => bind (evO T hi env) fun h => lift (slice x l h)) Q := P
  refine ⟨B, env, S, ρ, ow, R, ((go1 (rel2 := rK1 G B ow) P).weak fun _ _ _ _ r => r.to1).mono fun x H1 ⟨d, S1, ρ1, st1, s1, r1, P1⟩ => ?_⟩
  refine ⟨B, env, S1, ρ1, ow, R.step st1 s1, (go1 (rel2 := rEqv B ow) P1).mono fun l H2 ⟨l', S2, ρ2, st2, s2, e2, P2⟩ => ?_⟩
  refine ⟨B, env, S2, ρ2, ow, (R.step st1 s1).step st2 s2, (go1 (rel2 := rEqv B ow) P2).mono fun u H3 ⟨u', S3, ρ3, st3, s3, e3, P3⟩ => ?_⟩
  cases (show l = l' from e2)
  cases (show u = u' from e3)
  obtain ⟨d', hd, P3⟩ := post_lift P3
  have R3 := ((R.step st1 s1).step st2 s2).step st3 s3
  exact slice_ok R3.wl hd (Den1.stp s1 (st2.trans st3) r1) (want_of R3 P3)
theorem qo_non : PO X none (iO G T E0 .non) := PO_weak po_none fun σ H Q ⟨B, env, S, ρ, ow, R, P⟩ => P none H ρ Step.refl R.st rfl
theorem qo_som {a : CE} {e : Expr} (ha : PE X e (iE G T E0 a)) : PO X (some e) (iO G T E0 (.som a)) := by
  refine PO_weak (po_some ha) fun σ H Q h => ?_
  refine (one (rel := rEqv) (ma := ev T a) (f := fun _ x => match x with | .int i => ret (some i) | _ => bad) h).mono fun x H1 ⟨B, env, S, ρ, ow, a, R, da, P⟩ => ?_
  cases a <;> try exact P.elim
  exact ⟨_, da.int_inv, P _ H1 ρ Step.refl R.st rfl⟩
theorem noany : ∀ {es : List Expr} {env : PySem.Env} {pos : Pos}, (∀ e ∈ es, noStar e = true) → (backTo pos (starEach es env)).any (·.1) = false
  | [], _, _, _ => rfl
  | e :: es, env, pos, h => by
    rw [nostar (h e (by simp))]
    show (false || (backTo pos (starEach es env)).any (·.1)) = false
    rw [noany fun e' he => h e' (by simp [he])]; rfl
end
end Q7

/-! Calls, tests, what is walked. -/
namespace Q7
open PySem L2

section
variable {G : Gb} {T : List Fn} {Z : Names} {E0 : XK} {X : Cx} {sc : Scope} {fs : Str → Bool}
theorem DenL1.of {B : Addr → Prop} {ρ : Rho} {H : Hp} : ∀ {vs : List V} {ds : List D}, DenL G B ρ H vs ds → DenL1 G B ρ H vs ds
  | _, _, .nil => .nil
  | _, _, .cons h l => .cons (.of h) (DenL1.of l)
/-- the promise of a def serves a call -/
theorem call_sp {B : Addr → Prop} {env : Env} {S : Sta} {ρ : Rho} {ow : Nat → Option Addr} {σ : L2.St} {H : Hp} {F : Fn} {n : Nat} {vs : List V} {ds : List D} {Q : VK} (R : Rel G B env S ρ ow σ H) (l : DenL G (av B ρ ow) ρ H vs ds)
    (ha : ∀ ds S, ds.length ≠ n → F ds S = .bad) (P : Post G E0 (rV G false B ow) ρ H (F ds S) Q) : spOf G n F vs H Q E0 := by
  have hn : vs.length = n := by
    rw [l.length]
    by_cases e : ds.length = n
    · exact e
    · rw [ha ds S e] at P; exact P.elim
  refine ⟨fun a => B a ∨ ∃ i, ow i = some a, ρ, S, ds, fun a h => ?_, R.st, l.mono fun a h => .inl ?_, hn, P.weak fun ρ' H' v d h => rV.of (h.mono fun a q => .inl ?_)⟩
  · exact R.tr a (h.elim .inl fun z => .inr (.inr z))
  · rcases h with (h | h) | h
    · exact .inl h
    · exact .inr (.inr h)
    · exact .inr (.inl h)
  · rcases q with h | h | h
    · exact .inl (.inl h)
    · exact .inr h
    · exact .inl (.inr h)
theorem chk_star : ∀ {c : CE} {sc : Scope} {e : Expr}, chkE Z c sc e = true → noStar e = true := by
  intro c sc e h
  cases e <;> first | rfl | (cases c <;> simp [chkE] at h; done)
theorem chks_star : ∀ {cs : CEs} {sc : Scope} {es : List Expr}, chkEs Z cs sc es = true → ∀ e ∈ es, noStar e = true
  | .nil, _, [], _ => by simp
  | .cons c cs, sc, e :: es, h => by
    simp only [chkEs, Bool.and_eq_true] at h
    intro e' he
    rcases List.mem_cons.mp he with rfl | he
    · exact chk_star h.1
    · exact chks_star h.2 e' he
  | .nil, _, _ :: _, h => by simp [chkEs] at h
  | .cons _ _, _, [], h => by simp [chkEs] at h
theorem q_call (C : Ct G T Z E0 X sc fs) {f : Nat} {cs : CEs} {x : Str} {p pos : Pos} {es : List Expr} (hf : Z.FN[f]? = some x) (hg : glB sc x = true) (hs : ∀ e ∈ es, noStar e = true) (hn : es = [] → cs = .nil) (ha : PA X es (iEs G T E0 cs)) : PE X (.Call (.Name x p) es [] pos) (iE G T E0 (.call f cs)) := by
  obtain ⟨F, hF⟩ := C.fnl f x hf
  obtain ⟨x', fa, fd, k, ps, e1, hm, ok, room, hk, hb, har⟩ := C.fns f F hF
  rw [hf] at e1; cases e1
  obtain ⟨g1, g2, g3⟩ := C.gl hg
  have key : ∀ σ H Q, iE G T E0 (.call f cs) σ H Q → tCall (spOf G ps.length F) [] E0 (iEs G T E0 cs) σ H Q := fun σ H Q h => by
    refine (seq1 (rel := rV G false) (relb := rKs G) (m := evs T cs) (f := fun _ ds => match T[f]? with | some F => F ds | none => bad) h).mono fun vs H1 ⟨B, env, S, ρ, ow, ds, R, r, P⟩ => ?_
    rw [List.append_nil]
    simp only [hF] at P
    exact call_sp R r har P
  cases es with
  | nil =>
    refine PE_weak (pe_call0 ok room g1 hm hk hb .nil C.pass g2) fun σ H Q h => ?_
    cases cs with
    | nil =>
      obtain ⟨B, env, S, ρ, ow, R, P⟩ := key σ H Q h
      exact P [] H ρ Step.refl R.st .nil
    | cons c cs => cases hn rfl
  | cons e es => exact PE_weak (pe_call ok room g1 hm hk hb .nil C.pass ha g2 (nostar (hs e (by simp))) (noany fun e' he => hs e' (by simp [he]))) key
theorem boot_blt (b : Blt) : bootBuiltins (bltN b) = some (bltV b) := by cases b <;> decide +kernel
theorem blt_names (b : Blt) : bltN b ∈ bltNames := by cases b <;> decide
theorem q_blt (C : Ct G T Z E0 X sc fs) {b : Blt} {cs : CEs} {x : Str} {p pos : Pos} {e : Expr} {es : List Expr} (hx : bltN b = x) (hg : glB sc x = true) (hs : ∀ e' ∈ e :: es, noStar e' = true) (ha : PA X (e :: es) (iEs1 G T E0 cs)) : PE X (.Call (.Name x p) (e :: es) [] pos) (iE G T E0 (.blt b cs)) := by
  obtain ⟨g1, g2, g3⟩ := C.gl hg
  have hm : X.mg x = none := C.blt x (hx ▸ blt_names b)
  have hv : bootBuiltins x = some (bltV b) := hx ▸ boot_blt b
  have key : ∀ σ H Q, iE G T E0 (.blt b cs) σ H Q → tCB (rBltD b) (iEs1 G T E0 cs) σ H Q := fun σ H Q h => by
    refine (seq1 (rel := rV G false) (relb := rKs1 G) (m := evs T cs) (f := fun _ ds => lift (blt b ds)) h).mono fun vs H1 ⟨B, env, S, ρ, ow, ds, R, r, P⟩ => ?_
    obtain ⟨d, hd, P⟩ := post_lift P
    exact ⟨G, _, ρ, ds, d, R.wl, hd, r, want_of R P⟩
  have oc := op_blt C.hu C.calm b
  cases hb : bltV b with
  | builtin id =>
    rw [hb] at oc hv
    exact PE_weak (pe_callB oc g1 hm hv ha g3 g2 (nostar (hs e (by simp))) (noany fun e' he => hs e' (by simp [he]))) key
  | type id =>
    rw [hb] at oc hv
    exact PE_weak (pe_callTy oc g1 hm hv ha g3 g2 (nostar (hs e (by simp))) (noany fun e' he => hs e' (by simp [he]))) key
  | _ => cases b <;> cases hb
def tyS : Ty → String
  | .int => "int" | .bool => "bool" | .str => "str" | .list => "list" | .tuple => "tuple" | .dict => "dict"
theorem boot_ty (t : Ty) : bootBuiltins (tyN t) = some (.type (tyS t)) := by cases t <;> decide +kernel
theorem ty_names (t : Ty) : tyN t ∈ bltNames := by cases t <;> decide
def dTy : D → String
  | .none => "NoneType" | .bool _ => "bool" | .int _ => "int" | .str _ => "str" | .list _ => "list" | .tup _ => "tuple" | .edict => "dict" | _ => "list"
theorem isTy_kit {a : D} {t : Ty} {k : Bool} (h : isTy a t = some k) : kitB (dTy a) (tyS t) = some k := by
  cases a <;> cases t <;> simp only [isTy] at h <;> first | (cases h; done) | (cases h; simp only [dTy, tyS]; decide +kernel)
theorem isTy_ty {K : PySem.W.Frag} {B : Addr → Prop} {ρ : Rho} {H : Hp} {x : V} {a : D} {t : Ty} {k : Bool} (h : isTy a t = some k) (q : Den1 G B ρ H x a) : TyX K H x (.type (dTy a)) := by
  cases q with
  | of q =>
    cases q with
    | non => exact .base .non
    | bl b => exact .base (.bl b)
    | int b => exact .base (.int b)
    | str b => exact .base (.str b)
    | lst e _ _ => exact .base (.lst e)
    | tup e _ => exact .base (.tup e)
    | edict e _ => exact .base (.dK e)
    | exc _ _ => cases t <;> simp [isTy] at h
    | ref _ => cases t <;> simp [isTy] at h
    | scr _ => cases t <;> simp [isTy] at h
  | lst e _ _ => exact .base (.lst e)
theorem q_isi (C : Ct G T Z E0 X sc fs) {a : CE} {t : Ty} {x y : Str} {p p2 pos : Pos} {e : Expr} (hx : x = "isinstance") (hy : tyN t = y) (hg : glB sc x = true) (hg2 : glB sc y = true) (hs : noStar e = true) (ha : PE X e (iE G T E0 a)) : PE X (.Call (.Name x p) [e, .Name y p2] [] pos) (iE G T E0 (.isi a t)) := by
  obtain ⟨g1, g2, g3⟩ := C.gl hg
  obtain ⟨h1, h2, h3⟩ := C.gl hg2
  subst hx hy
  have pty : PE X (.Name (tyN t) p2) (tC (.ty (tyS t))) := pe_bltn h1 (C.blt _ (ty_names t)) (boot_ty t) rfl h3 h2
  refine PE_weak (pe_callB call_isi g1 (C.blt _ (by decide)) (by decide +kernel) (pa_cons ha (pa_cons pty pa_nil (nostar rfl)) (nostar hs)) g3 g2 (nostar hs) (noany fun e' he => by simp at he; subst he; rfl)) fun σ H Q h => ?_
  refine (one (rel := rV G false) (ma := ev T a) (f := fun _ x => lift ((isTy x t).map D.bool)) h).mono fun x H1 ⟨B, env, S, ρ, ow, d, R, da, P⟩ => ?_
  obtain ⟨r, hr, P⟩ := post_lift P
  obtain ⟨k, hk, rfl⟩ := Option.map_eq_some_iff.mp hr
  exact ⟨x, .ty (tyS t), .type (dTy d), .type (tyS t), k, rfl, .ty _, isTy_ty hk da, kit_ty (isTy_kit hk), P _ H1 ρ Step.refl R.st (rV.of (.bl k))⟩
/-! isinstance of an own exception that is held -/
def rIsX (K : PySem.W.Frag) : List V → Hp → VK → Prop := fun xs H Q => ∃ (a C : Addr) (y : V) (cv : Value) (b : Bool), xs = [.ref a, y] ∧ H a = some (ExT C a) ∧ (∀ u, RelV y u → u = cv) ∧ ExcC K C ∧ PySem.W.kitOne K (.ref C) cv = some b ∧ Q (.bl b) H
theorem call_isX : CallR X (.builtin "isinstance") (rIsX X.K) := by
  intro pins s σ H xs us Q I r h
  obtain ⟨a, D, y, cv, b, rfl, ha, hcv, C, e, q⟩ := h
  obtain ⟨u1, u2, rfl, r1, r2⟩ := vals2 r
  cases (show u1 = Value.ref a from r1)
  cases hcv _ r2
  obtain ⟨⟨oe, vs, hget, hz, hv⟩, _⟩ := (show ObjOk X.prog X.w H s.heap a (ExT D a) from I.hok a _ ha)
  have J : PySem.W.InstAt s.heap a oe D none := by
    obtain ⟨oc, od, oda, osl⟩ := oe
    obtain ⟨h1, h2⟩ := hz
    dsimp only at h1 h2 hv
    subst h1 h2 hv
    exact ⟨hget, rfl, rfl, trivial⟩
  exact PySem.W.kia_one (PySem.W.handS_kitx_exc C.hg C.hk C.hs C.hd C.ha C.hn C.ht C.hm) I.kIn J e (fun z => nomatch z) fun tk => ⟨.bl b, H, I.tok tk, rfl, q⟩
theorem q_isx (C : Ct G T Z E0 X sc fs) {a : CE} {k : Option Nat} {x y : Str} {p p2 pos : Pos} {e : Expr} (hx : x = "isinstance") (hg : glB sc x = true) (hg2 : glB sc y = true) (hk : clsN Z k y = true) (hs : noStar e = true) (ha : PE X e (iE G T E0 a)) : PE X (.Call (.Name x p) [e, .Name y p2] [] pos) (iE G T E0 (.isx a k)) := by
  obtain ⟨g1, g2, g3⟩ := C.gl hg
  obtain ⟨h1, h2, h3⟩ := C.gl hg2
  subst hx
  have key : ∀ {v : V} {cv : Value}, PE X (.Name y p2) (tC v) → (∀ u, RelV v u → u = cv) → (∀ c b, c < 18 → isX (.exc c) k = some b → PySem.W.kitOne X.K (.ref (G.cls c)) cv = some b) → PE X (.Call (.Name "isinstance" p) [e, .Name y p2] [] pos) (iE G T E0 (.isx a k)) := by
    intro v cv pv hv hq
    refine PE_weak (pe_callB call_isX g1 (C.blt _ (by decide)) (by decide +kernel) (pa_cons ha (pa_cons pv pa_nil (nostar rfl)) (nostar hs)) g3 g2 (nostar hs) (noany fun e' he => by simp at he; subst he; rfl)) fun σ H Q h => ?_
    refine (one (rel := rV G false) (ma := ev T a) (f := fun _ x => lift ((isX x k).map D.bool)) h).mono fun x H1 ⟨B, env, S, ρ, ow, d, R, da, P⟩ => ?_
    obtain ⟨r, hr, P2⟩ := post_lift P
    obtain ⟨b, hb, rfl⟩ := Option.map_eq_some_iff.mp hr
    clear P
    cases d <;> first | (cases k <;> simp [isX] at hb; done) | skip
    rename_i c
    cases da with
    | of da =>
      cases da with
      | exc hH hc => exact ⟨_, _, v, cv, b, rfl, hH, hv, (C.cls c hc).1, hq c b hc hb, P2 _ H1 ρ Step.refl R.st (rV.of (.bl b))⟩
  cases k with
  | none =>
    have hy : y = "ValueError" := of_decide_eq_true hk
    subst hy
    refine key (v := .ty "ValueError") (cv := .type "ValueError") (pe_bltn h1 (C.blt _ (by decide)) (by decide +kernel) rfl h3 h2) (fun u r => r) fun c b hc hb => ?_
    cases hb
    exact (C.cls c hc).2.1
  | some n =>
    obtain ⟨hn, hm⟩ := C.cnm n y (of_decide_eq_true hk)
    refine key (v := .ref (G.cls n)) (cv := .ref (G.cls n)) (pe_glob h1 hm rfl h2) (fun u r => r) fun c b hc hb => ?_
    cases hb
    exact (C.cls c hc).2.2 n hn
theorem q_edict {pos : Pos} : PE X (.Dict [] [] pos) (iE G T E0 .edict) := by
  refine PE_weak pe_dnewK fun σ H Q ⟨B, env, S, ρ, ow, R, P⟩ p hp => ?_
  exact P _ _ ρ (Step.new hp) (R.st.new hp) (rV.of (.edict upd_same fun q => R.tr p q hp))
theorem mth_tyV {K : PySem.W.Frag} {B : Addr → Prop} {ρ : Rho} {H : Hp} {x : V} {m : Mth} {a : D} (h : mthOkT m a = true) (q : Den1 G B ρ H x a) : tyV K (mthT m) x H := by
  cases m <;> cases a <;> first | (simp [mthOkT] at h; done) | (rw [q.str_inv]; rfl) | (obtain ⟨p, xs, rfl, e, _⟩ := q.list_inv; exact .inl ⟨rfl, xs, SqL.of e⟩)
theorem mth_all (m : Mth) : PlainAttrs (mthT m) ∧ PySem.Slot (mthT m) (mthN m) (mthId m) ∧ typeOf (.builtin (mthId m)) = pure (.type "method_descriptor") := by
  cases m
  · exact ⟨F.plainAttrs_str, F.slot_str_partition, F.type_str_partition⟩
  · exact ⟨F.plainAttrs_str, F.slot_str_split, F.type_str_split⟩
  · exact ⟨F.plainAttrs_str, F.slot_str_join, F.type_str_join⟩
  · exact ⟨F.plainAttrs_str, F.slot_str_endswith, F.type_str_endswith⟩
  · exact ⟨F.plainAttrs_list, F.slot_list_index, F.type_list_index⟩
  · exact ⟨F.plainAttrs_list, F.slot_list_count, F.type_list_count⟩
theorem nosuper {e : Expr} {n : Str} {env : PySem.Env} (h : noSuper e = true) : attributeBase e n env (eval e env) = eval e env := by
  unfold attributeBase
  split
  · simp [noSuper] at h
  · rfl
theorem q_meth (C : Ct G T Z E0 X sc fs) {m : Mth} {a : CE} {cs : CEs} {n : Str} {apos pos : Pos} {e v : Expr} (hn : mthN m = n) (hp : noSuper e = true) (hl : (apos.endLine == pos.line) = true) (hs : noStar v = true) (ha : PE X e (iE G T E0 a)) (hv : PA X [v] (iEs1 G T E0 cs)) : PE X (.Call (.Attribute e n apos) [v] [] pos) (iE G T E0 (.meth m a cs)) := by
  subst hn
  obtain ⟨m1, m2, m3⟩ := mth_all m
  refine PE_weak (pe_bm m1 m2 m3 (op_mth C.hu m) ha hv (nosuper hp) ?_ hl (nostar hs) rfl) fun σ H Q h => ?_
  · rw [nostar hs]; rfl
  · obtain ⟨B, env, S, ρ, ow, R, P⟩ := h
    have P : Post G E0 (rV G false B ow) ρ H ((ev T a env S).bind fun x => if mthOkT m x then bind (evs T cs env) fun ds => lift (meth m x ds) else bad) Q := P
    refine ⟨B, env, S, ρ, ow, R, ((go1 (rel2 := rK1 G B ow) P).weak fun _ _ _ _ r => r.to1).mono fun x H1 ⟨d, S1, ρ1, st1, s1, r1, P1⟩ => ?_⟩
    cases hk : mthOkT m d with
    | false => simp only [hk] at P1; exact P1.elim
    | true =>
      simp only [hk] at P1
      refine ⟨mth_tyV hk r1, B, env, S1, ρ1, ow, R.step st1 s1, (go1 (rel2 := rKs1 G B ow) P1).mono fun xs H2 ⟨ds, S2, ρ2, st2, s2, r2, P2⟩ => ?_⟩
      obtain ⟨r, hr, P2⟩ := post_lift P2
      have R2 := (R.step st1 s1).step st2 s2
      exact ⟨G, _, ρ2, d, ds, r, R2.wl, hr, Den1.stp s1 st2 r1, r2, want_of R2 P2⟩
/-! ### ranges as lists -/
theorem rng_ok {i j : Int} (h : rngOk i j = true) : RgOk i j := by
  simp only [rngOk, Bool.and_eq_true, decide_eq_true_eq] at h
  exact ⟨by omega, by omega, by omega, by omega, by omega⟩
theorem den_rg {B : Addr → Prop} {ρ : Rho} {H : Hp} (a b : Int) : DenL G B ρ H (rgV a b) (rangeD a b) := by
  unfold rgV rangeD
  generalize (b - a).toNat = n
  have : ∀ l : List Nat, DenL G B ρ H (l.map fun i => V.int (a + (i : Nat))) (l.map fun k => D.int (a + (k : Nat))) := by
    intro l
    induction l with
    | nil => exact .nil
    | cons x l ih => exact .cons (.int _) ih
  exact this _
theorem evO_non {α β : Type} {rel : RelT α β} {σ : L2.St} {H : Hp} {Q : β → Hp → Prop} {f : Env → Option Int → M α} (h : iG G E0 rel (fun env => bind (evO T .non env) (f env)) σ H Q) : iG G E0 rel (fun env => f env none) σ H Q := h
/-- the bounds of a range -/
theorem prg_q1 (C : Ct G T Z E0 X sc fs) {b : CE} {y : Str} {p pos : Pos} {e : Expr} (hy : y = "range") (hg : glB sc y = true) (hs : noStar e = true) (hb : PE X e (iE G T E0 b)) : PRg X (.Call (.Name y p) [e] [] pos) (tRg1 (iE G T E0 b)) := by
  subst hy
  exact prg_1 (C.gl hg).1 (C.blt _ (by decide)) hb (nostar hs)
theorem prg_q2 (C : Ct G T Z E0 X sc fs) {a b : CE} {y : Str} {p pos : Pos} {e e2 : Expr} (hy : y = "range") (hg : glB sc y = true) (hs : noStar e = true) (hs2 : noStar e2 = true) (ha : PE X e (iE G T E0 a)) (hb : PE X e2 (iE G T E0 b)) : PRg X (.Call (.Name y p) [e, e2] [] pos) (tRg2 (iE G T E0 a) (iE G T E0 b)) := by
  subst hy
  exact prg_2 (C.gl hg).1 (C.blt _ (by decide)) ha hb (nostar hs) (nostar hs2) (noany fun e' he => by simp at he; subst he; exact hs2)
theorem asInt {α β : Type} {rel : Rho → Hp → β → α → Prop} {ρ : Rho} {H : Hp} {S : Sta} {Q : β → Hp → Prop} {d : D} {f : Option Int → M α} (P : Post G E0 rel ρ H (bind (match d with | .int i => ret (some i) | _ => bad) f S) Q) : ∃ i, d = .int i ∧ Post G E0 rel ρ H (f (some i) S) Q := by
  cases d <;> first | exact P.elim | exact ⟨_, rfl, P⟩
theorem two_int {α β : Type} {rel : RelT α β} {σ : L2.St} {H : Hp} {a b : CE} {f : Env → Option Int → Option Int → M α} {Q : β → Hp → Prop} (h : iG G E0 rel (fun env => bind (evO T (.som a) env) fun x => bind (evO T (.som b) env) fun y => f env x y) σ H Q) :
    iE G T E0 a σ H fun x H1 => iE G T E0 b σ H1 fun y H2 => ∃ i j, x = .int i ∧ y = .int j ∧ ∃ B env S ρ ow, Rel G B env S ρ ow σ H2 ∧ Post G E0 (rel B ow) ρ H2 (f env (some i) (some j) S) Q := by
  obtain ⟨B, env, S, ρ, ow, R, P⟩ := h
  have P : Post G E0 (rel B ow) ρ H (((ev T a env S).bind fun x => (match x with | .int i => ret (some i) | _ => bad)).bind fun x => bind (evO T (.som b) env) fun y => f env x y) Q := P
  have P : Post G E0 (rel B ow) ρ H ((ev T a env S).bind fun x => bind (match x with | .int i => ret (some i) | _ => bad) fun x => bind (evO T (.som b) env) fun y => f env x y) Q := by
    revert P; cases ev T a env S <;> exact id
  refine ⟨B, env, S, ρ, ow, R, ((go1 (rel2 := rK1 G B ow) P).weak fun _ _ _ _ r => r.to1).mono fun x H1 ⟨d, S1, ρ1, st1, s1, r1, P1⟩ => ?_⟩
  obtain ⟨i, rfl, P1⟩ := asInt P1
  have P1 : Post G E0 (rel B ow) ρ1 H1 (((ev T b env S1).bind fun x => (match x with | .int i => ret (some i) | _ => bad)).bind fun y => f env (some i) y) Q := P1
  have P1 : Post G E0 (rel B ow) ρ1 H1 ((ev T b env S1).bind fun x => bind (match x with | .int i => ret (some i) | _ => bad) fun y => f env (some i) y) Q := by
    revert P1; cases ev T b env S1 <;> exact id
  refine ⟨B, env, S1, ρ1, ow, R.step st1 s1, ((go1 (rel2 := rK1 G B ow) P1).weak fun _ _ _ _ r => r.to1).mono fun y H2 ⟨d2, S2, ρ2, st2, s2, r2, P2⟩ => ?_⟩
  obtain ⟨j, rfl, P2⟩ := asInt P2
  exact ⟨i, j, Den1.int_inv r1, Den1.int_inv r2, B, env, S2, ρ2, ow, (R.step st1 s1).step st2 s2, P2⟩
theorem one_int {α β : Type} {rel : RelT α β} {σ : L2.St} {H : Hp} {b : CE} {f : Env → Option Int → M α} {Q : β → Hp → Prop} (h : iG G E0 rel (fun env => bind (evO T (.som b) env) fun y => f env y) σ H Q) :
    iE G T E0 b σ H fun y H2 => ∃ j, y = .int j ∧ ∃ B env S ρ ow, Rel G B env S ρ ow σ H2 ∧ Post G E0 (rel B ow) ρ H2 (f env (some j) S) Q := by
  obtain ⟨B, env, S, ρ, ow, R, P⟩ := h
  have P1 : Post G E0 (rel B ow) ρ H (((ev T b env S).bind fun x => (match x with | .int i => ret (some i) | _ => bad)).bind fun y => f env y) Q := P
  have P1 : Post G E0 (rel B ow) ρ H ((ev T b env S).bind fun x => bind (match x with | .int i => ret (some i) | _ => bad) fun y => f env y) Q := by
    revert P1; cases ev T b env S <;> exact id
  refine ⟨B, env, S, ρ, ow, R, ((go1 (rel2 := rK1 G B ow) P1).weak fun _ _ _ _ r => r.to1).mono fun y H2 ⟨d2, S2, ρ2, st2, s2, r2, P2⟩ => ?_⟩
  obtain ⟨j, rfl, P2⟩ := asInt P2
  exact ⟨j, Den1.int_inv r2, B, env, S2, ρ2, ow, R.step st2 s2, P2⟩
theorem new_rg {B : Addr → Prop} {env : Env} {S : Sta} {ρ : Rho} {ow : Nat → Option Addr} {σ : L2.St} {H : Hp} {i j : Int} {Q : VK} (R : Rel G B env S ρ ow σ H) (P : Post G E0 (rV G false B ow) ρ H ((if rngOk i j then ret (D.list (rangeD i j)) else bad : M D) S) Q) : RgOk i j ∧ ∀ q, H q = none → Q (.ref q) (upd H q (.lst (rgV i j))) := by
  cases h : rngOk i j with
  | false => rw [h] at P; exact P.elim
  | true =>
    rw [h] at P
    exact ⟨rng_ok h, fun q hq => P _ _ ρ (Step.new hq) (R.st.new hq) (rV.of (Den.newL R.wl.hB R.wl.hb R.st hq (den_rg i j)))⟩
theorem new_rgT {B : Addr → Prop} {env : Env} {S : Sta} {ρ : Rho} {ow : Nat → Option Addr} {σ : L2.St} {H : Hp} {i j : Int} {Q : VK} (R : Rel G B env S ρ ow σ H) (P : Post G E0 (rV G false B ow) ρ H ((if rngOk i j then ret (D.tup (rangeD i j)) else bad : M D) S) Q) : RgOk i j ∧ ∀ q, H q = none → Q (.ref q) (upd H q (.tup (rgV i j))) := by
  cases h : rngOk i j with
  | false => rw [h] at P; exact P.elim
  | true =>
    rw [h] at P
    exact ⟨rng_ok h, fun q hq => P _ _ ρ (Step.new hq) (R.st.new hq) (rV.of (Den.newT R.wl.hB R.st hq (den_rg i j)))⟩
theorem q_listRng1 (C : Ct G T Z E0 X sc fs) {b : CE} {x y : Str} {p p2 pos pos2 : Pos} {e : Expr} (hx : x = "list") (hgx : glB sc x = true) (hy : y = "range") (hg : glB sc y = true) (hs : noStar e = true) (hb : PE X e (iE G T E0 b)) : PE X (.Call (.Name x p) [.Call (.Name y p2) [e] [] pos2] [] pos) (iE G T E0 (.listRng .non (.som b))) := by
  subst hx
  refine PE_weak (pe_listRg C.calm (C.gl hgx).1 (C.blt _ (by decide)) (prg_q1 C hy hg hs hb) (nostar rfl)) fun σ H Q h => ?_
  refine (one_int (rel := rV G false) (f := fun _ y => match (none : Option Int), y with | none, some j => if rngOk 0 j then ret (D.list (rangeD 0 j)) else bad | some i, some j => if rngOk i j then ret (D.list (rangeD i j)) else bad | _, _ => bad) h).mono fun v H1 ⟨j, e, B, env, S, ρ, ow, R, P⟩ => ⟨j, e, ?_⟩
  exact new_rg R P
theorem q_listRng2 (C : Ct G T Z E0 X sc fs) {a b : CE} {x y : Str} {p p2 pos pos2 : Pos} {e e2 : Expr} (hx : x = "list") (hgx : glB sc x = true) (hy : y = "range") (hg : glB sc y = true) (hs : noStar e = true) (hs2 : noStar e2 = true) (ha : PE X e (iE G T E0 a)) (hb : PE X e2 (iE G T E0 b)) : PE X (.Call (.Name x p) [.Call (.Name y p2) [e, e2] [] pos2] [] pos) (iE G T E0 (.listRng (.som a) (.som b))) := by
  subst hx
  refine PE_weak (pe_listRg C.calm (C.gl hgx).1 (C.blt _ (by decide)) (prg_q2 C hy hg hs hs2 ha hb) (nostar rfl)) fun σ H Q h => ?_
  refine (two_int (rel := rV G false) (f := fun _ x y => match x, y with | none, some j => if rngOk 0 j then ret (D.list (rangeD 0 j)) else bad | some i, some j => if rngOk i j then ret (D.list (rangeD i j)) else bad | _, _ => bad) h).mono fun v H1 h1 => h1.mono fun w H2 ⟨i, j, e1, e2, B, env, S, ρ, ow, R, P⟩ => ⟨i, j, e1, e2, ?_⟩
  exact new_rg R P
theorem q_tupRng1 (C : Ct G T Z E0 X sc fs) {b : CE} {x y : Str} {p p2 pos pos2 : Pos} {e : Expr} (hx : x = "tuple") (hgx : glB sc x = true) (hy : y = "range") (hg : glB sc y = true) (hs : noStar e = true) (hb : PE X e (iE G T E0 b)) : PE X (.Call (.Name x p) [.Call (.Name y p2) [e] [] pos2] [] pos) (iE G T E0 (.tupRng .non (.som b))) := by
  subst hx
  refine PE_weak (pe_tupRg C.calm (C.gl hgx).1 (C.blt _ (by decide)) (prg_q1 C hy hg hs hb) (nostar rfl)) fun σ H Q h => ?_
  refine (one_int (rel := rV G false) (f := fun _ y => match (none : Option Int), y with | none, some j => if rngOk 0 j then ret (D.tup (rangeD 0 j)) else bad | some i, some j => if rngOk i j then ret (D.tup (rangeD i j)) else bad | _, _ => bad) h).mono fun v H1 ⟨j, e, B, env, S, ρ, ow, R, P⟩ => ⟨j, e, ?_⟩
  exact new_rgT R P
theorem q_tupRng2 (C : Ct G T Z E0 X sc fs) {a b : CE} {x y : Str} {p p2 pos pos2 : Pos} {e e2 : Expr} (hx : x = "tuple") (hgx : glB sc x = true) (hy : y = "range") (hg : glB sc y = true) (hs : noStar e = true) (hs2 : noStar e2 = true) (ha : PE X e (iE G T E0 a)) (hb : PE X e2 (iE G T E0 b)) : PE X (.Call (.Name x p) [.Call (.Name y p2) [e, e2] [] pos2] [] pos) (iE G T E0 (.tupRng (.som a) (.som b))) := by
  subst hx
  refine PE_weak (pe_tupRg C.calm (C.gl hgx).1 (C.blt _ (by decide)) (prg_q2 C hy hg hs hs2 ha hb) (nostar rfl)) fun σ H Q h => ?_
  refine (two_int (rel := rV G false) (f := fun _ x y => match x, y with | none, some j => if rngOk 0 j then ret (D.tup (rangeD 0 j)) else bad | some i, some j => if rngOk i j then ret (D.tup (rangeD i j)) else bad | _, _ => bad) h).mono fun v H1 h1 => h1.mono fun w H2 ⟨i, j, e1, e2, B, env, S, ρ, ow, R, P⟩ => ⟨i, j, e1, e2, ?_⟩
  exact new_rgT R P
end
end Q7

/-! And, or, tests, texts, what is walked. -/
namespace Q7
open PySem L2

section
variable {G : Gb} {T : List Fn} {Z : Names} {E0 : XK} {X : Cx} {sc : Scope} {fs : Str → Bool}
abbrev iAnd (G : Gb) (T : List Fn) (E0 : XK) (c : CEs) : TE := iG G E0 (rV G false) (evAnd T c)
abbrev iOr (G : Gb) (T : List Fn) (E0 : XK) (c : CEs) : TE := iG G E0 (rV G false) (evOr T c)
theorem q_and1 {a : CE} {e : Expr} {pos : Pos} (na : isB a = false) (ha : PE X e (iE G T E0 a)) : PE X (.BoolOp .And [e] pos) (iAnd G T E0 (.cons a .nil)) := by
  refine PE_weak (pe_one ha) fun σ H Q ⟨B, env, S, ρ, ow, R, P⟩ => ⟨B, env, S, ρ, ow, R, ?_⟩
  rw [na]
  have P : Post G E0 (rV G false B ow) ρ H (evAnd T (.cons a .nil) env S) Q := P
  simp only [evAnd] at P
  exact P
theorem q_or1 {a : CE} {e : Expr} {pos : Pos} (na : isB a = false) (ha : PE X e (iE G T E0 a)) : PE X (.BoolOp .Or [e] pos) (iOr G T E0 (.cons a .nil)) := by
  refine PE_weak (pe_one ha) fun σ H Q ⟨B, env, S, ρ, ow, R, P⟩ => ⟨B, env, S, ρ, ow, R, ?_⟩
  rw [na]
  have P : Post G E0 (rV G false B ow) ρ H (evOr T (.cons a .nil) env S) Q := P
  simp only [evOr] at P
  exact P
theorem q_and2 {a b : CE} {cs : CEs} {e e2 : Expr} {es : List Expr} {pos : Pos} (na : isB a = false) (ha : PE X e (iE G T E0 a)) (hb : PE X (.BoolOp .And (e2 :: es) pos) (iAnd G T E0 (.cons b cs))) : PE X (.BoolOp .And (e :: e2 :: es) pos) (iAnd G T E0 (.cons a (.cons b cs))) := by
  refine PE_weak (pe_andT ha hb) fun σ H Q ⟨B, env, S, ρ, ow, R, P⟩ => ⟨B, env, S, ρ, ow, R, ?_⟩
  have P : Post G E0 (rV G false B ow) ρ H (evAnd T (.cons a (.cons b cs)) env S) Q := P
  simp only [evAnd] at P
  have P : Post G E0 (rV G false B ow) ρ H ((ev T a env S).bind fun x => bind (lift (truth x)) fun k => if k then evAnd T (.cons b cs) env else ret x) Q := P
  refine ((go1 (rel2 := rK G B ow) P).weak fun _ _ _ _ r => r.toK na).mono fun x H1 ⟨d, S1, ρ1, st1, s1, r1, P1⟩ => ?_
  have P1 : Post G E0 (rV G false B ow) ρ1 H1 ((lift (truth d) S1).bind fun k => if k then evAnd T (.cons b cs) env else ret d) Q := P1
  cases ht : truth d with
  | none => rw [ht] at P1; exact P1.elim
  | some k =>
    rw [ht] at P1
    refine ⟨k, tru_of ht (.of r1), ?_⟩
    cases k with
    | true => exact iteT ⟨B, env, S1, ρ1, ow, R.step st1 s1, P1⟩
    | false => exact iteF (P1 _ H1 ρ1 Step.refl s1 (rV.of r1))
theorem q_or2 {a b : CE} {cs : CEs} {e e2 : Expr} {es : List Expr} {pos : Pos} (na : isB a = false) (ha : PE X e (iE G T E0 a)) (hb : PE X (.BoolOp .Or (e2 :: es) pos) (iOr G T E0 (.cons b cs))) : PE X (.BoolOp .Or (e :: e2 :: es) pos) (iOr G T E0 (.cons a (.cons b cs))) := by
  refine PE_weak (pe_orT ha hb) fun σ H Q ⟨B, env, S, ρ, ow, R, P⟩ => ⟨B, env, S, ρ, ow, R, ?_⟩
  have P : Post G E0 (rV G false B ow) ρ H (evOr T (.cons a (.cons b cs)) env S) Q := P
  simp only [evOr] at P
  have P : Post G E0 (rV G false B ow) ρ H ((ev T a env S).bind fun x => bind (lift (truth x)) fun k => if k then ret x else evOr T (.cons b cs) env) Q := P
  refine ((go1 (rel2 := rK G B ow) P).weak fun _ _ _ _ r => r.toK na).mono fun x H1 ⟨d, S1, ρ1, st1, s1, r1, P1⟩ => ?_
  have P1 : Post G E0 (rV G false B ow) ρ1 H1 ((lift (truth d) S1).bind fun k => if k then ret d else evOr T (.cons b cs) env) Q := P1
  cases ht : truth d with
  | none => rw [ht] at P1; exact P1.elim
  | some k =>
    rw [ht] at P1
    refine ⟨k, tru_of ht (.of r1), ?_⟩
    cases k with
    | false => exact iteF ⟨B, env, S1, ρ1, ow, R.step st1 s1, P1⟩
    | true => exact iteT (P1 _ H1 ρ1 Step.refl s1 (rV.of r1))
/-! tests -/
abbrev iTA (G : Gb) (T : List Fn) (E0 : XK) (c : CTs) : TT := iG G E0 rEqv (evTAnd T c)
abbrev iTO (G : Gb) (T : List Fn) (E0 : XK) (c : CTs) : TT := iG G E0 rEqv (evTOr T c)
theorem plain_true {e : Expr} {env : PySem.Env} (h : plainT e = true) : ∀ whole, isTrue e env whole = (do let v ← whole; standAt e.pos; holding [v] (truthy v)) := by
  intro w
  cases e <;> first | rfl | (simp [plainT] at h; done) | skip
  rename_i o e p
  cases o <;> first | rfl | (simp [plainT] at h; done)
theorem qt_val {a : CE} {e : Expr} (hp : plainT e = true) (ha : PE X e (iE G T E0 a)) : PT X e (iT G T E0 (.val a)) := by
  refine PT_weak (pt_truth ha (plain_true hp)) fun σ H Q h => ?_
  refine (one (rel := rEqv) (ma := ev T a) (f := fun _ x => lift (truth x)) h).mono fun x H1 ⟨B, env, S, ρ, ow, d, R, da, P⟩ => ?_
  obtain ⟨k, hk, P⟩ := post_lift P
  exact ⟨k, tru_of hk da, P k H1 ρ Step.refl R.st rfl⟩
theorem qt_not {t : CT} {e : Expr} {pos : Pos} (ha : PT X e (iT G T E0 t)) : PT X (.UnaryOp .Not e pos) (iT G T E0 (.not t)) := by
  refine PT_weak (pt_not ha) fun σ H Q h => ?_
  refine (seq1 (rel := rEqv) (relb := rEqv) (m := evT T t) (f := fun _ x => ret (!x)) h).mono fun x H1 ⟨B, env, S, ρ, ow, d, R, da, P⟩ => ?_
  cases (show x = d from da)
  exact P _ H1 ρ Step.refl R.st rfl
theorem qw_and1 {t : CT} {e : Expr} {pos : Pos} (ha : PT X e (iT G T E0 t)) : PW X (.BoolOp .And [e] pos) (iTA G T E0 (.cons t .nil)) := by
  refine PW_weak (pw_and1 ha) fun σ H Q ⟨B, env, S, ρ, ow, R, P⟩ => ⟨B, env, S, ρ, ow, R, ?_⟩
  have P : Post G E0 (rEqv B ow) ρ H (evTAnd T (.cons t .nil) env S) Q := P
  simp only [evTAnd] at P
  exact P
theorem qw_or1 {t : CT} {e : Expr} {pos : Pos} (ha : PT X e (iT G T E0 t)) : PW X (.BoolOp .Or [e] pos) (iTO G T E0 (.cons t .nil)) := by
  refine PW_weak (pw_or1 ha) fun σ H Q ⟨B, env, S, ρ, ow, R, P⟩ => ⟨B, env, S, ρ, ow, R, ?_⟩
  have P : Post G E0 (rEqv B ow) ρ H (evTOr T (.cons t .nil) env S) Q := P
  simp only [evTOr] at P
  exact P
theorem qw_and2 {t u : CT} {ts : CTs} {e e2 : Expr} {es : List Expr} {pos : Pos} (ha : PT X e (iT G T E0 t)) (hb : PW X (.BoolOp .And (e2 :: es) pos) (iTA G T E0 (.cons u ts))) : PW X (.BoolOp .And (e :: e2 :: es) pos) (iTA G T E0 (.cons t (.cons u ts))) := by
  refine PW_weak (pw_and ha hb) fun σ H Q ⟨B, env, S, ρ, ow, R, P⟩ => ⟨B, env, S, ρ, ow, R, ?_⟩
  have P : Post G E0 (rEqv B ow) ρ H (evTAnd T (.cons t (.cons u ts)) env S) Q := P
  simp only [evTAnd] at P
  refine (go1 (rel2 := rEqv B ow) (m := evT T t env S) (f := fun x => if x then evTAnd T (.cons u ts) env else ret false) P).mono fun x H1 ⟨d, S1, ρ1, st1, s1, r1, P1⟩ => ?_
  cases (show x = d from r1)
  cases x with
  | true => exact iteT ⟨B, env, S1, ρ1, ow, R.step st1 s1, P1⟩
  | false => exact iteF (P1 _ H1 ρ1 Step.refl s1 rfl)
theorem qw_or2 {t u : CT} {ts : CTs} {e e2 : Expr} {es : List Expr} {pos : Pos} (ha : PT X e (iT G T E0 t)) (hb : PW X (.BoolOp .Or (e2 :: es) pos) (iTO G T E0 (.cons u ts))) : PW X (.BoolOp .Or (e :: e2 :: es) pos) (iTO G T E0 (.cons t (.cons u ts))) := by
  refine PW_weak (pw_or ha hb) fun σ H Q ⟨B, env, S, ρ, ow, R, P⟩ => ⟨B, env, S, ρ, ow, R, ?_⟩
  have P : Post G E0 (rEqv B ow) ρ H (evTOr T (.cons t (.cons u ts)) env S) Q := P
  simp only [evTOr] at P
  refine (go1 (rel2 := rEqv B ow) (m := evT T t env S) (f := fun x => if x then ret true else evTOr T (.cons u ts) env) P).mono fun x H1 ⟨d, S1, ρ1, st1, s1, r1, P1⟩ => ?_
  cases (show x = d from r1)
  cases x with
  | false => exact iteF ⟨B, env, S1, ρ1, ow, R.step st1 s1, P1⟩
  | true => exact iteT (P1 _ H1 ρ1 Step.refl s1 rfl)
/-! f'..' -/
abbrev iFm (G : Gb) (T : List Fn) (E0 : XK) (a : CE) : TE := iG G E0 rEqv (fun env => bind (ev T a env) fun x => bind (lift (fmt x)) fun y => ret (V.str y))
/-- the readings of the parts -/
def jTs (G : Gb) (T : List Fn) (E0 : XK) : CEs → List TE
  | .nil => []
  | .cons a cs => iFm G T E0 a :: jTs G T E0 cs
theorem q_fmt {a : CE} {e : Expr} {pos : Pos} (ha : PE X e (iE G T E0 a)) : PE X (.FormattedValue e (-1) none pos) (iFm G T E0 a) := by
  refine PE_weak (pe_fmt ha) fun σ H Q h => ?_
  refine (one (rel := rEqv) (ma := ev T a) (f := fun _ x => bind (lift (fmt x)) fun y => ret (V.str y)) h).mono fun x H1 ⟨B, env, S, ρ, ow, d, R, da, P⟩ => ?_
  have P : Post G E0 (rEqv B ow) ρ H1 ((lift (fmt d) S).bind fun y => ret (V.str y)) Q := P
  cases hf : fmt d with
  | none => rw [hf] at P; exact P.elim
  | some y =>
    rw [hf] at P
    have q := P _ H1 ρ Step.refl R.st rfl
    cases d <;> simp only [fmt] at hf <;> try (cases hf; done)
    · split at hf
      · rename_i hs
        cases hf
        exact .inr ⟨_, da.int_inv, of_decide_eq_true hs, q⟩
      · cases hf
    · split at hf
      · rename_i hs
        cases hf
        exact .inl ⟨_, da.str_inv, size_line hs, q⟩
      · cases hf
theorem q_fmtc {s : Str} {k : Nat} {pos : Pos} : PE X (.Constant (.str s) k pos) (iFm G T E0 (.str s)) := by
  refine PE_weak pe_str fun σ H Q ⟨B, env, S, ρ, ow, R, P⟩ => ?_
  have P : Post G E0 (rEqv B ow) ρ H ((lift (fmt (.str s)) S).bind fun y => ret (V.str y)) Q := P
  cases hf : fmt (.str s) with
  | none => rw [hf] at P; exact P.elim
  | some y =>
    rw [hf] at P
    have q := P _ H ρ Step.refl R.st rfl
    simp only [fmt] at hf
    split at hf
    · cases hf; exact q
    · cases hf
theorem j_ok : ∀ {cs : CEs} {acc : Str} {σ : L2.St} {H : Hp} {Q : Str → Hp → Prop}, iG G E0 rEqv (fun env => evJ T cs acc env) σ H Q → tJs (jTs G T E0 cs) acc σ H Q
  | .nil, acc, σ, H, Q, ⟨B, env, S, ρ, ow, R, P⟩ => P acc H ρ Step.refl R.st rfl
  | .cons a cs, acc, σ, H, Q, ⟨B, env, S, ρ, ow, R, P⟩ => by
    have P : Post G E0 (rEqv B ow) ρ H ((ev T a env S).bind fun x => bind (lift (fmt x)) fun y => if sizeOk (acc.length + y.length) then evJ T cs (acc ++ y) env else bad) Q := P
    refine ⟨B, env, S, ρ, ow, R, ?_⟩
    have e : (bind (ev T a env) fun x => bind (lift (fmt x)) fun y => ret (V.str y)) S = (ev T a env S).bind fun x S' => ((lift (fmt x) S').bind fun y => ret (V.str y)) := rfl
    show Post G E0 (rEqv B ow) ρ H ((ev T a env S).bind fun x S' => ((lift (fmt x) S').bind fun y => ret (V.str y))) _
    revert P
    cases ev T a env S with
    | bad => exact id
    | exc c S' => exact id
    | ok d S1 =>
      intro P
      have P : Post G E0 (rEqv B ow) ρ H ((lift (fmt d) S1).bind fun y => if sizeOk (acc.length + y.length) then evJ T cs (acc ++ y) env else bad) Q := P
      show Post G E0 (rEqv B ow) ρ H ((lift (fmt d) S1).bind fun y => ret (V.str y)) _
      cases hf : fmt d with
      | none => rw [hf] at P; exact P.elim
      | some y =>
        rw [hf] at P
        rintro x H1 ρ1 st1 s1 r1
        refine ⟨y, r1, ?_⟩
        have P : Post G E0 (rEqv B ow) ρ H ((if sizeOk (acc.length + y.length) then evJ T cs (acc ++ y) env else bad : M Str) S1) Q := P
        cases hz : sizeOk (acc.length + y.length) with
        | false => rw [hz] at P; exact P.elim
        | true =>
          rw [hz] at P
          refine ⟨?_, j_ok ⟨B, env, S1, ρ1, ow, R.step st1 s1, Post.later P st1⟩⟩
          rw [Str.length_append]
          exact size_line hz
theorem q_fstr {cs : CEs} {v1 v2 : Expr} {rest : List Expr} {pos : Pos} (h : PJ X (v1 :: v2 :: rest) (jTs G T E0 cs)) : PE X (.JoinedStr (v1 :: v2 :: rest) pos) (iE G T E0 (.fstr cs)) := by
  refine PE_weak (pe_joined h) fun σ H Q h => j_ok ?_
  refine (seq1 (rel := rV G false) (relb := rEqv) (m := fun env => evJ T cs Str.empty env) (f := fun _ y => ret (D.str y)) h).mono fun y H1 ⟨B, env, S, ρ, ow, d, R, e, P⟩ => ?_
  cases (show y = d from e)
  exact P _ H1 ρ Step.refl R.st (rV.of (.str _))

/-! ### what is walked -/
theorem rV.lst {b : Bool} {B : Addr → Prop} {ow : Nat → Option Addr} {ρ : Rho} {H : Hp} {x : V} {ds : List D} (h : rV G b B ow ρ H x (.list ds)) : ∃ a xs, x = .ref a ∧ H a = some (.lst xs) ∧ ¬ inT ρ a ∧ (b = false → ¬ av B ρ ow a) ∧ DenL G (av B ρ ow) ρ H xs ds := by
  cases b with
  | false =>
    have h := rV.toK rfl h
    cases h with
    | lst e n l => exact ⟨_, _, rfl, e, fun q => n (.inr (.inl q)), fun _ => n, l⟩
  | true =>
    have h := h.to1
    cases h with
    | of h =>
      cases h with
      | lst e n l => exact ⟨_, _, rfl, e, fun q => n (.inr (.inl q)), fun _ => n, l⟩
    | lst e n l => exact ⟨_, _, rfl, e, n, (fun q => nomatch q), l⟩
theorem rV.stp {b : Bool} {B : Addr → Prop} {ow : Nat → Option Addr} {ρ ρ' : Rho} {S : Sta} {H H' : Hp} {x : V} {d : D} (R : StRel ρ S H) (st : Step ρ H ρ' H') (h : rV G b B ow ρ H x d) : rV G b B ow ρ' H' x d := by
  cases b with
  | false => exact rV.of (Den.stp R st (rV.toK rfl h))
  | true => exact Den1.stp R st h.to1
theorem qi_seq {tg e : Expr} {a : CE} (ha : PE X e (iE G T E0 a)) : PI X tg e (iI G T E0 X.K (.seq a)) := by
  refine PI_weak (pi_seq ha) fun σ H Q h => ?_
  refine (seq1 (rel := rI G X.K (isB a)) (relb := rV G (isB a)) (m := ev T a) (f := fun _ x => lift (iseq x)) h).mono fun x H1 ⟨B, env, S, ρ, ow, d, R, da, P⟩ => ?_
  obtain ⟨ds, hd, P⟩ := post_lift P
  cases d <;> simp only [iseq] at hd <;> try (cases hd; done)
  · cases hd
    exact .inr (.inr ⟨_, da.to1.str_inv, P _ H1 ρ Step.refl R.st (.str _)⟩)
  · cases hd
    obtain ⟨p, xs, rfl, e, n, k, l⟩ := da.lst
    exact .inl ⟨p, xs, rfl, .of e, P _ H1 ρ Step.refl R.st (.lst e n k l)⟩
  · cases hd
    obtain ⟨p, xs, rfl, e, l⟩ := da.to1.tup_inv
    exact .inr (.inl ⟨p, xs, rfl, .of e, P _ H1 ρ Step.refl R.st (.tup e l)⟩)
theorem rng_bd {i j : Int} (h : rngOk i j = true) : -(2 ^ 62) ≤ i ∧ i < 2 ^ 62 ∧ -(2 ^ 62) ≤ j ∧ j < 2 ^ 62 := by
  obtain ⟨a, b, c, d, _⟩ := rng_ok h
  exact ⟨a, b, c, d⟩
theorem qi_rng1 (C : Ct G T Z E0 X sc fs) {tg e : Expr} {a : CE} {x : Str} {p pos : Pos} (hx : x = "range") (hg : glB sc x = true) (hs : noStar e = true) (ha : PE X e (iE G T E0 a)) : PI X tg (.Call (.Name x p) [e] [] pos) (iI G T E0 X.K (.rng1 a)) := by
  subst hx
  refine PI_weak (pi_range1 (C.gl hg).1 (C.blt _ (by decide)) (pa_cons ha pa_nil (nostar hs)) (nostar hs)) fun σ H Q h => ?_
  refine (one (rel := rI G X.K false) (ma := ev T a) (f := fun _ x => lift (rng1O x)) h).mono fun x H1 ⟨B, env, S, ρ, ow, d, R, da, P⟩ => ?_
  obtain ⟨ds, hd, P⟩ := post_lift P
  cases d <;> simp only [rng1O] at hd <;> try (cases hd; done)
  rename_i j
  split at hd
  · rename_i hk
    cases hd
    obtain ⟨_, _, b3, b4⟩ := rng_bd hk
    have r := ItD.rng (G := G) (K := X.K) (b := false) (A := av B ρ ow) (ρ := ρ) (H := H1) 0 (j.toNat)
    have e : rangeD 0 j = (List.range j.toNat).map fun k => D.int (0 + (k : Nat)) := by unfold rangeD; rw [Int.sub_zero]
    exact ⟨j, by rw [da.int_inv], b3, b4, P _ H1 ρ Step.refl R.st (e ▸ r)⟩
  · cases hd
theorem qi_rng2 (C : Ct G T Z E0 X sc fs) {tg e e2 : Expr} {a b : CE} {x : Str} {p pos : Pos} (hx : x = "range") (hg : glB sc x = true) (hs : noStar e = true) (hs2 : noStar e2 = true) (ha : PE X e (iE G T E0 a)) (hb : PE X e2 (iE G T E0 b)) : PI X tg (.Call (.Name x p) [e, e2] [] pos) (iI G T E0 X.K (.rng2 a b)) := by
  subst hx
  refine PI_weak (pi_range2 (C.gl hg).1 (C.blt _ (by decide)) (pa_cons ha (pa_cons hb pa_nil (nostar hs2)) (nostar hs)) (by rw [nostar hs, nostar hs2]; rfl) (nostar hs2)) fun σ H Q h => ?_
  refine (two (rel := rI G X.K false) (ma := ev T a) (mb := ev T b) (f := fun _ x y => lift (rng2O x y)) h).mono fun x H1 h1 => h1.mono fun y H2 ⟨B, env, S, ρ, ow, d, d2, R, da, db, P⟩ => ?_
  obtain ⟨ds, hd, P⟩ := post_lift P
  cases d <;> cases d2 <;> simp only [rng2O] at hd <;> try (cases hd; done)
  rename_i i j
  split at hd
  · rename_i hk
    cases hd
    exact ⟨i, j, by rw [da.int_inv, db.int_inv], rng_bd hk, P _ H2 ρ Step.refl R.st (.rng i _)⟩
  · cases hd
theorem rng3_inv {a b c : D} {ds : List D} (h : rng3O a b c = some ds) : ∃ j, a = .int 0 ∧ b = .int j ∧ c = .int 2 ∧ rngOk 0 j = true ∧ ds = (List.range ((j + 1).toNat / 2)).map fun k => .int (2 * (k : Nat)) := by
  unfold rng3O at h
  split at h
  · split at h
    · rename_i hk
      cases h
      simp only [Bool.and_eq_true, decide_eq_true_eq] at hk
      obtain ⟨⟨rfl, rfl⟩, hk⟩ := hk
      exact ⟨_, rfl, rfl, rfl, hk, rfl⟩
    · cases h
  · cases h
theorem qi_rng3 (C : Ct G T Z E0 X sc fs) {tg e e2 e3 : Expr} {a b c : CE} {x : Str} {p pos : Pos} (hx : x = "range") (hg : glB sc x = true) (hs : noStar e = true) (hs2 : noStar e2 = true) (hs3 : noStar e3 = true) (ha : PE X e (iE G T E0 a)) (hb : PE X e2 (iE G T E0 b)) (hc : PE X e3 (iE G T E0 c)) : PI X tg (.Call (.Name x p) [e, e2, e3] [] pos) (iI G T E0 X.K (.rng3 a b c)) := by
  subst hx
  refine PI_weak (pi_range3 (C.gl hg).1 (C.blt _ (by decide)) (pa_cons ha (pa_cons hb (pa_cons hc pa_nil (nostar hs3)) (nostar hs2)) (nostar hs)) (nostar hs) (noany fun e' he => by simp at he; rcases he with rfl | rfl <;> assumption)) fun σ H Q h => ?_
  obtain ⟨B, env, S, ρ, ow, R, P⟩ := h
  have P : Post G E0 (rI G X.K false B ow) ρ H ((ev T a env S).bind fun x => bind (ev T b env) fun y => bind (ev T c env) fun z => lift (rng3O x y z)) Q := P
  refine ⟨B, env, S, ρ, ow, R, ((go1 (rel2 := rK1 G B ow) P).weak fun _ _ _ _ r => r.to1).mono fun x H1 ⟨d, S1, ρ1, st1, s1, r1, P1⟩ => ?_⟩
  refine ⟨B, env, S1, ρ1, ow, R.step st1 s1, ((go1 (rel2 := rK1 G B ow) P1).weak fun _ _ _ _ r => r.to1).mono fun y H2 ⟨d2, S2, ρ2, st2, s2, r2, P2⟩ => ?_⟩
  refine ⟨B, env, S2, ρ2, ow, (R.step st1 s1).step st2 s2, ((go1 (rel2 := rK1 G B ow) P2).weak fun _ _ _ _ r => r.to1).mono fun z H3 ⟨d3, S3, ρ3, st3, s3, r3, P3⟩ => ?_⟩
  obtain ⟨ds, hd, P3⟩ := post_lift P3
  obtain ⟨j, rfl, rfl, rfl, hk, rfl⟩ := rng3_inv hd
  obtain ⟨_, _, b3, b4⟩ := rng_bd hk
  refine ⟨0, j, 2, (j + 1).toNat / 2, by rw [Den1.int_inv r1, Den1.int_inv r2, Den1.int_inv r3], ⟨by decide, by decide, ?_, ?_⟩, P3 _ H3 ρ3 Step.refl s3 (.rng2 _)⟩
  · unfold Builtin.Range.small
    simp only [Builtin.Range.rangeFitsLong, Builtin.Range.rangeSize, Bool.and_eq_true, Bool.or_eq_true, decide_eq_true_eq, beq_iff_eq, show (2 : Int) > 0 by decide, if_true]
    split <;> omega
  · simp only [Builtin.Range.rangeSize, show (2 : Int) > 0 by decide, if_true]
    split <;> omega
theorem qi_enm (C : Ct G T Z E0 X sc fs) {elts : List Expr} {kk : Nat} {tpos : Pos} {e : Expr} {a : CE} {x : Str} {p pos : Pos} (hx : x = "enumerate") (hg : glB sc x = true) (hs : noStar e = true) (ha : PE X e (iE G T E0 a)) : PI X (.Tuple elts kk tpos) (.Call (.Name x p) [e] [] pos) (iI G T E0 X.K (.enm a)) := by
  subst hx
  refine PI_weak (pi_enum (C.gl hg).1 (C.blt _ (by decide)) (pa_cons ha pa_nil (nostar hs)) (nostar hs)) fun σ H Q h => ?_
  refine (seq1 (rel := rI G X.K (isB a)) (relb := rV G (isB a)) (m := ev T a) (f := fun _ x => lift (enumO x)) h).mono fun x H1 ⟨B, env, S, ρ, ow, d, R, da, P⟩ => ?_
  obtain ⟨ds, hd, P⟩ := post_lift P
  cases d <;> simp only [enumO] at hd <;> try (cases hd; done)
  cases hd
  obtain ⟨p, xs, rfl, e, n, k, l⟩ := da.lst
  exact ⟨p, xs, rfl, .of e, P _ H1 ρ Step.refl R.st (.enm e n k l)⟩
theorem qi_zip (C : Ct G T Z E0 X sc fs) {elts : List Expr} {kk : Nat} {tpos : Pos} {e e2 : Expr} {a b : CE} {x : Str} {p pos : Pos} (hx : x = "zip") (hg : glB sc x = true) (hs : noStar e = true) (hs2 : noStar e2 = true) (ha : PE X e (iE G T E0 a)) (hb : PE X e2 (iE G T E0 b)) : PI X (.Tuple elts kk tpos) (.Call (.Name x p) [e, e2] [] pos) (iI G T E0 X.K (.zip a b)) := by
  subst hx
  refine PI_weak (RZ.pi_zipA (C.gl hg).1 (C.blt _ (by decide)) (pa_cons ha (pa_cons hb pa_nil (nostar hs2)) (nostar hs)) (nostar hs) (noany fun e' he => by simp at he; subst he; exact hs2)) fun σ H Q h => ?_
  obtain ⟨B, env, S, ρ, ow, R, P⟩ := h
  have P : Post G E0 (rI G X.K (isB a || isB b) B ow) ρ H ((ev T a env S).bind fun x => bind (ev T b env) fun y => lift (zipO x y)) Q := P
  refine ⟨B, env, S, ρ, ow, R, (go1 (rel2 := rV G (isB a) B ow) P).mono fun x H1 ⟨d, S1, ρ1, st1, s1, r1, P1⟩ => ?_⟩
  refine ⟨B, env, S1, ρ1, ow, R.step st1 s1, (go1 (rel2 := rV G (isB b) B ow) P1).mono fun y H2 ⟨d2, S2, ρ2, st2, s2, r2, P2⟩ => ?_⟩
  have r1 := rV.stp s1 st2 r1
  obtain ⟨ds, hd, P2⟩ := post_lift P2
  cases d <;> cases d2 <;> simp only [zipO] at hd <;> try (cases hd; done)
  · cases hd
    obtain ⟨p, xs, rfl, e, n, k, l⟩ := r1.lst
    obtain ⟨p2, xs2, rfl, e2, n2, k2, l2⟩ := r2.lst
    exact ⟨p, p2, xs, xs2, rfl, .inl ⟨.of e, .of e2, P2 _ H2 ρ2 Step.refl s2 (.zipL e n (fun q => k (by simp at q; exact q.1)) l e2 n2 (fun q => k2 (by simp at q; exact q.2)) l2)⟩⟩
  · cases hd
    obtain ⟨p, xs, rfl, e, l⟩ := r1.to1.tup_inv
    obtain ⟨p2, xs2, rfl, e2, l2⟩ := r2.to1.tup_inv
    exact ⟨p, p2, xs, xs2, rfl, .inr ⟨.of e, .of e2, P2 _ H2 ρ2 Step.refl s2 (.zipT e l e2 l2)⟩⟩
end
end Q7

/-! Targets; the heap in a comprehension. -/
namespace Q7
open PySem L2

/-! ### slots wiped -/
theorem wipe_get (σ : L2.St) (j : Nat) : ∀ vs : List Nat, (wipe σ vs)[j]? = if j ∈ vs then (if j < σ.length then some none else none) else σ[j]?
  | [] => by simp [wipe]
  | v :: vs => by
    unfold wipe
    by_cases e : v = j
    · subst e
      simp only [List.mem_cons, true_or, if_true]
      by_cases h : v < σ.length
      · rw [List.getElem?_set_self (by rw [wipe_length]; exact h), if_pos h]
      · rw [if_neg h, List.getElem?_eq_none (by rw [List.length_set, wipe_length]; omega)]
    · rw [List.getElem?_set_ne e, wipe_get σ j vs]
      have : (j ∈ v :: vs) = (j ∈ vs) := by simp [Ne.symm e]
      simp only [this]
theorem wipe_wipe (σ : L2.St) (vs : List Nat) : wipe (wipe σ vs) vs = wipe σ vs := by
  apply List.ext_getElem?
  intro j
  rw [wipe_get, wipe_get]
  by_cases h : j ∈ vs
  · simp only [h, if_true, wipe_length]
  · simp only [h, if_false]
theorem wipe_set (σ : L2.St) {i : Nat} (x : Option V) {vs : List Nat} (h : i ∈ vs) : wipe (σ.set i x) vs = wipe σ vs := by
  apply List.ext_getElem?
  intro j
  rw [wipe_get, wipe_get]
  by_cases hj : j ∈ vs
  · simp only [hj, if_true, List.length_set]
  · simp only [hj, if_false]
    rw [List.getElem?_set_ne (fun e : i = j => hj (by rw [← e]; exact h))]
theorem wipeE_length (σ : Env) : ∀ vs : List Nat, (wipeE σ vs).length = σ.length
  | [] => rfl
  | v :: vs => by unfold wipeE; rw [List.length_set, wipeE_length σ vs]
theorem wipeE_get (σ : Env) (j : Nat) : ∀ vs : List Nat, (wipeE σ vs)[j]? = if j ∈ vs then (if j < σ.length then some .un else none) else σ[j]?
  | [] => by simp [wipeE]
  | v :: vs => by
    unfold wipeE
    by_cases e : v = j
    · subst e
      simp only [List.mem_cons, true_or, if_true]
      by_cases h : v < σ.length
      · rw [List.getElem?_set_self (by rw [wipeE_length]; exact h), if_pos h]
      · rw [if_neg h, List.getElem?_eq_none (by rw [List.length_set, wipeE_length]; omega)]
    · rw [List.getElem?_set_ne e, wipeE_get σ j vs]
      have : (j ∈ v :: vs) = (j ∈ vs) := by simp [Ne.symm e]
      simp only [this]

section
variable {G : Gb} {T : List Fn} {Z : Names} {E0 : XK} {X : Cx} {sc sc' : Scope} {fs : Str → Bool}
theorem Rel.setV {B : Addr → Prop} {env : Env} {S : Sta} {ρ : Rho} {ow : Nat → Option Addr} {σ : L2.St} {H : Hp} {i : Nat} {v : V} {d : D} (R : Rel G B env S ρ ow σ H) (hi : i < env.length) (hn : ∀ a, ow i ≠ some a) (h : Den G (av B ρ ow) ρ H v d) : Rel G B (env.set i (.val d)) S ρ ow (σ.set i (some v)) H where
  len := by rw [List.length_set, List.length_set]; exact R.len
  st := R.st
  bl := R.bl
  slot := fun j e he => by
    by_cases q : i = j
    · subst q
      rw [List.getElem?_set_self hi] at he
      cases he
      exact ⟨v, List.getElem?_set_self (by rw [R.len]; exact hi), h⟩
    · rw [List.getElem?_set_ne q] at he
      rw [List.getElem?_set_ne q]
      exact R.slot j e he
  own := fun j ds he => by
    by_cases q : i = j
    · subst q
      rw [List.getElem?_set_self hi] at he
      cases he
    · rw [List.getElem?_set_ne q] at he
      rw [List.getElem?_set_ne q]
      exact R.own j ds he
  ow_of := fun j a he => by
    by_cases q : i = j
    · subst q; exact absurd he (hn a)
    · rw [List.getElem?_set_ne q]; exact R.ow_of j a he
  inj := R.inj
  disj := R.disj
theorem Rel.noOwn {B : Addr → Prop} {env : Env} {S : Sta} {ρ : Rho} {ow : Nat → Option Addr} {σ : L2.St} {H : Hp} {i : Nat} (R : Rel G B env S ρ ow σ H) (h : ∀ ds, env[i]? ≠ some (.own ds)) : ∀ a, ow i ≠ some a := fun a e => by
  obtain ⟨ds, q⟩ := R.ow_of i a e
  exact h ds q
def iTg (G : Gb) (t : Tg) : TG := fun v σ H Q => ∃ B env S ρ ow d env', Rel G B env S ρ ow σ H ∧ Den G (av B ρ ow) ρ H v d ∧ unpack t d env = some env' ∧ ∀ σ', Rel G B env' S ρ ow σ' H → (∀ vs, tgIn vs t = true → wipe σ' vs = wipe σ vs) → Q σ' H
def iTgs (G : Gb) (t : Tgs) : TGs := fun v σ H Q => ∃ B env S ρ ow d env', Rel G B env S ρ ow σ H ∧ DenL G (av B ρ ow) ρ H v d ∧ unpacks t d env = some env' ∧ ∀ σ', Rel G B env' S ρ ow σ' H → (∀ vs, tgsIn vs t = true → wipe σ' vs = wipe σ vs) → Q σ' H
theorem PG_weak {e : Expr} {t t' : TG} (h : PG X e t) (w : ∀ v σ H Q, t' v σ H Q → t v σ H Q) : PG X e t' := ⟨fun pins s σ H v u Q I r q => h.run pins s σ H v u Q I r (w v σ H Q q)⟩
theorem PGs_weak {e : List Expr} {t t' : TGs} (h : PGs X e t) (w : ∀ v σ H Q, t' v σ H Q → t v σ H Q) : PGs X e t' := ⟨fun pins s σ H v u Q I r q => h.run pins s σ H v u Q I r (w v σ H Q q)⟩
theorem PG_or {e : Expr} {t t' : TG} (h : PG X e t) (h' : PG X e t') : PG X e (fun v σ H Q => t v σ H Q ∨ t' v σ H Q) := ⟨fun pins s σ H v u Q I r q => q.elim (h.run pins s σ H v u Q I r) (h'.run pins s σ H v u Q I r)⟩
theorem unp_name {i : Nat} {d : D} {env env' : Env} (h : unpack (.name i) d env = some env') : i < env.length ∧ (∀ ds, env[i]? ≠ some (.own ds)) ∧ env' = env.set i (.val d) := by
  simp only [unpack] at h
  split at h
  · cases h
  · rename_i s hs e
    cases h
    refine ⟨(List.getElem?_eq_some_iff.mp e).1, fun ds q => ?_, rfl⟩
    rw [e] at q; cases q; exact hs ds rfl
  · cases h
theorem plain_each {t : Tg} {sc : Scope} {e : Expr} {es : List Expr} {env : PySem.Env} (h : chkG Z sc t e = true) : assignEach (e :: es) env = (false, assign e env) :: assignEach es env := by
  cases t <;> cases e <;> first | rfl | (simp [chkG] at h; done)
theorem each_len : ∀ {ts : Tgs} {sc : Scope} {es : List Expr} {env : PySem.Env}, chkGs Z sc ts es = true → (assignEach es env).findIdx? (·.1) = none
  | .nil, _, [], _, _ => rfl
  | .cons t ts, sc, e :: es, env, h => by
    simp only [chkGs, Bool.and_eq_true] at h
    rw [plain_each h.1]
    have := each_len (env := env) h.2
    simp [List.findIdx?_cons, this]
  | .nil, _, _ :: _, _, h => by simp [chkGs] at h
  | .cons _ _, _, [], _, h => by simp [chkGs] at h
theorem unpacks_len : ∀ {ts : Tgs} {sc : Scope} {es : List Expr} {env : PySem.Env} {ds : List D} {ev ev' : Env}, chkGs Z sc ts es = true → unpacks ts ds ev = some ev' → ds.length = (assignEach es env).length
  | .nil, _, [], _, [], _, _, _, _ => rfl
  | .nil, _, [], _, _ :: _, _, _, _, h => by simp [unpacks] at h
  | .cons t ts, sc, e :: es, env, d :: ds, ev, ev', h, u => by
    simp only [chkGs, Bool.and_eq_true] at h
    simp only [unpacks] at u
    split at u
    · rw [plain_each h.1, List.length_cons, List.length_cons, unpacks_len (env := env) h.2 u]
    · cases u
  | .cons t ts, _, _ :: _, _, [], _, _, _, h => by simp [unpacks] at h
  | .nil, _, _ :: _, _, _, _, _, h, _ => by simp [chkGs] at h
  | .cons _ _, _, [], _, _, _, _, h, _ => by simp [chkGs] at h
theorem chkG_name {sc : Scope} {i : Nat} {e : Expr} (h : chkG Z sc (.name i) e = true) : ∃ x p, e = .Name x p ∧ Z.N[i]? = some x ∧ locB sc x = true := by
  cases e <;> first | (simp [chkG] at h; done) | skip
  simp only [chkG, Bool.and_eq_true, decide_eq_true_eq] at h
  exact ⟨_, _, rfl, h.1, h.2⟩
theorem chkG_tup {sc : Scope} {ts : Tgs} {e : Expr} (h : chkG Z sc (.tup ts) e = true) : ∃ es k p, e = .Tuple es k p ∧ chkGs Z sc ts es = true := by
  cases e <;> first | (simp [chkG] at h; done) | skip
  simp only [chkG] at h
  exact ⟨_, _, _, rfl, h⟩
mutual
theorem pg_of (C : Ct G T Z E0 X sc fs) (hfs : ∀ (i : Nat) x, Z.N[i]? = some x → fnB sc' x = true → fs x = true) : ∀ {t : Tg} {e : Expr}, chkG Z sc t e = true → tgFn Z.N sc' t = true → PG X e (iTg G t)
  | .name i, e, hh, hf => by
    obtain ⟨x, p, rfl, h⟩ := chkG_name hh
    simp only [tgFn, h.1] at hf
    refine PG_weak (pg_name C.nd (by rw [C.N]; exact h.1) (C.loc h.2) (C.fs x (hfs i x h.1 hf))) fun v σ H Q ⟨B, env, S, ρ, ow, d, env', R, dv, u, q⟩ => ?_
    obtain ⟨h1, h2, rfl⟩ := unp_name u
    exact q _ (R.setV h1 (R.noOwn h2) dv) fun vs hv => wipe_set σ _ (by simpa [tgIn] using hv)
  | .tup ts, e, hh, hf => by
    obtain ⟨es, k, p, rfl, h⟩ := chkG_tup hh
    simp only [tgFn] at hf
    have pg := pgs_of C hfs h hf
    refine PG_weak (PG_or (pg_tup C.calm pg rfl (each_len h)) (pg_unl C.calm pg rfl (each_len h))) fun v σ H Q ⟨B, env, S, ρ, ow, d, env', R, dv, u, q⟩ => ?_
    cases d <;> simp only [unpack, iseqLT] at u <;> try (cases u; done)
    · obtain ⟨a, xs, rfl, e, l⟩ := (Den1.of dv).list_inv
      exact .inr ⟨a, xs, rfl, .of e, by rw [l.length]; exact unpacks_len h u, B, env, S, ρ, ow, _, env', R, l, u, fun σ' R' w => q σ' R' fun vs hv => w vs (by simpa [tgIn] using hv)⟩
    · obtain ⟨a, xs, rfl, e, l⟩ := (Den1.of dv).tup_inv
      exact .inl ⟨a, xs, rfl, .of e, by rw [l.length]; exact unpacks_len h u, B, env, S, ρ, ow, _, env', R, l, u, fun σ' R' w => q σ' R' fun vs hv => w vs (by simpa [tgIn] using hv)⟩
theorem pgs_of (C : Ct G T Z E0 X sc fs) (hfs : ∀ (i : Nat) x, Z.N[i]? = some x → fnB sc' x = true → fs x = true) : ∀ {t : Tgs} {e : List Expr}, chkGs Z sc t e = true → tgsFn Z.N sc' t = true → PGs X e (iTgs G t)
  | .nil, [], _, _ => by
    refine PGs_weak pgs_nil fun v σ H Q ⟨B, env, S, ρ, ow, d, env', R, dv, u, q⟩ => ?_
    cases d with
    | nil =>
      cases dv
      simp only [unpacks] at u
      cases u
      exact ⟨rfl, q σ R fun _ _ => rfl⟩
    | cons d ds => simp [unpacks] at u
  | .cons t ts, e :: es, h, hf => by
    simp only [chkGs, Bool.and_eq_true] at h
    simp only [tgsFn, Bool.and_eq_true] at hf
    refine PGs_weak (pgs_cons (pg_of C hfs h.1 hf.1) (pgs_of C hfs h.2 hf.2) (by rw [plain_each h.1]; rfl)) fun v σ H Q ⟨B, env, S, ρ, ow, d, env', R, dv, u, q⟩ => ?_
    cases d with
    | nil => simp [unpacks] at u
    | cons d ds =>
      cases dv with
      | cons dv dvs =>
        simp only [unpacks] at u
        split at u
        · rename_i env1 u1
          refine ⟨_, _, rfl, B, env, S, ρ, ow, d, env1, R, dv, u1, fun σ1 R1 w1 => ⟨B, env1, S, ρ, ow, ds, env', R1, dvs, u, fun σ2 R2 w2 => q σ2 R2 fun vs hv => ?_⟩⟩
          simp only [tgsIn, Bool.and_eq_true] at hv
          rw [w2 vs hv.2, w1 vs hv.1]
        · cases u
  | .nil, _ :: _, h, _ => by simp [chkGs] at h
  | .cons _ _, [], h, _ => by simp [chkGs] at h
end
end
end Q7

/-! Comprehensions. -/
namespace Q7
open PySem L2

/-- from one heap to another but for one list -/
structure StepD (D : Addr) (ρ : Rho) (H : Hp) (ρ' : Rho) (H' : Hp) : Prop where
  keep : ∀ a o, H a = some o → ¬ inT ρ a → a ≠ D → H' a = some o
  there : ∀ a, H' a = none → H a = none
  head : ∀ (k : Nat) (a : Addr) (l : List Addr), ρ[k]? = some (a :: l) → ∃ l', ρ'[k]? = some (a :: l')
  newT : ∀ a, inT ρ' a → inT ρ a ∨ H a = none
theorem StepD.refl {D : Addr} {ρ : Rho} {H : Hp} : StepD D ρ H ρ H := ⟨fun _ _ h _ _ => h, fun _ h => h, fun _ _ l h => ⟨l, h⟩, fun _ h => .inl h⟩
theorem StepD.step {D : Addr} {ρ ρ1 ρ2 : Rho} {H H1 H2 : Hp} (a : StepD D ρ H ρ1 H1) (b : Step ρ1 H1 ρ2 H2) : StepD D ρ H ρ2 H2 where
  keep := fun c o h n d => b.keep c o (a.keep c o h n d) fun h1 => by
    rcases a.newT c h1 with q | q
    · exact n q
    · rw [h] at q; cases q
  there := fun c h => a.there c (b.there c h)
  head := fun k c l h => by
    obtain ⟨l', h'⟩ := a.head k c l h
    exact b.head k c l' h'
  newT := fun c h => by
    rcases b.newT c h with q | q
    · exact a.newT c q
    · exact .inr (a.there c q)
theorem StepD.upd {D : Addr} {ρ ρ1 : Rho} {H H1 : Hp} {o : HO} (a : StepD D ρ H ρ1 H1) (hd : H1 D ≠ none) : StepD D ρ H ρ1 (upd H1 D o) where
  keep := fun c o h n d => by rw [upd_ne d]; exact a.keep c o h n d
  there := fun c h => by
    by_cases e : c = D
    · rw [e, upd_same] at h; cases h
    · rw [upd_ne e] at h; exact a.there c h
  head := a.head
  newT := a.newT
theorem Step.updN {D : Addr} {ρ ρ1 : Rho} {H H1 : Hp} {o : HO} (a : Step ρ H ρ1 H1) (hd : H D = none) : Step ρ H ρ1 (L2.upd H1 D o) where
  keep := fun c o h n => by rw [upd_ne (fun e => by rw [e, hd] at h; cases h)]; exact a.keep c o h n
  there := fun c h => by
    by_cases e : c = D
    · rw [e]; exact hd
    · rw [upd_ne e] at h; exact a.there c h
  head := a.head
  newT := a.newT

section
variable {G : Gb} {T : List Fn} {Z : Names} {E0 : XK} {X : Cx} {sc : Scope} {fs : Str → Bool}
variable {B : Addr → Prop} {env : Env} {S S' : Sta} {ρ ρ' ρ1 : Rho} {ow : Nat → Option Addr} {σ : L2.St} {H H' H1 : Hp} {D : Addr}
/-- the block's names forgotten -/
def owW (ow : Nat → Option Addr) (vs : List Nat) (i : Nat) : Option Addr := if i ∈ vs then none else ow i
def bW (B : Addr → Prop) (ow : Nat → Option Addr) (vs : List Nat) (a : Addr) : Prop := B a ∨ ∃ i, i ∈ vs ∧ ow i = some a
theorem av_w {vs : List Nat} {a : Addr} : av (bW B ow vs) ρ (owW ow vs) a ↔ av B ρ ow a := by
  unfold av bW owW
  constructor
  · rintro ((h | ⟨i, _, h⟩) | h | ⟨i, h⟩)
    · exact .inl h
    · exact .inr (.inr ⟨i, h⟩)
    · exact .inr (.inl h)
    · split at h
      · cases h
      · exact .inr (.inr ⟨i, h⟩)
  · rintro (h | h | ⟨i, h⟩)
    · exact .inl (.inl h)
    · exact .inr (.inl h)
    · by_cases hi : i ∈ vs
      · exact .inl (.inr ⟨i, hi, h⟩)
      · exact .inr (.inr ⟨i, by rw [if_neg hi]; exact h⟩)
theorem Den.aeq {B1 B2 : Addr → Prop} {v : V} {d : Q7.D} (e : ∀ a, B2 a → B1 a) (h : Den G B1 ρ H v d) : Den G B2 ρ H v d := h.mono fun a q => .inl (e a q)
theorem DenL.aeq {B1 B2 : Addr → Prop} {v : List V} {d : List Q7.D} (e : ∀ a, B2 a → B1 a) (h : DenL G B1 ρ H v d) : DenL G B2 ρ H v d := h.mono fun a q => .inl (e a q)
theorem Rel.wipe (R : Rel G B env S ρ ow σ H) (vs : List Nat) : Rel G (bW B ow vs) (wipeE env vs) S ρ (owW ow vs) (L2.wipe σ vs) H where
  len := by rw [wipe_length, wipeE_length]; exact R.len
  st := R.st
  bl := fun a h => by
    rcases h with h | ⟨i, _, h⟩
    · exact R.bl a h
    · exact R.tr a (.inr (.inr ⟨i, h⟩))
  slot := fun i d e => by
    rw [wipeE_get] at e
    split at e
    · split at e <;> cases e
    · rename_i hi
      obtain ⟨v, h1, h2⟩ := R.slot i d e
      exact ⟨v, by rw [wipe_get, if_neg hi]; exact h1, h2.aeq fun a q => av_w.mp q⟩
  own := fun i ds e => by
    rw [wipeE_get] at e
    split at e
    · split at e <;> cases e
    · rename_i hi
      obtain ⟨a, xs, h1, h2, h3, h4⟩ := R.own i ds e
      exact ⟨a, xs, by rw [wipe_get, if_neg hi]; exact h1, by unfold owW; rw [if_neg hi]; exact h2, h3, h4.aeq fun a q => av_w.mp q⟩
  ow_of := fun i a e => by
    unfold owW at e
    split at e
    · cases e
    · rename_i hi
      rw [wipeE_get, if_neg hi]
      exact R.ow_of i a e
  inj := fun i j a e1 e2 => by
    unfold owW at e1 e2
    split at e1
    · cases e1
    · split at e2
      · cases e2
      · exact R.inj i j a e1 e2
  disj := fun i a e => by
    unfold owW at e
    split at e
    · cases e
    · rename_i hi
      refine ⟨?_, (R.disj i a e).2⟩
      rintro (h | ⟨j, hj, h⟩)
      · exact (R.disj i a e).1 h
      · rw [R.inj i j a e h] at hi; exact hi hj
/-- a new list that is blocked -/
theorem Rel.block (R : Rel G B env S ρ ow σ H) (hD : H D = none) (st : Step ρ H ρ' H') (s' : StRel ρ' S' H') (hn : H' D ≠ none) (ht : ¬ inT ρ' D) : Rel G (fun a => B a ∨ a = D) env S' ρ' ow σ H' := by
  have h2 : ∀ a, av (fun a => B a ∨ a = D) ρ' ow a → av B ρ ow a ∨ H a = none := by
    rintro a ((h | h) | h | h)
    · exact .inl (.inl h)
    · exact .inr (by rw [h]; exact hD)
    · exact (st.newT a h).imp (fun q => .inr (.inl q)) id
    · exact .inl (.inr (.inr h))
  have hB : ∀ a, inT ρ a → av B ρ ow a := fun a h => .inr (.inl h)
  have hm : ∀ a, inT ρ a → ∃ o, H a = some o ∧ mutO o := fun a h => R.st.mu h
  refine ⟨R.len, s', ?_, ?_, ?_, R.ow_of, R.inj, ?_⟩
  · rintro a (h | h) e
    · exact R.bl a h (st.there a e)
    · rw [h] at e; exact hn e
  · intro i d e
    obtain ⟨v, h1, h3⟩ := R.slot i d e
    exact ⟨v, h1, h3.lift hB hm st h2⟩
  · intro i ds e
    obtain ⟨a, xs, h1, h3, h4, h5⟩ := R.own i ds e
    exact ⟨a, xs, h1, h3, st.keep a _ h4 (R.disj i a h3).2, h5.lift hB hm st h2⟩
  · intro i a e
    refine ⟨?_, fun q => ?_⟩
    · rintro (h | h)
      · exact (R.disj i a e).1 h
      · rw [h] at e
        exact R.tr D (.inr (.inr ⟨i, e⟩)) hD
    · rcases st.newT a q with q | q
      · exact (R.disj i a e).2 q
      · exact R.tr a (.inr (.inr ⟨i, e⟩)) q
theorem kpD {xs : List V} (R : StRel ρ S H) (hD : H D = some (.lst xs)) (hB : B D) (sd : StepD D ρ H ρ' H') : Kp (av B ρ ow) (av B ρ' ow) ρ ρ' H H' where
  lst := fun a ys h n => sd.keep a _ h (fun q => n (.inr (.inl q))) fun e => n (.inl (by rw [e]; exact hB))
  tup := fun a ys h => sd.keep a _ h (fun q => by obtain ⟨o, e, m⟩ := R.mu q; rw [h] at e; cases e; exact m) fun e => by rw [e, hD] at h; cases h
  frz := fun a o u h => sd.keep a _ h (fun q => by obtain ⟨o, e, m⟩ := R.mu q; rw [h] at e; cases e; exact m) fun e => by rw [e, hD] at h; cases h
  emp := fun a h n => sd.keep a _ h (fun q => n (.inr (.inl q))) fun e => n (.inl (by rw [e]; exact hB))
  ext := fun a φ h => sd.keep a _ h (fun q => by obtain ⟨o, e, m⟩ := R.mu q; rw [h] at e; cases e; exact m) fun e => by rw [e, hD] at h; cases h
  head := sd.head
  bl := by
    rintro a (h | h | h)
    · exact .inl (.inl h)
    · exact (sd.newT a h).imp (fun q => .inr (.inl q)) id
    · exact .inl (.inr (.inr h))
theorem Rel.stepD {xs : List V} (R : Rel G B env S ρ ow σ H) (hD : H D = some (.lst xs)) (hB : B D) (sd : StepD D ρ H ρ' H') (s' : StRel ρ' S' H') : Rel G B env S' ρ' ow σ H' := by
  have k : Kp (av B ρ ow) (av B ρ' ow) ρ ρ' H H' := kpD R.st hD hB sd
  refine ⟨R.len, s', fun a h e => R.bl a h (sd.there a e), ?_, ?_, R.ow_of, R.inj, ?_⟩
  · intro i d e
    obtain ⟨v, h1, h3⟩ := R.slot i d e
    exact ⟨v, h1, h3.kp k⟩
  · intro i ds e
    obtain ⟨a, xs, h1, h3, h4, h5⟩ := R.own i ds e
    exact ⟨a, xs, h1, h3, sd.keep a _ h4 (R.disj i a h3).2 fun q => (R.disj i a h3).1 (by rw [q]; exact hB), h5.kp k⟩
  · intro i a e
    refine ⟨(R.disj i a e).1, fun q => ?_⟩
    rcases sd.newT a q with q | q
    · exact (R.disj i a e).2 q
    · exact R.tr a (.inr (.inr ⟨i, e⟩)) q

/-- what stands while a comprehension is walked: the list at D holds what was made -/
structure LI (G : Gb) (A : Rho → Addr → Prop) (D : Addr) (S : Sta) (ρ : Rho) (H : Hp) (made : List Q7.D) : Prop where
  sr : StRel ρ S H
  nt : ¬ inT ρ D
  acc : ∃ xs, H D = some (.lst xs) ∧ DenL G (A ρ) ρ H xs made
/-- blocked: B, the state objects, the own lists, and D -/
structure Blk (A : Rho → Addr → Prop) (D : Addr) : Prop where
  hD : ∀ ρ, A ρ D
  hT : ∀ ρ a, inT ρ a → A ρ a
  hs : ∀ ρ ρ' (a : Addr), A ρ' a → A ρ a ∨ inT ρ' a
variable {A : Rho → Addr → Prop} {made : List Q7.D}
theorem LI.step (hA : Blk A D) (L : LI G A D S ρ H made) (st : Step ρ H ρ' H') (s' : StRel ρ' S' H') : LI G A D S' ρ' H' made := by
  obtain ⟨xs, e, l⟩ := L.acc
  refine ⟨s', fun q => ?_, xs, st.keep _ _ e L.nt, l.lift (hA.hT ρ) (fun a q => L.sr.mu q) st fun a q => ?_⟩
  · rcases st.newT D q with q | q
    · exact L.nt q
    · rw [e] at q; cases q
  · rcases hA.hs ρ ρ' a q with q | q
    · exact .inl q
    · exact (st.newT a q).imp (hA.hT ρ a) id
theorem LI.app (hA : Blk A D) (L : LI G A D S ρ H made) {v : V} {d : Q7.D} (h : Den G (A ρ) ρ H v d) : ∃ xs, H D = some (.lst xs) ∧ xs.length = made.length ∧ LI G A D S ρ (upd H D (.lst (xs ++ [v]))) (made ++ [d]) := by
  obtain ⟨xs, e, l⟩ := L.acc
  have k : Kp (A ρ) (A ρ) ρ ρ H (upd H D (.lst (xs ++ [v]))) := Kp.upd e (hA.hD ρ)
  refine ⟨xs, e, l.length, L.sr.same fun a q => upd_ne fun z => L.nt (by rw [← z]; exact q), L.nt, _, upd_same, (l.kp k).append (.cons (h.kp k) .nil)⟩
theorem compLoop_cons {body : Q7.D → M (List Q7.D)} {d : Q7.D} {ds zs : List Q7.D} (h : compLoop body (d :: ds) S = .ok zs S') : ∃ xs S1 ys, body d S = .ok xs S1 ∧ compLoop body ds S1 = .ok ys S' ∧ zs = xs ++ ys := by
  have h : (body d S).bind (fun xs => bind (compLoop body ds) fun ys => ret (xs ++ ys)) = .ok zs S' := h
  cases e : body d S with
  | bad => rw [e] at h; cases h
  | exc c s => rw [e] at h; cases h
  | ok xs S1 =>
    rw [e] at h
    have h : (compLoop body ds S1).bind (fun ys => ret (xs ++ ys)) = .ok zs S' := h
    cases e2 : compLoop body ds S1 with
    | bad => rw [e2] at h; cases h
    | exc c s => rw [e2] at h; cases h
    | ok ys S2 =>
      rw [e2] at h
      cases h
      exact ⟨xs, S1, ys, rfl, e2, rfl⟩
theorem bind_ok {α β : Type} {m : M α} {f : α → M β} {b : β} (h : bind m f S = .ok b S') : ∃ a S1, m S = .ok a S1 ∧ f a S1 = .ok b S' := by
  have h : (m S).bind f = .ok b S' := h
  cases e : m S with
  | bad => rw [e] at h; cases h
  | exc c s => rw [e] at h; cases h
  | ok a S1 => rw [e] at h; exact ⟨a, S1, rfl, h⟩
/-- one turn's tests and element -/
theorem leaf (hA : Blk A D) {ifs : COT} {elt : CE} {EF : XK} {zs : List Q7.D} {Nx : Hp → Prop} (hav : ∀ ρ a, A ρ a → av B ρ ow a) (R : Rel G B env S ρ ow σ H) (L : LI G A D S ρ H made) (ne : isB elt = false)
    (hb : (bind (evOT T ifs env) fun c => if c then bind (ev T elt env) fun y => ret [y] else ret []) S = .ok zs S') (hz : made.length + zs.length ≤ 1000000)
    (hN : ∀ H2 ρ2, Step ρ H ρ2 H2 ∨ (∃ ρ3 H3 o, Step ρ H ρ3 H3 ∧ H3 D ≠ none ∧ ρ2 = ρ3 ∧ H2 = upd H3 D o) → LI G A D S' ρ2 H2 (made ++ zs) → Nx H2) :
    iG G EF rEqv (evOT T ifs) σ H fun b H3 => if b = true then iE G T EF elt σ H3 fun y H4 => ∃ acc, H4 D = some (.lst acc) ∧ acc.length < sizeLine ∧ Nx (upd H4 D (.lst (acc ++ [y]))) else Nx H3 := by
  obtain ⟨c, S1, e1, e2⟩ := bind_ok hb
  refine ⟨B, env, S, ρ, ow, R, ?_⟩
  rw [e1]
  rintro b H3 ρ3 st3 s3 rfl
  cases b with
  | false =>
    cases (show Res.ok [] S1 = .ok zs S' from e2)
    exact iteF (hN H3 ρ3 (.inl st3) (by rw [List.append_nil]; exact L.step hA st3 s3))
  | true =>
    obtain ⟨y, S2, e3, e4⟩ := bind_ok (show (bind (ev T elt env) fun y => ret [y]) S1 = .ok zs S' from e2)
    cases (show Res.ok [y] S2 = .ok zs S' from e4)
    refine iteT ⟨B, env, S1, ρ3, ow, R.step st3 s3, ?_⟩
    rw [e3]
    rintro v H4 ρ4 st4 s4 r
    have r := rV.toK ne r
    have st := st3.trans st4
    obtain ⟨xs, f1, f2, f3⟩ := (L.step hA st s4).app hA (r.aeq (hav ρ4))
    refine ⟨xs, f1, ?_, hN _ ρ4 (.inr ⟨ρ4, H4, _, st, by rw [f1]; simp, rfl, rfl⟩) f3⟩
    rw [f2, sizeLine_eq]
    simp only [List.length_cons, List.length_nil] at hz
    omega
theorem yd_ok {A1 A2 : Addr → Prop} {d : Q7.D} {x : V} (y : YD G A1 ρ1 H1 d H x H') (lf : ∀ {v d}, Den G A1 ρ1 H1 v d → Den G A2 ρ H v d) (sr : StRel ρ S H) (hT : ∀ a, inT ρ a → A2 a) : Step ρ H ρ H' ∧ StRel ρ S H' ∧ Den G A2 ρ H' x d := by
  rcases y with ⟨rfl, h⟩ | ⟨t, u, v, d1, d2, rfl, hn, rfl, rfl, h1, h2⟩
  · exact ⟨Step.refl, sr, lf h⟩
  · exact ⟨Step.new hn, sr.new hn, Den.newT hT sr hn (.cons (lf h1) (.cons (lf h2) .nil))⟩
theorem Stay.of {b : Bool} {A1 : Addr → Prop} (sr : StRel ρ1 S H1) (st : Step ρ1 H1 ρ H) : Stay b A1 ρ1 H1 H :=
  ⟨fun a xs h n _ => st.keep a _ h n, fun a xs h => st.keep a _ h fun q => by obtain ⟨o, e, m⟩ := sr.mu q; rw [h] at e; cases e; exact m⟩
def bodyC (T : List Fn) (env : Env) (vs : List Nat) (tg : Tg) (ifs : COT) (elt : CE) : Q7.D → M (List Q7.D) := fun d => match unpack tg d (wipeE env vs) with
  | none => bad
  | some env' => bind (evOT T ifs env') fun c => if c then bind (ev T elt env') fun y => ret [y] else ret []
theorem bodyC_ok {vs : List Nat} {tg : Tg} {ifs : COT} {elt : CE} {d : Q7.D} {zs : List Q7.D} (h : bodyC T env vs tg ifs elt d S = .ok zs S') : ∃ env', unpack tg d (wipeE env vs) = some env' ∧ (bind (evOT T ifs env') fun c => if c then bind (ev T elt env') fun y => ret [y] else ret []) S = .ok zs S' := by
  cases e : unpack tg d (wipeE env vs) with
  | none => simp only [bodyC, e] at h; cases h
  | some env' => simp only [bodyC, e] at h; exact ⟨env', rfl, h⟩
theorem noexc_ok {α β : Type} {m : M α} {f : α → M β} {rel : Rho → Hp → Q7.D → β → Prop} {Q : Q7.D → Hp → Prop} (h : Post G E0 rel ρ H (bind (noexc m) f S) Q) : ∃ a S1, m S = .ok a S1 ∧ Post G E0 rel ρ H (f a S1) Q := by
  have h : Post G E0 rel ρ H ((noexc m S).bind f) Q := h
  unfold noexc at h
  split at h
  · rename_i a s' e
    exact ⟨a, s', e, h⟩
  · exact h.elim
theorem noexc_okV {α : Type} {m : M α} {f : α → M Q7.D} {rel : Rho → Hp → V → Q7.D → Prop} {Q : VK} (h : Post G E0 rel ρ H (bind (noexc m) f S) Q) : ∃ a S1, m S = .ok a S1 ∧ Post G E0 rel ρ H (f a S1) Q := by
  have h : Post G E0 rel ρ H ((noexc m S).bind f) Q := h
  unfold noexc at h
  split at h
  · rename_i a s' e
    exact ⟨a, s', e, h⟩
  · exact h.elim
def noX : XK := fun _ _ _ => False
/-- the blocked ones of a block -/
def aD (B : Addr → Prop) (ow : Nat → Option Addr) (D : Addr) (ρ : Rho) (a : Addr) : Prop := av (fun a => B a ∨ a = D) ρ ow a
theorem blk_aD : Blk (aD B ow D) D where
  hD := fun ρ => .inl (.inr rfl)
  hT := fun ρ a h => .inr (.inl h)
  hs := fun ρ ρ' a h => by
    rcases h with h | h | h
    · exact .inl (.inl h)
    · exact .inr h
    · exact .inl (.inr (.inr h))
theorem sz_of {n : Nat} (h : sizeOk n = true) : n ≤ 1000000 := of_decide_eq_true h
/-- relations of a result that may tell of the heap at the start -/
abbrev RelN := (Addr → Prop) → (Nat → Option Addr) → Hp → Rho → Hp → V → Q7.D → Prop
/-- a new list is such a result -/
def NewOk (G : Gb) (rel : RelN) : Prop := ∀ {B : Addr → Prop} {ow : Nat → Option Addr} {H0 : Hp} {ρ : Rho} {H : Hp} {p : Addr} {xs : List V} {ds : List Q7.D}, H0 p = none → H p = some (.lst xs) → ¬ inT ρ p → ¬ av B ρ ow p →
  DenL G (fun b => av B ρ ow b ∨ b = p) ρ H xs ds → rel B ow H0 ρ H (.ref p) (.list ds)
def iN (G : Gb) (E0 : XK) (rel : RelN) (m : Env → M Q7.D) : TE := fun σ H Q => ∃ B env S ρ ow, Rel G B env S ρ ow σ H ∧ Post G E0 (rel B ow H) ρ H (m env S) Q
def relV (G : Gb) : RelN := fun B ow _ ρ H v d => rV G false B ow ρ H v d
theorem newV : NewOk G (relV G) := fun _ e n na l => rV.of (.lst e na (l.aeq fun a q => .inl q))
/-- the end: the new list is a value -/
theorem comp_end {ys : List Q7.D} {Q : VK} {rel : RelN} {H0 : Hp} (ok : NewOk G rel) (h0 : H0 D = none) (R : Rel G B env S ρ ow σ H) (hD : H D = none) (st : Step ρ H ρ' H') (L : LI G (aD B ow D) D S' ρ' H' ys) (P : Post G E0 (rel B ow H0) ρ H (.ok (.list ys) S') Q) : Q (.ref D) H' := by
  obtain ⟨xs, e, l⟩ := L.acc
  refine P (.ref D) H' ρ' st L.sr (ok h0 e L.nt ?_ (l.aeq fun a q => ?_))
  · rintro (h | h | ⟨i, h⟩)
    · exact R.bl D h hD
    · exact L.nt h
    · exact R.tr D (.inr (.inr ⟨i, h⟩)) hD
  · rcases q with (h | h | h) | h
    · exact .inl (.inl h)
    · exact .inr (.inl h)
    · exact .inr (.inr h)
    · exact .inl (.inr h)
theorem ite_size {ys : List Q7.D} {rel : Rho → Hp → V → Q7.D → Prop} {Q : VK} (P : Post G E0 rel ρ H ((if sizeOk ys.length then ret (Q7.D.list ys) else bad : M Q7.D) S) Q) : sizeOk ys.length = true ∧ Post G E0 rel ρ H (.ok (.list ys) S) Q := by
  cases h : sizeOk ys.length with
  | false => rw [h] at P; exact P.elim
  | true => rw [h] at P; exact ⟨rfl, P⟩
theorem comp_key {rel : RelN} (ok : NewOk G rel) {K : PySem.W.Frag} {vs : List (Str × Nat)} {tg : Tg} {it : CI} {ifs : COT} {elt : CE} (hin : tgIn (vs.map (·.2)) tg = true) (ne : isB elt = false) {σ : L2.St} {H : Hp} {Q : VK} (h : iN G E0 rel (ev T (.comp vs tg it ifs elt)) σ H Q) :
    tLc (iI G T E0 K it) (iTg G tg) (iG G noX rEqv (evOT T ifs)) (iE G T noX elt) (vs.map (·.2)) σ H Q := by
  obtain ⟨B, env, S, ρ, ow, R, P⟩ := h
  have P : Post G E0 (rel B ow H) ρ H ((evI T it env S).bind fun ds => bind (noexc (compLoop (bodyC T env (vs.map (·.2)) tg ifs elt) ds)) fun ys => if sizeOk ys.length then ret (.list ys) else bad) Q := P
  refine ⟨B, env, S, ρ, ow, R, (go1 (rel2 := rI G K (isBI it) B ow) P).mono fun J H1 ⟨ds, S1, ρ1, st1, s1, r1, P1⟩ => ?_⟩
  intro D hD
  obtain ⟨ys, S2, el, P2⟩ := noexc_okV P1
  obtain ⟨hz, P3⟩ := ite_size P2
  have hz := sz_of hz
  have R1 := R.step st1 s1
  have hA : Blk (aD B ow D) D := blk_aD
  obtain ⟨Pw, Y, w, hst, hy⟩ := r1.walk
  refine lc_it w (fun i Hc => ∃ Sc ρc made rest, Step ρ1 H1 ρc Hc ∧ LI G (aD B ow D) D Sc ρc Hc made ∧ compLoop (bodyC T env (vs.map (·.2)) tg ifs elt) (ds.drop i) Sc = .ok rest S2 ∧ made ++ rest = ys) ?_ ?_ ?_ ?_
  · refine ⟨S1, ρ1, [], ys, Step.new hD, ⟨s1.new hD, fun q => ?_, [], upd_same, .nil⟩, el, rfl⟩
    obtain ⟨o, e, _⟩ := s1.mu q
    rw [hD] at e; cases e
  · rintro i Hc hi ⟨Sc, ρc, made, rest, st, L, ec, em⟩
    exact hst Hc (Stay.of s1 st)
  · rintro i x Hc H' hi ⟨Sc, ρc, made, rest, st, L, ec, em⟩ y
    have hd : ds[i]? = some ds[i] := List.getElem?_eq_getElem hi
    rw [List.drop_eq_getElem_cons hi] at ec
    obtain ⟨zs, Sn, rest', eb, er, rfl⟩ := compLoop_cons ec
    obtain ⟨env', eu, eb⟩ := bodyC_ok eb
    obtain ⟨stY, srY, dY⟩ := yd_ok (S := Sc) (A2 := aD B ow D ρc) (hy i x Hc H' _ hd y) (fun h => h.lift (fun a q => .inr (.inl q)) (fun a q => s1.mu q) st fun a q => by
      rcases q with (q | q) | q | q
      · exact .inl (.inl q)
      · exact .inr (by rw [q]; exact hD)
      · exact (st.newT a q).imp (fun z => .inr (.inl z)) id
      · exact .inl (.inr (.inr q))) L.sr (hA.hT ρc)
    have L' := L.step hA stY srY
    obtain ⟨xs, eD, _⟩ := L'.acc
    have RW := (R1.block hD (st.trans stY) srY (by rw [eD]; simp) L'.nt).wipe (vs.map (·.2))
    refine ⟨_, _, Sc, ρc, _, ds[i], env', RW, dY.aeq fun a q => av_w.mp q, eu, fun σ2 R2 w2 => ⟨(w2 _ hin).trans (wipe_wipe σ _), leaf hA (fun ρ a q => av_w.mpr q) R2 L' ne eb ?_ ?_⟩⟩
    · rw [← em] at hz
      simp only [List.length_append] at hz
      omega
    · rintro H2 ρ2 hst2 L2
      refine ⟨Sn, ρ2, made ++ zs, rest', ?_, L2, er, by rw [List.append_assoc]; exact em⟩
      rcases hst2 with q | ⟨ρ3, H3, o, q, _, rfl, rfl⟩
      · exact (st.trans stY).trans q
      · exact ((st.trans stY).trans q).updN hD
  · rintro Hc ⟨Sc, ρc, made, rest, st, L, ec, em⟩
    rw [List.drop_length] at ec
    cases (show Res.ok [] Sc = .ok rest S2 from ec)
    rw [List.append_nil] at em
    subst em
    exact comp_end ok (st1.there D hD) R1 hD st L P3
theorem q_compN {rel : RelN} (ok : NewOk G rel) (C : Ct G T Z E0 X sc fs) {vs : List (Str × Nat)} {tg : Tg} {it : CI} {ifs : COT} {elt : CE} {e t i : Expr} {fs' : List Expr} {scope : Scope} {pos : Pos} (hb : L2.blkC Z.N sc scope vs = true) (hi : PI X t i (iI G T E0 X.K it)) (hset : ∀ x, foldedSetIterable i X.env x = pure x) (hin : tgIn (vs.map (·.2)) tg = true)
    (ne : isB elt = false) (hg : ∀ (s : Shared) (H : Hp) (c : Addr) (cl : List (Str × Addr)) (fp : List Addr), PG (X.blk s H scope (compEnvC scope cl c X.env) fp) t (iTg G tg))
    (ht : ∀ (s : Shared) (H : Hp) (c : Addr) (cl : List (Str × Addr)) (fp : List Addr), PTs (X.blk s H scope (compEnvC scope cl c X.env) fp) fs' (iG G noX rEqv (evOT T ifs)))
    (he : ∀ (s : Shared) (H : Hp) (c : Addr) (cl : List (Str × Addr)) (fp : List Addr), PE (X.blk s H scope (compEnvC scope cl c X.env) fp) e (iE G T noX elt)) :
    PE X (.ListComp e [⟨t, i, fs', 0⟩] scope pos) (iN G E0 rel (ev T (.comp vs tg it ifs elt))) := by
  exact PE_weak (pe_lc C.calm C.nd hi (blkOk_by (by rw [C.N, C.sc]; exact hb)) hg ht he hset) fun σ H Q h => comp_key ok hin ne h
end
end Q7

/-! Comprehensions of two clauses. -/
namespace Q7
open PySem L2

section
variable {G : Gb} {T : List Fn} {Z : Names} {E0 : XK} {X : Cx} {sc : Scope} {fs : Str → Bool}
variable {B : Addr → Prop} {env : Env} {S S' : Sta} {ρ ρ' ρ1 ρ2 : Rho} {ow : Nat → Option Addr} {σ : L2.St} {H H' H1 H2 : Hp} {D : Addr} {A : Rho → Addr → Prop} {made : List Q7.D}
theorem Step.stepD (a : Step ρ H ρ1 H1) (b : StepD D ρ1 H1 ρ2 H2) (hD : H D = none) : Step ρ H ρ2 H2 where
  keep := fun c o h n => b.keep c o (a.keep c o h n) (fun h1 => by
    rcases a.newT c h1 with q | q
    · exact n q
    · rw [h] at q; cases q) fun e => by rw [e, hD] at h; cases h
  there := fun c h => a.there c (b.there c h)
  head := fun k c l h => by
    obtain ⟨l', h'⟩ := a.head k c l h
    exact b.head k c l' h'
  newT := fun c h => by
    rcases b.newT c h with q | q
    · exact a.newT c q
    · exact .inr (a.there c q)
theorem StepD.trans {ρ3 : Rho} {H3 : Hp} (a : StepD D ρ1 H1 ρ2 H2) (b : StepD D ρ2 H2 ρ3 H3) : StepD D ρ1 H1 ρ3 H3 where
  keep := fun c o h n d => b.keep c o (a.keep c o h n d) (fun h1 => by
    rcases a.newT c h1 with q | q
    · exact n q
    · rw [h] at q; cases q) d
  there := fun c h => a.there c (b.there c h)
  head := fun k c l h => by
    obtain ⟨l', h'⟩ := a.head k c l h
    exact b.head k c l' h'
  newT := fun c h => by
    rcases b.newT c h with q | q
    · exact a.newT c q
    · exact .inr (a.there c q)
theorem Step.toD (a : Step ρ H ρ1 H1) : StepD D ρ H ρ1 H1 := StepD.refl.step a
/-- a walk within a walk -/
theorem in_walk {J : It} {n : Nat} {P : Hp → Prop} {Y : Nat → Hp → V → Hp → Prop} (w : Walk J n P Y) {step : Nat → (Hp → Prop) → V → Hp → Prop} {H0 : Hp} {fin : Hp → Prop} (I : Nat → Hp → Prop) (start : I 0 H0) (stay : ∀ j h, j ≤ n → I j h → P h)
    (go : ∀ j x h h', j < n → I j h → Y j h x h' → step j (I (j + 1)) x h') (stop : ∀ h, I n h → fin h) :
    ∃ W : Nat → Nat → Hp → Prop, (∃ m, W 0 m H0) ∧ ∀ j m h, W j m h → (J.stop j h ∧ fin h) ∨ (J.go j h ∧ ∃ N : Hp → Prop, (∀ h', N h' → ∃ m', m' < m ∧ W (j + 1) m' h') ∧ ∀ x h', J.yld j h x h' → step j N x h') := by
  refine ⟨fun j m h => j + m = n ∧ I j h, ⟨n, Nat.zero_add n, start⟩, fun j m h ⟨e, hI⟩ => ?_⟩
  have hP := stay j h (by omega) hI
  cases m with
  | zero =>
    have : j = n := e
    subst this
    exact Or.inl ⟨w.stops h hP, stop h hI⟩
  | succ m =>
    have hj : j < n := by omega
    exact Or.inr ⟨w.goes j h hj hP, I (j + 1), fun h' q => ⟨m, Nat.lt_succ_self m, by omega, q⟩, fun x h' y => go j x h h' hj hI (w.yields j h x h' hj hP y)⟩
def bodyD (T : List Fn) (env : Env) (vs : List Nat) (tg : Tg) (ifs : COT) (vs2 : List Nat) (tg2 : Tg) (it2 : CI) (ifs2 : COT) (elt : CE) : Q7.D → M (List Q7.D) := fun d => match unpack tg d (wipeE env vs) with
  | none => bad
  | some env1 => bind (evOT T ifs env1) fun c => if c then bind (evI T it2 env1) fun es => compLoop (bodyC T env1 vs2 tg2 ifs2 elt) es else ret []
theorem inner (hA : Blk A D) {K : PySem.W.Frag} {ifs ifs2 : COT} {it2 : CI} {elt : CE} {tg2 : Tg} {vs2 : List Nat} {zs : List Q7.D} {Nx : Hp → Prop} (hav : ∀ ρ a, A ρ a ↔ av B ρ ow a) (hBD : B D) (R : Rel G B env S ρ ow σ H) (L : LI G A D S ρ H made) (ne : isB elt = false) (ni : isBI it2 = false) (hin : tgIn vs2 tg2 = true)
    (hb : (bind (evOT T ifs env) fun c => if c then bind (evI T it2 env) fun es => compLoop (bodyC T env vs2 tg2 ifs2 elt) es else ret []) S = .ok zs S') (hz : made.length + zs.length ≤ 1000000)
    (hN : ∀ H2 ρ2, StepD D ρ H ρ2 H2 → LI G A D S' ρ2 H2 (made ++ zs) → Nx H2) :
    iG G noX rEqv (evOT T ifs) σ H fun b H3 => if b = true then iI G T noX K it2 σ H3 fun J1 H4 => ∃ W1 : Nat → Nat → Hp → Prop, (∃ m, W1 0 m H4) ∧ ∀ j k H, W1 j k H →
      (J1.stop j H ∧ Nx H) ∨ (J1.go j H ∧ ∃ Nx1 : Hp → Prop, (∀ H', Nx1 H' → ∃ k', k' < k ∧ W1 (j + 1) k' H') ∧ ∀ x H', J1.yld j H x H' → iTg G tg2 x (wipe σ vs2) H' fun σ3 H5 => wipe σ3 vs2 = wipe σ vs2 ∧ iG G noX rEqv (evOT T ifs2) σ3 H5 fun b H6 =>
        if b = true then iE G T noX elt σ3 H6 fun y H7 => ∃ acc, H7 D = some (.lst acc) ∧ acc.length < sizeLine ∧ Nx1 (upd H7 D (.lst (acc ++ [y]))) else Nx1 H6) else Nx H3 := by
  obtain ⟨c, S1, e1, e2⟩ := bind_ok hb
  refine ⟨B, env, S, ρ, ow, R, ?_⟩
  rw [e1]
  rintro b H3 ρ3 st3 s3 rfl
  cases b with
  | false =>
    cases (show Res.ok [] S1 = .ok zs S' from e2)
    exact iteF (hN H3 ρ3 st3.toD (by rw [List.append_nil]; exact L.step hA st3 s3))
  | true =>
    obtain ⟨es, S4, e3, e4⟩ := bind_ok (show (bind (evI T it2 env) fun es => compLoop (bodyC T env vs2 tg2 ifs2 elt) es) S1 = .ok zs S' from e2)
    refine iteT ⟨B, env, S1, ρ3, ow, R.step st3 s3, ?_⟩
    rw [e3]
    rintro J1 H4 ρ4 st4 s4 r4
    rw [ni] at r4
    have r4 : ItD G K false (av B ρ4 ow) ρ4 H4 J1 es := r4
    have st := st3.trans st4
    have L4 := L.step hA st s4
    have R4 := R.step st s4
    obtain ⟨xs4, eD4, _⟩ := L4.acc
    obtain ⟨Pw, Y, w, hst, hy⟩ := r4.walk
    refine in_walk w (step := fun j N x H' => iTg G tg2 x (wipe σ vs2) H' fun σ3 H5 => wipe σ3 vs2 = wipe σ vs2 ∧ iG G noX rEqv (evOT T ifs2) σ3 H5 fun b H6 =>
        if b = true then iE G T noX elt σ3 H6 fun y H7 => ∃ acc, H7 D = some (.lst acc) ∧ acc.length < sizeLine ∧ N (upd H7 D (.lst (acc ++ [y]))) else N H6)
      (fun j h => ∃ Sc ρc made' rest, StepD D ρ4 H4 ρc h ∧ LI G A D Sc ρc h (made ++ made') ∧ compLoop (bodyC T env vs2 tg2 ifs2 elt) (es.drop j) Sc = .ok rest S' ∧ made' ++ rest = zs) ?_ ?_ ?_ ?_
    · exact ⟨S4, ρ4, [], zs, StepD.refl, by rw [List.append_nil]; exact L4, e4, rfl⟩
    · rintro j h hj ⟨Sc, ρc, made', rest, sd, Lc, ec, em⟩
      refine hst h ⟨fun a xs e n na => sd.keep a _ e n fun q => na rfl (by rw [q]; exact (hav ρ4 D).mp (hA.hD ρ4)), fun a xs e => sd.keep a _ e (fun q => by obtain ⟨o, e', m⟩ := s4.mu q; rw [e] at e'; cases e'; exact m) fun q => by rw [q, eD4] at e; cases e⟩
    · rintro j x h h' hj ⟨Sc, ρc, made', rest, sd, Lc, ec, em⟩ y
      have hd : es[j]? = some es[j] := List.getElem?_eq_getElem hj
      rw [List.drop_eq_getElem_cons hj] at ec
      obtain ⟨us, Sn, rest', eb, er, rfl⟩ := compLoop_cons ec
      obtain ⟨env', eu, eb⟩ := bodyC_ok eb
      obtain ⟨stY, srY, dY⟩ := yd_ok (S := Sc) (A2 := av B ρc ow) (hy j x h h' _ hd y) (fun q => q.kp (kpD s4 eD4 hBD sd)) Lc.sr (fun a q => .inr (.inl q))
      have L' := Lc.step hA stY srY
      have RW := (R4.stepD eD4 hBD (sd.step stY) srY).wipe vs2
      refine ⟨_, _, Sc, ρc, _, es[j], env', RW, dY.aeq fun a q => av_w.mp q, eu, fun σ2 R2 w2 => ⟨(w2 _ hin).trans (wipe_wipe σ _), leaf hA (fun ρ a q => av_w.mpr ((hav ρ a).mp q)) R2 L' ne eb ?_ ?_⟩⟩
      · rw [← em] at hz
        simp only [List.length_append] at hz ⊢
        omega
      · rintro H2 ρ2 hst2 L2
        refine ⟨Sn, ρ2, made' ++ us, rest', ?_, by rw [← List.append_assoc]; exact L2, er, by rw [List.append_assoc]; exact em⟩
        rcases hst2 with q | ⟨ρ3, H3, o, q, hn, rfl, rfl⟩
        · exact (sd.step stY).step q
        · exact ((sd.step stY).step q).upd hn
    · rintro h ⟨Sc, ρc, made', rest, sd, Lc, ec, em⟩
      rw [List.drop_length] at ec
      cases (show Res.ok [] Sc = .ok rest S' from ec)
      rw [List.append_nil] at em
      subst em
      exact hN h ρc (st.toD.trans sd) Lc
theorem bodyD_ok {vs vs2 : List Nat} {tg tg2 : Tg} {ifs ifs2 : COT} {it2 : CI} {elt : CE} {d : Q7.D} {zs : List Q7.D} (h : bodyD T env vs tg ifs vs2 tg2 it2 ifs2 elt d S = .ok zs S') : ∃ env', unpack tg d (wipeE env vs) = some env' ∧ (bind (evOT T ifs env') fun c => if c then bind (evI T it2 env') fun es => compLoop (bodyC T env' vs2 tg2 ifs2 elt) es else ret []) S = .ok zs S' := by
  cases e : unpack tg d (wipeE env vs) with
  | none => simp only [bodyD, e] at h; cases h
  | some env' => simp only [bodyD, e] at h; exact ⟨env', rfl, h⟩
theorem comp2_key {rel : RelN} (ok : NewOk G rel) {K : PySem.W.Frag} {vs : List (Str × Nat)} {vs2 : List Nat} {tg tg2 : Tg} {it it2 : CI} {ifs ifs2 : COT} {elt : CE} (hin : tgIn (vs.map (·.2)) tg = true) (hin2 : tgIn vs2 tg2 = true) (ne : isB elt = false) (ni : isBI it2 = false) {σ : L2.St} {H : Hp} {Q : VK} (h : iN G E0 rel (ev T (.comp2 vs tg it ifs vs2 tg2 it2 ifs2 elt)) σ H Q) :
    tLc2 (iI G T E0 K it) (iTg G tg) (iG G noX rEqv (evOT T ifs)) (iI G T noX K it2) (iTg G tg2) (iG G noX rEqv (evOT T ifs2)) (iE G T noX elt) (vs.map (·.2)) vs2 σ H Q := by
  obtain ⟨B, env, S, ρ, ow, R, P⟩ := h
  have P : Post G E0 (rel B ow H) ρ H ((evI T it env S).bind fun ds => bind (noexc (compLoop (bodyD T env (vs.map (·.2)) tg ifs vs2 tg2 it2 ifs2 elt) ds)) fun ys => if sizeOk ys.length then ret (.list ys) else bad) Q := P
  refine ⟨B, env, S, ρ, ow, R, (go1 (rel2 := rI G K (isBI it) B ow) P).mono fun J H1 ⟨ds, S1, ρ1, st1, s1, r1, P1⟩ => ?_⟩
  intro D hD
  obtain ⟨ys, S2, el, P2⟩ := noexc_okV P1
  obtain ⟨hz, P3⟩ := ite_size P2
  have hz := sz_of hz
  have R1 := R.step st1 s1
  have hA : Blk (aD B ow D) D := blk_aD
  obtain ⟨Pw, Y, w, hst, hy⟩ := r1.walk
  refine in_walk w (H0 := upd H1 D (.lst [])) (step := fun _ Nx x H' => iTg G tg x (wipe σ (vs.map (·.2))) H' fun σ2 H2 => wipe σ2 (vs.map (·.2)) = wipe σ (vs.map (·.2)) ∧ iG G noX rEqv (evOT T ifs) σ2 H2 fun b H3 => if b = true then iI G T noX K it2 σ2 H3 fun J1 H4 => ∃ W1 : Nat → Nat → Hp → Prop, (∃ m, W1 0 m H4) ∧ ∀ j k H, W1 j k H →
      (J1.stop j H ∧ Nx H) ∨ (J1.go j H ∧ ∃ Nx1 : Hp → Prop, (∀ H', Nx1 H' → ∃ k', k' < k ∧ W1 (j + 1) k' H') ∧ ∀ x H', J1.yld j H x H' → iTg G tg2 x (wipe σ2 vs2) H' fun σ3 H5 => wipe σ3 vs2 = wipe σ2 vs2 ∧ iG G noX rEqv (evOT T ifs2) σ3 H5 fun b H6 =>
        if b = true then iE G T noX elt σ3 H6 fun y H7 => ∃ acc, H7 D = some (.lst acc) ∧ acc.length < sizeLine ∧ Nx1 (upd H7 D (.lst (acc ++ [y]))) else Nx1 H6) else Nx H3)
    (fun i Hc => ∃ Sc ρc made rest, Step ρ1 H1 ρc Hc ∧ LI G (aD B ow D) D Sc ρc Hc made ∧ compLoop (bodyD T env (vs.map (·.2)) tg ifs vs2 tg2 it2 ifs2 elt) (ds.drop i) Sc = .ok rest S2 ∧ made ++ rest = ys) ?_ ?_ ?_ ?_
  · refine ⟨S1, ρ1, [], ys, Step.new hD, ⟨s1.new hD, fun q => ?_, [], upd_same, .nil⟩, el, rfl⟩
    obtain ⟨o, e, _⟩ := s1.mu q
    rw [hD] at e; cases e
  · rintro i Hc hi ⟨Sc, ρc, made, rest, st, L, ec, em⟩
    exact hst Hc (Stay.of s1 st)
  · rintro i x Hc H' hi ⟨Sc, ρc, made, rest, st, L, ec, em⟩ y
    have hd : ds[i]? = some ds[i] := List.getElem?_eq_getElem hi
    rw [List.drop_eq_getElem_cons hi] at ec
    obtain ⟨zs, Sn, rest', eb, er, rfl⟩ := compLoop_cons ec
    obtain ⟨env', eu, eb⟩ := bodyD_ok eb
    obtain ⟨stY, srY, dY⟩ := yd_ok (S := Sc) (A2 := aD B ow D ρc) (hy i x Hc H' _ hd y) (fun h => h.lift (fun a q => .inr (.inl q)) (fun a q => s1.mu q) st fun a q => by
      rcases q with (q | q) | q | q
      · exact .inl (.inl q)
      · exact .inr (by rw [q]; exact hD)
      · exact (st.newT a q).imp (fun z => .inr (.inl z)) id
      · exact .inl (.inr (.inr q))) L.sr (hA.hT ρc)
    have L' := L.step hA stY srY
    obtain ⟨xs, eD, _⟩ := L'.acc
    have RW := (R1.block hD (st.trans stY) srY (by rw [eD]; simp) L'.nt).wipe (vs.map (·.2))
    refine ⟨_, _, Sc, ρc, _, ds[i], env', RW, dY.aeq fun a q => av_w.mp q, eu, fun σ2 R2 w2 => ⟨(w2 _ hin).trans (wipe_wipe σ _), inner hA (fun ρ a => av_w.symm) (.inl (.inr rfl)) R2 L' ne ni hin2 eb ?_ ?_⟩⟩
    · rw [← em] at hz
      simp only [List.length_append] at hz
      omega
    · rintro H2 ρ2 hst2 L2
      exact ⟨Sn, ρ2, made ++ zs, rest', (st.trans stY).stepD hst2 hD, L2, er, by rw [List.append_assoc]; exact em⟩
  · rintro Hc ⟨Sc, ρc, made, rest, st, L, ec, em⟩
    rw [List.drop_length] at ec
    cases (show Res.ok [] Sc = .ok rest S2 from ec)
    rw [List.append_nil] at em
    subst em
    exact comp_end ok (st1.there D hD) R1 hD st L P3
theorem q_comp2N {rel : RelN} (ok : NewOk G rel) (C : Ct G T Z E0 X sc fs) {vs : List (Str × Nat)} {vs2 : List Nat} {tg tg2 : Tg} {it it2 : CI} {ifs ifs2 : COT} {elt : CE} {e t i t2 i2 : Expr} {fs' fs2 : List Expr} {scope : Scope} {pos : Pos} (hb : L2.blkC Z.N sc scope vs = true) (hi : PI X t i (iI G T E0 X.K it)) (hset : ∀ x, foldedSetIterable i X.env x = pure x) (hset2 : ∀ env x, foldedSetIterable i2 env x = pure x) (hin : tgIn (vs.map (·.2)) tg = true) (hin2 : tgIn vs2 tg2 = true) (hv2 : ∀ j ∈ vs2, j ∈ vs.map (·.2))
    (ne : isB elt = false) (ni : isBI it2 = false) (hg : ∀ (s : Shared) (H : Hp) (c : Addr) (cl : List (Str × Addr)) (fp : List Addr), PG (X.blk s H scope (compEnvC scope cl c X.env) fp) t (iTg G tg))
    (ht : ∀ (s : Shared) (H : Hp) (c : Addr) (cl : List (Str × Addr)) (fp : List Addr), PTs (X.blk s H scope (compEnvC scope cl c X.env) fp) fs' (iG G noX rEqv (evOT T ifs)))
    (hi2 : ∀ (s : Shared) (H : Hp) (c : Addr) (cl : List (Str × Addr)) (fp : List Addr), PI (X.blk s H scope (compEnvC scope cl c X.env) fp) t2 i2 (iI G T noX X.K it2))
    (hg2 : ∀ (s : Shared) (H : Hp) (c : Addr) (cl : List (Str × Addr)) (fp : List Addr), PG (X.blk s H scope (compEnvC scope cl c X.env) fp) t2 (iTg G tg2))
    (ht2 : ∀ (s : Shared) (H : Hp) (c : Addr) (cl : List (Str × Addr)) (fp : List Addr), PTs (X.blk s H scope (compEnvC scope cl c X.env) fp) fs2 (iG G noX rEqv (evOT T ifs2)))
    (he : ∀ (s : Shared) (H : Hp) (c : Addr) (cl : List (Str × Addr)) (fp : List Addr), PE (X.blk s H scope (compEnvC scope cl c X.env) fp) e (iE G T noX elt)) :
    PE X (.ListComp e [⟨t, i, fs', 0⟩, ⟨t2, i2, fs2, 0⟩] scope pos) (iN G E0 rel (ev T (.comp2 vs tg it ifs vs2 tg2 it2 ifs2 elt))) := by
  exact PE_weak (pe_lc2 C.calm C.nd hi (blkOk_by (by rw [C.N, C.sc]; exact hb)) hv2 hg ht hi2 hg2 ht2 he hset hset2) fun σ H Q h => comp2_key ok hin hin2 ne ni h
end
end Q7

/-! What the checker says of each form. -/
namespace Q7
open PySem L2
section
variable {Z : Names} {sc : Scope} {e : Expr}
theorem inv_var {i : Nat} (h : chkE Z (.var i) sc e = true) : ∃ x p, e = .Name x p ∧ varB Z.N sc i x = true := by
  cases e <;> first | (simp [chkE] at h; done) | skip
  simp only [chkE] at h; exact ⟨_, _, rfl, h⟩
theorem inv_bv {i : Nat} (h : chkE Z (.bv i) sc e = true) : ∃ x p, e = .Name x p ∧ varB Z.N sc i x = true := by
  cases e <;> first | (simp [chkE] at h; done) | skip
  simp only [chkE] at h; exact ⟨_, _, rfl, h⟩
theorem inv_int {i : Int} (h : chkE Z (.int i) sc e = true) : ∃ k p, e = .Constant (.int i) k p := by
  cases e <;> first | (simp [chkE] at h; done) | skip
  rename_i c k p
  cases c <;> first | (simp [chkE] at h; done) | skip
  simp only [chkE, decide_eq_true_eq] at h
  subst h; exact ⟨_, _, rfl⟩
theorem inv_bl {i : Bool} (h : chkE Z (.bl i) sc e = true) : ∃ k p, e = .Constant (.bool i) k p := by
  cases e <;> first | (simp [chkE] at h; done) | skip
  rename_i c k p
  cases c <;> first | (simp [chkE] at h; done) | skip
  simp only [chkE, beq_iff_eq] at h
  subst h; exact ⟨_, _, rfl⟩
theorem inv_non (h : chkE Z .non sc e = true) : ∃ k p, e = .Constant .none k p := by
  cases e <;> first | (simp [chkE] at h; done) | skip
  rename_i c k p
  cases c <;> first | (simp [chkE] at h; done) | skip
  exact ⟨_, _, rfl⟩
theorem inv_str {i : Str} (h : chkE Z (.str i) sc e = true) : ∃ k p, e = .Constant (.str i) k p := by
  cases e <;> first | (simp [chkE] at h; done) | skip
  rename_i c k p
  cases c <;> first | (simp [chkE] at h; done) | skip
  simp only [chkE, decide_eq_true_eq] at h
  subst h; exact ⟨_, _, rfl⟩
theorem inv_bin {o : BOp} {a b : CE} (h : chkE Z (.bin o a b) sc e = true) : ∃ e1 op e2 p, e = .BinOp e1 op e2 p ∧ bopB o op = true ∧ chkE Z a sc e1 = true ∧ chkE Z b sc e2 = true := by
  cases e <;> first | (simp [chkE] at h; done) | skip
  simp only [chkE, Bool.and_eq_true] at h; exact ⟨_, _, _, _, rfl, h⟩
theorem inv_neg {a : CE} (h : chkE Z (.neg a) sc e = true) : ∃ e1 p, e = .UnaryOp .USub e1 p ∧ chkE Z a sc e1 = true := by
  cases e <;> first | (simp [chkE] at h; done) | skip
  rename_i o e1 p
  cases o <;> first | (simp [chkE] at h; done) | skip
  simp only [chkE] at h; exact ⟨_, _, rfl, h⟩
theorem inv_not {a : CE} (h : chkE Z (.not a) sc e = true) : ∃ e1 p, e = .UnaryOp .Not e1 p ∧ chkE Z a sc e1 = true := by
  cases e <;> first | (simp [chkE] at h; done) | skip
  rename_i o e1 p
  cases o <;> first | (simp [chkE] at h; done) | skip
  simp only [chkE] at h; exact ⟨_, _, rfl, h⟩
theorem inv_and {es : CEs} (h : chkE Z (.and es) sc e = true) : ∃ vs p, e = .BoolOp .And vs p ∧ 2 ≤ vs.length ∧ chkEs Z es sc vs = true := by
  cases e <;> first | (simp [chkE] at h; done) | skip
  rename_i o vs p
  cases o <;> first | (simp [chkE] at h; done) | skip
  simp only [chkE, Bool.and_eq_true, decide_eq_true_eq] at h; exact ⟨_, _, rfl, h⟩
theorem inv_or {es : CEs} (h : chkE Z (.or es) sc e = true) : ∃ vs p, e = .BoolOp .Or vs p ∧ 2 ≤ vs.length ∧ chkEs Z es sc vs = true := by
  cases e <;> first | (simp [chkE] at h; done) | skip
  rename_i o vs p
  cases o <;> first | (simp [chkE] at h; done) | skip
  simp only [chkE, Bool.and_eq_true, decide_eq_true_eq] at h; exact ⟨_, _, rfl, h⟩
theorem inv_ite {t : CT} {a b : CE} (h : chkE Z (.ite t a b) sc e = true) : ∃ c e1 e2 p, e = .IfExp c e1 e2 p ∧ chkT Z t sc c = true ∧ chkE Z a sc e1 = true ∧ chkE Z b sc e2 = true := by
  cases e <;> first | (simp [chkE] at h; done) | skip
  simp only [chkE, Bool.and_eq_true] at h; exact ⟨_, _, _, _, rfl, h⟩
theorem inv_cmp {o : COp} {a b : CE} (h : chkE Z (.cmp o a b) sc e = true) : ∃ e1 op e2 p, e = .Compare e1 [op] [e2] p ∧ copB o op = true ∧ noSet e2 = true ∧ chkE Z a sc e1 = true ∧ chkE Z b sc e2 = true := by
  cases e <;> first | (simp [chkE] at h; done) | skip
  rename_i e1 ops es p
  rcases ops with _ | ⟨op, _ | ⟨op2, ops⟩⟩ <;> rcases es with _ | ⟨e2, _ | ⟨e3, es⟩⟩ <;> first | (simp [chkE] at h; done) | skip
  simp only [chkE, Bool.and_eq_true] at h; exact ⟨_, _, _, _, rfl, h⟩
theorem inv_chain {o o2 : COp} {a b c : CE} (h : chkE Z (.chain o o2 a b c) sc e = true) : ∃ e1 op op2 e2 e3 p, e = .Compare e1 [op, op2] [e2, e3] p ∧ copB o op = true ∧ copB o2 op2 = true ∧ noSet e3 = true ∧ chkE Z a sc e1 = true ∧ chkE Z b sc e2 = true ∧ chkE Z c sc e3 = true := by
  cases e <;> first | (simp [chkE] at h; done) | skip
  rename_i e1 ops es p
  rcases ops with _ | ⟨op, _ | ⟨op2, _ | ⟨op3, ops⟩⟩⟩ <;> rcases es with _ | ⟨e2, _ | ⟨e3, _ | ⟨e4, es⟩⟩⟩ <;> first | (simp [chkE] at h; done) | skip
  simp only [chkE, Bool.and_eq_true] at h; exact ⟨_, _, _, _, _, _, rfl, h⟩
theorem inv_tup {es : CEs} (h : chkE Z (.tup es) sc e = true) : ∃ vs k p, e = .Tuple vs k p ∧ chkEs Z es sc vs = true := by
  cases e <;> first | (simp [chkE] at h; done) | skip
  simp only [chkE] at h; exact ⟨_, _, _, rfl, h⟩
theorem inv_lst {es : CEs} (h : chkE Z (.lst es) sc e = true) : ∃ vs p, e = .List vs p ∧ chkEs Z es sc vs = true := by
  cases e <;> first | (simp [chkE] at h; done) | skip
  simp only [chkE] at h; exact ⟨_, _, rfl, h⟩
theorem inv_idx {a b : CE} (h : chkE Z (.idx a b) sc e = true) : ∃ e1 e2 p, e = .Subscript e1 e2 p ∧ noSlice e2 = true ∧ chkE Z a sc e1 = true ∧ chkE Z b sc e2 = true := by
  cases e <;> first | (simp [chkE] at h; done) | skip
  simp only [chkE, Bool.and_eq_true] at h; exact ⟨_, _, _, rfl, h⟩
theorem inv_slc {a : CE} {lo hi : CO} (h : chkE Z (.slc a lo hi) sc e = true) : ∃ e1 l u p2 p, e = .Subscript e1 (.Slice l u none p2) p ∧ chkE Z a sc e1 = true ∧ chkO Z lo sc l = true ∧ chkO Z hi sc u = true := by
  cases e <;> first | (simp [chkE] at h; done) | skip
  rename_i e1 e2 p
  cases e2 <;> first | (simp [chkE] at h; done) | skip
  rename_i l u st p2
  cases st <;> first | (simp [chkE] at h; done) | skip
  simp only [chkE, Bool.and_eq_true] at h; exact ⟨_, _, _, _, _, rfl, h⟩
theorem inv_call {f : Nat} {es : CEs} (h : chkE Z (.call f es) sc e = true) : ∃ x p vs pos, e = .Call (.Name x p) vs [] pos ∧ Z.FN[f]? = some x ∧ glB sc x = true ∧ chkEs Z es sc vs = true := by
  cases e <;> first | (simp [chkE] at h; done) | skip
  rename_i e1 vs kw p
  cases kw <;> cases e1 <;> first | (simp [chkE] at h; done) | skip
  simp only [chkE, Bool.and_eq_true, decide_eq_true_eq] at h; exact ⟨_, _, _, _, rfl, h⟩
theorem inv_blt {b : Blt} {es : CEs} (h : chkE Z (.blt b es) sc e = true) : ∃ x p vs pos, e = .Call (.Name x p) vs [] pos ∧ bltN b = x ∧ glB sc x = true ∧ 1 ≤ vs.length ∧ chkEs Z es sc vs = true := by
  cases e <;> first | (simp [chkE] at h; done) | skip
  rename_i e1 vs kw p
  cases kw <;> cases e1 <;> first | (simp [chkE] at h; done) | skip
  simp only [chkE, Bool.and_eq_true, decide_eq_true_eq] at h; exact ⟨_, _, _, _, rfl, h⟩
theorem inv_isi {a : CE} {t : Ty} (h : chkE Z (.isi a t) sc e = true) : ∃ x p e1 y p2 pos, e = .Call (.Name x p) [e1, .Name y p2] [] pos ∧ x = "isinstance" ∧ tyN t = y ∧ glB sc x = true ∧ glB sc y = true ∧ chkE Z a sc e1 = true := by
  cases e <;> first | (simp [chkE] at h; done) | skip
  rename_i e1 vs kw p
  cases kw <;> cases e1 <;> rcases vs with _ | ⟨v1, _ | ⟨v2, _ | ⟨v3, vs⟩⟩⟩ <;> first | (simp [chkE] at h; done) | skip
  cases v2 <;> first | (simp [chkE] at h; done) | skip
  simp only [chkE, Bool.and_eq_true, decide_eq_true_eq] at h; exact ⟨_, _, _, _, _, _, rfl, h⟩
theorem inv_isx {a : CE} {k : Option Nat} (h : chkE Z (.isx a k) sc e = true) : ∃ x p e1 y p2 pos, e = .Call (.Name x p) [e1, .Name y p2] [] pos ∧ x = "isinstance" ∧ glB sc x = true ∧ glB sc y = true ∧ clsN Z k y = true ∧ chkE Z a sc e1 = true := by
  cases e <;> first | (simp [chkE] at h; done) | skip
  rename_i e1 vs kw p
  cases kw <;> cases e1 <;> rcases vs with _ | ⟨v1, _ | ⟨v2, _ | ⟨v3, vs⟩⟩⟩ <;> first | (simp [chkE] at h; done) | skip
  cases v2 <;> first | (simp [chkE] at h; done) | skip
  simp only [chkE, Bool.and_eq_true, decide_eq_true_eq] at h; exact ⟨_, _, _, _, _, _, rfl, h⟩
theorem inv_edict (h : chkE Z .edict sc e = true) : ∃ p, e = .Dict [] [] p := by
  cases e <;> first | (simp [chkE] at h; done) | skip
  rename_i ks vs p
  cases ks <;> cases vs <;> first | (simp [chkE] at h; done) | exact ⟨_, rfl⟩
theorem inv_meth {m : Mth} {a : CE} {es : CEs} (h : chkE Z (.meth m a es) sc e = true) : ∃ e1 n apos v pos, e = .Call (.Attribute e1 n apos) [v] [] pos ∧ mthN m = n ∧ noSuper e1 = true ∧ (apos.endLine == pos.line) = true ∧ chkE Z a sc e1 = true ∧ chkEs Z es sc [v] = true := by
  cases e <;> first | (simp [chkE] at h; done) | skip
  rename_i e1 vs kw p
  cases kw <;> cases e1 <;> rcases vs with _ | ⟨v1, _ | ⟨v2, vs⟩⟩ <;> first | (simp [chkE] at h; done) | skip
  simp only [chkE, Bool.and_eq_true, decide_eq_true_eq] at h; exact ⟨_, _, _, _, _, rfl, h⟩
theorem inv_fstr {es : CEs} (h : chkE Z (.fstr es) sc e = true) : ∃ vs p, e = .JoinedStr vs p ∧ 2 ≤ vs.length ∧ chkJ Z es sc vs = true := by
  cases e <;> first | (simp [chkE] at h; done) | skip
  simp only [chkE, Bool.and_eq_true, decide_eq_true_eq] at h; exact ⟨_, _, rfl, h⟩
theorem inv_listRng {a b : CO} (h : chkE Z (.listRng a b) sc e = true) : ∃ x p y p2 vs pos2 pos, e = .Call (.Name x p) [.Call (.Name y p2) vs [] pos2] [] pos ∧ x = "list" ∧ y = "range" ∧ glB sc x = true ∧ glB sc y = true ∧
    ((∃ e1, vs = [e1] ∧ chkO Z a sc none = true ∧ chkO Z b sc (some e1) = true) ∨ ∃ e1 e2, vs = [e1, e2] ∧ chkO Z a sc (some e1) = true ∧ chkO Z b sc (some e2) = true) := by
  cases e <;> first | (simp [chkE] at h; done) | skip
  rename_i e1 vs kw p
  cases kw <;> cases e1 <;> rcases vs with _ | ⟨v1, _ | ⟨v2, vs⟩⟩ <;> first | (simp [chkE] at h; done) | skip
  cases v1 <;> first | (simp [chkE] at h; done) | skip
  rename_i f us kw2 p2
  cases kw2 <;> cases f <;> rcases us with _ | ⟨u1, _ | ⟨u2, _ | ⟨u3, us⟩⟩⟩ <;> first | (simp [chkE] at h; done) | skip
  · simp only [chkE, Bool.and_eq_true, decide_eq_true_eq] at h; exact ⟨_, _, _, _, _, _, _, rfl, h.1, h.2.1, h.2.2.1, h.2.2.2.1, .inl ⟨_, rfl, h.2.2.2.2⟩⟩
  · simp only [chkE, Bool.and_eq_true, decide_eq_true_eq] at h; exact ⟨_, _, _, _, _, _, _, rfl, h.1, h.2.1, h.2.2.1, h.2.2.2.1, .inr ⟨_, _, rfl, h.2.2.2.2⟩⟩
theorem inv_tupRng {a b : CO} (h : chkE Z (.tupRng a b) sc e = true) : ∃ x p y p2 vs pos2 pos, e = .Call (.Name x p) [.Call (.Name y p2) vs [] pos2] [] pos ∧ x = "tuple" ∧ y = "range" ∧ glB sc x = true ∧ glB sc y = true ∧
    ((∃ e1, vs = [e1] ∧ chkO Z a sc none = true ∧ chkO Z b sc (some e1) = true) ∨ ∃ e1 e2, vs = [e1, e2] ∧ chkO Z a sc (some e1) = true ∧ chkO Z b sc (some e2) = true) := by
  cases e <;> first | (simp [chkE] at h; done) | skip
  rename_i e1 vs kw p
  cases kw <;> cases e1 <;> rcases vs with _ | ⟨v1, _ | ⟨v2, vs⟩⟩ <;> first | (simp [chkE] at h; done) | skip
  cases v1 <;> first | (simp [chkE] at h; done) | skip
  rename_i f us kw2 p2
  cases kw2 <;> cases f <;> rcases us with _ | ⟨u1, _ | ⟨u2, _ | ⟨u3, us⟩⟩⟩ <;> first | (simp [chkE] at h; done) | skip
  · simp only [chkE, Bool.and_eq_true, decide_eq_true_eq] at h; exact ⟨_, _, _, _, _, _, _, rfl, h.1, h.2.1, h.2.2.1, h.2.2.2.1, .inl ⟨_, rfl, h.2.2.2.2⟩⟩
  · simp only [chkE, Bool.and_eq_true, decide_eq_true_eq] at h; exact ⟨_, _, _, _, _, _, _, rfl, h.1, h.2.1, h.2.2.1, h.2.2.2.1, .inr ⟨_, _, rfl, h.2.2.2.2⟩⟩
theorem inv_comp {vs : List (Str × Nat)} {tg : Tg} {it : CI} {ifs : COT} {elt : CE} (h : chkE Z (.comp vs tg it ifs elt) sc e = true) : ∃ e1 t i fs scope pos, e = .ListComp e1 [⟨t, i, fs, 0⟩] scope pos ∧ L2.blkC Z.N sc scope vs = true ∧ chkI Z it sc i = true ∧ isPairT it tg = true ∧ noSet i = true ∧ chkG Z (relS scope sc) tg t = true ∧ tgIn (vs.map (·.2)) tg = true ∧ tgFn Z.N scope tg = true ∧ chkOT Z ifs (relS scope sc) fs = true ∧ chkE Z elt (relS scope sc) e1 = true := by
  cases e <;> first | (simp [chkE] at h; done) | skip
  rename_i e1 gens scope p
  rcases gens with _ | ⟨⟨t, i, fs, k⟩, _ | ⟨g2, gens⟩⟩ <;> first | (simp [chkE] at h; done) | skip
  by_cases hk : k = 0
  · subst hk
    simp only [chkE, Bool.and_eq_true] at h; exact ⟨_, _, _, _, _, _, rfl, h⟩
  · simp [chkE, hk] at h
theorem inv_comp2 {vs : List (Str × Nat)} {vs2 : List Nat} {tg tg2 : Tg} {it it2 : CI} {ifs ifs2 : COT} {elt : CE} (h : chkE Z (.comp2 vs tg it ifs vs2 tg2 it2 ifs2 elt) sc e = true) : ∃ e1 t i fs t2 i2 fs2 scope pos, e = .ListComp e1 [⟨t, i, fs, 0⟩, ⟨t2, i2, fs2, 0⟩] scope pos ∧ L2.blkC Z.N sc scope vs = true ∧ chkI Z it sc i = true ∧ isPairT it tg = true ∧ noSet i = true ∧ chkG Z (relS scope sc) tg t = true ∧ tgIn (vs.map (·.2)) tg = true ∧ tgFn Z.N scope tg = true ∧ chkOT Z ifs (relS scope sc) fs = true ∧
    (vs2.all (fun j => (vs.map (·.2)).contains j)) = true ∧ chkI Z it2 (relS scope sc) i2 = true ∧ isPairT it2 tg2 = true ∧ noSet i2 = true ∧ chkG Z (relS scope sc) tg2 t2 = true ∧ tgIn vs2 tg2 = true ∧ tgFn Z.N scope tg2 = true ∧ chkOT Z ifs2 (relS scope sc) fs2 = true ∧ chkE Z elt (relS scope sc) e1 = true := by
  cases e <;> first | (simp [chkE] at h; done) | skip
  rename_i e1 gens scope p
  rcases gens with _ | ⟨⟨t, i, fs, k⟩, _ | ⟨⟨t2, i2, fs2, k2⟩, _ | ⟨g3, gens⟩⟩⟩ <;> first | (simp [chkE] at h; done) | skip
  by_cases hk : k = 0
  · by_cases hk2 : k2 = 0
    · subst hk hk2
      simp only [chkE, Bool.and_eq_true] at h; exact ⟨_, _, _, _, _, _, _, _, _, rfl, h⟩
    · simp [chkE, hk2] at h
  · simp [chkE, hk] at h
/-! lists -/
theorem invs_cons {c : CE} {cs : CEs} {es : List Expr} (h : chkEs Z (.cons c cs) sc es = true) : ∃ e r, es = e :: r ∧ chkE Z c sc e = true ∧ chkEs Z cs sc r = true := by
  cases es with
  | nil => simp [chkEs] at h
  | cons e r => simp only [chkEs, Bool.and_eq_true] at h; exact ⟨_, _, rfl, h⟩
theorem invs_nil {es : List Expr} (h : chkEs Z .nil sc es = true) : es = [] := by
  cases es with
  | nil => rfl
  | cons e r => simp [chkEs] at h
theorem invj_nil {es : List Expr} (h : chkJ Z .nil sc es = true) : es = [] := by
  cases es with
  | nil => rfl
  | cons e r => simp [chkJ] at h
theorem invj_cons {c : CE} {cs : CEs} {es : List Expr} (h : chkJ Z (.cons c cs) sc es = true) : ∃ e r, es = e :: r ∧ chkJ Z cs sc r = true ∧ ((∃ e1 p, e = .FormattedValue e1 (-1) none p ∧ chkE Z c sc e1 = true) ∨ ∃ s k p, e = .Constant (.str s) k p ∧ chkE Z c sc e = true) := by
  cases es with
  | nil => simp [chkJ] at h
  | cons e r =>
    cases e <;> first | (simp [chkJ] at h; done) | skip
    · rename_i e1 k sp p
      cases sp <;> first | (simp [chkJ] at h; done) | skip
      by_cases hk : k = -1
      · subst hk
        simp only [chkJ, Bool.and_eq_true] at h
        exact ⟨_, _, rfl, h.2, .inl ⟨_, _, rfl, h.1⟩⟩
      · simp [chkJ, hk] at h
    · rename_i c1 k p
      cases c1 <;> first | (simp [chkJ] at h; done) | skip
      simp only [chkJ, Bool.and_eq_true] at h
      exact ⟨_, _, rfl, h.2, .inr ⟨_, _, _, rfl, h.1⟩⟩
/-! tests -/
theorem invt_val {a : CE} (h : chkT Z (.val a) sc e = true) : plainT e = true ∧ chkE Z a sc e = true := by
  simp only [chkT, Bool.and_eq_true] at h; exact h
theorem invt_cmp {o : COp} {a b : CE} (h : chkT Z (.cmp o a b) sc e = true) : ∃ e1 op e2 p, e = .Compare e1 [op] [e2] p ∧ copB o op = true ∧ noSet e2 = true ∧ chkE Z a sc e1 = true ∧ chkE Z b sc e2 = true := by
  cases e <;> first | (simp [chkT] at h; done) | skip
  rename_i e1 ops es p
  rcases ops with _ | ⟨op, _ | ⟨op2, ops⟩⟩ <;> rcases es with _ | ⟨e2, _ | ⟨e3, es⟩⟩ <;> first | (simp [chkT] at h; done) | skip
  simp only [chkT, Bool.and_eq_true] at h; exact ⟨_, _, _, _, rfl, h⟩
theorem invt_chain {o o2 : COp} {a b c : CE} (h : chkT Z (.chain o o2 a b c) sc e = true) : ∃ e1 op op2 e2 e3 p, e = .Compare e1 [op, op2] [e2, e3] p ∧ copB o op = true ∧ copB o2 op2 = true ∧ noSet e3 = true ∧ chkE Z a sc e1 = true ∧ chkE Z b sc e2 = true ∧ chkE Z c sc e3 = true := by
  cases e <;> first | (simp [chkT] at h; done) | skip
  rename_i e1 ops es p
  rcases ops with _ | ⟨op, _ | ⟨op2, _ | ⟨op3, ops⟩⟩⟩ <;> rcases es with _ | ⟨e2, _ | ⟨e3, _ | ⟨e4, es⟩⟩⟩ <;> first | (simp [chkT] at h; done) | skip
  simp only [chkT, Bool.and_eq_true] at h; exact ⟨_, _, _, _, _, _, rfl, h⟩
theorem invt_and {ts : CTs} (h : chkT Z (.and ts) sc e = true) : ∃ vs p, e = .BoolOp .And vs p ∧ 2 ≤ vs.length ∧ chkTs Z ts sc vs = true := by
  cases e <;> first | (simp [chkT] at h; done) | skip
  rename_i o vs p
  cases o <;> first | (simp [chkT] at h; done) | skip
  simp only [chkT, Bool.and_eq_true, decide_eq_true_eq] at h; exact ⟨_, _, rfl, h⟩
theorem invt_or {ts : CTs} (h : chkT Z (.or ts) sc e = true) : ∃ vs p, e = .BoolOp .Or vs p ∧ 2 ≤ vs.length ∧ chkTs Z ts sc vs = true := by
  cases e <;> first | (simp [chkT] at h; done) | skip
  rename_i o vs p
  cases o <;> first | (simp [chkT] at h; done) | skip
  simp only [chkT, Bool.and_eq_true, decide_eq_true_eq] at h; exact ⟨_, _, rfl, h⟩
theorem invt_not {t : CT} (h : chkT Z (.not t) sc e = true) : ∃ e1 p, e = .UnaryOp .Not e1 p ∧ chkT Z t sc e1 = true := by
  cases e <;> first | (simp [chkT] at h; done) | skip
  rename_i o vs p
  cases o <;> first | (simp [chkT] at h; done) | skip
  simp only [chkT] at h; exact ⟨_, _, rfl, h⟩
theorem invts_cons {c : CT} {cs : CTs} {es : List Expr} (h : chkTs Z (.cons c cs) sc es = true) : ∃ e r, es = e :: r ∧ chkT Z c sc e = true ∧ chkTs Z cs sc r = true := by
  cases es with
  | nil => simp [chkTs] at h
  | cons e r => simp only [chkTs, Bool.and_eq_true] at h; exact ⟨_, _, rfl, h⟩
theorem invts_nil {es : List Expr} (h : chkTs Z .nil sc es = true) : es = [] := by
  cases es with
  | nil => rfl
  | cons e r => simp [chkTs] at h
theorem invot {t : CT} {es : List Expr} (h : chkOT Z (.som t) sc es = true) : ∃ e, es = [e] ∧ chkT Z t sc e = true := by
  rcases es with _ | ⟨e, _ | ⟨e2, es⟩⟩ <;> first | (simp [chkOT] at h; done) | skip
  simp only [chkOT] at h; exact ⟨_, rfl, h⟩
theorem invot_non {es : List Expr} (h : chkOT Z .non sc es = true) : es = [] := by
  rcases es with _ | ⟨e, es⟩ <;> first | (simp [chkOT] at h; done) | rfl
theorem invo {a : CE} {o : Option Expr} (h : chkO Z (.som a) sc o = true) : ∃ e, o = some e ∧ chkE Z a sc e = true := by
  cases o with
  | none => simp [chkO] at h
  | some e => simp only [chkO] at h; exact ⟨_, rfl, h⟩
theorem invo_non {o : Option Expr} (h : chkO Z .non sc o = true) : o = none := by
  cases o with
  | none => rfl
  | some e => simp [chkO] at h
/-! what is walked -/
theorem invi_seq {a : CE} (h : chkI Z (.seq a) sc e = true) : chkE Z a sc e = true := by
  simp only [chkI] at h; exact h
theorem invi_rng1 {a : CE} (h : chkI Z (.rng1 a) sc e = true) : ∃ x p e1 pos, e = .Call (.Name x p) [e1] [] pos ∧ x = "range" ∧ glB sc x = true ∧ chkE Z a sc e1 = true := by
  cases e <;> first | (simp [chkI] at h; done) | skip
  rename_i e1 vs kw p
  cases kw <;> cases e1 <;> rcases vs with _ | ⟨v1, _ | ⟨v2, vs⟩⟩ <;> first | (simp [chkI] at h; done) | skip
  simp only [chkI, Bool.and_eq_true, decide_eq_true_eq] at h; exact ⟨_, _, _, _, rfl, h⟩
theorem invi_enm {a : CE} (h : chkI Z (.enm a) sc e = true) : ∃ x p e1 pos, e = .Call (.Name x p) [e1] [] pos ∧ x = "enumerate" ∧ glB sc x = true ∧ chkE Z a sc e1 = true := by
  cases e <;> first | (simp [chkI] at h; done) | skip
  rename_i e1 vs kw p
  cases kw <;> cases e1 <;> rcases vs with _ | ⟨v1, _ | ⟨v2, vs⟩⟩ <;> first | (simp [chkI] at h; done) | skip
  simp only [chkI, Bool.and_eq_true, decide_eq_true_eq] at h; exact ⟨_, _, _, _, rfl, h⟩
theorem invi_rng2 {a b : CE} (h : chkI Z (.rng2 a b) sc e = true) : ∃ x p e1 e2 pos, e = .Call (.Name x p) [e1, e2] [] pos ∧ x = "range" ∧ glB sc x = true ∧ chkE Z a sc e1 = true ∧ chkE Z b sc e2 = true := by
  cases e <;> first | (simp [chkI] at h; done) | skip
  rename_i e1 vs kw p
  cases kw <;> cases e1 <;> rcases vs with _ | ⟨v1, _ | ⟨v2, _ | ⟨v3, vs⟩⟩⟩ <;> first | (simp [chkI] at h; done) | skip
  simp only [chkI, Bool.and_eq_true, decide_eq_true_eq] at h; exact ⟨_, _, _, _, _, rfl, h⟩
theorem invi_zip {a b : CE} (h : chkI Z (.zip a b) sc e = true) : ∃ x p e1 e2 pos, e = .Call (.Name x p) [e1, e2] [] pos ∧ x = "zip" ∧ glB sc x = true ∧ chkE Z a sc e1 = true ∧ chkE Z b sc e2 = true := by
  cases e <;> first | (simp [chkI] at h; done) | skip
  rename_i e1 vs kw p
  cases kw <;> cases e1 <;> rcases vs with _ | ⟨v1, _ | ⟨v2, _ | ⟨v3, vs⟩⟩⟩ <;> first | (simp [chkI] at h; done) | skip
  simp only [chkI, Bool.and_eq_true, decide_eq_true_eq] at h; exact ⟨_, _, _, _, _, rfl, h⟩
theorem invi_rng3 {a b c : CE} (h : chkI Z (.rng3 a b c) sc e = true) : ∃ x p e1 e2 e3 pos, e = .Call (.Name x p) [e1, e2, e3] [] pos ∧ x = "range" ∧ glB sc x = true ∧ chkE Z a sc e1 = true ∧ chkE Z b sc e2 = true ∧ chkE Z c sc e3 = true := by
  cases e <;> first | (simp [chkI] at h; done) | skip
  rename_i e1 vs kw p
  cases kw <;> cases e1 <;> rcases vs with _ | ⟨v1, _ | ⟨v2, _ | ⟨v3, _ | ⟨v4, vs⟩⟩⟩⟩ <;> first | (simp [chkI] at h; done) | skip
  simp only [chkI, Bool.and_eq_true, decide_eq_true_eq] at h; exact ⟨_, _, _, _, _, _, rfl, h⟩
end
end Q7

/-! All expressions. -/
namespace Q7
open PySem L2
section
variable {G : Gb} {T : List Fn} {Z : Names}
theorem noset_fold {i : Expr} {env : PySem.Env} (h : noSet i = true) : ∀ x, foldedSetIterable i env x = pure x := by
  intro x
  cases i <;> first | rfl | (simp [noSet] at h; done)
theorem Ct.blk {E0 : XK} {X : Cx} {sc scope : Scope} {fs : Str → Bool} (C : Ct G T Z E0 X sc fs) (s : Shared) (H : Hp) (c : Addr) (cl : List (Str × Addr)) (fp : List Addr) : Ct G T Z noX (X.blk s H scope (compEnvC scope cl c X.env) fp) (relS scope sc) (fnB scope) where
  N := C.N
  nd := C.nd
  sc := by rw [← C.sc]; rfl
  K := C.K
  calm := C.calm
  hu := C.hu
  fns := C.fns
  fnl := C.fnl
  pass := fun pins σ H s e s' I h => by
    obtain ⟨_, _, _, _, _, _, _, _, _, _, _, _, z⟩ := h
    exact z.elim
  blt := C.blt
  cls := C.cls
  cnm := C.cnm
  fs := fun x h => by
    unfold fnB at h
    split at h
    · rename_i e
      exact .inr (lookup_relS_keep (sc := X.env.scope) (by decide) e)
    · rename_i e
      refine .inl ?_
      show (scope.names.lookup x == some .cell) = true
      rw [e]; rfl
    · cases h
theorem kEs_cons {c : CE} {cs : CEs} (h : kEs (.cons c cs) = true) : wfE c = true ∧ isB c = false ∧ kEs cs = true := by
  simp only [kEs, Bool.and_eq_true, Bool.not_eq_true'] at h; exact h
theorem tup_of_pair {it : CI} {tg : Tg} {sc : Scope} {t : Expr} (h : isPairT it tg = true) (hg : chkG Z sc tg t = true) : (∃ es k p, t = .Tuple es k p) ∨ (∀ a, it ≠ .enm a) ∧ (∀ a b, it ≠ .zip a b) := by
  cases tg with
  | name i =>
    refine .inr ⟨fun a e => ?_, fun a b e => ?_⟩ <;> (subst e; simp [isPairT] at h)
  | tup ts =>
    obtain ⟨es, k, p, rfl, _⟩ := chkG_tup hg
    exact .inl ⟨es, k, p, rfl⟩
mutual
theorem sE : ∀ (c : CE) {E0 : XK} {X : Cx} {sc : Scope} {fs : Str → Bool} {e : Expr}, Ct G T Z E0 X sc fs → chkE Z c sc e = true → wfE c = true → PE X e (iE G T E0 c)
  | .var i, E0, X, sc, fs, e, C, h, w => by
    obtain ⟨x, p, rfl, h⟩ := inv_var h
    exact q_var C h
  | .bv i, E0, X, sc, fs, e, C, h, w => by
    obtain ⟨x, p, rfl, h⟩ := inv_bv h
    exact q_bv C h
  | .int i, E0, X, sc, fs, e, C, h, w => by
    obtain ⟨k, p, rfl⟩ := inv_int h
    exact q_const pe_int (fun _ _ => rfl) fun _ _ _ => .int i
  | .bl i, E0, X, sc, fs, e, C, h, w => by
    obtain ⟨k, p, rfl⟩ := inv_bl h
    exact q_const pe_bl (fun _ _ => rfl) fun _ _ _ => .bl i
  | .non, E0, X, sc, fs, e, C, h, w => by
    obtain ⟨k, p, rfl⟩ := inv_non h
    exact q_const pe_non (fun _ _ => rfl) fun _ _ _ => .non
  | .str i, E0, X, sc, fs, e, C, h, w => by
    obtain ⟨k, p, rfl⟩ := inv_str h
    exact q_const pe_str (fun _ _ => rfl) fun _ _ _ => .str i
  | .bin o a b, E0, X, sc, fs, e, C, h, w => by
    obtain ⟨e1, op, e2, p, rfl, h1, h2, h3⟩ := inv_bin h
    simp only [wfE, Bool.and_eq_true] at w
    exact q_bin C h1 (sE a C h2 w.1) (sE b C h3 w.2)
  | .neg a, E0, X, sc, fs, e, C, h, w => by
    obtain ⟨e1, p, rfl, h1⟩ := inv_neg h
    simp only [wfE] at w
    exact q_neg (sE a C h1 w)
  | .not a, E0, X, sc, fs, e, C, h, w => by
    obtain ⟨e1, p, rfl, h1⟩ := inv_not h
    simp only [wfE] at w
    exact q_not (sE a C h1 w)
  | .and es, E0, X, sc, fs, e, C, h, w => by
    obtain ⟨vs, p, rfl, h1, h2⟩ := inv_and h
    simp only [wfE] at w
    exact sAnd es C h2 w (by omega)
  | .or es, E0, X, sc, fs, e, C, h, w => by
    obtain ⟨vs, p, rfl, h1, h2⟩ := inv_or h
    simp only [wfE] at w
    exact sOr es C h2 w (by omega)
  | .ite t a b, E0, X, sc, fs, e, C, h, w => by
    obtain ⟨c, e1, e2, p, rfl, h1, h2, h3⟩ := inv_ite h
    simp only [wfE, Bool.and_eq_true, Bool.not_eq_true'] at w
    exact q_ite (sT t C h1 w.1) (sE a C h2 w.2.1) (sE b C h3 w.2.2.2.1) w.2.2.1 w.2.2.2.2
  | .cmp o a b, E0, X, sc, fs, e, C, h, w => by
    obtain ⟨e1, op, e2, p, rfl, h1, h2, h3, h4⟩ := inv_cmp h
    simp only [wfE, Bool.and_eq_true] at w
    exact q_cmp C h1 h2 (sE a C h3 w.1) (sE b C h4 w.2)
  | .chain o o2 a b c, E0, X, sc, fs, e, C, h, w => by
    obtain ⟨e1, op, op2, e2, e3, p, rfl, h1, h2, h3, h4, h5, h6⟩ := inv_chain h
    simp only [wfE, Bool.and_eq_true] at w
    exact q_chain C h1 h2 h3 (sE a C h4 w.1) (sE b C h5 w.2.1) (sE c C h6 w.2.2)
  | .tup es, E0, X, sc, fs, e, C, h, w => by
    obtain ⟨vs, k, p, rfl, h⟩ := inv_tup h
    simp only [wfE] at w
    exact q_tup (sEs es C h w)
  | .lst es, E0, X, sc, fs, e, C, h, w => by
    obtain ⟨vs, p, rfl, h⟩ := inv_lst h
    simp only [wfE] at w
    exact q_lst (sEs es C h w)
  | .idx a b, E0, X, sc, fs, e, C, h, w => by
    obtain ⟨e1, e2, p, rfl, h1, h2, h3⟩ := inv_idx h
    simp only [wfE, Bool.and_eq_true] at w
    exact q_idx h1 (sE a C h2 w.1) (sE b C h3 w.2)
  | .slc a lo hi, E0, X, sc, fs, e, C, h, w => by
    obtain ⟨e1, l, u, p2, p, rfl, h1, h2, h3⟩ := inv_slc h
    simp only [wfE, Bool.and_eq_true] at w
    exact q_slc (sE a C h1 w.1) (sO lo C h2 w.2.1) (sO hi C h3 w.2.2)
  | .call f es, E0, X, sc, fs, e, C, h, w => by
    obtain ⟨x, p, vs, pos, rfl, h1, h2, h3⟩ := inv_call h
    simp only [wfE] at w
    refine q_call C h1 h2 (chks_star h3) (fun e => ?_) (sEs es C h3 w)
    subst e
    cases es with
    | nil => rfl
    | cons a b => simp [chkEs] at h3
  | .blt b es, E0, X, sc, fs, e, C, h, w => by
    obtain ⟨x, p, vs, pos, rfl, h1, h2, h3, h4⟩ := inv_blt h
    simp only [wfE] at w
    cases vs with
    | nil => simp at h3
    | cons v vs => exact q_blt C h1 h2 (chks_star h4) (sEs1 es C h4 w)
  | .listRng a b, E0, X, sc, fs, e, C, h, w => by
    obtain ⟨x, p, y, p2, vs, pos2, pos, rfl, h1, h2, h3, h4, h5⟩ := inv_listRng h
    simp only [wfE, Bool.and_eq_true] at w
    rcases h5 with ⟨e1, rfl, ha, hb⟩ | ⟨e1, e2, rfl, ha, hb⟩
    · cases a with
      | som a => simp [chkO] at ha
      | non =>
        cases b with
        | non => simp [chkO] at hb
        | som b =>
          obtain ⟨e', q, hb⟩ := invo hb
          cases q
          exact q_listRng1 C h1 h3 h2 h4 (chk_star hb) (sE b C hb (by simpa [wfO] using w.2))
    · cases a with
      | non => simp [chkO] at ha
      | som a =>
        cases b with
        | non => simp [chkO] at hb
        | som b =>
          obtain ⟨e', q, ha⟩ := invo ha
          cases q
          obtain ⟨e', q, hb⟩ := invo hb
          cases q
          exact q_listRng2 C h1 h3 h2 h4 (chk_star ha) (chk_star hb) (sE a C ha (by simpa [wfO] using w.1)) (sE b C hb (by simpa [wfO] using w.2))
  | .tupRng a b, E0, X, sc, fs, e, C, h, w => by
    obtain ⟨x, p, y, p2, vs, pos2, pos, rfl, h1, h2, h3, h4, h5⟩ := inv_tupRng h
    simp only [wfE, Bool.and_eq_true] at w
    rcases h5 with ⟨e1, rfl, ha, hb⟩ | ⟨e1, e2, rfl, ha, hb⟩
    · cases a with
      | som a => simp [chkO] at ha
      | non =>
        cases b with
        | non => simp [chkO] at hb
        | som b =>
          obtain ⟨e', q, hb⟩ := invo hb
          cases q
          exact q_tupRng1 C h1 h3 h2 h4 (chk_star hb) (sE b C hb (by simpa [wfO] using w.2))
    · cases a with
      | non => simp [chkO] at ha
      | som a =>
        cases b with
        | non => simp [chkO] at hb
        | som b =>
          obtain ⟨e', q, ha⟩ := invo ha
          cases q
          obtain ⟨e', q, hb⟩ := invo hb
          cases q
          exact q_tupRng2 C h1 h3 h2 h4 (chk_star ha) (chk_star hb) (sE a C ha (by simpa [wfO] using w.1)) (sE b C hb (by simpa [wfO] using w.2))
  | .isi a t, E0, X, sc, fs, e, C, h, w => by
    obtain ⟨x, p, e1, y, p2, pos, rfl, h1, h2, h3, h4, h5⟩ := inv_isi h
    simp only [wfE] at w
    exact q_isi C h1 h2 h3 h4 (chk_star h5) (sE a C h5 w)
  | .isx a k, E0, X, sc, fs, e, C, h, w => by
    obtain ⟨x, p, e1, y, p2, pos, rfl, h1, h2, h3, h4, h5⟩ := inv_isx h
    simp only [wfE] at w
    exact q_isx C h1 h2 h3 h4 (chk_star h5) (sE a C h5 w)
  | .edict, E0, X, sc, fs, e, C, h, w => by
    obtain ⟨p, rfl⟩ := inv_edict h
    exact q_edict
  | .meth m a es, E0, X, sc, fs, e, C, h, w => by
    obtain ⟨e1, n, apos, v, pos, rfl, h1, h2, h3, h4, h5⟩ := inv_meth h
    simp only [wfE, Bool.and_eq_true] at w
    exact q_meth C h1 h2 h3 (chks_star h5 v (by simp)) (sE a C h4 w.1) (sEs1 es C h5 w.2)
  | .comp vs tg it ifs elt, E0, X, sc, fs, e, C, h, w => by
    obtain ⟨e1, t, i, fs', scope, pos, rfl, h1, h2, h3, h4, h5, h6, h7, h8, h9⟩ := inv_comp h
    simp only [wfE, Bool.and_eq_true, Bool.not_eq_true'] at w
    exact q_compN newV C h1 (sI it C h2 w.1 (tup_of_pair h3 h5)) (noset_fold h4) h6 w.2.2.2
      (fun s H c cl fp => pg_of (C.blk s H c cl fp) (fun _ _ _ q => q) h5 h7) (fun s H c cl fp => sOT ifs (C.blk s H c cl fp) h8 w.2.1) (fun s H c cl fp => sE elt (C.blk s H c cl fp) h9 w.2.2.1)
  | .comp2 vs tg it ifs vs2 tg2 it2 ifs2 elt, E0, X, sc, fs, e, C, h, w => by
    obtain ⟨e1, t, i, fs', t2, i2, fs2, scope, pos, rfl, h1, h2, h3, h4, h5, h6, h7, h8, g0, g2, g3, g4, g5, g6, g7, g8, h9⟩ := inv_comp2 h
    simp only [wfE, Bool.and_eq_true, Bool.not_eq_true'] at w
    exact q_comp2N newV C h1 (sI it C h2 w.1 (tup_of_pair h3 h5)) (noset_fold h4) (fun env => noset_fold g4) h6 g6 (fun j hj => by simpa using List.all_eq_true.mp g0 j hj) w.2.2.2.2.2.2 w.2.2.2.1
      (fun s H c cl fp => pg_of (C.blk s H c cl fp) (fun _ _ _ q => q) h5 h7) (fun s H c cl fp => sOT ifs (C.blk s H c cl fp) h8 w.2.1)
      (fun s H c cl fp => sI it2 (C.blk s H c cl fp) g2 w.2.2.1 (tup_of_pair g3 g5)) (fun s H c cl fp => pg_of (C.blk s H c cl fp) (fun _ _ _ q => q) g5 g7) (fun s H c cl fp => sOT ifs2 (C.blk s H c cl fp) g8 w.2.2.2.2.1)
      (fun s H c cl fp => sE elt (C.blk s H c cl fp) h9 w.2.2.2.2.2.1)
  | .fstr es, E0, X, sc, fs, e, C, h, w => by
    obtain ⟨vs, p, rfl, h1, h2⟩ := inv_fstr h
    simp only [wfE] at w
    have j := sJ es C h2 w
    rcases vs with _ | ⟨v1, _ | ⟨v2, rest⟩⟩
    · simp at h1
    · simp at h1
    · exact q_fstr j
theorem sEs : ∀ (c : CEs) {E0 : XK} {X : Cx} {sc : Scope} {fs : Str → Bool} {es : List Expr}, Ct G T Z E0 X sc fs → chkEs Z c sc es = true → kEs c = true → PA X es (iEs G T E0 c)
  | .nil, E0, X, sc, fs, es, C, h, w => by
    cases invs_nil h
    exact qs_nil
  | .cons c cs, E0, X, sc, fs, es, C, h, w => by
    obtain ⟨e, r, rfl, h1, h2⟩ := invs_cons h
    obtain ⟨w1, w2, w3⟩ := kEs_cons w
    exact qs_cons (chk_star h1) w2 (sE c C h1 w1) (sEs cs C h2 w3)
theorem sEs1 : ∀ (c : CEs) {E0 : XK} {X : Cx} {sc : Scope} {fs : Str → Bool} {es : List Expr}, Ct G T Z E0 X sc fs → chkEs Z c sc es = true → wEs c = true → PA X es (iEs1 G T E0 c)
  | .nil, E0, X, sc, fs, es, C, h, w => by
    cases invs_nil h
    exact qs1_nil
  | .cons c cs, E0, X, sc, fs, es, C, h, w => by
    obtain ⟨e, r, rfl, h1, h2⟩ := invs_cons h
    simp only [wEs, Bool.and_eq_true] at w
    exact qs1_cons (chk_star h1) (sE c C h1 w.1) (sEs1 cs C h2 w.2)
theorem sAnd : ∀ (c : CEs) {E0 : XK} {X : Cx} {sc : Scope} {fs : Str → Bool} {es : List Expr} {pos : Pos}, Ct G T Z E0 X sc fs → chkEs Z c sc es = true → kEs c = true → 1 ≤ es.length → PE X (.BoolOp .And es pos) (iAnd G T E0 c)
  | .nil, E0, X, sc, fs, es, pos, C, h, w, hl => by
    cases invs_nil h
    simp at hl
  | .cons c .nil, E0, X, sc, fs, es, pos, C, h, w, hl => by
    obtain ⟨e, r, rfl, h1, h2⟩ := invs_cons h
    obtain ⟨w1, w2, w3⟩ := kEs_cons w
    cases invs_nil h2
    exact q_and1 w2 (sE c C h1 w1)
  | .cons c (.cons d cs), E0, X, sc, fs, es, pos, C, h, w, hl => by
    obtain ⟨e, r, rfl, h1, h2⟩ := invs_cons h
    obtain ⟨w1, w2, w3⟩ := kEs_cons w
    have q := sAnd (.cons d cs) (pos := pos) C h2 w3
    obtain ⟨e', r', rfl, h3, h4⟩ := invs_cons h2
    exact q_and2 w2 (sE c C h1 w1) (q (by simp))
theorem sOr : ∀ (c : CEs) {E0 : XK} {X : Cx} {sc : Scope} {fs : Str → Bool} {es : List Expr} {pos : Pos}, Ct G T Z E0 X sc fs → chkEs Z c sc es = true → kEs c = true → 1 ≤ es.length → PE X (.BoolOp .Or es pos) (iOr G T E0 c)
  | .nil, E0, X, sc, fs, es, pos, C, h, w, hl => by
    cases invs_nil h
    simp at hl
  | .cons c .nil, E0, X, sc, fs, es, pos, C, h, w, hl => by
    obtain ⟨e, r, rfl, h1, h2⟩ := invs_cons h
    obtain ⟨w1, w2, w3⟩ := kEs_cons w
    cases invs_nil h2
    exact q_or1 w2 (sE c C h1 w1)
  | .cons c (.cons d cs), E0, X, sc, fs, es, pos, C, h, w, hl => by
    obtain ⟨e, r, rfl, h1, h2⟩ := invs_cons h
    obtain ⟨w1, w2, w3⟩ := kEs_cons w
    have q := sOr (.cons d cs) (pos := pos) C h2 w3
    obtain ⟨e', r', rfl, h3, h4⟩ := invs_cons h2
    exact q_or2 w2 (sE c C h1 w1) (q (by simp))
theorem sJ : ∀ (c : CEs) {E0 : XK} {X : Cx} {sc : Scope} {fs : Str → Bool} {es : List Expr}, Ct G T Z E0 X sc fs → chkJ Z c sc es = true → kEs c = true → PJ X es (jTs G T E0 c)
  | .nil, E0, X, sc, fs, es, C, h, w => by
    cases invj_nil h
    exact .nil
  | .cons c cs, E0, X, sc, fs, es, C, h, w => by
    obtain ⟨e, r, rfl, h2, h1⟩ := invj_cons h
    obtain ⟨w1, w2, w3⟩ := kEs_cons w
    rcases h1 with ⟨e1, p, rfl, h1⟩ | ⟨s, k, p, rfl, h1⟩
    · exact .cons (q_fmt (sE c C h1 w1)) (sJ cs C h2 w3)
    · refine .cons ?_ (sJ cs C h2 w3)
      cases c <;> first | (simp [chkE] at h1; done) | skip
      simp only [chkE, decide_eq_true_eq] at h1
      subst h1
      exact q_fmtc
theorem sT : ∀ (c : CT) {E0 : XK} {X : Cx} {sc : Scope} {fs : Str → Bool} {e : Expr}, Ct G T Z E0 X sc fs → chkT Z c sc e = true → wfT c = true → PT X e (iT G T E0 c)
  | .val a, E0, X, sc, fs, e, C, h, w => by
    obtain ⟨h1, h2⟩ := invt_val h
    simp only [wfT] at w
    exact qt_val h1 (sE a C h2 w)
  | .cmp o a b, E0, X, sc, fs, e, C, h, w => by
    obtain ⟨e1, op, e2, p, rfl, h1, h2, h3, h4⟩ := invt_cmp h
    simp only [wfT, Bool.and_eq_true] at w
    exact qt_cmp C h1 h2 (sE a C h3 w.1) (sE b C h4 w.2)
  | .chain o o2 a b c, E0, X, sc, fs, e, C, h, w => by
    obtain ⟨e1, op, op2, e2, e3, p, rfl, h1, h2, h3, h4, h5, h6⟩ := invt_chain h
    simp only [wfT, Bool.and_eq_true] at w
    exact qt_chain C h1 h2 h3 (sE a C h4 w.1) (sE b C h5 w.2.1) (sE c C h6 w.2.2)
  | .and ts, E0, X, sc, fs, e, C, h, w => by
    obtain ⟨vs, p, rfl, h1, h2⟩ := invt_and h
    simp only [wfT] at w
    exact (sTA ts C h2 w (by omega)).pt
  | .or ts, E0, X, sc, fs, e, C, h, w => by
    obtain ⟨vs, p, rfl, h1, h2⟩ := invt_or h
    simp only [wfT] at w
    exact (sTO ts C h2 w (by omega)).pt
  | .not t, E0, X, sc, fs, e, C, h, w => by
    obtain ⟨e1, p, rfl, h1⟩ := invt_not h
    simp only [wfT] at w
    exact qt_not (sT t C h1 w)
theorem sTA : ∀ (c : CTs) {E0 : XK} {X : Cx} {sc : Scope} {fs : Str → Bool} {es : List Expr} {pos : Pos}, Ct G T Z E0 X sc fs → chkTs Z c sc es = true → wfTs c = true → 1 ≤ es.length → PW X (.BoolOp .And es pos) (iTA G T E0 c)
  | .nil, E0, X, sc, fs, es, pos, C, h, w, hl => by
    cases invts_nil h
    simp at hl
  | .cons c .nil, E0, X, sc, fs, es, pos, C, h, w, hl => by
    obtain ⟨e, r, rfl, h1, h2⟩ := invts_cons h
    simp only [wfTs, Bool.and_eq_true] at w
    cases invts_nil h2
    exact qw_and1 (sT c C h1 w.1)
  | .cons c (.cons d cs), E0, X, sc, fs, es, pos, C, h, w, hl => by
    obtain ⟨e, r, rfl, h1, h2⟩ := invts_cons h
    have w3 : wfT c = true ∧ wfTs (.cons d cs) = true := by rw [wfTs, Bool.and_eq_true] at w; exact w
    have q := sTA (.cons d cs) (pos := pos) C h2 w3.2
    obtain ⟨e', r', rfl, h3, h4⟩ := invts_cons h2
    exact qw_and2 (sT c C h1 w3.1) (q (by simp))
theorem sTO : ∀ (c : CTs) {E0 : XK} {X : Cx} {sc : Scope} {fs : Str → Bool} {es : List Expr} {pos : Pos}, Ct G T Z E0 X sc fs → chkTs Z c sc es = true → wfTs c = true → 1 ≤ es.length → PW X (.BoolOp .Or es pos) (iTO G T E0 c)
  | .nil, E0, X, sc, fs, es, pos, C, h, w, hl => by
    cases invts_nil h
    simp at hl
  | .cons c .nil, E0, X, sc, fs, es, pos, C, h, w, hl => by
    obtain ⟨e, r, rfl, h1, h2⟩ := invts_cons h
    simp only [wfTs, Bool.and_eq_true] at w
    cases invts_nil h2
    exact qw_or1 (sT c C h1 w.1)
  | .cons c (.cons d cs), E0, X, sc, fs, es, pos, C, h, w, hl => by
    obtain ⟨e, r, rfl, h1, h2⟩ := invts_cons h
    have w3 : wfT c = true ∧ wfTs (.cons d cs) = true := by rw [wfTs, Bool.and_eq_true] at w; exact w
    have q := sTO (.cons d cs) (pos := pos) C h2 w3.2
    obtain ⟨e', r', rfl, h3, h4⟩ := invts_cons h2
    exact qw_or2 (sT c C h1 w3.1) (q (by simp))
theorem sI : ∀ (c : CI) {E0 : XK} {X : Cx} {sc : Scope} {fs : Str → Bool} {tg e : Expr}, Ct G T Z E0 X sc fs → chkI Z c sc e = true → wfI c = true → ((∃ es k p, tg = .Tuple es k p) ∨ (∀ a, c ≠ .enm a) ∧ (∀ a b, c ≠ .zip a b)) → PI X tg e (iI G T E0 X.K c)
  | .seq a, E0, X, sc, fs, tg, e, C, h, w, ht => by
    simp only [wfI] at w
    exact qi_seq (sE a C (invi_seq h) w)
  | .rng1 a, E0, X, sc, fs, tg, e, C, h, w, ht => by
    obtain ⟨x, p, e1, pos, rfl, h1, h2, h3⟩ := invi_rng1 h
    simp only [wfI] at w
    exact qi_rng1 C h1 h2 (chk_star h3) (sE a C h3 w)
  | .rng2 a b, E0, X, sc, fs, tg, e, C, h, w, ht => by
    obtain ⟨x, p, e1, e2, pos, rfl, h1, h2, h3, h4⟩ := invi_rng2 h
    simp only [wfI, Bool.and_eq_true] at w
    exact qi_rng2 C h1 h2 (chk_star h3) (chk_star h4) (sE a C h3 w.1) (sE b C h4 w.2)
  | .rng3 a b c, E0, X, sc, fs, tg, e, C, h, w, ht => by
    obtain ⟨x, p, e1, e2, e3, pos, rfl, h1, h2, h3, h4, h5⟩ := invi_rng3 h
    simp only [wfI, Bool.and_eq_true] at w
    exact qi_rng3 C h1 h2 (chk_star h3) (chk_star h4) (chk_star h5) (sE a C h3 w.1) (sE b C h4 w.2.1) (sE c C h5 w.2.2)
  | .enm a, E0, X, sc, fs, tg, e, C, h, w, ht => by
    obtain ⟨x, p, e1, pos, rfl, h1, h2, h3⟩ := invi_enm h
    simp only [wfI] at w
    rcases ht with ⟨es, k, p, rfl⟩ | ht
    · exact qi_enm C h1 h2 (chk_star h3) (sE a C h3 w)
    · exact absurd rfl (ht.1 a)
  | .zip a b, E0, X, sc, fs, tg, e, C, h, w, ht => by
    obtain ⟨x, p, e1, e2, pos, rfl, h1, h2, h3, h4⟩ := invi_zip h
    simp only [wfI, Bool.and_eq_true] at w
    rcases ht with ⟨es, k, p, rfl⟩ | ht
    · exact qi_zip C h1 h2 (chk_star h3) (chk_star h4) (sE a C h3 w.1) (sE b C h4 w.2)
    · exact absurd rfl (ht.2 a b)
theorem sO : ∀ (c : CO) {E0 : XK} {X : Cx} {sc : Scope} {fs : Str → Bool} {e : Option Expr}, Ct G T Z E0 X sc fs → chkO Z c sc e = true → wfO c = true → PO X e (iO G T E0 c)
  | .non, E0, X, sc, fs, e, C, h, w => by
    cases invo_non h
    exact qo_non
  | .som a, E0, X, sc, fs, e, C, h, w => by
    obtain ⟨e', rfl, h⟩ := invo h
    simp only [wfO] at w
    exact qo_som (sE a C h w)
theorem sOT : ∀ (c : COT) {E0 : XK} {X : Cx} {sc : Scope} {fs : Str → Bool} {es : List Expr}, Ct G T Z E0 X sc fs → chkOT Z c sc es = true → wfOT c = true → PTs X es (iG G E0 rEqv (evOT T c))
  | .non, E0, X, sc, fs, es, C, h, w => by
    cases invot_non h
    exact ⟨fun pins s σ H Q I ⟨B, env, S, ρ, ow, R, P⟩ => pts_nil.run pins s σ H Q I (P true H ρ Step.refl R.st rfl)⟩
  | .som t, E0, X, sc, fs, es, C, h, w => by
    obtain ⟨e, rfl, h⟩ := invot h
    simp only [wfOT] at w
    exact pts_one (sT t C h w)
end
end
end Q7

/-! Code that makes a new list. -/
namespace Q7
open PySem L2
section
variable {G : Gb} {T : List Fn} {Z : Names} {E0 : XK} {X : Cx} {sc : Scope} {fs : Str → Bool}
def relF (G : Gb) : RelN := fun B ow H0 ρ H v d => ∀ ds, d = .list ds → ∃ a xs, v = .ref a ∧ H0 a = none ∧ H a = some (.lst xs) ∧ ¬ inT ρ a ∧ ¬ av B ρ ow a ∧ DenL G (fun b => av B ρ ow b ∨ b = a) ρ H xs ds
theorem newF : NewOk G (relF G) := fun h0 e n na l ds eq => by
  cases eq
  exact ⟨_, _, rfl, h0, e, n, na, l⟩
theorem newN {rel : RelN} (ok : NewOk G rel) {B : Addr → Prop} {env : Env} {S : Sta} {ρ0 ρ : Rho} {ow : Nat → Option Addr} {σ : L2.St} {H0 H : Hp} {p : Addr} {xs : List V} {ds : List D} (R : Rel G B env S ρ ow σ H) (st : Step ρ0 H0 ρ H) (hp : H p = none) (l : DenL G (av B ρ ow) ρ H xs ds) :
    rel B ow H0 ρ (upd H p (.lst xs)) (.ref p) (.list ds) := by
  refine ok (st.there p hp) upd_same (fun q => ?_) (fun q => R.tr p q hp) (l.lift R.wl.hB (fun a q => R.st.mu q) (Step.new hp) fun a q => ?_)
  · obtain ⟨o, e, _⟩ := R.st.mu q
    rw [hp] at e; cases e
  · rcases q with q | q
    · exact .inl q
    · exact .inr (by rw [q]; exact hp)
theorem q_lstN {rel : RelN} (ok : NewOk G rel) {as : CEs} {es : List Expr} {pos : Pos} (h : PA X es (iEs G T E0 as)) : PE X (.List es pos) (iN G E0 rel (ev T (.lst as))) := by
  refine PE_weak (pe_lst h) fun σ H Q h => ?_
  obtain ⟨B, env, S, ρ, ow, R, P⟩ := h
  have P : Post G E0 (rel B ow H) ρ H ((evs T as env S).bind fun ds => if sizeOk ds.length then ret (.list ds) else bad) Q := P
  refine ⟨B, env, S, ρ, ow, R, (go1 (rel2 := rKs G B ow) P).mono fun xs H1 ⟨ds, S1, ρ1, st1, s1, r1, P1⟩ => ?_⟩
  have r : DenL G (av B ρ1 ow) ρ1 H1 xs ds := r1
  cases hs : sizeOk ds.length with
  | false => simp only [hs] at P1; exact P1.elim
  | true =>
    simp only [hs] at P1
    exact ⟨by rw [r.length]; exact size_line hs, fun p hp => P1 _ _ ρ1 (Step.new hp) (s1.new hp) (newN ok (R.step st1 s1) st1 hp r)⟩
theorem q_listRng1N {rel : RelN} (ok : NewOk G rel) (C : Ct G T Z E0 X sc fs) {b : CE} {x y : Str} {p p2 pos pos2 : Pos} {e : Expr} (hx : x = "list") (hgx : glB sc x = true) (hy : y = "range") (hg : glB sc y = true) (hs : noStar e = true) (hb : PE X e (iE G T E0 b)) : PE X (.Call (.Name x p) [.Call (.Name y p2) [e] [] pos2] [] pos) (iN G E0 rel (ev T (.listRng .non (.som b)))) := by
  subst hx
  refine PE_weak (pe_listRg C.calm (C.gl hgx).1 (C.blt _ (by decide)) (prg_q1 C hy hg hs hb) (nostar rfl)) fun σ H Q h => ?_
  obtain ⟨B, env, S, ρ, ow, R, P⟩ := h
  have P : Post G E0 (rel B ow H) ρ H (((ev T b env S).bind fun x => (match x with | .int i => ret (some i) | _ => bad)).bind fun y => match (none : Option Int), y with | none, some j => if rngOk 0 j then ret (D.list (rangeD 0 j)) else bad | some i, some j => if rngOk i j then ret (D.list (rangeD i j)) else bad | _, _ => bad) Q := P
  have P : Post G E0 (rel B ow H) ρ H ((ev T b env S).bind fun x => bind (match x with | .int i => ret (some i) | _ => bad) fun y => match (none : Option Int), y with | none, some j => if rngOk 0 j then ret (D.list (rangeD 0 j)) else bad | some i, some j => if rngOk i j then ret (D.list (rangeD i j)) else bad | _, _ => bad) Q := by
    revert P; cases ev T b env S <;> exact id
  refine ⟨B, env, S, ρ, ow, R, ((go1 (rel2 := rK1 G B ow) P).weak fun _ _ _ _ r => r.to1).mono fun y H1 ⟨d2, S1, ρ1, st1, s1, r1, P1⟩ => ?_⟩
  obtain ⟨j, rfl, P2⟩ := asInt P1
  refine ⟨j, Den1.int_inv r1, ?_⟩
  have P2 : Post G E0 (rel B ow H) ρ1 H1 ((if rngOk 0 j then ret (D.list (rangeD 0 j)) else bad : M D) S1) Q := P2
  cases hk : rngOk 0 j with
  | false => rw [hk] at P2; exact P2.elim
  | true =>
    rw [hk] at P2
    exact ⟨rng_ok hk, fun q hq => P2 _ _ ρ1 (Step.new hq) (s1.new hq) (newN ok (R.step st1 s1) st1 hq (den_rg 0 j))⟩
/-- a result that is no list, or a new one -/
theorem relF.not {B : Addr → Prop} {ow : Nat → Option Addr} {H0 : Hp} {ρ : Rho} {H : Hp} {v : V} {d : D} (h : ∀ ds, d ≠ .list ds) : relF G B ow H0 ρ H v d := fun ds e => absurd e (h ds)
theorem bin_list {o : BOp} {a b : D} {ds : List D} (h : binop o a b = some (.list ds)) : (o = .add ∧ ∃ xs ys, a = .list xs ∧ b = .list ys ∧ sizeOk (xs.length + ys.length) = true ∧ ds = xs ++ ys) ∨ (o = .mul ∧ ∃ xs k, a = .list xs ∧ b = .int k ∧ 0 ≤ k ∧ k ≤ 1000 ∧ xs.length ≤ 1000 ∧ ds = rep xs k.toNat) := by
  cases o <;> cases a <;> cases b <;> simp only [binop] at h <;> first | (cases h; done) | skip
  all_goals split at h
  all_goals first | (cases h; done) | skip
  · rename_i hs
    cases h
    exact .inl ⟨rfl, _, _, rfl, rfl, hs, rfl⟩
  · rename_i hs
    cases h
    simp only [Bool.and_eq_true, decide_eq_true_eq] at hs
    exact .inr ⟨rfl, _, _, rfl, rfl, hs.1.1, hs.1.2, hs.2, rfl⟩
theorem qf_bin (C : Ct G T Z E0 X sc fs) {o : BOp} {op : Operator} {a b : CE} {e1 e2 : Expr} {pos : Pos} (ho : bopB o op = true) (ha : PE X e1 (iE G T E0 a)) (hb : PE X e2 (iE G T E0 b)) : PE X (.BinOp e1 op e2 pos) (iN G E0 (relF G) (ev T (.bin o a b))) := by
  refine PE_weak (pe_op (op_bin ho) ha hb) fun σ H Q h => ?_
  obtain ⟨B, env, S, ρ, ow, R, P⟩ := h
  have P : Post G E0 (relF G B ow H) ρ H ((ev T a env S).bind fun x => bind (ev T b env) fun y => lift (binop o x y)) Q := P
  refine ⟨B, env, S, ρ, ow, R, ((go1 (rel2 := rK1 G B ow) P).weak fun _ _ _ _ r => r.to1).mono fun x H1 ⟨d, S1, ρ1, st1, s1, r1, P1⟩ => ?_⟩
  refine ⟨B, env, S1, ρ1, ow, R.step st1 s1, ((go1 (rel2 := rK1 G B ow) P1).weak fun _ _ _ _ r => r.to1).mono fun y H2 ⟨d2, S2, ρ2, st2, s2, r2, P2⟩ => ?_⟩
  have R2 := (R.step st1 s1).step st2 s2
  have st := st1.trans st2
  have r1 : Den1 G (av B ρ2 ow) ρ2 H2 x d := Den1.stp s1 st2 r1
  have r2 : Den1 G (av B ρ2 ow) ρ2 H2 y d2 := r2
  obtain ⟨r, hr, P2⟩ := post_lift P2
  by_cases hl : ∃ ds, r = .list ds
  · obtain ⟨ds, rfl⟩ := hl
    rcases bin_list hr with ⟨rfl, xs, ys, rfl, rfl, hs, rfl⟩ | ⟨rfl, xs, k, rfl, rfl, h0, h1, h2, rfl⟩
    · obtain ⟨p, us, rfl, f1, l1⟩ := r1.list_inv
      obtain ⟨q, ws, rfl, f2, l2⟩ := r2.list_inv
      refine .inr (.inr (.inl ⟨p, q, us, ws, rfl, rfl, f1, f2, ?_, fun t ht => P2 _ _ ρ2 (Step.new ht) (s2.new ht) (newN newF R2 st ht (l1.append l2))⟩))
      rw [l1.length, l2.length]; exact size_line hs
    · obtain ⟨p, us, rfl, f1, l1⟩ := r1.list_inv
      refine .inr (.inl ⟨p, k, us, rfl, r2.int_inv, f1, by omega, by omega, ?_, fun t ht => P2 _ _ ρ2 (Step.new ht) (s2.new ht) (newN newF R2 st ht (l1.rep _))⟩)
      have := Nat.mul_le_mul (show us.length ≤ 1000 by rw [l1.length]; exact h2) (show k.toNat ≤ 1000 by omega)
      rw [sizeLine_eq]; omega
  · refine bin_ok R2.wl.hB R2.wl.hb R2.st hr r1 r2 fun v H' stW kp hv => P2 v H' ρ2 stW (kp S2 R2.st) (relF.not fun ds e => hl ⟨ds, e⟩)
theorem blt_list {ds : List D} {d : D} (h : blt .list ds = some d) : ∃ xs, d = .list xs ∧ (ds = [.list xs] ∨ ds = [.tup xs] ∨ ∃ z, ds = [.str z] ∧ sizeOk z.length = true ∧ xs = z.cps.toList.map fun c => .str ⟨#[c]⟩) := by
  unfold blt at h
  split at h <;> first | (rename_i e; cases e; done) | (cases h; done) | skip
  · cases h; exact ⟨_, rfl, .inl rfl⟩
  · cases h; exact ⟨_, rfl, .inr (.inl rfl)⟩
  · split at h
    · rename_i hs
      cases h; exact ⟨_, rfl, .inr (.inr ⟨_, rfl, hs, rfl⟩)⟩
    · cases h
/-- list(x), the new list told -/
def rLst (K : PySem.W.Frag) : List V → Hp → VK → Prop := fun xs H Q => (∃ p us, xs = [.ref p] ∧ (SqL K H p us ∨ SqT K H p us) ∧ ∀ q, H q = none → Q (.ref q) (upd H q (.lst us))) ∨ ∃ z, xs = [.str z] ∧ z.length ≤ sizeLine ∧ ∀ q, H q = none → Q (.ref q) (upd H q (.lst (z.cps.toList.map fun c => V.str ⟨#[c]⟩)))
theorem call_lst (hc : X.calm = true) : CallR X (.type "list") (rLst X.K) := by
  intro pins s σ H xs us Q I r h
  rcases h with ⟨p, us, rfl, h, q⟩ | ⟨z, rfl, hz, q⟩
  · exact call_list_of pins s σ H _ _ Q I r ⟨p, us, rfl, h, q⟩
  · exact list_signs (I.ok.hd hc) pins s σ H _ Q I r hz q
theorem qf_blt (C : Ct G T Z E0 X sc fs) {cs : CEs} {x : Str} {p pos : Pos} {e : Expr} {es : List Expr} (hx : bltN .list = x) (hg : glB sc x = true) (hs : ∀ e' ∈ e :: es, noStar e' = true) (ha : PA X (e :: es) (iEs1 G T E0 cs)) : PE X (.Call (.Name x p) (e :: es) [] pos) (iN G E0 (relF G) (ev T (.blt .list cs))) := by
  obtain ⟨g1, g2, g3⟩ := C.gl hg
  have hm : X.mg x = none := C.blt x (hx ▸ blt_names .list)
  have hv : bootBuiltins x = some (bltV .list) := hx ▸ boot_blt .list
  refine PE_weak (pe_callTy (call_lst C.calm) g1 hm hv ha g3 g2 (nostar (hs e (by simp))) (noany fun e' he => hs e' (by simp [he]))) fun σ H Q h => ?_
  obtain ⟨B, env, S, ρ, ow, R, P⟩ := h
  have P : Post G E0 (relF G B ow H) ρ H ((evs T cs env S).bind fun ds => lift (blt .list ds)) Q := P
  refine ⟨B, env, S, ρ, ow, R, (go1 (rel2 := rKs1 G B ow) P).mono fun vs H1 ⟨ds, S1, ρ1, st1, s1, r1, P1⟩ => ?_⟩
  have r1 : DenL1 G (av B ρ1 ow) ρ1 H1 vs ds := r1
  obtain ⟨d, hd, P1⟩ := post_lift P1
  obtain ⟨xs, rfl, rfl | rfl | ⟨z, rfl, hz, rfl⟩⟩ := blt_list hd
  · obtain ⟨v, rfl, hv⟩ := r1.one
    obtain ⟨q, us, rfl, f1, l1⟩ := hv.list_inv
    exact .inl ⟨q, us, rfl, .inl (SqL.of f1), fun t ht => P1 _ _ ρ1 (Step.new ht) (s1.new ht) (newN newF (R.step st1 s1) st1 ht l1)⟩
  · obtain ⟨v, rfl, hv⟩ := r1.one
    obtain ⟨q, us, rfl, f1, l1⟩ := hv.tup_inv
    exact .inl ⟨q, us, rfl, .inr (SqT.of f1), fun t ht => P1 _ _ ρ1 (Step.new ht) (s1.new ht) (newN newF (R.step st1 s1) st1 ht l1)⟩
  · obtain ⟨v, rfl, hv⟩ := r1.one
    cases hv.str_inv
    exact .inr ⟨z, rfl, size_line hz, fun t ht => P1 _ _ ρ1 (Step.new ht) (s1.new ht) (newN newF (R.step st1 s1) st1 ht (den_signs z))⟩
def fr : CE → Bool
  | .lst _ | .comp _ _ _ _ _ | .comp2 _ _ _ _ _ _ _ _ _ | .bin _ _ _ => true
  | .listRng .non (.som _) => true
  | .blt .list _ => true
  | _ => false
theorem sF (C : Ct G T Z E0 X sc fs) : ∀ {c : CE} {e : Expr}, fr c = true → chkE Z c sc e = true → wfE c = true → PE X e (iN G E0 (relF G) (ev T c))
  | .lst es, e, _, h, w => by
    obtain ⟨vs, p, rfl, h⟩ := inv_lst h
    simp only [wfE] at w
    exact q_lstN newF (sEs es C h w)
  | .bin o a b, e, _, h, w => by
    obtain ⟨e1, op, e2, p, rfl, h1, h2, h3⟩ := inv_bin h
    simp only [wfE, Bool.and_eq_true] at w
    exact qf_bin C h1 (sE a C h2 w.1) (sE b C h3 w.2)
  | .blt .list es, e, _, h, w => by
    obtain ⟨x, p, vs, pos, rfl, h1, h2, h3, h4⟩ := inv_blt h
    simp only [wfE] at w
    cases vs with
    | nil => simp at h3
    | cons v vs => exact qf_blt C h1 h2 (chks_star h4) (sEs1 es C h4 w)
  | .listRng .non (.som b), e, _, h, w => by
    obtain ⟨x, p, y, p2, vs, pos2, pos, rfl, h1, h2, h3, h4, h5⟩ := inv_listRng h
    simp only [wfE, Bool.and_eq_true] at w
    rcases h5 with ⟨e1, rfl, ha, hb⟩ | ⟨e1, e2, rfl, ha, hb⟩
    · obtain ⟨e', q, hb⟩ := invo hb
      cases q
      exact q_listRng1N newF C h1 h3 h2 h4 (chk_star hb) (sE b C hb (by simpa [wfO] using w.2))
    · simp [chkO] at ha
  | .comp vs tg it ifs elt, e, _, h, w => by
    obtain ⟨e1, t, i, fs', scope, pos, rfl, h1, h2, h3, h4, h5, h6, h7, h8, h9⟩ := inv_comp h
    simp only [wfE, Bool.and_eq_true, Bool.not_eq_true'] at w
    exact q_compN newF C h1 (sI it C h2 w.1 (tup_of_pair h3 h5)) (noset_fold h4) h6 w.2.2.2
      (fun s H c cl fp => pg_of (C.blk s H c cl fp) (fun _ _ _ q => q) h5 h7) (fun s H c cl fp => sOT ifs (C.blk s H c cl fp) h8 w.2.1) (fun s H c cl fp => sE elt (C.blk s H c cl fp) h9 w.2.2.1)
  | .comp2 vs tg it ifs vs2 tg2 it2 ifs2 elt, e, _, h, w => by
    obtain ⟨e1, t, i, fs', t2, i2, fs2, scope, pos, rfl, h1, h2, h3, h4, h5, h6, h7, h8, g0, g2, g3, g4, g5, g6, g7, g8, h9⟩ := inv_comp2 h
    simp only [wfE, Bool.and_eq_true, Bool.not_eq_true'] at w
    exact q_comp2N newF C h1 (sI it C h2 w.1 (tup_of_pair h3 h5)) (noset_fold h4) (fun env => noset_fold g4) h6 g6 (fun j hj => by simpa using List.all_eq_true.mp g0 j hj) w.2.2.2.2.2.2 w.2.2.2.1
      (fun s H c cl fp => pg_of (C.blk s H c cl fp) (fun _ _ _ q => q) h5 h7) (fun s H c cl fp => sOT ifs (C.blk s H c cl fp) h8 w.2.1)
      (fun s H c cl fp => sI it2 (C.blk s H c cl fp) g2 w.2.2.1 (tup_of_pair g3 g5)) (fun s H c cl fp => pg_of (C.blk s H c cl fp) (fun _ _ _ q => q) g5 g7) (fun s H c cl fp => sOT ifs2 (C.blk s H c cl fp) g8 w.2.2.2.2.1)
      (fun s H c cl fp => sE elt (C.blk s H c cl fp) h9 w.2.2.2.2.2.1)
end
end Q7

/-! From statement to statement: own lists may change. -/
namespace Q7
open PySem L2
abbrev Ow := Nat → Option Addr
structure SSt (ρ : Rho) (ow : Ow) (H : Hp) (ρ' : Rho) (ow' : Ow) (H' : Hp) : Prop where
  keep : ∀ a o, H a = some o → ¬ inT ρ a → (∀ i, ow i ≠ some a) → H' a = some o
  there : ∀ a, H' a = none → H a = none
  head : ∀ (k : Nat) (a : Addr) (l : List Addr), ρ[k]? = some (a :: l) → ∃ l', ρ'[k]? = some (a :: l')
  newT : ∀ a, inT ρ' a → inT ρ a ∨ H a = none
  newO : ∀ i a, ow' i = some a → (∃ j, ow j = some a) ∨ H a = none
section
variable {G : Gb} {B : Addr → Prop} {env env' : Env} {S S' : Sta} {ρ ρ' ρ1 ρ2 : Rho} {ow ow' ow1 ow2 : Ow} {σ : L2.St} {H H' H1 H2 : Hp} {v : V} {d : D}
theorem SSt.refl : SSt ρ ow H ρ ow H := ⟨fun _ _ h _ _ => h, fun _ h => h, fun _ _ l h => ⟨l, h⟩, fun _ h => .inl h, fun i _ h => .inl ⟨i, h⟩⟩
theorem Step.toS (a : Step ρ H ρ1 H1) : SSt ρ ow H ρ1 ow H1 := ⟨fun c o h n _ => a.keep c o h n, a.there, a.head, a.newT, fun i _ h => .inl ⟨i, h⟩⟩
theorem SSt.trans (a : SSt ρ ow H ρ1 ow1 H1) (b : SSt ρ1 ow1 H1 ρ2 ow2 H2) : SSt ρ ow H ρ2 ow2 H2 where
  keep := fun c o h n m => b.keep c o (a.keep c o h n m) (fun q => by
    rcases a.newT c q with z | z
    · exact n z
    · rw [h] at z; cases z) fun i q => by
    rcases a.newO i c q with ⟨j, z⟩ | z
    · exact m j z
    · rw [h] at z; cases z
  there := fun c h => a.there c (b.there c h)
  head := fun k c l h => by
    obtain ⟨l', h'⟩ := a.head k c l h
    exact b.head k c l' h'
  newT := fun c h => by
    rcases b.newT c h with q | q
    · exact a.newT c q
    · exact .inr (a.there c q)
  newO := fun i c h => by
    rcases b.newO i c h with ⟨j, q⟩ | q
    · exact a.newO j c q
    · exact .inr (a.there c q)
/-- the own lists forgotten -/
theorem SSt.drop (a : SSt ρ ow H ρ1 ow1 H1) : SSt ρ ow H ρ1 (fun _ => none) H1 := ⟨a.keep, a.there, a.head, a.newT, fun i _ h => by cases h⟩
theorem SSt.own (a : SSt ρ ow H ρ1 ow1 H1) (h : ∀ i c, ow2 i = some c → (∃ j, ow1 j = some c) ∨ H c = none) : SSt ρ ow H ρ1 ow2 H1 := ⟨a.keep, a.there, a.head, a.newT, fun i c q => (h i c q).elim (fun ⟨j, z⟩ => a.newO j c z) .inr⟩
theorem Rel.ownL (R : Rel G B env S ρ ow σ H) {i : Nat} {a : Addr} (h : ow i = some a) : ∃ xs, H a = some (.lst xs) := by
  obtain ⟨ds, e⟩ := R.ow_of i a h
  obtain ⟨b, xs, _, e1, e2, _⟩ := R.own i ds e
  rw [h] at e1; cases e1
  exact ⟨xs, e2⟩
theorem SSt.kp (R : Rel G B env S ρ ow σ H) (st : SSt ρ ow H ρ' ow' H') : Kp (av B ρ ow) (av B ρ' ow') ρ ρ' H H' where
  lst := fun a ys h n => st.keep a _ h (fun q => n (.inr (.inl q))) fun i q => n (.inr (.inr ⟨i, q⟩))
  tup := fun a ys h => st.keep a _ h (fun q => by obtain ⟨o, e, m⟩ := R.st.mu q; rw [h] at e; cases e; exact m) fun i q => by obtain ⟨xs, e⟩ := R.ownL q; rw [h] at e; cases e
  frz := fun a o u h => st.keep a _ h (fun q => by obtain ⟨o, e, m⟩ := R.st.mu q; rw [h] at e; cases e; exact m) fun i q => by obtain ⟨xs, e⟩ := R.ownL q; rw [h] at e; cases e
  emp := fun a h n => st.keep a _ h (fun q => n (.inr (.inl q))) fun i q => n (.inr (.inr ⟨i, q⟩))
  ext := fun a φ h => st.keep a _ h (fun q => by obtain ⟨o, e, m⟩ := R.st.mu q; rw [h] at e; cases e; exact m) fun i q => by obtain ⟨xs, e⟩ := R.ownL q; rw [h] at e; cases e
  head := st.head
  bl := by
    rintro a (h | h | ⟨i, h⟩)
    · exact .inl (.inl h)
    · exact (st.newT a h).imp (fun q => .inr (.inl q)) id
    · exact (st.newO i a h).imp (fun q => .inr (.inr q)) id
/-- own slots: one more, one less -/
def owP (ow : Ow) (i : Nat) (o : Option Addr) : Ow := fun j => if j = i then o else ow j
theorem owP_same {i : Nat} {o : Option Addr} : owP ow i o i = o := if_pos rfl
theorem owP_ne {i j : Nat} {o : Option Addr} (h : j ≠ i) : owP ow i o j = ow j := if_neg h
theorem av_less {i : Nat} : ∀ a, av B ρ (owP ow i none) a → av B ρ ow a := by
  rintro a (h | h | ⟨j, h⟩)
  · exact .inl h
  · exact .inr (.inl h)
  · by_cases e : j = i
    · rw [e, owP_same] at h; cases h
    · rw [owP_ne e] at h; exact .inr (.inr ⟨j, h⟩)
theorem Rel.put (R : Rel G B env S ρ ow σ H) {i : Nat} (hi : i < env.length) (h : Den G (av B ρ ow) ρ H v d) : Rel G B (env.set i (.val d)) S ρ (owP ow i none) (σ.set i (some v)) H where
  len := by rw [List.length_set, List.length_set]; exact R.len
  st := R.st
  bl := R.bl
  slot := fun j e he => by
    by_cases q : i = j
    · subst q
      rw [List.getElem?_set_self hi] at he
      cases he
      exact ⟨v, List.getElem?_set_self (by rw [R.len]; exact hi), h.aeq av_less⟩
    · rw [List.getElem?_set_ne q] at he
      rw [List.getElem?_set_ne q]
      obtain ⟨w, h1, h2⟩ := R.slot j e he
      exact ⟨w, h1, h2.aeq av_less⟩
  own := fun j ds he => by
    by_cases q : i = j
    · subst q
      rw [List.getElem?_set_self hi] at he
      cases he
    · rw [List.getElem?_set_ne q] at he
      rw [List.getElem?_set_ne q]
      obtain ⟨a, xs, h1, h2, h3, h4⟩ := R.own j ds he
      exact ⟨a, xs, h1, by rw [owP_ne (Ne.symm q)]; exact h2, h3, h4.aeq av_less⟩
  ow_of := fun j a he => by
    by_cases q : j = i
    · subst q; rw [owP_same] at he; cases he
    · rw [owP_ne q] at he; rw [List.getElem?_set_ne (Ne.symm q)]; exact R.ow_of j a he
  inj := fun j k a h1 h2 => by
    by_cases q : j = i
    · rw [q, owP_same] at h1; cases h1
    · by_cases q2 : k = i
      · rw [q2, owP_same] at h2; cases h2
      · rw [owP_ne q] at h1; rw [owP_ne q2] at h2; exact R.inj j k a h1 h2
  disj := fun j a h1 => by
    by_cases q : j = i
    · rw [q, owP_same] at h1; cases h1
    · rw [owP_ne q] at h1; exact R.disj j a h1
/-- a blocked list becomes a slot's own -/
theorem Rel.putO {a : Addr} {xs : List V} {es : List D} (R : Rel G (fun b => B b ∨ b = a) env S ρ ow σ H) {i : Nat} (hi : i < env.length) (hB : ¬ B a) (hT : ¬ inT ρ a) (e : H a = some (.lst xs)) (l : DenL G (av (fun b => B b ∨ b = a) ρ ow) ρ H xs es) :
    Rel G B (env.set i (.own es)) S ρ (owP ow i (some a)) (σ.set i (some (.ref a))) H := by
  have less : ∀ b, av B ρ (owP ow i (some a)) b → av (fun b => B b ∨ b = a) ρ ow b := by
    rintro b (h | h | ⟨j, h⟩)
    · exact .inl (.inl h)
    · exact .inr (.inl h)
    · by_cases q : j = i
      · rw [q, owP_same] at h; cases h; exact .inl (.inr rfl)
      · rw [owP_ne q] at h; exact .inr (.inr ⟨j, h⟩)
  refine ⟨by rw [List.length_set, List.length_set]; exact R.len, R.st, fun b h => R.bl b (.inl h), ?_, ?_, ?_, ?_, ?_⟩
  · intro j d he
    by_cases q : i = j
    · subst q
      rw [List.getElem?_set_self hi] at he
      cases he
    · rw [List.getElem?_set_ne q] at he
      rw [List.getElem?_set_ne q]
      obtain ⟨w, h1, h2⟩ := R.slot j d he
      exact ⟨w, h1, h2.aeq less⟩
  · intro j ds he
    by_cases q : i = j
    · subst q
      rw [List.getElem?_set_self hi] at he
      cases he
      exact ⟨a, xs, List.getElem?_set_self (by rw [R.len]; exact hi), owP_same, e, l.aeq less⟩
    · rw [List.getElem?_set_ne q] at he
      rw [List.getElem?_set_ne q]
      obtain ⟨b, ys, h1, h2, h3, h4⟩ := R.own j ds he
      exact ⟨b, ys, h1, by rw [owP_ne (Ne.symm q)]; exact h2, h3, h4.aeq less⟩
  · intro j b he
    by_cases q : j = i
    · subst q; exact ⟨es, List.getElem?_set_self hi⟩
    · rw [owP_ne q] at he; rw [List.getElem?_set_ne (Ne.symm q)]; exact R.ow_of j b he
  · intro j k b h1 h2
    by_cases q : j = i
    · by_cases q2 : k = i
      · rw [q, q2]
      · rw [q, owP_same] at h1; cases h1
        rw [owP_ne q2] at h2
        exact absurd (.inr rfl) (R.disj k a h2).1
    · by_cases q2 : k = i
      · rw [q2, owP_same] at h2; cases h2
        rw [owP_ne q] at h1
        exact absurd (.inr rfl) (R.disj j a h1).1
      · rw [owP_ne q] at h1; rw [owP_ne q2] at h2; exact R.inj j k b h1 h2
  · intro j b h1
    by_cases q : j = i
    · rw [q, owP_same] at h1; cases h1; exact ⟨hB, hT⟩
    · rw [owP_ne q] at h1
      exact ⟨fun z => (R.disj j b h1).1 (.inl z), (R.disj j b h1).2⟩
/-- an own list is a value from now on -/
theorem Rel.freeze (R : Rel G B env S ρ ow σ H) {i : Nat} {es : List D} (he : env[i]? = some (.own es)) : Rel G B (env.set i (.val (.list es))) S ρ (owP ow i none) σ H := by
  have hi : i < env.length := (List.getElem?_eq_some_iff.mp he).1
  obtain ⟨a, xs, h1, h2, h3, h4⟩ := R.own i es he
  refine ⟨by rw [List.length_set]; exact R.len, R.st, R.bl, ?_, ?_, ?_, ?_, ?_⟩
  · intro j d hj
    by_cases q : i = j
    · subst q
      rw [List.getElem?_set_self hi] at hj
      cases hj
      refine ⟨.ref a, h1, .lst h3 ?_ (h4.aeq av_less)⟩
      rintro (z | z | ⟨k, z⟩)
      · exact (R.disj i a h2).1 z
      · exact (R.disj i a h2).2 z
      · by_cases q : k = i
        · rw [q, owP_same] at z; cases z
        · rw [owP_ne q] at z; exact q (R.inj k i a z h2)
    · rw [List.getElem?_set_ne q] at hj
      obtain ⟨w, g1, g2⟩ := R.slot j d hj
      exact ⟨w, g1, g2.aeq av_less⟩
  · intro j ds hj
    by_cases q : i = j
    · subst q
      rw [List.getElem?_set_self hi] at hj
      cases hj
    · rw [List.getElem?_set_ne q] at hj
      obtain ⟨b, ys, g1, g2, g3, g4⟩ := R.own j ds hj
      exact ⟨b, ys, g1, by rw [owP_ne (Ne.symm q)]; exact g2, g3, g4.aeq av_less⟩
  · intro j b hb
    by_cases q : j = i
    · subst q; rw [owP_same] at hb; cases hb
    · rw [owP_ne q] at hb; rw [List.getElem?_set_ne (Ne.symm q)]; exact R.ow_of j b hb
  · intro j k b g1 g2
    by_cases q : j = i
    · rw [q, owP_same] at g1; cases g1
    · by_cases q2 : k = i
      · rw [q2, owP_same] at g2; cases g2
      · rw [owP_ne q] at g1; rw [owP_ne q2] at g2; exact R.inj j k b g1 g2
  · intro j b g1
    by_cases q : j = i
    · rw [q, owP_same] at g1; cases g1
    · rw [owP_ne q] at g1; exact R.disj j b g1
/-- an own list changes -/
theorem Rel.chg (R : Rel G B env S ρ ow σ H) {i : Nat} {a : Addr} {es es' : List D} {ys : List V} (hi : env[i]? = some (.own es)) (ho : ow i = some a) (l : DenL G (av B ρ ow) ρ H ys es') :
    Rel G B (env.set i (.own es')) S ρ ow σ (upd H a (.lst ys)) ∧ SSt ρ ow H ρ ow (upd H a (.lst ys)) := by
  have hl : i < env.length := (List.getElem?_eq_some_iff.mp hi).1
  obtain ⟨b, xs, h1, h2, h3, h4⟩ := R.own i es hi
  rw [ho] at h2; cases h2
  have hT := (R.disj i a ho).2
  have k : Kp (av B ρ ow) (av B ρ ow) ρ ρ H (upd H a (.lst ys)) := Kp.upd h3 (.inr (.inr ⟨i, ho⟩))
  refine ⟨⟨by rw [List.length_set]; exact R.len, R.st.same fun c hc => upd_ne fun e => hT (by rw [← e]; exact hc), ?_, ?_, ?_, ?_, R.inj, R.disj⟩, ⟨?_, ?_, fun k c l h => ⟨l, h⟩, fun c h => .inl h, fun j c h => .inl ⟨j, h⟩⟩⟩
  · intro c hc e
    by_cases q : c = a
    · rw [q, upd_same] at e; cases e
    · rw [upd_ne q] at e; exact R.bl c hc e
  · intro j d hj
    by_cases q : i = j
    · subst q
      rw [List.getElem?_set_self hl] at hj
      cases hj
    · rw [List.getElem?_set_ne q] at hj
      obtain ⟨w, g1, g2⟩ := R.slot j d hj
      exact ⟨w, g1, g2.kp k⟩
  · intro j ds hj
    by_cases q : i = j
    · subst q
      rw [List.getElem?_set_self hl] at hj
      cases hj
      exact ⟨a, ys, h1, ho, upd_same, l.kp k⟩
    · rw [List.getElem?_set_ne q] at hj
      obtain ⟨c, zs, g1, g2, g3, g4⟩ := R.own j ds hj
      exact ⟨c, zs, g1, g2, by rw [upd_ne (fun e => q (R.inj i j a ho (by rw [← e]; exact g2)))]; exact g3, g4.kp k⟩
  · intro j c hc
    by_cases q : i = j
    · subst q; exact ⟨es', List.getElem?_set_self hl⟩
    · rw [List.getElem?_set_ne q]; exact R.ow_of j c hc
  · intro c o h n m
    rw [upd_ne (fun e => m i (by rw [e]; exact ho))]; exact h
  · intro c h
    by_cases q : c = a
    · rw [q, upd_same] at h; cases h
    · rw [upd_ne q] at h; exact h
/-! ### how statements end -/
def PostS (G : Gb) (E0 : XK) (B : Addr → Prop) (ρ : Rho) (ow : Ow) (H : Hp) (r : Res End) (K : Ends) : Prop := match r with
  | .ok (.nx env') S' => ∀ σ' H' ρ' ow', Rel G B env' S' ρ' ow' σ' H' → SSt ρ ow H ρ' ow' H' → K.nx σ' H'
  | .ok (.rt d) S' => ∀ v H' ρ', StRel ρ' S' H' → SSt ρ ow H ρ' (fun _ => none) H' → Den G (fun a => B a ∨ inT ρ' a) ρ' H' v d → K.rt v H'
  | .exc c S' => ∀ H' ρ', SSt ρ ow H ρ' (fun _ => none) H' → StRel ρ' S' H' → E0 (.ref (G.cls c)) none H'
  | .bad => False
variable {E0 : XK} {K : Ends}
theorem PostS.later {r : Res End} (h : PostS G E0 B ρ ow H r K) (st : SSt ρ ow H ρ1 ow1 H1) : PostS G E0 B ρ1 ow1 H1 r K := by
  cases r with
  | ok e S' =>
    cases e with
    | nx env' => exact fun σ' H' ρ' ow' R s => h σ' H' ρ' ow' R (st.trans s)
    | rt d => exact fun v H' ρ' R s q => h v H' ρ' R (st.trans s) q
  | exc c S' => exact fun H' ρ' s R => h H' ρ' (st.trans s) R
  | bad => exact h
theorem goS {α β : Type} {rel : Rho → Hp → β → α → Prop} {m : Res α} {f : α → Sta → Res End} (P : PostS G E0 B ρ ow H (m.bind f) K) :
    Post G E0 rel ρ H m (fun b H1 => ∃ a S1 ρ1, Step ρ H ρ1 H1 ∧ StRel ρ1 S1 H1 ∧ rel ρ1 H1 b a ∧ PostS G E0 B ρ1 ow H1 (f a S1) K) := by
  cases m with
  | ok a S1 => exact fun b H1 ρ1 st s1 r1 => ⟨a, S1, ρ1, st, s1, r1, PostS.later P st.toS⟩
  | exc c S1 => exact fun H' ρ' st s => P H' ρ' st.toS.drop s
  | bad => exact P
end
end Q7

/-! Statements: one lemma a form. -/
namespace Q7
open PySem L2
structure CtS (G : Gb) (T : List Fn) (Z : Names) (E0 : XK) (X : Cx) (sc : Scope) : Prop where
  ct : Ct G T Z E0 X sc (fnB sc)
  takes : Takes X (fun cls d _ H => E0 cls d H)
  own : PassesOwn (model X.prog X.w) X.A X.env X.xe
  stk : X.stack = X.env :: X.outer
  frm : X.env.frame = some X.env.locals
  ex : X.ex = []
  slope : ∃ S, X.mg "SlopeError" = some (.ref S) ∧ ∀ k, k < 18 → PySem.W.exmOne X.K (.ref (G.cls k)) (.ref S) = some true
  exc : ∀ (c : Nat) x, Z.CN[c]? = some x → X.mg x = some (.ref (G.cls c)) ∧ PySem.W.keepIn X.K (.ref (G.cls c)) = true ∧ (∃ B newId initId bmB, ExcBaseFacts B newId initId bmB ∧ PySem.W.excIn X.K (G.cls c) bmB newId = true) ∧ Raises X (.ref (G.cls c))
section
variable {G : Gb} {T : List Fn} {fuel : Nat} {Z : Names} {E0 : XK} {X : Cx} {sc : Scope}
def iSm (G : Gb) (E0 : XK) (m : Env → M End) : TS := fun K σ H => ∃ B env S ρ ow, Rel G B env S ρ ow σ H ∧ PostS G E0 B ρ ow H (m env S) K
abbrev iS (G : Gb) (T : List Fn) (fuel : Nat) (E0 : XK) (c : CS) : TS := iSm G E0 (ex T fuel c)
abbrev iSs (G : Gb) (T : List Fn) (fuel : Nat) (E0 : XK) (c : CSs) : TS := iSm G E0 (exs T fuel c)
theorem oneS {ka : Bool} {ma : Env → M D} {f : Env → D → M End} {σ : L2.St} {H : Hp} {K : Ends} (h : iSm G E0 (fun env => bind (ma env) (f env)) K σ H) :
    iG G E0 (rV G ka) ma σ H fun x H1 => ∃ B env S ρ ow d, Rel G B env S ρ ow σ H1 ∧ rV G ka B ow ρ H1 x d ∧ PostS G E0 B ρ ow H1 (f env d S) K := by
  obtain ⟨B, env, S, ρ, ow, R, P⟩ := h
  exact ⟨B, env, S, ρ, ow, R, (goS (rel := rV G ka B ow) (m := ma env S) (f := f env) P).mono fun b H1 ⟨a, S1, ρ1, st, s1, r1, P1⟩ => ⟨B, env, S1, ρ1, ow, a, R.step st s1, r1, P1⟩⟩
theorem lift_nx {o : Option Env} {S : Sta} {B : Addr → Prop} {ρ : Rho} {ow : Ow} {H : Hp} {K : Ends} (P : PostS G E0 B ρ ow H ((match o with | some env' => ret (.nx env') | none => bad : M End) S) K) : ∃ env', o = some env' ∧ PostS G E0 B ρ ow H (.ok (.nx env') S) K := by
  cases o with
  | none => exact P.elim
  | some e => exact ⟨e, rfl, P⟩
theorem st1_val {i : Nat} {d : D} {env env' : Env} (h : store1 (false, .name i) d env = some env') : i < env.length ∧ env' = env.set i (.val d) := by
  simp only [store1] at h
  split at h
  · rename_i q; cases h; exact ⟨q, rfl⟩
  · cases h
theorem st1_own {i : Nat} {d : D} {env env' : Env} (h : store1 (true, .name i) d env = some env') : ∃ xs, d = .list xs ∧ i < env.length ∧ env' = env.set i (.own xs) := by
  cases d <;> simp only [store1] at h <;> try (cases h; done)
  split at h
  · rename_i q; cases h; exact ⟨_, rfl, q, rfl⟩
  · cases h
/-- name = e, whatever rule stores it -/
theorem t_set {i : Nat} {c : CE} (nb : isB c = false) : ∀ (K : Ends) (σ : L2.St) (H : Hp), iS G T fuel E0 (.set i c) K σ H → tAsg (iN G E0 (relV G) (ev T c)) (gName i) K σ H := by
  intro K σ H ⟨B, env, S, ρ, ow, R, P⟩
  have P : PostS G E0 B ρ ow H ((ev T c env S).bind fun d => match store1 (false, .name i) d env with | some env' => ret (.nx env') | none => bad) K := P
  refine ⟨B, env, S, ρ, ow, R, (goS (rel := rV G false B ow) P).mono fun v H1 ⟨d, S1, ρ1, st, s1, r1, P1⟩ => ?_⟩
  obtain ⟨env', e, P1⟩ := lift_nx P1
  obtain ⟨hi, rfl⟩ := st1_val e
  exact P1 _ _ ρ1 _ ((R.step st s1).put hi (rV.toK rfl r1)) (SSt.refl.own fun j a q => by
    by_cases z : j = i
    · rw [z, owP_same] at q; cases q
    · rw [owP_ne z] at q; exact .inl ⟨j, q⟩)
theorem t_setO {i : Nat} {c : CE} : ∀ (K : Ends) (σ : L2.St) (H : Hp), iS G T fuel E0 (.setO i c) K σ H → tAsg (iN G E0 (relF G) (ev T c)) (gName i) K σ H := by
  intro K σ H ⟨B, env, S, ρ, ow, R, P⟩
  have P : PostS G E0 B ρ ow H ((ev T c env S).bind fun d => match store1 (true, .name i) d env with | some env' => ret (.nx env') | none => bad) K := P
  revert P
  cases hm : ev T c env S with
  | bad => exact fun P => P.elim
  | exc e S1 =>
    intro P
    refine ⟨B, env, S, ρ, ow, R, ?_⟩
    rw [hm]
    exact fun H' ρ' st s => P H' ρ' st.toS.drop s
  | ok d S1 =>
    intro P
    refine ⟨B, env, S, ρ, ow, R, ?_⟩
    rw [hm]
    intro v H1 ρ1 st s1 r1
    obtain ⟨env', e, P1⟩ := lift_nx (o := store1 (true, .name i) d env) P
    obtain ⟨ds, rfl, hi, rfl⟩ := st1_own e
    obtain ⟨a, xs, rfl, h0, h1, hT, hA, l⟩ := r1 ds rfl
    have RB := R.block h0 st s1 (by rw [h1]; simp) hT
    refine P1 _ _ ρ1 _ (RB.putO hi (fun q => hA (.inl q)) hT h1 (l.aeq fun b q => ?_)) (SSt.own st.toS fun j b q => ?_)
    · rcases q with (q | q) | q | q
      · exact .inl (.inl q)
      · exact .inr q
      · exact .inl (.inr (.inl q))
      · exact .inl (.inr (.inr q))
    · by_cases z : j = i
      · rw [z, owP_same] at q; cases q; exact .inr h0
      · rw [owP_ne z] at q; exact .inl ⟨j, q⟩
/-! the other simple ones -/
theorem qs_expr {c : CE} {e : Expr} {pos : Pos} (hs : swapsWith e none pos.line X.env = pure false) (he : PE X e (iE G T E0 c)) : PS X (.Expr e pos) (iS G T fuel E0 (.expr c)) := by
  refine PS_weak (ps_expr he hs) fun K σ H h => ?_
  exact (oneS (ka := isB c) (ma := ev T c) (f := fun env _ => ret (.nx env)) h).mono fun x H1 ⟨B, env, S, ρ, ow, d, R, r, P⟩ => P σ H1 ρ ow R SSt.refl
theorem qs_ret {c : CE} {e : Expr} {pos : Pos} (nb : isB c = false) (he : PE X e (iE G T E0 c)) : PS X (.Return (some e) pos) (iS G T fuel E0 (.ret c)) := by
  refine PS_weak (ps_ret he) fun K σ H h => ?_
  refine (oneS (ka := isB c) (ma := ev T c) (f := fun _ d => ret (.rt d)) h).mono fun x H1 ⟨B, env, S, ρ, ow, d, R, r, P⟩ => ?_
  exact P x H1 ρ R.st SSt.refl.drop ((rV.toK nb r).aeq fun a q => q.elim .inl fun q => .inr (.inl q))
theorem qs_retN {pos : Pos} : PS X (.Return none pos) (iS G T fuel E0 (.ret .non)) := by
  refine PS_weak ps_retN fun K σ H ⟨B, env, S, ρ, ow, R, P⟩ => ?_
  exact P .non H ρ R.st SSt.refl.drop .non
theorem qs_rais (C : CtS G T Z E0 X sc) {c : Nat} {x m : Str} {k : Nat} {p p2 p3 pos : Pos} (hc : Z.CN[c]? = some x) (hg : glB sc x = true) : PS X (.Raise (some (.Call (.Name x p) [.Constant (.str m) k p2] [] p3)) none pos) (iS G T fuel E0 (.rais c m)) := by
  obtain ⟨g1, g2, ⟨b, n, i, bm, F, q⟩, r⟩ := C.exc c x hc
  obtain ⟨h1, h2, h3⟩ := C.ct.gl hg
  refine PS_weak (ps_raise C.ct.calm C.takes (pmk_own F q g1 g2 r h1 h2)) fun K σ H ⟨B, env, S, ρ, ow, R, P⟩ => ?_
  exact P H ρ SSt.refl.drop R.st
theorem qs_ite {t : CT} {a b : CSs} {c : Expr} {sa sb : List Stmt} {pos : Pos} (hc : PT X c (iT G T E0 t)) (ha : PSs X sa (iSs G T fuel E0 a)) (hb : PSs X sb (iSs G T fuel E0 b)) : PS X (.If c sa sb pos) (iS G T fuel E0 (.ite t a b)) := by
  refine PS_weak (ps_if hc ha hb) fun K σ H ⟨B, env, S, ρ, ow, R, P⟩ => ?_
  have P : PostS G E0 B ρ ow H ((evT T t env S).bind fun c => if c then exs T fuel a env else exs T fuel b env) K := P
  refine ⟨B, env, S, ρ, ow, R, (goS (rel := rEqv B ow) P).mono fun k H1 ⟨k', S1, ρ1, st, s1, e, P1⟩ => ?_⟩
  cases (show k = k' from e)
  cases k with
  | true => exact iteT ⟨B, env, S1, ρ1, ow, R.step st s1, P1⟩
  | false => exact iteF ⟨B, env, S1, ρ1, ow, R.step st s1, P1⟩
theorem qss_nil : PSs X [] (iSs G T fuel E0 .nil) := by
  refine PSs_weak pss_nil fun K σ H ⟨B, env, S, ρ, ow, R, P⟩ => ?_
  exact P σ H ρ ow R SSt.refl
theorem seqS {m : Env → M End} {f : Env → M End} {K : Ends} {σ : L2.St} {H : Hp} (h : iSm G E0 (fun env => bind (m env) fun e => match e with | .nx env' => f env' | .rt d => ret (.rt d)) K σ H) : iSm G E0 m { K with nx := iSm G E0 f K } σ H := by
  obtain ⟨B, env, S, ρ, ow, R, P⟩ := h
  refine ⟨B, env, S, ρ, ow, R, ?_⟩
  have P : PostS G E0 B ρ ow H ((m env S).bind fun e => match e with | .nx env' => f env' | .rt d => ret (.rt d)) K := P
  revert P
  cases m env S with
  | bad => exact id
  | exc c S1 => exact id
  | ok e S1 =>
    cases e with
    | rt d => exact id
    | nx env' => exact fun P σ' H' ρ' ow' R' st => ⟨B, env', S1, ρ', ow', R', PostS.later P st⟩
theorem qss_cons {s : CS} {ss : CSs} {st : Stmt} {sts : List Stmt} (h1 : PS X st (iS G T fuel E0 s)) (h2 : PSs X sts (iSs G T fuel E0 ss)) : PSs X (st :: sts) (iSs G T fuel E0 (.cons s ss)) :=
  PSs_weak (pss_cons h1 h2) fun K σ H h => seqS (m := ex T fuel s) (f := exs T fuel ss) h
theorem qss_frz {i : Nat} {ss : CSs} {sts : List Stmt} (h : PSs X sts (iSs G T fuel E0 ss)) : PSs X sts (iSs G T fuel E0 (.cons (.frz i) ss)) := by
  refine PSs_weak h fun K σ H h => ?_
  obtain ⟨B, env, S, ρ, ow, R, P⟩ := seqS (m := ex T fuel (.frz i)) (f := exs T fuel ss) h
  have P : PostS G E0 B ρ ow H ((match env[i]? with | some (.own ds) => ret (.nx (env.set i (.val (.list ds)))) | _ => ret (.nx env) : M End) S) { K with nx := iSm G E0 (exs T fuel ss) K } := P
  cases e : env[i]? with
  | none => rw [e] at P; exact P σ H ρ ow R SSt.refl
  | some s =>
    cases s with
    | un => rw [e] at P; exact P σ H ρ ow R SSt.refl
    | val d => rw [e] at P; exact P σ H ρ ow R SSt.refl
    | own ds =>
      rw [e] at P
      exact P σ H ρ _ (R.freeze e) (SSt.refl.own fun j a q => by
        by_cases z : j = i
        · rw [z, owP_same] at q; cases q
        · rw [owP_ne z] at q; exact .inl ⟨j, q⟩)
/-! own lists change -/
theorem pe_ownV (C : Ct G T Z E0 X sc (fnB sc)) {i : Nat} {x : Str} {p : Pos} (h : varB Z.N sc i x = true) : PE X (.Name x p) (tVar i) := pe_name C h
theorem qs_app (C : CtS G T Z E0 X sc) {i : Nat} {c : CE} {x : Str} {px apos cpos pos : Pos} {v : Expr} (hx : varB Z.N sc i x = true) (hl : (apos.endLine == cpos.line) = true) (hs : noStar v = true) (nb : isB c = false) (hv : PE X v (iE G T E0 c)) :
    PS X (.Expr (.Call (.Attribute (.Name x px) "append" apos) [v] [] cpos) pos) (iS G T fuel E0 (.app i c)) := by
  refine PS_weak (ps_expr (pe_bm F.plainAttrs_list F.slot_list_append F.type_list_append mt_append (pe_name C.ct hx) (pa_cons hv pa_nil (nostar hs)) rfl (by rw [nostar hs]; rfl) hl (nostar hs) rfl)) fun K σ H ⟨B, env, S, ρ, ow, R, P⟩ => ?_
  have P : PostS G E0 B ρ ow H ((match env[i]? with | some (.own ds) => bind (ev T c env) fun d => if sizeOk ds.length then ret (.nx (env.set i (.own (ds ++ [d])))) else bad | _ => bad : M End) S) K := P
  cases e : env[i]? with
  | none => rw [e] at P; exact P.elim
  | some s =>
    cases s with
    | un => rw [e] at P; exact P.elim
    | val d => rw [e] at P; exact P.elim
    | own ds =>
      rw [e] at P
      obtain ⟨a, xs, h1, h2, h3, h4⟩ := R.own i ds e
      refine ⟨.ref a, h1, .inl ⟨rfl, xs, SqL.of h3⟩, B, env, S, ρ, ow, R, (goS (rel := rV G (isB c) B ow) (m := ev T c env S) (f := fun d => if sizeOk ds.length then ret (.nx (env.set i (.own (ds ++ [d])))) else bad) P).mono fun y H1 ⟨d, S1, ρ1, st, s1, r, P1⟩ => ?_⟩
      have R1 := R.step st s1
      obtain ⟨a', xs', g1, g2, g3, g4⟩ := R1.own i ds e
      rw [h2] at g2; cases g2
      cases hz : sizeOk ds.length with
      | false => simp only [hz] at P1; exact P1.elim
      | true =>
        simp only [hz] at P1
        obtain ⟨R2, st2⟩ := R1.chg e h2 (g4.append (.cons (rV.toK nb r) .nil))
        refine ⟨a, xs', y, rfl, rfl, g3, ?_, P1 σ _ ρ1 ow R2 st2⟩
        have := sz_of hz
        rw [g4.length, sizeLine_eq]; omega
theorem qs_put (C : CtS G T Z E0 X sc) {i : Nat} {k c : CE} {x : Str} {px sp pos : Pos} {kx v : Expr} (hx : varB Z.N sc i x = true) (nb : isB c = false) (hsl : noSlice kx = true) (hsw : swapsWith v (some (.Subscript (.Name x px) kx sp)) pos.line X.env = pure false) (hv : PE X v (iE G T E0 c)) (hk : PE X kx (iE G T E0 k)) :
    PS X (.Assign [.Subscript (.Name x px) kx sp] v pos) (iS G T fuel E0 (.put i k c)) := by
  have asg : ∀ u, assign (.Subscript (.Name x px) kx sp) X.env u = (do
      let ov ← holding [u] (eval (.Name x px) X.env)
      let iv ← holding [u, ov] (eval kx X.env)
      standAt sp
      holding [u, ov, iv] (setItem ov iv u)
      release [u, ov, iv] []) := by
    intro u
    cases kx <;> first | rfl | (simp [noSlice] at hsl; done)
  refine PS_weak (ps_asg hv (pg_sub (pe_name C.ct hx) hk set_list asg) hsw rfl rfl) fun K σ H ⟨B, env, S, ρ, ow, R, P⟩ => ?_
  have P : PostS G E0 B ρ ow H ((match env[i]? with | some (.own ds) => bind (ev T c env) fun d => bind (ev T k env) fun x => (match x with | .int j => (match setitem ds j d with | some ds' => ret (.nx (env.set i (.own ds'))) | none => bad) | _ => bad) | _ => bad : M End) S) K := P
  cases e : env[i]? with
  | none => rw [e] at P; exact P.elim
  | some s =>
    cases s with
    | un => rw [e] at P; exact P.elim
    | val d => rw [e] at P; exact P.elim
    | own ds =>
      rw [e] at P
      obtain ⟨a, xs, h1, h2, h3, h4⟩ := R.own i ds e
      refine ⟨B, env, S, ρ, ow, R, (goS (rel := rV G (isB c) B ow) (m := ev T c env S) (f := fun d => bind (ev T k env) fun x => (match x with | .int j => (match setitem ds j d with | some ds' => ret (.nx (env.set i (.own ds'))) | none => bad) | _ => bad)) P).mono fun y H1 ⟨d, S1, ρ1, st, s1, r, P1⟩ => ?_⟩
      refine ⟨.ref a, h1, B, env, S1, ρ1, ow, R.step st s1, (goS (rel := rV G (isB k) B ow) (m := ev T k env S1) (f := fun x => (match x with | .int j => (match setitem ds j d with | some ds' => ret (.nx (env.set i (.own ds'))) | none => bad) | _ => bad)) P1).mono fun z H2 ⟨n, S2, ρ2, st2, s2, r2, P2⟩ => ?_⟩
      have R2 := (R.step st s1).step st2 s2
      obtain ⟨a', xs', g1, g2, g3, g4⟩ := R2.own i ds e
      rw [h2] at g2; cases g2
      cases n <;> try exact P2.elim
      rename_i j
      have P2 : PostS G E0 B ρ2 ow H2 ((match setitem ds j d with | some ds' => ret (.nx (env.set i (.own ds'))) | none => bad : M End) S2) K := P2
      cases hs : setitem ds j d with
      | none => rw [hs] at P2; exact P2.elim
      | some ds' =>
        rw [hs] at P2
        unfold setitem at hs
        obtain ⟨m, hm, rfl⟩ := Option.map_eq_some_iff.mp hs
        have dv : Den G (av B ρ2 ow) ρ2 H2 y d := Den.stp s1 st2 (rV.toK nb r)
        obtain ⟨R3, st3⟩ := R2.chg e h2 (DenL.set dv m g4)
        exact ⟨a, xs', j, m, rfl, r2.to1.int_inv, g3, by rw [g4.length]; exact hm, P2 σ _ ρ2 ow R3 st3⟩
/-! unpacking -/
theorem Rel.unp_own {B : Addr → Prop} {ρ : Rho} {ow : Ow} {H : Hp} : SSt ρ ow H ρ ow H := SSt.refl
theorem qs_unp {t : Tg} {c : CE} {tg v : Expr} {pos : Pos} (nb : isB c = false) (hsw : swapsWith v (some tg) pos.line X.env = pure false) (hst : swappedStores [tg] v X.env = pure none) (h1 : (assignEach [tg] X.env).map (·.2) = [assign tg X.env]) (hv : PE X v (iE G T E0 c)) (hg : PG X tg (iTg G t)) :
    PS X (.Assign [tg] v pos) (iS G T fuel E0 (.unp t c)) := by
  refine PS_weak (ps_asg hv hg hsw hst h1) fun K σ H h => ?_
  refine (oneS (ka := isB c) (ma := ev T c) (f := fun env d => match unpack t d env with | some env' => ret (.nx env') | none => bad) h).mono fun x H1 ⟨B, env, S, ρ, ow, d, R, r, P⟩ => ?_
  obtain ⟨env', e, P⟩ := lift_nx P
  exact ⟨B, env, S, ρ, ow, d, env', R, rV.toK nb r, e, fun σ' R' _ => P σ' H1 ρ ow R' SSt.refl⟩
end
end Q7

/-! Loops and parallel stores. -/
namespace Q7
open PySem L2
section
variable {G : Gb} {T : List Fn} {fuel : Nat} {Z : Names} {E0 : XK} {X : Cx} {sc : Scope}
theorem PostS.seq {B : Addr → Prop} {ρ : Rho} {ow : Ow} {H : Hp} {m : Res End} {f : Env → M End} {K : Ends} {N b c : L2.St → Hp → Prop} (P : PostS G E0 B ρ ow H (m.bind fun e => match e with | .nx env' => f env' | .rt d => ret (.rt d)) K)
    (h : ∀ env' S' σ' H' ρ' ow', Rel G B env' S' ρ' ow' σ' H' → SSt ρ ow H ρ' ow' H' → PostS G E0 B ρ' ow' H' (f env' S') K → N σ' H') : PostS G E0 B ρ ow H m { nx := N, rt := K.rt, bk := b, ct := c } := by
  cases m with
  | bad => exact P
  | exc c S1 => exact P
  | ok e S1 =>
    cases e with
    | rt d => exact P
    | nx env' => exact fun σ' H' ρ' ow' R' st => h env' S1 σ' H' ρ' ow' R' st (PostS.later P st)
theorem qs_for (C : CtS G T Z E0 X sc) {t : Tg} {it : CI} {b : CSs} {tg iter : Expr} {body : List Stmt} {pos : Pos} (nb : isBI it = false) (hset : ∀ x, foldedSetIterable iter X.env x = pure x) (hi : PI X tg iter (iI G T E0 X.K it)) (hg : PG X tg (iTg G t)) (hb : PSs X body (iSs G T fuel E0 b)) :
    PS X (.For tg iter body [] pos) (iS G T fuel E0 (.for_ t it b)) := by
  refine PS_weak (ps_for C.own C.ct.calm hi hg hb hset) fun K σ H ⟨B, env, S, ρ, ow, R, P⟩ => ?_
  have P : PostS G E0 B ρ ow H ((evI T it env S).bind fun ds => forLoop (fun d env => match unpack t d env with | some env' => exs T fuel b env' | none => bad) ds env) K := P
  refine ⟨B, env, S, ρ, ow, R, (goS (rel := rI G X.K (isBI it) B ow) P).mono fun J H1 ⟨ds, S1, ρ1, st, s1, r1, P1⟩ => ?_⟩
  have R1 := R.step st s1
  rw [nb] at r1
  have r1 : ItD G X.K false (av B ρ1 ow) ρ1 H1 J ds := r1
  obtain ⟨Pw, Y, w, hst, hy⟩ := r1.walk
  refine for_it w (fun i σ' H' => ∃ env' S' ρ' ow', Rel G B env' S' ρ' ow' σ' H' ∧ SSt ρ1 ow H1 ρ' ow' H' ∧ PostS G E0 B ρ' ow' H' (forLoop (fun d env => match unpack t d env with | some env' => exs T fuel b env' | none => bad) (ds.drop i) env' S') K) ?_ ?_ ?_ ?_
  · exact ⟨env, S1, ρ1, ow, R1, SSt.refl, P1⟩
  · rintro i σ' H' hi ⟨env', S', ρ', ow', R', sst, P'⟩
    refine hst H' ⟨fun a xs e n na => sst.keep a _ e n fun j q => na rfl (.inr (.inr ⟨j, q⟩)), fun a xs e => sst.keep a _ e (fun q => by obtain ⟨o, e', m⟩ := s1.mu q; rw [e] at e'; cases e'; exact m) fun j q => by obtain ⟨ys, e'⟩ := R1.ownL q; rw [e] at e'; cases e'⟩
  · rintro i x σ' H' H'' hi ⟨env', S', ρ', ow', R', sst, P'⟩ y
    have hd : ds[i]? = some ds[i] := List.getElem?_eq_getElem hi
    rw [List.drop_eq_getElem_cons hi] at P'
    obtain ⟨stY, srY, dY⟩ := yd_ok (S := S') (A2 := av B ρ' ow') (hy i x H' H'' _ hd y) (fun q => q.kp (SSt.kp R1 sst)) R'.st (fun a q => .inr (.inl q))
    have P' : PostS G E0 B ρ' ow' H' (((match unpack t ds[i] env' with | some env' => exs T fuel b env' | none => bad : M End) S').bind fun e => match e with | .nx env' => forLoop (fun d env => match unpack t d env with | some env' => exs T fuel b env' | none => bad) (ds.drop (i + 1)) env' | .rt v => ret (.rt v)) K := P'
    cases eu : unpack t ds[i] env' with
    | none => rw [eu] at P'; exact P'.elim
    | some env2 =>
      rw [eu] at P'
      refine ⟨B, env', S', ρ', ow', ds[i], env2, R'.step stY srY, dY, eu, fun σ2 R2 _ => ⟨B, env2, S', ρ', ow', R2, ?_⟩⟩
      exact PostS.seq (PostS.later P' stY.toS) fun env3 S3 σ3 H3 ρ3 ow3 R3 st3 P3 => ⟨env3, S3, ρ3, ow3, R3, (sst.trans stY.toS).trans st3, P3⟩
  · rintro σ' H' ⟨env', S', ρ', ow', R', sst, P'⟩
    rw [List.drop_length] at P'
    exact P' σ' H' ρ' ow' R' SSt.refl
theorem qs_whl (C : CtS G T Z E0 X sc) {t : CT} {b : CSs} {c : Expr} {body : List Stmt} {pos : Pos} (hc : PT X c (iT G T E0 t)) (hb : PSs X body (iSs G T fuel E0 b)) : PS X (.While c body [] pos) (iS G T fuel E0 (.whl t b)) := by
  refine PS_weak (ps_while C.own hc hb) fun K σ H h => ?_
  refine ⟨fun m σ H => iSm G E0 (whileLoop (evT T t) (exs T fuel b) m) K σ H, ⟨fuel, h⟩, fun m σ H ⟨B, env, S, ρ, ow, R, P⟩ => ?_⟩
  cases m with
  | zero => exact P.elim
  | succ m =>
    have P : PostS G E0 B ρ ow H ((evT T t env S).bind fun c => if c then bind (exs T fuel b env) fun e => (match e with | .nx env' => whileLoop (evT T t) (exs T fuel b) m env' | .rt v => ret (.rt v)) else ret (.nx env)) K := P
    refine ⟨B, env, S, ρ, ow, R, (goS (rel := rEqv B ow) P).mono fun k H1 ⟨k', S1, ρ1, st, s1, e, P1⟩ => ?_⟩
    cases (show k = k' from e)
    have R1 := R.step st s1
    cases k with
    | false => exact iteF (P1 σ H1 ρ1 ow R1 SSt.refl)
    | true =>
      refine iteT ⟨fun σ H => iSm G E0 (whileLoop (evT T t) (exs T fuel b) m) K σ H, fun σ' H' q => ⟨m, Nat.lt_succ_self m, q⟩, B, env, S1, ρ1, ow, R1, ?_⟩
      exact PostS.seq (m := exs T fuel b env S1) (f := whileLoop (evT T t) (exs T fuel b) m) P1 fun env3 S3 σ3 H3 ρ3 ow3 R3 st3 P3 => ⟨B, env3, S3, ρ3, ow3, R3, P3⟩
/-! ### several values at once -/
inductive ParD (G : Gb) (H0 : Hp) (ρ : Rho) (H : Hp) : (Addr → Prop) → List Bool → List V → List D → List Addr → Prop
  | nil {A : Addr → Prop} : ParD G H0 ρ H A [] [] [] []
  | val {A : Addr → Prop} {bs : List Bool} {v : V} {vs : List V} {d : D} {ds : List D} {as : List Addr} : Den G (fun b => A b ∨ b ∈ as) ρ H v d → ParD G H0 ρ H A bs vs ds as → ParD G H0 ρ H A (false :: bs) (v :: vs) (d :: ds) as
  | own {A : Addr → Prop} {bs : List Bool} {a : Addr} {xs : List V} {es : List D} {vs : List V} {ds : List D} {as : List Addr} : H0 a = none → H a = some (.lst xs) → ¬ inT ρ a → ¬ A a → a ∉ as → DenL G (fun b => A b ∨ b = a ∨ b ∈ as) ρ H xs es →
      ParD G H0 ρ H (fun b => A b ∨ b = a) bs vs ds as → ParD G H0 ρ H A (true :: bs) (.ref a :: vs) (.list es :: ds) (a :: as)
  | odd {A : Addr → Prop} {bs : List Bool} {v : V} {vs : List V} {d : D} {ds : List D} {as : List Addr} : (∀ es, d ≠ .list es) → ParD G H0 ρ H A bs vs ds as → ParD G H0 ρ H A (true :: bs) (v :: vs) (d :: ds) as
theorem ParD.news {H0 : Hp} {ρ : Rho} {H : Hp} {A : Addr → Prop} {bs : List Bool} {vs : List V} {ds : List D} {as : List Addr} (h : ParD G H0 ρ H A bs vs ds as) : ∀ a ∈ as, H0 a = none ∧ H a ≠ none ∧ ¬ inT ρ a ∧ ¬ A a := by
  induction h with
  | nil => simp
  | val _ _ ih => exact ih
  | odd _ _ ih => exact ih
  | own h0 h1 h2 h3 _ _ _ ih =>
    intro b hb
    rcases List.mem_cons.mp hb with rfl | hb
    · exact ⟨h0, by rw [h1]; simp, h2, h3⟩
    · obtain ⟨q1, q2, q3, q4⟩ := ih b hb
      exact ⟨q1, q2, q3, fun z => q4 (.inl z)⟩
theorem ParD.start {H0 H1 : Hp} {ρ : Rho} {H : Hp} {A A' : Addr → Prop} {bs : List Bool} {vs : List V} {ds : List D} {as : List Addr} (h : ParD G H1 ρ H A bs vs ds as) (e : ∀ a, H1 a = none → H0 a = none) (ha : ∀ a, A' a ↔ A a) : ParD G H0 ρ H A' bs vs ds as := by
  induction h generalizing A' with
  | nil => exact .nil
  | val d _ ih => exact .val (d.aeq fun a q => q.imp (ha a).mp id) (ih ha)
  | odd d _ ih => exact .odd d (ih ha)
  | own h0 h1 h2 h3 h4 l _ ih => exact .own (e _ h0) h1 h2 (fun q => h3 ((ha _).mp q)) h4 (l.aeq fun a q => q.imp (ha a).mp id) (ih fun a => by rw [ha a])
def iPar (G : Gb) (T : List Fn) (E0 : XK) (bs : List Bool) (c : CEs) : TA := fun σ H Q => ∃ B env S ρ ow, Rel G B env S ρ ow σ H ∧ Post G E0 (fun ρ' H' vs ds => ∃ as, ParD G H ρ' H' (av B ρ' ow) bs vs ds as) ρ H (evs T c env S) Q
theorem qp_nil : PA X [] (iPar G T E0 [] .nil) := PA_weak pa_nil fun σ H Q ⟨B, env, S, ρ, ow, R, P⟩ => P [] H ρ Step.refl R.st ⟨[], .nil⟩
theorem qp_val {a : CE} {as : CEs} {bs : List Bool} {e : Expr} {es : List Expr} (hs : noStar e = true) (na : isB a = false) (ha : PE X e (iE G T E0 a)) (hr : PA X es (iPar G T E0 bs as)) : PA X (e :: es) (iPar G T E0 (false :: bs) (.cons a as)) := by
  refine PA_weak (pa_cons ha hr (nostar hs)) fun σ H Q ⟨B, env, S, ρ, ow, R, P⟩ => ?_
  have P : Post G E0 (fun ρ' H' vs ds => ∃ as, ParD G H ρ' H' (av B ρ' ow) (false :: bs) vs ds as) ρ H ((ev T a env S).bind fun x => bind (evs T as env) fun xs => ret (x :: xs)) Q := P
  refine ⟨B, env, S, ρ, ow, R, ((go1 (rel2 := rK G B ow) P).weak fun _ _ _ _ r => r.toK na).mono fun x H1 ⟨d, S1, ρ1, st, s1, r1, P1⟩ => ?_⟩
  refine ⟨B, env, S1, ρ1, ow, R.step st s1, (go1 (rel2 := fun ρ' H' vs ds => ∃ as, ParD G H1 ρ' H' (av B ρ' ow) bs vs ds as) P1).mono fun xs H2 ⟨ds, S2, ρ2, st2, s2, ⟨as', r2⟩, P2⟩ => ?_⟩
  refine P2 _ H2 ρ2 Step.refl s2 ⟨as', .val (Den.lift (fun a q => .inr (.inl q)) (fun a q => s1.mu q) st2 (fun b q => ?_) r1) (r2.start (fun a q => st.there a q) fun _ => Iff.rfl)⟩
  rcases q with q | q
  · exact av_step st2 b q
  · exact .inr (r2.news b q).1
theorem qp_own {a : CE} {as : CEs} {bs : List Bool} {e : Expr} {es : List Expr} (hs : noStar e = true) (ha : PE X e (iN G E0 (relF G) (ev T a))) (hr : PA X es (iPar G T E0 bs as)) : PA X (e :: es) (iPar G T E0 (true :: bs) (.cons a as)) := by
  refine PA_weak (pa_cons ha hr (nostar hs)) fun σ H Q ⟨B, env, S, ρ, ow, R, P⟩ => ?_
  have P : Post G E0 (fun ρ' H' vs ds => ∃ as, ParD G H ρ' H' (av B ρ' ow) (true :: bs) vs ds as) ρ H ((ev T a env S).bind fun x => bind (evs T as env) fun xs => ret (x :: xs)) Q := P
  refine ⟨B, env, S, ρ, ow, R, (go1 (rel2 := relF G B ow H) P).mono fun x H1 ⟨d, S1, ρ1, st, s1, r1, P1⟩ => ?_⟩
  by_cases hl : ∃ ys, d = .list ys
  · obtain ⟨ys, rfl⟩ := hl
    obtain ⟨p, us, rfl, h0, h1, hT, hA, l⟩ := r1 ys rfl
    have RB := R.block h0 st s1 (by rw [h1]; simp) hT
    refine ⟨fun b => B b ∨ b = p, env, S1, ρ1, ow, RB, (go1 (rel2 := fun ρ' H' vs ds => ∃ as, ParD G H1 ρ' H' (av (fun b => B b ∨ b = p) ρ' ow) bs vs ds as) P1).mono fun xs H2 ⟨ds, S2, ρ2, st2, s2, ⟨as', r2⟩, P2⟩ => ?_⟩
    have hTp : ¬ inT ρ2 p := fun q => by
      rcases st2.newT p q with q | q
      · exact hT q
      · rw [h1] at q; cases q
    have hAp : ¬ av B ρ2 ow p := fun q => by
      rcases av_step st2 p q with q | q
      · exact hA q
      · rw [h1] at q; cases q
    refine P2 _ H2 ρ2 Step.refl s2 ⟨p :: as', .own h0 (st2.keep _ _ h1 hT) hTp hAp (fun q => ?_) (DenL.lift (fun a q => .inl (.inr (.inl q))) (fun a q => s1.mu q) st2 (fun b q => ?_) l) (r2.start (fun a q => st.there a q) fun a => ?_)⟩
    · have := (r2.news p q).1
      rw [h1] at this; cases this
    · rcases q with q | q | q
      · exact (av_step st2 b q).imp .inl id
      · exact .inl (.inr q)
      · exact .inr (r2.news b q).1
    · unfold av
      constructor
      · rintro ((q | q | q) | q)
        · exact .inl (.inl q)
        · exact .inr (.inl q)
        · exact .inr (.inr q)
        · exact .inl (.inr q)
      · rintro ((q | q) | q | q)
        · exact .inl (.inl q)
        · exact .inr q
        · exact .inl (.inr (.inl q))
        · exact .inl (.inr (.inr q))
  · refine ⟨B, env, S1, ρ1, ow, R.step st s1, (go1 (rel2 := fun ρ' H' vs ds => ∃ as, ParD G H1 ρ' H' (av B ρ' ow) bs vs ds as) P1).mono fun xs H2 ⟨ds, S2, ρ2, st2, s2, ⟨as', r2⟩, P2⟩ => ?_⟩
    exact P2 _ H2 ρ2 Step.refl s2 ⟨as', .odd (fun es q => hl ⟨es, q⟩) (r2.start (fun a q => st.there a q) fun _ => Iff.rfl)⟩
/-! stores, one behind the other -/
theorem Rel.bmono {B B' : Addr → Prop} {env : Env} {S : Sta} {ρ : Rho} {ow : Ow} {σ : L2.St} {H : Hp} (R : Rel G B env S ρ ow σ H) (h : ∀ a, B' a → B a) : Rel G B' env S ρ ow σ H := by
  have less : ∀ a, av B' ρ ow a → av B ρ ow a := fun a q => q.imp (h a) id
  refine ⟨R.len, R.st, fun a q => R.bl a (h a q), ?_, ?_, R.ow_of, R.inj, fun i a q => ⟨fun z => (R.disj i a q).1 (h a z), (R.disj i a q).2⟩⟩
  · intro i d e
    obtain ⟨v, h1, h2⟩ := R.slot i d e
    exact ⟨v, h1, h2.aeq less⟩
  · intro i ds e
    obtain ⟨a, xs, h1, h2, h3, h4⟩ := R.own i ds e
    exact ⟨a, xs, h1, h2, h3, h4.aeq less⟩
/-- the reading of one store -/
def iSt (G : Gb) (H0 : Hp) (ts : List (Bool × Tg)) : TGs := fun vs σ H Q => ∃ B env S ρ ow A as ds env', Rel G (fun b => B b ∨ b ∈ as) env S ρ ow σ H ∧ (∀ a, av B ρ ow a → A a) ∧ ParD G H0 ρ H A (ts.map (·.1)) vs ds as ∧ storePar ts ds env = some env' ∧
  ∀ σ' ow', Rel G B env' S ρ ow' σ' H → (∀ i a, ow' i = some a → (∃ j, ow j = some a) ∨ a ∈ as) → Q σ' H
theorem st_cons {H0 : Hp} {b : Bool} {t : Tg} {ts : List (Bool × Tg)} {v : V} {vs : List V} {σ : L2.St} {H : Hp} {Q : L2.St → Hp → Prop} (h : iSt G H0 ((b, t) :: ts) (v :: vs) σ H Q) :
    (∃ i, t = .name i ∧ iSt G H0 ts vs (σ.set i (some v)) H Q) ∨ (∃ us, t = .tup us ∧ iTg G t v σ H fun σ' H' => iSt G H0 ts vs σ' H' Q) := by
  obtain ⟨B, env, S, ρ, ow, A, as, ds, env', R, hA, pd, hs, q⟩ := h
  have pd : ParD G H0 ρ H A (b :: ts.map (·.1)) (v :: vs) ds as := pd
  cases ds with
  | nil => cases pd
  | cons d ds =>
  simp only [storePar] at hs
  cases h1 : store1 (b, t) d env with
  | none => rw [h1] at hs; cases hs
  | some env1 =>
    rw [h1] at hs
    cases t with
    | name i =>
      refine .inl ⟨i, rfl, ?_⟩
      cases pd with
      | val dv pr =>
        obtain ⟨hi, rfl⟩ := st1_val h1
        have R1 := R.put hi (dv.aeq fun a q => by
          rcases q with (q | q) | q | q
          · exact .inl (hA a (.inl q))
          · exact .inr q
          · exact .inl (hA a (.inr (.inl q)))
          · exact .inl (hA a (.inr (.inr q))))
        refine ⟨B, _, S, ρ, _, A, as, ds, env', R1, fun a q => hA a (av_less a q), pr, hs, fun σ' ow' R' ho => q σ' ow' R' fun j a hj => ?_⟩
        rcases ho j a hj with ⟨k, z⟩ | z
        · by_cases e : k = i
          · rw [e, owP_same] at z; cases z
          · rw [owP_ne e] at z; exact .inl ⟨k, z⟩
        · exact .inr z
      | odd hd pr =>
        obtain ⟨xs, rfl, _⟩ := st1_own h1
        exact absurd rfl (hd xs)
      | @own _ _ a xs es _ _ as' h0 he hT hAa hna l pr =>
        obtain ⟨ys, e, hi, rfl⟩ := st1_own h1
        cases e
        have RO : Rel G (fun b => (B b ∨ b ∈ as') ∨ b = a) env S ρ ow σ H := R.bmono fun c q => by
          rcases q with (q | q) | q
          · exact .inl q
          · exact .inr (List.mem_cons_of_mem _ q)
          · exact .inr (by rw [q]; exact List.mem_cons_self)
        have R1 := RO.putO hi (fun z => z.elim (fun z => hAa (hA a (.inl z))) hna) hT he (l.aeq fun c q => by
          rcases q with ((q | q) | q) | q | q
          · exact .inl (hA c (.inl q))
          · exact .inr (.inr q)
          · exact .inr (.inl q)
          · exact .inl (hA c (.inr (.inl q)))
          · exact .inl (hA c (.inr (.inr q))))
        refine ⟨B, _, S, ρ, _, _, as', ds, env', R1, fun c q => ?_, pr, hs, fun σ' ow' R' ho => q σ' ow' R' fun j c hj => ?_⟩
        · rcases q with q | q | ⟨k, q⟩
          · exact .inl (hA c (.inl q))
          · exact .inl (hA c (.inr (.inl q)))
          · by_cases e : k = i
            · rw [e, owP_same] at q; cases q; exact .inr rfl
            · rw [owP_ne e] at q; exact .inl (hA c (.inr (.inr ⟨k, q⟩)))
        · rcases ho j c hj with ⟨k, z⟩ | z
          · by_cases e : k = i
            · rw [e, owP_same] at z; cases z; exact .inr List.mem_cons_self
            · rw [owP_ne e] at z; exact .inl ⟨k, z⟩
          · exact .inr (List.mem_cons_of_mem _ z)
    | tup us =>
      refine .inr ⟨us, rfl, ?_⟩
      cases b with
      | true => simp [store1] at h1
      | false =>
        cases pd with
        | val dv pr =>
          have h1 : unpack (.tup us) d env = some env1 := h1
          refine ⟨_, env, S, ρ, ow, d, env1, R, dv.aeq fun a q => ?_, h1, fun σ1 R1 _ => ⟨B, env1, S, ρ, ow, A, as, ds, env', R1, hA, pr, hs, q⟩⟩
          rcases q with (q | q) | q | q
          · exact .inl (hA a (.inl q))
          · exact .inr q
          · exact .inl (hA a (.inr (.inl q)))
          · exact .inl (hA a (.inr (.inr q)))
theorem st_nil {H0 : Hp} {σ : L2.St} {H : Hp} {Q : L2.St → Hp → Prop} {vs : List V} (h : iSt G H0 [] vs σ H Q) : vs = [] ∧ Q σ H := by
  obtain ⟨B, env, S, ρ, ow, A, as, ds, env', R, hA, pd, hs, q⟩ := h
  cases pd
  cases hs
  exact ⟨rfl, q σ ow (R.bmono fun a q => .inl q) fun i a z => .inl ⟨i, z⟩⟩
theorem st_len {H0 : Hp} {ts : List (Bool × Tg)} {vs : List V} {σ : L2.St} {H : Hp} {Q : L2.St → Hp → Prop} (h : iSt G H0 ts vs σ H Q) : vs.length = ts.length := by
  obtain ⟨B, env, S, ρ, ow, A, as, ds, env', R, hA, pd, hs, q⟩ := h
  have : ∀ {A : Addr → Prop} {bs : List Bool} {vs : List V} {ds : List D} {as : List Addr}, ParD G H0 ρ H A bs vs ds as → vs.length = bs.length := by
    intro A bs vs ds as p
    induction p with
    | nil => rfl
    | val _ _ ih => simp [ih]
    | odd _ _ ih => simp [ih]
    | own _ _ _ _ _ _ _ ih => simp [ih]
  rw [this pd, List.length_map]
theorem goS0 {α β : Type} {B : Addr → Prop} {ρ : Rho} {ow : Ow} {H : Hp} {K : Ends} {rel : Rho → Hp → β → α → Prop} {m : Res α} {f : α → Sta → Res End} (P : PostS G E0 B ρ ow H (m.bind f) K) :
    Post G E0 rel ρ H m (fun b H1 => ∃ a S1 ρ1, Step ρ H ρ1 H1 ∧ StRel ρ1 S1 H1 ∧ rel ρ1 H1 b a ∧ PostS G E0 B ρ ow H (f a S1) K) := by
  cases m with
  | ok a S1 => exact fun b H1 ρ1 st s1 r1 => ⟨a, S1, ρ1, st, s1, r1, P⟩
  | exc c S1 => exact fun H' ρ' st s => P H' ρ' st.toS.drop s
  | bad => exact P
theorem ParD.up {S : Sta} {H0 : Hp} {ρ : Rho} {H : Hp} {p : Addr} {o : HO} {A : Addr → Prop} {bs : List Bool} {vs : List V} {ds : List D} {as : List Addr} (h : ParD G H0 ρ H A bs vs ds as) (hT : ∀ a, inT ρ a → A a) (R : StRel ρ S H) (n : H p = none) : ParD G H0 ρ (upd H p o) A bs vs ds as := by
  induction h with
  | nil => exact .nil
  | val d _ ih => exact .val (d.up (fun a q => .inl (hT a q)) R n) (ih hT)
  | odd d _ ih => exact .odd d (ih hT)
  | own h0 h1 h2 h3 h4 l _ ih => exact .own h0 (by rw [upd_ne (ne_of_none h1 n)]; exact h1) h2 h3 h4 (l.up (fun a q => .inl (hT a q)) R n) (ih fun a q => .inl (hT a q))
/-- what the values of a parallel store lead to -/
theorem t_par {ts : List (Bool × Tg)} {c : CEs} {K : Ends} {σ : L2.St} {H : Hp} (h : iS G T fuel E0 (.par ts c) K σ H) : iPar G T E0 (ts.map (·.1)) c σ H fun vs H1 => iSt G H ts vs σ H1 K.nx ∧ ∀ p, H1 p = none → iSt G H ts vs σ (upd H1 p (.tup vs)) K.nx := by
  obtain ⟨B, env, S, ρ, ow, R, P⟩ := h
  have P : PostS G E0 B ρ ow H ((evs T c env S).bind fun ds => match storePar ts ds env with | some env' => ret (.nx env') | none => bad) K := P
  refine ⟨B, env, S, ρ, ow, R, (goS0 P).mono fun vs H1 ⟨ds, S1, ρ1, st, s1, ⟨as, pd⟩, P1⟩ => ?_⟩
  obtain ⟨env', e, P1⟩ := lift_nx P1
  have rb : Rel G (fun b => B b ∨ b ∈ as) env S1 ρ1 ow σ H1 := by
    have R1 := R.step st s1
    have h2 : ∀ a, av (fun b => B b ∨ b ∈ as) ρ1 ow a → av B ρ ow a ∨ H a = none := by
      rintro a ((q | q) | q | q)
      · exact .inl (.inl q)
      · exact .inr (pd.news a q).1
      · exact (st.newT a q).imp (fun z => .inr (.inl z)) id
      · exact .inl (.inr (.inr q))
    refine ⟨R1.len, s1, ?_, ?_, ?_, R1.ow_of, R1.inj, ?_⟩
    · rintro a (q | q)
      · exact R1.bl a q
      · exact (pd.news a q).2.1
    · intro i d he
      obtain ⟨v, g1, g2⟩ := R.slot i d he
      exact ⟨v, g1, g2.lift (fun a q => .inr (.inl q)) (fun a q => R.st.mu q) st h2⟩
    · intro i es he
      obtain ⟨a, xs, g1, g2, g3, g4⟩ := R.own i es he
      exact ⟨a, xs, g1, g2, st.keep a _ g3 (R.disj i a g2).2, g4.lift (fun a q => .inr (.inl q)) (fun a q => R.st.mu q) st h2⟩
    · intro i a he
      refine ⟨fun q => q.elim (R1.disj i a he).1 fun q => ?_, (R1.disj i a he).2⟩
      exact R.tr a (.inr (.inr ⟨i, he⟩)) (pd.news a q).1
  have fin : ∀ H2, Step ρ1 H1 ρ1 H2 → StRel ρ1 S1 H2 → ParD G H ρ1 H2 (av B ρ1 ow) (ts.map (·.1)) vs ds as → iSt G H ts vs σ H2 K.nx := fun H2 st2 s2 pd2 => by
    refine ⟨B, env, S1, ρ1, ow, av B ρ1 ow, as, ds, env', rb.step st2 s2, fun a q => q, pd2, e, fun σ' ow' R' ho => P1 σ' H2 ρ1 ow' R' ?_⟩
    exact SSt.own (st.trans st2).toS fun i a z => (ho i a z).elim .inl fun z => .inr (pd.news a z).1
  exact ⟨fin H1 Step.refl s1 pd, fun p hp => fin _ (Step.new hp) (s1.new hp) (pd.up (fun a q => .inr (.inl q)) s1 hp)⟩
/-! stored from the right, all of them names -/
theorem qs_par2 (C : CtS G T Z E0 X sc) {b1 b2 : Bool} {i j : Nat} {cs : CEs} {x y : Str} {e1 e2 : Expr} {px py pt pos : Pos} {kt k2 : Nat} {pt2 : Pos} (hi : Z.N[i]? = some x) (hj : Z.N[j]? = some y) (hij : i ≠ j) (hx : sc.names.lookup x = some .local) (hy : sc.names.lookup y = some .local)
    (ha : PA X [e1, e2] (iPar G T E0 [b1, b2] cs)) (hw : swappedStores [.Tuple [.Name x px, .Name y py] kt pt] (.Tuple [e1, e2] k2 pt2) X.env = pure (some [x, y])) :
    PS X (.Assign [.Tuple [.Name x px, .Name y py] kt pt] (.Tuple [e1, e2] k2 pt2) pos) (iS G T fuel E0 (.par [(b1, .name i), (b2, .name j)] cs)) := by
  refine PS_weak (ps_par C.ct.calm C.ct.nd (by rw [C.ct.N]; exact hi) (by rw [C.ct.N]; exact hj) hij (by rw [C.ct.sc]; exact hx) (by rw [C.ct.sc]; exact hy) ha hw) fun K σ H h => ?_
  obtain ⟨B, env, S, ρ, ow, R, P⟩ := t_par h
  refine ⟨B, env, S, ρ, ow, R, P.mono fun vs H1 ⟨q, _⟩ => ?_⟩
  have hl := st_len q
  rcases vs with _ | ⟨v, _ | ⟨w, _ | ⟨u, vs⟩⟩⟩ <;> first | (simp at hl; done) | skip
  refine ⟨v, w, rfl, ?_⟩
  rcases st_cons q with ⟨i', e, q⟩ | ⟨us, e, _⟩
  · cases e
    rcases st_cons q with ⟨j', e, q⟩ | ⟨us, e, _⟩
    · cases e
      exact (st_nil q).2
    · cases e
  · cases e
theorem qs_par3 (C : CtS G T Z E0 X sc) {b1 b2 b3 : Bool} {i j l : Nat} {cs : CEs} {x y z : Str} {e1 e2 e3 : Expr} {px py pz pt pos : Pos} {kt k2 : Nat} {pt2 : Pos} (hi : Z.N[i]? = some x) (hj : Z.N[j]? = some y) (hl : Z.N[l]? = some z) (hij : i ≠ j) (hil : i ≠ l) (hjl : j ≠ l) (hx : sc.names.lookup x = some .local) (hy : sc.names.lookup y = some .local) (hz : sc.names.lookup z = some .local)
    (ha : PA X [e1, e2, e3] (iPar G T E0 [b1, b2, b3] cs)) (hw : swappedStores [.Tuple [.Name x px, .Name y py, .Name z pz] kt pt] (.Tuple [e1, e2, e3] k2 pt2) X.env = pure (some [x, y, z])) :
    PS X (.Assign [.Tuple [.Name x px, .Name y py, .Name z pz] kt pt] (.Tuple [e1, e2, e3] k2 pt2) pos) (iS G T fuel E0 (.par [(b1, .name i), (b2, .name j), (b3, .name l)] cs)) := by
  refine PS_weak (ps_par3 C.ct.calm C.ct.nd (by rw [C.ct.N]; exact hi) (by rw [C.ct.N]; exact hj) (by rw [C.ct.N]; exact hl) hij hil hjl (by rw [C.ct.sc]; exact hx) (by rw [C.ct.sc]; exact hy) (by rw [C.ct.sc]; exact hz) ha hw) fun K σ H h => ?_
  obtain ⟨B, env, S, ρ, ow, R, P⟩ := t_par h
  refine ⟨B, env, S, ρ, ow, R, P.mono fun vs H1 ⟨q, _⟩ => ?_⟩
  have hl := st_len q
  rcases vs with _ | ⟨v, _ | ⟨w, _ | ⟨u, _ | ⟨u4, vs⟩⟩⟩⟩ <;> first | (simp at hl; done) | skip
  refine ⟨v, w, u, rfl, ?_⟩
  rcases st_cons q with ⟨i', e, q⟩ | ⟨us, e, _⟩
  · cases e
    rcases st_cons q with ⟨j', e, q⟩ | ⟨us, e, _⟩
    · cases e
      rcases st_cons q with ⟨j', e, q⟩ | ⟨us, e, _⟩
      · cases e
        exact (st_nil q).2
      · cases e
    · cases e
  · cases e
/-! stored from the left, out of a pair -/
theorem PG_or2 {e : Expr} {t t' : TG} (h : PG X e t) (w : ∀ v σ H Q, t' v σ H Q → t v σ H Q) : PG X e t' := PG_weak h w
theorem pgs_st (C : Ct G T Z E0 X sc (fnB sc)) {H0 : Hp} : ∀ {ts : List (Bool × Tg)} {tgs : List Expr}, tgs.length = ts.length → (∀ (k : Nat) t e, ts[k]? = some t → tgs[k]? = some e → chkG Z sc t.2 e = true ∧ tgFn Z.N sc t.2 = true) → PGs X tgs (iSt G H0 ts)
  | [], [], _, _ => PGs_weak pgs_nil fun v σ H Q h => st_nil h
  | (b, t) :: ts, e :: es, hl, h => by
    obtain ⟨h1, h2⟩ := h 0 (b, t) e rfl rfl
    have pr := pgs_st C (H0 := H0) (ts := ts) (tgs := es) (by simpa using hl) fun k t e q1 q2 => h (k + 1) t e q1 q2
    cases t with
    | name i =>
      obtain ⟨x, p, rfl, g1, g2⟩ := chkG_name h1
      simp only [tgFn, g1] at h2
      refine PGs_weak (pgs_cons (pg_name C.nd (by rw [C.N]; exact g1) (C.loc g2) (C.fs x h2)) pr rfl) fun vs σ H Q q => ?_
      cases vs with
      | nil => have := st_len q; simp at this
      | cons v vs =>
        rcases st_cons q with ⟨i', e, q⟩ | ⟨us, e, _⟩
        · cases e; exact ⟨v, vs, rfl, q⟩
        · cases e
    | tup us =>
      refine PGs_weak (pgs_cons (pg_of C (fun _ _ _ q => q) h1 h2) pr (by rw [plain_each h1]; rfl)) fun vs σ H Q q => ?_
      cases vs with
      | nil => have := st_len q; simp at this
      | cons v vs =>
        rcases st_cons q with ⟨i', e, q⟩ | ⟨us, e, q⟩
        · cases e
        · exact ⟨v, vs, rfl, q⟩
  | [], _ :: _, hl, _ => by simp at hl
  | _ :: _, [], hl, _ => by simp at hl
end
end Q7

/-! Which way a store takes; the checker of statements. -/
namespace Q7
open PySem L2
def isOwnK : NameKind → Bool
  | .local | .cell => true
  | _ => false
/-- is the list given to the name as it is made? -/
def swLC (sc : Scope) (x : Str) (px : Pos) : Expr → Bool
  | .ListComp _ _ scope p => (sc.names.lookup x == some .local) && (px.line == p.line) && !(scope.names.any fun y => (y.1 == x) && isOwnK y.2)
  | _ => false
def noSD : Expr → Bool
  | .SetComp _ _ _ _ | .DictComp _ _ _ _ _ => false
  | _ => true
def isLC : Expr → Bool
  | .ListComp _ _ _ _ => true
  | _ => false
theorem sw_name {env : PySem.Env} {v : Expr} {x : Str} {px : Pos} {n : Nat} (hk : env.scope.kind = .function) (hv : noSD v = true) : swapsWith v (some (.Name x px)) n env = pure (swLC env.scope x px v) := by
  cases v <;> first | rfl | (simp [noSD] at hv; done) | skip
  rename_i e g scope p
  unfold swapsWith swLC
  have hb : env.blockKind = .function := by unfold Env.blockKind; rw [hk]; rfl
  simp only [hb, Env.kindOf, Expr.pos]
  congr 2
  refine congrArg (fun f => !(scope.names.any f)) (funext fun y => ?_)
  obtain ⟨a, k⟩ := y
  cases k <;> simp [isOwnK] <;> rfl
theorem sw_other {env : PySem.Env} {v tg : Expr} {n : Nat} (hv : noSD v = true) (ht : ∀ x p, tg ≠ .Name x p) : swapsWith v (some tg) n env = pure false := by
  cases v <;> first | rfl | (simp [noSD] at hv; done) | skip
  cases tg <;> first | rfl | (exact absurd rfl (ht _ _))
theorem sw_none {env : PySem.Env} {v : Expr} {n : Nat} (hv : noSD v = true) (hl : isLC v = false) : swapsWith v none n env = pure false := by
  cases v <;> first | rfl | (simp [noSD] at hv; done) | (simp [isLC] at hl; done)
/-! parallel stores -/
def locN (sc : Scope) (line : Nat) : Expr → Bool
  | .Name x p => (sc.names.lookup x == some .local) && (p.line == line)
  | _ => false
def isTup : Expr → Bool
  | .Tuple _ _ _ => true
  | _ => false
theorem stores_not {env : PySem.Env} {tg v : Expr} (h : isTup v = false) : swappedStores [tg] v env = pure none := by
  cases v <;> first | (simp [isTup] at h; done) | (cases tg <;> rfl)
/-- surely not swapped -/
def noneB (sc : Scope) (tgs vs : List Expr) : Bool := decide (4 ≤ tgs.length) || (vs.all (foldedForSure 8)) || (tgs.any fun e => !locN sc ((tgs.head?.map (·.pos.line)).getD 0) e)
theorem filterMap_lt {α β : Type} {f : α → Option β} : ∀ {l : List α}, (∃ a ∈ l, f a = none) → (l.filterMap f).length < l.length
  | [], ⟨a, h, _⟩ => by cases h
  | b :: l, ⟨a, h, e⟩ => by
    rw [List.filterMap_cons]
    rcases List.mem_cons.mp h with rfl | h
    · rw [e]
      have := List.length_filterMap_le f l
      simp only [List.length_cons]; omega
    · have ih := filterMap_lt ⟨a, h, e⟩
      split <;> simp only [List.length_cons] <;> omega
theorem stores_none {env : PySem.Env} {tgs vs : List Expr} {k k2 : Nat} {p p2 : Pos} (h : noneB env.scope tgs vs = true) : swappedStores [.Tuple tgs k p] (.Tuple vs k2 p2) env = pure none := by
  unfold swappedStores
  simp only []
  split
  · rfl
  · rename_i h1
    split
    · rfl
    · split
      · rfl
      · rename_i h3
        split
        · rfl
        · rename_i h4
          exfalso
          simp only [noneB, Bool.or_eq_true, decide_eq_true_eq] at h
          rcases h with (h | h) | h
          · apply h1
            have a : (tgs.length == 2) = false := by simp; omega
            have b : (tgs.length == 3) = false := by simp; omega
            simp [a, b]
          · exact h4 h
          · apply h3
            obtain ⟨e, he, hn⟩ := List.any_eq_true.mp h
            have := filterMap_lt (f := fun x => match x with
              | .Name id pos => if (env.kindOf id == some .local && pos.line == (tgs.head?.map (·.pos.line)).getD 0) = true then some id else none
              | _ => none) (l := tgs) ⟨e, he, ?_⟩
            · simp only [Bool.or_eq_true, bne_iff_ne, ne_eq]
              left
              exact Nat.ne_of_lt this
            · cases e <;> first | rfl | skip
              simp only [locN, Bool.not_eq_true'] at hn
              simp only [Env.kindOf, hn]
              rfl
def swapB (sc : Scope) (tgs vs : List Expr) : Bool := (vs.all noStar) && (tgs.all (locN sc ((tgs.head?.map (·.pos.line)).getD 0))) && !(vs.all (foldedForSure 8)) && !(vs.all (constantsAlone 8))
theorem star_any : ∀ {vs : List Expr}, vs.all noStar = true → (vs.any fun | .Starred .. => true | _ => false) = false
  | [], _ => rfl
  | v :: vs, h => by
    simp only [List.all_cons, Bool.and_eq_true] at h
    rw [List.any_cons, star_any h.2, Bool.or_false]
    cases v <;> first | rfl | (simp [noStar] at h; done)
theorem stores_two {env : PySem.Env} {x y : Str} {px py : Pos} {e1 e2 : Expr} {k k2 : Nat} {p p2 : Pos} (hk : env.scope.kind = .function) (hxy : x ≠ y) (h : swapB env.scope [.Name x px, .Name y py] [e1, e2] = true) : swappedStores [.Tuple [.Name x px, .Name y py] k p] (.Tuple [e1, e2] k2 p2) env = pure (some [x, y]) := by
  have hb : env.blockKind = .function := by unfold Env.blockKind; rw [hk]; rfl
  simp only [swapB, Bool.and_eq_true, Bool.not_eq_true'] at h
  obtain ⟨⟨⟨h1, h2⟩, h3⟩, h4⟩ := h
  have h5 := star_any h1
  simp only [List.all_cons, List.all_nil, Bool.and_true, locN, Bool.and_eq_true] at h2
  have n1 : (y == x) = false := by simpa using Ne.symm hxy
  unfold swappedStores
  simp only []
  rw [if_neg (by rw [hb]; simp)]
  split
  · rename_i q
    exact absurd (h5.symm.trans q) Bool.false_ne_true
  rw [if_neg ?_, if_neg (by rw [h3]; simp), if_neg (by rw [h4]; simp)]
  · simp only [List.filterMap_cons, List.filterMap_nil, Env.kindOf, h2.1.1, h2.1.2, h2.2.1, h2.2.2, Bool.and_self, if_true]
  · simp only [List.filterMap_cons, List.filterMap_nil, Env.kindOf, h2.1.1, h2.1.2, h2.2.1, h2.2.2, Bool.and_self, if_true]
    simp [List.eraseDups, List.eraseDupsBy, List.eraseDupsBy.loop, n1]
theorem stores_three {env : PySem.Env} {x y z : Str} {px py pz : Pos} {e1 e2 e3 : Expr} {k k2 : Nat} {p p2 : Pos} (hk : env.scope.kind = .function) (hxy : x ≠ y) (hxz : x ≠ z) (hyz : y ≠ z) (h : swapB env.scope [.Name x px, .Name y py, .Name z pz] [e1, e2, e3] = true) : swappedStores [.Tuple [.Name x px, .Name y py, .Name z pz] k p] (.Tuple [e1, e2, e3] k2 p2) env = pure (some [x, y, z]) := by
  have hb : env.blockKind = .function := by unfold Env.blockKind; rw [hk]; rfl
  simp only [swapB, Bool.and_eq_true, Bool.not_eq_true'] at h
  obtain ⟨⟨⟨h1, h2⟩, h3⟩, h4⟩ := h
  have h5 := star_any h1
  simp only [List.all_cons, List.all_nil, Bool.and_true, locN, Bool.and_eq_true] at h2
  have n1 : (y == x) = false := by simpa using Ne.symm hxy
  have n2 : (z == x) = false := by simpa using Ne.symm hxz
  have n3 : (z == y) = false := by simpa using Ne.symm hyz
  unfold swappedStores
  simp only []
  rw [if_neg (by rw [hb]; simp)]
  split
  · rename_i q
    exact absurd (h5.symm.trans q) Bool.false_ne_true
  rw [if_neg ?_, if_neg (by rw [h3]; simp), if_neg (by rw [h4]; simp)]
  · simp only [List.filterMap_cons, List.filterMap_nil, Env.kindOf, h2.1.1, h2.1.2, h2.2.1.1, h2.2.1.2, h2.2.2.1, h2.2.2.2, Bool.and_self, if_true]
  · simp only [List.filterMap_cons, List.filterMap_nil, Env.kindOf, h2.1.1, h2.1.2, h2.2.1.1, h2.2.1.2, h2.2.2.1, h2.2.2.2, Bool.and_self, if_true]
    simp [List.eraseDups, List.eraseDupsBy, List.eraseDupsBy.loop, n1, n2, n3]
end Q7

/-! An own exception is caught and held: try .. except C as n: y = n. -/
namespace Q7
open PySem PySem.Spec PyProof.Rows L2
section
variable {X : Cx} {pins : List (Addr × Obj)} {σ : L2.St} {H : Hp} {s : Shared}
/-- an object that lies in the heap is tracked from now on -/
theorem track_exc (I : L2.Inv X pins σ H s) {a C : Addr} {oe : Obj} {vs : Array Value} (ha : s.heap.get? a = some oe) (hz : Zc (.ref C) none oe) (hd : oe.data = .fields vs) (na : H a = none) (h0 : X.s_0.heap.get? a = none) (nl : a ≠ X.env.locals) (np : ∀ p ∈ X.pn ++ pins, p.1 ≠ a) :
    L2.Inv X pins σ (upd H a (ExT C a)) s where
  ok := I.ok
  os := I.os
  bare := I.bare
  base := ⟨I.base.keep, I.base.slot, fun b o e n hx => by rw [upd_ne (fun z => by rw [z, h0] at e; cases e)]; exact I.base.free b o e n hx, I.base.there,
    fun b xs e => by have := I.base.tups b xs e; rw [upd_ne (ne_of_none this na)]; exact this, fun b o u e => by have := I.base.frzs b o u e; rw [upd_ne (ne_of_none this na)]; exact this,
    fun b ps e => by
      obtain ⟨m, q⟩ := I.base.tbls b ps e
      exact ⟨m, by rw [upd_ne (ne_of_none q na)]; exact q⟩⟩
  loc := I.loc
  cell := I.cell
  free := by rw [upd_ne (Ne.symm nl)]; exact I.free
  freeC := fun z c e => by
    have hne : c ≠ a := fun q => by
      obtain ⟨v, o, ho, hc⟩ := I.cell z c e
      rw [q, ha] at ho
      cases ho
      rw [hd] at hc; cases hc
    rw [upd_ne hne]; exact I.freeC z c e
  pin := fun p hp => by
    obtain ⟨q1, q2, q3⟩ := I.pin p hp
    exact ⟨q1, by rw [upd_ne (np p hp)]; exact q2, q3⟩
  hok := L2.HOk.laidN I.hok (fun _ _ e => e) na ⟨⟨oe, vs, ha, hz, hd⟩, ⟨oe, ha⟩, fun _ _ ⟨o, v, q, r⟩ k => ⟨o, v, k o q, r⟩⟩
  len := I.len
/-- the wish: an exception of an own class that the clause takes -/
def wHold (K : PySem.W.Frag) (c : Value) (i j : Nat) (D : Ends) : WX := fun cls d σ H =>
  ∃ C, cls = .ref C ∧ d = none ∧ PySem.W.exmOne K cls c = some true ∧ ∀ a, H a = none → D.nx (((σ.set i (some (.ref a))).set j (some (.ref a))).set i none) (upd H a (ExT C a))
theorem ps_hold {x n y : Str} {c : Value} {i j : Nat} {body : List Stmt} {np py pe p2 hp pos : Pos} {tb : WX → TS} (hs : X.stack = X.env :: X.outer) (hf : X.env.frame = some X.env.locals) (hex : X.ex = []) (hN : X.N.Nodup) (hi : X.N[i]? = some n) (hj : X.N[j]? = some y)
    (ln : X.env.scope.names.lookup n = some .local) (ly : X.env.scope.names.lookup y = some .local) (dn : (n == ("__debug__" : Str)) = false) (cn : (n == ("__classdict__" : Str)) = false) (hc : L2.Names X x c)
    (hb : ∀ (W : WX) (pn : List (Addr × Obj)) (xe : Value → Shared → Prop), Takes (X.tr pn xe) W → PassesOwn (model X.prog X.w) X.A X.env xe → PSs (X.tr pn xe) body (tb W)) :
    PS X (.Try body [.ExceptHandler (some (.Name x np)) (some n) [.Assign [.Name y py] (.Name n pe) p2] hp] [] [] pos) (fun K σ H => tb (wHold X.K c i j K) K σ H) := by
  refine ⟨fun pins s σ H K I h => ?_⟩
  have good := I.ok
  have frames : X.A.frames = some (X.env :: X.outer) := by rw [good.frames, hs]
  refine wpAny_Try_except ?_
  have body_run := (hb (wHold X.K c i j K) (X.pn ++ pins) (fun e t1 => wpAny (model X.prog X.w) X.A (noteFrame e X.env) (fun _ t2 => wpAny (model X.prog X.w) X.A (setFlight e none) (fun _ t3 =>
    wpAny (model X.prog X.w) X.A (handleBy e X.env [.ExceptHandler (some (.Name x np)) (some n) [.Assign [.Name y py] (.Name n pe) p2] hp]) (SP X pins K) X.xe t3) X.xe t2) X.xe t1)
    (fun u t0 air => ?caught) PassesOwn.looking).run [] s σ H K (I.toTry _) h
  case caught =>
    obtain ⟨a, B, sI, pins', σ', H', cls, d, eu, J', nb, up, sky, na, os, ag, C, ecls, ed, hm, q⟩ := air
    subst eu ecls ed
    have J : L2.Inv X pins σ' H' sI := J'.ofTry good
    have notB : B.get? a = none := by
      rcases sky with z | z | z
      · exact z.2.1
      · exact z.2.1
      · exact z.2.1
    refine Sky.land Zc.steady frames hf (show Sky B (X.env :: X.outer) a (Zc (.ref C) none) X.env.locals t0.heap by rw [← hs]; exact sky) fun g3 fly3 up3 => ?_
    have J3 : L2.Inv X pins σ' H' { t0 with heap := g3 } := J.landed nb fly3.1 (up.trans up3) os ag
    obtain ⟨o3, v3, get3, z3, d3⟩ := fly3.there
    have nofr : a ∉ frs (X.env :: X.outer) := fun hm => by
      obtain ⟨_, o', e', hnf⟩ := fly3.2.2.1.mem hm
      rw [get3] at e'; cases e'
      exact hnf _ d3
    have nl : a ≠ X.env.locals := fun z => nofr (List.mem_filterMap.mpr ⟨X.env, List.mem_cons_self, by rw [hf, z]⟩)
    have nF : a ∉ X.fs := fun hm => by
      obtain ⟨e, he, q⟩ := List.mem_filterMap.mp hm
      exact nofr (List.mem_filterMap.mpr ⟨e, List.mem_cons_of_mem _ he, q⟩)
    have newI : sI.heap.get? a = none := by
      cases e : sI.heap.get? a with
      | none => rfl
      | some o =>
        have := nb a o e (by rw [hs]; exact nofr)
        rw [notB] at this; cases this
    have new0 : X.s_0.heap.get? a = none := by
      cases e : X.s_0.heap.get? a with
      | none => rfl
      | some o =>
        obtain ⟨o', e'⟩ := J.base.there a o e (by rw [hex]; simp)
        rw [newI] at e'; cases e'
    have S3 := J3.suite get3 d3 na nl nF
    refine wpAny_handleBy_cons (codeAny_handlers_test ?_) (by intro q; cases q)
    have ty3 : PySem.W.Looks (model X.prog X.w) g3 (typeOf (.ref a)) (.ref C) := fun A Q E s k q => wpAny_typeOf_ref (k _ _ get3) (by rw [z3.1]; exact q)
    have mt := PySem.W.exm_one (M := model X.prog X.w) (J3.kIn) ty3 hm
    have test : ∀ {Q : Value → Shared → Prop} {E : Value → Shared → Prop}, Q c { t0 with heap := g3 } → wpAny (model X.prog X.w) (X.A.mark (some (.ref a))) (eval (.Name x np) X.env) Q E { t0 with heap := g3 } := fun {Q E} q => by
      obtain ⟨hg, hdbg, hmg | ⟨hmg, hv, hnn⟩⟩ := hc
      · exact ld_glob (X := X.suite a ((a, o3) :: (X.pn ++ pins))) S3 hg hmg q hdbg
      · exact ld_blt (X := X.suite a ((a, o3) :: (X.pn ++ pins))) S3 hg hmg hv q hnn hdbg
    refine test (mt.here ?_)
    refine codeAny_handlers_suite_as ?_
    refine HandSPX.lands_againZ fly3 fun g4 fly4 up4 => ?_
    have J4 : L2.Inv X pins σ' H' { t0 with heap := g4 } := J.landed nb fly4.1 ((up.trans up3).trans up4) os ag
    obtain ⟨o4, v4, get4, z4, d4⟩ := fly4.there
    have S4 := J4.suite get4 d4 na nl nF
    refine store_ok (X := X.suite a ((a, o4) :: (X.pn ++ pins))) (v := .ref a) S4 hN hi (.inl ln) rfl (fun t5 S5 => ?_) (.inr ln)
    have pst : PSs (X.suite a ((a, o4) :: (X.pn ++ pins))) [.Assign [.Name y py] (.Name n pe) p2] (tAsg (tVar i) (gName j)) :=
      pss_one (ps_set hN hj (.inl ly) (pe_var hi (.inl ln) dn cn) rfl (.inr ly))
    have li : i < σ'.length := by
      rw [J.len]; exact (List.getElem?_eq_some_iff.mp hi).1
    refine wpAny_mono (pst.run [] t5 _ H' { nx := fun σ6 H6 => σ6 = (σ'.set i (some (.ref a))).set j (some (.ref a)) ∧ H6 = H', rt := fun _ _ => False } S5 ⟨.ref a, List.getElem?_set_self li, rfl, rfl⟩) (fun f t6 hsp => ?_) (fun _ _ z => False.elim z)
    cases f with
    | next =>
      obtain ⟨σ6, H6, S6, e1, e2⟩ := hsp
      subst e1 e2
      obtain ⟨k1, _⟩ := S6.pin (a, o4) (List.mem_append.mpr (.inl List.mem_cons_self))
      have tr := track_exc (S6.unsuite good) k1 z4 d4 na new0 nl fun p hp e => by
        have := (J.pin p hp).1
        rw [e, newI] at this; cases this
      exact gone_ok tr hN hi (show X.env.kindOf n = some .local from ln) fun t7 J7 => ⟨_, _, J7, q a na⟩
    | brk => obtain ⟨_, _, _, z⟩ := hsp; exact z.elim
    | cont => obtain ⟨_, _, _, z⟩ := hsp; exact z.elim
    | ret u => obtain ⟨_, _, _, _, _, z⟩ := hsp; exact z.elim
  refine wpAny_mono body_run (fun f t1 hsp => ?_) (fun e t1 he => he)
  cases f with
  | next =>
    obtain ⟨σ', H', J', q⟩ := hsp
    exact wpAny_execs_nil ⟨σ', H', J'.ofTry good, q⟩
  | brk =>
    obtain ⟨σ', H', J', q⟩ := hsp
    exact ⟨σ', H', J'.ofTry good, q⟩
  | cont =>
    obtain ⟨σ', H', J', q⟩ := hsp
    exact ⟨σ', H', J'.ofTry good, q⟩
  | ret u =>
    obtain ⟨v, σ', H', J', r, q⟩ := hsp
    exact ⟨v, σ', H', J'.ofTry good, r, q⟩
end
end Q7

/-! All statements. -/
namespace Q7
open PySem L2
section
variable (Z : Names) (sc : Scope)
def nmB (i : Nat) (x : Str) : Bool := decide (Z.N[i]? = some x) && (locB sc x && fnB sc x)
def chkP : List (Bool × Tg) → CEs → List Expr → List Expr → Bool
  | [], .nil, [], [] => true
  | (b, t) :: ts, .cons c cs, tg :: tgs, v :: vs => chkG Z sc t tg && (tgFn Z.N sc t && (chkE Z c sc v && (wfE c && ((if b then fr c else !isB c) && chkP ts cs tgs vs))))
  | _, _, _, _ => false
def dist : List (Bool × Tg) → Bool
  | [(_, .name i), (_, .name j)] => decide (i ≠ j)
  | [(_, .name i), (_, .name j), (_, .name k)] => decide (i ≠ j) && (decide (i ≠ k) && decide (j ≠ k))
  | _ => false
def kSet (i : Nat) (e : CE) : Stmt → Bool
  | .Assign [.Name x _] v _ => nmB Z sc i x && (chkE Z e sc v && (wfE e && (!isB e && noSD v)))
  | _ => false
def kSetO (i : Nat) (e : CE) : Stmt → Bool
  | .Assign [.Name x _] v _ => nmB Z sc i x && (chkE Z e sc v && (wfE e && (fr e && noSD v)))
  | _ => false
def kPar (ts : List (Bool × Tg)) (es : CEs) : Stmt → Bool
  | .Assign [.Tuple tgs _ _] (.Tuple vs _ _) _ => decide (ts.length ≤ 100) && (chkP Z sc ts es tgs vs && (noneB sc tgs vs || (swapB sc tgs vs && dist ts)))
  | _ => false
def kUnp (t : Tg) (e : CE) : Stmt → Bool
  | .Assign [.Tuple tgs k p] v _ => chkG Z sc t (.Tuple tgs k p) && (tgFn Z.N sc t && (chkE Z e sc v && (wfE e && (!isB e && (noSD v && !isTup v)))))
  | _ => false
def kApp (i : Nat) (e : CE) : Stmt → Bool
  | .Expr (.Call (.Attribute (.Name x _) n apos) [v] [] cpos) _ => decide (n = ("append" : Str)) && (varB Z.N sc i x && ((apos.endLine == cpos.line) && (chkE Z e sc v && (wfE e && !isB e))))
  | _ => false
def kPut (i : Nat) (k e : CE) : Stmt → Bool
  | .Assign [.Subscript (.Name x _) kx _] v _ => varB Z.N sc i x && (noSlice kx && (noSD v && (chkE Z k sc kx && (wfE k && (chkE Z e sc v && (wfE e && !isB e))))))
  | _ => false
def kExpr (e : CE) : Stmt → Bool
  | .Expr v _ => chkE Z e sc v && (wfE e && (noSD v && !isLC v))
  | _ => false
def isNon : CE → Bool
  | .non => true
  | _ => false
def kRet (e : CE) : Stmt → Bool
  | .Return (some v) _ => chkE Z e sc v && (wfE e && !isB e)
  | .Return none _ => isNon e
  | _ => false
def kRais (c : Nat) (m : Str) : Stmt → Bool
  | .Raise (some (.Call (.Name x _) [.Constant (.str m') _ _] [] _)) none _ => decide (Z.CN[c]? = some x) && (glB sc x && decide (m = m'))
  | _ => false
def loc1 (i : Nat) (x : Str) : Bool := decide (Z.N[i]? = some x) && ((sc.names.lookup x == some .local) && (!(x == ("__debug__" : Str)) && !(x == ("__classdict__" : Str))))
def kTry (r c er f : Nat) (es : CEs) : Stmt → Bool
  | .Try [.Assign [.Name xr _] (.Call (.Name x _) vs [] _) _] [.ExceptHandler (some (.Name k _)) (some n) [.Assign [.Name y _] (.Name n' _) _] _] [] [] _ =>
      nmB Z sc r xr && (decide (Z.FN[f]? = some x) && (glB sc x && (chkEs Z es sc vs && (decide (1 ≤ vs.length) && (kEs es && (decide (k = ("SlopeError" : Str)) && (glB sc k && (loc1 Z sc er n && (loc1 Z sc c y && (decide (n = n') && decide (er ≠ c)))))))))))
  | _ => false
mutual
def chkS : CS → Stmt → Bool
  | .set i e, s => kSet Z sc i e s
  | .setO i e, s => kSetO Z sc i e s
  | .frz _, _ => false
  | .par ts es, s => kPar Z sc ts es s
  | .unp t e, s => kUnp Z sc t e s
  | .app i e, s => kApp Z sc i e s
  | .put i k e, s => kPut Z sc i k e s
  | .expr e, s => kExpr Z sc e s
  | .ret e, s => kRet Z sc e s
  | .rais c m, s => kRais Z sc c m s
  | .tryh r c er f es, s => kTry Z sc r c er f es s
  | .ite t a b, .If c sa sb _ => chkT Z t sc c && (wfT t && (chkSs a sa && chkSs b sb))
  | .for_ t it b, .For tg i body [] _ => chkG Z sc t tg && (tgFn Z.N sc t && (chkI Z it sc i && (wfI it && (!isBI it && (isPairT it t && (noSet i && chkSs b body))))))
  | .whl t b, .While c body [] _ => chkT Z t sc c && (wfT t && chkSs b body)
  | _, _ => false
def chkSs : CSs → List Stmt → Bool
  | .nil, [] => true
  | .cons (.frz _) ss, sts => chkSs ss sts
  | .cons s ss, st :: sts => chkS s st && chkSs ss sts
  | _, _ => false
end
end
section
variable {G : Gb} {T : List Fn} {fuel : Nat} {Z : Names} {E0 : XK} {X : Cx} {sc : Scope}
theorem iE_N {c : CE} (h : isB c = false) {e : Expr} (p : PE X e (iE G T E0 c)) : PE X e (iN G E0 (relV G) (ev T c)) := PE_weak p fun σ H Q ⟨B, env, S, ρ, ow, R, P⟩ => ⟨B, env, S, ρ, ow, R, by rw [h]; exact P⟩
theorem qs_setN {rel : RelN} (ok : NewOk G rel) (C : CtS G T Z E0 X sc) {i : Nat} {c : CE} {x : Str} {px pos : Pos} {v : Expr} (hk : sc.kind = .function) (hn : nmB Z sc i x = true) (hc : chkE Z c sc v = true) (w : wfE c = true) (hsd : noSD v = true) (hp : PE X v (iN G E0 rel (ev T c))) :
    PS X (.Assign [.Name x px] v pos) (tAsg (iN G E0 rel (ev T c)) (gName i)) := by
  simp only [nmB, Bool.and_eq_true, decide_eq_true_eq] at hn
  have hk' : X.env.scope.kind = .function := by rw [C.ct.sc]; exact hk
  cases hs : swLC sc x px v with
  | false =>
    exact ps_set C.ct.nd (by rw [C.ct.N]; exact hn.1) (C.ct.loc hn.2.1) hp (by rw [sw_name hk' hsd, C.ct.sc, hs]) (C.ct.fs x hn.2.2)
  | true =>
    cases v <;> first | (simp [swLC] at hs; done) | skip
    rename_i e1 gens scope p
    have hsw : swapsWith (.ListComp e1 gens scope p) (some (.Name x px)) pos.line X.env = pure true := by rw [sw_name hk' hsd, C.ct.sc, hs]
    have hloc : X.env.scope.names.lookup x = some .local := by
      simp only [swLC, Bool.and_eq_true, beq_iff_eq] at hs
      rw [C.ct.sc]; exact hs.1.1
    cases c <;> first | (simp [chkE] at hc; done) | skip
    · obtain ⟨e2, t, i', fs', scope', pos', e, h1, h2, h3, h4, h5, h6, h7, h8, h9⟩ := inv_comp hc
      cases e
      simp only [wfE, Bool.and_eq_true, Bool.not_eq_true'] at w
      exact PS_weak (ps_setLc C.ct.calm C.ct.nd (by rw [C.ct.N]; exact hn.1) hloc hsw (sI _ C.ct h2 w.1 (tup_of_pair h3 h5)) (blkOk_by (by rw [C.ct.N, C.ct.sc]; exact h1)) (fun s H c cl fp => pg_of (C.ct.blk s H c cl fp) (fun _ _ _ q => q) h5 h7) (fun s H c cl fp => sOT _ (C.ct.blk s H c cl fp) h8 w.2.1) (fun s H c cl fp => sE _ (C.ct.blk s H c cl fp) h9 w.2.2.1) (noset_fold h4))
        fun K σ H h => comp_key ok h6 w.2.2.2 h
    · obtain ⟨e2, t, i', fs', t2, i2, fs2, scope', pos', e, h1, h2, h3, h4, h5, h6, h7, h8, g0, g2, g3, g4, g5, g6, g7, g8, h9⟩ := inv_comp2 hc
      cases e
      simp only [wfE, Bool.and_eq_true, Bool.not_eq_true'] at w
      exact PS_weak (ps_setLc2 C.ct.calm C.ct.nd (by rw [C.ct.N]; exact hn.1) hloc hsw (sI _ C.ct h2 w.1 (tup_of_pair h3 h5)) (blkOk_by (by rw [C.ct.N, C.ct.sc]; exact h1)) (fun j hj => by simpa using List.all_eq_true.mp g0 j hj)
          (fun s H c cl fp => pg_of (C.ct.blk s H c cl fp) (fun _ _ _ q => q) h5 h7) (fun s H c cl fp => sOT _ (C.ct.blk s H c cl fp) h8 w.2.1)
          (fun s H c cl fp => sI _ (C.ct.blk s H c cl fp) g2 w.2.2.1 (tup_of_pair g3 g5)) (fun s H c cl fp => pg_of (C.ct.blk s H c cl fp) (fun _ _ _ q => q) g5 g7) (fun s H c cl fp => sOT _ (C.ct.blk s H c cl fp) g8 w.2.2.2.2.1)
          (fun s H c cl fp => sE _ (C.ct.blk s H c cl fp) h9 w.2.2.2.2.2.1) (noset_fold h4) (fun env => noset_fold g4))
        fun K σ H h => comp2_key ok h6 g6 w.2.2.2.2.2.2 w.2.2.2.1 h
/-! parallel -/
theorem chkP_all (C : Ct G T Z E0 X sc (fnB sc)) : ∀ {ts : List (Bool × Tg)} {cs : CEs} {tgs vs : List Expr}, chkP Z sc ts cs tgs vs = true → PA X vs (iPar G T E0 (ts.map (·.1)) cs) ∧ tgs.length = ts.length ∧ vs.length = ts.length ∧ ∀ (k : Nat) t e, ts[k]? = some t → tgs[k]? = some e → chkG Z sc t.2 e = true ∧ tgFn Z.N sc t.2 = true
  | [], .nil, [], [], _ => ⟨qp_nil, rfl, rfl, fun k t e q => by simp at q⟩
  | (b, t) :: ts, .cons c cs, tg :: tgs, v :: vs, h => by
    simp only [chkP, Bool.and_eq_true] at h
    obtain ⟨h1, h2, h3, h4, h5, h6⟩ := h
    obtain ⟨p, l1, l2, q⟩ := chkP_all C h6
    refine ⟨?_, by simp [l1], by simp [l2], ?_⟩
    · cases b with
      | true => exact qp_own (chk_star h3) (sF C (by simpa using h5) h3 h4) p
      | false => exact qp_val (chk_star h3) (by simpa using h5) (sE c C h3 h4) p
    · intro k t' e' q1 q2
      cases k with
      | zero =>
        simp at q1 q2
        subst q1 q2
        exact ⟨h1, h2⟩
      | succ k => exact q k t' e' (by simpa using q1) (by simpa using q2)
  | [], .nil, [], _ :: _, h => by simp [chkP] at h
  | [], .nil, _ :: _, _, h => by simp [chkP] at h
  | [], .cons _ _, _, _, h => by simp [chkP] at h
  | _ :: _, .nil, _, _, h => by simp [chkP] at h
  | _ :: _, .cons _ _, [], _, h => by simp [chkP] at h
  | _ :: _, .cons _ _, _ :: _, [], h => by simp [chkP] at h
def iStE (G : Gb) (ts : List (Bool × Tg)) : TGs := fun vs σ H Q => ∃ H0, iSt G H0 ts vs σ H Q
theorem each_gen : ∀ {ts : List (Bool × Tg)} {tgs : List Expr} {env : PySem.Env}, tgs.length = ts.length → (∀ (k : Nat) t e, ts[k]? = some t → tgs[k]? = some e → chkG Z sc t.2 e = true ∧ tgFn Z.N sc t.2 = true) → (assignEach tgs env).length = tgs.length ∧ (assignEach tgs env).findIdx? (·.1) = none
  | [], [], _, _, _ => ⟨rfl, rfl⟩
  | t :: ts, e :: es, env, hl, h => by
    obtain ⟨a, b⟩ := each_gen (env := env) (ts := ts) (tgs := es) (by simpa using hl) fun k t e q1 q2 => h (k + 1) t e q1 q2
    obtain ⟨h1, _⟩ := h 0 t e rfl rfl
    rw [plain_each h1]
    exact ⟨by simp [a], by simp [List.findIdx?_cons, b]⟩
  | [], _ :: _, _, hl, _ => by simp at hl
  | _ :: _, [], _, hl, _ => by simp at hl
theorem qs_par (C : CtS G T Z E0 X sc) {ts : List (Bool × Tg)} {cs : CEs} {tgs vs : List Expr} {k k2 : Nat} {p p2 pos : Pos} (hk : sc.kind = .function) (h100 : ts.length ≤ 100) (hc : chkP Z sc ts cs tgs vs = true) (hw : (noneB sc tgs vs || (swapB sc tgs vs && dist ts)) = true) :
    PS X (.Assign [.Tuple tgs k p] (.Tuple vs k2 p2) pos) (iS G T fuel E0 (.par ts cs)) := by
  obtain ⟨pa, l1, l2, ht⟩ := chkP_all C.ct hc
  have hk' : X.env.scope.kind = .function := by rw [C.ct.sc]; exact hk
  rw [Bool.or_eq_true] at hw
  rcases hw with hw | hw
  · obtain ⟨a1, a2⟩ := each_gen (env := X.env) l1 ht
    have pg : PGs X tgs (iStE G ts) := ⟨fun pins s σ H vs us Q I r ⟨H0, q⟩ => (pgs_st C.ct (H0 := H0) l1 ht).run pins s σ H vs us Q I r q⟩
    refine PS_weak (ps_asg (pe_tup pa) (pg_tup C.ct.calm pg rfl a2) rfl (stores_none (by rw [C.ct.sc]; exact hw)) rfl) fun K σ H h => ?_
    obtain ⟨B, env, S, ρ, ow, R, P⟩ := t_par h
    refine ⟨B, env, S, ρ, ow, R, P.mono fun vs H1 ⟨q, q2⟩ => ?_⟩
    have hlen := st_len q
    have hz : vs.length ≤ sizeLine := by rw [hlen, sizeLine_eq]; omega
    refine ⟨hz, fun t ht => ⟨t, vs, rfl, .of upd_same, ?_, H, q2 t ht⟩⟩
    rw [hlen, a1, l1]
  · simp only [Bool.and_eq_true] at hw
    obtain ⟨h1, h2⟩ := hw
    have h1 : swapB X.env.scope tgs vs = true := by rw [C.ct.sc]; exact h1
    have nm : ∀ {i : Nat} {x : Str}, Z.N[i]? = some x → ∀ {j : Nat} {y : Str}, Z.N[j]? = some y → i ≠ j → x ≠ y := by
      intro i x hi j y hj hij e
      subst e
      have nd := C.ct.nd
      rw [C.ct.N] at nd
      obtain ⟨h1, e1⟩ := List.getElem?_eq_some_iff.mp hi
      obtain ⟨h2, e2⟩ := List.getElem?_eq_some_iff.mp hj
      exact hij ((List.getElem_inj nd).mp (e1.trans e2.symm))
    have lc : ∀ {x : Str} {p : Pos} {l : Nat}, locN X.env.scope l (.Name x p) = true → sc.names.lookup x = some .local := by
      intro x p l q
      simp only [locN, Bool.and_eq_true, beq_iff_eq] at q
      rw [← C.ct.sc]; exact q.1
    unfold dist at h2
    split at h2
    · rename_i b1 i b2 j
      simp only [ne_eq, decide_not, Bool.not_eq_true', decide_eq_false_iff_not] at h2
      rcases tgs with _ | ⟨t1, _ | ⟨t2, _ | ⟨t3, tgs⟩⟩⟩ <;> first | (simp at l1; done) | skip
      rcases vs with _ | ⟨e1, _ | ⟨e2, _ | ⟨e3, vs⟩⟩⟩ <;> first | (simp at l2; done) | skip
      obtain ⟨x, px, rfl, gx, _⟩ := chkG_name (ht 0 _ _ rfl rfl).1
      obtain ⟨y, py, rfl, gy, _⟩ := chkG_name (ht 1 _ _ rfl rfl).1
      have hl := h1
      simp only [swapB, Bool.and_eq_true, List.all_cons, List.all_nil, Bool.and_true] at hl
      exact qs_par2 C gx gy h2 (lc hl.1.1.2.1) (lc hl.1.1.2.2) pa (stores_two hk' (nm gx gy h2) h1)
    · rename_i b1 i b2 j b3 l
      simp only [ne_eq, decide_not, Bool.not_eq_true', decide_eq_false_iff_not, Bool.and_eq_true] at h2
      rcases tgs with _ | ⟨t1, _ | ⟨t2, _ | ⟨t3, _ | ⟨t4, tgs⟩⟩⟩⟩ <;> first | (simp at l1; done) | skip
      rcases vs with _ | ⟨e1, _ | ⟨e2, _ | ⟨e3, _ | ⟨e4, vs⟩⟩⟩⟩ <;> first | (simp at l2; done) | skip
      obtain ⟨x, px, rfl, gx, _⟩ := chkG_name (ht 0 _ _ rfl rfl).1
      obtain ⟨y, py, rfl, gy, _⟩ := chkG_name (ht 1 _ _ rfl rfl).1
      obtain ⟨z, pz, rfl, gz, _⟩ := chkG_name (ht 2 _ _ rfl rfl).1
      have hl := h1
      simp only [swapB, Bool.and_eq_true, List.all_cons, List.all_nil, Bool.and_true] at hl
      exact qs_par3 C gx gy gz h2.1 h2.2.1 h2.2.2 (lc hl.1.1.2.1) (lc hl.1.1.2.2.1) (lc hl.1.1.2.2.2) pa (stores_three hk' (nm gx gy h2.1) (nm gx gz h2.2.1) (nm gy gz h2.2.2) h1)
    · cases h2
theorem s_set (C : CtS G T Z E0 X sc) (hk : sc.kind = .function) {i : Nat} {e : CE} {s : Stmt} (h : kSet Z sc i e s = true) : PS X s (iS G T fuel E0 (.set i e)) := by
  unfold kSet at h
  split at h
  · simp only [Bool.and_eq_true, Bool.not_eq_true'] at h
    obtain ⟨h1, h2, h3, h4, h5⟩ := h
    exact PS_weak (qs_setN newV C hk h1 h2 h3 h5 (iE_N h4 (sE e C.ct h2 h3))) (t_set h4)
  · cases h
theorem s_setO (C : CtS G T Z E0 X sc) (hk : sc.kind = .function) {i : Nat} {e : CE} {s : Stmt} (h : kSetO Z sc i e s = true) : PS X s (iS G T fuel E0 (.setO i e)) := by
  unfold kSetO at h
  split at h
  · simp only [Bool.and_eq_true, Bool.not_eq_true'] at h
    obtain ⟨h1, h2, h3, h4, h5⟩ := h
    exact PS_weak (qs_setN newF C hk h1 h2 h3 h5 (sF C.ct h4 h2 h3)) t_setO
  · cases h
theorem s_par (C : CtS G T Z E0 X sc) (hk : sc.kind = .function) {ts : List (Bool × Tg)} {es : CEs} {s : Stmt} (h : kPar Z sc ts es s = true) : PS X s (iS G T fuel E0 (.par ts es)) := by
  unfold kPar at h
  split at h
  · rw [Bool.and_eq_true, Bool.and_eq_true, decide_eq_true_eq] at h
    exact qs_par C hk h.1 h.2.1 h.2.2
  · cases h
theorem s_unp (C : CtS G T Z E0 X sc) (hk : sc.kind = .function) {t : Tg} {e : CE} {s : Stmt} (h : kUnp Z sc t e s = true) : PS X s (iS G T fuel E0 (.unp t e)) := by
  unfold kUnp at h
  split at h
  · simp only [Bool.and_eq_true, Bool.not_eq_true'] at h
    obtain ⟨h1, h2, h3, h4, h5, h6, h7⟩ := h
    exact qs_unp h5 (sw_other (tg := .Tuple _ _ _) h6 (fun x p => by simp)) (stores_not h7) (by rw [plain_each h1]; rfl) (sE e C.ct h3 h4) (pg_of C.ct (fun _ _ _ q => q) h1 h2)
  · cases h
theorem s_app (C : CtS G T Z E0 X sc) (hk : sc.kind = .function) {i : Nat} {e : CE} {s : Stmt} (h : kApp Z sc i e s = true) : PS X s (iS G T fuel E0 (.app i e)) := by
  unfold kApp at h
  split at h
  · simp only [Bool.and_eq_true, Bool.not_eq_true', decide_eq_true_eq] at h
    obtain ⟨h1, h2, h3, h4, h5, h6⟩ := h
    subst h1
    exact qs_app C h2 h3 (chk_star h4) h6 (sE e C.ct h4 h5)
  · cases h
theorem s_put (C : CtS G T Z E0 X sc) (hk : sc.kind = .function) {i : Nat} {k e : CE} {s : Stmt} (h : kPut Z sc i k e s = true) : PS X s (iS G T fuel E0 (.put i k e)) := by
  unfold kPut at h
  split at h
  · simp only [Bool.and_eq_true, Bool.not_eq_true'] at h
    obtain ⟨h1, h2, h3, h4, h5, h6, h7, h8⟩ := h
    exact qs_put C h1 h8 h2 (sw_other (tg := .Subscript _ _ _) h3 (fun x p => by simp)) (sE e C.ct h6 h7) (sE k C.ct h4 h5)
  · cases h
theorem s_expr (C : CtS G T Z E0 X sc) (hk : sc.kind = .function) {e : CE} {s : Stmt} (h : kExpr Z sc e s = true) : PS X s (iS G T fuel E0 (.expr e)) := by
  unfold kExpr at h
  split at h
  · simp only [Bool.and_eq_true, Bool.not_eq_true'] at h
    obtain ⟨h1, h2, h3, h4⟩ := h
    exact qs_expr (sw_none h3 h4) (sE e C.ct h1 h2)
  · cases h
theorem s_ret (C : CtS G T Z E0 X sc) (hk : sc.kind = .function) {e : CE} {s : Stmt} (h : kRet Z sc e s = true) : PS X s (iS G T fuel E0 (.ret e)) := by
  unfold kRet at h
  split at h
  · simp only [Bool.and_eq_true, Bool.not_eq_true'] at h
    exact qs_ret h.2.2 (sE e C.ct h.1 h.2.1)
  · cases e <;> first | (simp [isNon] at h; done) | skip
    exact qs_retN
  · cases h
theorem s_rais (C : CtS G T Z E0 X sc) (hk : sc.kind = .function) {c : Nat} {m : Str} {s : Stmt} (h : kRais Z sc c m s = true) : PS X s (iS G T fuel E0 (.rais c m)) := by
  unfold kRais at h
  split at h
  · simp only [Bool.and_eq_true, decide_eq_true_eq] at h
    obtain ⟨h1, h2, h3⟩ := h
    subst h3
    exact qs_rais C h1 h2
  · cases h
theorem Rel.unset {B : Addr → Prop} {env : Env} {S : Sta} {ρ : Rho} {ow : Ow} {σ : L2.St} {H : Hp} {i : Nat} (R : Rel G B env S ρ ow σ H) (hn : ∀ a, ow i ≠ some a) : Rel G B (env.set i .un) S ρ ow (σ.set i none) H where
  len := by rw [List.length_set, List.length_set]; exact R.len
  st := R.st
  bl := R.bl
  slot := fun j e he => by
    by_cases q : i = j
    · subst q
      by_cases hi : i < env.length
      · rw [List.getElem?_set_self hi] at he; cases he
      · rw [List.getElem?_eq_none (by rw [List.length_set]; omega)] at he; cases he
    · rw [List.getElem?_set_ne q] at he
      rw [List.getElem?_set_ne q]
      exact R.slot j e he
  own := fun j ds he => by
    by_cases q : i = j
    · subst q
      by_cases hi : i < env.length
      · rw [List.getElem?_set_self hi] at he; cases he
      · rw [List.getElem?_eq_none (by rw [List.length_set]; omega)] at he; cases he
    · rw [List.getElem?_set_ne q] at he
      rw [List.getElem?_set_ne q]
      exact R.own j ds he
  ow_of := fun j a he => by
    by_cases q : i = j
    · subst q; exact absurd he (hn a)
    · rw [List.getElem?_set_ne q]; exact R.ow_of j a he
  inj := R.inj
  disj := R.disj
theorem set_swap {σ : L2.St} {i j : Nat} {x y : Option V} (h : i ≠ j) : (((σ.set i x).set j y).set i none) = (σ.set i none).set j y := by
  apply List.ext_getElem?
  intro k
  by_cases h1 : i = k
  · subst h1
    by_cases hi : i < σ.length
    · rw [List.getElem?_set_self (by simpa using hi), List.getElem?_set_ne (Ne.symm h), List.getElem?_set_self hi]
    · rw [List.getElem?_eq_none (by simpa using hi), List.getElem?_eq_none (by simpa using hi)]
  · rw [List.getElem?_set_ne h1]
    by_cases h2 : j = k
    · subst h2
      by_cases hj : j < σ.length
      · rw [List.getElem?_set_self (by simpa using hj), List.getElem?_set_self (by simpa using hj)]
      · rw [List.getElem?_eq_none (by simpa using hj), List.getElem?_eq_none (by simpa using hj)]
    · rw [List.getElem?_set_ne h2, List.getElem?_set_ne h1, List.getElem?_set_ne h2, List.getElem?_set_ne h1]
theorem Ct.tr {fs : Str → Bool} (C : Ct G T Z E0 X sc fs) (pn : List (Addr × Obj)) (xe : Value → Shared → Prop) : Ct G T Z noX (X.tr pn xe) sc fs where
  N := C.N
  nd := C.nd
  sc := C.sc
  K := C.K
  calm := C.calm
  hu := C.hu
  fns := C.fns
  fnl := C.fnl
  pass := fun pins σ H s e s' I h => by
    obtain ⟨_, _, _, _, _, _, _, _, _, _, _, _, z⟩ := h
    exact z.elim
  blt := C.blt
  cls := C.cls
  cnm := C.cnm
  fs := C.fs
theorem s_try (C : CtS G T Z E0 X sc) (hk : sc.kind = .function) {r c er f : Nat} {es : CEs} {s : Stmt} (h : kTry Z sc r c er f es s = true) : PS X s (iS G T fuel E0 (.tryh r c er f es)) := by
  unfold kTry at h
  split at h
  · rename_i xr pr x px vs pc p1 k pk n y py n' pn p2 hp pos
    simp only [Bool.and_eq_true, decide_eq_true_eq, loc1, nmB, Bool.not_eq_true', beq_iff_eq] at h
    obtain ⟨⟨r1, r2, r3⟩, f1, g1, hvs, hlen, hke, hk', gk, ⟨n1, n2, n3, n4⟩, ⟨c1, c2, c3, c4⟩, hn, hne⟩ := h
    subst hk' hn
    obtain ⟨F, hF⟩ := C.ct.fnl f x f1
    obtain ⟨x', fa, fd, lv, ps, q1, hm, okF, room, hkp, hb, har⟩ := C.ct.fns f F hF
    rw [f1] at q1; cases q1
    obtain ⟨S, hS, hall⟩ := C.slope
    obtain ⟨u1, u2, u3⟩ := C.ct.gl g1
    obtain ⟨w1, w2, w3⟩ := C.ct.gl gk
    have hstar := chks_star hvs
    cases vs with
    | nil => simp at hlen
    | cons v vs =>
    have hbody : ∀ (W : WX) (pn : List (Addr × Obj)) (xe : Value → Shared → Prop), Takes (X.tr pn xe) W → PassesOwn (model X.prog X.w) X.A X.env xe → PSs (X.tr pn xe) [.Assign [.Name xr pr] (.Call (.Name x px) (v :: vs) [] pc) p1] (tAsg (tCallS (spOf G ps.length F) (WE W) (iEs G T noX es)) (gName r)) := by
      intro W pn xe tk po
      have C2 := C.ct.tr pn xe
      exact pss_one (ps_set (X := X.tr pn xe) C2.nd (by rw [C2.N]; exact r1) (C2.loc r2) (pe_callS (X := X.tr pn xe) okF room u1 hm hkp hb (fun σ => passAt tk σ) (sEs es C2 hvs hke) u2 (nostar (hstar v (by simp))) (noany fun e' he => hstar e' (by simp [he]))) rfl (C2.fs xr r3))
    refine PS_weak (ps_hold C.stk C.frm C.ex C.ct.nd (by rw [C.ct.N]; exact n1) (by rw [C.ct.N]; exact c1) (by rw [C.ct.sc]; exact n2) (by rw [C.ct.sc]; exact c2) n3 n4 ⟨w1, w2, .inl hS⟩ hbody) fun K σ H ⟨B, env, S0, ρ, ow, R, P⟩ => ?_
    refine ⟨B, env, S0, ρ, ow, R, ?_⟩
    have P : PostS G E0 B ρ ow H (match evs T es env S0 with
      | .ok ds s1 => (match T[f]? with
        | some F => (match F ds s1 with
          | .ok d s' => (match store1 (false, .name r) d env with
            | some env' => .ok (.nx env') s'
            | none => .bad)
          | .exc k s' => if k < 18 then (match env[er]? with
            | some (.own _) => .bad
            | _ => (match store1 (false, .name c) (.exc k) (env.set er .un) with
              | some env' => .ok (.nx env') s'
              | none => .bad)) else .bad
          | .bad => .bad)
        | none => .bad)
      | _ => .bad) K := P
    cases he : evs T es env S0 with
    | bad => rw [he] at P; exact P.elim
    | exc k S1 => rw [he] at P; exact P.elim
    | ok ds S1 =>
      rw [he] at P
      simp only [hF] at P
      intro vv H1 ρ1 st1 s1 r1
      refine call_sp (R.step st1 s1) r1 har ?_
      cases hr : F ds S1 with
      | bad => rw [hr] at P; exact P.elim
      | ok d S2 =>
        rw [hr] at P
        intro v H2 ρ2 st2 s2 r2
        have R2 := (R.step st1 s1).step st2 s2
        cases e1 : store1 (false, .name r) d env with
        | none => simp only [e1] at P; exact P.elim
        | some env' =>
          simp only [e1] at P
          obtain ⟨hi, rfl⟩ := st1_val e1
          exact P _ _ ρ2 _ (R2.put hi (rV.toK rfl r2)) (SSt.own (st1.trans st2).toS fun j a q => by
            by_cases z : j = r
            · rw [z, owP_same] at q; cases q
            · rw [owP_ne z] at q; exact .inl ⟨j, q⟩)
      | exc k S2 =>
        rw [hr] at P
        intro H2 ρ2 st2 s2
        have R2 := (R.step st1 s1).step st2 s2
        have hk18 : k < 18 := by
          by_cases z : k < 18
          · exact z
          · simp only [z, if_false] at P; exact P.elim
        simp only [hk18, if_true] at P
        refine ⟨G.cls k, rfl, rfl, hall k hk18, fun a ha => ?_⟩
        have R3 := R2.step (Step.new (o := ExT (G.cls k) a) ha) (R2.st.new ha)
        have hown : ∀ ds, env[er]? ≠ some (.own ds) := fun ds z => by rw [z] at P; exact P.elim
        have P : PostS G E0 B ρ ow H (match store1 (false, .name c) (.exc k) (env.set er .un) with
              | some env' => .ok (.nx env') S2
              | none => .bad) K := by
          cases z : env[er]? with
          | none => rw [z] at P; exact P
          | some sl =>
            cases sl with
            | own ds => exact absurd z (hown ds)
            | un => rw [z] at P; exact P
            | val d => rw [z] at P; exact P
        cases e1 : store1 (false, .name c) (.exc k) (env.set er .un) with
        | none => rw [e1] at P; exact P.elim
        | some env' =>
          rw [e1] at P
          obtain ⟨hi, rfl⟩ := st1_val e1
          rw [set_swap hne]
          exact P _ _ ρ2 _ ((R3.unset (R3.noOwn hown)).put hi (.exc upd_same hk18)) (SSt.own ((st1.trans st2).trans (Step.new ha)).toS fun j a q => by
            by_cases z : j = c
            · rw [z, owP_same] at q; cases q
            · rw [owP_ne z] at q; exact .inl ⟨j, q⟩)
  · cases h
theorem s_ite {t : CT} {a b : CSs} {s : Stmt} (h : chkS Z sc (.ite t a b) s = true) : ∃ c sa sb p, s = .If c sa sb p ∧ chkT Z t sc c = true ∧ wfT t = true ∧ chkSs Z sc a sa = true ∧ chkSs Z sc b sb = true := by
  cases s <;> first | (simp [chkS] at h; done) | skip
  simp only [chkS, Bool.and_eq_true] at h
  exact ⟨_, _, _, _, rfl, h⟩
theorem s_for {t : Tg} {it : CI} {b : CSs} {s : Stmt} (h : chkS Z sc (.for_ t it b) s = true) : ∃ tg i body p, s = .For tg i body [] p ∧ chkG Z sc t tg = true ∧ tgFn Z.N sc t = true ∧ chkI Z it sc i = true ∧ wfI it = true ∧ isBI it = false ∧ isPairT it t = true ∧ noSet i = true ∧ chkSs Z sc b body = true := by
  cases s <;> first | (simp [chkS] at h; done) | skip
  rename_i tg i body orelse pos
  cases orelse <;> first | (simp [chkS] at h; done) | skip
  simp only [chkS, Bool.and_eq_true, Bool.not_eq_true'] at h
  exact ⟨_, _, _, _, rfl, h⟩
theorem s_whl {t : CT} {b : CSs} {s : Stmt} (h : chkS Z sc (.whl t b) s = true) : ∃ c body p, s = .While c body [] p ∧ chkT Z t sc c = true ∧ wfT t = true ∧ chkSs Z sc b body = true := by
  cases s <;> first | (simp [chkS] at h; done) | skip
  rename_i c body orelse pos
  cases orelse <;> first | (simp [chkS] at h; done) | skip
  simp only [chkS, Bool.and_eq_true] at h
  exact ⟨_, _, _, rfl, h⟩
theorem s_nil {s : List Stmt} (h : chkSs Z sc .nil s = true) : s = [] := by
  cases s with
  | nil => rfl
  | cons s ss => simp [chkSs] at h
theorem s_cons {c : CS} {cs : CSs} {s : List Stmt} (h : chkSs Z sc (.cons c cs) s = true) : (∃ i, c = .frz i ∧ chkSs Z sc cs s = true) ∨ ∃ st sts, s = st :: sts ∧ chkS Z sc c st = true ∧ chkSs Z sc cs sts = true := by
  cases c <;> first
    | (simp only [chkSs] at h; exact .inl ⟨_, rfl, h⟩)
    | (cases s with
      | nil => simp [chkSs] at h
      | cons st sts => simp only [chkSs, Bool.and_eq_true] at h; exact .inr ⟨_, _, rfl, h⟩)
mutual
theorem sS (C : CtS G T Z E0 X sc) (hk : sc.kind = .function) : ∀ (c : CS) {s : Stmt}, chkS Z sc c s = true → PS X s (iS G T fuel E0 c)
  | .set i e, s, h => s_set C hk (by rw [chkS] at h; exact h)
  | .setO i e, s, h => s_setO C hk (by rw [chkS] at h; exact h)
  | .frz i, s, h => by rw [chkS] at h; cases h
  | .par ts es, s, h => s_par C hk (by rw [chkS] at h; exact h)
  | .unp t e, s, h => s_unp C hk (by rw [chkS] at h; exact h)
  | .app i e, s, h => s_app C hk (by rw [chkS] at h; exact h)
  | .put i k e, s, h => s_put C hk (by rw [chkS] at h; exact h)
  | .expr e, s, h => s_expr C hk (by rw [chkS] at h; exact h)
  | .ret e, s, h => s_ret C hk (by rw [chkS] at h; exact h)
  | .rais c m, s, h => s_rais C hk (by rw [chkS] at h; exact h)
  | .tryh r c er f es, s, h => s_try C hk (by rw [chkS] at h; exact h)
  | .ite t a b, s, h => by
    obtain ⟨c, sa, sb, p, rfl, h1, h2, h3, h4⟩ := s_ite h
    exact qs_ite (sT t C.ct h1 h2) (sSs C hk a h3) (sSs C hk b h4)
  | .for_ t it b, s, h => by
    obtain ⟨tg, i, body, p, rfl, h1, h2, h3, h4, h5, h6, h7, h8⟩ := s_for h
    exact qs_for C h5 (noset_fold h7) (sI it C.ct h3 h4 (tup_of_pair h6 h1)) (pg_of C.ct (fun _ _ _ q => q) h1 h2) (sSs C hk b h8)
  | .whl t b, s, h => by
    obtain ⟨c, body, p, rfl, h1, h2, h3⟩ := s_whl h
    exact qs_whl C (sT t C.ct h1 h2) (sSs C hk b h3)
theorem sSs (C : CtS G T Z E0 X sc) (hk : sc.kind = .function) : ∀ (c : CSs) {s : List Stmt}, chkSs Z sc c s = true → PSs X s (iSs G T fuel E0 c)
  | .nil, s, h => by
    cases s_nil h
    exact qss_nil
  | .cons c cs, s, h => by
    rcases s_cons h with ⟨i, rfl, h⟩ | ⟨st, sts, rfl, h1, h2⟩
    · exact qss_frz (sSs C hk cs h)
    · exact qss_cons (sS C hk c h1) (sSs C hk cs h2)
end
end
end Q7

/-! Defs. -/
namespace Q7
open PySem L2 PyProof.Rows
/-- what is known of the defs so far, of the classes and of the built-in names -/
structure Tab (P : Program) (w : World) (K : PySem.W.Frag) (mg : Str → Option Value) (base : Heap) (G : Gb) (FN CN : List Str) (k : Nat) (T : List Fn) : Prop where
  gk : G.K = K
  len : FN.length = T.length
  fns : ∀ (f : Nat) F, T[f]? = some F → ∃ x fa fd ps, FN[f]? = some x ∧ mg x = some (.ref fa) ∧ FnOk P w K mg base (L2.CX P w) k fa fd ps (spOf G ps.length F) ∧ PySem.W.keepIn K (.ref fa) = true ∧ Binds K fd ps [] ∧ ∀ ds S, ds.length ≠ ps.length → F ds S = .bad
  exc : ∀ (c : Nat) x, CN[c]? = some x → mg x = some (.ref (G.cls c)) ∧ PySem.W.keepIn K (.ref (G.cls c)) = true ∧ (∃ B newId initId bmB, ExcBaseFacts B newId initId bmB ∧ PySem.W.excIn K (G.cls c) bmB newId = true) ∧ PySem.W.subIn K (.ref (G.cls c)) (.type "BaseException") = some true ∧ PySem.W.typeIn K (.ref (G.cls c)) = some (.type "type")
  blt : ∀ x ∈ bltNames, mg x = none
  cls : ∀ c, c < 18 → ExcC K (G.cls c) ∧ PySem.W.kitOne K (.ref (G.cls c)) (.type "ValueError") = some true ∧ ∀ k, k < 18 → PySem.W.kitOne K (.ref (G.cls c)) (.ref (G.cls k)) = some (decide (c = k))
  cl18 : CN.length = 18
  slope : ∃ S, mg "SlopeError" = some (.ref S) ∧ ∀ k, k < 18 → PySem.W.exmOne K (.ref (G.cls k)) (.ref S) = some true
section
variable {P : Program} {w : World} {K : PySem.W.Frag} {mg : Str → Option Value} {base : Heap} {G : Gb} {FN CN : List Str} {k : Nat} {T : List Fn}
theorem Tab.ctS (Tb : Tab P w K mg base G FN CN k T) {N : List Str} {qual : Str} {scope : Scope} {f : Addr} {cdv : Value} {A : Around} {outer : List PySem.Env} {s : Shared} {H : Hp} {E : XK} (nd : N.Nodup) (hr : Room k (A.deeper (envOfC qual scope s.heap.objs.size f cdv))) :
    CtS G T ⟨N, FN, CN⟩ E (cxOf (L2.CX P w) P w K mg base N qual scope f cdv A outer s H E) scope := by
  have tk : Takes (cxOf (L2.CX P w) P w K mg base N qual scope f cdv A outer s H E) (fun cls d _ H => E cls d H) := takes_of rfl rfl rfl rfl
  refine ⟨⟨rfl, nd, rfl, Tb.gk.symm, rfl, ?_, ?_, ?_, ?_, Tb.blt, Tb.cls, fun c x e => ⟨by have := (List.getElem?_eq_some_iff.mp e).1; rw [Tb.cl18] at this; exact this, (Tb.exc c x e).1⟩, fun x _ => .inl rfl⟩, tk, passes_of (K := fun e s'' => L2.CX P w outer H s E e s'') rfl, rfl, rfl, rfl, Tb.slope, ?_⟩
  · have := hr.un
    show (A.deeper (envOfC qual scope s.heap.objs.size f cdv)).units + 100 < cLine
    omega
  · intro i F hF
    obtain ⟨x, fa, fd, ps, h1, h2, h3, h4, h5, h6⟩ := Tb.fns i F hF
    exact ⟨x, fa, fd, k, ps, h1, h2, h3, hr, h4, h5, h6⟩
  · intro i x hx
    have hl : i < FN.length := (List.getElem?_eq_some_iff.mp hx).1
    rw [Tb.len] at hl
    exact ⟨T[i], List.getElem?_eq_getElem hl⟩
  · exact passes_call tk fun cls d σ H h => h
  · intro c x hx
    obtain ⟨h1, h2, h3, h4, h5⟩ := Tb.exc c x hx
    exact ⟨h1, h2, h3, raises_own h4 h5⟩
theorem start_rel {B : Addr → Prop} {ρ : Rho} {S : Sta} {H : Hp} {vs : List V} {ds : List D} {N : List Str} (hB : ∀ a, B a → H a ≠ none) (sr : StRel ρ S H) (l : DenL G (fun a => B a ∨ inT ρ a) ρ H vs ds) :
    Rel G B (ds.map .val ++ List.replicate (N.length - ds.length) .un) S ρ (fun _ => none) (start N vs) H := by
  have hl := l.length
  have none_own : ∀ (i : Nat) es, (ds.map Slot.val ++ List.replicate (N.length - ds.length) .un)[i]? ≠ some (.own es) := by
    intro i es e
    rcases Nat.lt_or_ge i ds.length with h | h
    · rw [List.getElem?_append_left (by rw [List.length_map]; exact h), List.getElem?_map] at e
      cases q : ds[i]? with
      | none => rw [q] at e; cases e
      | some d => rw [q] at e; cases e
    · rw [List.getElem?_append_right (by rw [List.length_map]; exact h), List.getElem?_replicate] at e
      split at e <;> cases e
  refine ⟨?_, sr, hB, ?_, fun i es e => absurd e (none_own i es), fun i a e => (nomatch e), fun i j a e => (nomatch e), fun i a e => (nomatch e)⟩
  · unfold L2.start
    simp [hl]
  · intro i d e
    rcases Nat.lt_or_ge i ds.length with h | h
    · rw [List.getElem?_append_left (by rw [List.length_map]; exact h), List.getElem?_map] at e
      cases q : ds[i]? with
      | none => rw [q] at e; cases e
      | some d' =>
        rw [q] at e
        cases e
        obtain ⟨v, h1, h2⟩ := l.get q
        refine ⟨v, ?_, h2.aeq fun a q => ?_⟩
        · unfold L2.start
          rw [List.getElem?_append_left (by rw [List.length_map, hl]; exact h), List.getElem?_map, h1]; rfl
        · rcases q with q | q | ⟨j, q⟩
          · exact .inl q
          · exact .inr q
          · cases q
    · rw [List.getElem?_append_right (by rw [List.length_map]; exact h), List.getElem?_replicate] at e
      split at e <;> cases e
theorem SSt.toStep {ρ ρ' : Rho} {H H' : Hp} {ow' : Ow} (a : SSt ρ (fun _ => none) H ρ' ow' H') : Step ρ H ρ' H' := ⟨fun c o h n => a.keep c o h n fun i q => (nomatch q), a.there, a.head, a.newT⟩
/-- THE RULE: a def whose text the code stands for -/
theorem def_ok (Tb : Tab P w K mg base G FN CN k T) {x qual : Str} {params : Arguments} {body : List Stmt} {scope : Scope} {f : Addr} {fd : FuncData} {N ps : List Str} (F : FunD K x qual params body scope [] [] f fd) (Sc : FnScope N ps scope) (b : CSs) (fuel : Nat) (hc : chkSs ⟨N, FN, CN⟩ scope b body = true) :
    FnOk P w K mg base (L2.CX P w) (k + 1) f fd ps (spOf G ps.length (run T fuel ps.length N.length b)) := by
  refine F.ok Sc (fun vs H Q E h => by obtain ⟨_, _, _, _, _, _, _, hn, _⟩ := h; exact hn) fun cdv A outer s H vs Q E hr h => ?_
  obtain ⟨B, ρ, S, ds, hB, sr, dl, hn, P0⟩ := h
  have C := Tb.ctS (N := N) (qual := qual) (scope := scope) (f := f) (cdv := cdv) (A := A) (outer := outer) (s := s) (H := H) (E := E) Sc.nd hr
  refine ⟨iSs G T fuel E b, sSs C Sc.kind b hc, B, _, S, ρ, _, start_rel hB sr dl, ?_⟩
  have hd : ds.length = ps.length := by rw [← dl.length]; exact hn
  unfold run at P0
  rw [if_pos hd] at P0
  rw [← hd] at P0
  revert P0
  show Post G E _ ρ H ((exs T fuel b (ds.map Slot.val ++ List.replicate (N.length - ds.length) .un) S).bind fun e => match e with | .nx _ => ret .none | .rt d => ret d) Q → _
  cases exs T fuel b (ds.map Slot.val ++ List.replicate (N.length - ds.length) .un) S with
  | bad => exact id
  | exc c S' => exact fun P0 H' ρ' st s' => P0 H' ρ' st.toStep s'
  | ok e S' =>
    cases e with
    | nx env' => exact fun P0 σ' H' ρ' ow' R st => P0 .non H' ρ' st.toStep R.st .non
    | rt d => exact fun P0 v H' ρ' s' st q => P0 v H' ρ' st.toStep s' q
theorem run_arity {fuel n m : Nat} {b : CSs} {ds : List D} {S : Sta} (h : ds.length ≠ n) : run T fuel n m b ds S = .bad := by
  unfold run
  rw [if_neg h]; rfl
/-- the table grows -/
theorem Tab.add (Tb : Tab P w K mg base G FN CN k T) {x : Str} {fa : Addr} {fd : FuncData} {ps : List Str} {F : Fn} (hm : mg x = some (.ref fa)) (ok : FnOk P w K mg base (L2.CX P w) (k + 1) fa fd ps (spOf G ps.length F)) (kp : PySem.W.keepIn K (.ref fa) = true) (hb : Binds K fd ps []) (ha : ∀ ds S, ds.length ≠ ps.length → F ds S = .bad) :
    Tab P w K mg base G (FN ++ [x]) CN (k + 1) (T ++ [F]) where
  gk := Tb.gk
  len := by simp [Tb.len]
  fns := fun i F' e => by
    rcases Nat.lt_or_ge i T.length with h | h
    · rw [List.getElem?_append_left h] at e
      obtain ⟨x, fa, fd, ps, h1, h2, h3, h4, h5, h6⟩ := Tb.fns i F' e
      exact ⟨x, fa, fd, ps, by rw [List.getElem?_append_left (by rw [Tb.len]; exact h)]; exact h1, h2, h3.mono (Nat.le_succ k), h4, h5, h6⟩
    · rw [List.getElem?_append_right h] at e
      have hi : i - T.length = 0 := by
        have := (List.getElem?_eq_some_iff.mp e).1
        simp at this; omega
      rw [hi] at e
      cases e
      exact ⟨x, fa, fd, ps, by rw [List.getElem?_append_right (by rw [Tb.len]; exact h), Tb.len, hi]; rfl, hm, ok, kp, hb, ha⟩
  exc := Tb.exc
  blt := Tb.blt
  cls := Tb.cls
  cl18 := Tb.cl18
  slope := Tb.slope
end
end Q7

/-! The script's town: _law_town, _law_draw. -/
namespace Q7
open PySem L2 PyProof.Rows
/-! ### whole numbers out of the script and the town -/
inductive ME where
  | var (i : Nat) | int (k : Int) | bin (o : BOp) (a b : ME) | ixT (b : ME) | ixS (b : ME) | lenS
def isNm (x : Str) : Expr → Bool
  | .Name y _ => decide (y = x)
  | _ => false
section
variable (Z : Names) (sc : Scope)
def chkM : ME → Expr → Bool
  | .var i, .Name x _ => varB Z.N sc i x
  | .int k, .Constant (.int j) _ _ => decide (k = j)
  | .bin o a b, .BinOp e1 op e2 _ => bopB o op && (chkM a e1 && chkM b e2)
  | .ixT b, .Subscript (.Name x _) e _ => varB Z.N sc 1 x && (noSlice e && chkM b e)
  | .ixS b, .Subscript (.Name x _) e _ => varB Z.N sc 0 x && (noSlice e && chkM b e)
  | .lenS, .Call (.Name y _) [.Name x _] [] _ => decide (y = ("len" : Str)) && (glB sc y && varB Z.N sc 0 x)
  | _, _ => false
end
def rLenM (K : PySem.W.Frag) : List V → Hp → VK → Prop := fun us H Q => ∃ v n, us = [v] ∧ LenV K v H n ∧ Q (.int n) H
def tM (K : PySem.W.Frag) : ME → TE
  | .var i => tVar i
  | .int k => tC (.int k)
  | .bin o a b => tOp (rBin K o) (tM K a) (tM K b)
  | .ixT b => tOp (rIx K) (tVar 1) (tM K b)
  | .ixS b => tOp (rIx K) (tVar 0) (tM K b)
  | .lenS => tCB (rLenM K) (tCons (tVar 0) tNil)
section
variable {G : Gb} {T : List Fn} {Z : Names} {E0 : XK} {X : Cx} {sc : Scope} {fs : Str → Bool}
theorem pm (C : Ct G T Z E0 X sc fs) : ∀ {m : ME} {e : Expr}, chkM Z sc m e = true → PE X e (tM X.K m)
  | .var i, e, h => by
    cases e <;> first | (simp [chkM] at h; done) | skip
    exact pe_name C (by simpa [chkM] using h)
  | .int k, e, h => by
    cases e <;> first | (simp [chkM] at h; done) | skip
    rename_i c _ _
    cases c <;> first | (simp [chkM] at h; done) | skip
    simp only [chkM, decide_eq_true_eq] at h
    subst h; exact pe_int
  | .bin o a b, e, h => by
    cases e <;> first | (simp [chkM] at h; done) | skip
    simp only [chkM, Bool.and_eq_true] at h
    exact pe_op (op_bin h.1) (pm C h.2.1) (pm C h.2.2)
  | .ixT b, e, h => by
    cases e <;> first | (simp [chkM] at h; done) | skip
    rename_i o e2 _
    cases o <;> first | (simp [chkM] at h; done) | skip
    simp only [chkM, Bool.and_eq_true] at h
    have pl : PlainIx e2 := fun o i => by cases e2 <;> first | rfl | (simp [noSlice] at h; done)
    exact pe_ix ix_seq (pe_name C h.1) (pm C h.2.2) pl
  | .ixS b, e, h => by
    cases e <;> first | (simp [chkM] at h; done) | skip
    rename_i o e2 _
    cases o <;> first | (simp [chkM] at h; done) | skip
    simp only [chkM, Bool.and_eq_true] at h
    have pl : PlainIx e2 := fun o i => by cases e2 <;> first | rfl | (simp [noSlice] at h; done)
    exact pe_ix ix_seq (pe_name C h.1) (pm C h.2.2) pl
  | .lenS, e, h => by
    cases e <;> first | (simp [chkM] at h; done) | skip
    rename_i f vs kw p
    cases f <;> cases kw <;> rcases vs with _ | ⟨v, _ | ⟨v2, vs⟩⟩ <;> first | (simp [chkM] at h; done) | skip
    cases v <;> first | (simp [chkM] at h; done) | skip
    simp only [chkM, Bool.and_eq_true, decide_eq_true_eq] at h
    obtain ⟨rfl, h2, h3⟩ := h
    exact pe_callB call_len (C.gl h2).1 (C.blt _ (by decide)) boot_len (pa_cons (pe_name C h3) pa_nil (nostar rfl)) (by decide) (by decide) (nostar rfl) rfl
end
/-- what it comes to -/
def evM (ns xs : List Int) (e : Nat → Option Int) : ME → Option Int
  | .var i => e i
  | .int k => some k
  | .bin o a b => match evM ns xs e a, evM ns xs e b with
    | some x, some y => (match binop o (.int x) (.int y) with
      | some (.int z) => some z
      | _ => none)
    | _, _ => none
  | .ixT b => match evM ns xs e b with
    | some i => L2.atI xs i
    | none => none
  | .ixS b => match evM ns xs e b with
    | some i => L2.atI ns i
    | none => none
  | .lenS => some ns.length
structure InM (K : PySem.W.Frag) (ns xs : List Int) (e : Nat → Option Int) (a0 a1 : Addr) (σ : L2.St) (H : Hp) : Prop where
  s0 : σ[0]? = some (some (.ref a0))
  s1 : σ[1]? = some (some (.ref a1))
  h0 : SqL K H a0 (ns.map V.int)
  h1 : H a1 = some (.lst (xs.map V.int))
  v : ∀ i k, e i = some k → σ[i]? = some (some (.int k))
theorem bin_int {K : PySem.W.Frag} {o : BOp} {x y z : Int} {H : Hp} {Q : VK} (h : binop o (.int x) (.int y) = some (.int z)) (q : Q (.int z) H) : rBin K o (.int x) (.int y) H Q := by
  cases o <;> simp only [binop] at h
  · cases h; exact .inl ⟨_, _, rfl, rfl, q⟩
  · cases h; exact ⟨_, _, rfl, rfl, q⟩
  · split at h
    · rename_i hs; cases h; exact .inl ⟨_, _, rfl, rfl, (show _ + _ < _ from of_decide_eq_true hs), q⟩
    · cases h
  · split at h
    · rename_i hs; cases h
      simp only [divOk, Bool.and_eq_true, decide_eq_true_eq] at hs
      exact ⟨_, _, rfl, rfl, hs, q⟩
    · cases h
  · split at h
    · cases h
    · rename_i hs; cases h; exact ⟨_, _, rfl, rfl, hs, q⟩
  · split at h
    · rename_i hs; cases h
      simp only [Bool.and_eq_true, decide_eq_true_eq] at hs
      exact ⟨_, _, rfl, rfl, ⟨hs.1.1, by omega, hs.2⟩, q⟩
    · cases h
theorem atI_map {α β : Type} (f : α → β) (xs : List α) (i : Int) : L2.atI (xs.map f) i = (L2.atI xs i).map f := by
  unfold L2.atI
  simp
  rfl
theorem ev_tM {K : PySem.W.Frag} {ns xs : List Int} {e : Nat → Option Int} {a0 a1 : Addr} {σ : L2.St} {H : Hp} (I : InM K ns xs e a0 a1 σ H) : ∀ {m : ME} {i : Int} {Q : VK}, evM ns xs e m = some i → Q (.int i) H → tM K m σ H Q
  | .var j, i, Q, h, q => ⟨_, I.v j i h, q⟩
  | .int k, i, Q, h, q => by cases h; exact q
  | .bin o a b, i, Q, h, q => by
    simp only [evM] at h
    split at h
    · rename_i x y hx hy
      split at h
      · rename_i z hz
        cases h
        have hb : tM K b σ H fun w H2 => rBin K o (.int x) w H2 Q := ev_tM I hy (bin_int hz q)
        exact ev_tM (m := a) (Q := fun v H1 => tM K b σ H1 fun w H2 => rBin K o v w H2 Q) I hx hb
      · cases h
    · cases h
  | .ixT b, i, Q, h, q => by
    simp only [evM] at h
    split at h
    · rename_i x hx
      exact ⟨_, I.s1, ev_tM (m := b) (Q := fun w H2 => rIx K (.ref a1) w H2 Q) I hx (.inl ⟨a1, _, x, .int i, rfl, rfl, SqL.of I.h1, by rw [atI_map, h]; rfl, q⟩)⟩
    · cases h
  | .ixS b, i, Q, h, q => by
    simp only [evM] at h
    split at h
    · rename_i x hx
      exact ⟨_, I.s0, ev_tM (m := b) (Q := fun w H2 => rIx K (.ref a0) w H2 Q) I hx (.inl ⟨a0, _, x, .int i, rfl, rfl, I.h0, by rw [atI_map, h]; rfl, q⟩)⟩
    · cases h
  | .lenS, i, Q, h, q => by
    cases h
    exact ⟨_, I.s0, _, ns.length, rfl, .inl ⟨_, I.h0, by simp⟩, q⟩
end Q7

/-! _law_draw, _law_town. -/
namespace Q7
open PySem L2 PyProof.Rows
def eSet (e : Nat → Option Int) (i : Nat) (k : Int) : Nat → Option Int := fun j => if j = i then some k else e j
def e0 (limit : Int) : Nat → Option Int := fun j => if j = 2 then some limit else none
abbrev m1 : ME := .bin .add (.ixT (.int 0)) (.int 1)
abbrev mr1 : ME := .bin .mod (.bin .fdiv (.bin .mul (.bin .mul (.ixT (.int 0)) (.ixT (.int 0))) (.int 7)) (.int 3)) (.var 2)
abbrev m3 : ME := .bin .mod (.ixT (.int 0)) .lenS
abbrev mi4 : ME := .bin .add (.int 1) (.var 3)
abbrev m4 : ME := .ixT mi4
abbrev m5 : ME := .ixS (.var 3)
abbrev m5b : ME := .bin .pow (.int 10) (.int 18)
abbrev m7 : ME := .bin .fdiv (.var 4) (.var 2)
abbrev mr7 : ME := .bin .mod (.var 4) (.var 2)
abbrev m8 : ME := .bin .mod (.bin .add (.ixS (.var 3)) (.bin .mul (.int 104729) (.ixT (.int 0)))) (.int 4294967291)
abbrev m9 : ME := .bin .mod (.bin .pow (.var 5) (.int 5)) (.int 4294967279)
abbrev mr9 : ME := .bin .mod (.bin .fdiv (.bin .mod (.bin .add (.bin .mul (.bin .fdiv (.var 5) (.int 64)) (.int 69621)) (.var 5)) (.int 4294967231)) (.int 8)) (.var 2)
def drawN (ns xs : List Int) (limit : Int) : Option (Int × List Int) :=
  match evM ns xs (e0 limit) m1, L2.ixN xs.length 0 with
  | some t, some j =>
    if ns.isEmpty then (evM ns (xs.set j t) (e0 limit) mr1).map fun r => (r, xs.set j t)
    else match evM ns (xs.set j t) (e0 limit) m3 with
      | none => none
      | some at_ => match evM ns (xs.set j t) (eSet (e0 limit) 3 at_) m4 with
        | none => none
        | some left => match evM ns (xs.set j t) (eSet (eSet (e0 limit) 3 at_) 4 left) m5 with
          | none => none
          | some sx =>
            if 1000000000000000000 ≤ sx ∧ 0 < left then (match evM ns (xs.set j t) (eSet (eSet (e0 limit) 3 at_) 4 left) m7, L2.ixN (xs.set j t).length (1 + at_) with
              | some q, some j2 => (evM ns ((xs.set j t).set j2 q) (eSet (eSet (e0 limit) 3 at_) 4 left) mr7).map fun r => (r, (xs.set j t).set j2 q)
              | _, _ => none)
            else match evM ns (xs.set j t) (eSet (eSet (e0 limit) 3 at_) 4 left) m8 with
              | none => none
              | some n1 => match evM ns (xs.set j t) (eSet (eSet (eSet (e0 limit) 3 at_) 4 left) 5 n1) m9 with
                | none => none
                | some n2 => (evM ns (xs.set j t) (eSet (eSet (eSet (e0 limit) 3 at_) 4 left) 5 n2) mr9).map fun r => (r, xs.set j t)
  | _, _ => none
def drawF (ns : List Int) : Fn := fun ds S => match ds with
  | [.scr, .ref k, .int limit] => (match S[k]? with
    | some (.town xs) => (match drawN ns xs limit with
      | some (r, ys) => .ok (.int r) (S.set k (.town ys))
      | none => .bad)
    | none => .bad)
  | _ => .bad
section
variable (Z : Names) (sc : Scope)
def drawB : List Stmt → Bool
  | [.Assign [.Subscript (.Name x1 _) i1 _] v1 _,
     .If (.Compare (.Name x2 _) [.Eq] [.List [] _] _) [.Return (some r1) _] [] _,
     .Assign [.Name x3 _] v3 _, .Assign [.Name x4 _] v4 _,
     .If (.BoolOp .And [.Compare a5 [.GtE] [b5] _, .Compare a6 [.Gt] [b6] _] _) [.Assign [.Subscript (.Name x7 _) i7 _] v7 _, .Return (some r7) _] [] _,
     .Assign [.Name x8 _] v8 _, .Assign [.Name x9 _] v9 _, .Return (some r9) _] =>
      varB Z.N sc 1 x1 && (noSlice i1 && (chkM Z sc (.int 0) i1 && (chkM Z sc m1 v1 && (varB Z.N sc 0 x2 && (chkM Z sc mr1 r1 && (nmB Z sc 3 x3 && (chkM Z sc m3 v3 && (nmB Z sc 4 x4 && (chkM Z sc m4 v4 &&
      (chkM Z sc m5 a5 && (chkM Z sc m5b b5 && (chkM Z sc (.var 4) a6 && (chkM Z sc (.int 0) b6 && (varB Z.N sc 1 x7 && (noSlice i7 && (chkM Z sc mi4 i7 && (chkM Z sc m7 v7 && (chkM Z sc mr7 r7 &&
      (nmB Z sc 5 x8 && (chkM Z sc m8 v8 && (nmB Z sc 5 x9 && (chkM Z sc m9 v9 && chkM Z sc mr9 r9))))))))))))))))))))))
  | _ => false
end
theorem chkM_sw {Z : Names} {sc : Scope} {m : ME} {v : Expr} {t : Option Expr} {n : Nat} {env : PySem.Env} (h : chkM Z sc m v = true) : swapsWith v t n env = pure false := by
  cases v <;> first | rfl | (cases m <;> simp [chkM] at h; done)
theorem chkM_st {Z : Names} {sc : Scope} {m : ME} {v tg : Expr} {env : PySem.Env} (h : chkM Z sc m v = true) : swappedStores [tg] v env = pure none := by
  cases v <;> first | (cases tg <;> rfl) | (cases m <;> simp [chkM] at h; done)
section
variable {G : Gb} {T : List Fn} {Z : Names} {E0 : XK} {X : Cx} {sc : Scope}
theorem set_name (C : CtS G T Z E0 X sc) {i : Nat} {x : Str} {m : ME} {v : Expr} {px pos : Pos} (hn : nmB Z sc i x = true) (h : chkM Z sc m v = true) : PS X (.Assign [.Name x px] v pos) (tAsg (tM X.K m) (gName i)) := by
  simp only [nmB, Bool.and_eq_true, decide_eq_true_eq] at hn
  exact ps_set C.ct.nd (by rw [C.ct.N]; exact hn.1) (C.ct.loc hn.2.1) (pm C.ct h) (chkM_sw h) (C.ct.fs x hn.2.2)
theorem set_at (C : CtS G T Z E0 X sc) {x : Str} {m k : ME} {v kx : Expr} {px sp pos : Pos} (hx : varB Z.N sc 1 x = true) (hsl : noSlice kx = true) (hk : chkM Z sc k kx = true) (h : chkM Z sc m v = true) : PS X (.Assign [.Subscript (.Name x px) kx sp] v pos) (tAsg (tM X.K m) (gSub (tVar 1) (tM X.K k) rSetL)) := by
  have asg : ∀ u, assign (.Subscript (.Name x px) kx sp) X.env u = (do
      let ov ← holding [u] (eval (.Name x px) X.env)
      let iv ← holding [u, ov] (eval kx X.env)
      standAt sp
      holding [u, ov, iv] (setItem ov iv u)
      release [u, ov, iv] []) := by
    intro u
    cases kx <;> first | rfl | (simp [noSlice] at hsl; done)
  exact ps_asg (pm C.ct h) (pg_sub (pe_name C.ct hx) (pm C.ct hk) set_list asg) (show swapsWith v (some (.Subscript (.Name x px) kx sp)) pos.line X.env = pure false from chkM_sw h) (chkM_st h) rfl
theorem nobm {op : CmpOp} {m : ME} {v : Expr} (h : chkM Z sc m v = true) : behindInMarks op v = false := by
  cases v <;> first | rfl | (cases m <;> simp [chkM] at h; done)
def tDraw (K : PySem.W.Frag) : TS := tSeq (tAsg (tM K m1) (gSub (tVar 1) (tM K (.int 0)) rSetL)) (tSeq (tIfS (tTest (tOp (rEqD K) (tVar 0) (tLst tNil))) (tRet (tM K mr1)) tNext) (tSeq (tAsg (tM K m3) (gName 3)) (tSeq (tAsg (tM K m4) (gName 4))
  (tSeq (tIfS (tAnd (tTest (tOp (rI0 fun i j => .bl (decide (j ≤ i))) (tM K m5) (tM K m5b))) (tTest (tOp (rI0 fun i j => .bl (decide (j < i))) (tM K (.var 4)) (tM K (.int 0))))) (tSeq (tAsg (tM K m7) (gSub (tVar 1) (tM K mi4) rSetL)) (tRet (tM K mr7))) tNext)
  (tSeq (tAsg (tM K m8) (gName 5)) (tSeq (tAsg (tM K m9) (gName 5)) (tRet (tM K mr9))))))))
theorem draw_pss (C : CtS G T Z E0 X sc) {body : List Stmt} (h : drawB Z sc body = true) : PSs X body (tDraw X.K) := by
  unfold drawB at h
  split at h
  · simp only [Bool.and_eq_true] at h
    obtain ⟨h1, h2, h3, h4, h5, h6, h7, h8, h9, h10, h11, h12, h13, h14, h15, h16, h17, h18, h19, h20, h21, h22, h23, h24⟩ := h
    refine pss_cons (set_at C h1 h2 h3 h4) (pss_cons (ps_if (pt_cmpR (op_eqD (by have := C.ct.hu; omega)) (pe_name C.ct h5) (pe_lst pa_nil) rfl) (pss_one (ps_ret (pm C.ct h6))) pss_nil) (pss_cons (set_name C h7 h8) (pss_cons (set_name C h9 h10)
      (pss_cons (ps_if (PW.pt (pw_and (pt_cmpR op_ge (pm C.ct h11) (pm C.ct h12) (nobm h12)) (pw_and1 (pt_cmpR op_gt (pm C.ct h13) (pm C.ct h14) (nobm h14))))) (pss_cons (set_at C h15 h16 h17 h18) (pss_one (ps_ret (pm C.ct h19)))) pss_nil)
      (pss_cons (set_name C h20 h21) (pss_cons (set_name C h22 h23) (pss_one (ps_ret (pm C.ct h24)))))))))
  · cases h
end
/-- the town's list changed, all else as it was -/
structure Chg (a1 : Addr) (ys : List Int) (H H' : Hp) : Prop where
  at_ : H' a1 = some (.lst (ys.map V.int))
  keep : ∀ b o, H b = some o → b ≠ a1 → H' b = some o
  there : ∀ b, H' b = none → H b = none
theorem Chg.set {a1 : Addr} {ys zs : List Int} {H H' : Hp} (c : Chg a1 ys H H') : Chg a1 zs H (upd H' a1 (.lst (zs.map V.int))) :=
  ⟨upd_same, fun b o e n => by rw [upd_ne n]; exact c.keep b o e n, fun b e => by
    by_cases q : b = a1
    · rw [q, upd_same] at e; cases e
    · rw [upd_ne q] at e; exact c.there b e⟩
theorem Chg.new {a1 p : Addr} {ys : List Int} {H H' : Hp} {o : HO} (c : Chg a1 ys H H') (hp : H' p = none) : Chg a1 ys H (upd H' p o) :=
  ⟨by rw [upd_ne (ne_of_none c.at_ hp)]; exact c.at_, fun b u e n => by rw [upd_ne (ne_of_none (c.keep b u e n) hp)]; exact c.keep b u e n, fun b e => by
    by_cases q : b = p
    · rw [q]; exact c.there p hp
    · rw [upd_ne q] at e; exact c.there b e⟩
theorem sql_keep {K : PySem.W.Frag} {a0 a1 : Addr} {ns ys : List Int} {H H' : Hp} (h : (∃ o, H a0 = some (.frz o (.lst (ns.map V.int)))) ∨ ∃ (o : Obj) (its : Array Value) (n : Nat), K.lookup a0 = some o ∧ o.cls = .type "list" ∧ o.dict = none ∧ o.data = .seq its n ∧ its.size ≤ sizeLine ∧ Vals (ns.map V.int) its.toList)
    (c : Chg a1 ys H H') (hn : ∀ o u, H a1 ≠ some (.frz o u)) : SqL K H' a0 (ns.map V.int) := by
  rcases h with ⟨o, h⟩ | h
  · refine .inl (.inr ⟨o, c.keep a0 _ h fun e => ?_⟩)
    rw [e] at h; exact hn _ _ h
  · exact .inr h
end Q7

/-! _law_draw keeps its promise. -/
namespace Q7
open PySem L2 PyProof.Rows
def ScrAt (K : PySem.W.Frag) (ns : List Int) (H : Hp) (a : Addr) : Prop := (∃ o, H a = some (.frz o (.lst (ns.map V.int)))) ∨ ∃ (o : Obj) (its : Array Value) (n : Nat), K.lookup a = some o ∧ o.cls = .type "list" ∧ o.dict = none ∧ o.data = .seq its n ∧ its.size ≤ sizeLine ∧ Vals (ns.map V.int) its.toList
section
variable {K : PySem.W.Frag} {ns xs : List Int} {e : Nat → Option Int} {a0 a1 : Addr} {σ : L2.St} {H : Hp}
theorem st_set {m k : ME} {t i : Int} {j : Nat} {D : Ends} (I : InM K ns xs e a0 a1 σ H) (hm : evM ns xs e m = some t) (hk : evM ns xs e k = some i) (hj : L2.ixN xs.length i = some j) (q : D.nx σ (upd H a1 (.lst ((xs.set j t).map V.int)))) : tAsg (tM K m) (gSub (tVar 1) (tM K k) rSetL) D σ H := by
  refine ev_tM (Q := fun x H1 => gSub (tVar 1) (tM K k) rSetL x σ H1 D.nx) I hm ?_
  refine ⟨_, I.s1, ev_tM (Q := fun y H2 => rSetL (.ref a1) y (.int t) H2 fun H3 => D.nx σ H3) I hk ?_⟩
  refine ⟨a1, xs.map V.int, i, j, rfl, rfl, I.h1, by rw [List.length_map]; exact hj, ?_⟩
  rw [← List.map_set]
  exact q
theorem st_nm {m : ME} {t : Int} {i : Nat} {D : Ends} (I : InM K ns xs e a0 a1 σ H) (hm : evM ns xs e m = some t) (q : D.nx (σ.set i (some (.int t))) H) : tAsg (tM K m) (gName i) D σ H :=
  ev_tM (Q := fun x H1 => gName i x σ H1 D.nx) I hm q
theorem InM.nm {t : Int} {i : Nat} (I : InM K ns xs e a0 a1 σ H) (h0 : i ≠ 0) (h1 : i ≠ 1) (hl : i < σ.length) : InM K ns xs (eSet e i t) a0 a1 (σ.set i (some (.int t))) H :=
  ⟨by rw [List.getElem?_set_ne h0]; exact I.s0, by rw [List.getElem?_set_ne h1]; exact I.s1, I.h0, I.h1, fun j k h => by
    unfold eSet at h
    split at h
    · rename_i e; subst e; cases h; exact List.getElem?_set_self hl
    · rename_i e; rw [List.getElem?_set_ne (Ne.symm e)]; exact I.v j k h⟩
theorem InM.at_ {H0 H' : Hp} {zs : List Int} (I : InM K ns xs e a0 a1 σ H) (h0 : ScrAt K ns H0 a0) (hn : ∀ o u, H0 a1 ≠ some (.frz o u)) (c : Chg a1 zs H0 H') : InM K ns zs e a0 a1 σ H' := ⟨I.s0, I.s1, sql_keep h0 c hn, c.at_, I.v⟩
end
theorem pow18 {ns xs : List Int} {e : Nat → Option Int} : evM ns xs e m5b = some 1000000000000000000 := by
  simp only [evM, binop]
  decide
theorem dp_ints {K : PySem.W.Frag} {H : Hp} : ∀ ns : List Int, DpAll K H (ns.map V.int) (ns.map PyData.int)
  | [] => .nil
  | n :: ns => .cons (.int n) (dp_ints ns)
theorem lay_ints : ∀ ns : List Int, PyData.canLayAll0 (ns.map PyData.int) = true ∧ PyData.depthAll (ns.map PyData.int) = 0
  | [] => ⟨rfl, rfl⟩
  | n :: ns => by
    obtain ⟨a, b⟩ := lay_ints ns
    simp only [List.map_cons, PyData.canLayAll0, PyData.depthAll, PyData.canLay0, PyData.depth, a, b]
    exact ⟨rfl, rfl⟩
theorem eqv_nil : ∀ ns : List Int, PyData.eqv (.list (ns.map PyData.int)) (.list []) = ns.isEmpty
  | [] => by decide
  | n :: ns => by simp [PyData.eqv, PyData.eqvAll]
theorem pure_draw {K : PySem.W.Frag} {ns xs ys : List Int} {limit r : Int} {a0 a1 : Addr} {H : Hp} {Q : VK} (h0 : ScrAt K ns H a0) (h1 : H a1 = some (.lst (xs.map V.int))) (hd : drawN ns xs limit = some (r, ys)) (q : ∀ H', Chg a1 ys H H' → Q (.int r) H') :
    tDraw K { nx := fun _ H' => Q .non H', rt := Q } [some (.ref a0), some (.ref a1), some (.int limit), none, none, none] H := by
  have hn : ∀ o u, H a1 ≠ some (.frz o u) := fun o u e => by rw [h1] at e; cases e
  have c0 : Chg a1 xs H H := ⟨h1, fun b o e _ => e, fun b e => e⟩
  have I0 : InM K ns xs (e0 limit) a0 a1 [some (.ref a0), some (.ref a1), some (.int limit), none, none, none] H := ⟨rfl, rfl, sql_keep h0 c0 hn, h1, fun i k h => by
    unfold e0 at h
    split at h
    · rename_i e; subst e; cases h; rfl
    · cases h⟩
  unfold drawN at hd
  split at hd
  · rename_i t j ht hj
    refine st_set I0 ht rfl hj ?_
    have c1 : Chg a1 (xs.set j t) H _ := c0.set
    have I1 := I0.at_ h0 hn c1
    -- script == []
    refine ⟨_, rfl, by rw [sizeLine_eq]; simp, fun p hp => ?_⟩
    have c2 := c1.new (o := .lst []) hp
    have I2 := I1.at_ h0 hn c2
    refine ⟨.list (ns.map PyData.int), .list [], .lst I2.h0 (dp_ints ns), .lst (SqL.of upd_same) .nil, ?_, by decide, ns.isEmpty, by rw [eqv_nil], ?_⟩
    · unfold SeqAt.shaped
      obtain ⟨l1, l2⟩ := lay_ints ns
      simp [PyData.canLay0, PyData.depth, l1, l2]
    cases hns : ns.isEmpty with
    | true =>
      rw [hns] at hd
      simp only [if_true, Option.map_eq_some_iff] at hd
      obtain ⟨r', hr, e⟩ := hd
      cases e
      exact iteT (ev_tM (Q := Q) I2 hr (q _ c2))
    | false =>
      rw [hns] at hd
      simp only [Bool.false_eq_true, if_false] at hd
      refine iteF ?_
      split at hd
      · cases hd
      · rename_i at_ hat
        refine st_nm I2 hat ?_
        have I3 := I2.nm (t := at_) (i := 3) (by decide) (by decide) (by simp)
        split at hd
        · cases hd
        · rename_i left hleft
          refine st_nm I3 hleft ?_
          have I4 := I3.nm (t := left) (i := 4) (by decide) (by decide) (by simp)
          split at hd
          · cases hd
          · rename_i sx hsx
            have tst : ∀ {Q' : Bool → Hp → Prop} {H' : Hp}, InM K ns (xs.set j t) (eSet (eSet (e0 limit) 3 at_) 4 left) a0 a1 (([some (.ref a0), some (.ref a1), some (.int limit), none, none, none].set 3 (some (.int at_))).set 4 (some (.int left))) H' → Q' (decide (1000000000000000000 ≤ sx) && decide (0 < left)) H' →
                tAnd (tTest (tOp (rI0 fun i j => .bl (decide (j ≤ i))) (tM K m5) (tM K m5b))) (tTest (tOp (rI0 fun i j => .bl (decide (j < i))) (tM K (.var 4)) (tM K (.int 0)))) (([some (.ref a0), some (.ref a1), some (.int limit), none, none, none].set 3 (some (.int at_))).set 4 (some (.int left))) H' Q' := by
              intro Q' H' I q'
              refine ev_tM (Q := fun v H1 => tM K m5b _ H1 fun w H2 => rI0 (fun i j => .bl (decide (j ≤ i))) v w H2 fun x H' => ∃ k, x = .bl k ∧ _) I hsx ?_
              refine ev_tM (Q := fun w H2 => rI0 (fun i j => .bl (decide (j ≤ i))) (.int sx) w H2 fun x H' => ∃ k, x = .bl k ∧ _) I pow18 ⟨_, _, rfl, rfl, _, rfl, ?_⟩
              cases hg : decide (1000000000000000000 ≤ sx) with
              | false =>
                rw [hg] at q'
                exact iteF q'
              | true =>
                rw [hg] at q'
                refine iteT ?_
                refine ⟨_, I.v 4 left (by unfold eSet; simp), ?_⟩
                exact ⟨_, _, rfl, rfl, _, rfl, q'⟩
            refine tst I4 ?_
            by_cases hc : 1000000000000000000 ≤ sx ∧ 0 < left
            · rw [if_pos hc] at hd
              have : (decide (1000000000000000000 ≤ sx) && decide (0 < left)) = true := by simp [hc.1, hc.2]
              rw [this]
              refine iteT ?_
              split at hd
              · rename_i qq j2 hq hj2
                obtain ⟨r', hr, e⟩ := Option.map_eq_some_iff.mp hd
                cases e
                refine st_set I4 hq (i := 1 + at_) ?_ hj2 ?_
                · show evM ns _ _ mi4 = _
                  simp [evM, binop, eSet]
                · have c5 : Chg a1 ((xs.set j t).set j2 qq) H _ := c2.set
                  exact ev_tM (Q := Q) (I4.at_ h0 hn c5) hr (q _ c5)
              · cases hd
            · rw [if_neg hc] at hd
              have : (decide (1000000000000000000 ≤ sx) && decide (0 < left)) = false := by
                cases hx : (decide (1000000000000000000 ≤ sx) && decide (0 < left)) with
                | false => rfl
                | true => simp at hx; exact absurd hx hc
              rw [this]
              refine iteF ?_
              split at hd
              · cases hd
              · rename_i n1 hn1
                refine st_nm I4 hn1 ?_
                have I5 := I4.nm (t := n1) (i := 5) (by decide) (by decide) (by simp)
                split at hd
                · cases hd
                · rename_i n2 hn2
                  refine st_nm I5 hn2 ?_
                  have I6 := I4.nm (t := n2) (i := 5) (by decide) (by decide) (by simp)
                  obtain ⟨r', hr, e⟩ := Option.map_eq_some_iff.mp hd
                  cases e
                  exact ev_tM (Q := Q) I6 hr (q _ c2)
  · cases hd
end Q7

/-! _law_draw and _law_town as defs. -/
namespace Q7
open PySem L2 PyProof.Rows
theorem mem_flatten_inT {ρ : Rho} {a : Addr} : a ∈ ρ.flatten ↔ inT ρ a := by
  unfold inT
  rw [List.mem_flatten]
  
theorem nodup_flat {ρ : Rho} : ∀ {k k' : Nat} {l l' : List Addr} {a : Addr}, ρ.flatten.Nodup → ρ[k]? = some l → ρ[k']? = some l' → a ∈ l → a ∈ l' → k = k' := by
  induction ρ with
  | nil => intro k k' l l' a _ h; simp at h
  | cons x ρ ih =>
    intro k k' l l' a nd h1 h2 m1 m2
    rw [List.flatten_cons, List.nodup_append] at nd
    obtain ⟨n1, n2, n3⟩ := nd
    cases k with
    | zero =>
      cases k' with
      | zero => rfl
      | succ k' =>
        simp at h1 h2
        subst h1
        exact absurd rfl (n3 a m1 a (List.mem_flatten.mpr ⟨l', List.mem_of_getElem? h2, m2⟩))
    | succ k =>
      cases k' with
      | zero =>
        simp at h1 h2
        subst h2
        exact absurd rfl (n3 a m2 a (List.mem_flatten.mpr ⟨l, List.mem_of_getElem? h1, m1⟩))
      | succ k' =>
        simp at h1 h2
        rw [ih n2 h1 h2 m1 m2]
section
variable {G : Gb} {ρ : Rho} {S : Sta} {H H' : Hp} {k : Nat} {a1 : Addr} {xs ys : List Int}
theorem chg_step (sr : StRel ρ S H) (hk : ρ[k]? = some [a1]) (c : Chg a1 ys H H') : Step ρ H ρ H' :=
  ⟨fun b o e n => c.keep b o e fun q => n ⟨[a1], List.mem_of_getElem? hk, by rw [q]; simp⟩, c.there, fun j b l e => ⟨l, e⟩, fun b e => .inl e⟩
theorem chg_st (sr : StRel ρ S H) (hk : ρ[k]? = some [a1]) (hs : S[k]? = some (.town xs)) (c : Chg a1 ys H H') : StRel ρ (S.set k (.town ys)) H' := by
  refine ⟨by rw [List.length_set]; exact sr.len, fun j l o e1 e2 => ?_, sr.nd⟩
  by_cases q : k = j
  · subst q
    have hl : k < S.length := (List.getElem?_eq_some_iff.mp hs).1
    rw [List.getElem?_set_self hl] at e2
    cases e2
    rw [hk] at e1; cases e1
    exact ⟨a1, rfl, c.at_⟩
  · rw [List.getElem?_set_ne q] at e2
    refine (sr.ok j l o e1 e2).same fun b hb => ?_
    have hne : b ≠ a1 := fun e => q (nodup_flat (a := a1) sr.nd hk e1 (by simp) (by rw [← e]; exact hb))
    obtain ⟨u, hu, _⟩ := sr.mu ⟨l, List.mem_of_getElem? e1, hb⟩
    rw [hu]; exact c.keep b u hu hne
end
theorem len3 {ds : List D} {S : Sta} {ns : List Int} (h : ds.length ≠ 3) : drawF ns ds S = .bad := by
  unfold drawF
  split
  · simp at h
  · rfl
def psD : List Str := ["script", "town", "limit"]
section
variable {P : Program} {w : World} {K : PySem.W.Frag} {mg : Str → Option Value} {base : Heap} {G : Gb} {FN CN : List Str} {k : Nat} {T : List Fn}
theorem draw_ok (Tb : Tab P w K mg base G FN CN k T) {x qual : Str} {params : Arguments} {body : List Stmt} {scope : Scope} {f : Addr} {fd : FuncData} {N : List Str} (F : FunD K x qual params body scope [] [] f fd) (Sc : FnScope N psD scope) (hN : N.length = 6) (hc : drawB ⟨N, FN, CN⟩ scope body = true) :
    FnOk P w K mg base (L2.CX P w) (k + 1) f fd psD (spOf G 3 (drawF G.ns)) := by
  refine F.ok Sc (fun vs H Q E h => by obtain ⟨_, _, _, _, _, _, _, hn, _⟩ := h; exact hn) fun cdv A outer s H vs Q E hr h => ?_
  obtain ⟨B, ρ, S, ds, hB, sr, dl, hn, P0⟩ := h
  have C := Tb.ctS (N := N) (qual := qual) (scope := scope) (f := f) (cdv := cdv) (A := A) (outer := outer) (s := s) (H := H) (E := E) Sc.nd hr
  refine ⟨_, draw_pss C hc, ?_⟩
  unfold drawF at P0
  split at P0
  · rename_i kk limit
    cases dl with
    | cons d0 dl =>
    cases dl with
    | cons d1 dl =>
    cases dl with
    | cons d2 dl =>
    cases dl
    cases hs : S[kk]? with
    | none => rw [hs] at P0; exact P0.elim
    | some so =>
      cases so with
      | town xs =>
        rw [hs] at P0
        cases hd : drawN G.ns xs limit with
        | none => simp only [hd] at P0; exact P0.elim
        | some p =>
          obtain ⟨r, ys⟩ := p
          simp only [hd] at P0
          cases d0 with
          | scr hscr =>
          cases d1 with
          | ref hρ =>
          cases d2
          obtain ⟨a, ea, hH⟩ := sr.ok kk _ _ hρ hs
          cases ea
          have hst : ∀ u v : V, L2.start N [u, v, .int limit] = [some u, some v, some (.int limit), none, none, none] := fun u v => by
            unfold L2.start
            rw [hN]; rfl
          rw [hst]
          exact pure_draw (by rw [Tb.gk] at hscr; exact hscr) hH hd fun H' c => P0 _ H' ρ (chg_step sr hρ c) (chg_st sr hρ hs c) (.int r)
  · exact P0.elim
/-! the town is made -/
def townF (ns : List Int) : Fn := fun ds S => match ds with
  | [.scr] => if ns.length ≤ 1000 then .ok (.ref S.length) (S ++ [.town (0 :: ns)]) else .bad
  | _ => .bad
theorem len1 {ds : List D} {S : Sta} {ns : List Int} (h : ds.length ≠ 1) : townF ns ds S = .bad := by
  unfold townF
  split
  · simp at h
  · rfl
def townB (Z : Names) (sc : Scope) : List Stmt → Bool
  | [.Return (some (.BinOp (.List [.Constant (.int i) _ _] _) .Add (.Call (.Name y _) [.Name x _] [] _) _)) _] => decide (i = 0) && (decide (y = ("list" : Str)) && (glB sc y && varB Z.N sc 0 x))
  | _ => false
theorem town_ok (Tb : Tab P w K mg base G FN CN k T) {x qual : Str} {params : Arguments} {body : List Stmt} {scope : Scope} {f : Addr} {fd : FuncData} {N : List Str} (F : FunD K x qual params body scope [] [] f fd) (Sc : FnScope N ["script"] scope) (hc : townB ⟨N, FN, CN⟩ scope body = true) :
    FnOk P w K mg base (L2.CX P w) (k + 1) f fd ["script"] (spOf G 1 (townF G.ns)) := by
  refine F.ok Sc (fun vs H Q E h => by obtain ⟨_, _, _, _, _, _, _, hn, _⟩ := h; exact hn) fun cdv A outer s H vs Q E hr h => ?_
  obtain ⟨B, ρ, S, ds, hB, sr, dl, hn, P0⟩ := h
  have C := Tb.ctS (N := N) (qual := qual) (scope := scope) (f := f) (cdv := cdv) (A := A) (outer := outer) (s := s) (H := H) (E := E) Sc.nd hr
  unfold townB at hc
  split at hc
  · simp only [Bool.and_eq_true, decide_eq_true_eq] at hc
    obtain ⟨rfl, rfl, g1, v1⟩ := hc
    have g := C.ct.gl g1
    refine ⟨_, pss_one (ps_ret (pe_op op_cat (pe_lst (pa_cons pe_int pa_nil)) (pe_callTy (x := "list") call_list_of g.1 (C.ct.blt _ (by decide)) (boot_blt .list) (pa_cons (pe_name C.ct v1) pa_nil (nostar rfl)) g.2.2 g.2.1 (nostar rfl) rfl))), ?_⟩
    unfold townF at P0
    split at P0
    · cases dl with
      | cons d0 dl =>
      cases dl
      cases d0 with
      | @scr a hscr =>
      by_cases hz : G.ns.length ≤ 1000
      · rw [if_pos hz] at P0
        rw [Tb.gk] at hscr
        have hst : (L2.start N [V.ref a])[0]? = some (some (.ref a)) := by unfold L2.start; rfl
        have sq : ∀ {H' : Hp}, (∀ b o, H b = some o → H' b = some o) → SqL K H' a (G.ns.map V.int) := fun {H'} kp => hscr.imp (fun ⟨o, e⟩ => .inr ⟨o, kp _ _ e⟩) id
        refine ⟨by rw [sizeLine_eq]; simp, fun p hp => ?_⟩
        have k1 : ∀ b o, H b = some o → (upd H p (.lst [V.int 0])) b = some o := fun b o e => by rw [upd_ne (ne_of_none e hp)]; exact e
        refine ⟨_, hst, a, G.ns.map V.int, rfl, .inl (sq k1), fun p2 hp2 => ?_⟩
        have k2 : ∀ b o, H b = some o → (upd (upd H p (.lst [V.int 0])) p2 (.lst (G.ns.map V.int))) b = some o := fun b o e => by rw [upd_ne (ne_of_none (k1 b o e) hp2)]; exact k1 b o e
        have e1 : (upd (upd H p (.lst [V.int 0])) p2 (.lst (G.ns.map V.int))) p = some (.lst [V.int 0]) := by rw [upd_ne (fun q => by rw [← q, upd_same] at hp2; cases hp2)]; exact upd_same
        refine ⟨p, p2, [V.int 0], G.ns.map V.int, rfl, rfl, e1, upd_same, by rw [List.length_map, sizeLine_eq]; simp; omega, fun p3 hp3 => ?_⟩
        have k3 : ∀ b o, H b = some o → (upd (upd (upd H p (.lst [V.int 0])) p2 (.lst (G.ns.map V.int))) p3 (.lst ([V.int 0] ++ G.ns.map V.int))) b = some o := fun b o e => by rw [upd_ne (ne_of_none (k2 b o e) hp3)]; exact k2 b o e
        have n3 : H p3 = none := by
          cases q : H p3 with
          | none => rfl
          | some o => rw [k2 p3 o q] at hp3; cases hp3
        have there : ∀ b, (upd (upd (upd H p (.lst [V.int 0])) p2 (.lst (G.ns.map V.int))) p3 (.lst ([V.int 0] ++ G.ns.map V.int))) b = none → H b = none := fun b e => by
          cases q : H b with
          | none => rfl
          | some o => rw [k3 b o q] at e; cases e
        refine P0 _ _ (ρ ++ [[p3]]) ⟨fun b o e _ => k3 b o e, there, fun j b l e => ⟨l, ?_⟩, fun b e => ?_⟩ ⟨by simp [sr.len], fun j l o e1 e2 => ?_, ?_⟩ (.ref (l := []) ?_)
        · rw [List.getElem?_append_left (List.getElem?_eq_some_iff.mp e).1]; exact e
        · obtain ⟨l, hl, hb⟩ := e
          rcases List.mem_append.mp hl with hl | hl
          · exact .inl ⟨l, hl, hb⟩
          · simp at hl; subst hl
            simp at hb; subst hb
            exact .inr n3
        · rcases Nat.lt_or_ge j ρ.length with hj | hj
          · rw [List.getElem?_append_left hj] at e1
            rw [List.getElem?_append_left (by rw [← sr.len]; exact hj)] at e2
            refine (sr.ok j l o e1 e2).same fun b hb => ?_
            obtain ⟨u, hu, _⟩ := sr.mu ⟨l, List.mem_of_getElem? e1, hb⟩
            rw [hu]; exact k3 b u hu
          · rw [List.getElem?_append_right hj] at e1
            rw [List.getElem?_append_right (by rw [← sr.len]; exact hj), ← sr.len] at e2
            have hz : j - ρ.length = 0 := by
              have := (List.getElem?_eq_some_iff.mp e1).1
              simp at this; omega
            rw [hz] at e1 e2
            cases e1; cases e2
            exact ⟨p3, rfl, upd_same⟩
        · rw [List.flatten_append, List.nodup_append]
          refine ⟨sr.nd, by simp, fun b hb c hc e => ?_⟩
          subst e
          simp at hc
          subst hc
          obtain ⟨u, hu, _⟩ := sr.mu (mem_flatten_inT.mp hb)
          rw [n3] at hu; cases hu
        · rw [← sr.len, List.getElem?_append_right (Nat.le_refl _)]; simp
      · rw [if_neg hz] at P0; exact P0.elim
    · exact P0.elim
  · cases hc
end
end Q7

/-! What the head tells. -/
namespace Q7
open PySem L2 PyProof.Rows He
def excCB (K : PySem.W.Frag) (D : Addr) : Bool :=
  He.eqO (PySem.W.findIn K (.ref D) "__getattribute__") (some (some (.builtin "BaseException.__getattribute__"))) && (He.eqO (PySem.W.findIn K (.ref D) "__getattr__") (some none) && (decide (PySem.W.subIn K (.ref D) (.type "BaseException") = some true) && (PySem.W.hasDictIn K D &&
  (He.eqO (PySem.W.findIn K (.ref D) "__class__") (some (some (.builtin "object.__class__"))) && (He.eqO (PySem.W.specialIn K (.builtin "object.__class__") "__get__") (some (some (.builtin "getset_descriptor.__get__"))) && (decide (PySem.W.takesIn K (.builtin "object.__class__") = some true) && decide (PySem.W.mroIn K D (.type "object") = some true)))))))
theorem excCB_ok {K : PySem.W.Frag} {D : Addr} (h : excCB K D = true) : ExcC K D := by
  unfold excCB at h
  simp only [Bool.and_eq_true, decide_eq_true_eq] at h
  obtain ⟨h1, h2, h3, h4, h5, h6, h7, h8⟩ := h
  exact ⟨He.eqO_ok h1, He.eqO_ok h2, h3, h4, He.eqO_ok h5, He.eqO_ok h6, h7, h8⟩
/-- the facts of the classes, the free names, the defs' names -/
def headB (CN FN : List Str) (K : PySem.W.Frag) : Bool :=
  CN.all (fun x => (Fa.glo x).ok K && ((Fa.exc x).ok K && (excCB K (ga K x) && decide (PySem.W.kitOne K (.ref (ga K x)) (.type "ValueError") = some true)))) &&
  (CN.all (fun x => CN.all fun y => decide (PySem.W.kitOne K (.ref (ga K x)) (.ref (ga K y)) = some (decide (x = y)))) &&
  ((Fa.glo "SlopeError").ok K && (CN.all (fun x => decide (PySem.W.exmOne K (.ref (ga K x)) (.ref (ga K "SlopeError")) = some true)) &&
  (bltNames.all (fun x => (Fa.free x).ok K) && FN.all (fun x => (Fa.glo x).ok K)))))
abbrev AlQ : Type := AlD × Bool
def obsQ (n : Nat) (fn : List DefD) (ex : PySem.W.Frag → Bool) (g : Addr → Option Obj) : AlQ := (obsD [] fn (frG g (asD g n)), ex (frG g (asD g n)))
def hookQ (n : Nat) (fn : List DefD) (ex : PySem.W.Frag → Bool) : PySem.W.Hook where
  α := AlQ
  obs := fun s => obsQ n fn ex s.heap.get?
  val := fun _ => (valD fn, true)
  says := fun _ h => ∃ K : PySem.W.Frag, K.In h ∧ SaysD [] fn K ∧ ex K = true
  of := fun _ _ e => ⟨_, frG_in, congrArg (fun z : AlQ => z.1) e, congrArg (fun z : AlQ => z.2) e⟩
  keeps := fun _ _ _ ⟨K, hK, c⟩ k => ⟨K, PySem.W.Frag.In.keeps hK k, c⟩
theorem obsQ_eq {n : Nat} {fn : List DefD} {ex : PySem.W.Frag → Bool} {g : Addr → Option Obj} {s : Shared} (h : ∀ a, g a = s.heap.get? a) : obsQ n fn ex g = (hookQ n fn ex).obs s := by
  have e : g = s.heap.get? := funext h
  rw [e] <;> rfl
def gbOf (K : PySem.W.Frag) (CN : List Str) (ns : List Int) : Gb := ⟨K, ns, fun c => ga K (CN.getD c (Str.ofString ""))⟩
section
variable {P : Program} {w : World} {K : PySem.W.Frag} {mg : Str → Option Value} {base h : Heap} {CN FN : List Str}
theorem getD_some {α : Type} {l : List α} {i : Nat} {d x : α} (h : l[i]? = some x) : l.getD i d = x := by
  rw [List.getD_eq_getElem?_getD, h]; rfl
theorem tab0 (X : K.In h) (Gn : h.Ns mainGlobals mg) (hc : headB CN FN K = true) (h18 : CN.length = 18) (nd : CN.Nodup) (ns : List Int) : Tab P w K mg base (gbOf K CN ns) [] CN 0 [] := by
  unfold headB at hc
  simp only [Bool.and_eq_true, List.all_eq_true, decide_eq_true_eq] at hc
  obtain ⟨c1, c2, c3, c4, c5, c6⟩ := hc
  have at_ : ∀ c, c < 18 → ∃ x, CN[c]? = some x ∧ x ∈ CN ∧ (gbOf K CN ns).cls c = ga K x := fun c hl => by
    have hl' : c < CN.length := by rw [h18]; exact hl
    exact ⟨CN[c], List.getElem?_eq_getElem hl', List.getElem_mem hl', by show ga K (CN.getD c _) = _; rw [getD_some (List.getElem?_eq_getElem hl')]⟩
  have nm : ∀ (c : Nat) x, CN[c]? = some x → x ∈ CN ∧ (gbOf K CN ns).cls c = ga K x := fun c x e => ⟨List.mem_of_getElem? e, by show ga K (CN.getD c _) = _; rw [getD_some e]⟩
  refine ⟨rfl, rfl, fun f F e => by simp at e, fun c x e => ?_, fun x hx => free_ok X Gn (c5 x hx), fun c hc => ?_, h18, ⟨_, glo_ok X Gn c3, fun c hc => ?_⟩⟩
  · obtain ⟨hm, hg⟩ := nm c x e
    rw [hg]
    obtain ⟨q1, q2, q3, q4⟩ := c1 x hm
    obtain ⟨e1, e2, e3, e4⟩ := exc_ok q2
    exact ⟨glo_ok X Gn q1, e2, ⟨_, _, _, _, PySem.F.excBase_ValueError, e1⟩, e3, e4⟩
  · obtain ⟨x, hx, hm, hg⟩ := at_ c hc
    rw [hg]
    obtain ⟨q1, q2, q3, q4⟩ := c1 x hm
    refine ⟨excCB_ok q3, q4, fun k hk => ?_⟩
    obtain ⟨y, hy, hm2, hg2⟩ := at_ k hk
    rw [hg2, c2 x hm y hm2]
    congr 1
    have hx' := List.getElem?_eq_some_iff.mp hx
    have hy' := List.getElem?_eq_some_iff.mp hy
    obtain ⟨l1, e1⟩ := hx'
    obtain ⟨l2, e2⟩ := hy'
    by_cases q : c = k
    · subst q
      rw [e1] at e2
      simp [e2]
    · have : x ≠ y := fun z => q ((List.getElem_inj nd).mp (by rw [e1, e2, z]))
      simp [q, this]
  · obtain ⟨x, hx, hm, hg⟩ := at_ c hc
    rw [hg]
    exact c4 x hm
end
end Q7

/-! The law's own promise. -/
namespace Q7
open PySem L2 PyProof.Rows
def noCX : CXT := fun _ _ _ _ _ _ => False
theorem fn_calm {P : Program} {w : World} {K : PySem.W.Frag} {mg : Str → Option Value} {base : Heap} {k : Nat} {f : Addr} {fd : FuncData} {ps : List Str} {sp : Sp} (F : FnOk P w K mg base (L2.CX P w) k f fd ps sp) : FnOk P w K mg base noCX k f fd ps (fun vs H Q _ => sp vs H Q noX) where
  len := fun vs H Q _ h => F.len vs H Q noX h
  run := fun A outer s H args us vs Q E hr he hb hv hs => codeAny_mono (F.run A outer s H args us vs Q noX hr he hb hv hs) fun r s' h => by
    cases r with
    | error e =>
      obtain ⟨_, _, _, _, _, _, _, _, _, _, _, _, z⟩ := h
      exact z.elim
    | ok fl => cases fl <;> exact h
/-- over all scripts of at most 63 numbers -/
def spLaw (K : PySem.W.Frag) (CN : List Str) (F : List Int → Fn) : Sp := fun vs H Q _ => ∃ ns : List Int, ns.length ≤ 63 ∧ spOf (gbOf K CN ns) 1 (F ns) vs H Q noX
theorem law_ok {P : Program} {w : World} {K : PySem.W.Frag} {mg : Str → Option Value} {base : Heap} {k : Nat} {f : Addr} {fd : FuncData} {CN : List Str} {F : List Int → Fn} (h : ∀ ns, FnOk P w K mg base (L2.CX P w) k f fd ["script"] (spOf (gbOf K CN ns) 1 (F ns))) : FnOk P w K mg base noCX k f fd ["script"] (spLaw K CN F) where
  len := fun vs H Q E ⟨ns, _, h⟩ => by obtain ⟨_, _, _, _, _, _, _, hn, _⟩ := h; exact hn
  run := fun A outer s H args us vs Q E hr he hb hv ⟨ns, _, hs⟩ => (fn_calm (h ns)).run A outer s H args us vs Q E hr he hb hv hs
theorem law_sp {K : PySem.W.Frag} {CN : List Str} {F : List Int → Fn} (good : ∀ ns : List Int, ns.length ≤ 63 → ∃ S', F ns [.scr] [] = .ok (.bool true) S') {H : Hp} {a : Addr} {ns : List Int} (hl : ns.length ≤ 63) (ho : Only H) (hs : SqL K H a (ns.map V.int)) (E : XK) : spLaw K CN F [.ref a] H (fun v _ => v = .bl true) E := by
  obtain ⟨S', e⟩ := good ns hl
  refine ⟨ns, hl, fun _ => False, [], [], [.scr], fun _ h => h.elim, ⟨rfl, fun k l o h => by simp at h, by simp⟩, .cons (.scr ?_) .nil, rfl, ?_⟩
  · rcases hs with (h | ⟨o, h⟩) | h
    · rcases ho a with q | ⟨o, xs, q⟩
      · rw [h] at q; cases q
      · rw [h] at q; cases q
    · exact .inl ⟨o, h⟩
    · exact .inr h
  · rw [e]
    intro v H' ρ' _ _ d
    cases d; rfl
end Q7

/-! How great elimination's numbers become: determinants. -/
namespace Lin
/-- the alternating sum over a list, one element taken out -/
def lap {R : Type} (g : R → Int) (F : List R → Int) : List R → Int
  | [] => 0
  | r :: rs => g r * F rs - lap g (fun l => F (r :: l)) rs
theorem lap_congr {R : Type} {g : R → Int} {F G : List R → Int} (h : ∀ l, F l = G l) (rs : List R) : lap g F rs = lap g G rs := by
  have : F = G := funext h
  rw [this]
theorem lap_lin {R : Type} (g : R → Int) (a b : Int) : ∀ (rs : List R) (F G : List R → Int), lap g (fun l => a * F l + b * G l) rs = a * lap g F rs + b * lap g G rs
  | [], _, _ => by simp [lap]
  | r :: rs, F, G => by
    unfold lap
    rw [lap_lin g a b rs (fun l => F (r :: l)) (fun l => G (r :: l))]
    simp only [Int.mul_add, Int.mul_sub, Int.mul_left_comm (g r)]
    omega
/-- two in a row change places -/
theorem lap_swap {R : Type} (a b : R → Int) : ∀ (rs : List R) (F : List R → Int), lap a (fun l => lap b F l) rs = - lap b (fun l => lap a F l) rs
  | [], _ => by simp [lap]
  | r :: rs, F => by
    have e1 := lap_lin a (b r) (-1) rs F (fun l => lap b (fun m => F (r :: m)) l)
    have e2 := lap_lin b (a r) (-1) rs F (fun l => lap a (fun m => F (r :: m)) l)
    have c1 : lap a (fun l => lap b F (r :: l)) rs = lap a (fun l => b r * F l + -1 * lap b (fun m => F (r :: m)) l) rs := lap_congr (fun l => by
      show b r * F l - lap b (fun m => F (r :: m)) l = _
      omega) rs
    have c2 : lap b (fun l => lap a F (r :: l)) rs = lap b (fun l => a r * F l + -1 * lap a (fun m => F (r :: m)) l) rs := lap_congr (fun l => by
      show a r * F l - lap a (fun m => F (r :: m)) l = _
      omega) rs
    have ih := lap_swap a b rs (fun m => F (r :: m))
    show a r * lap b F rs - lap a (fun l => lap b F (r :: l)) rs = -(b r * lap a F rs - lap b (fun l => lap a F (r :: l)) rs)
    rw [c1, c2, e1, e2, ih]
    omega
/-- rows' determinant on columns -/
def det : List Nat → List (List Int) → Int
  | [], _ => 1
  | c :: cs, rows => lap (fun r => en r c) (det cs) rows
theorem det_perm {cs ds : List Nat} (h : cs.Perm ds) : ∃ s : Int, (s = 1 ∨ s = -1) ∧ ∀ rows, det cs rows = s * det ds rows := by
  induction h with
  | nil => exact ⟨1, .inl rfl, fun _ => (Int.one_mul _).symm⟩
  | cons c _ ih =>
    rename_i l1 l2 _
    obtain ⟨s, hs, e⟩ := ih
    refine ⟨s, hs, fun rows => ?_⟩
    show lap (fun r => en r c) (det l1) rows = s * lap (fun r => en r c) (det l2) rows
    rw [lap_congr (fun l => e l)]
    have := lap_lin (fun r => en r c) s 0 rows (det l2) (fun _ => 0)
    simp only [Int.zero_mul, Int.add_zero, Int.mul_zero] at this
    exact this
  | swap a b l =>
    refine ⟨-1, .inr rfl, fun rows => ?_⟩
    show lap (fun r => en r b) (fun m => lap (fun r => en r a) (det l) m) rows = -1 * lap (fun r => en r a) (fun m => lap (fun r => en r b) (det l) m) rows
    rw [lap_swap]
    omega
  | trans _ _ ih1 ih2 =>
    obtain ⟨s, hs, e⟩ := ih1
    obtain ⟨t, ht, f⟩ := ih2
    refine ⟨s * t, ?_, fun rows => by rw [e, f, Int.mul_assoc]⟩
    rcases hs with rfl | rfl <;> rcases ht with rfl | rfl <;> simp
theorem det_two (c : Nat) (cs : List Nat) (rows : List (List Int)) : det (c :: c :: cs) rows = 0 := by
  have : det (c :: c :: cs) rows = - det (c :: c :: cs) rows := lap_swap (fun r => en r c) (fun r => en r c) rows (det cs)
  omega
theorem det_mem {c : Nat} {cs : List Nat} (h : c ∈ cs) (rows : List (List Int)) : det (c :: cs) rows = 0 := by
  have hp : (c :: cs).Perm (c :: c :: cs.erase c) := (List.perm_cons_erase h).cons c
  obtain ⟨s, _, e⟩ := det_perm hp
  rw [e, det_two, Int.mul_zero]
/-- bound by columns -/
theorem lap_bd {R : Type} (g : R → Int) (B : Nat) : ∀ (rs : List R) (F : List R → Int) (C : Nat), (∀ l, l.length + 1 = rs.length → (F l).natAbs ≤ C) → (∀ r ∈ rs, (g r).natAbs ≤ B) → (lap g F rs).natAbs ≤ rs.length * B * C
  | [], _, _, _, _ => by simp [lap]
  | r :: rs, F, C, hF, hg => by
    have ih := lap_bd g B rs (fun l => F (r :: l)) C (fun l hl => hF (r :: l) (by simp; omega)) (fun x hx => hg x (by simp [hx]))
    have h1 : (g r * F rs).natAbs ≤ B * C := by
      rw [Int.natAbs_mul]
      exact Nat.mul_le_mul (hg r (by simp)) (hF rs (by simp))
    show (g r * F rs - lap g (fun l => F (r :: l)) rs).natAbs ≤ (rs.length + 1) * B * C
    rw [Nat.add_mul, Nat.add_mul, Nat.one_mul]
    omega
theorem det_bd (B : Nat) (K : Nat) : ∀ (cs : List Nat) (rows : List (List Int)), rows.length ≤ K → (∀ r ∈ rows, ∀ c, (en r c).natAbs ≤ B) → cs.length = rows.length → True → (det cs rows).natAbs ≤ (K * B) ^ cs.length := by
  intro cs
  have all : ∀ (cs : List Nat) (n : Nat), (∀ l : List (List Int), True) → True := fun _ _ _ => trivial
  induction cs with
  | nil => intro rows _ _ _ _; simp [det]
  | cons c cs ih =>
    intro rows hK hB hl _
    have key : ∀ (rs : List (List Int)) (F : List (List Int) → Int) (C : Nat), (∀ l : List (List Int), (∀ x ∈ l, x ∈ rs) → l.length + 1 = rs.length → (F l).natAbs ≤ C) → (∀ r ∈ rs, (en r c).natAbs ≤ B) → (lap (fun r => en r c) F rs).natAbs ≤ rs.length * B * C := by
      intro rs
      induction rs with
      | nil => intro F C _ _; simp [lap]
      | cons r rs ihr =>
        intro F C hF hg
        have i1 := ihr (fun l => F (r :: l)) C (fun l hm hl => hF (r :: l) (fun x hx => by
          rcases List.mem_cons.mp hx with rfl | hx
          · simp
          · simp [hm x hx]) (by simp; omega)) (fun x hx => hg x (by simp [hx]))
        have h1 : (en r c * F rs).natAbs ≤ B * C := by
          rw [Int.natAbs_mul]
          exact Nat.mul_le_mul (hg r (by simp)) (hF rs (fun x hx => by simp [hx]) (by simp))
        show (en r c * F rs - lap (fun r => en r c) (fun l => F (r :: l)) rs).natAbs ≤ (rs.length + 1) * B * C
        rw [Nat.add_mul, Nat.add_mul, Nat.one_mul]
        omega
    have := key rows (det cs) ((K * B) ^ cs.length) (fun l hm hl2 => ih l (by omega) (fun r hr => hB r (hm r hr)) (by simp at hl; omega) trivial) (fun r hr => hB r hr c)
    show (lap (fun r => en r c) (det cs) rows).natAbs ≤ (K * B) ^ (cs.length + 1)
    rw [Nat.pow_succ, Nat.mul_comm ((K * B) ^ cs.length)]
    exact Nat.le_trans this (Nat.mul_le_mul_right _ (Nat.mul_le_mul_right _ hK))
/-! spans -/
inductive Sp (own : List (List Int)) : (Nat → Int) → Prop
  | base {r : List Int} : r ∈ own → Sp own (en r)
  | zero : Sp own fun _ => 0
  | lin {f g : Nat → Int} (a b : Int) : Sp own f → Sp own g → Sp own fun i => a * f i + b * g i
  | div {f : Nat → Int} (k : Int) : k ≠ 0 → Sp own (fun i => k * f i) → Sp own f
theorem Sp.trans {A B : List (List Int)} {f : Nat → Int} (h : Sp A f) (hAB : ∀ r ∈ A, Sp B (en r)) : Sp B f := by
  induction h with
  | base hr => exact hAB _ hr
  | zero => exact .zero
  | lin a b _ _ i1 i2 => exact .lin a b i1 i2
  | div k hk _ ih => exact .div k hk ih
theorem Sp.null {own : List (List Int)} {f : Nat → Int} (h : Sp own f) {w : Nat} {v : Nat → Int} (hv : ∀ r ∈ own, dot w (en r) v = 0) : dot w f v = 0 := by
  induction h with
  | base hr => exact hv _ hr
  | zero => exact sum_zero fun i _ => Int.zero_mul _
  | lin a b _ _ i1 i2 => rw [dot_lin, i1, i2]; simp
  | div k hk _ ih =>
    rename_i f _
    have := dot_scale (w := w) (v := v) (g := k) (d := f) (c := fun i => k * f i) (fun i => rfl)
    rw [ih] at this
    exact mul_cancel hk this.symm
theorem Sp.scale {own : List (List Int)} {f : Nat → Int} (k : Int) (h : Sp own f) : Sp own fun i => k * f i := by
  have := Sp.lin k 0 h h
  simpa using this
theorem Sp.lap {own : List (List Int)} (c0 : Nat → Nat) : ∀ (rows : List (List Int)) (F : List (List Int) → Int), (∀ r ∈ rows, Sp own (en r)) → Sp own fun c => lap (fun r => en r c) F rows
  | [], F, _ => .zero
  | r :: rs, F, h => by
    have i1 := Sp.lap c0 rs (fun l => F (r :: l)) fun x hx => h x (by simp [hx])
    have := Sp.lin (F rs) (-1) (h r (by simp)) i1
    have e : (fun c => Lin.lap (fun r => en r c) F (r :: rs)) = fun i => F rs * en r i + -1 * Lin.lap (fun r => en r i) (fun l => F (r :: l)) rs := by
      funext c
      show en r c * F rs - Lin.lap (fun r => en r c) (fun l => F (r :: l)) rs = _
      rw [Int.mul_comm]; omega
    rw [e]
    exact this
/-- a free place has a solution -/
theorem sol_ex {w : Nat} {f : Nat} : ∀ {own : List (List Int)}, Sys w own → (∀ r ∈ own, firstF r ≠ some f) → ∃ u, IsSol w own f u
  | [], _, _ => ⟨fun i => if i = f then 1 else 0, by simp, by simp, fun i _ hi _ => if_neg hi⟩
  | r :: own, h, hf => by
    have hp := List.pairwise_cons.mp h.pair
    obtain ⟨u, u1, u2, u3⟩ := sol_ex (own := own) (f := f) ⟨fun r hr => h.len r (by simp [hr]), fun r hr => h.fst r (by simp [hr]), hp.2⟩ (fun s hs => hf s (by simp [hs]))
    obtain ⟨pl, hpl⟩ := h.fst r (by simp)
    have hn := (first_some.mp hpl).1
    have hne : f ≠ pl := fun e => hf r (by simp) (by rw [hpl, e])
    refine ⟨fun i => if i = pl then -en r f * u f else en r pl * u i, ?_, fun s hs q hq => ?_, fun i hi hif hi2 => ?_⟩
    · show (if f = pl then -en r f * u f else en r pl * u f) ≠ 0
      rw [if_neg hne]
      exact Int.mul_ne_zero hn u1
    · show (if q = pl then -en r f * u f else en r pl * u q) * en s q = -en s f * (if f = pl then -en r f * u f else en r pl * u f)
      rw [if_neg hne]
      rcases List.mem_cons.mp hs with rfl | hs
      · have e : q = pl := by rw [hpl] at hq; exact (Option.some.inj hq).symm
        rw [e, if_pos rfl, Int.mul_assoc, Int.mul_comm (u f)]
      · have e : q ≠ pl := fun e => by
          subst e
          exact (first_some.mp hq).1 ((hp.1 s hs).2 q hpl)
        rw [if_neg e, Int.mul_assoc, u2 s hs q hq, Int.mul_left_comm]
    · show (if i = pl then -en r f * u f else en r pl * u i) = 0
      rw [if_neg (fun e => hi2 r (by simp) (by rw [hpl, e])), u3 i hi hif fun s hs => hi2 s (by simp [hs]), Int.mul_zero]
/-- what is nothing at the first places is nothing -/
theorem Sp.uniq {w : Nat} {own : List (List Int)} (h : Sys w own) {f : Nat → Int} (hf : Sp own f) (hz : ∀ r ∈ own, ∀ pl, firstF r = some pl → f pl = 0) : ∀ c, c < w → f c = 0 := by
  intro c hc
  by_cases hfree : ∀ r ∈ own, firstF r ≠ some c
  · obtain ⟨u, hu⟩ := sol_ex h hfree
    have hn := hf.null (sol_null h hc hfree hu)
    unfold dot at hn
    rw [sum_one (a := c) hc fun j hj hne => ?_] at hn
    · rcases Int.mul_eq_zero.mp hn with h | h
      · exact h
      · exact absurd h hu.1
    · by_cases hj' : ∀ s ∈ own, firstF s ≠ some j
      · rw [hu.2.2 j hj hne hj', Int.mul_zero]
      · have : ∃ s, s ∈ own ∧ firstF s = some j := Classical.byContradiction fun hc => hj' fun s hs e => hc ⟨s, hs, e⟩
        obtain ⟨s, hs, e⟩ := this
        rw [hz s hs j e, Int.zero_mul]
  · have : ∃ s, s ∈ own ∧ firstF s = some c := Classical.byContradiction fun hc => hfree fun s hs e => hc ⟨s, hs, e⟩
    obtain ⟨s, hs, e⟩ := this
    exact hz s hs c e
theorem Red.sp {o r r' : List Int} (h : Red o r r') : Sp [r', o] (en r) ∧ Sp [r, o] (en r') ∧ ∃ A G : Int, A ≠ 0 ∧ G ≠ 0 ∧ Sp [o] fun i => G * en r' i - A * en r i := by
  obtain ⟨pl, hp, h⟩ := h
  rcases h with ⟨_, rfl⟩ | ⟨hn, _, g, hg, h⟩
  · refine ⟨.base (by simp), .base (by simp), 1, 1, by decide, by decide, ?_⟩
    have e : (fun i => 1 * en r' i - 1 * en r' i) = fun _ => (0 : Int) := by funext i; omega
    rw [e]; exact .zero
  · have ho := (first_some.mp hp).1
    refine ⟨.div (en o pl) ho ?_, .div g hg ?_, en o pl, g, ho, hg, ?_⟩
    · have e : (fun i => en o pl * en r i) = fun i => g * en r' i + en r pl * en o i := by
        funext i
        rw [h i, Int.mul_comm]; omega
      rw [e]
      exact .lin g (en r pl) (.base (by simp)) (.base (by simp))
    · have e : (fun i => g * en r' i) = fun i => en o pl * en r i + (-en r pl) * en o i := by
        funext i
        rw [h i, Int.mul_comm (en o pl), Int.neg_mul]; omega
      rw [e]
      exact .lin _ _ (.base (by simp)) (.base (by simp))
    · have e : (fun i => g * en r' i - en o pl * en r i) = fun i => (-en r pl) * en o i := by
        funext i
        rw [h i, Int.mul_comm (en o pl), Int.neg_mul]; omega
      rw [e]
      exact Sp.scale _ (.base (by simp))
theorem Chain.sp {os : List (List Int)} {r r' : List Int} (h : Chain os r r') : ∃ A G : Int, A ≠ 0 ∧ G ≠ 0 ∧ Sp os fun i => G * en r' i - A * en r i := by
  induction h with
  | nil =>
    refine ⟨1, 1, by decide, by decide, ?_⟩
    rename_i r
    have e : (fun i => 1 * en r i - 1 * en r i) = fun _ => (0 : Int) := by funext i; omega
    rw [e]; exact .zero
  | snoc _ hr ih =>
    rename_i os o a b c _
    obtain ⟨A, G, hA, hG, h1⟩ := ih
    obtain ⟨_, _, A2, G2, hA2, hG2, h2⟩ := hr.sp
    refine ⟨A * A2, G * G2, Int.mul_ne_zero hA hA2, Int.mul_ne_zero hG hG2, ?_⟩
    have h1' : Sp (os ++ [o]) fun i => G * en b i - A * en a i := h1.trans fun x hx => .base (by simp [hx])
    have h2' : Sp (os ++ [o]) fun i => G2 * en c i - A2 * en b i := h2.trans fun x hx => .base (by rw [List.mem_singleton.mp hx]; simp)
    have := Sp.lin A2 G h1' h2'
    have e : (fun i => G * G2 * en c i - A * A2 * en a i) = fun i => A2 * (G * en b i - A * en a i) + G * (G2 * en c i - A2 * en b i) := by
      funext i
      rw [Int.mul_sub, Int.mul_sub]
      have e1 : A2 * (G * en b i) = G * (A2 * en b i) := Int.mul_left_comm _ _ _
      have e2 : A2 * (A * en a i) = A * A2 * en a i := by rw [← Int.mul_assoc, Int.mul_comm A2 A]
      have e3 : G * (G2 * en c i) = G * G2 * en c i := (Int.mul_assoc _ _ _).symm
      rw [e1, e2, e3]
      omega
    rw [e]
    exact this
end Lin

/-! Elimination's rows are small. -/
namespace Lin
def plF (r : List Int) : Nat := (firstF r).getD 0
theorem plF_of {r : List Int} {q : Nat} (h : firstF r = some q) : plF r = q := by unfold plF; rw [h]; rfl
theorem Sys.pl {w : Nat} {own : List (List Int)} (h : Sys w own) {r : List Int} (hr : r ∈ own) : firstF r = some (plF r) := by
  obtain ⟨p, hp⟩ := h.fst r hr
  rw [plF_of hp, hp]
theorem Sys.pl_inj {w : Nat} {own : List (List Int)} (h : Sys w own) {i j : Nat} (hi : i < own.length) (hj : j < own.length) (hij : i ≠ j) : plF own[i] ≠ plF own[j] := by
  intro e
  have p1 := h.pl (List.getElem_mem hi)
  have p2 := h.pl (List.getElem_mem hj)
  have n1 := (first_some.mp p1).1
  rcases Nat.lt_or_gt_of_ne hij with h1 | h1
  · exact n1 (e ▸ (List.pairwise_iff_getElem.mp h.pair i j hi hj h1).1 _ p2)
  · exact n1 (e ▸ (List.pairwise_iff_getElem.mp h.pair j i hj hi h1).2 _ p2)
theorem Sys.pl_nodup {w : Nat} {own : List (List Int)} (h : Sys w own) : (own.map plF).Nodup := by
  rw [List.nodup_iff_pairwise_ne, List.pairwise_map, List.pairwise_iff_getElem]
  intro i j hi hj hij
  exact h.pl_inj hi hj (by omega)
structure Bas (w : Nat) (own R : List (List Int)) : Prop where
  sys : Sys w own
  len : R.length = own.length
  rin : ∀ r ∈ R, Sp own (en r)
  dn : det (own.map plF) R ≠ 0
theorem det_zero_sp {own R : List (List Int)} (cs : List Nat) (h : ∀ r ∈ R, Sp own (en r)) : Sp own fun c => Lin.det (c :: cs) R := Sp.lap (fun n => n) R (Lin.det cs) h
theorem Bas.add {w : Nat} {own own' R : List (List Int)} {row row' : List Int} {q : Nat} (h : Bas w own R) (hrl : row.length = w) (hch : Chain own row row') (hq : firstF row' = some q) (hm : own'.length = own.length) (hr : ∀ i (h1 : i < own.length) (h2 : i < own'.length), Red row' own[i] own'[i]) : Bas w (own' ++ [row']) (row :: R) := by
  have hrl' : row'.length = w := by rw [hch.len, hrl]
  have hz := hch.za h.sys.pair
  have hs' : Sys w (own' ++ [row']) := h.sys.add hrl' hq hz hm hr
  have own_in : ∀ r ∈ own, Sp (own' ++ [row']) (en r) := fun r hrm => by
    obtain ⟨i, hi, rfl⟩ := List.getElem_of_mem hrm
    have hi' : i < own'.length := by omega
    refine (hr i hi hi').sp.1.trans fun x hx => ?_
    simp only [List.mem_cons, List.not_mem_nil, or_false] at hx
    rcases hx with rfl | rfl
    · exact .base (by simp)
    · exact .base (by simp)
  obtain ⟨A, G, hA, hG, hX⟩ := hch.sp
  have row_in : Sp (own' ++ [row']) (en row) := by
    refine .div A hA ?_
    have h1 : Sp (own' ++ [row']) fun i => G * en row' i - A * en row i := hX.trans own_in
    have h2 := Sp.lin G (-1) (.base (show row' ∈ own' ++ [row'] by simp)) h1
    have e : (fun i => A * en row i) = fun i => G * en row' i + -1 * (G * en row' i - A * en row i) := by funext i; omega
    rw [e]; exact h2
  refine ⟨hs', by simp [h.len, hm], fun r hrm => ?_, ?_⟩
  · rcases List.mem_cons.mp hrm with rfl | hrm
    · exact row_in
    · exact (h.rin r hrm).trans own_in
  · have eP : (own' ++ [row']).map plF = own.map plF ++ [q] := by
      rw [List.map_append, List.map_cons, List.map_nil, plF_of hq]
      congr 1
      refine List.ext_getElem (by simp [hm]) fun i h1 h2 => ?_
      simp only [List.getElem_map]
      simp at h1 h2
      have hp := h.sys.pl (List.getElem_mem h2)
      exact plF_of ((hr i h2 h1).first hp (hz _ (List.getElem_mem h2) _ hp))
    have hperm : (own.map plF ++ [q]).Perm (q :: own.map plF) := List.perm_append_comm
    obtain ⟨s, hs, es⟩ := det_perm hperm
    rw [eP, es]
    have hsn : s ≠ 0 := by rcases hs with rfl | rfl <;> decide
    refine Int.mul_ne_zero hsn ?_
    generalize hD : Lin.det (own.map plF) R = D
    have hD0 : D ≠ 0 := hD ▸ h.dn
    -- the functional
    have hL : Sp own fun c => lap (fun r => en r c) (fun l => Lin.det (own.map plF) (row :: l)) R := Sp.lap (fun n => n) R _ h.rin
    have hF : ∀ c, Lin.det (c :: own.map plF) (row :: R) = en row c * D - lap (fun r => en r c) (fun l => Lin.det (own.map plF) (row :: l)) R := fun c => by rw [← hD]; rfl
    have hcomb : Sp own fun c => A * Lin.det (c :: own.map plF) (row :: R) - D * G * en row' c := by
      have := Sp.lin (-D) (-A) hX hL
      have e : (fun c => A * Lin.det (c :: own.map plF) (row :: R) - D * G * en row' c) = fun c => -D * (G * en row' c - A * en row c) + -A * lap (fun r => en r c) (fun l => Lin.det (own.map plF) (row :: l)) R := by
        funext c
        rw [hF c]
        simp only [Int.mul_sub, Int.neg_mul]
        have e1 : A * (en row c * D) = D * (A * en row c) := by rw [Int.mul_comm (en row c), Int.mul_left_comm]
        have e2 : D * G * en row' c = D * (G * en row' c) := Int.mul_assoc _ _ _
        rw [e1, e2]; omega
      rw [e]; exact this
    have hu := hcomb.uniq h.sys (fun r hrm pl hpl => by
      have hm1 : pl ∈ own.map plF := List.mem_map.mpr ⟨r, hrm, plF_of hpl⟩
      show A * Lin.det (pl :: own.map plF) (row :: R) - D * G * en row' pl = 0
      rw [det_mem hm1, hz r hrm pl hpl]; simp) q (by rw [← hrl']; exact first_lt hq)
    intro e0
    have hu' : A * Lin.det (q :: own.map plF) (row :: R) - D * G * en row' q = 0 := hu
    rw [e0, Int.mul_zero] at hu'
    have : D * G * en row' q = 0 := by omega
    rcases Int.mul_eq_zero.mp this with h1 | h1
    · exact (Int.mul_ne_zero hD0 hG) h1
    · exact (first_some.mp hq).1 h1
/-- without a common divisor -/
def Prim (f : Nat → Int) : Prop := ∀ k : Int, (∀ i, k ∣ f i) → k.natAbs = 1
theorem prim_dvd {f : Nat → Int} (hp : Prim f) {a D : Int} (hD : D ≠ 0) (h : ∀ i, a ∣ D * f i) : a ∣ D := by
  have hg : 0 < Nat.gcd a.natAbs D.natAbs := Nat.gcd_pos_of_pos_right _ (by omega)
  obtain ⟨a', ha⟩ := Nat.gcd_dvd_left a.natAbs D.natAbs
  obtain ⟨d', hd⟩ := Nat.gcd_dvd_right a.natAbs D.natAbs
  have hco : Nat.Coprime a' d' := by
    have h1 := Nat.coprime_div_gcd_div_gcd hg
    have e1 : a.natAbs / Nat.gcd a.natAbs D.natAbs = a' := by
      conv => lhs; arg 1; rw [ha]
      exact Nat.mul_div_cancel_left _ hg
    have e2 : D.natAbs / Nat.gcd a.natAbs D.natAbs = d' := by
      conv => lhs; arg 1; rw [hd]
      exact Nat.mul_div_cancel_left _ hg
    rwa [e1, e2] at h1
  have hall : ∀ i, ((a' : Nat) : Int) ∣ f i := fun i => by
    have h1 := Int.natAbs_dvd_natAbs.mpr (h i)
    rw [Int.natAbs_mul] at h1
    have h2 : Nat.gcd a.natAbs D.natAbs * a' ∣ Nat.gcd a.natAbs D.natAbs * (d' * (f i).natAbs) := by
      rw [← Nat.mul_assoc, ← hd, ← ha]; exact h1
    have h3 := Nat.dvd_of_mul_dvd_mul_left hg h2
    have h4 : a' ∣ (f i).natAbs := hco.dvd_of_dvd_mul_left h3
    exact Int.ofNat_dvd_left.mpr h4
  have ha1 : a' = 1 := by simpa using hp _ hall
  rw [ha1, Nat.mul_one] at ha
  have : a.natAbs ∣ D.natAbs := by rw [ha]; exact Nat.gcd_dvd_right _ _
  exact Int.natAbs_dvd_natAbs.mp this
/-- the minors that belong to a row -/
theorem Bas.minor {w : Nat} {own R : List (List Int)} (h : Bas w own R) {B : Nat} (hB : ∀ r ∈ R, ∀ c, (en r c).natAbs ≤ B) {r : List Int} (hr : r ∈ own) : ∃ f : Nat → Int, (f (plF r) = det (own.map plF) R ∨ f (plF r) = -det (own.map plF) R) ∧ (∀ c, c < w → en r (plF r) * f c = f (plF r) * en r c) ∧ ∀ c, (f c).natAbs ≤ (own.length * B) ^ own.length := by
  have hmem : plF r ∈ own.map plF := List.mem_map.mpr ⟨r, hr, rfl⟩
  have hperm := List.perm_cons_erase hmem
  generalize hcs : (own.map plF).erase (plF r) = cs at hperm
  have hcl : cs.length + 1 = own.length := by
    have := hperm.length_eq
    simp at this
    omega
  refine ⟨fun c => det (c :: cs) R, ?_, fun c hc => ?_, fun c => ?_⟩
  · obtain ⟨s, hs, es⟩ := det_perm hperm
    rcases hs with rfl | rfl
    · left; rw [es, Int.one_mul]
    · right; rw [es]; show det (plF r :: cs) R = - (-1 * det (plF r :: cs) R); omega
  · have hsp := det_zero_sp (own := own) cs h.rin
    have hg := Sp.lin (en r (plF r)) (-(det (plF r :: cs) R)) hsp (.base hr)
    have hu := hg.uniq h.sys (fun s hs pl hpl => by
      show en r (plF r) * det (pl :: cs) R + -(det (plF r :: cs) R) * en r pl = 0
      by_cases e : pl = plF r
      · rw [e, Int.neg_mul, Int.mul_comm]; omega
      · have h1 : pl ∈ cs := by
          rw [← hcs]
          have : pl ∈ own.map plF := List.mem_map.mpr ⟨s, hs, plF_of hpl⟩
          exact (List.mem_erase_of_ne e).mpr this
        rw [det_mem h1, pair_za h.sys hr hs (h.sys.pl hr) hpl (fun e' => e e'.symm)]
        simp) c hc
    have hu' : en r (plF r) * det (c :: cs) R + -(det (plF r :: cs) R) * en r c = 0 := hu
    rw [Int.neg_mul] at hu'
    show en r (plF r) * det (c :: cs) R = det (plF r :: cs) R * en r c
    omega
  · have := det_bd B own.length (c :: cs) R (by rw [h.len]; exact Nat.le_refl _) hB (by rw [h.len]; simp; omega) trivial
    have e : (c :: cs).length = own.length := by simp; omega
    rw [e] at this
    exact this
/-- THE BOUND of a row -/
theorem Bas.bound {w : Nat} {own R : List (List Int)} (h : Bas w own R) {B : Nat} (hB : ∀ r ∈ R, ∀ c, (en r c).natAbs ≤ B) {r : List Int} (hr : r ∈ own) (hp : Prim (en r)) (c : Nat) : (en r c).natAbs ≤ (own.length * B) ^ own.length := by
  obtain ⟨f, hD, he, hb⟩ := h.minor hB hr
  have hlen := h.sys.len r hr
  by_cases hc : c < w
  · have hf0 : f (plF r) ≠ 0 := by
      have := h.dn
      rcases hD with hD | hD <;> rw [hD] <;> omega
    have hdv := prim_dvd hp hf0 (a := en r (plF r)) (fun i => by
      by_cases hi : i < w
      · exact ⟨f i, (he i hi).symm⟩
      · have : en r i = 0 := by simp [en, List.getD, List.getElem?_eq_none (by omega : r.length ≤ i)]
        rw [this, Int.mul_zero]; exact Int.dvd_zero _)
    obtain ⟨m, hm⟩ := hdv
    have hn : en r (plF r) ≠ 0 := (first_some.mp (h.sys.pl hr)).1
    have e := he c hc
    rw [hm, Int.mul_assoc] at e
    have e2 : f c = m * en r c := Int.eq_of_mul_eq_mul_left hn e
    have hm0 : m ≠ 0 := fun e => hf0 (by rw [hm, e, Int.mul_zero])
    have h1 : (en r c).natAbs ≤ (f c).natAbs := by
      rw [e2, Int.natAbs_mul]
      exact Nat.le_mul_of_pos_left _ (by omega)
    exact Nat.le_trans h1 (hb c)
  · have : en r c = 0 := by simp [en, List.getD, List.getElem?_eq_none (by omega : r.length ≤ c)]
    rw [this]; simp
theorem Bas.dbd {w : Nat} {own R : List (List Int)} (h : Bas w own R) {B : Nat} (hB : ∀ r ∈ R, ∀ c, (en r c).natAbs ≤ B) : (det (own.map plF) R).natAbs ≤ (own.length * B) ^ own.length := by
  have := Lin.det_bd B own.length (own.map plF) R (by rw [h.len]; exact Nat.le_refl _) hB (by rw [h.len]; simp) trivial
  simpa using this
/-- THE BOUND of a solution -/
theorem Bas.sol_bound {w : Nat} {own R : List (List Int)} (h : Bas w own R) {B : Nat} (hB : ∀ r ∈ R, ∀ c, (en r c).natAbs ≤ B) {f : Nat} (hf : f < w) (hfree : ∀ r ∈ own, firstF r ≠ some f) {s : Nat → Int} (hs : IsSol w own f s) (hsw : ∀ i, w ≤ i → s i = 0) (hp : Prim s) (c : Nat) : (s c).natAbs ≤ (own.length * B) ^ own.length := by
  have hD0 := h.dn
  have cases_ : ∀ i, (i = f) ∨ (∃ r ∈ own, firstF r = some i) ∨ s i = 0 := fun i => by
    by_cases e : i = f
    · exact .inl e
    · by_cases hi : ∀ r ∈ own, firstF r ≠ some i
      · right; right
        by_cases hw : i < w
        · exact hs.2.2 i hw e hi
        · exact hsw i (by omega)
      · right; left
        exact Classical.byContradiction fun hc => hi fun r hr e => hc ⟨r, hr, e⟩
  -- D * s c = s f * (something small)
  have key : ∀ i, ∃ m : Int, det (own.map plF) R * s i = s f * m ∧ m.natAbs ≤ (own.length * B) ^ own.length := fun i => by
    rcases cases_ i with rfl | ⟨r, hr, hri⟩ | h0
    · exact ⟨det (own.map plF) R, Int.mul_comm _ _, h.dbd hB⟩
    · obtain ⟨g, hD, he, hb⟩ := h.minor hB hr
      have hpi := plF_of hri
      have hn : en r i ≠ 0 := (first_some.mp hri).1
      have e1 := hs.2.1 r hr i hri
      have e2 := he f hf
      rw [hpi] at e2 hD
      -- s i * r i = - r f * s f ; r i * g f = g i * r f
      have e3 : en r i * (g i * s i) = en r i * (-(s f * g f)) := by
        rw [Int.mul_left_comm, Int.mul_comm (en r i) (s i), e1, Int.mul_neg, Int.mul_left_comm (en r i), e2, Int.neg_mul, Int.mul_neg, Int.mul_comm (en r f) (s f), Int.mul_left_comm (g i)]
      have e4 := Int.eq_of_mul_eq_mul_left hn e3
      rcases hD with hD | hD
      · refine ⟨-(g f), ?_, by rw [Int.natAbs_neg]; exact hb f⟩
        rw [← hD, e4, Int.mul_neg]
      · refine ⟨g f, ?_, hb f⟩
        have : det (own.map plF) R = -(g i) := by omega
        rw [this, Int.neg_mul, e4]; omega
    · exact ⟨0, by rw [h0]; simp, by simp⟩
  have hdv := prim_dvd hp hD0 (a := s f) (fun i => by
    obtain ⟨m, hm, _⟩ := key i
    exact ⟨m, hm⟩)
  obtain ⟨n, hn⟩ := hdv
  obtain ⟨m, hm, hb⟩ := key c
  rw [hn, Int.mul_assoc] at hm
  have e := Int.eq_of_mul_eq_mul_left hs.1 hm
  have hn0 : n ≠ 0 := fun e => hD0 (by rw [hn, e, Int.mul_zero])
  have h1 : (s c).natAbs ≤ m.natAbs := by
    rw [← e, Int.natAbs_mul]
    exact Nat.le_mul_of_pos_left _ (by omega)
  exact Nat.le_trans h1 hb
end Lin

namespace K21
open PySem L2 Q7
def top (i : Nat) : Stmt := PySem.Challenge.pw_slopeshapes_k21_open_pairs.main.body.getD i (.Pass ⟨0, 0, 0, 0⟩)
def CN : List Str := ["InvalidTelling", "InvalidPlaces", "InvalidPair", "InvalidNumber", "InvalidShare", "InvalidLine", "InvalidPart", "InvalidNames", "InvalidMatrix", "InvalidCandidates", "InvalidText", "UnequalPoints", "NotOpen", "NotAlong", "NotDrawn", "TooMany", "TooGreat", "NothingToUndo"]
def FN : List Str := (["_law_town", "_law_draw", "_law_pick", "_law_spots", "_law_part", "_law_plain", "_law_direction", "_law_telling", "is_between", "is_plain", "is_pair", "divisor_of", "is_direction", "is_line", "is_telling", "check_telling", "check_pair", "first_place", "shortened", "reduced", "independent", "solutions", "row_of", "rows_of", "basis_of", "fraction", "proportion", "plain", "gap_of", "kind_of"] : List Str) ++ (["factors_for", "quotient", "times", "places_of", "two_drawings", "_law_call", "_law_name", "_law_outcome", "freedom", "pair", "_law_raises", "is_fraction", "is_places", "check_places", "plus", "less", "mixed", "_law_step", "check_both", "between", "factors_of", "does_fit", "fits", "_law_small", "law"] : List Str)
def fuel : Nat := 10 ^ 100
/-! 0 _law_town -/
abbrev s0 : Stmt := top 65
def N0 : List Str := ["script"]
def F0 (ns : List Int) : Fn := townF ns
/-! 1 _law_draw -/
abbrev s1 : Stmt := top 66
def N1 : List Str := ["script", "town", "limit", "at", "left", "number"]
def F1 (ns : List Int) : Fn := drawF ns
/-! 2 _law_pick -/
abbrev s2 : Stmt := top 67
def N2 : List Str := ["script", "town", "choices"]
def c2 : CSs := (.cons (.ret (.idx (.var 2) (.call 1 (.cons (.var 0) (.cons (.var 1) (.cons (.blt .len (.cons (.var 2) .nil)) .nil)))))) .nil)
def T2 (ns : List Int) : List Fn := [F0 ns, F1 ns]
def F2 (ns : List Int) : Fn := run (T2 ns) fuel 3 3 c2
/-! 3 _law_spots -/
abbrev s3 : Stmt := top 74
def N3 : List Str := ["script", "town", "points", "far", "found", "k"]
def c3 : CSs := (.cons (.set 3 (.call 2 (.cons (.var 0) (.cons (.var 1) (.cons (.lst (.cons (.int 2) (.cons (.int 4) (.cons (.int 9) .nil)))) .nil))))) (.cons (.setO 4 (.lst .nil)) (.cons (.for_ (.name 5) (.rng1 (.var 2)) (.cons (.app 4 (.tup (.cons (.bin .sub (.call 1 (.cons (.var 0) (.cons (.var 1) (.cons (.bin .add (.bin .mul (.int 2) (.var 3)) (.int 1)) .nil)))) (.var 3)) (.cons (.bin .sub (.call 1 (.cons (.var 0) (.cons (.var 1) (.cons (.bin .add (.bin .mul (.int 2) (.var 3)) (.int 1)) .nil)))) (.var 3)) .nil)))) .nil)) (.cons (.frz 4) (.cons (.ret (.var 4)) .nil)))))
def T3 (ns : List Int) : List Fn := [F0 ns, F1 ns, F2 ns]
def F3 (ns : List Int) : Fn := run (T3 ns) fuel 3 6 c3
/-! 4 _law_part -/
abbrev s4 : Stmt := top 71
def N4 : List Str := ["one", "two"]
def c4 : CSs := (.cons (.par [(false, .name 0), (false, .name 1)] (.cons (.blt .abs (.cons (.var 0) .nil)) (.cons (.blt .abs (.cons (.var 1) .nil)) .nil))) (.cons (.whl (.cmp .ne (.var 1) (.int 0)) (.cons (.par [(false, .name 0), (false, .name 1)] (.cons (.var 1) (.cons (.bin .mod (.var 0) (.var 1)) .nil))) .nil)) (.cons (.ret (.var 0)) .nil)))
def T4 (ns : List Int) : List Fn := [F0 ns, F1 ns, F2 ns, F3 ns]
def F4 (ns : List Int) : Fn := run (T4 ns) fuel 2 2 c4
/-! 5 _law_plain -/
abbrev s5 : Stmt := top 72
def N5 : List Str := ["a", "b", "by"]
def c5 : CSs := (.cons (.set 2 (.call 4 (.cons (.var 0) (.cons (.var 1) .nil)))) (.cons (.par [(false, .name 0), (false, .name 1)] (.cons (.bin .fdiv (.var 0) (.var 2)) (.cons (.bin .fdiv (.var 1) (.var 2)) .nil))) (.cons (.ret (.ite (.or (.cons (.cmp .gt (.var 1) (.int 0)) (.cons (.and (.cons (.cmp .eq (.var 1) (.int 0)) (.cons (.cmp .gt (.var 0) (.int 0)) .nil))) .nil))) (.tup (.cons (.var 0) (.cons (.var 1) .nil))) (.tup (.cons (.bin .sub (.int 0) (.var 0)) (.cons (.bin .sub (.int 0) (.var 1)) .nil))))) .nil)))
def T5 (ns : List Int) : List Fn := [F0 ns, F1 ns, F2 ns, F3 ns, F4 ns]
def F5 (ns : List Int) : Fn := run (T5 ns) fuel 2 3 c5
/-! 6 _law_direction -/
abbrev s6 : Stmt := top 73
def N6 : List Str := ["script", "town", "sense", "by", "a", "b"]
def c6 : CSs := (.cons (.par [(false, .name 4), (false, .name 5)] (.cons (.bin .sub (.call 1 (.cons (.var 0) (.cons (.var 1) (.cons (.int 7) .nil)))) (.int 3)) (.cons (.bin .sub (.call 1 (.cons (.var 0) (.cons (.var 1) (.cons (.int 7) .nil)))) (.int 3)) .nil))) (.cons (.ite (.and (.cons (.cmp .eq (.var 4) (.int 0)) (.cons (.cmp .eq (.var 5) (.int 0)) .nil))) (.cons (.set 4 (.int 1)) .nil) .nil) (.cons (.set 3 (.call 4 (.cons (.var 4) (.cons (.var 5) .nil)))) (.cons (.ret (.ite (.val (.var 2)) (.tup (.cons (.bin .fdiv (.var 4) (.var 3)) (.cons (.bin .fdiv (.var 5) (.var 3)) .nil))) (.call 5 (.cons (.var 4) (.cons (.var 5) .nil))))) .nil))))
def T6 (ns : List Int) : List Fn := [F0 ns, F1 ns, F2 ns, F3 ns, F4 ns, F5 ns]
def F6 (ns : List Int) : Fn := run (T6 ns) fuel 3 6 c6
/-! 7 _law_telling -/
abbrev s7 : Stmt := top 75
def N7 : List Str := ["script", "town", "spots", "most", "i", "points", "lines", "often", "odd", "j", "sense", "by", "direction", "a", "b", "x", "y", "u", "v"]
def c7 : CSs := (.cons (.par [(false, .name 5), (true, .name 6)] (.cons (.blt .len (.cons (.var 2) .nil)) (.cons (.lst .nil) .nil))) (.cons (.par [(false, .name 7), (false, .name 8)] (.cons (.bin .add (.int 1) (.call 1 (.cons (.var 0) (.cons (.var 1) (.cons (.int 5) .nil))))) (.cons (.call 1 (.cons (.var 0) (.cons (.var 1) (.cons (.int 4) .nil)))) .nil))) (.cons (.for_ (.name 4) (.rng1 (.var 5)) (.cons (.for_ (.name 9) (.rng2 (.bin .add (.var 4) (.int 1)) (.var 5)) (.cons (.ite (.and (.cons (.cmp .lt (.blt .len (.cons (.bv 6) .nil)) (.var 3)) (.cons (.cmp .lt (.call 1 (.cons (.var 0) (.cons (.var 1) (.cons (.int 6) .nil)))) (.var 7)) .nil))) (.cons (.set 10 (.cmp .eq (.call 1 (.cons (.var 0) (.cons (.var 1) (.cons (.int 2) .nil)))) (.int 0))) (.cons (.par [(false, .tup (.cons (.name 15) (.cons (.name 16) .nil))), (false, .tup (.cons (.name 17) (.cons (.name 18) .nil)))] (.cons (.idx (.var 2) (.var 4)) (.cons (.idx (.var 2) (.var 9)) .nil))) (.cons (.par [(false, .name 13), (false, .name 14)] (.cons (.bin .sub (.var 17) (.var 15)) (.cons (.bin .sub (.var 18) (.var 16)) .nil))) (.cons (.ite (.or (.cons (.cmp .eq (.tup (.cons (.var 13) (.cons (.var 14) .nil))) (.tup (.cons (.int 0) (.cons (.int 0) .nil)))) (.cons (.and (.cons (.cmp .eq (.var 8) (.int 0)) (.cons (.cmp .eq (.call 1 (.cons (.var 0) (.cons (.var 1) (.cons (.int 4) .nil)))) (.int 0)) .nil))) .nil))) (.cons (.unp (.tup (.cons (.name 13) (.cons (.name 14) .nil))) (.call 6 (.cons (.var 0) (.cons (.var 1) (.cons (.var 10) .nil))))) .nil) .nil) (.cons (.set 11 (.call 4 (.cons (.var 13) (.cons (.var 14) .nil)))) (.cons (.set 12 (.ite (.val (.var 10)) (.tup (.cons (.bin .fdiv (.var 13) (.var 11)) (.cons (.bin .fdiv (.var 14) (.var 11)) .nil))) (.call 5 (.cons (.var 13) (.cons (.var 14) .nil))))) (.cons (.ite (.and (.cons (.val (.var 10)) (.cons (.cmp .eq (.var 8) (.int 1)) (.cons (.cmp .eq (.call 1 (.cons (.var 0) (.cons (.var 1) (.cons (.int 5) .nil)))) (.int 0)) .nil)))) (.cons (.set 12 (.tup (.cons (.bin .sub (.int 0) (.idx (.var 12) (.int 0))) (.cons (.bin .sub (.int 0) (.idx (.var 12) (.int 1))) .nil)))) .nil) .nil) (.cons (.app 6 (.tup (.cons (.var 4) (.cons (.var 9) (.cons (.var 12) (.cons (.var 10) .nil)))))) .nil)))))))) .nil) .nil)) .nil)) (.cons (.ret (.tup (.cons (.var 5) (.cons (.blt .tuple (.cons (.bv 6) .nil)) .nil)))) .nil))))
def T7 (ns : List Int) : List Fn := [F0 ns, F1 ns, F2 ns, F3 ns, F4 ns, F5 ns, F6 ns]
def F7 (ns : List Int) : Fn := run (T7 ns) fuel 4 19 c7
/-! 8 is_between -/
abbrev s8 : Stmt := top 21
def N8 : List Str := ["value", "low", "high"]
def c8 : CSs := (.cons (.ret (.and (.cons (.isi (.var 0) .int) (.cons (.not (.isi (.var 0) .bool)) (.cons (.chain .le .le (.var 1) (.var 0) (.var 2)) .nil))))) .nil)
def T8 (ns : List Int) : List Fn := [F0 ns, F1 ns, F2 ns, F3 ns, F4 ns, F5 ns, F6 ns, F7 ns]
def F8 (ns : List Int) : Fn := run (T8 ns) fuel 3 3 c8
/-! 9 is_plain -/
abbrev s9 : Stmt := top 37
def N9 : List Str := ["direction"]
def c9 : CSs := (.cons (.ret (.or (.cons (.cmp .gt (.idx (.var 0) (.int 1)) (.int 0)) (.cons (.cmp .eq (.var 0) (.tup (.cons (.int 1) (.cons (.int 0) .nil)))) .nil)))) .nil)
def T9 (ns : List Int) : List Fn := [F0 ns, F1 ns, F2 ns, F3 ns, F4 ns, F5 ns, F6 ns, F7 ns, F8 ns]
def F9 (ns : List Int) : Fn := run (T9 ns) fuel 1 1 c9
/-! 10 is_pair -/
abbrev s10 : Stmt := top 38
def N10 : List Str := ["points", "value"]
def c10 : CSs := (.cons (.ite (.or (.cons (.not (.val (.isi (.var 1) .tuple))) (.cons (.cmp .ne (.blt .len (.cons (.var 1) .nil)) (.int 2)) (.cons (.not (.val (.call 8 (.cons (.idx (.var 1) (.int 0)) (.cons (.int 0) (.cons (.bin .sub (.var 0) (.int 1)) .nil)))))) .nil)))) (.cons (.ret (.bl false)) .nil) .nil) (.cons (.ret (.call 8 (.cons (.idx (.var 1) (.int 1)) (.cons (.bin .add (.idx (.var 1) (.int 0)) (.int 1)) (.cons (.bin .sub (.var 0) (.int 1)) .nil))))) .nil))
def T10 (ns : List Int) : List Fn := [F0 ns, F1 ns, F2 ns, F3 ns, F4 ns, F5 ns, F6 ns, F7 ns, F8 ns, F9 ns]
def F10 (ns : List Int) : Fn := run (T10 ns) fuel 2 2 c10
/-! 11 divisor_of -/
abbrev s11 : Stmt := top 22
def N11 : List Str := ["one", "other"]
def c11 : CSs := (.cons (.par [(false, .name 0), (false, .name 1)] (.cons (.blt .abs (.cons (.var 0) .nil)) (.cons (.blt .abs (.cons (.var 1) .nil)) .nil))) (.cons (.whl (.cmp .ne (.var 1) (.int 0)) (.cons (.par [(false, .name 0), (false, .name 1)] (.cons (.var 1) (.cons (.bin .mod (.var 0) (.var 1)) .nil))) .nil)) (.cons (.ret (.var 0)) .nil)))
def T11 (ns : List Int) : List Fn := [F0 ns, F1 ns, F2 ns, F3 ns, F4 ns, F5 ns, F6 ns, F7 ns, F8 ns, F9 ns, F10 ns]
def F11 (ns : List Int) : Fn := run (T11 ns) fuel 2 2 c11
/-! 12 is_direction -/
abbrev s12 : Stmt := top 36
def N12 : List Str := ["value", "one"]
def c12 : CSs := (.cons (.ite (.or (.cons (.not (.val (.isi (.var 0) .tuple))) (.cons (.cmp .ne (.blt .len (.cons (.var 0) .nil)) (.int 2)) (.cons (.not (.val (.blt .all (.cons (.comp [("one", 1)] (.name 1) (.seq (.var 0)) .non (.call 8 (.cons (.var 1) (.cons (.neg (.int 20)) (.cons (.int 20) .nil))))) .nil)))) .nil)))) (.cons (.ret (.bl false)) .nil) .nil) (.cons (.ret (.cmp .eq (.call 11 (.cons (.idx (.var 0) (.int 0)) (.cons (.idx (.var 0) (.int 1)) .nil))) (.int 1))) .nil))
def T12 (ns : List Int) : List Fn := [F0 ns, F1 ns, F2 ns, F3 ns, F4 ns, F5 ns, F6 ns, F7 ns, F8 ns, F9 ns, F10 ns, F11 ns]
def F12 (ns : List Int) : Fn := run (T12 ns) fuel 1 2 c12
/-! 13 is_line -/
abbrev s13 : Stmt := top 39
def N13 : List Str := ["points", "value"]
def c13 : CSs := (.cons (.ite (.or (.cons (.not (.val (.isi (.var 1) .tuple))) (.cons (.cmp .ne (.blt .len (.cons (.var 1) .nil)) (.int 4)) (.cons (.not (.val (.call 10 (.cons (.var 0) (.cons (.slc (.var 1) .non (.som (.int 2))) .nil))))) .nil)))) (.cons (.ret (.bl false)) .nil) .nil) (.cons (.ite (.or (.cons (.not (.val (.call 12 (.cons (.idx (.var 1) (.int 2)) .nil)))) (.cons (.not (.val (.isi (.idx (.var 1) (.int 3)) .bool))) .nil))) (.cons (.ret (.bl false)) .nil) .nil) (.cons (.ret (.or (.cons (.idx (.var 1) (.int 3)) (.cons (.call 9 (.cons (.idx (.var 1) (.int 2)) .nil)) .nil)))) .nil)))
def T13 (ns : List Int) : List Fn := [F0 ns, F1 ns, F2 ns, F3 ns, F4 ns, F5 ns, F6 ns, F7 ns, F8 ns, F9 ns, F10 ns, F11 ns, F12 ns]
def F13 (ns : List Int) : Fn := run (T13 ns) fuel 2 2 c13
/-! 14 is_telling -/
abbrev s14 : Stmt := top 40
def N14 : List Str := ["value", "k", "line"]
def c14 : CSs := (.cons (.ite (.or (.cons (.not (.val (.isi (.var 0) .tuple))) (.cons (.cmp .ne (.blt .len (.cons (.var 0) .nil)) (.int 2)) (.cons (.not (.val (.call 8 (.cons (.idx (.var 0) (.int 0)) (.cons (.int 2) (.cons (.int 9) .nil)))))) .nil)))) (.cons (.ret (.bl false)) .nil) .nil) (.cons (.ite (.or (.cons (.not (.val (.isi (.idx (.var 0) (.int 1)) .tuple))) (.cons (.cmp .gt (.blt .len (.cons (.idx (.var 0) (.int 1)) .nil)) (.int 16)) .nil))) (.cons (.ret (.bl false)) .nil) .nil) (.cons (.ite (.not (.val (.blt .all (.cons (.comp [("line", 2)] (.name 2) (.seq (.idx (.var 0) (.int 1))) .non (.call 13 (.cons (.idx (.var 0) (.int 0)) (.cons (.var 2) .nil)))) .nil)))) (.cons (.ret (.bl false)) .nil) .nil) (.cons (.ret (.blt .all (.cons (.comp [("k", 1)] (.name 1) (.rng1 (.bin .sub (.blt .len (.cons (.idx (.var 0) (.int 1)) .nil)) (.int 1))) .non (.cmp .lt (.slc (.idx (.idx (.var 0) (.int 1)) (.var 1)) .non (.som (.int 2))) (.slc (.idx (.idx (.var 0) (.int 1)) (.bin .add (.var 1) (.int 1))) .non (.som (.int 2))))) .nil))) .nil))))
def T14 (ns : List Int) : List Fn := [F0 ns, F1 ns, F2 ns, F3 ns, F4 ns, F5 ns, F6 ns, F7 ns, F8 ns, F9 ns, F10 ns, F11 ns, F12 ns, F13 ns]
def F14 (ns : List Int) : Fn := run (T14 ns) fuel 1 3 c14
/-! 15 check_telling -/
abbrev s15 : Stmt := top 41
def N15 : List Str := ["value"]
def c15 : CSs := (.cons (.ite (.not (.val (.call 14 (.cons (.var 0) .nil)))) (.cons (.rais 0 "not a telling") .nil) .nil) .nil)
def T15 (ns : List Int) : List Fn := [F0 ns, F1 ns, F2 ns, F3 ns, F4 ns, F5 ns, F6 ns, F7 ns, F8 ns, F9 ns, F10 ns, F11 ns, F12 ns, F13 ns, F14 ns]
def F15 (ns : List Int) : Fn := run (T15 ns) fuel 1 1 c15
/-! 16 check_pair -/
abbrev s16 : Stmt := top 42
def N16 : List Str := ["telling", "value"]
def c16 : CSs := (.cons (.ite (.not (.val (.call 10 (.cons (.idx (.var 0) (.int 0)) (.cons (.var 1) .nil))))) (.cons (.rais 2 "not a pair of points") .nil) .nil) .nil)
def T16 (ns : List Int) : List Fn := [F0 ns, F1 ns, F2 ns, F3 ns, F4 ns, F5 ns, F6 ns, F7 ns, F8 ns, F9 ns, F10 ns, F11 ns, F12 ns, F13 ns, F14 ns, F15 ns]
def F16 (ns : List Int) : Fn := run (T16 ns) fuel 2 2 c16
/-! 17 first_place -/
abbrev s17 : Stmt := top 32
def N17 : List Str := ["row", "some", "place", "one"]
def c17 : CSs := (.cons (.set 1 (.comp [("place", 2), ("one", 3)] (.tup (.cons (.name 2) (.cons (.name 3) .nil))) (.enm (.var 0)) (.som (.cmp .ne (.var 3) (.int 0))) (.var 2))) (.cons (.ret (.ite (.cmp .ne (.var 1) (.lst .nil)) (.idx (.var 1) (.int 0)) .non)) .nil))
def T17 (ns : List Int) : List Fn := [F0 ns, F1 ns, F2 ns, F3 ns, F4 ns, F5 ns, F6 ns, F7 ns, F8 ns, F9 ns, F10 ns, F11 ns, F12 ns, F13 ns, F14 ns, F15 ns, F16 ns]
def F17 (ns : List Int) : Fn := run (T17 ns) fuel 1 4 c17
/-! 18 shortened -/
abbrev s18 : Stmt := top 23
def N18 : List Str := ["numbers", "by", "one"]
def c18 : CSs := (.cons (.set 1 (.int 0)) (.cons (.for_ (.name 2) (.seq (.var 0)) (.cons (.set 1 (.call 11 (.cons (.var 1) (.cons (.var 2) .nil)))) (.cons (.ite (.cmp .eq (.var 1) (.int 1)) (.cons (.ret (.blt .list (.cons (.var 0) .nil))) .nil) .nil) .nil))) (.cons (.ret (.ite (.cmp .gt (.var 1) (.int 1)) (.comp [("one", 2)] (.name 2) (.seq (.var 0)) .non (.bin .fdiv (.var 2) (.var 1))) (.blt .list (.cons (.var 0) .nil)))) .nil)))
def T18 (ns : List Int) : List Fn := [F0 ns, F1 ns, F2 ns, F3 ns, F4 ns, F5 ns, F6 ns, F7 ns, F8 ns, F9 ns, F10 ns, F11 ns, F12 ns, F13 ns, F14 ns, F15 ns, F16 ns, F17 ns]
def F18 (ns : List Int) : Fn := run (T18 ns) fuel 1 3 c18
/-! 19 reduced -/
abbrev s19 : Stmt := top 31
def N19 : List Str := ["row", "rows", "other", "place", "one", "two"]
def c19 : CSs := (.cons (.for_ (.name 2) (.seq (.var 1)) (.cons (.set 3 (.call 17 (.cons (.var 2) .nil))) (.cons (.ite (.cmp .ne (.idx (.var 0) (.var 3)) (.int 0)) (.cons (.set 0 (.call 18 (.cons (.comp [("one", 4), ("two", 5)] (.tup (.cons (.name 4) (.cons (.name 5) .nil))) (.zip (.var 0) (.var 2)) .non (.bin .sub (.bin .mul (.var 4) (.idx (.var 2) (.var 3))) (.bin .mul (.idx (.var 0) (.var 3)) (.var 5)))) .nil))) .nil) .nil) .nil))) (.cons (.ret (.var 0)) .nil))
def T19 (ns : List Int) : List Fn := [F0 ns, F1 ns, F2 ns, F3 ns, F4 ns, F5 ns, F6 ns, F7 ns, F8 ns, F9 ns, F10 ns, F11 ns, F12 ns, F13 ns, F14 ns, F15 ns, F16 ns, F17 ns, F18 ns]
def F19 (ns : List Int) : Fn := run (T19 ns) fuel 2 6 c19
/-! 20 independent -/
abbrev s20 : Stmt := top 33
def N20 : List Str := ["rows", "found", "row", "one"]
def c20 : CSs := (.cons (.set 1 (.lst .nil)) (.cons (.for_ (.name 2) (.seq (.var 0)) (.cons (.set 2 (.call 19 (.cons (.var 2) (.cons (.var 1) .nil)))) (.cons (.ite (.val (.blt .any (.cons (.var 2) .nil))) (.cons (.set 1 (.bin .add (.comp [("one", 3)] (.name 3) (.seq (.var 1)) .non (.call 19 (.cons (.var 3) (.cons (.lst (.cons (.var 2) .nil)) .nil)))) (.lst (.cons (.var 2) .nil)))) .nil) .nil) .nil))) (.cons (.ret (.var 1)) .nil)))
def T20 (ns : List Int) : List Fn := [F0 ns, F1 ns, F2 ns, F3 ns, F4 ns, F5 ns, F6 ns, F7 ns, F8 ns, F9 ns, F10 ns, F11 ns, F12 ns, F13 ns, F14 ns, F15 ns, F16 ns, F17 ns, F18 ns, F19 ns]
def F20 (ns : List Int) : Fn := run (T20 ns) fuel 1 4 c20
/-! 21 solutions -/
abbrev s21 : Stmt := top 34
def N21 : List Str := ["rows", "width", "own", "free", "firsts", "found", "size", "one", "row", "place"]
def c21 : CSs := (.cons (.set 2 (.call 20 (.cons (.var 0) .nil))) (.cons (.par [(false, .name 4), (true, .name 5)] (.cons (.comp [("row", 8)] (.name 8) (.seq (.var 2)) .non (.call 17 (.cons (.var 8) .nil))) (.cons (.lst .nil) .nil))) (.cons (.for_ (.name 3) (.rng1 (.var 1)) (.cons (.ite (.cmp .notin (.var 3) (.var 4)) (.cons (.set 6 (.int 1)) (.cons (.for_ (.tup (.cons (.name 8) (.cons (.name 9) .nil))) (.zip (.var 2) (.var 4)) (.cons (.set 6 (.bin .fdiv (.bin .mul (.var 6) (.blt .abs (.cons (.idx (.var 8) (.var 9)) .nil))) (.call 11 (.cons (.var 6) (.cons (.idx (.var 8) (.var 9)) .nil))))) .nil)) (.cons (.setO 7 (.bin .mul (.lst (.cons (.int 0) .nil)) (.var 1))) (.cons (.put 7 (.var 3) (.var 6)) (.cons (.for_ (.tup (.cons (.name 8) (.cons (.name 9) .nil))) (.zip (.var 2) (.var 4)) (.cons (.put 7 (.var 9) (.bin .fdiv (.bin .mul (.neg (.idx (.var 8) (.var 3))) (.var 6)) (.idx (.var 8) (.var 9)))) .nil)) (.cons (.frz 7) (.cons (.app 5 (.call 18 (.cons (.var 7) .nil))) .nil))))))) .nil) .nil)) (.cons (.frz 5) (.cons (.ret (.var 5)) .nil)))))
def T21 (ns : List Int) : List Fn := [F0 ns, F1 ns, F2 ns, F3 ns, F4 ns, F5 ns, F6 ns, F7 ns, F8 ns, F9 ns, F10 ns, F11 ns, F12 ns, F13 ns, F14 ns, F15 ns, F16 ns, F17 ns, F18 ns, F19 ns, F20 ns]
def F21 (ns : List Int) : Fn := run (T21 ns) fuel 2 10 c21
/-! 22 row_of -/
abbrev s22 : Stmt := top 43
def N22 : List Str := ["points", "i", "j", "direction", "found", "a", "b", "point", "sign"]
def c22 : CSs := (.cons (.unp (.tup (.cons (.name 5) (.cons (.name 6) .nil))) (.var 3)) (.cons (.setO 4 (.bin .mul (.lst (.cons (.int 0) .nil)) (.bin .sub (.bin .mul (.int 2) (.var 0)) (.int 2)))) (.cons (.for_ (.tup (.cons (.name 7) (.cons (.name 8) .nil))) (.seq (.tup (.cons (.tup (.cons (.var 2) (.cons (.int 1) .nil))) (.cons (.tup (.cons (.var 1) (.cons (.neg (.int 1)) .nil))) .nil)))) (.cons (.ite (.cmp .gt (.var 7) (.int 0)) (.cons (.put 4 (.bin .sub (.bin .mul (.int 2) (.var 7)) (.int 2)) (.bin .mul (.var 8) (.var 6))) (.cons (.put 4 (.bin .sub (.bin .mul (.int 2) (.var 7)) (.int 1)) (.bin .mul (.neg (.var 8)) (.var 5))) .nil)) .nil) .nil)) (.cons (.frz 4) (.cons (.ret (.var 4)) .nil)))))
def T22 (ns : List Int) : List Fn := [F0 ns, F1 ns, F2 ns, F3 ns, F4 ns, F5 ns, F6 ns, F7 ns, F8 ns, F9 ns, F10 ns, F11 ns, F12 ns, F13 ns, F14 ns, F15 ns, F16 ns, F17 ns, F18 ns, F19 ns, F20 ns, F21 ns]
def F22 (ns : List Int) : Fn := run (T22 ns) fuel 4 9 c22
/-! 23 rows_of -/
abbrev s23 : Stmt := top 44
def N23 : List Str := ["telling", "i", "j", "direction", "sense"]
def c23 : CSs := (.cons (.ret (.comp [("i", 1), ("j", 2), ("direction", 3), ("sense", 4)] (.tup (.cons (.name 1) (.cons (.name 2) (.cons (.name 3) (.cons (.name 4) .nil))))) (.seq (.idx (.var 0) (.int 1))) .non (.call 22 (.cons (.idx (.var 0) (.int 0)) (.cons (.var 1) (.cons (.var 2) (.cons (.var 3) .nil))))))) .nil)
def T23 (ns : List Int) : List Fn := [F0 ns, F1 ns, F2 ns, F3 ns, F4 ns, F5 ns, F6 ns, F7 ns, F8 ns, F9 ns, F10 ns, F11 ns, F12 ns, F13 ns, F14 ns, F15 ns, F16 ns, F17 ns, F18 ns, F19 ns, F20 ns, F21 ns, F22 ns]
def F23 (ns : List Int) : Fn := run (T23 ns) fuel 1 5 c23
/-! 24 basis_of -/
abbrev s24 : Stmt := top 53
def N24 : List Str := ["telling"]
def c24 : CSs := (.cons (.ret (.call 21 (.cons (.call 23 (.cons (.var 0) .nil)) (.cons (.bin .sub (.bin .mul (.int 2) (.idx (.var 0) (.int 0))) (.int 2)) .nil)))) .nil)
def T24 (ns : List Int) : List Fn := [F0 ns, F1 ns, F2 ns, F3 ns, F4 ns, F5 ns, F6 ns, F7 ns, F8 ns, F9 ns, F10 ns, F11 ns, F12 ns, F13 ns, F14 ns, F15 ns, F16 ns, F17 ns, F18 ns, F19 ns, F20 ns, F21 ns, F22 ns, F23 ns]
def F24 (ns : List Int) : Fn := run (T24 ns) fuel 1 1 c24
/-! 25 fraction -/
abbrev s25 : Stmt := top 24
def N25 : List Str := ["top", "bottom", "by"]
def c25 : CSs := (.cons (.set 2 (.call 11 (.cons (.var 0) (.cons (.var 1) .nil)))) (.cons (.ret (.tup (.cons (.bin .fdiv (.var 0) (.var 2)) (.cons (.bin .fdiv (.var 1) (.var 2)) .nil)))) .nil))
def T25 (ns : List Int) : List Fn := [F0 ns, F1 ns, F2 ns, F3 ns, F4 ns, F5 ns, F6 ns, F7 ns, F8 ns, F9 ns, F10 ns, F11 ns, F12 ns, F13 ns, F14 ns, F15 ns, F16 ns, F17 ns, F18 ns, F19 ns, F20 ns, F21 ns, F22 ns, F23 ns, F24 ns]
def F25 (ns : List Int) : Fn := run (T25 ns) fuel 2 3 c25
/-! 26 proportion -/
abbrev s26 : Stmt := top 62
def N26 : List Str := ["one", "other", "place", "sign", "k", "number", "first", "second"]
def c26 : CSs := (.cons (.set 2 (.idx (.comp [("k", 4), ("number", 5)] (.tup (.cons (.name 4) (.cons (.name 5) .nil))) (.enm (.var 0)) (.som (.cmp .ne (.var 5) (.int 0))) (.var 4)) (.int 0))) (.cons (.ite (.val (.blt .any (.cons (.comp [("first", 6), ("second", 7)] (.tup (.cons (.name 6) (.cons (.name 7) .nil))) (.zip (.var 0) (.var 1)) .non (.cmp .ne (.bin .mul (.var 6) (.idx (.var 1) (.var 2))) (.bin .mul (.var 7) (.idx (.var 0) (.var 2))))) .nil))) (.cons (.ret .non) .nil) .nil) (.cons (.set 3 (.ite (.cmp .gt (.idx (.var 0) (.var 2)) (.int 0)) (.int 1) (.neg (.int 1)))) (.cons (.ret (.call 25 (.cons (.bin .mul (.var 3) (.idx (.var 1) (.var 2))) (.cons (.blt .abs (.cons (.idx (.var 0) (.var 2)) .nil)) .nil)))) .nil))))
def T26 (ns : List Int) : List Fn := [F0 ns, F1 ns, F2 ns, F3 ns, F4 ns, F5 ns, F6 ns, F7 ns, F8 ns, F9 ns, F10 ns, F11 ns, F12 ns, F13 ns, F14 ns, F15 ns, F16 ns, F17 ns, F18 ns, F19 ns, F20 ns, F21 ns, F22 ns, F23 ns, F24 ns, F25 ns]
def F26 (ns : List Int) : Fn := run (T26 ns) fuel 2 8 c26
/-! 27 plain -/
abbrev s27 : Stmt := top 29
def N27 : List Str := ["a", "b"]
def c27 : CSs := (.cons (.unp (.tup (.cons (.name 0) (.cons (.name 1) .nil))) (.call 18 (.cons (.lst (.cons (.var 0) (.cons (.var 1) .nil))) .nil))) (.cons (.ret (.ite (.or (.cons (.cmp .lt (.var 1) (.int 0)) (.cons (.and (.cons (.cmp .eq (.var 1) (.int 0)) (.cons (.cmp .lt (.var 0) (.int 0)) .nil))) .nil))) (.tup (.cons (.neg (.var 0)) (.cons (.neg (.var 1)) .nil))) (.tup (.cons (.var 0) (.cons (.var 1) .nil))))) .nil))
def T27 (ns : List Int) : List Fn := [F0 ns, F1 ns, F2 ns, F3 ns, F4 ns, F5 ns, F6 ns, F7 ns, F8 ns, F9 ns, F10 ns, F11 ns, F12 ns, F13 ns, F14 ns, F15 ns, F16 ns, F17 ns, F18 ns, F19 ns, F20 ns, F21 ns, F22 ns, F23 ns, F24 ns, F25 ns, F26 ns]
def F27 (ns : List Int) : Fn := run (T27 ns) fuel 2 2 c27
/-! 28 gap_of -/
abbrev s28 : Stmt := top 45
def N28 : List Str := ["one", "i", "j", "both"]
def c28 : CSs := (.cons (.set 3 (.bin .add (.lst (.cons (.int 0) (.cons (.int 0) .nil))) (.blt .list (.cons (.var 0) .nil)))) (.cons (.ret (.tup (.cons (.bin .sub (.idx (.var 3) (.bin .mul (.int 2) (.var 2))) (.idx (.var 3) (.bin .mul (.int 2) (.var 1)))) (.cons (.bin .sub (.idx (.var 3) (.bin .add (.bin .mul (.int 2) (.var 2)) (.int 1))) (.idx (.var 3) (.bin .add (.bin .mul (.int 2) (.var 1)) (.int 1)))) .nil)))) .nil))
def T28 (ns : List Int) : List Fn := [F0 ns, F1 ns, F2 ns, F3 ns, F4 ns, F5 ns, F6 ns, F7 ns, F8 ns, F9 ns, F10 ns, F11 ns, F12 ns, F13 ns, F14 ns, F15 ns, F16 ns, F17 ns, F18 ns, F19 ns, F20 ns, F21 ns, F22 ns, F23 ns, F24 ns, F25 ns, F26 ns, F27 ns]
def F28 (ns : List Int) : Fn := run (T28 ns) fuel 3 4 c28
/-! 29 kind_of -/
abbrev s29 : Stmt := top 58
def N29 : List Str := ["basis", "one", "gaps", "x", "y", "gap", "other", "row"]
def c29 : CSs := (.cons (.set 2 (.comp [("gap", 5)] (.name 5) (.seq (.comp [("row", 7)] (.name 7) (.seq (.var 0)) .non (.call 28 (.cons (.var 7) (.cons (.idx (.var 1) (.int 0)) (.cons (.idx (.var 1) (.int 1)) .nil)))))) (.som (.cmp .ne (.var 5) (.tup (.cons (.int 0) (.cons (.int 0) .nil))))) (.var 5))) (.cons (.ite (.cmp .eq (.var 2) (.lst .nil)) (.cons (.ret (.tup (.cons (.str "same") .nil))) .nil) .nil) (.cons (.unp (.tup (.cons (.name 3) (.cons (.name 4) .nil))) (.idx (.var 2) (.int 0))) (.cons (.ite (.val (.blt .any (.cons (.comp [("other", 6)] (.name 6) (.seq (.var 2)) .non (.cmp .ne (.bin .mul (.var 3) (.idx (.var 6) (.int 1))) (.bin .mul (.var 4) (.idx (.var 6) (.int 0))))) .nil))) (.cons (.ret (.tup (.cons (.str "open") .nil))) .nil) .nil) (.cons (.ret (.tup (.cons (.str "along") (.cons (.call 27 (.cons (.var 3) (.cons (.var 4) .nil))) .nil)))) .nil)))))
def T29 (ns : List Int) : List Fn := [F0 ns, F1 ns, F2 ns, F3 ns, F4 ns, F5 ns, F6 ns, F7 ns, F8 ns, F9 ns, F10 ns, F11 ns, F12 ns, F13 ns, F14 ns, F15 ns, F16 ns, F17 ns, F18 ns, F19 ns, F20 ns, F21 ns, F22 ns, F23 ns, F24 ns, F25 ns, F26 ns, F27 ns, F28 ns]
def F29 (ns : List Int) : Fn := run (T29 ns) fuel 2 8 c29
/-! 30 factors_for -/
abbrev s30 : Stmt := top 61
def N30 : List Str := ["basis", "one", "kind", "gaps", "a", "b", "row", "x", "y"]
def c30 : CSs := (.cons (.set 2 (.call 29 (.cons (.var 0) (.cons (.var 1) .nil)))) (.cons (.ite (.cmp .ne (.idx (.var 2) (.int 0)) (.str "along")) (.cons (.ret .non) .nil) .nil) (.cons (.unp (.tup (.cons (.name 4) (.cons (.name 5) .nil))) (.idx (.var 2) (.int 1))) (.cons (.set 3 (.comp [("row", 6)] (.name 6) (.seq (.var 0)) .non (.call 28 (.cons (.var 6) (.cons (.idx (.var 1) (.int 0)) (.cons (.idx (.var 1) (.int 1)) .nil)))))) (.cons (.ret (.comp [("x", 7), ("y", 8)] (.tup (.cons (.name 7) (.cons (.name 8) .nil))) (.seq (.var 3)) .non (.ite (.cmp .ne (.var 4) (.int 0)) (.bin .fdiv (.var 7) (.var 4)) (.bin .fdiv (.var 8) (.var 5))))) .nil)))))
def T30 (ns : List Int) : List Fn := [F0 ns, F1 ns, F2 ns, F3 ns, F4 ns, F5 ns, F6 ns, F7 ns, F8 ns, F9 ns, F10 ns, F11 ns, F12 ns, F13 ns, F14 ns, F15 ns, F16 ns, F17 ns, F18 ns, F19 ns, F20 ns, F21 ns, F22 ns, F23 ns, F24 ns, F25 ns, F26 ns, F27 ns, F28 ns, F29 ns]
def F30 (ns : List Int) : Fn := run (T30 ns) fuel 2 9 c30
/-! 31 quotient -/
abbrev s31 : Stmt := top 63
def N31 : List Str := ["telling", "one", "other", "basis", "first", "second"]
def c31 : CSs := (.cons (.expr (.call 15 (.cons (.var 0) .nil))) (.cons (.expr (.call 16 (.cons (.var 0) (.cons (.var 1) .nil)))) (.cons (.expr (.call 16 (.cons (.var 0) (.cons (.var 2) .nil)))) (.cons (.set 3 (.call 24 (.cons (.var 0) .nil))) (.cons (.par [(false, .name 4), (false, .name 5)] (.cons (.call 30 (.cons (.var 3) (.cons (.var 1) .nil))) (.cons (.call 30 (.cons (.var 3) (.cons (.var 2) .nil))) .nil))) (.cons (.ite (.or (.cons (.cmp .is (.var 4) .non) (.cons (.cmp .is (.var 5) .non) .nil))) (.cons (.rais 13 "not along a direction") .nil) .nil) (.cons (.ret (.call 26 (.cons (.var 4) (.cons (.var 5) .nil)))) .nil)))))))
def T31 (ns : List Int) : List Fn := [F0 ns, F1 ns, F2 ns, F3 ns, F4 ns, F5 ns, F6 ns, F7 ns, F8 ns, F9 ns, F10 ns, F11 ns, F12 ns, F13 ns, F14 ns, F15 ns, F16 ns, F17 ns, F18 ns, F19 ns, F20 ns, F21 ns, F22 ns, F23 ns, F24 ns, F25 ns, F26 ns, F27 ns, F28 ns, F29 ns, F30 ns]
def F31 (ns : List Int) : Fn := run (T31 ns) fuel 3 6 c31
/-! 32 times -/
abbrev s32 : Stmt := top 26
def N32 : List Str := ["one", "other"]
def c32 : CSs := (.cons (.ret (.call 25 (.cons (.bin .mul (.idx (.var 0) (.int 0)) (.idx (.var 1) (.int 0))) (.cons (.bin .mul (.idx (.var 0) (.int 1)) (.idx (.var 1) (.int 1))) .nil)))) .nil)
def T32 (ns : List Int) : List Fn := [F0 ns, F1 ns, F2 ns, F3 ns, F4 ns, F5 ns, F6 ns, F7 ns, F8 ns, F9 ns, F10 ns, F11 ns, F12 ns, F13 ns, F14 ns, F15 ns, F16 ns, F17 ns, F18 ns, F19 ns, F20 ns, F21 ns, F22 ns, F23 ns, F24 ns, F25 ns, F26 ns, F27 ns, F28 ns, F29 ns, F30 ns, F31 ns]
def F32 (ns : List Int) : Fn := run (T32 ns) fuel 2 2 c32
/-! 33 places_of -/
abbrev s33 : Stmt := top 54
def N33 : List Str := ["one", "bottom", "both", "some", "number", "k"]
def c33 : CSs := (.cons (.set 2 (.bin .add (.lst (.cons (.int 0) (.cons (.int 0) .nil))) (.blt .list (.cons (.var 0) .nil)))) (.cons (.set 3 (.comp [("number", 4)] (.name 4) (.seq (.var 2)) .non (.call 32 (.cons (.tup (.cons (.var 4) (.cons (.int 1) .nil))) (.cons (.tup (.cons (.int 1) (.cons (.var 1) .nil))) .nil))))) (.cons (.ret (.blt .tuple (.cons (.comp [("k", 5)] (.name 5) (.rng3 (.int 0) (.blt .len (.cons (.var 3) .nil)) (.int 2)) .non (.tup (.cons (.idx (.var 3) (.var 5)) (.cons (.idx (.var 3) (.bin .add (.var 5) (.int 1))) .nil)))) .nil))) .nil)))
def T33 (ns : List Int) : List Fn := [F0 ns, F1 ns, F2 ns, F3 ns, F4 ns, F5 ns, F6 ns, F7 ns, F8 ns, F9 ns, F10 ns, F11 ns, F12 ns, F13 ns, F14 ns, F15 ns, F16 ns, F17 ns, F18 ns, F19 ns, F20 ns, F21 ns, F22 ns, F23 ns, F24 ns, F25 ns, F26 ns, F27 ns, F28 ns, F29 ns, F30 ns, F31 ns, F32 ns]
def F33 (ns : List Int) : Fn := run (T33 ns) fuel 2 6 c33
/-! 34 two_drawings -/
abbrev s34 : Stmt := top 60
def N34 : List Str := ["telling", "one", "basis", "some", "other", "x", "y", "row", "u", "v"]
def c34 : CSs := (.cons (.expr (.call 15 (.cons (.var 0) .nil))) (.cons (.expr (.call 16 (.cons (.var 0) (.cons (.var 1) .nil)))) (.cons (.set 2 (.call 24 (.cons (.var 0) .nil))) (.cons (.ite (.cmp .ne (.call 29 (.cons (.var 2) (.cons (.var 1) .nil))) (.tup (.cons (.str "open") .nil))) (.cons (.rais 12 "not an open pair") .nil) .nil) (.cons (.set 3 (.comp [("row", 7)] (.name 7) (.seq (.var 2)) (.som (.cmp .ne (.call 28 (.cons (.var 7) (.cons (.idx (.var 1) (.int 0)) (.cons (.idx (.var 1) (.int 1)) .nil)))) (.tup (.cons (.int 0) (.cons (.int 0) .nil))))) (.var 7))) (.cons (.unp (.tup (.cons (.name 5) (.cons (.name 6) .nil))) (.call 28 (.cons (.idx (.var 3) (.int 0)) (.cons (.idx (.var 1) (.int 0)) (.cons (.idx (.var 1) (.int 1)) .nil))))) (.cons (.for_ (.name 4) (.seq (.var 3)) (.cons (.unp (.tup (.cons (.name 8) (.cons (.name 9) .nil))) (.call 28 (.cons (.var 4) (.cons (.idx (.var 1) (.int 0)) (.cons (.idx (.var 1) (.int 1)) .nil))))) (.cons (.ite (.cmp .ne (.bin .mul (.var 5) (.var 9)) (.bin .mul (.var 6) (.var 8))) (.cons (.ret (.tup (.cons (.call 33 (.cons (.idx (.var 3) (.int 0)) (.cons (.int 1) .nil))) (.cons (.call 33 (.cons (.var 4) (.cons (.int 1) .nil))) .nil)))) .nil) .nil) .nil))) (.cons (.ret .non) .nil))))))))
def T34 (ns : List Int) : List Fn := [F0 ns, F1 ns, F2 ns, F3 ns, F4 ns, F5 ns, F6 ns, F7 ns, F8 ns, F9 ns, F10 ns, F11 ns, F12 ns, F13 ns, F14 ns, F15 ns, F16 ns, F17 ns, F18 ns, F19 ns, F20 ns, F21 ns, F22 ns, F23 ns, F24 ns, F25 ns, F26 ns, F27 ns, F28 ns, F29 ns, F30 ns, F31 ns, F32 ns, F33 ns]
def F34 (ns : List Int) : Fn := run (T34 ns) fuel 2 10 c34
/-! 35 _law_call -/
abbrev s35 : Stmt := top 77
def N35 : List Str := ["how", "arguments"]
def c35 : CSs := (.cons (.ite (.cmp .eq (.var 0) (.int 0)) (.cons (.ret (.call 34 (.cons (.idx (.var 1) (.int 0)) (.cons (.idx (.var 1) (.int 1)) .nil)))) .nil) .nil) (.cons (.ret (.call 31 (.cons (.idx (.var 1) (.int 0)) (.cons (.idx (.var 1) (.int 1)) (.cons (.idx (.var 1) (.int 2)) .nil))))) .nil))
def T35 (ns : List Int) : List Fn := [F0 ns, F1 ns, F2 ns, F3 ns, F4 ns, F5 ns, F6 ns, F7 ns, F8 ns, F9 ns, F10 ns, F11 ns, F12 ns, F13 ns, F14 ns, F15 ns, F16 ns, F17 ns, F18 ns, F19 ns, F20 ns, F21 ns, F22 ns, F23 ns, F24 ns, F25 ns, F26 ns, F27 ns, F28 ns, F29 ns, F30 ns, F31 ns, F32 ns, F33 ns, F34 ns]
def F35 (ns : List Int) : Fn := run (T35 ns) fuel 2 2 c35
/-! 36 _law_name -/
abbrev s36 : Stmt := top 69
def N36 : List Str := ["caught", "found"]
def c36 : CSs := (.cons (.ite (.not (.val (.isx (.var 0) none))) (.cons (.ret (.neg (.int 1))) .nil) .nil) (.cons (.set 1 (.lst (.cons (.isx (.var 0) (some 0)) (.cons (.isx (.var 0) (some 1)) .nil)))) (.cons (.set 1 (.bin .add (.var 1) (.lst (.cons (.isx (.var 0) (some 2)) (.cons (.isx (.var 0) (some 3)) .nil))))) (.cons (.set 1 (.bin .add (.var 1) (.lst (.cons (.isx (.var 0) (some 4)) (.cons (.isx (.var 0) (some 5)) .nil))))) (.cons (.set 1 (.bin .add (.var 1) (.lst (.cons (.isx (.var 0) (some 6)) (.cons (.isx (.var 0) (some 7)) .nil))))) (.cons (.set 1 (.bin .add (.var 1) (.lst (.cons (.isx (.var 0) (some 8)) (.cons (.isx (.var 0) (some 9)) .nil))))) (.cons (.set 1 (.bin .add (.var 1) (.lst (.cons (.isx (.var 0) (some 10)) (.cons (.isx (.var 0) (some 11)) .nil))))) (.cons (.set 1 (.bin .add (.var 1) (.lst (.cons (.isx (.var 0) (some 12)) (.cons (.isx (.var 0) (some 13)) .nil))))) (.cons (.set 1 (.bin .add (.var 1) (.lst (.cons (.isx (.var 0) (some 14)) (.cons (.isx (.var 0) (some 15)) .nil))))) (.cons (.set 1 (.bin .add (.var 1) (.lst (.cons (.isx (.var 0) (some 16)) (.cons (.isx (.var 0) (some 17)) .nil))))) (.cons (.ret (.ite (.cmp .eq (.meth .count (.var 1) (.cons (.bl true) .nil)) (.int 1)) (.meth .index (.var 1) (.cons (.bl true) .nil)) (.neg (.int 1)))) .nil)))))))))))
def T36 (ns : List Int) : List Fn := [F0 ns, F1 ns, F2 ns, F3 ns, F4 ns, F5 ns, F6 ns, F7 ns, F8 ns, F9 ns, F10 ns, F11 ns, F12 ns, F13 ns, F14 ns, F15 ns, F16 ns, F17 ns, F18 ns, F19 ns, F20 ns, F21 ns, F22 ns, F23 ns, F24 ns, F25 ns, F26 ns, F27 ns, F28 ns, F29 ns, F30 ns, F31 ns, F32 ns, F33 ns, F34 ns, F35 ns]
def F36 (ns : List Int) : Fn := run (T36 ns) fuel 1 2 c36
/-! 37 _law_outcome -/
abbrev s37 : Stmt := top 68
def N37 : List Str := ["how", "arguments", "caught", "result", "error"]
def c37 : CSs := (.cons (.set 2 .non) (.cons (.set 3 .non) (.cons (.tryh 3 2 4 35 (.cons (.var 0) (.cons (.var 1) .nil))) (.cons (.ite (.cmp .is (.var 2) .non) (.cons (.ret (.tup (.cons (.str "returned") (.cons (.var 3) .nil)))) .nil) .nil) (.cons (.ret (.tup (.cons (.str "raised") (.cons (.call 36 (.cons (.var 2) .nil)) .nil)))) .nil)))))
def T37 (ns : List Int) : List Fn := [F0 ns, F1 ns, F2 ns, F3 ns, F4 ns, F5 ns, F6 ns, F7 ns, F8 ns, F9 ns, F10 ns, F11 ns, F12 ns, F13 ns, F14 ns, F15 ns, F16 ns, F17 ns, F18 ns, F19 ns, F20 ns, F21 ns, F22 ns, F23 ns, F24 ns, F25 ns, F26 ns, F27 ns, F28 ns, F29 ns, F30 ns, F31 ns, F32 ns, F33 ns, F34 ns, F35 ns, F36 ns]
def F37 (ns : List Int) : Fn := run (T37 ns) fuel 2 5 c37
/-! 38 freedom -/
abbrev s38 : Stmt := top 57
def N38 : List Str := ["telling"]
def c38 : CSs := (.cons (.expr (.call 15 (.cons (.var 0) .nil))) (.cons (.ret (.blt .len (.cons (.call 24 (.cons (.var 0) .nil)) .nil))) .nil))
def T38 (ns : List Int) : List Fn := [F0 ns, F1 ns, F2 ns, F3 ns, F4 ns, F5 ns, F6 ns, F7 ns, F8 ns, F9 ns, F10 ns, F11 ns, F12 ns, F13 ns, F14 ns, F15 ns, F16 ns, F17 ns, F18 ns, F19 ns, F20 ns, F21 ns, F22 ns, F23 ns, F24 ns, F25 ns, F26 ns, F27 ns, F28 ns, F29 ns, F30 ns, F31 ns, F32 ns, F33 ns, F34 ns, F35 ns, F36 ns, F37 ns]
def F38 (ns : List Int) : Fn := run (T38 ns) fuel 1 1 c38
/-! 39 pair -/
abbrev s39 : Stmt := top 59
def N39 : List Str := ["telling", "one"]
def c39 : CSs := (.cons (.expr (.call 15 (.cons (.var 0) .nil))) (.cons (.expr (.call 16 (.cons (.var 0) (.cons (.var 1) .nil)))) (.cons (.ret (.call 29 (.cons (.call 24 (.cons (.var 0) .nil)) (.cons (.var 1) .nil)))) .nil)))
def T39 (ns : List Int) : List Fn := [F0 ns, F1 ns, F2 ns, F3 ns, F4 ns, F5 ns, F6 ns, F7 ns, F8 ns, F9 ns, F10 ns, F11 ns, F12 ns, F13 ns, F14 ns, F15 ns, F16 ns, F17 ns, F18 ns, F19 ns, F20 ns, F21 ns, F22 ns, F23 ns, F24 ns, F25 ns, F26 ns, F27 ns, F28 ns, F29 ns, F30 ns, F31 ns, F32 ns, F33 ns, F34 ns, F35 ns, F36 ns, F37 ns, F38 ns]
def F39 (ns : List Int) : Fn := run (T39 ns) fuel 2 2 c39
/-! 40 _law_raises -/
abbrev s40 : Stmt := top 70
def N40 : List Str := ["name", "some"]
def c40 : CSs := (.cons (.set 1 (.lst (.cons (.str "telling") (.cons (.str "places") (.cons (.str "pair") (.cons (.str "number") (.cons (.str "share") (.cons (.str "line") (.cons (.str "part") (.cons (.str "names") (.cons (.str "matrix") .nil))))))))))) (.cons (.set 1 (.bin .add (.var 1) (.lst (.cons (.str "candidates") (.cons (.str "text") (.cons (.str "unequal") (.cons (.str "closed") (.cons (.str "not_along") (.cons (.str "not_drawn") (.cons (.str "many") (.cons (.str "great") (.cons (.str "undo") .nil)))))))))))) (.cons (.ret (.tup (.cons (.str "raised") (.cons (.meth .index (.var 1) (.cons (.var 0) .nil)) .nil)))) .nil)))
def T40 (ns : List Int) : List Fn := [F0 ns, F1 ns, F2 ns, F3 ns, F4 ns, F5 ns, F6 ns, F7 ns, F8 ns, F9 ns, F10 ns, F11 ns, F12 ns, F13 ns, F14 ns, F15 ns, F16 ns, F17 ns, F18 ns, F19 ns, F20 ns, F21 ns, F22 ns, F23 ns, F24 ns, F25 ns, F26 ns, F27 ns, F28 ns, F29 ns, F30 ns, F31 ns, F32 ns, F33 ns, F34 ns, F35 ns, F36 ns, F37 ns, F38 ns, F39 ns]
def F40 (ns : List Int) : Fn := run (T40 ns) fuel 1 2 c40
/-! 41 is_fraction -/
abbrev s41 : Stmt := top 28
def N41 : List Str := ["value"]
def c41 : CSs := (.cons (.ite (.or (.cons (.not (.val (.isi (.var 0) .tuple))) (.cons (.cmp .ne (.blt .len (.cons (.var 0) .nil)) (.int 2)) (.cons (.not (.val (.call 8 (.cons (.idx (.var 0) (.int 0)) (.cons (.neg (.bin .pow (.int 10) (.int 30))) (.cons (.bin .pow (.int 10) (.int 30)) .nil)))))) .nil)))) (.cons (.ret (.bl false)) .nil) .nil) (.cons (.ret (.and (.cons (.call 8 (.cons (.idx (.var 0) (.int 1)) (.cons (.int 1) (.cons (.bin .pow (.int 10) (.int 30)) .nil)))) (.cons (.cmp .eq (.call 11 (.cons (.idx (.var 0) (.int 0)) (.cons (.idx (.var 0) (.int 1)) .nil))) (.int 1)) .nil)))) .nil))
def T41 (ns : List Int) : List Fn := [F0 ns, F1 ns, F2 ns, F3 ns, F4 ns, F5 ns, F6 ns, F7 ns, F8 ns, F9 ns, F10 ns, F11 ns, F12 ns, F13 ns, F14 ns, F15 ns, F16 ns, F17 ns, F18 ns, F19 ns, F20 ns, F21 ns, F22 ns, F23 ns, F24 ns, F25 ns, F26 ns, F27 ns, F28 ns, F29 ns, F30 ns, F31 ns, F32 ns, F33 ns, F34 ns, F35 ns, F36 ns, F37 ns, F38 ns, F39 ns, F40 ns]
def F41 (ns : List Int) : Fn := run (T41 ns) fuel 1 1 c41
/-! 42 is_places -/
abbrev s42 : Stmt := top 47
def N42 : List Str := ["value", "place"]
def c42 : CSs := (.cons (.ite (.or (.cons (.not (.val (.isi (.var 0) .tuple))) (.cons (.not (.chain .le .le (.int 2) (.blt .len (.cons (.var 0) .nil)) (.int 9))) .nil))) (.cons (.ret (.bl false)) .nil) .nil) (.cons (.ite (.not (.val (.blt .all (.cons (.comp [("place", 1)] (.name 1) (.seq (.var 0)) .non (.and (.cons (.isi (.var 1) .tuple) (.cons (.cmp .eq (.blt .len (.cons (.var 1) .nil)) (.int 2)) .nil)))) .nil)))) (.cons (.ret (.bl false)) .nil) .nil) (.cons (.ret (.blt .all (.cons (.comp [("place", 1)] (.name 1) (.seq (.var 0)) .non (.and (.cons (.call 41 (.cons (.idx (.var 1) (.int 0)) .nil)) (.cons (.call 41 (.cons (.idx (.var 1) (.int 1)) .nil)) .nil)))) .nil))) .nil)))
def T42 (ns : List Int) : List Fn := [F0 ns, F1 ns, F2 ns, F3 ns, F4 ns, F5 ns, F6 ns, F7 ns, F8 ns, F9 ns, F10 ns, F11 ns, F12 ns, F13 ns, F14 ns, F15 ns, F16 ns, F17 ns, F18 ns, F19 ns, F20 ns, F21 ns, F22 ns, F23 ns, F24 ns, F25 ns, F26 ns, F27 ns, F28 ns, F29 ns, F30 ns, F31 ns, F32 ns, F33 ns, F34 ns, F35 ns, F36 ns, F37 ns, F38 ns, F39 ns, F40 ns, F41 ns]
def F42 (ns : List Int) : Fn := run (T42 ns) fuel 1 2 c42
/-! 43 check_places -/
abbrev s43 : Stmt := top 48
def N43 : List Str := ["value"]
def c43 : CSs := (.cons (.ite (.not (.val (.call 42 (.cons (.var 0) .nil)))) (.cons (.rais 1 "not places") .nil) .nil) .nil)
def T43 (ns : List Int) : List Fn := [F0 ns, F1 ns, F2 ns, F3 ns, F4 ns, F5 ns, F6 ns, F7 ns, F8 ns, F9 ns, F10 ns, F11 ns, F12 ns, F13 ns, F14 ns, F15 ns, F16 ns, F17 ns, F18 ns, F19 ns, F20 ns, F21 ns, F22 ns, F23 ns, F24 ns, F25 ns, F26 ns, F27 ns, F28 ns, F29 ns, F30 ns, F31 ns, F32 ns, F33 ns, F34 ns, F35 ns, F36 ns, F37 ns, F38 ns, F39 ns, F40 ns, F41 ns, F42 ns]
def F43 (ns : List Int) : Fn := run (T43 ns) fuel 1 1 c43
/-! 44 plus -/
abbrev s44 : Stmt := top 25
def N44 : List Str := ["one", "other"]
def c44 : CSs := (.cons (.ret (.call 25 (.cons (.bin .add (.bin .mul (.idx (.var 0) (.int 0)) (.idx (.var 1) (.int 1))) (.bin .mul (.idx (.var 1) (.int 0)) (.idx (.var 0) (.int 1)))) (.cons (.bin .mul (.idx (.var 0) (.int 1)) (.idx (.var 1) (.int 1))) .nil)))) .nil)
def T44 (ns : List Int) : List Fn := [F0 ns, F1 ns, F2 ns, F3 ns, F4 ns, F5 ns, F6 ns, F7 ns, F8 ns, F9 ns, F10 ns, F11 ns, F12 ns, F13 ns, F14 ns, F15 ns, F16 ns, F17 ns, F18 ns, F19 ns, F20 ns, F21 ns, F22 ns, F23 ns, F24 ns, F25 ns, F26 ns, F27 ns, F28 ns, F29 ns, F30 ns, F31 ns, F32 ns, F33 ns, F34 ns, F35 ns, F36 ns, F37 ns, F38 ns, F39 ns, F40 ns, F41 ns, F42 ns, F43 ns]
def F44 (ns : List Int) : Fn := run (T44 ns) fuel 2 2 c44
/-! 45 less -/
abbrev s45 : Stmt := top 27
def N45 : List Str := ["one", "other"]
def c45 : CSs := (.cons (.ret (.call 44 (.cons (.var 0) (.cons (.tup (.cons (.neg (.idx (.var 1) (.int 0))) (.cons (.idx (.var 1) (.int 1)) .nil))) .nil)))) .nil)
def T45 (ns : List Int) : List Fn := [F0 ns, F1 ns, F2 ns, F3 ns, F4 ns, F5 ns, F6 ns, F7 ns, F8 ns, F9 ns, F10 ns, F11 ns, F12 ns, F13 ns, F14 ns, F15 ns, F16 ns, F17 ns, F18 ns, F19 ns, F20 ns, F21 ns, F22 ns, F23 ns, F24 ns, F25 ns, F26 ns, F27 ns, F28 ns, F29 ns, F30 ns, F31 ns, F32 ns, F33 ns, F34 ns, F35 ns, F36 ns, F37 ns, F38 ns, F39 ns, F40 ns, F41 ns, F42 ns, F43 ns, F44 ns]
def F45 (ns : List Int) : Fn := run (T45 ns) fuel 2 2 c45
/-! 46 mixed -/
abbrev s46 : Stmt := top 55
def N46 : List Str := ["places", "other_places", "share", "rest", "found", "one", "other", "first", "second"]
def c46 : CSs := (.cons (.expr (.call 43 (.cons (.var 0) .nil))) (.cons (.expr (.call 43 (.cons (.var 1) .nil))) (.cons (.ite (.not (.val (.call 41 (.cons (.var 2) .nil)))) (.cons (.rais 4 "not a fraction") .nil) .nil) (.cons (.ite (.cmp .ne (.blt .len (.cons (.var 0) .nil)) (.blt .len (.cons (.var 1) .nil))) (.cons (.rais 11 "not equally many points") .nil) .nil) (.cons (.par [(false, .name 3), (true, .name 4)] (.cons (.call 45 (.cons (.tup (.cons (.int 1) (.cons (.int 1) .nil))) (.cons (.var 2) .nil))) (.cons (.lst .nil) .nil))) (.cons (.for_ (.tup (.cons (.name 5) (.cons (.name 6) .nil))) (.zip (.var 0) (.var 1)) (.cons (.app 4 (.blt .tuple (.cons (.comp [("first", 7), ("second", 8)] (.tup (.cons (.name 7) (.cons (.name 8) .nil))) (.zip (.var 5) (.var 6)) .non (.call 44 (.cons (.call 32 (.cons (.var 2) (.cons (.var 7) .nil))) (.cons (.call 32 (.cons (.var 3) (.cons (.var 8) .nil))) .nil)))) .nil))) .nil)) (.cons (.ret (.blt .tuple (.cons (.bv 4) .nil))) .nil)))))))
def T46 (ns : List Int) : List Fn := [F0 ns, F1 ns, F2 ns, F3 ns, F4 ns, F5 ns, F6 ns, F7 ns, F8 ns, F9 ns, F10 ns, F11 ns, F12 ns, F13 ns, F14 ns, F15 ns, F16 ns, F17 ns, F18 ns, F19 ns, F20 ns, F21 ns, F22 ns, F23 ns, F24 ns, F25 ns, F26 ns, F27 ns, F28 ns, F29 ns, F30 ns, F31 ns, F32 ns, F33 ns, F34 ns, F35 ns, F36 ns, F37 ns, F38 ns, F39 ns, F40 ns, F41 ns, F42 ns, F43 ns, F44 ns, F45 ns]
def F46 (ns : List Int) : Fn := run (T46 ns) fuel 3 9 c46
/-! 47 _law_step -/
abbrev s47 : Stmt := top 78
def N47 : List Str := ["places", "one", "a", "b", "c", "d", "e", "f", "g", "h"]
def c47 : CSs := (.cons (.unp (.tup (.cons (.tup (.cons (.name 2) (.cons (.name 3) .nil))) (.cons (.tup (.cons (.name 4) (.cons (.name 5) .nil))) .nil))) (.idx (.var 0) (.idx (.var 1) (.int 0)))) (.cons (.unp (.tup (.cons (.tup (.cons (.name 6) (.cons (.name 7) .nil))) (.cons (.tup (.cons (.name 8) (.cons (.name 9) .nil))) .nil))) (.idx (.var 0) (.idx (.var 1) (.int 1)))) (.cons (.ret (.tup (.cons (.bin .mul (.bin .mul (.bin .sub (.bin .mul (.var 6) (.var 3)) (.bin .mul (.var 2) (.var 7))) (.var 5)) (.var 9)) (.cons (.bin .mul (.bin .mul (.bin .sub (.bin .mul (.var 8) (.var 5)) (.bin .mul (.var 4) (.var 9))) (.var 3)) (.var 7)) .nil)))) .nil)))
def T47 (ns : List Int) : List Fn := [F0 ns, F1 ns, F2 ns, F3 ns, F4 ns, F5 ns, F6 ns, F7 ns, F8 ns, F9 ns, F10 ns, F11 ns, F12 ns, F13 ns, F14 ns, F15 ns, F16 ns, F17 ns, F18 ns, F19 ns, F20 ns, F21 ns, F22 ns, F23 ns, F24 ns, F25 ns, F26 ns, F27 ns, F28 ns, F29 ns, F30 ns, F31 ns, F32 ns, F33 ns, F34 ns, F35 ns, F36 ns, F37 ns, F38 ns, F39 ns, F40 ns, F41 ns, F42 ns, F43 ns, F44 ns, F45 ns, F46 ns]
def F47 (ns : List Int) : Fn := run (T47 ns) fuel 2 10 c47
/-! 48 check_both -/
abbrev s48 : Stmt := top 50
def N48 : List Str := ["telling", "places"]
def c48 : CSs := (.cons (.expr (.call 15 (.cons (.var 0) .nil))) (.cons (.expr (.call 43 (.cons (.var 1) .nil))) (.cons (.ite (.cmp .ne (.idx (.var 0) (.int 0)) (.blt .len (.cons (.var 1) .nil))) (.cons (.rais 11 "not equally many points") .nil) .nil) .nil)))
def T48 (ns : List Int) : List Fn := [F0 ns, F1 ns, F2 ns, F3 ns, F4 ns, F5 ns, F6 ns, F7 ns, F8 ns, F9 ns, F10 ns, F11 ns, F12 ns, F13 ns, F14 ns, F15 ns, F16 ns, F17 ns, F18 ns, F19 ns, F20 ns, F21 ns, F22 ns, F23 ns, F24 ns, F25 ns, F26 ns, F27 ns, F28 ns, F29 ns, F30 ns, F31 ns, F32 ns, F33 ns, F34 ns, F35 ns, F36 ns, F37 ns, F38 ns, F39 ns, F40 ns, F41 ns, F42 ns, F43 ns, F44 ns, F45 ns, F46 ns, F47 ns]
def F48 (ns : List Int) : Fn := run (T48 ns) fuel 2 2 c48
/-! 49 between -/
abbrev s49 : Stmt := top 30
def N49 : List Str := ["first", "second", "x", "y"]
def c49 : CSs := (.cons (.par [(false, .name 2), (false, .name 3)] (.cons (.call 45 (.cons (.idx (.var 1) (.int 0)) (.cons (.idx (.var 0) (.int 0)) .nil))) (.cons (.call 45 (.cons (.idx (.var 1) (.int 1)) (.cons (.idx (.var 0) (.int 1)) .nil))) .nil))) (.cons (.ret (.tup (.cons (.bin .mul (.idx (.var 2) (.int 0)) (.idx (.var 3) (.int 1))) (.cons (.bin .mul (.idx (.var 3) (.int 0)) (.idx (.var 2) (.int 1))) .nil)))) .nil))
def T49 (ns : List Int) : List Fn := [F0 ns, F1 ns, F2 ns, F3 ns, F4 ns, F5 ns, F6 ns, F7 ns, F8 ns, F9 ns, F10 ns, F11 ns, F12 ns, F13 ns, F14 ns, F15 ns, F16 ns, F17 ns, F18 ns, F19 ns, F20 ns, F21 ns, F22 ns, F23 ns, F24 ns, F25 ns, F26 ns, F27 ns, F28 ns, F29 ns, F30 ns, F31 ns, F32 ns, F33 ns, F34 ns, F35 ns, F36 ns, F37 ns, F38 ns, F39 ns, F40 ns, F41 ns, F42 ns, F43 ns, F44 ns, F45 ns, F46 ns, F47 ns, F48 ns]
def F49 (ns : List Int) : Fn := run (T49 ns) fuel 2 4 c49
/-! 50 factors_of -/
abbrev s50 : Stmt := top 49
def N50 : List Str := ["telling", "places", "found", "i", "j", "sense", "a", "b", "x", "y"]
def c50 : CSs := (.cons (.setO 2 (.lst .nil)) (.cons (.for_ (.tup (.cons (.name 3) (.cons (.name 4) (.cons (.tup (.cons (.name 6) (.cons (.name 7) .nil))) (.cons (.name 5) .nil))))) (.seq (.idx (.var 0) (.int 1))) (.cons (.unp (.tup (.cons (.name 8) (.cons (.name 9) .nil))) (.call 49 (.cons (.idx (.var 1) (.var 3)) (.cons (.idx (.var 1) (.var 4)) .nil)))) (.cons (.app 2 (.tup (.cons (.bin .sub (.bin .mul (.var 8) (.var 7)) (.bin .mul (.var 9) (.var 6))) (.cons (.bin .add (.bin .mul (.var 8) (.var 6)) (.bin .mul (.var 9) (.var 7))) .nil)))) .nil))) (.cons (.frz 2) (.cons (.ret (.var 2)) .nil))))
def T50 (ns : List Int) : List Fn := [F0 ns, F1 ns, F2 ns, F3 ns, F4 ns, F5 ns, F6 ns, F7 ns, F8 ns, F9 ns, F10 ns, F11 ns, F12 ns, F13 ns, F14 ns, F15 ns, F16 ns, F17 ns, F18 ns, F19 ns, F20 ns, F21 ns, F22 ns, F23 ns, F24 ns, F25 ns, F26 ns, F27 ns, F28 ns, F29 ns, F30 ns, F31 ns, F32 ns, F33 ns, F34 ns, F35 ns, F36 ns, F37 ns, F38 ns, F39 ns, F40 ns, F41 ns, F42 ns, F43 ns, F44 ns, F45 ns, F46 ns, F47 ns, F48 ns, F49 ns]
def F50 (ns : List Int) : Fn := run (T50 ns) fuel 2 10 c50
/-! 51 does_fit -/
abbrev s51 : Stmt := top 51
def N51 : List Str := ["telling", "places", "across", "along"]
def c51 : CSs := (.cons (.ret (.not (.blt .any (.cons (.comp [("across", 2), ("along", 3)] (.tup (.cons (.name 2) (.cons (.name 3) .nil))) (.seq (.call 50 (.cons (.var 0) (.cons (.var 1) .nil)))) .non (.var 2)) .nil)))) .nil)
def T51 (ns : List Int) : List Fn := [F0 ns, F1 ns, F2 ns, F3 ns, F4 ns, F5 ns, F6 ns, F7 ns, F8 ns, F9 ns, F10 ns, F11 ns, F12 ns, F13 ns, F14 ns, F15 ns, F16 ns, F17 ns, F18 ns, F19 ns, F20 ns, F21 ns, F22 ns, F23 ns, F24 ns, F25 ns, F26 ns, F27 ns, F28 ns, F29 ns, F30 ns, F31 ns, F32 ns, F33 ns, F34 ns, F35 ns, F36 ns, F37 ns, F38 ns, F39 ns, F40 ns, F41 ns, F42 ns, F43 ns, F44 ns, F45 ns, F46 ns, F47 ns, F48 ns, F49 ns, F50 ns]
def F51 (ns : List Int) : Fn := run (T51 ns) fuel 2 4 c51
/-! 52 fits -/
abbrev s52 : Stmt := top 52
def N52 : List Str := ["telling", "places"]
def c52 : CSs := (.cons (.expr (.call 48 (.cons (.var 0) (.cons (.var 1) .nil)))) (.cons (.ret (.call 51 (.cons (.var 0) (.cons (.var 1) .nil)))) .nil))
def T52 (ns : List Int) : List Fn := [F0 ns, F1 ns, F2 ns, F3 ns, F4 ns, F5 ns, F6 ns, F7 ns, F8 ns, F9 ns, F10 ns, F11 ns, F12 ns, F13 ns, F14 ns, F15 ns, F16 ns, F17 ns, F18 ns, F19 ns, F20 ns, F21 ns, F22 ns, F23 ns, F24 ns, F25 ns, F26 ns, F27 ns, F28 ns, F29 ns, F30 ns, F31 ns, F32 ns, F33 ns, F34 ns, F35 ns, F36 ns, F37 ns, F38 ns, F39 ns, F40 ns, F41 ns, F42 ns, F43 ns, F44 ns, F45 ns, F46 ns, F47 ns, F48 ns, F49 ns, F50 ns, F51 ns]
def F52 (ns : List Int) : Fn := run (T52 ns) fuel 2 2 c52
/-! 53 _law_small -/
abbrev s53 : Stmt := top 76
def N53 : List Str := ["places", "x", "y"]
def c53 : CSs := (.cons (.for_ (.tup (.cons (.name 1) (.cons (.name 2) .nil))) (.seq (.var 0)) (.cons (.ite (.cmp .gt (.blt .max2 (.cons (.blt .abs (.cons (.idx (.var 1) (.int 0)) .nil)) (.cons (.idx (.var 1) (.int 1)) (.cons (.blt .abs (.cons (.idx (.var 2) (.int 0)) .nil)) (.cons (.idx (.var 2) (.int 1)) .nil))))) (.bin .pow (.int 10) (.int 30))) (.cons (.ret (.bl false)) .nil) .nil) .nil)) (.cons (.ret (.bl true)) .nil))
def T53 (ns : List Int) : List Fn := [F0 ns, F1 ns, F2 ns, F3 ns, F4 ns, F5 ns, F6 ns, F7 ns, F8 ns, F9 ns, F10 ns, F11 ns, F12 ns, F13 ns, F14 ns, F15 ns, F16 ns, F17 ns, F18 ns, F19 ns, F20 ns, F21 ns, F22 ns, F23 ns, F24 ns, F25 ns, F26 ns, F27 ns, F28 ns, F29 ns, F30 ns, F31 ns, F32 ns, F33 ns, F34 ns, F35 ns, F36 ns, F37 ns, F38 ns, F39 ns, F40 ns, F41 ns, F42 ns, F43 ns, F44 ns, F45 ns, F46 ns, F47 ns, F48 ns, F49 ns, F50 ns, F51 ns, F52 ns]
def F53 (ns : List Int) : Fn := run (T53 ns) fuel 1 3 c53
/-! 54 law -/
abbrev s54 : Stmt := top 79
def N54 : List Str := ["script", "town", "spots", "telling", "i", "points", "some", "j", "told", "kind_now", "half", "first", "second", "x", "y", "a", "b", "c", "d"]
def c54 : CSs := (.cons (.set 1 (.call 0 (.cons (.var 0) .nil))) (.cons (.set 2 (.call 3 (.cons (.var 0) (.cons (.var 1) (.cons (.bin .add (.int 2) (.call 1 (.cons (.var 0) (.cons (.var 1) (.cons (.int 6) .nil))))) .nil))))) (.cons (.set 3 (.call 7 (.cons (.var 0) (.cons (.var 1) (.cons (.var 2) (.cons (.int 9) .nil)))))) (.cons (.par [(false, .name 5), (true, .name 6)] (.cons (.idx (.var 3) (.int 0)) (.cons (.lst .nil) .nil))) (.cons (.for_ (.name 4) (.rng1 (.var 5)) (.cons (.for_ (.name 7) (.rng2 (.bin .add (.var 4) (.int 1)) (.var 5)) (.cons (.par [(false, .name 9), (false, .name 8)] (.cons (.call 39 (.cons (.var 3) (.cons (.tup (.cons (.var 4) (.cons (.var 7) .nil))) .nil))) (.cons (.call 37 (.cons (.int 0) (.cons (.tup (.cons (.var 3) (.cons (.tup (.cons (.var 4) (.cons (.var 7) .nil))) .nil))) .nil))) .nil))) (.cons (.ite (.cmp .ne (.var 9) (.tup (.cons (.str "open") .nil))) (.cons (.ite (.cmp .ne (.var 8) (.call 40 (.cons (.str "closed") .nil))) (.cons (.ret (.bl false)) .nil) .nil) .nil) (.cons (.ite (.or (.cons (.cmp .ne (.idx (.var 8) (.int 0)) (.str "returned")) (.cons (.cmp .ne (.blt .len (.cons (.idx (.var 8) (.int 1)) .nil)) (.int 2)) .nil))) (.cons (.ret (.bl false)) .nil) (.cons (.unp (.tup (.cons (.name 11) (.cons (.name 12) .nil))) (.idx (.var 8) (.int 1))) (.cons (.par [(false, .tup (.cons (.name 15) (.cons (.name 16) .nil))), (false, .tup (.cons (.name 17) (.cons (.name 18) .nil)))] (.cons (.call 47 (.cons (.var 11) (.cons (.tup (.cons (.var 4) (.cons (.var 7) .nil))) .nil))) (.cons (.call 47 (.cons (.var 12) (.cons (.tup (.cons (.var 4) (.cons (.var 7) .nil))) .nil))) .nil))) (.cons (.ite (.or (.cons (.cmp .eq (.bin .mul (.var 15) (.var 18)) (.bin .mul (.var 16) (.var 17))) (.cons (.cmp .isnot (.call 52 (.cons (.var 3) (.cons (.var 11) .nil))) (.bl true)) (.cons (.cmp .isnot (.call 52 (.cons (.var 3) (.cons (.var 12) .nil))) (.bl true)) .nil)))) (.cons (.ret (.bl false)) .nil) .nil) (.cons (.set 10 (.call 46 (.cons (.var 11) (.cons (.var 12) (.cons (.tup (.cons (.int 1) (.cons (.int 2) .nil))) .nil))))) (.cons (.unp (.tup (.cons (.name 13) (.cons (.name 14) .nil))) (.call 47 (.cons (.var 10) (.cons (.tup (.cons (.var 4) (.cons (.var 7) .nil))) .nil)))) (.cons (.ite (.or (.cons (.cmp .eq (.bin .mul (.var 13) (.var 16)) (.bin .mul (.var 14) (.var 15))) (.cons (.cmp .eq (.bin .mul (.var 13) (.var 18)) (.bin .mul (.var 14) (.var 17))) (.cons (.and (.cons (.val (.call 53 (.cons (.var 10) .nil))) (.cons (.cmp .isnot (.call 52 (.cons (.var 3) (.cons (.var 10) .nil))) (.bl true)) .nil))) .nil)))) (.cons (.ret (.bl false)) .nil) .nil) (.cons (.app 6 (.tup (.cons (.var 4) (.cons (.var 7) .nil)))) .nil)))))))) .nil)) (.cons (.set 8 (.call 37 (.cons (.int 1) (.cons (.tup (.cons (.var 3) (.cons (.tup (.cons (.var 4) (.cons (.var 7) .nil))) (.cons (.tup (.cons (.var 4) (.cons (.var 7) .nil))) .nil)))) .nil)))) (.cons (.ite (.and (.cons (.cmp .ne (.idx (.var 9) (.int 0)) (.str "along")) (.cons (.cmp .ne (.var 8) (.call 40 (.cons (.str "not_along") .nil))) .nil))) (.cons (.ret (.bl false)) .nil) .nil) .nil))))) .nil)) (.cons (.ret (.or (.cons (.cmp .ne (.bv 6) (.lst .nil)) (.cons (.cmp .lt (.call 38 (.cons (.var 3) .nil)) (.bin .sub (.bin .mul (.int 2) (.var 5)) (.int 2))) .nil)))) .nil))))))
def T54 (ns : List Int) : List Fn := [F0 ns, F1 ns, F2 ns, F3 ns, F4 ns, F5 ns, F6 ns, F7 ns, F8 ns, F9 ns, F10 ns, F11 ns, F12 ns, F13 ns, F14 ns, F15 ns, F16 ns, F17 ns, F18 ns, F19 ns, F20 ns, F21 ns, F22 ns, F23 ns, F24 ns, F25 ns, F26 ns, F27 ns, F28 ns, F29 ns, F30 ns, F31 ns, F32 ns, F33 ns, F34 ns, F35 ns, F36 ns, F37 ns, F38 ns, F39 ns, F40 ns, F41 ns, F42 ns, F43 ns, F44 ns, F45 ns, F46 ns, F47 ns, F48 ns, F49 ns, F50 ns, F51 ns, F52 ns, F53 ns]
def F54 (ns : List Int) : Fn := run (T54 ns) fuel 1 19 c54
theorem k0 : townB ⟨N0, FN.take 0, CN⟩ (defScope s0) (defBody s0) = true := by kernel_rfl
theorem k1 : drawB ⟨N1, FN.take 1, CN⟩ (defScope s1) (defBody s1) = true := by kernel_rfl
theorem k2 : chkSs ⟨N2, FN.take 2, CN⟩ (defScope s2) c2 (defBody s2) = true := by kernel_rfl
theorem k3 : chkSs ⟨N3, FN.take 3, CN⟩ (defScope s3) c3 (defBody s3) = true := by kernel_rfl
theorem k4 : chkSs ⟨N4, FN.take 4, CN⟩ (defScope s4) c4 (defBody s4) = true := by kernel_rfl
theorem k5 : chkSs ⟨N5, FN.take 5, CN⟩ (defScope s5) c5 (defBody s5) = true := by kernel_rfl
theorem k6 : chkSs ⟨N6, FN.take 6, CN⟩ (defScope s6) c6 (defBody s6) = true := by kernel_rfl
theorem k7 : chkSs ⟨N7, FN.take 7, CN⟩ (defScope s7) c7 (defBody s7) = true := by kernel_rfl
theorem k8 : chkSs ⟨N8, FN.take 8, CN⟩ (defScope s8) c8 (defBody s8) = true := by kernel_rfl
theorem k9 : chkSs ⟨N9, FN.take 9, CN⟩ (defScope s9) c9 (defBody s9) = true := by kernel_rfl
theorem k10 : chkSs ⟨N10, FN.take 10, CN⟩ (defScope s10) c10 (defBody s10) = true := by kernel_rfl
theorem k11 : chkSs ⟨N11, FN.take 11, CN⟩ (defScope s11) c11 (defBody s11) = true := by kernel_rfl
theorem k12 : chkSs ⟨N12, FN.take 12, CN⟩ (defScope s12) c12 (defBody s12) = true := by kernel_rfl
theorem k13 : chkSs ⟨N13, FN.take 13, CN⟩ (defScope s13) c13 (defBody s13) = true := by kernel_rfl
theorem k14 : chkSs ⟨N14, FN.take 14, CN⟩ (defScope s14) c14 (defBody s14) = true := by kernel_rfl
theorem k15 : chkSs ⟨N15, FN.take 15, CN⟩ (defScope s15) c15 (defBody s15) = true := by kernel_rfl
theorem k16 : chkSs ⟨N16, FN.take 16, CN⟩ (defScope s16) c16 (defBody s16) = true := by kernel_rfl
theorem k17 : chkSs ⟨N17, FN.take 17, CN⟩ (defScope s17) c17 (defBody s17) = true := by kernel_rfl
theorem k18 : chkSs ⟨N18, FN.take 18, CN⟩ (defScope s18) c18 (defBody s18) = true := by kernel_rfl
theorem k19 : chkSs ⟨N19, FN.take 19, CN⟩ (defScope s19) c19 (defBody s19) = true := by kernel_rfl
theorem k20 : chkSs ⟨N20, FN.take 20, CN⟩ (defScope s20) c20 (defBody s20) = true := by kernel_rfl
theorem k21 : chkSs ⟨N21, FN.take 21, CN⟩ (defScope s21) c21 (defBody s21) = true := by kernel_rfl
theorem k22 : chkSs ⟨N22, FN.take 22, CN⟩ (defScope s22) c22 (defBody s22) = true := by kernel_rfl
theorem k23 : chkSs ⟨N23, FN.take 23, CN⟩ (defScope s23) c23 (defBody s23) = true := by kernel_rfl
theorem k24 : chkSs ⟨N24, FN.take 24, CN⟩ (defScope s24) c24 (defBody s24) = true := by kernel_rfl
theorem k25 : chkSs ⟨N25, FN.take 25, CN⟩ (defScope s25) c25 (defBody s25) = true := by kernel_rfl
theorem k26 : chkSs ⟨N26, FN.take 26, CN⟩ (defScope s26) c26 (defBody s26) = true := by kernel_rfl
theorem k27 : chkSs ⟨N27, FN.take 27, CN⟩ (defScope s27) c27 (defBody s27) = true := by kernel_rfl
theorem k28 : chkSs ⟨N28, FN.take 28, CN⟩ (defScope s28) c28 (defBody s28) = true := by kernel_rfl
theorem k29 : chkSs ⟨N29, FN.take 29, CN⟩ (defScope s29) c29 (defBody s29) = true := by kernel_rfl
theorem k30 : chkSs ⟨N30, FN.take 30, CN⟩ (defScope s30) c30 (defBody s30) = true := by kernel_rfl
theorem k31 : chkSs ⟨N31, FN.take 31, CN⟩ (defScope s31) c31 (defBody s31) = true := by kernel_rfl
theorem k32 : chkSs ⟨N32, FN.take 32, CN⟩ (defScope s32) c32 (defBody s32) = true := by kernel_rfl
theorem k33 : chkSs ⟨N33, FN.take 33, CN⟩ (defScope s33) c33 (defBody s33) = true := by kernel_rfl
theorem k34 : chkSs ⟨N34, FN.take 34, CN⟩ (defScope s34) c34 (defBody s34) = true := by kernel_rfl
theorem k35 : chkSs ⟨N35, FN.take 35, CN⟩ (defScope s35) c35 (defBody s35) = true := by kernel_rfl
theorem k36 : chkSs ⟨N36, FN.take 36, CN⟩ (defScope s36) c36 (defBody s36) = true := by kernel_rfl
theorem k37 : chkSs ⟨N37, FN.take 37, CN⟩ (defScope s37) c37 (defBody s37) = true := by kernel_rfl
theorem k38 : chkSs ⟨N38, FN.take 38, CN⟩ (defScope s38) c38 (defBody s38) = true := by kernel_rfl
theorem k39 : chkSs ⟨N39, FN.take 39, CN⟩ (defScope s39) c39 (defBody s39) = true := by kernel_rfl
theorem k40 : chkSs ⟨N40, FN.take 40, CN⟩ (defScope s40) c40 (defBody s40) = true := by kernel_rfl
theorem k41 : chkSs ⟨N41, FN.take 41, CN⟩ (defScope s41) c41 (defBody s41) = true := by kernel_rfl
theorem k42 : chkSs ⟨N42, FN.take 42, CN⟩ (defScope s42) c42 (defBody s42) = true := by kernel_rfl
theorem k43 : chkSs ⟨N43, FN.take 43, CN⟩ (defScope s43) c43 (defBody s43) = true := by kernel_rfl
theorem k44 : chkSs ⟨N44, FN.take 44, CN⟩ (defScope s44) c44 (defBody s44) = true := by kernel_rfl
theorem k45 : chkSs ⟨N45, FN.take 45, CN⟩ (defScope s45) c45 (defBody s45) = true := by kernel_rfl
theorem k46 : chkSs ⟨N46, FN.take 46, CN⟩ (defScope s46) c46 (defBody s46) = true := by kernel_rfl
theorem k47 : chkSs ⟨N47, FN.take 47, CN⟩ (defScope s47) c47 (defBody s47) = true := by kernel_rfl
theorem k48 : chkSs ⟨N48, FN.take 48, CN⟩ (defScope s48) c48 (defBody s48) = true := by kernel_rfl
theorem k49 : chkSs ⟨N49, FN.take 49, CN⟩ (defScope s49) c49 (defBody s49) = true := by kernel_rfl
theorem k50 : chkSs ⟨N50, FN.take 50, CN⟩ (defScope s50) c50 (defBody s50) = true := by kernel_rfl
theorem k51 : chkSs ⟨N51, FN.take 51, CN⟩ (defScope s51) c51 (defBody s51) = true := by kernel_rfl
theorem k52 : chkSs ⟨N52, FN.take 52, CN⟩ (defScope s52) c52 (defBody s52) = true := by kernel_rfl
theorem k53 : chkSs ⟨N53, FN.take 53, CN⟩ (defScope s53) c53 (defBody s53) = true := by kernel_rfl
theorem k54 : chkSs ⟨N54, FN.take 54, CN⟩ (defScope s54) c54 (defBody s54) = true := by kernel_rfl
end K21

namespace K21
open PySem PySem.Spec PyProof.Rows L2 Q7
def d0 : He.DefD := ⟨("_law_town", none), "_law_town", "_law_town", defArgs s0, defBody s0, defScope s0, [], []⟩
def d1 : He.DefD := ⟨("_law_draw", none), "_law_draw", "_law_draw", defArgs s1, defBody s1, defScope s1, [], []⟩
def d2 : He.DefD := ⟨("_law_pick", none), "_law_pick", "_law_pick", defArgs s2, defBody s2, defScope s2, [], []⟩
def d3 : He.DefD := ⟨("_law_spots", none), "_law_spots", "_law_spots", defArgs s3, defBody s3, defScope s3, [], []⟩
def d4 : He.DefD := ⟨("_law_part", none), "_law_part", "_law_part", defArgs s4, defBody s4, defScope s4, [], []⟩
def d5 : He.DefD := ⟨("_law_plain", none), "_law_plain", "_law_plain", defArgs s5, defBody s5, defScope s5, [], []⟩
def d6 : He.DefD := ⟨("_law_direction", none), "_law_direction", "_law_direction", defArgs s6, defBody s6, defScope s6, [], []⟩
def d7 : He.DefD := ⟨("_law_telling", none), "_law_telling", "_law_telling", defArgs s7, defBody s7, defScope s7, [], []⟩
def d8 : He.DefD := ⟨("is_between", none), "is_between", "is_between", defArgs s8, defBody s8, defScope s8, [], []⟩
def d9 : He.DefD := ⟨("is_plain", none), "is_plain", "is_plain", defArgs s9, defBody s9, defScope s9, [], []⟩
def d10 : He.DefD := ⟨("is_pair", none), "is_pair", "is_pair", defArgs s10, defBody s10, defScope s10, [], []⟩
def d11 : He.DefD := ⟨("divisor_of", none), "divisor_of", "divisor_of", defArgs s11, defBody s11, defScope s11, [], []⟩
def d12 : He.DefD := ⟨("is_direction", none), "is_direction", "is_direction", defArgs s12, defBody s12, defScope s12, [], []⟩
def d13 : He.DefD := ⟨("is_line", none), "is_line", "is_line", defArgs s13, defBody s13, defScope s13, [], []⟩
def d14 : He.DefD := ⟨("is_telling", none), "is_telling", "is_telling", defArgs s14, defBody s14, defScope s14, [], []⟩
def d15 : He.DefD := ⟨("check_telling", none), "check_telling", "check_telling", defArgs s15, defBody s15, defScope s15, [], []⟩
def d16 : He.DefD := ⟨("check_pair", none), "check_pair", "check_pair", defArgs s16, defBody s16, defScope s16, [], []⟩
def d17 : He.DefD := ⟨("first_place", none), "first_place", "first_place", defArgs s17, defBody s17, defScope s17, [], []⟩
def d18 : He.DefD := ⟨("shortened", none), "shortened", "shortened", defArgs s18, defBody s18, defScope s18, [], []⟩
def d19 : He.DefD := ⟨("reduced", none), "reduced", "reduced", defArgs s19, defBody s19, defScope s19, [], []⟩
def d20 : He.DefD := ⟨("independent", none), "independent", "independent", defArgs s20, defBody s20, defScope s20, [], []⟩
def d21 : He.DefD := ⟨("solutions", none), "solutions", "solutions", defArgs s21, defBody s21, defScope s21, [], []⟩
def d22 : He.DefD := ⟨("row_of", none), "row_of", "row_of", defArgs s22, defBody s22, defScope s22, [], []⟩
def d23 : He.DefD := ⟨("rows_of", none), "rows_of", "rows_of", defArgs s23, defBody s23, defScope s23, [], []⟩
def d24 : He.DefD := ⟨("basis_of", none), "basis_of", "basis_of", defArgs s24, defBody s24, defScope s24, [], []⟩
def d25 : He.DefD := ⟨("fraction", none), "fraction", "fraction", defArgs s25, defBody s25, defScope s25, [], []⟩
def d26 : He.DefD := ⟨("proportion", none), "proportion", "proportion", defArgs s26, defBody s26, defScope s26, [], []⟩
def d27 : He.DefD := ⟨("plain", none), "plain", "plain", defArgs s27, defBody s27, defScope s27, [], []⟩
def d28 : He.DefD := ⟨("gap_of", none), "gap_of", "gap_of", defArgs s28, defBody s28, defScope s28, [], []⟩
def d29 : He.DefD := ⟨("kind_of", none), "kind_of", "kind_of", defArgs s29, defBody s29, defScope s29, [], []⟩
def d30 : He.DefD := ⟨("factors_for", none), "factors_for", "factors_for", defArgs s30, defBody s30, defScope s30, [], []⟩
def d31 : He.DefD := ⟨("quotient", none), "quotient", "quotient", defArgs s31, defBody s31, defScope s31, [], []⟩
def d32 : He.DefD := ⟨("times", none), "times", "times", defArgs s32, defBody s32, defScope s32, [], []⟩
def d33 : He.DefD := ⟨("places_of", none), "places_of", "places_of", defArgs s33, defBody s33, defScope s33, [], []⟩
def d34 : He.DefD := ⟨("two_drawings", none), "two_drawings", "two_drawings", defArgs s34, defBody s34, defScope s34, [], []⟩
def d35 : He.DefD := ⟨("_law_call", none), "_law_call", "_law_call", defArgs s35, defBody s35, defScope s35, [], []⟩
def d36 : He.DefD := ⟨("_law_name", none), "_law_name", "_law_name", defArgs s36, defBody s36, defScope s36, [], []⟩
def d37 : He.DefD := ⟨("_law_outcome", none), "_law_outcome", "_law_outcome", defArgs s37, defBody s37, defScope s37, [], []⟩
def d38 : He.DefD := ⟨("freedom", none), "freedom", "freedom", defArgs s38, defBody s38, defScope s38, [], []⟩
def d39 : He.DefD := ⟨("pair", none), "pair", "pair", defArgs s39, defBody s39, defScope s39, [], []⟩
def d40 : He.DefD := ⟨("_law_raises", none), "_law_raises", "_law_raises", defArgs s40, defBody s40, defScope s40, [], []⟩
def d41 : He.DefD := ⟨("is_fraction", none), "is_fraction", "is_fraction", defArgs s41, defBody s41, defScope s41, [], []⟩
def d42 : He.DefD := ⟨("is_places", none), "is_places", "is_places", defArgs s42, defBody s42, defScope s42, [], []⟩
def d43 : He.DefD := ⟨("check_places", none), "check_places", "check_places", defArgs s43, defBody s43, defScope s43, [], []⟩
def d44 : He.DefD := ⟨("plus", none), "plus", "plus", defArgs s44, defBody s44, defScope s44, [], []⟩
def d45 : He.DefD := ⟨("less", none), "less", "less", defArgs s45, defBody s45, defScope s45, [], []⟩
def d46 : He.DefD := ⟨("mixed", none), "mixed", "mixed", defArgs s46, defBody s46, defScope s46, [], []⟩
def d47 : He.DefD := ⟨("_law_step", none), "_law_step", "_law_step", defArgs s47, defBody s47, defScope s47, [], []⟩
def d48 : He.DefD := ⟨("check_both", none), "check_both", "check_both", defArgs s48, defBody s48, defScope s48, [], []⟩
def d49 : He.DefD := ⟨("between", none), "between", "between", defArgs s49, defBody s49, defScope s49, [], []⟩
def d50 : He.DefD := ⟨("factors_of", none), "factors_of", "factors_of", defArgs s50, defBody s50, defScope s50, [], []⟩
def d51 : He.DefD := ⟨("does_fit", none), "does_fit", "does_fit", defArgs s51, defBody s51, defScope s51, [], []⟩
def d52 : He.DefD := ⟨("fits", none), "fits", "fits", defArgs s52, defBody s52, defScope s52, [], []⟩
def d53 : He.DefD := ⟨("_law_small", none), "_law_small", "_law_small", defArgs s53, defBody s53, defScope s53, [], []⟩
def d54 : He.DefD := ⟨("law", none), "law", "law", defArgs s54, defBody s54, defScope s54, [], []⟩
def fn : List He.DefD := [d0, d1, d2, d3, d4, d5, d6, d7, d8, d9, d10, d11, d12, d13, d14, d15, d16, d17, d18, d19, d20, d21, d22, d23, d24, d25, d26, d27, d28, d29, d30, d31, d32, d33, d34, d35, d36, d37, d38, d39, d40, d41, d42, d43, d44, d45, d46, d47, d48, d49, d50, d51, d52, d53, d54]
abbrev R : PySem.W.OpenRow := PySem.W.OpenLaw.row PySem.Challenge.rw_slopeshapes_k21_open_pairs
abbrev hk : PySem.W.Hook := hookQ 4 fn (headB CN FN)
def ob (s : PySem.W.SharedT) : AlQ := obsQ 4 fn (headB CN FN) (HandSHeadRun.getT s)
theorem ob_eq (s : PySem.W.SharedT) : ob s = hk.obs s.abs := obsQ_eq (HandSHeadRun.getT_eq s)
def loose : List PySem.Str := (["SlopeError", "InvalidTelling", "InvalidPlaces", "InvalidPair", "InvalidNumber", "InvalidShare", "InvalidLine", "InvalidPart", "InvalidNames", "InvalidMatrix", "InvalidCandidates", "InvalidText", "UnequalPoints", "NotOpen", "NotAlong", "NotDrawn", "TooMany", "TooGreat", "NothingToUndo", "is_between", "divisor_of", "shortened", "fraction", "plus", "times", "less", "is_fraction", "plain", "between", "reduced"] : List PySem.Str) ++ (["first_place", "independent", "solutions", "is_direction", "is_plain", "is_pair", "is_line", "is_telling", "check_telling", "check_pair", "row_of", "rows_of", "gap_of", "is_places", "check_places", "factors_of", "check_both", "does_fit", "fits", "basis_of", "places_of", "mixed", "freedom", "kind_of", "pair", "two_drawings", "factors_for", "proportion", "quotient", "_law_town"] : List PySem.Str) ++ (["_law_draw", "_law_pick", "_law_outcome", "_law_name", "_law_raises", "_law_part", "_law_plain", "_law_direction", "_law_spots", "_law_telling", "_law_small", "_law_call", "_law_step"] : List PySem.Str)
theorem run_ (w : World) : HandSHeadRun.RunEq R (PySem.W.view R.prog [79]) hk ob 8000 loose w := by
  intro os
  kernel_rfl
end K21

namespace K21
open PySem PySem.Spec PyProof.Rows L2 Q7
abbrev ps0 : List Str := ["script"]
theorem sc0 : FnScope N0 ps0 (defScope s0) := ⟨rfl, rfl, rfl, by decide +kernel, rfl, by decide +kernel, by decide +kernel⟩
abbrev ps1 : List Str := ["script", "town", "limit"]
theorem sc1 : FnScope N1 ps1 (defScope s1) := ⟨rfl, rfl, rfl, by decide +kernel, rfl, by decide +kernel, by decide +kernel⟩
abbrev ps2 : List Str := ["script", "town", "choices"]
theorem sc2 : FnScope N2 ps2 (defScope s2) := ⟨rfl, rfl, rfl, by decide +kernel, rfl, by decide +kernel, by decide +kernel⟩
abbrev ps3 : List Str := ["script", "town", "points"]
theorem sc3 : FnScope N3 ps3 (defScope s3) := ⟨rfl, rfl, rfl, by decide +kernel, rfl, by decide +kernel, by decide +kernel⟩
abbrev ps4 : List Str := ["one", "two"]
theorem sc4 : FnScope N4 ps4 (defScope s4) := ⟨rfl, rfl, rfl, by decide +kernel, rfl, by decide +kernel, by decide +kernel⟩
abbrev ps5 : List Str := ["a", "b"]
theorem sc5 : FnScope N5 ps5 (defScope s5) := ⟨rfl, rfl, rfl, by decide +kernel, rfl, by decide +kernel, by decide +kernel⟩
abbrev ps6 : List Str := ["script", "town", "sense"]
theorem sc6 : FnScope N6 ps6 (defScope s6) := ⟨rfl, rfl, rfl, by decide +kernel, rfl, by decide +kernel, by decide +kernel⟩
abbrev ps7 : List Str := ["script", "town", "spots", "most"]
theorem sc7 : FnScope N7 ps7 (defScope s7) := ⟨rfl, rfl, rfl, by decide +kernel, rfl, by decide +kernel, by decide +kernel⟩
abbrev ps8 : List Str := ["value", "low", "high"]
theorem sc8 : FnScope N8 ps8 (defScope s8) := ⟨rfl, rfl, rfl, by decide +kernel, rfl, by decide +kernel, by decide +kernel⟩
abbrev ps9 : List Str := ["direction"]
theorem sc9 : FnScope N9 ps9 (defScope s9) := ⟨rfl, rfl, rfl, by decide +kernel, rfl, by decide +kernel, by decide +kernel⟩
abbrev ps10 : List Str := ["points", "value"]
theorem sc10 : FnScope N10 ps10 (defScope s10) := ⟨rfl, rfl, rfl, by decide +kernel, rfl, by decide +kernel, by decide +kernel⟩
abbrev ps11 : List Str := ["one", "other"]
theorem sc11 : FnScope N11 ps11 (defScope s11) := ⟨rfl, rfl, rfl, by decide +kernel, rfl, by decide +kernel, by decide +kernel⟩
abbrev ps12 : List Str := ["value"]
theorem sc12 : FnScope N12 ps12 (defScope s12) := ⟨rfl, rfl, rfl, by decide +kernel, rfl, by decide +kernel, by decide +kernel⟩
abbrev ps13 : List Str := ["points", "value"]
theorem sc13 : FnScope N13 ps13 (defScope s13) := ⟨rfl, rfl, rfl, by decide +kernel, rfl, by decide +kernel, by decide +kernel⟩
abbrev ps14 : List Str := ["value"]
theorem sc14 : FnScope N14 ps14 (defScope s14) := ⟨rfl, rfl, rfl, by decide +kernel, rfl, by decide +kernel, by decide +kernel⟩
abbrev ps15 : List Str := ["value"]
theorem sc15 : FnScope N15 ps15 (defScope s15) := ⟨rfl, rfl, rfl, by decide +kernel, rfl, by decide +kernel, by decide +kernel⟩
abbrev ps16 : List Str := ["telling", "value"]
theorem sc16 : FnScope N16 ps16 (defScope s16) := ⟨rfl, rfl, rfl, by decide +kernel, rfl, by decide +kernel, by decide +kernel⟩
abbrev ps17 : List Str := ["row"]
theorem sc17 : FnScope N17 ps17 (defScope s17) := ⟨rfl, rfl, rfl, by decide +kernel, rfl, by decide +kernel, by decide +kernel⟩
abbrev ps18 : List Str := ["numbers"]
theorem sc18 : FnScope N18 ps18 (defScope s18) := ⟨rfl, rfl, rfl, by decide +kernel, rfl, by decide +kernel, by decide +kernel⟩
abbrev ps19 : List Str := ["row", "rows"]
theorem sc19 : FnScope N19 ps19 (defScope s19) := ⟨rfl, rfl, rfl, by decide +kernel, rfl, by decide +kernel, by decide +kernel⟩
abbrev ps20 : List Str := ["rows"]
theorem sc20 : FnScope N20 ps20 (defScope s20) := ⟨rfl, rfl, rfl, by decide +kernel, rfl, by decide +kernel, by decide +kernel⟩
abbrev ps21 : List Str := ["rows", "width"]
theorem sc21 : FnScope N21 ps21 (defScope s21) := ⟨rfl, rfl, rfl, by decide +kernel, rfl, by decide +kernel, by decide +kernel⟩
abbrev ps22 : List Str := ["points", "i", "j", "direction"]
theorem sc22 : FnScope N22 ps22 (defScope s22) := ⟨rfl, rfl, rfl, by decide +kernel, rfl, by decide +kernel, by decide +kernel⟩
abbrev ps23 : List Str := ["telling"]
theorem sc23 : FnScope N23 ps23 (defScope s23) := ⟨rfl, rfl, rfl, by decide +kernel, rfl, by decide +kernel, by decide +kernel⟩
abbrev ps24 : List Str := ["telling"]
theorem sc24 : FnScope N24 ps24 (defScope s24) := ⟨rfl, rfl, rfl, by decide +kernel, rfl, by decide +kernel, by decide +kernel⟩
abbrev ps25 : List Str := ["top", "bottom"]
theorem sc25 : FnScope N25 ps25 (defScope s25) := ⟨rfl, rfl, rfl, by decide +kernel, rfl, by decide +kernel, by decide +kernel⟩
abbrev ps26 : List Str := ["one", "other"]
theorem sc26 : FnScope N26 ps26 (defScope s26) := ⟨rfl, rfl, rfl, by decide +kernel, rfl, by decide +kernel, by decide +kernel⟩
abbrev ps27 : List Str := ["a", "b"]
theorem sc27 : FnScope N27 ps27 (defScope s27) := ⟨rfl, rfl, rfl, by decide +kernel, rfl, by decide +kernel, by decide +kernel⟩
abbrev ps28 : List Str := ["one", "i", "j"]
theorem sc28 : FnScope N28 ps28 (defScope s28) := ⟨rfl, rfl, rfl, by decide +kernel, rfl, by decide +kernel, by decide +kernel⟩
abbrev ps29 : List Str := ["basis", "one"]
theorem sc29 : FnScope N29 ps29 (defScope s29) := ⟨rfl, rfl, rfl, by decide +kernel, rfl, by decide +kernel, by decide +kernel⟩
abbrev ps30 : List Str := ["basis", "one"]
theorem sc30 : FnScope N30 ps30 (defScope s30) := ⟨rfl, rfl, rfl, by decide +kernel, rfl, by decide +kernel, by decide +kernel⟩
abbrev ps31 : List Str := ["telling", "one", "other"]
theorem sc31 : FnScope N31 ps31 (defScope s31) := ⟨rfl, rfl, rfl, by decide +kernel, rfl, by decide +kernel, by decide +kernel⟩
abbrev ps32 : List Str := ["one", "other"]
theorem sc32 : FnScope N32 ps32 (defScope s32) := ⟨rfl, rfl, rfl, by decide +kernel, rfl, by decide +kernel, by decide +kernel⟩
abbrev ps33 : List Str := ["one", "bottom"]
theorem sc33 : FnScope N33 ps33 (defScope s33) := ⟨rfl, rfl, rfl, by decide +kernel, rfl, by decide +kernel, by decide +kernel⟩
abbrev ps34 : List Str := ["telling", "one"]
theorem sc34 : FnScope N34 ps34 (defScope s34) := ⟨rfl, rfl, rfl, by decide +kernel, rfl, by decide +kernel, by decide +kernel⟩
abbrev ps35 : List Str := ["how", "arguments"]
theorem sc35 : FnScope N35 ps35 (defScope s35) := ⟨rfl, rfl, rfl, by decide +kernel, rfl, by decide +kernel, by decide +kernel⟩
abbrev ps36 : List Str := ["caught"]
theorem sc36 : FnScope N36 ps36 (defScope s36) := ⟨rfl, rfl, rfl, by decide +kernel, rfl, by decide +kernel, by decide +kernel⟩
abbrev ps37 : List Str := ["how", "arguments"]
theorem sc37 : FnScope N37 ps37 (defScope s37) := ⟨rfl, rfl, rfl, by decide +kernel, rfl, by decide +kernel, by decide +kernel⟩
abbrev ps38 : List Str := ["telling"]
theorem sc38 : FnScope N38 ps38 (defScope s38) := ⟨rfl, rfl, rfl, by decide +kernel, rfl, by decide +kernel, by decide +kernel⟩
abbrev ps39 : List Str := ["telling", "one"]
theorem sc39 : FnScope N39 ps39 (defScope s39) := ⟨rfl, rfl, rfl, by decide +kernel, rfl, by decide +kernel, by decide +kernel⟩
abbrev ps40 : List Str := ["name"]
theorem sc40 : FnScope N40 ps40 (defScope s40) := ⟨rfl, rfl, rfl, by decide +kernel, rfl, by decide +kernel, by decide +kernel⟩
abbrev ps41 : List Str := ["value"]
theorem sc41 : FnScope N41 ps41 (defScope s41) := ⟨rfl, rfl, rfl, by decide +kernel, rfl, by decide +kernel, by decide +kernel⟩
abbrev ps42 : List Str := ["value"]
theorem sc42 : FnScope N42 ps42 (defScope s42) := ⟨rfl, rfl, rfl, by decide +kernel, rfl, by decide +kernel, by decide +kernel⟩
abbrev ps43 : List Str := ["value"]
theorem sc43 : FnScope N43 ps43 (defScope s43) := ⟨rfl, rfl, rfl, by decide +kernel, rfl, by decide +kernel, by decide +kernel⟩
abbrev ps44 : List Str := ["one", "other"]
theorem sc44 : FnScope N44 ps44 (defScope s44) := ⟨rfl, rfl, rfl, by decide +kernel, rfl, by decide +kernel, by decide +kernel⟩
abbrev ps45 : List Str := ["one", "other"]
theorem sc45 : FnScope N45 ps45 (defScope s45) := ⟨rfl, rfl, rfl, by decide +kernel, rfl, by decide +kernel, by decide +kernel⟩
abbrev ps46 : List Str := ["places", "other_places", "share"]
theorem sc46 : FnScope N46 ps46 (defScope s46) := ⟨rfl, rfl, rfl, by decide +kernel, rfl, by decide +kernel, by decide +kernel⟩
abbrev ps47 : List Str := ["places", "one"]
theorem sc47 : FnScope N47 ps47 (defScope s47) := ⟨rfl, rfl, rfl, by decide +kernel, rfl, by decide +kernel, by decide +kernel⟩
abbrev ps48 : List Str := ["telling", "places"]
theorem sc48 : FnScope N48 ps48 (defScope s48) := ⟨rfl, rfl, rfl, by decide +kernel, rfl, by decide +kernel, by decide +kernel⟩
abbrev ps49 : List Str := ["first", "second"]
theorem sc49 : FnScope N49 ps49 (defScope s49) := ⟨rfl, rfl, rfl, by decide +kernel, rfl, by decide +kernel, by decide +kernel⟩
abbrev ps50 : List Str := ["telling", "places"]
theorem sc50 : FnScope N50 ps50 (defScope s50) := ⟨rfl, rfl, rfl, by decide +kernel, rfl, by decide +kernel, by decide +kernel⟩
abbrev ps51 : List Str := ["telling", "places"]
theorem sc51 : FnScope N51 ps51 (defScope s51) := ⟨rfl, rfl, rfl, by decide +kernel, rfl, by decide +kernel, by decide +kernel⟩
abbrev ps52 : List Str := ["telling", "places"]
theorem sc52 : FnScope N52 ps52 (defScope s52) := ⟨rfl, rfl, rfl, by decide +kernel, rfl, by decide +kernel, by decide +kernel⟩
abbrev ps53 : List Str := ["places"]
theorem sc53 : FnScope N53 ps53 (defScope s53) := ⟨rfl, rfl, rfl, by decide +kernel, rfl, by decide +kernel, by decide +kernel⟩
abbrev ps54 : List Str := ["script"]
theorem sc54 : FnScope N54 ps54 (defScope s54) := ⟨rfl, rfl, rfl, by decide +kernel, rfl, by decide +kernel, by decide +kernel⟩
theorem facts {P : Program} {w : World} {K : PySem.W.Frag} {h : Heap} {mg : Str → Option Value} {f : Addr} (X : K.In h) (Gn : h.Ns mainGlobals mg) (hfa : mg ("law" : Str) = some (.ref f)) (c : He.SaysD [] fn K) (hB : headB CN FN K = true) :
    ∃ fd : FuncData, (∀ (s : Shared) (v : Value), BindsTo s fd ⟨[v], []⟩ [("script", v)]) ∧ ∀ (base : Heap) (ns : List Int), FnOk P w K mg base (L2.CX P w) 55 f fd ["script"] (spOf (gbOf K CN ns) 1 (F54 ns)) := by
  have hg : ∀ x ∈ FN, mg x = some (.ref (He.ga K x)) := fun x hx => by
    have h2 := hB
    unfold headB at h2
    simp only [Bool.and_eq_true] at h2
    exact He.glo_ok X Gn (List.all_eq_true.mp h2.2.2.2.2.2 x hx)
  obtain ⟨fd0, G0⟩ := c.def_ 0 (d := d0) rfl
  have g0 : mg "_law_town" = some (.ref (He.fAd K ("_law_town", none))) := hg "_law_town" (by decide +kernel)
  have b0 : Binds K fd0 ps0 [] := FunD.bindsN G0 fun _ _ _ _ _ _ us hl => match us, hl with | [_], _ => rfl
  obtain ⟨fd1, G1⟩ := c.def_ 1 (d := d1) rfl
  have g1 : mg "_law_draw" = some (.ref (He.fAd K ("_law_draw", none))) := hg "_law_draw" (by decide +kernel)
  have b1 : Binds K fd1 ps1 [] := FunD.bindsN G1 fun _ _ _ _ _ _ us hl => match us, hl with | [_, _, _], _ => rfl
  obtain ⟨fd2, G2⟩ := c.def_ 2 (d := d2) rfl
  have g2 : mg "_law_pick" = some (.ref (He.fAd K ("_law_pick", none))) := hg "_law_pick" (by decide +kernel)
  have b2 : Binds K fd2 ps2 [] := FunD.bindsN G2 fun _ _ _ _ _ _ us hl => match us, hl with | [_, _, _], _ => rfl
  obtain ⟨fd3, G3⟩ := c.def_ 3 (d := d3) rfl
  have g3 : mg "_law_spots" = some (.ref (He.fAd K ("_law_spots", none))) := hg "_law_spots" (by decide +kernel)
  have b3 : Binds K fd3 ps3 [] := FunD.bindsN G3 fun _ _ _ _ _ _ us hl => match us, hl with | [_, _, _], _ => rfl
  obtain ⟨fd4, G4⟩ := c.def_ 4 (d := d4) rfl
  have g4 : mg "_law_part" = some (.ref (He.fAd K ("_law_part", none))) := hg "_law_part" (by decide +kernel)
  have b4 : Binds K fd4 ps4 [] := FunD.bindsN G4 fun _ _ _ _ _ _ us hl => match us, hl with | [_, _], _ => rfl
  obtain ⟨fd5, G5⟩ := c.def_ 5 (d := d5) rfl
  have g5 : mg "_law_plain" = some (.ref (He.fAd K ("_law_plain", none))) := hg "_law_plain" (by decide +kernel)
  have b5 : Binds K fd5 ps5 [] := FunD.bindsN G5 fun _ _ _ _ _ _ us hl => match us, hl with | [_, _], _ => rfl
  obtain ⟨fd6, G6⟩ := c.def_ 6 (d := d6) rfl
  have g6 : mg "_law_direction" = some (.ref (He.fAd K ("_law_direction", none))) := hg "_law_direction" (by decide +kernel)
  have b6 : Binds K fd6 ps6 [] := FunD.bindsN G6 fun _ _ _ _ _ _ us hl => match us, hl with | [_, _, _], _ => rfl
  obtain ⟨fd7, G7⟩ := c.def_ 7 (d := d7) rfl
  have g7 : mg "_law_telling" = some (.ref (He.fAd K ("_law_telling", none))) := hg "_law_telling" (by decide +kernel)
  have b7 : Binds K fd7 ps7 [] := FunD.bindsN G7 fun _ _ _ _ _ _ us hl => match us, hl with | [_, _, _, _], _ => rfl
  obtain ⟨fd8, G8⟩ := c.def_ 8 (d := d8) rfl
  have g8 : mg "is_between" = some (.ref (He.fAd K ("is_between", none))) := hg "is_between" (by decide +kernel)
  have b8 : Binds K fd8 ps8 [] := FunD.bindsN G8 fun _ _ _ _ _ _ us hl => match us, hl with | [_, _, _], _ => rfl
  obtain ⟨fd9, G9⟩ := c.def_ 9 (d := d9) rfl
  have g9 : mg "is_plain" = some (.ref (He.fAd K ("is_plain", none))) := hg "is_plain" (by decide +kernel)
  have b9 : Binds K fd9 ps9 [] := FunD.bindsN G9 fun _ _ _ _ _ _ us hl => match us, hl with | [_], _ => rfl
  obtain ⟨fd10, G10⟩ := c.def_ 10 (d := d10) rfl
  have g10 : mg "is_pair" = some (.ref (He.fAd K ("is_pair", none))) := hg "is_pair" (by decide +kernel)
  have b10 : Binds K fd10 ps10 [] := FunD.bindsN G10 fun _ _ _ _ _ _ us hl => match us, hl with | [_, _], _ => rfl
  obtain ⟨fd11, G11⟩ := c.def_ 11 (d := d11) rfl
  have g11 : mg "divisor_of" = some (.ref (He.fAd K ("divisor_of", none))) := hg "divisor_of" (by decide +kernel)
  have b11 : Binds K fd11 ps11 [] := FunD.bindsN G11 fun _ _ _ _ _ _ us hl => match us, hl with | [_, _], _ => rfl
  obtain ⟨fd12, G12⟩ := c.def_ 12 (d := d12) rfl
  have g12 : mg "is_direction" = some (.ref (He.fAd K ("is_direction", none))) := hg "is_direction" (by decide +kernel)
  have b12 : Binds K fd12 ps12 [] := FunD.bindsN G12 fun _ _ _ _ _ _ us hl => match us, hl with | [_], _ => rfl
  obtain ⟨fd13, G13⟩ := c.def_ 13 (d := d13) rfl
  have g13 : mg "is_line" = some (.ref (He.fAd K ("is_line", none))) := hg "is_line" (by decide +kernel)
  have b13 : Binds K fd13 ps13 [] := FunD.bindsN G13 fun _ _ _ _ _ _ us hl => match us, hl with | [_, _], _ => rfl
  obtain ⟨fd14, G14⟩ := c.def_ 14 (d := d14) rfl
  have g14 : mg "is_telling" = some (.ref (He.fAd K ("is_telling", none))) := hg "is_telling" (by decide +kernel)
  have b14 : Binds K fd14 ps14 [] := FunD.bindsN G14 fun _ _ _ _ _ _ us hl => match us, hl with | [_], _ => rfl
  obtain ⟨fd15, G15⟩ := c.def_ 15 (d := d15) rfl
  have g15 : mg "check_telling" = some (.ref (He.fAd K ("check_telling", none))) := hg "check_telling" (by decide +kernel)
  have b15 : Binds K fd15 ps15 [] := FunD.bindsN G15 fun _ _ _ _ _ _ us hl => match us, hl with | [_], _ => rfl
  obtain ⟨fd16, G16⟩ := c.def_ 16 (d := d16) rfl
  have g16 : mg "check_pair" = some (.ref (He.fAd K ("check_pair", none))) := hg "check_pair" (by decide +kernel)
  have b16 : Binds K fd16 ps16 [] := FunD.bindsN G16 fun _ _ _ _ _ _ us hl => match us, hl with | [_, _], _ => rfl
  obtain ⟨fd17, G17⟩ := c.def_ 17 (d := d17) rfl
  have g17 : mg "first_place" = some (.ref (He.fAd K ("first_place", none))) := hg "first_place" (by decide +kernel)
  have b17 : Binds K fd17 ps17 [] := FunD.bindsN G17 fun _ _ _ _ _ _ us hl => match us, hl with | [_], _ => rfl
  obtain ⟨fd18, G18⟩ := c.def_ 18 (d := d18) rfl
  have g18 : mg "shortened" = some (.ref (He.fAd K ("shortened", none))) := hg "shortened" (by decide +kernel)
  have b18 : Binds K fd18 ps18 [] := FunD.bindsN G18 fun _ _ _ _ _ _ us hl => match us, hl with | [_], _ => rfl
  obtain ⟨fd19, G19⟩ := c.def_ 19 (d := d19) rfl
  have g19 : mg "reduced" = some (.ref (He.fAd K ("reduced", none))) := hg "reduced" (by decide +kernel)
  have b19 : Binds K fd19 ps19 [] := FunD.bindsN G19 fun _ _ _ _ _ _ us hl => match us, hl with | [_, _], _ => rfl
  obtain ⟨fd20, G20⟩ := c.def_ 20 (d := d20) rfl
  have g20 : mg "independent" = some (.ref (He.fAd K ("independent", none))) := hg "independent" (by decide +kernel)
  have b20 : Binds K fd20 ps20 [] := FunD.bindsN G20 fun _ _ _ _ _ _ us hl => match us, hl with | [_], _ => rfl
  obtain ⟨fd21, G21⟩ := c.def_ 21 (d := d21) rfl
  have g21 : mg "solutions" = some (.ref (He.fAd K ("solutions", none))) := hg "solutions" (by decide +kernel)
  have b21 : Binds K fd21 ps21 [] := FunD.bindsN G21 fun _ _ _ _ _ _ us hl => match us, hl with | [_, _], _ => rfl
  obtain ⟨fd22, G22⟩ := c.def_ 22 (d := d22) rfl
  have g22 : mg "row_of" = some (.ref (He.fAd K ("row_of", none))) := hg "row_of" (by decide +kernel)
  have b22 : Binds K fd22 ps22 [] := FunD.bindsN G22 fun _ _ _ _ _ _ us hl => match us, hl with | [_, _, _, _], _ => rfl
  obtain ⟨fd23, G23⟩ := c.def_ 23 (d := d23) rfl
  have g23 : mg "rows_of" = some (.ref (He.fAd K ("rows_of", none))) := hg "rows_of" (by decide +kernel)
  have b23 : Binds K fd23 ps23 [] := FunD.bindsN G23 fun _ _ _ _ _ _ us hl => match us, hl with | [_], _ => rfl
  obtain ⟨fd24, G24⟩ := c.def_ 24 (d := d24) rfl
  have g24 : mg "basis_of" = some (.ref (He.fAd K ("basis_of", none))) := hg "basis_of" (by decide +kernel)
  have b24 : Binds K fd24 ps24 [] := FunD.bindsN G24 fun _ _ _ _ _ _ us hl => match us, hl with | [_], _ => rfl
  obtain ⟨fd25, G25⟩ := c.def_ 25 (d := d25) rfl
  have g25 : mg "fraction" = some (.ref (He.fAd K ("fraction", none))) := hg "fraction" (by decide +kernel)
  have b25 : Binds K fd25 ps25 [] := FunD.bindsN G25 fun _ _ _ _ _ _ us hl => match us, hl with | [_, _], _ => rfl
  obtain ⟨fd26, G26⟩ := c.def_ 26 (d := d26) rfl
  have g26 : mg "proportion" = some (.ref (He.fAd K ("proportion", none))) := hg "proportion" (by decide +kernel)
  have b26 : Binds K fd26 ps26 [] := FunD.bindsN G26 fun _ _ _ _ _ _ us hl => match us, hl with | [_, _], _ => rfl
  obtain ⟨fd27, G27⟩ := c.def_ 27 (d := d27) rfl
  have g27 : mg "plain" = some (.ref (He.fAd K ("plain", none))) := hg "plain" (by decide +kernel)
  have b27 : Binds K fd27 ps27 [] := FunD.bindsN G27 fun _ _ _ _ _ _ us hl => match us, hl with | [_, _], _ => rfl
  obtain ⟨fd28, G28⟩ := c.def_ 28 (d := d28) rfl
  have g28 : mg "gap_of" = some (.ref (He.fAd K ("gap_of", none))) := hg "gap_of" (by decide +kernel)
  have b28 : Binds K fd28 ps28 [] := FunD.bindsN G28 fun _ _ _ _ _ _ us hl => match us, hl with | [_, _, _], _ => rfl
  obtain ⟨fd29, G29⟩ := c.def_ 29 (d := d29) rfl
  have g29 : mg "kind_of" = some (.ref (He.fAd K ("kind_of", none))) := hg "kind_of" (by decide +kernel)
  have b29 : Binds K fd29 ps29 [] := FunD.bindsN G29 fun _ _ _ _ _ _ us hl => match us, hl with | [_, _], _ => rfl
  obtain ⟨fd30, G30⟩ := c.def_ 30 (d := d30) rfl
  have g30 : mg "factors_for" = some (.ref (He.fAd K ("factors_for", none))) := hg "factors_for" (by decide +kernel)
  have b30 : Binds K fd30 ps30 [] := FunD.bindsN G30 fun _ _ _ _ _ _ us hl => match us, hl with | [_, _], _ => rfl
  obtain ⟨fd31, G31⟩ := c.def_ 31 (d := d31) rfl
  have g31 : mg "quotient" = some (.ref (He.fAd K ("quotient", none))) := hg "quotient" (by decide +kernel)
  have b31 : Binds K fd31 ps31 [] := FunD.bindsN G31 fun _ _ _ _ _ _ us hl => match us, hl with | [_, _, _], _ => rfl
  obtain ⟨fd32, G32⟩ := c.def_ 32 (d := d32) rfl
  have g32 : mg "times" = some (.ref (He.fAd K ("times", none))) := hg "times" (by decide +kernel)
  have b32 : Binds K fd32 ps32 [] := FunD.bindsN G32 fun _ _ _ _ _ _ us hl => match us, hl with | [_, _], _ => rfl
  obtain ⟨fd33, G33⟩ := c.def_ 33 (d := d33) rfl
  have g33 : mg "places_of" = some (.ref (He.fAd K ("places_of", none))) := hg "places_of" (by decide +kernel)
  have b33 : Binds K fd33 ps33 [] := FunD.bindsN G33 fun _ _ _ _ _ _ us hl => match us, hl with | [_, _], _ => rfl
  obtain ⟨fd34, G34⟩ := c.def_ 34 (d := d34) rfl
  have g34 : mg "two_drawings" = some (.ref (He.fAd K ("two_drawings", none))) := hg "two_drawings" (by decide +kernel)
  have b34 : Binds K fd34 ps34 [] := FunD.bindsN G34 fun _ _ _ _ _ _ us hl => match us, hl with | [_, _], _ => rfl
  obtain ⟨fd35, G35⟩ := c.def_ 35 (d := d35) rfl
  have g35 : mg "_law_call" = some (.ref (He.fAd K ("_law_call", none))) := hg "_law_call" (by decide +kernel)
  have b35 : Binds K fd35 ps35 [] := FunD.bindsN G35 fun _ _ _ _ _ _ us hl => match us, hl with | [_, _], _ => rfl
  obtain ⟨fd36, G36⟩ := c.def_ 36 (d := d36) rfl
  have g36 : mg "_law_name" = some (.ref (He.fAd K ("_law_name", none))) := hg "_law_name" (by decide +kernel)
  have b36 : Binds K fd36 ps36 [] := FunD.bindsN G36 fun _ _ _ _ _ _ us hl => match us, hl with | [_], _ => rfl
  obtain ⟨fd37, G37⟩ := c.def_ 37 (d := d37) rfl
  have g37 : mg "_law_outcome" = some (.ref (He.fAd K ("_law_outcome", none))) := hg "_law_outcome" (by decide +kernel)
  have b37 : Binds K fd37 ps37 [] := FunD.bindsN G37 fun _ _ _ _ _ _ us hl => match us, hl with | [_, _], _ => rfl
  obtain ⟨fd38, G38⟩ := c.def_ 38 (d := d38) rfl
  have g38 : mg "freedom" = some (.ref (He.fAd K ("freedom", none))) := hg "freedom" (by decide +kernel)
  have b38 : Binds K fd38 ps38 [] := FunD.bindsN G38 fun _ _ _ _ _ _ us hl => match us, hl with | [_], _ => rfl
  obtain ⟨fd39, G39⟩ := c.def_ 39 (d := d39) rfl
  have g39 : mg "pair" = some (.ref (He.fAd K ("pair", none))) := hg "pair" (by decide +kernel)
  have b39 : Binds K fd39 ps39 [] := FunD.bindsN G39 fun _ _ _ _ _ _ us hl => match us, hl with | [_, _], _ => rfl
  obtain ⟨fd40, G40⟩ := c.def_ 40 (d := d40) rfl
  have g40 : mg "_law_raises" = some (.ref (He.fAd K ("_law_raises", none))) := hg "_law_raises" (by decide +kernel)
  have b40 : Binds K fd40 ps40 [] := FunD.bindsN G40 fun _ _ _ _ _ _ us hl => match us, hl with | [_], _ => rfl
  obtain ⟨fd41, G41⟩ := c.def_ 41 (d := d41) rfl
  have g41 : mg "is_fraction" = some (.ref (He.fAd K ("is_fraction", none))) := hg "is_fraction" (by decide +kernel)
  have b41 : Binds K fd41 ps41 [] := FunD.bindsN G41 fun _ _ _ _ _ _ us hl => match us, hl with | [_], _ => rfl
  obtain ⟨fd42, G42⟩ := c.def_ 42 (d := d42) rfl
  have g42 : mg "is_places" = some (.ref (He.fAd K ("is_places", none))) := hg "is_places" (by decide +kernel)
  have b42 : Binds K fd42 ps42 [] := FunD.bindsN G42 fun _ _ _ _ _ _ us hl => match us, hl with | [_], _ => rfl
  obtain ⟨fd43, G43⟩ := c.def_ 43 (d := d43) rfl
  have g43 : mg "check_places" = some (.ref (He.fAd K ("check_places", none))) := hg "check_places" (by decide +kernel)
  have b43 : Binds K fd43 ps43 [] := FunD.bindsN G43 fun _ _ _ _ _ _ us hl => match us, hl with | [_], _ => rfl
  obtain ⟨fd44, G44⟩ := c.def_ 44 (d := d44) rfl
  have g44 : mg "plus" = some (.ref (He.fAd K ("plus", none))) := hg "plus" (by decide +kernel)
  have b44 : Binds K fd44 ps44 [] := FunD.bindsN G44 fun _ _ _ _ _ _ us hl => match us, hl with | [_, _], _ => rfl
  obtain ⟨fd45, G45⟩ := c.def_ 45 (d := d45) rfl
  have g45 : mg "less" = some (.ref (He.fAd K ("less", none))) := hg "less" (by decide +kernel)
  have b45 : Binds K fd45 ps45 [] := FunD.bindsN G45 fun _ _ _ _ _ _ us hl => match us, hl with | [_, _], _ => rfl
  obtain ⟨fd46, G46⟩ := c.def_ 46 (d := d46) rfl
  have g46 : mg "mixed" = some (.ref (He.fAd K ("mixed", none))) := hg "mixed" (by decide +kernel)
  have b46 : Binds K fd46 ps46 [] := FunD.bindsN G46 fun _ _ _ _ _ _ us hl => match us, hl with | [_, _, _], _ => rfl
  obtain ⟨fd47, G47⟩ := c.def_ 47 (d := d47) rfl
  have g47 : mg "_law_step" = some (.ref (He.fAd K ("_law_step", none))) := hg "_law_step" (by decide +kernel)
  have b47 : Binds K fd47 ps47 [] := FunD.bindsN G47 fun _ _ _ _ _ _ us hl => match us, hl with | [_, _], _ => rfl
  obtain ⟨fd48, G48⟩ := c.def_ 48 (d := d48) rfl
  have g48 : mg "check_both" = some (.ref (He.fAd K ("check_both", none))) := hg "check_both" (by decide +kernel)
  have b48 : Binds K fd48 ps48 [] := FunD.bindsN G48 fun _ _ _ _ _ _ us hl => match us, hl with | [_, _], _ => rfl
  obtain ⟨fd49, G49⟩ := c.def_ 49 (d := d49) rfl
  have g49 : mg "between" = some (.ref (He.fAd K ("between", none))) := hg "between" (by decide +kernel)
  have b49 : Binds K fd49 ps49 [] := FunD.bindsN G49 fun _ _ _ _ _ _ us hl => match us, hl with | [_, _], _ => rfl
  obtain ⟨fd50, G50⟩ := c.def_ 50 (d := d50) rfl
  have g50 : mg "factors_of" = some (.ref (He.fAd K ("factors_of", none))) := hg "factors_of" (by decide +kernel)
  have b50 : Binds K fd50 ps50 [] := FunD.bindsN G50 fun _ _ _ _ _ _ us hl => match us, hl with | [_, _], _ => rfl
  obtain ⟨fd51, G51⟩ := c.def_ 51 (d := d51) rfl
  have g51 : mg "does_fit" = some (.ref (He.fAd K ("does_fit", none))) := hg "does_fit" (by decide +kernel)
  have b51 : Binds K fd51 ps51 [] := FunD.bindsN G51 fun _ _ _ _ _ _ us hl => match us, hl with | [_, _], _ => rfl
  obtain ⟨fd52, G52⟩ := c.def_ 52 (d := d52) rfl
  have g52 : mg "fits" = some (.ref (He.fAd K ("fits", none))) := hg "fits" (by decide +kernel)
  have b52 : Binds K fd52 ps52 [] := FunD.bindsN G52 fun _ _ _ _ _ _ us hl => match us, hl with | [_, _], _ => rfl
  obtain ⟨fd53, G53⟩ := c.def_ 53 (d := d53) rfl
  have g53 : mg "_law_small" = some (.ref (He.fAd K ("_law_small", none))) := hg "_law_small" (by decide +kernel)
  have b53 : Binds K fd53 ps53 [] := FunD.bindsN G53 fun _ _ _ _ _ _ us hl => match us, hl with | [_], _ => rfl
  obtain ⟨fd54, G54⟩ := c.def_ 54 (d := d54) rfl
  have g54 : mg "law" = some (.ref (He.fAd K ("law", none))) := hg "law" (by decide +kernel)
  have b54 : Binds K fd54 ps54 [] := FunD.bindsN G54 fun _ _ _ _ _ _ us hl => match us, hl with | [_], _ => rfl
  have e := hfa.symm.trans g54
  cases e
  have bl := FunD.bindsA (ps := ["script"]) G54 fun _ _ _ _ _ _ us hl => match us, hl with | [_], _ => rfl
  refine ⟨fd54, fun s v => bl s [v] rfl, fun base ns => ?_⟩
  have t0 : Tab P w K mg base (gbOf K CN ns) (FN.take 0) CN 0 [] := tab0 X Gn hB rfl (by decide +kernel) ns
  have t1 : Tab P w K mg base (gbOf K CN ns) (FN.take 1) CN 1 [F0 ns] := t0.add (ps := ps0) (F := F0 ns) g0 (town_ok t0 G0 sc0 k0) G0.kp b0 (fun ds S h => len1 h)
  have t2 : Tab P w K mg base (gbOf K CN ns) (FN.take 2) CN 2 [F0 ns, F1 ns] := t1.add (ps := ps1) (F := F1 ns) g1 (draw_ok t1 G1 sc1 rfl k1) G1.kp b1 (fun ds S h => len3 h)
  have t3 : Tab P w K mg base (gbOf K CN ns) (FN.take 3) CN 3 [F0 ns, F1 ns, F2 ns] := t2.add (ps := ps2) (F := F2 ns) g2 (def_ok t2 G2 sc2 c2 fuel k2) G2.kp b2 (fun ds S h => run_arity h)
  have t4 : Tab P w K mg base (gbOf K CN ns) (FN.take 4) CN 4 [F0 ns, F1 ns, F2 ns, F3 ns] := t3.add (ps := ps3) (F := F3 ns) g3 (def_ok t3 G3 sc3 c3 fuel k3) G3.kp b3 (fun ds S h => run_arity h)
  have t5 : Tab P w K mg base (gbOf K CN ns) (FN.take 5) CN 5 [F0 ns, F1 ns, F2 ns, F3 ns, F4 ns] := t4.add (ps := ps4) (F := F4 ns) g4 (def_ok t4 G4 sc4 c4 fuel k4) G4.kp b4 (fun ds S h => run_arity h)
  have t6 : Tab P w K mg base (gbOf K CN ns) (FN.take 6) CN 6 [F0 ns, F1 ns, F2 ns, F3 ns, F4 ns, F5 ns] := t5.add (ps := ps5) (F := F5 ns) g5 (def_ok t5 G5 sc5 c5 fuel k5) G5.kp b5 (fun ds S h => run_arity h)
  have t7 : Tab P w K mg base (gbOf K CN ns) (FN.take 7) CN 7 [F0 ns, F1 ns, F2 ns, F3 ns, F4 ns, F5 ns, F6 ns] := t6.add (ps := ps6) (F := F6 ns) g6 (def_ok t6 G6 sc6 c6 fuel k6) G6.kp b6 (fun ds S h => run_arity h)
  have t8 : Tab P w K mg base (gbOf K CN ns) (FN.take 8) CN 8 [F0 ns, F1 ns, F2 ns, F3 ns, F4 ns, F5 ns, F6 ns, F7 ns] := t7.add (ps := ps7) (F := F7 ns) g7 (def_ok t7 G7 sc7 c7 fuel k7) G7.kp b7 (fun ds S h => run_arity h)
  have t9 : Tab P w K mg base (gbOf K CN ns) (FN.take 9) CN 9 [F0 ns, F1 ns, F2 ns, F3 ns, F4 ns, F5 ns, F6 ns, F7 ns, F8 ns] := t8.add (ps := ps8) (F := F8 ns) g8 (def_ok t8 G8 sc8 c8 fuel k8) G8.kp b8 (fun ds S h => run_arity h)
  have t10 : Tab P w K mg base (gbOf K CN ns) (FN.take 10) CN 10 [F0 ns, F1 ns, F2 ns, F3 ns, F4 ns, F5 ns, F6 ns, F7 ns, F8 ns, F9 ns] := t9.add (ps := ps9) (F := F9 ns) g9 (def_ok t9 G9 sc9 c9 fuel k9) G9.kp b9 (fun ds S h => run_arity h)
  have t11 : Tab P w K mg base (gbOf K CN ns) (FN.take 11) CN 11 [F0 ns, F1 ns, F2 ns, F3 ns, F4 ns, F5 ns, F6 ns, F7 ns, F8 ns, F9 ns, F10 ns] := t10.add (ps := ps10) (F := F10 ns) g10 (def_ok t10 G10 sc10 c10 fuel k10) G10.kp b10 (fun ds S h => run_arity h)
  have t12 : Tab P w K mg base (gbOf K CN ns) (FN.take 12) CN 12 [F0 ns, F1 ns, F2 ns, F3 ns, F4 ns, F5 ns, F6 ns, F7 ns, F8 ns, F9 ns, F10 ns, F11 ns] := t11.add (ps := ps11) (F := F11 ns) g11 (def_ok t11 G11 sc11 c11 fuel k11) G11.kp b11 (fun ds S h => run_arity h)
  have t13 : Tab P w K mg base (gbOf K CN ns) (FN.take 13) CN 13 [F0 ns, F1 ns, F2 ns, F3 ns, F4 ns, F5 ns, F6 ns, F7 ns, F8 ns, F9 ns, F10 ns, F11 ns, F12 ns] := t12.add (ps := ps12) (F := F12 ns) g12 (def_ok t12 G12 sc12 c12 fuel k12) G12.kp b12 (fun ds S h => run_arity h)
  have t14 : Tab P w K mg base (gbOf K CN ns) (FN.take 14) CN 14 [F0 ns, F1 ns, F2 ns, F3 ns, F4 ns, F5 ns, F6 ns, F7 ns, F8 ns, F9 ns, F10 ns, F11 ns, F12 ns, F13 ns] := t13.add (ps := ps13) (F := F13 ns) g13 (def_ok t13 G13 sc13 c13 fuel k13) G13.kp b13 (fun ds S h => run_arity h)
  have t15 : Tab P w K mg base (gbOf K CN ns) (FN.take 15) CN 15 [F0 ns, F1 ns, F2 ns, F3 ns, F4 ns, F5 ns, F6 ns, F7 ns, F8 ns, F9 ns, F10 ns, F11 ns, F12 ns, F13 ns, F14 ns] := t14.add (ps := ps14) (F := F14 ns) g14 (def_ok t14 G14 sc14 c14 fuel k14) G14.kp b14 (fun ds S h => run_arity h)
  have t16 : Tab P w K mg base (gbOf K CN ns) (FN.take 16) CN 16 [F0 ns, F1 ns, F2 ns, F3 ns, F4 ns, F5 ns, F6 ns, F7 ns, F8 ns, F9 ns, F10 ns, F11 ns, F12 ns, F13 ns, F14 ns, F15 ns] := t15.add (ps := ps15) (F := F15 ns) g15 (def_ok t15 G15 sc15 c15 fuel k15) G15.kp b15 (fun ds S h => run_arity h)
  have t17 : Tab P w K mg base (gbOf K CN ns) (FN.take 17) CN 17 [F0 ns, F1 ns, F2 ns, F3 ns, F4 ns, F5 ns, F6 ns, F7 ns, F8 ns, F9 ns, F10 ns, F11 ns, F12 ns, F13 ns, F14 ns, F15 ns, F16 ns] := t16.add (ps := ps16) (F := F16 ns) g16 (def_ok t16 G16 sc16 c16 fuel k16) G16.kp b16 (fun ds S h => run_arity h)
  have t18 : Tab P w K mg base (gbOf K CN ns) (FN.take 18) CN 18 [F0 ns, F1 ns, F2 ns, F3 ns, F4 ns, F5 ns, F6 ns, F7 ns, F8 ns, F9 ns, F10 ns, F11 ns, F12 ns, F13 ns, F14 ns, F15 ns, F16 ns, F17 ns] := t17.add (ps := ps17) (F := F17 ns) g17 (def_ok t17 G17 sc17 c17 fuel k17) G17.kp b17 (fun ds S h => run_arity h)
  have t19 : Tab P w K mg base (gbOf K CN ns) (FN.take 19) CN 19 [F0 ns, F1 ns, F2 ns, F3 ns, F4 ns, F5 ns, F6 ns, F7 ns, F8 ns, F9 ns, F10 ns, F11 ns, F12 ns, F13 ns, F14 ns, F15 ns, F16 ns, F17 ns, F18 ns] := t18.add (ps := ps18) (F := F18 ns) g18 (def_ok t18 G18 sc18 c18 fuel k18) G18.kp b18 (fun ds S h => run_arity h)
  have t20 : Tab P w K mg base (gbOf K CN ns) (FN.take 20) CN 20 [F0 ns, F1 ns, F2 ns, F3 ns, F4 ns, F5 ns, F6 ns, F7 ns, F8 ns, F9 ns, F10 ns, F11 ns, F12 ns, F13 ns, F14 ns, F15 ns, F16 ns, F17 ns, F18 ns, F19 ns] := t19.add (ps := ps19) (F := F19 ns) g19 (def_ok t19 G19 sc19 c19 fuel k19) G19.kp b19 (fun ds S h => run_arity h)
  have t21 : Tab P w K mg base (gbOf K CN ns) (FN.take 21) CN 21 [F0 ns, F1 ns, F2 ns, F3 ns, F4 ns, F5 ns, F6 ns, F7 ns, F8 ns, F9 ns, F10 ns, F11 ns, F12 ns, F13 ns, F14 ns, F15 ns, F16 ns, F17 ns, F18 ns, F19 ns, F20 ns] := t20.add (ps := ps20) (F := F20 ns) g20 (def_ok t20 G20 sc20 c20 fuel k20) G20.kp b20 (fun ds S h => run_arity h)
  have t22 : Tab P w K mg base (gbOf K CN ns) (FN.take 22) CN 22 [F0 ns, F1 ns, F2 ns, F3 ns, F4 ns, F5 ns, F6 ns, F7 ns, F8 ns, F9 ns, F10 ns, F11 ns, F12 ns, F13 ns, F14 ns, F15 ns, F16 ns, F17 ns, F18 ns, F19 ns, F20 ns, F21 ns] := t21.add (ps := ps21) (F := F21 ns) g21 (def_ok t21 G21 sc21 c21 fuel k21) G21.kp b21 (fun ds S h => run_arity h)
  have t23 : Tab P w K mg base (gbOf K CN ns) (FN.take 23) CN 23 [F0 ns, F1 ns, F2 ns, F3 ns, F4 ns, F5 ns, F6 ns, F7 ns, F8 ns, F9 ns, F10 ns, F11 ns, F12 ns, F13 ns, F14 ns, F15 ns, F16 ns, F17 ns, F18 ns, F19 ns, F20 ns, F21 ns, F22 ns] := t22.add (ps := ps22) (F := F22 ns) g22 (def_ok t22 G22 sc22 c22 fuel k22) G22.kp b22 (fun ds S h => run_arity h)
  have t24 : Tab P w K mg base (gbOf K CN ns) (FN.take 24) CN 24 [F0 ns, F1 ns, F2 ns, F3 ns, F4 ns, F5 ns, F6 ns, F7 ns, F8 ns, F9 ns, F10 ns, F11 ns, F12 ns, F13 ns, F14 ns, F15 ns, F16 ns, F17 ns, F18 ns, F19 ns, F20 ns, F21 ns, F22 ns, F23 ns] := t23.add (ps := ps23) (F := F23 ns) g23 (def_ok t23 G23 sc23 c23 fuel k23) G23.kp b23 (fun ds S h => run_arity h)
  have t25 : Tab P w K mg base (gbOf K CN ns) (FN.take 25) CN 25 [F0 ns, F1 ns, F2 ns, F3 ns, F4 ns, F5 ns, F6 ns, F7 ns, F8 ns, F9 ns, F10 ns, F11 ns, F12 ns, F13 ns, F14 ns, F15 ns, F16 ns, F17 ns, F18 ns, F19 ns, F20 ns, F21 ns, F22 ns, F23 ns, F24 ns] := t24.add (ps := ps24) (F := F24 ns) g24 (def_ok t24 G24 sc24 c24 fuel k24) G24.kp b24 (fun ds S h => run_arity h)
  have t26 : Tab P w K mg base (gbOf K CN ns) (FN.take 26) CN 26 [F0 ns, F1 ns, F2 ns, F3 ns, F4 ns, F5 ns, F6 ns, F7 ns, F8 ns, F9 ns, F10 ns, F11 ns, F12 ns, F13 ns, F14 ns, F15 ns, F16 ns, F17 ns, F18 ns, F19 ns, F20 ns, F21 ns, F22 ns, F23 ns, F24 ns, F25 ns] := t25.add (ps := ps25) (F := F25 ns) g25 (def_ok t25 G25 sc25 c25 fuel k25) G25.kp b25 (fun ds S h => run_arity h)
  have t27 : Tab P w K mg base (gbOf K CN ns) (FN.take 27) CN 27 [F0 ns, F1 ns, F2 ns, F3 ns, F4 ns, F5 ns, F6 ns, F7 ns, F8 ns, F9 ns, F10 ns, F11 ns, F12 ns, F13 ns, F14 ns, F15 ns, F16 ns, F17 ns, F18 ns, F19 ns, F20 ns, F21 ns, F22 ns, F23 ns, F24 ns, F25 ns, F26 ns] := t26.add (ps := ps26) (F := F26 ns) g26 (def_ok t26 G26 sc26 c26 fuel k26) G26.kp b26 (fun ds S h => run_arity h)
  have t28 : Tab P w K mg base (gbOf K CN ns) (FN.take 28) CN 28 [F0 ns, F1 ns, F2 ns, F3 ns, F4 ns, F5 ns, F6 ns, F7 ns, F8 ns, F9 ns, F10 ns, F11 ns, F12 ns, F13 ns, F14 ns, F15 ns, F16 ns, F17 ns, F18 ns, F19 ns, F20 ns, F21 ns, F22 ns, F23 ns, F24 ns, F25 ns, F26 ns, F27 ns] := t27.add (ps := ps27) (F := F27 ns) g27 (def_ok t27 G27 sc27 c27 fuel k27) G27.kp b27 (fun ds S h => run_arity h)
  have t29 : Tab P w K mg base (gbOf K CN ns) (FN.take 29) CN 29 [F0 ns, F1 ns, F2 ns, F3 ns, F4 ns, F5 ns, F6 ns, F7 ns, F8 ns, F9 ns, F10 ns, F11 ns, F12 ns, F13 ns, F14 ns, F15 ns, F16 ns, F17 ns, F18 ns, F19 ns, F20 ns, F21 ns, F22 ns, F23 ns, F24 ns, F25 ns, F26 ns, F27 ns, F28 ns] := t28.add (ps := ps28) (F := F28 ns) g28 (def_ok t28 G28 sc28 c28 fuel k28) G28.kp b28 (fun ds S h => run_arity h)
  have t30 : Tab P w K mg base (gbOf K CN ns) (FN.take 30) CN 30 [F0 ns, F1 ns, F2 ns, F3 ns, F4 ns, F5 ns, F6 ns, F7 ns, F8 ns, F9 ns, F10 ns, F11 ns, F12 ns, F13 ns, F14 ns, F15 ns, F16 ns, F17 ns, F18 ns, F19 ns, F20 ns, F21 ns, F22 ns, F23 ns, F24 ns, F25 ns, F26 ns, F27 ns, F28 ns, F29 ns] := t29.add (ps := ps29) (F := F29 ns) g29 (def_ok t29 G29 sc29 c29 fuel k29) G29.kp b29 (fun ds S h => run_arity h)
  have t31 : Tab P w K mg base (gbOf K CN ns) (FN.take 31) CN 31 [F0 ns, F1 ns, F2 ns, F3 ns, F4 ns, F5 ns, F6 ns, F7 ns, F8 ns, F9 ns, F10 ns, F11 ns, F12 ns, F13 ns, F14 ns, F15 ns, F16 ns, F17 ns, F18 ns, F19 ns, F20 ns, F21 ns, F22 ns, F23 ns, F24 ns, F25 ns, F26 ns, F27 ns, F28 ns, F29 ns, F30 ns] := t30.add (ps := ps30) (F := F30 ns) g30 (def_ok t30 G30 sc30 c30 fuel k30) G30.kp b30 (fun ds S h => run_arity h)
  have t32 : Tab P w K mg base (gbOf K CN ns) (FN.take 32) CN 32 [F0 ns, F1 ns, F2 ns, F3 ns, F4 ns, F5 ns, F6 ns, F7 ns, F8 ns, F9 ns, F10 ns, F11 ns, F12 ns, F13 ns, F14 ns, F15 ns, F16 ns, F17 ns, F18 ns, F19 ns, F20 ns, F21 ns, F22 ns, F23 ns, F24 ns, F25 ns, F26 ns, F27 ns, F28 ns, F29 ns, F30 ns, F31 ns] := t31.add (ps := ps31) (F := F31 ns) g31 (def_ok t31 G31 sc31 c31 fuel k31) G31.kp b31 (fun ds S h => run_arity h)
  have t33 : Tab P w K mg base (gbOf K CN ns) (FN.take 33) CN 33 [F0 ns, F1 ns, F2 ns, F3 ns, F4 ns, F5 ns, F6 ns, F7 ns, F8 ns, F9 ns, F10 ns, F11 ns, F12 ns, F13 ns, F14 ns, F15 ns, F16 ns, F17 ns, F18 ns, F19 ns, F20 ns, F21 ns, F22 ns, F23 ns, F24 ns, F25 ns, F26 ns, F27 ns, F28 ns, F29 ns, F30 ns, F31 ns, F32 ns] := t32.add (ps := ps32) (F := F32 ns) g32 (def_ok t32 G32 sc32 c32 fuel k32) G32.kp b32 (fun ds S h => run_arity h)
  have t34 : Tab P w K mg base (gbOf K CN ns) (FN.take 34) CN 34 [F0 ns, F1 ns, F2 ns, F3 ns, F4 ns, F5 ns, F6 ns, F7 ns, F8 ns, F9 ns, F10 ns, F11 ns, F12 ns, F13 ns, F14 ns, F15 ns, F16 ns, F17 ns, F18 ns, F19 ns, F20 ns, F21 ns, F22 ns, F23 ns, F24 ns, F25 ns, F26 ns, F27 ns, F28 ns, F29 ns, F30 ns, F31 ns, F32 ns, F33 ns] := t33.add (ps := ps33) (F := F33 ns) g33 (def_ok t33 G33 sc33 c33 fuel k33) G33.kp b33 (fun ds S h => run_arity h)
  have t35 : Tab P w K mg base (gbOf K CN ns) (FN.take 35) CN 35 [F0 ns, F1 ns, F2 ns, F3 ns, F4 ns, F5 ns, F6 ns, F7 ns, F8 ns, F9 ns, F10 ns, F11 ns, F12 ns, F13 ns, F14 ns, F15 ns, F16 ns, F17 ns, F18 ns, F19 ns, F20 ns, F21 ns, F22 ns, F23 ns, F24 ns, F25 ns, F26 ns, F27 ns, F28 ns, F29 ns, F30 ns, F31 ns, F32 ns, F33 ns, F34 ns] := t34.add (ps := ps34) (F := F34 ns) g34 (def_ok t34 G34 sc34 c34 fuel k34) G34.kp b34 (fun ds S h => run_arity h)
  have t36 : Tab P w K mg base (gbOf K CN ns) (FN.take 36) CN 36 [F0 ns, F1 ns, F2 ns, F3 ns, F4 ns, F5 ns, F6 ns, F7 ns, F8 ns, F9 ns, F10 ns, F11 ns, F12 ns, F13 ns, F14 ns, F15 ns, F16 ns, F17 ns, F18 ns, F19 ns, F20 ns, F21 ns, F22 ns, F23 ns, F24 ns, F25 ns, F26 ns, F27 ns, F28 ns, F29 ns, F30 ns, F31 ns, F32 ns, F33 ns, F34 ns, F35 ns] := t35.add (ps := ps35) (F := F35 ns) g35 (def_ok t35 G35 sc35 c35 fuel k35) G35.kp b35 (fun ds S h => run_arity h)
  have t37 : Tab P w K mg base (gbOf K CN ns) (FN.take 37) CN 37 [F0 ns, F1 ns, F2 ns, F3 ns, F4 ns, F5 ns, F6 ns, F7 ns, F8 ns, F9 ns, F10 ns, F11 ns, F12 ns, F13 ns, F14 ns, F15 ns, F16 ns, F17 ns, F18 ns, F19 ns, F20 ns, F21 ns, F22 ns, F23 ns, F24 ns, F25 ns, F26 ns, F27 ns, F28 ns, F29 ns, F30 ns, F31 ns, F32 ns, F33 ns, F34 ns, F35 ns, F36 ns] := t36.add (ps := ps36) (F := F36 ns) g36 (def_ok t36 G36 sc36 c36 fuel k36) G36.kp b36 (fun ds S h => run_arity h)
  have t38 : Tab P w K mg base (gbOf K CN ns) (FN.take 38) CN 38 [F0 ns, F1 ns, F2 ns, F3 ns, F4 ns, F5 ns, F6 ns, F7 ns, F8 ns, F9 ns, F10 ns, F11 ns, F12 ns, F13 ns, F14 ns, F15 ns, F16 ns, F17 ns, F18 ns, F19 ns, F20 ns, F21 ns, F22 ns, F23 ns, F24 ns, F25 ns, F26 ns, F27 ns, F28 ns, F29 ns, F30 ns, F31 ns, F32 ns, F33 ns, F34 ns, F35 ns, F36 ns, F37 ns] := t37.add (ps := ps37) (F := F37 ns) g37 (def_ok t37 G37 sc37 c37 fuel k37) G37.kp b37 (fun ds S h => run_arity h)
  have t39 : Tab P w K mg base (gbOf K CN ns) (FN.take 39) CN 39 [F0 ns, F1 ns, F2 ns, F3 ns, F4 ns, F5 ns, F6 ns, F7 ns, F8 ns, F9 ns, F10 ns, F11 ns, F12 ns, F13 ns, F14 ns, F15 ns, F16 ns, F17 ns, F18 ns, F19 ns, F20 ns, F21 ns, F22 ns, F23 ns, F24 ns, F25 ns, F26 ns, F27 ns, F28 ns, F29 ns, F30 ns, F31 ns, F32 ns, F33 ns, F34 ns, F35 ns, F36 ns, F37 ns, F38 ns] := t38.add (ps := ps38) (F := F38 ns) g38 (def_ok t38 G38 sc38 c38 fuel k38) G38.kp b38 (fun ds S h => run_arity h)
  have t40 : Tab P w K mg base (gbOf K CN ns) (FN.take 40) CN 40 [F0 ns, F1 ns, F2 ns, F3 ns, F4 ns, F5 ns, F6 ns, F7 ns, F8 ns, F9 ns, F10 ns, F11 ns, F12 ns, F13 ns, F14 ns, F15 ns, F16 ns, F17 ns, F18 ns, F19 ns, F20 ns, F21 ns, F22 ns, F23 ns, F24 ns, F25 ns, F26 ns, F27 ns, F28 ns, F29 ns, F30 ns, F31 ns, F32 ns, F33 ns, F34 ns, F35 ns, F36 ns, F37 ns, F38 ns, F39 ns] := t39.add (ps := ps39) (F := F39 ns) g39 (def_ok t39 G39 sc39 c39 fuel k39) G39.kp b39 (fun ds S h => run_arity h)
  have t41 : Tab P w K mg base (gbOf K CN ns) (FN.take 41) CN 41 [F0 ns, F1 ns, F2 ns, F3 ns, F4 ns, F5 ns, F6 ns, F7 ns, F8 ns, F9 ns, F10 ns, F11 ns, F12 ns, F13 ns, F14 ns, F15 ns, F16 ns, F17 ns, F18 ns, F19 ns, F20 ns, F21 ns, F22 ns, F23 ns, F24 ns, F25 ns, F26 ns, F27 ns, F28 ns, F29 ns, F30 ns, F31 ns, F32 ns, F33 ns, F34 ns, F35 ns, F36 ns, F37 ns, F38 ns, F39 ns, F40 ns] := t40.add (ps := ps40) (F := F40 ns) g40 (def_ok t40 G40 sc40 c40 fuel k40) G40.kp b40 (fun ds S h => run_arity h)
  have t42 : Tab P w K mg base (gbOf K CN ns) (FN.take 42) CN 42 [F0 ns, F1 ns, F2 ns, F3 ns, F4 ns, F5 ns, F6 ns, F7 ns, F8 ns, F9 ns, F10 ns, F11 ns, F12 ns, F13 ns, F14 ns, F15 ns, F16 ns, F17 ns, F18 ns, F19 ns, F20 ns, F21 ns, F22 ns, F23 ns, F24 ns, F25 ns, F26 ns, F27 ns, F28 ns, F29 ns, F30 ns, F31 ns, F32 ns, F33 ns, F34 ns, F35 ns, F36 ns, F37 ns, F38 ns, F39 ns, F40 ns, F41 ns] := t41.add (ps := ps41) (F := F41 ns) g41 (def_ok t41 G41 sc41 c41 fuel k41) G41.kp b41 (fun ds S h => run_arity h)
  have t43 : Tab P w K mg base (gbOf K CN ns) (FN.take 43) CN 43 [F0 ns, F1 ns, F2 ns, F3 ns, F4 ns, F5 ns, F6 ns, F7 ns, F8 ns, F9 ns, F10 ns, F11 ns, F12 ns, F13 ns, F14 ns, F15 ns, F16 ns, F17 ns, F18 ns, F19 ns, F20 ns, F21 ns, F22 ns, F23 ns, F24 ns, F25 ns, F26 ns, F27 ns, F28 ns, F29 ns, F30 ns, F31 ns, F32 ns, F33 ns, F34 ns, F35 ns, F36 ns, F37 ns, F38 ns, F39 ns, F40 ns, F41 ns, F42 ns] := t42.add (ps := ps42) (F := F42 ns) g42 (def_ok t42 G42 sc42 c42 fuel k42) G42.kp b42 (fun ds S h => run_arity h)
  have t44 : Tab P w K mg base (gbOf K CN ns) (FN.take 44) CN 44 [F0 ns, F1 ns, F2 ns, F3 ns, F4 ns, F5 ns, F6 ns, F7 ns, F8 ns, F9 ns, F10 ns, F11 ns, F12 ns, F13 ns, F14 ns, F15 ns, F16 ns, F17 ns, F18 ns, F19 ns, F20 ns, F21 ns, F22 ns, F23 ns, F24 ns, F25 ns, F26 ns, F27 ns, F28 ns, F29 ns, F30 ns, F31 ns, F32 ns, F33 ns, F34 ns, F35 ns, F36 ns, F37 ns, F38 ns, F39 ns, F40 ns, F41 ns, F42 ns, F43 ns] := t43.add (ps := ps43) (F := F43 ns) g43 (def_ok t43 G43 sc43 c43 fuel k43) G43.kp b43 (fun ds S h => run_arity h)
  have t45 : Tab P w K mg base (gbOf K CN ns) (FN.take 45) CN 45 [F0 ns, F1 ns, F2 ns, F3 ns, F4 ns, F5 ns, F6 ns, F7 ns, F8 ns, F9 ns, F10 ns, F11 ns, F12 ns, F13 ns, F14 ns, F15 ns, F16 ns, F17 ns, F18 ns, F19 ns, F20 ns, F21 ns, F22 ns, F23 ns, F24 ns, F25 ns, F26 ns, F27 ns, F28 ns, F29 ns, F30 ns, F31 ns, F32 ns, F33 ns, F34 ns, F35 ns, F36 ns, F37 ns, F38 ns, F39 ns, F40 ns, F41 ns, F42 ns, F43 ns, F44 ns] := t44.add (ps := ps44) (F := F44 ns) g44 (def_ok t44 G44 sc44 c44 fuel k44) G44.kp b44 (fun ds S h => run_arity h)
  have t46 : Tab P w K mg base (gbOf K CN ns) (FN.take 46) CN 46 [F0 ns, F1 ns, F2 ns, F3 ns, F4 ns, F5 ns, F6 ns, F7 ns, F8 ns, F9 ns, F10 ns, F11 ns, F12 ns, F13 ns, F14 ns, F15 ns, F16 ns, F17 ns, F18 ns, F19 ns, F20 ns, F21 ns, F22 ns, F23 ns, F24 ns, F25 ns, F26 ns, F27 ns, F28 ns, F29 ns, F30 ns, F31 ns, F32 ns, F33 ns, F34 ns, F35 ns, F36 ns, F37 ns, F38 ns, F39 ns, F40 ns, F41 ns, F42 ns, F43 ns, F44 ns, F45 ns] := t45.add (ps := ps45) (F := F45 ns) g45 (def_ok t45 G45 sc45 c45 fuel k45) G45.kp b45 (fun ds S h => run_arity h)
  have t47 : Tab P w K mg base (gbOf K CN ns) (FN.take 47) CN 47 [F0 ns, F1 ns, F2 ns, F3 ns, F4 ns, F5 ns, F6 ns, F7 ns, F8 ns, F9 ns, F10 ns, F11 ns, F12 ns, F13 ns, F14 ns, F15 ns, F16 ns, F17 ns, F18 ns, F19 ns, F20 ns, F21 ns, F22 ns, F23 ns, F24 ns, F25 ns, F26 ns, F27 ns, F28 ns, F29 ns, F30 ns, F31 ns, F32 ns, F33 ns, F34 ns, F35 ns, F36 ns, F37 ns, F38 ns, F39 ns, F40 ns, F41 ns, F42 ns, F43 ns, F44 ns, F45 ns, F46 ns] := t46.add (ps := ps46) (F := F46 ns) g46 (def_ok t46 G46 sc46 c46 fuel k46) G46.kp b46 (fun ds S h => run_arity h)
  have t48 : Tab P w K mg base (gbOf K CN ns) (FN.take 48) CN 48 [F0 ns, F1 ns, F2 ns, F3 ns, F4 ns, F5 ns, F6 ns, F7 ns, F8 ns, F9 ns, F10 ns, F11 ns, F12 ns, F13 ns, F14 ns, F15 ns, F16 ns, F17 ns, F18 ns, F19 ns, F20 ns, F21 ns, F22 ns, F23 ns, F24 ns, F25 ns, F26 ns, F27 ns, F28 ns, F29 ns, F30 ns, F31 ns, F32 ns, F33 ns, F34 ns, F35 ns, F36 ns, F37 ns, F38 ns, F39 ns, F40 ns, F41 ns, F42 ns, F43 ns, F44 ns, F45 ns, F46 ns, F47 ns] := t47.add (ps := ps47) (F := F47 ns) g47 (def_ok t47 G47 sc47 c47 fuel k47) G47.kp b47 (fun ds S h => run_arity h)
  have t49 : Tab P w K mg base (gbOf K CN ns) (FN.take 49) CN 49 [F0 ns, F1 ns, F2 ns, F3 ns, F4 ns, F5 ns, F6 ns, F7 ns, F8 ns, F9 ns, F10 ns, F11 ns, F12 ns, F13 ns, F14 ns, F15 ns, F16 ns, F17 ns, F18 ns, F19 ns, F20 ns, F21 ns, F22 ns, F23 ns, F24 ns, F25 ns, F26 ns, F27 ns, F28 ns, F29 ns, F30 ns, F31 ns, F32 ns, F33 ns, F34 ns, F35 ns, F36 ns, F37 ns, F38 ns, F39 ns, F40 ns, F41 ns, F42 ns, F43 ns, F44 ns, F45 ns, F46 ns, F47 ns, F48 ns] := t48.add (ps := ps48) (F := F48 ns) g48 (def_ok t48 G48 sc48 c48 fuel k48) G48.kp b48 (fun ds S h => run_arity h)
  have t50 : Tab P w K mg base (gbOf K CN ns) (FN.take 50) CN 50 [F0 ns, F1 ns, F2 ns, F3 ns, F4 ns, F5 ns, F6 ns, F7 ns, F8 ns, F9 ns, F10 ns, F11 ns, F12 ns, F13 ns, F14 ns, F15 ns, F16 ns, F17 ns, F18 ns, F19 ns, F20 ns, F21 ns, F22 ns, F23 ns, F24 ns, F25 ns, F26 ns, F27 ns, F28 ns, F29 ns, F30 ns, F31 ns, F32 ns, F33 ns, F34 ns, F35 ns, F36 ns, F37 ns, F38 ns, F39 ns, F40 ns, F41 ns, F42 ns, F43 ns, F44 ns, F45 ns, F46 ns, F47 ns, F48 ns, F49 ns] := t49.add (ps := ps49) (F := F49 ns) g49 (def_ok t49 G49 sc49 c49 fuel k49) G49.kp b49 (fun ds S h => run_arity h)
  have t51 : Tab P w K mg base (gbOf K CN ns) (FN.take 51) CN 51 [F0 ns, F1 ns, F2 ns, F3 ns, F4 ns, F5 ns, F6 ns, F7 ns, F8 ns, F9 ns, F10 ns, F11 ns, F12 ns, F13 ns, F14 ns, F15 ns, F16 ns, F17 ns, F18 ns, F19 ns, F20 ns, F21 ns, F22 ns, F23 ns, F24 ns, F25 ns, F26 ns, F27 ns, F28 ns, F29 ns, F30 ns, F31 ns, F32 ns, F33 ns, F34 ns, F35 ns, F36 ns, F37 ns, F38 ns, F39 ns, F40 ns, F41 ns, F42 ns, F43 ns, F44 ns, F45 ns, F46 ns, F47 ns, F48 ns, F49 ns, F50 ns] := t50.add (ps := ps50) (F := F50 ns) g50 (def_ok t50 G50 sc50 c50 fuel k50) G50.kp b50 (fun ds S h => run_arity h)
  have t52 : Tab P w K mg base (gbOf K CN ns) (FN.take 52) CN 52 [F0 ns, F1 ns, F2 ns, F3 ns, F4 ns, F5 ns, F6 ns, F7 ns, F8 ns, F9 ns, F10 ns, F11 ns, F12 ns, F13 ns, F14 ns, F15 ns, F16 ns, F17 ns, F18 ns, F19 ns, F20 ns, F21 ns, F22 ns, F23 ns, F24 ns, F25 ns, F26 ns, F27 ns, F28 ns, F29 ns, F30 ns, F31 ns, F32 ns, F33 ns, F34 ns, F35 ns, F36 ns, F37 ns, F38 ns, F39 ns, F40 ns, F41 ns, F42 ns, F43 ns, F44 ns, F45 ns, F46 ns, F47 ns, F48 ns, F49 ns, F50 ns, F51 ns] := t51.add (ps := ps51) (F := F51 ns) g51 (def_ok t51 G51 sc51 c51 fuel k51) G51.kp b51 (fun ds S h => run_arity h)
  have t53 : Tab P w K mg base (gbOf K CN ns) (FN.take 53) CN 53 [F0 ns, F1 ns, F2 ns, F3 ns, F4 ns, F5 ns, F6 ns, F7 ns, F8 ns, F9 ns, F10 ns, F11 ns, F12 ns, F13 ns, F14 ns, F15 ns, F16 ns, F17 ns, F18 ns, F19 ns, F20 ns, F21 ns, F22 ns, F23 ns, F24 ns, F25 ns, F26 ns, F27 ns, F28 ns, F29 ns, F30 ns, F31 ns, F32 ns, F33 ns, F34 ns, F35 ns, F36 ns, F37 ns, F38 ns, F39 ns, F40 ns, F41 ns, F42 ns, F43 ns, F44 ns, F45 ns, F46 ns, F47 ns, F48 ns, F49 ns, F50 ns, F51 ns, F52 ns] := t52.add (ps := ps52) (F := F52 ns) g52 (def_ok t52 G52 sc52 c52 fuel k52) G52.kp b52 (fun ds S h => run_arity h)
  have t54 : Tab P w K mg base (gbOf K CN ns) (FN.take 54) CN 54 [F0 ns, F1 ns, F2 ns, F3 ns, F4 ns, F5 ns, F6 ns, F7 ns, F8 ns, F9 ns, F10 ns, F11 ns, F12 ns, F13 ns, F14 ns, F15 ns, F16 ns, F17 ns, F18 ns, F19 ns, F20 ns, F21 ns, F22 ns, F23 ns, F24 ns, F25 ns, F26 ns, F27 ns, F28 ns, F29 ns, F30 ns, F31 ns, F32 ns, F33 ns, F34 ns, F35 ns, F36 ns, F37 ns, F38 ns, F39 ns, F40 ns, F41 ns, F42 ns, F43 ns, F44 ns, F45 ns, F46 ns, F47 ns, F48 ns, F49 ns, F50 ns, F51 ns, F52 ns, F53 ns] := t53.add (ps := ps53) (F := F53 ns) g53 (def_ok t53 G53 sc53 c53 fuel k53) G53.kp b53 (fun ds S h => run_arity h)
  exact def_ok t54 G54 sc54 c54 fuel k54
theorem holds (good : ∀ ns : List Int, ns.length ≤ 63 → ∃ S', F54 ns [.scr] [] = .ok (.bool true) S') : PySem.Challenge.rw_slopeshapes_k21_open_pairs.Holds := by
  open PySem.W PySem.Calls in
  w_on; o_law
  refine HandSHeadRun.head_any (r := PySem.W.OpenLaw.row PySem.Challenge.rw_slopeshapes_k21_open_pairs) (q := PySem.W.view (PySem.W.OpenLaw.row PySem.Challenge.rw_slopeshapes_k21_open_pairs).prog [79]) (H := hk) (ob := ob) (M := 8000) (loose := loose) (d := HandSHeadRun.topDef (PySem.W.OpenLaw.row PySem.Challenge.rw_slopeshapes_k21_open_pairs).prog 79) (kwd := []) ob_eq
    (by kernel_rfl) (fun s => by kernel_rfl) run_ (by kernel_rfl) (by kernel_rfl) (by kernel_rfl) (by rfl) (by first | assumption | decide +kernel) (by decide +kernel) ⟨rfl, rfl, rfl, rfl, rfl, by decide +kernel⟩ ?hw ?hc
  case hw => w_witness2
  case hc =>
    refine L2.walk_ofE (l := PySem.Challenge.rw_slopeshapes_k21_open_pairs) (n := 63) (k := 55) (x := "script") (CX := noCX) rfl (by decide) (by kernel_rfl) ⟨rfl, by decide, by decide⟩ ?F (fun _ _ _ _ z => z)
    intro w mg fa h Y G hmg0
    obtain ⟨K, KX, c, hB⟩ := Y
    have hmg : mg ("law" : PySem.Str) = some (.ref fa) := by
      have e : (HandSHeadRun.topDef (PySem.W.OpenLaw.row PySem.Challenge.rw_slopeshapes_k21_open_pairs).prog 79).name = ("law" : PySem.Str) := by kernel_rfl
      rw [← e]
      exact hmg0
    obtain ⟨fd, hb, hF⟩ := facts (P := (PySem.Challenge.rw_slopeshapes_k21_open_pairs).prog) (w := w) KX G hmg c hB
    exact ⟨K, fd, spLaw K CN F54, KX, hb, fun H a ns hl ho hS => law_sp good hl ho hS _, fun base _ _ => law_ok fun ns => hF base ns⟩
end K21

/-! Rules for running code on values. -/
namespace Q7
section
variable {α β : Type} {a : α} {f : α → M β} {S : Sta} {c : Nat}
@[simp] theorem b_ret : Q7.bind (ret a) f = f a := rfl
@[simp] theorem b_bad : Q7.bind (bad : M α) f = bad := rfl
@[simp] theorem b_raise : Q7.bind (raise c : M α) f = raise c := rfl
@[simp] theorem l_some : lift (some a) = ret a := rfl
@[simp] theorem l_none : lift (none : Option α) = bad := rfl
theorem b_ite {p : Prop} [Decidable p] {m n : M α} : Q7.bind (if p then m else n) f = if p then Q7.bind m f else Q7.bind n f := by split <;> rfl
theorem a_ite {p : Prop} [Decidable p] {m n : M α} : (if p then m else n) S = if p then m S else n S := by split <;> rfl
@[simp] theorem a_ret : ret a S = .ok a S := rfl
@[simp] theorem a_bad : (bad : M α) S = .bad := rfl
@[simp] theorem a_raise : (raise c : M α) S = .exc c S := rfl
/-- a call that is known -/
theorem b_ok {m : M α} {S' : Sta} (h : m S = .ok a S') : Q7.bind m f S = f a S' := by unfold Q7.bind; rw [h]; rfl
theorem b_exc {m : M α} {S' : Sta} (h : m S = .exc c S') : Q7.bind m f S = .exc c S' := by unfold Q7.bind; rw [h]; rfl
theorem b_assoc {γ : Type} {m : M α} {g : β → M γ} : Q7.bind (Q7.bind m f) g = Q7.bind m fun x => Q7.bind (f x) g := by
  funext S; unfold Q7.bind
  cases m S <;> rfl
end
section
variable {i j : Int} {x y : D} {xs ys : List D} {p q : Bool}
@[simp] theorem c_lt : cmpop .lt (.int i) (.int j) = some (decide (i < j)) := rfl
@[simp] theorem c_le : cmpop .le (.int i) (.int j) = some (decide (i ≤ j)) := rfl
@[simp] theorem c_gt : cmpop .gt (.int i) (.int j) = some (decide (j < i)) := rfl
@[simp] theorem c_ge : cmpop .ge (.int i) (.int j) = some (decide (j ≤ i)) := rfl
@[simp] theorem c_eqI : cmpop .eq (.int i) (.int j) = some (decide (i = j)) := by
  simp [cmpop, eqO, okD, eqD, pyd, PySem.PyData.eqv]
  rfl
@[simp] theorem c_neI : cmpop .ne (.int i) (.int j) = some (decide (i ≠ j)) := by
  simp [cmpop, eqO, okD, eqD, pyd, PySem.PyData.eqv]
  rfl
@[simp] theorem c_isn : cmpop .is x .none = some (match x with | .none => true | _ => false) := by cases x <;> rfl
@[simp] theorem c_isnn : cmpop .isnot x .none = some (match x with | .none => false | _ => true) := by cases x <;> rfl
@[simp] theorem c_isb : cmpop .is (.bool p) (.bool q) = some (decide (p = q)) := rfl
@[simp] theorem c_isnb : cmpop .isnot (.bool p) (.bool q) = some (!decide (p = q)) := rfl
@[simp] theorem o_add : binop .add (.int i) (.int j) = some (.int (i + j)) := rfl
@[simp] theorem o_sub : binop .sub (.int i) (.int j) = some (.int (i - j)) := rfl
theorem o_mul (h : mulOk i j = true) : binop .mul (.int i) (.int j) = some (.int (i * j)) := by simp [binop, h]
theorem o_div (h : divOk j = true) : binop .fdiv (.int i) (.int j) = some (.int (i.fdiv j)) := by simp [binop, h]
theorem o_mod (h : j ≠ 0) : binop .mod (.int i) (.int j) = some (.int (i.fmod j)) := by simp [binop, h]
@[simp] theorem t_b : truth (.bool p) = some p := rfl
@[simp] theorem t_i : truth (.int i) = some (i != 0) := rfl
@[simp] theorem t_n : truth .none = some false := rfl
@[simp] theorem t_l : truth (.list xs) = some (!xs.isEmpty) := rfl
@[simp] theorem t_t : truth (.tup xs) = some (!xs.isEmpty) := rfl
end
section
variable {T : List Fn} {fuel : Nat} {s : CS} {ss b : CSs} {env env' : Env} {S S' : Sta} {d : D} {c n k : Nat} {ds : List D}
theorem x_nx (h : ex T fuel s env S = .ok (.nx env') S') : exs T fuel (.cons s ss) env S = exs T fuel ss env' S' := by
  rw [exs, b_ok h]
theorem x_rt (h : ex T fuel s env S = .ok (.rt d) S') : exs T fuel (.cons s ss) env S = .ok (.rt d) S' := by
  rw [exs, b_ok h]; rfl
theorem x_exc (h : ex T fuel s env S = .exc c S') : exs T fuel (.cons s ss) env S = .exc c S' := by
  rw [exs, b_exc h]
theorem r_rt (hl : ds.length = n) (h : exs T fuel b (ds.map .val ++ List.replicate (k - n) .un) S = .ok (.rt d) S') : Q7.run T fuel n k b ds S = .ok d S' := by
  unfold Q7.run
  rw [if_pos hl, b_ok h]; rfl
theorem r_nx (hl : ds.length = n) (h : exs T fuel b (ds.map .val ++ List.replicate (k - n) .un) S = .ok (.nx env') S') : Q7.run T fuel n k b ds S = .ok .none S' := by
  unfold Q7.run
  rw [if_pos hl, b_ok h]; rfl
theorem r_exc (hl : ds.length = n) (h : exs T fuel b (ds.map .val ++ List.replicate (k - n) .un) S = .exc c S') : Q7.run T fuel n k b ds S = .exc c S' := by
  unfold Q7.run
  rw [if_pos hl, b_exc h]
end
/-! comprehensions whose turns leave the state -/
theorem cl_pure {body : D → M (List D)} {f : D → List D} {S : Sta} : ∀ {ds : List D}, (∀ d ∈ ds, body d S = .ok (f d) S) → compLoop body ds S = .ok (ds.flatMap f) S
  | [], _ => rfl
  | d :: ds, h => by
    unfold compLoop
    rw [b_ok (h d (by simp)), b_ok (cl_pure fun d hd => h d (by simp [hd]))]
    rfl
theorem ne_ok {α : Type} {m : M α} {a : α} {S S' : Sta} (h : m S = .ok a S') : noexc m S = .ok a S' := by
  unfold noexc; rw [h]
theorem comp_ok {T : List Fn} {vs : List (PySem.Str × Nat)} {tg : Tg} {it : CI} {ifs : COT} {elt : CE} {env : Env} {S S1 S2 : Sta} {ds ys : List D} (h1 : evI T it env S = .ok ds S1) (h2 : compLoop (bodyC T env (vs.map (·.2)) tg ifs elt) ds S1 = .ok ys S2) (hz : ys.length ≤ 1000000) : ev T (.comp vs tg it ifs elt) env S = .ok (.list ys) S2 := by
  rw [ev, b_ok h1]
  have h3 : noexc (compLoop (bodyC T env (vs.map (·.2)) tg ifs elt) ds) S1 = .ok ys S2 := ne_ok h2
  refine (b_ok h3).trans ?_
  rw [if_pos (show sizeOk ys.length = true from decide_eq_true hz)]; rfl
theorem map_flat {α β : Type} (g : α → β) : ∀ l : List α, l.map g = l.flatMap fun d => [g d]
  | [] => rfl
  | a :: l => by rw [List.map_cons, List.flatMap_cons, ← map_flat g l]; rfl
/-- one clause, no test, every element by g -/
theorem comp_map {T : List Fn} {vs : List (PySem.Str × Nat)} {i : Nat} {it : CI} {elt : CE} {env : Env} {S : Sta} {ds : List D} {g : D → D} (h1 : evI T it env S = .ok ds S) (hi : i < env.length) (hv : i ∈ vs.map (·.2))
    (h2 : ∀ d ∈ ds, ev T elt ((wipeE env (vs.map (·.2))).set i (.val d)) S = .ok (g d) S) (hz : ds.length ≤ 1000000) : ev T (.comp vs (.name i) it .non elt) env S = .ok (.list (ds.map g)) S := by
  refine comp_ok h1 (ys := ds.map g) ?_ (by rw [List.length_map]; exact hz)
  rw [map_flat g ds]
  refine cl_pure fun d hd => ?_
  have hu : unpack (.name i) d (wipeE env (vs.map (·.2))) = some ((wipeE env (vs.map (·.2))).set i (.val d)) := by
    have hg : (wipeE env (vs.map (·.2)))[i]? = some .un := by rw [wipeE_get, if_pos hv, if_pos hi]
    simp only [unpack, hg]
  simp only [bodyC, hu]
  show Q7.bind (evOT T .non _) _ S = _
  rw [b_ok (show evOT T .non _ S = .ok true S from rfl)]
  simp only [if_true]
  rw [b_ok (h2 d hd)]; rfl
end Q7

/-! What is drawn. -/
namespace Q7
/-- the town behind n draws at most -/
def Tw (ns : List Int) (n : Nat) (xs : List Int) : Prop := ∃ t rest, xs = t :: rest ∧ rest.length = ns.length ∧ 0 ≤ t ∧ t ≤ (n : Int)
theorem ix_in {n : Nat} {i : Int} (h0 : 0 ≤ i) (h1 : i < (n : Int)) : L2.ixN n i = some i.toNat := by
  unfold L2.ixN
  simp [h0, h1]
theorem at_in {α : Type} {xs : List α} {i : Int} (h0 : 0 ≤ i) (h1 : i < (xs.length : Int)) : L2.atI xs i = xs[i.toNat]? := by
  unfold L2.atI
  rw [ix_in h0 h1]; rfl
theorem mul_ok {i j : Int} (hi : i.natAbs < 2 ^ 400000) (hj : j.natAbs < 2 ^ 400000) : mulOk i j = true := by
  unfold mulOk
  have a : i.natAbs.log2 < 400000 ∨ i.natAbs = 0 := by
    by_cases h : i.natAbs = 0
    · exact .inr h
    · exact .inl ((Nat.log2_lt h).mpr hi)
  have b : j.natAbs.log2 < 400000 ∨ j.natAbs = 0 := by
    by_cases h : j.natAbs = 0
    · exact .inr h
    · exact .inl ((Nat.log2_lt h).mpr hj)
  have a' : i.natAbs.log2 < 400000 := by
    rcases a with a | a
    · exact a
    · rw [a]; decide
  have b' : j.natAbs.log2 < 400000 := by
    rcases b with b | b
    · exact b
    · rw [b]; decide
  exact decide_eq_true (by omega)
theorem small_lt {i : Nat} (h : i < 2 ^ 64) : i < 2 ^ 400000 := Nat.lt_of_lt_of_le h (Nat.pow_le_pow_right (by decide) (by decide))
theorem mul_sm {i j : Int} (hi : i.natAbs < 2 ^ 64) (hj : j.natAbs < 2 ^ 64) : mulOk i j = true := mul_ok (small_lt hi) (small_lt hj)
theorem div_ok {j : Int} (h0 : 0 < j) (h1 : j < 2 ^ 64) : divOk j = true := by
  unfold divOk
  have hj : j.natAbs ≠ 0 := by omega
  have : j.natAbs.log2 < 64 := (Nat.log2_lt hj).mpr (by omega)
  simp only [Bool.and_eq_true, decide_eq_true_eq]
  exact ⟨by omega, by omega⟩
theorem evm_bin {ns xs : List Int} {e : Nat → Option Int} {o : BOp} {a b : ME} {x y z : Int} (ha : evM ns xs e a = some x) (hb : evM ns xs e b = some y) (h : binop o (.int x) (.int y) = some (.int z)) : evM ns xs e (.bin o a b) = some z := by
  simp only [evM, ha, hb, h]
theorem fmod_bd {a b : Int} (h : 0 < b) : 0 ≤ a.fmod b ∧ a.fmod b < b := ⟨Int.fmod_nonneg_of_pos a h, Int.fmod_lt_of_pos a h⟩
theorem pow_ok {i : Int} {k : Nat} (hk : k ≤ 1000) (hi : i.natAbs < 2 ^ 64) : binop .pow (.int i) (.int (k : Int)) = some (.int (i ^ k)) := by
  simp only [binop]
  rw [if_pos]
  · simp
  · simp only [Bool.and_eq_true, decide_eq_true_eq]
    exact ⟨⟨by omega, by omega⟩, hi⟩
theorem drawN_ex {ns xs : List Int} {n : Nat} {limit : Int} (h : Tw ns n xs) (hn : n ≤ 100000) (h1 : 1 ≤ limit) (h2 : limit ≤ 1000000) : ∃ r ys, drawN ns xs limit = some (r, ys) ∧ 0 ≤ r ∧ r < limit ∧ Tw ns (n + 1) ys := by
  obtain ⟨t, rest, rfl, hr, ht0, ht1⟩ := h
  have e1 : evM ns (t :: rest) (e0 limit) m1 = some (t + 1) := by
    refine evm_bin (x := t) (y := 1) ?_ rfl rfl
    simp only [evM]
    rw [at_in (by omega) (by simp)]; rfl
  have e2 : L2.ixN (t :: rest).length 0 = some 0 := by rw [ix_in (by omega) (by simp)]; rfl
  have hT : evM ns ((t + 1) :: rest) (e0 limit) (.ixT (.int 0)) = some (t + 1) := by
    simp only [evM]
    rw [at_in (by omega) (by simp)]; rfl
  have hlim : ∀ e : Nat → Option Int, e 2 = some limit → evM ns ((t + 1) :: rest) e (.var 2) = some limit := fun e h => h
  have tw : Tw ns (n + 1) ((t + 1) :: rest) := ⟨t + 1, rest, rfl, hr, by omega, by omega⟩
  unfold drawN
  rw [e1, e2]
  simp only [List.set_cons_zero]
  cases hns : ns.isEmpty with
  | true =>
    have e3 : ∃ r, evM ns ((t + 1) :: rest) (e0 limit) mr1 = some r ∧ 0 ≤ r ∧ r < limit := by
      have p1 : evM ns ((t + 1) :: rest) (e0 limit) (.bin .mul (.ixT (.int 0)) (.ixT (.int 0))) = some ((t + 1) * (t + 1)) := evm_bin hT hT (o_mul (mul_sm (by omega) (by omega)))
      have bd : (t + 1) * (t + 1) ≤ 100001 * 100001 := Int.mul_le_mul (by omega) (by omega) (by omega) (by omega)
      have bd0 : 0 ≤ (t + 1) * (t + 1) := Int.mul_nonneg (by omega) (by omega)
      have p2 : evM ns ((t + 1) :: rest) (e0 limit) (.bin .mul (.bin .mul (.ixT (.int 0)) (.ixT (.int 0))) (.int 7)) = some ((t + 1) * (t + 1) * 7) := evm_bin p1 rfl (o_mul (mul_sm (by omega) (by decide)))
      have p3 := evm_bin p2 (b := .int 3) (y := 3) rfl (o_div (div_ok (by decide) (by decide)))
      exact ⟨_, evm_bin p3 (b := .var 2) (y := limit) rfl (o_mod (by omega)), (fmod_bd (by omega)).1, (fmod_bd (by omega)).2⟩
    obtain ⟨r, hr1, hr2, hr3⟩ := e3
    refine ⟨r, (t + 1) :: rest, ?_, hr2, hr3, tw⟩
    simp [hr1]
  | false =>
    have hpos : 0 < ns.length := by
      cases ns with
      | nil => simp at hns
      | cons a b => simp
    have e3 : evM ns ((t + 1) :: rest) (e0 limit) m3 = some ((t + 1).fmod ns.length) := evm_bin hT (b := .lenS) (y := ns.length) rfl (o_mod (by omega))
    have hat := fmod_bd (a := t + 1) (b := ns.length) (by omega)
    generalize hA : (t + 1).fmod ns.length = at_ at e3 hat
    have l1 : (((t + 1) :: rest).length : Int) = ns.length + 1 := by simp [hr]
    have e4 : ∃ left, evM ns ((t + 1) :: rest) (eSet (e0 limit) 3 at_) m4 = some left := by
      simp only [evM, binop, eSet, if_true]
      rw [at_in (by omega) (by omega)]
      exact ⟨_, List.getElem?_eq_getElem (by omega)⟩
    obtain ⟨left, e4⟩ := e4
    have e5 : ∃ sx, evM ns ((t + 1) :: rest) (eSet (eSet (e0 limit) 3 at_) 4 left) m5 = some sx := by
      simp only [evM, eSet]
      simp only [show (3 : Nat) = 4 ↔ False by decide, if_false, if_true]
      rw [at_in (by omega) (by omega)]
      exact ⟨_, List.getElem?_eq_getElem (by omega)⟩
    obtain ⟨sx, e5⟩ := e5
    have v2 : ∀ {v : Int}, evM ns ((t + 1) :: rest) (eSet (eSet (e0 limit) 3 at_) 4 left) (.var 2) = some limit := fun {v} => rfl
    simp only [e3, e4, e5, Bool.false_eq_true, if_false]
    by_cases hc : 1000000000000000000 ≤ sx ∧ 0 < left
    · rw [if_pos hc]
      have e7 : evM ns ((t + 1) :: rest) (eSet (eSet (e0 limit) 3 at_) 4 left) m7 = some (left.fdiv limit) := evm_bin (x := left) (y := limit) rfl rfl (o_div (div_ok (by omega) (by omega)))
      have e8 : L2.ixN ((t + 1) :: rest).length (1 + at_) = some (1 + at_).toNat := ix_in (by omega) (by omega)
      have e9 : ∀ zs, evM ns zs (eSet (eSet (e0 limit) 3 at_) 4 left) mr7 = some (left.fmod limit) := fun zs => evm_bin (x := left) (y := limit) rfl rfl (o_mod (by omega))
      have hs : (1 + at_).toNat = at_.toNat + 1 := by omega
      refine ⟨left.fmod limit, _, by simp only [e7, e8, e9]; rfl, (fmod_bd (by omega)).1, (fmod_bd (by omega)).2, ?_⟩
      rw [hs, List.set_cons_succ]
      exact ⟨t + 1, _, rfl, by simp [hr], by omega, by omega⟩
    · rw [if_neg hc]
      have b1 : evM ns ((t + 1) :: rest) (eSet (eSet (e0 limit) 3 at_) 4 left) (.bin .mul (.int 104729) (.ixT (.int 0))) = some (104729 * (t + 1)) := by
        refine evm_bin (x := 104729) (y := t + 1) rfl ?_ (o_mul (mul_sm (by decide) (by omega)))
        simp only [evM]
        rw [at_in (by omega) (by simp)]; rfl
      have b2 := evm_bin (o := .add) e5 b1 rfl
      have b3 : evM ns ((t + 1) :: rest) (eSet (eSet (e0 limit) 3 at_) 4 left) m8 = some ((sx + 104729 * (t + 1)).fmod 4294967291) := evm_bin b2 (b := .int 4294967291) rfl (o_mod (by decide))
      have n1 := fmod_bd (a := sx + 104729 * (t + 1)) (b := 4294967291) (by decide)
      generalize (sx + 104729 * (t + 1)).fmod 4294967291 = n1v at b3 n1
      have c1 : evM ns ((t + 1) :: rest) (eSet (eSet (eSet (e0 limit) 3 at_) 4 left) 5 n1v) (.bin .pow (.var 5) (.int 5)) = some (n1v ^ 5) := evm_bin (x := n1v) (y := ((5 : Nat) : Int)) rfl rfl (pow_ok (by decide) (by omega))
      have c2 : evM ns ((t + 1) :: rest) (eSet (eSet (eSet (e0 limit) 3 at_) 4 left) 5 n1v) m9 = some ((n1v ^ 5).fmod 4294967279) := evm_bin c1 (b := .int 4294967279) rfl (o_mod (by decide))
      have n2 := fmod_bd (a := n1v ^ 5) (b := 4294967279) (by decide)
      generalize (n1v ^ 5).fmod 4294967279 = n2v at c2 n2
      have d1 : evM ns ((t + 1) :: rest) (eSet (eSet (eSet (e0 limit) 3 at_) 4 left) 5 n2v) (.bin .fdiv (.var 5) (.int 64)) = some (n2v.fdiv 64) := evm_bin (x := n2v) (y := 64) rfl rfl (o_div (div_ok (by decide) (by decide)))
      have q1 : 0 ≤ n2v.fdiv 64 ∧ n2v.fdiv 64 ≤ n2v := by
        rw [Int.fdiv_eq_ediv_of_nonneg _ (by decide)]
        omega
      have d2 := evm_bin (o := .mul) d1 (b := .int 69621) (y := 69621) rfl (o_mul (mul_sm (by omega) (by decide)))
      have d3 := evm_bin (o := .add) d2 (b := .var 5) (y := n2v) rfl rfl
      have d4 := evm_bin (o := .mod) d3 (b := .int 4294967231) (y := 4294967231) rfl (o_mod (by decide))
      have d5 := evm_bin (o := .fdiv) d4 (b := .int 8) (y := 8) rfl (o_div (div_ok (by decide) (by decide)))
      have d6 := evm_bin (o := .mod) d5 (b := .var 2) (y := limit) rfl (o_mod (by omega))
      refine ⟨_, _, by simp only [b3, c2, d6]; rfl, (fmod_bd (by omega)).1, (fmod_bd (by omega)).2, tw⟩
theorem draw_ex {ns xs : List Int} {n : Nat} {limit : Int} (h : Tw ns n xs) (hn : n ≤ 100000) (h1 : 1 ≤ limit) (h2 : limit ≤ 1000000) : ∃ r ys, drawF ns [.scr, .ref 0, .int limit] [.town xs] = .ok (.int r) [.town ys] ∧ 0 ≤ r ∧ r < limit ∧ Tw ns (n + 1) ys := by
  obtain ⟨r, ys, e, q⟩ := drawN_ex h hn h1 h2
  exact ⟨r, ys, by simp [drawF, e], q⟩
theorem town_ex (ns : List Int) (h : ns.length ≤ 63) : townF ns [.scr] [] = .ok (.ref 0) [.town (0 :: ns)] ∧ Tw ns 0 (0 :: ns) := by
  refine ⟨?_, 0, ns, rfl, rfl, by decide, by decide⟩
  simp only [townF]
  rw [if_pos (by omega)]; rfl
end Q7

/-! A run that ends well, and what holds then. -/
namespace Q7
def Ok {α : Type} (m : M α) (S : Sta) (P : α → Sta → Prop) : Prop := ∃ a S', m S = .ok a S' ∧ P a S'
section
variable {α β : Type} {a : α} {m n : M α} {f : α → M β} {S : Sta} {P Q : α → Sta → Prop} {R : β → Sta → Prop}
theorem k_ret : Ok (ret a) S P ↔ P a S := by
  constructor
  · rintro ⟨a', S', e, h⟩
    cases e; exact h
  · intro h; exact ⟨a, S, rfl, h⟩
theorem k_bind : Ok (Q7.bind m f) S R ↔ Ok m S fun a S' => Ok (f a) S' R := by
  constructor
  · rintro ⟨b, S2, e, h⟩
    cases hm : m S with
    | ok a S1 =>
      rw [b_ok hm] at e
      exact ⟨a, S1, hm, b, S2, e, h⟩
    | exc c S1 => rw [b_exc hm] at e; cases e
    | bad => unfold Q7.bind at e; rw [hm] at e; cases e
  · rintro ⟨a, S1, e1, b, S2, e2, h⟩
    exact ⟨b, S2, (b_ok e1).trans e2, h⟩
theorem k_mono (h : Ok m S P) (q : ∀ a S', P a S' → Q a S') : Ok m S Q := by
  obtain ⟨a, S', e, h⟩ := h
  exact ⟨a, S', e, q a S' h⟩
theorem k_ite {p : Prop} [Decidable p] : Ok (if p then m else n) S P ↔ if p then Ok m S P else Ok n S P := by split <;> rfl
theorem k_lift {o : Option α} : Ok (lift o) S P ↔ ∃ a, o = some a ∧ P a S := by
  cases o with
  | none =>
    constructor
    · rintro ⟨a, S', e, h⟩; cases e
    · rintro ⟨a, e, h⟩; cases e
  | some b =>
    rw [l_some, k_ret]
    constructor
    · intro h; exact ⟨b, rfl, h⟩
    · rintro ⟨a, e, h⟩; cases e; exact h
end
theorem k_for_aux {body : D → Env → M End} {ds : List D} {Inv : Nat → Env → Sta → Prop}
    (hs : ∀ k d env S, ds[k]? = some d → Inv k env S → Ok (body d env) S fun e S' => ∃ env', e = .nx env' ∧ Inv (k + 1) env' S') :
    ∀ (ds' : List D) (k : Nat) (env : Env) (S : Sta), (∀ j, ds'[j]? = ds[k + j]?) → Inv k env S → Ok (forLoop body ds' env) S fun e S' => ∃ env', e = .nx env' ∧ Inv (k + ds'.length) env' S'
  | [], k, env, S, _, hI => k_ret.mpr ⟨env, rfl, hI⟩
  | d :: ds', k, env, S, hd, hI => by
    unfold forLoop
    refine k_bind.mpr (k_mono (hs k d env S ?_ hI) ?_)
    · have := hd 0
      simpa using this.symm
    · rintro e S' ⟨env', rfl, hI'⟩
      have r := k_for_aux hs ds' (k + 1) env' S' (fun j => by
        have := hd (j + 1)
        rw [List.getElem?_cons_succ] at this
        rw [this]
        congr 1; omega) hI'
      rw [show k + (d :: ds').length = k + 1 + ds'.length by simp; omega]
      exact r
theorem k_for {body : D → Env → M End} {ds : List D} {env : Env} {S : Sta} {P : End → Sta → Prop} (Inv : Nat → Env → Sta → Prop) (h0 : Inv 0 env S)
    (hs : ∀ k d env S, ds[k]? = some d → Inv k env S → Ok (body d env) S fun e S' => ∃ env', e = .nx env' ∧ Inv (k + 1) env' S')
    (hP : ∀ env S, Inv ds.length env S → P (.nx env) S) : Ok (forLoop body ds env) S P := by
  refine k_mono (k_for_aux hs ds 0 env S (fun j => by rw [Nat.zero_add]) h0) ?_
  rintro e S' ⟨env', rfl, hI⟩
  rw [Nat.zero_add] at hI
  exact hP _ _ hI
/-- the state: a town behind n draws at most -/
def St (ns : List Int) (n : Nat) (S : Sta) : Prop := ∃ xs, S = [.town xs] ∧ Tw ns n xs
theorem St.mono {ns : List Int} {n m : Nat} {S : Sta} (h : St ns n S) (hm : n ≤ m) : St ns m S := by
  obtain ⟨xs, e, t, rest, e2, hr, h0, h1⟩ := h
  exact ⟨xs, e, t, rest, e2, hr, h0, by omega⟩
theorem k_draw {ns : List Int} {n : Nat} {S : Sta} {limit : Int} {P : D → Sta → Prop} (h : St ns n S) (hn : n ≤ 100000) (h1 : 1 ≤ limit) (h2 : limit ≤ 1000000)
    (q : ∀ (r : Int) S', 0 ≤ r → r < limit → St ns (n + 1) S' → P (.int r) S') : Ok (drawF ns [.scr, .ref 0, .int limit]) S P := by
  obtain ⟨xs, rfl, ht⟩ := h
  obtain ⟨r, ys, e, r0, r1, ht'⟩ := draw_ex ht hn h1 h2
  exact ⟨_, _, e, q r _ r0 r1 ⟨ys, rfl, ht'⟩⟩
end Q7

/-! More rules for running code on values. -/
namespace Q7
section
variable {T : List Fn} {fuel : Nat} {s : CS} {ss b : CSs} {env : Env} {S : Sta} {n k : Nat} {ds : List D}
def endD : End → D
  | .nx _ => .none
  | .rt d => d
theorem k_run {P : D → Sta → Prop} (hl : ds.length = n) (h : Ok (exs T fuel b (ds.map .val ++ List.replicate (k - n) .un)) S fun e S' => P (endD e) S') : Ok (Q7.run T fuel n k b ds) S P := by
  unfold Q7.run
  rw [if_pos hl]
  refine k_bind.mpr (k_mono h fun e S' hp => ?_)
  cases e <;> exact k_ret.mpr hp
theorem k_seq {P : End → Sta → Prop} (h : Ok (ex T fuel s env) S fun e S' => Ok (match e with | .nx env' => exs T fuel ss env' | .rt d => ret (.rt d)) S' P) : Ok (exs T fuel (.cons s ss) env) S P := by
  rw [exs]
  exact k_bind.mpr h
theorem k_eq {α : Type} {m : M α} {a : α} {S' : Sta} {P : α → Sta → Prop} (h : m S = .ok a S') (q : P a S') : Ok m S P := ⟨a, S', h, q⟩
end
theorem comp_none {T : List Fn} {vs : List (PySem.Str × Nat)} {i : Nat} {it : CI} {t : CT} {elt : CE} {env : Env} {S : Sta} {ds : List D} (h1 : evI T it env S = .ok ds S) (hi : i < env.length) (hv : i ∈ vs.map (·.2))
    (h2 : ∀ d ∈ ds, evT T t ((wipeE env (vs.map (·.2))).set i (.val d)) S = .ok false S) : ev T (.comp vs (.name i) it (.som t) elt) env S = .ok (.list []) S := by
  refine comp_ok h1 (ys := []) ?_ (by simp)
  have e : ([] : List D) = ds.flatMap fun _ => [] := by simp
  rw [e]
  refine cl_pure (f := fun _ => []) fun d hd => ?_
  have hu : unpack (.name i) d (wipeE env (vs.map (·.2))) = some ((wipeE env (vs.map (·.2))).set i (.val d)) := by
    have hg : (wipeE env (vs.map (·.2)))[i]? = some .un := by rw [wipeE_get, if_pos hv, if_pos hi]
    simp only [unpack, hg]
  simp only [bodyC, hu]
  show Q7.bind (evT T t _) _ S = _
  rw [b_ok (h2 d hd)]
  rfl
mutual
theorem eqd_refl : ∀ d : D, PySem.PyData.eqv (pyd d) (pyd d) = true
  | .none => rfl
  | .bool b => by simp [pyd, PySem.PyData.eqv]
  | .int i => by simp [pyd, PySem.PyData.eqv]
  | .str s => by simp [pyd, PySem.PyData.eqv]
  | .list ds => by rw [pyd, PySem.PyData.eqv]; exact eqds_refl ds
  | .tup ds => by rw [pyd, PySem.PyData.eqv]; exact eqds_refl ds
  | .ref _ => rfl
  | .scr => rfl
  | .edict => rfl
  | .exc _ => rfl
theorem eqds_refl : ∀ ds : List D, PySem.PyData.eqvAll (pyds ds) (pyds ds) = true
  | [] => rfl
  | d :: ds => by rw [pyds, PySem.PyData.eqvAll, eqd_refl d, eqds_refl ds]; rfl
end
theorem c_neR {d : D} (h : okD 60 d = true) : cmpop .ne d d = some false := by
  have e : eqD d d = true := eqd_refl d
  simp only [cmpop, eqO, h, Bool.and_self, if_true, e, Option.map_some, Bool.not_true]
theorem c_eqR {d : D} (h : okD 60 d = true) : cmpop .eq d d = some true := by
  have e : eqD d d = true := eqd_refl d
  simp only [cmpop, eqO, h, Bool.and_self, if_true, e]
def nown (e : Slot) : Prop := ∀ ds, e ≠ .own ds
theorem nown_un : nown .un := fun _ h => by cases h
theorem nown_val (d : D) : nown (.val d) := fun _ h => by cases h
theorem un_name {i : Nat} {d : D} {env : Env} {e : Slot} (h : env[i]? = some e) (hn : nown e) : unpack (.name i) d env = some (env.set i (.val d)) := by
  cases e with
  | own ds => exact absurd rfl (hn ds)
  | un => simp only [unpack, h]
  | val v => simp only [unpack, h]
theorem un_pair {i j : Nat} {a b : D} {env : Env} {e e' : Slot} (h : env[i]? = some e) (hn : nown e) (h' : (env.set i (.val a))[j]? = some e') (hn' : nown e') : unpack (.tup (.cons (.name i) (.cons (.name j) .nil))) (.tup [a, b]) env = some ((env.set i (.val a)).set j (.val b)) := by
  simp only [unpack, iseqLT, unpacks]
  have e1 := un_name (d := a) h hn
  have e2 := un_name (d := b) h' hn'
  simp only [unpack] at e1 e2
  rw [e1]
  simp only [unpacks, unpack]
  rw [e2]
theorem range_get {a b : Int} {k : Nat} {d : D} (h : (rangeD a b)[k]? = some d) : d = .int (a + (k : Nat)) ∧ a + (k : Nat) < b := by
  unfold rangeD at h
  rw [List.getElem?_map] at h
  obtain ⟨x, hx, rfl⟩ := Option.map_eq_some_iff.mp h
  obtain ⟨hk, rfl⟩ := List.getElem?_eq_some_iff.mp hx
  rw [List.length_range] at hk
  rw [List.getElem_range]
  exact ⟨rfl, by omega⟩
theorem truths_b {α : Type} (f : α → Bool) : ∀ l : List α, truths (l.map fun c => .bool (f c)) = some (l.map f)
  | [] => rfl
  | a :: l => by simp only [List.map_cons, truths, truths_b f l, Option.map_some]
theorem all_b {α : Type} (f : α → Bool) (l : List α) : blt .all [.list (l.map fun c => .bool (f c))] = some (.bool (l.all f)) := by
  simp only [blt, truths_b, Option.map_some]
  congr 2
  rw [List.all_map]; rfl
theorem c_eqP (a b c d : Int) : cmpop .eq (.tup [.int a, .int b]) (.tup [.int c, .int d]) = some (decide (a = c ∧ b = d)) := by
  have e : eqD (.tup [.int a, .int b]) (.tup [.int c, .int d]) = decide (a = c ∧ b = d) := by
    show ((a == c) && ((b == d) && true)) = _
    by_cases h1 : a = c <;> by_cases h2 : b = d <;> simp [h1, h2]
  have o : ∀ x y : Int, okD 60 (.tup [.int x, .int y]) = true := fun _ _ => rfl
  simp only [cmpop, eqO, o, Bool.and_self, if_true, e]
theorem c_ltP (a b c d : Int) : cmpop .lt (.tup [.int a, .int b]) (.tup [.int c, .int d]) = some (decide (a < c ∨ (a = c ∧ b < d))) := by
  have e : ltD (.tup [.int a, .int b]) (.tup [.int c, .int d]) = decide (a < c ∨ (a = c ∧ b < d)) := PySem.W.dataLt_ii a b c d
  have o : cmpOk (.tup [.int a, .int b]) (.tup [.int c, .int d]) = true := rfl
  simp only [cmpop, o, if_true, e]
theorem at_nat {xs : List D} {k : Nat} (h : k < xs.length) : getitem (.tup xs) (.int (k : Int)) = xs[k]? := by
  show L2.atI xs (k : Int) = _
  rw [at_in (by omega) (by omega)]; rfl

/-! a comprehension of any form that leaves the state -/
theorem comp_gen {T : List Fn} {vs : List (PySem.Str × Nat)} {tg : Tg} {it : CI} {ifs : COT} {elt : CE} {env : Env} {S : Sta} {ds : List D} (t : D → Bool) (g : D → D) (h1 : evI T it env S = .ok ds S)
    (h2 : ∀ d ∈ ds, ∃ env', unpack tg d (wipeE env (vs.map (·.2))) = some env' ∧ evOT T ifs env' S = .ok (t d) S ∧ (t d = true → ev T elt env' S = .ok (g d) S)) (hz : ds.length ≤ 1000000) : ev T (.comp vs tg it ifs elt) env S = .ok (.list ((ds.filter t).map g)) S := by
  have hl : ((ds.filter t).map g).length ≤ 1000000 := by
    rw [List.length_map]
    exact Nat.le_trans (List.length_filter_le _ _) hz
  refine comp_ok h1 ?_ hl
  have e : (ds.filter t).map g = ds.flatMap fun d => if t d then [g d] else [] := by
    clear h1 h2 hz hl
    induction ds with
    | nil => rfl
    | cons d ds ih =>
      rw [List.flatMap_cons, ← ih, List.filter_cons]
      split <;> simp [*]
  rw [e]
  refine cl_pure fun d hd => ?_
  obtain ⟨env', hu, ht, hg⟩ := h2 d hd
  simp only [bodyC, hu]
  refine (b_ok ht).trans ?_
  cases hh : t d with
  | false => rfl
  | true =>
    simp only [if_true]
    rw [b_ok (hg hh)]; rfl
/-- relation of lists, element by element -/
inductive All2 {α β : Type} (R : α → β → Prop) : List α → List β → Prop
  | nil : All2 R [] []
  | cons {a : α} {b : β} {as : List α} {bs : List β} : R a b → All2 R as bs → All2 R (a :: as) (b :: bs)
theorem All2.len {α β : Type} {R : α → β → Prop} {as : List α} {bs : List β} (h : All2 R as bs) : as.length = bs.length := by
  induction h with
  | nil => rfl
  | cons _ _ ih => simp [ih]
theorem cl_rel {body : D → M (List D)} {R : D → D → Prop} {S : Sta} : ∀ {ds : List D}, (∀ d ∈ ds, ∃ y, body d S = .ok [y] S ∧ R d y) → ∃ ys, compLoop body ds S = .ok ys S ∧ All2 R ds ys
  | [], _ => ⟨[], rfl, .nil⟩
  | d :: ds, h => by
    obtain ⟨y, e, r⟩ := h d (by simp)
    obtain ⟨ys, e2, r2⟩ := cl_rel (ds := ds) fun d hd => h d (by simp [hd])
    refine ⟨y :: ys, ?_, .cons r r2⟩
    unfold compLoop
    rw [b_ok e, b_ok e2]; rfl
theorem comp_rel {T : List Fn} {vs : List (PySem.Str × Nat)} {i : Nat} {it : CI} {elt : CE} {env : Env} {S : Sta} {ds : List D} {R : D → D → Prop} (h1 : evI T it env S = .ok ds S) (hi : i < env.length) (hv : i ∈ vs.map (·.2))
    (h2 : ∀ d ∈ ds, ∃ y, ev T elt ((wipeE env (vs.map (·.2))).set i (.val d)) S = .ok y S ∧ R d y) (hz : ds.length ≤ 1000000) : ∃ ys, ev T (.comp vs (.name i) it .non elt) env S = .ok (.list ys) S ∧ All2 R ds ys := by
  have key : ∀ d ∈ ds, ∃ y, bodyC T env (vs.map (·.2)) (.name i) .non elt d S = .ok [y] S ∧ R d y := by
    intro d hd
    obtain ⟨y, e, r⟩ := h2 d hd
    refine ⟨y, ?_, r⟩
    have hu : unpack (.name i) d (wipeE env (vs.map (·.2))) = some ((wipeE env (vs.map (·.2))).set i (.val d)) := by
      have hg : (wipeE env (vs.map (·.2)))[i]? = some .un := by rw [wipeE_get, if_pos hv, if_pos hi]
      simp only [unpack, hg]
    simp only [bodyC, hu]
    show Q7.bind (evOT T .non _) _ S = _
    rw [b_ok (show evOT T .non _ S = .ok true S from rfl)]
    simp only [if_true]
    rw [b_ok e]; rfl
  obtain ⟨ys, e, r⟩ := cl_rel key
  exact ⟨ys, comp_ok h1 e (by rw [← r.len]; exact hz), r⟩
/-- a loop that may return -/
theorem k_forR {body : D → Env → M End} {ds : List D} {env : Env} {S : Sta} {P : End → Sta → Prop} (Inv : Nat → Env → Sta → Prop) (h0 : Inv 0 env S)
    (hs : ∀ k d env S, ds[k]? = some d → Inv k env S → Ok (body d env) S fun e S' => (∃ env', e = .nx env' ∧ Inv (k + 1) env' S') ∨ ((∃ d, e = .rt d) ∧ P e S'))
    (hP : ∀ env S, Inv ds.length env S → P (.nx env) S) : Ok (forLoop body ds env) S P := by
  have aux : ∀ (ds' : List D) (k : Nat) (env : Env) (S : Sta), (∀ j, ds'[j]? = ds[k + j]?) → k + ds'.length = ds.length → Inv k env S → Ok (forLoop body ds' env) S P := by
    intro ds'
    induction ds' with
    | nil =>
      intro k env S _ hk hI
      refine k_ret.mpr (hP _ _ ?_)
      rw [← hk]; exact hI
    | cons d ds' ih =>
      intro k env S hd hk hI
      unfold forLoop
      refine k_bind.mpr (k_mono (hs k d env S ?_ hI) ?_)
      · have := hd 0
        simpa using this.symm
      · rintro e S' (⟨env', rfl, hI'⟩ | ⟨⟨v, rfl⟩, hp⟩)
        · refine ih (k + 1) env' S' (fun j => ?_) (by simp at hk; omega) hI'
          have := hd (j + 1)
          rw [List.getElem?_cons_succ] at this
          rw [this]
          congr 1; omega
        · exact k_ret.mpr hp
  exact aux ds 0 env S (fun j => by rw [Nat.zero_add]) (by omega) h0
/-- two clauses, no test -/
theorem comp2_map {T : List Fn} {vs : List (PySem.Str × Nat)} {vs2 : List Nat} {tg tg2 : Tg} {it it2 : CI} {elt : CE} {env : Env} {S : Sta} {ds : List D} (es : D → List D) (g : D → D → D) (h1 : evI T it env S = .ok ds S)
    (h2 : ∀ d ∈ ds, ∃ env1, unpack tg d (wipeE env (vs.map (·.2))) = some env1 ∧ evI T it2 env1 S = .ok (es d) S ∧ ∀ e ∈ es d, ∃ env2, unpack tg2 e (wipeE env1 vs2) = some env2 ∧ ev T elt env2 S = .ok (g d e) S) (hz : (ds.flatMap fun d => (es d).map (g d)).length ≤ 1000000) :
    ev T (.comp2 vs tg it .non vs2 tg2 it2 .non elt) env S = .ok (.list (ds.flatMap fun d => (es d).map (g d))) S := by
  rw [ev, b_ok h1]
  have key : compLoop (fun d => match unpack tg d (wipeE env (vs.map (·.2))) with
        | none => bad
        | some env1 => Q7.bind (evOT T .non env1) fun c => if c then Q7.bind (evI T it2 env1) fun es =>
            compLoop (fun e => match unpack tg2 e (wipeE env1 vs2) with
              | none => bad
              | some env2 => Q7.bind (evOT T .non env2) fun c2 => if c2 then Q7.bind (ev T elt env2) fun y => ret [y] else ret []) es else ret []) ds S = .ok (ds.flatMap fun d => (es d).map (g d)) S := by
    refine cl_pure fun d hd => ?_
    obtain ⟨env1, hu, hi, he⟩ := h2 d hd
    simp only [hu]
    rw [b_ok (show evOT T .non _ S = .ok true S from rfl)]
    simp only [if_true]
    rw [b_ok hi, map_flat (g d)]
    refine cl_pure fun e hm => ?_
    obtain ⟨env2, hu2, hv⟩ := he e hm
    simp only [hu2]
    rw [b_ok (show evOT T .non _ S = .ok true S from rfl)]
    simp only [if_true]
    rw [b_ok hv]; rfl
  refine (b_ok (ne_ok key)).trans ?_
  rw [if_pos (show sizeOk (ds.flatMap fun d => (es d).map (g d)).length = true from decide_eq_true hz)]; rfl
end Q7

namespace K21
open Q7
def isBetween (d : D) (lo hi : Int) : Bool := match d with
  | .int i => decide (lo ≤ i) && decide (i ≤ hi)
  | _ => false
/-- no state object -/
def plainD : D → Bool
  | .ref _ | .scr | .exc _ => false
  | _ => true
theorem F8_eq (ns : List Int) (d : D) (lo hi : Int) (S : Sta) (h : plainD d = true) : F8 ns [d, .int lo, .int hi] S = .ok (.bool (isBetween d lo hi)) S := by
  cases d <;> first | (simp [plainD] at h; done) | skip
  all_goals simp [F8, Q7.run, c8, exs, ex, ev, evs, evT, evTAnd, evTOr, evAnd, evOr, b_ite, a_ite, getv, isTy, isBetween]
  split <;> simp [*]
def loopT : CT := .cmp .ne (.var 1) (.int 0)
def loopB : CSs := .cons (.par [(false, .name 0), (false, .name 1)] (.cons (.var 1) (.cons (.bin .mod (.var 0) (.var 1)) .nil))) .nil
theorem loop_step {T : List Fn} {fuel : Nat} {S : Sta} {a b n : Nat} (hb : b ≠ 0) : whileLoop (evT T loopT) (exs T fuel loopB) (n + 1) [.val (.int a), .val (.int b)] S = whileLoop (evT T loopT) (exs T fuel loopB) n [.val (.int b), .val (.int ((a % b : Nat) : Int))] S := by
  have hb' : ((b : Nat) : Int) ≠ 0 := by omega
  have e : (a : Int).fmod (b : Int) = ((a % b : Nat) : Int) := by
    rw [Int.fmod_eq_emod_of_nonneg _ (by omega)]
    simp
  have step : exs T fuel loopB [.val (.int a), .val (.int b)] S = .ok (.nx [.val (.int b), .val (.int ((a % b : Nat) : Int))]) S := by
    simp [loopB, exs, ex, evs, ev, getv, o_mod hb', storePar, store1, e]
  have ht : evT T loopT [.val (.int a), .val (.int b)] S = .ok true S := by
    simp [loopT, evT, ev, getv, hb]
  show Q7.bind (evT T loopT _) _ S = _
  rw [b_ok ht]
  simp only [if_true]
  rw [b_ok step]
theorem loop_end {T : List Fn} {fuel : Nat} {S : Sta} {a n : Nat} : whileLoop (evT T loopT) (exs T fuel loopB) (n + 1) [.val (.int a), .val (.int ((0 : Nat) : Int))] S = .ok (.nx [.val (.int a), .val (.int 0)]) S := by
  simp [whileLoop, loopT, evT, ev, getv]
theorem half_lt {b r : Nat} (h0 : 0 < r) (h : r < b) : 2 * (b % r) < b := by
  have h1 := Nat.mod_lt b h0
  by_cases hr : 2 * r ≤ b
  · omega
  · have : b % r = b - r := by
      rw [Nat.mod_eq_sub_mod (by omega), Nat.mod_eq_of_lt (by omega)]
    omega
theorem gcd_loop {T : List Fn} {fuel : Nat} {S : Sta} : ∀ (m n : Nat) (a b : Nat), b < 2 ^ m → 2 * m + 1 ≤ n → whileLoop (evT T loopT) (exs T fuel loopB) n [.val (.int a), .val (.int b)] S = .ok (.nx [.val (.int (Nat.gcd a b : Nat)), .val (.int 0)]) S := by
  intro m
  induction m with
  | zero =>
    intro n a b hb hn
    obtain ⟨n, rfl⟩ : ∃ k, n = k + 1 := ⟨n - 1, by omega⟩
    have : b = 0 := by simp at hb; exact hb
    subst this
    rw [Nat.gcd_zero_right]
    exact loop_end
  | succ m ih =>
    intro n a b hb hn
    obtain ⟨n, rfl⟩ : ∃ k, n = k + 2 := ⟨n - 2, by omega⟩
    by_cases h0 : b = 0
    · subst h0
      rw [Nat.gcd_zero_right]
      exact loop_end
    · rw [loop_step h0]
      have g1 : Nat.gcd b (a % b) = Nat.gcd a b := by rw [Nat.gcd_comm b, ← Nat.gcd_rec, Nat.gcd_comm]
      by_cases h1 : a % b = 0
      · rw [h1, Nat.gcd_zero_right] at g1
        rw [h1, ← g1]
        exact loop_end
      · rw [loop_step h1]
        have hl := half_lt (Nat.pos_of_ne_zero h1) (Nat.mod_lt a (Nat.pos_of_ne_zero h0))
        have g2 : Nat.gcd (a % b) (b % (a % b)) = Nat.gcd a b := by
          rw [Nat.gcd_comm (a % b), ← Nat.gcd_rec, Nat.gcd_comm (a % b), g1]
        have r := ih n (a % b) (b % (a % b)) (by rw [Nat.pow_succ] at hb; omega) (by omega)
        rw [g2] at r
        exact r
theorem F4_eq (ns : List Int) (a b : Int) (S : Sta) (hb : b.natAbs < 2 ^ 100000) : F4 ns [.int a, .int b] S = .ok (.int (Nat.gcd a.natAbs b.natAbs : Nat)) S := by
  have ha : (if a < 0 then -a else a) = (a.natAbs : Int) := by split <;> omega
  have hb2 : (if b < 0 then -b else b) = (b.natAbs : Int) := by split <;> omega
  have l : ex (T4 ns) fuel (.whl loopT loopB) [.val (.int a.natAbs), .val (.int b.natAbs)] S = _ := gcd_loop (T := T4 ns) (fuel := fuel) (S := S) 100000 fuel a.natAbs b.natAbs hb (by decide)
  refine r_rt rfl ?_
  rw [c4, x_nx (env' := [.val (.int a.natAbs), .val (.int b.natAbs)]) (S' := S) (by simp [ex, evs, ev, getv, blt, storePar, store1, ha, hb2])]
  refine (x_nx l).trans ?_
  exact x_rt (by simp [ex, ev, getv])
theorem F8_ret (ns : List Int) (d : D) (lo hi : Int) (h : plainD d = true) : F8 ns [d, .int lo, .int hi] = ret (.bool (isBetween d lo hi)) := funext fun S => F8_eq ns d lo hi S h
theorem F4_ret (ns : List Int) (a b : Int) (hb : b.natAbs < 2 ^ 100000) : F4 ns [.int a, .int b] = ret (.int (Nat.gcd a.natAbs b.natAbs : Nat)) := funext fun S => F4_eq ns a b S hb
theorem F11_ret (ns : List Int) (a b : Int) (hb : b.natAbs < 2 ^ 100000) : F11 ns [.int a, .int b] = ret (.int (Nat.gcd a.natAbs b.natAbs : Nat)) := F4_ret ns a b hb
/-! the tests as plain functions -/
def isPair (p : Int) (d : D) : Bool := match d with
  | .tup [.int x, y] => isBetween (.int x) 0 (p - 1) && isBetween y (x + 1) (p - 1)
  | _ => false
theorem F10_ret (ns : List Int) (p : Int) (x y : D) (hx : plainD x = true) (hy : plainD y = true) : F10 ns [.int p, .tup [x, y]] = ret (.bool (isPair p (.tup [x, y]))) := by
  have hT : (T10 ns)[8]? = some (F8 ns) := rfl
  have at0 : getitem (.tup [x, y]) (.int 0) = some x := rfl
  have at1 : getitem (.tup [x, y]) (.int 1) = some y := rfl
  funext S
  cases x <;> first | (simp [plainD] at hx; done) | skip
  all_goals simp [F10, Q7.run, c10, exs, ex, evT, evTOr, ev, evs, getv, isTy, blt, hT, at0, at1, F8_ret _ _ _ _ hx, F8_ret _ _ _ _ hy, isPair, b_ite, a_ite]
  all_goals first | (intro h; simp [isBetween] at h; done) | skip
  split <;> simp_all
def dOf : Option Int → D
  | none => .none
  | some i => .int i
def small (i : Int) : Prop := -20 ≤ i ∧ i ≤ 20
theorem small_big {b : Int} (h : small b) : b.natAbs < 2 ^ 100000 := Nat.lt_of_lt_of_le (m := 2 ^ 5) (by have := h.1; have := h.2; omega) (Nat.pow_le_pow_right (by decide) (by decide))
structure Li where
  x : Int
  y : Int
  a : Int
  b : Int
  s : Bool
deriving DecidableEq, Inhabited
structure Ln where
  x : Option Int
  y : Option Int
  a : Option Int
  b : Option Int
  s : Bool
deriving DecidableEq
def Li.ln (l : Li) : Ln := ⟨some l.x, some l.y, some l.a, some l.b, l.s⟩
def liO : Ln → Option Li
  | ⟨some x, some y, some a, some b, s⟩ => some ⟨x, y, a, b, s⟩
  | _ => none
def lisO : List Ln → Option (List Li)
  | [] => some []
  | l :: r => match liO l, lisO r with
    | some l, some r => some (l :: r)
    | _, _ => none
theorem liO_ln (l : Li) : liO l.ln = some l := rfl
theorem lisO_ln : ∀ ls : List Li, lisO (ls.map Li.ln) = some ls
  | [] => rfl
  | l :: r => by simp only [List.map_cons, lisO, liO_ln, lisO_ln r]
theorem ln_liO {m : Ln} {l : Li} (h : liO m = some l) : m = l.ln := by
  rcases m with ⟨_ | x, _ | y, _ | a, _ | b, s⟩ <;> simp [liO] at h
  subst h; rfl
theorem ln_lisO : ∀ {ms : List Ln} {ls : List Li}, lisO ms = some ls → ms = ls.map Li.ln
  | [], ls, h => by simp only [lisO, Option.some.injEq] at h; subst h; rfl
  | m :: ms, ls, h => by
    simp only [lisO] at h
    cases h1 : liO m with
    | none => rw [h1] at h; simp at h
    | some l =>
      cases h2 : lisO ms with
      | none => rw [h1, h2] at h; simp at h
      | some r =>
        rw [h1, h2] at h
        simp at h
        subst h
        rw [List.map_cons, ← ln_liO h1, ← ln_lisO h2]
def lnD (m : Ln) : D := .tup [dOf m.x, dOf m.y, .tup [dOf m.a, dOf m.b], .bool m.s]
def isLi (p : Int) (l : Li) : Bool := decide (0 ≤ l.x ∧ l.x ≤ p - 1 ∧ l.x + 1 ≤ l.y ∧ l.y ≤ p - 1) && decide ((-20 ≤ l.a ∧ l.a ≤ 20) ∧ (-20 ≤ l.b ∧ l.b ≤ 20) ∧ Nat.gcd l.a.natAbs l.b.natAbs = 1) && (l.s || decide (0 < l.b) || decide (l.a = 1 ∧ l.b = 0))
def before (l m : Li) : Bool := decide (l.x < m.x ∨ (l.x = m.x ∧ l.y < m.y))
def isTell (p : Int) (ls : List Li) : Bool := decide (2 ≤ p ∧ p ≤ 9) && decide (ls.length ≤ 16) && ls.all (isLi p) && (List.range (ls.length - 1)).all fun k => before (ls.getD k default) (ls.getD (k + 1) default)
theorem tell_parts {p : Int} {ls : List Li} (h : isTell p ls = true) : (2 ≤ p ∧ p ≤ 9) ∧ ls.length ≤ 16 ∧ ∀ l ∈ ls, isLi p l = true := by
  simp only [isTell, Bool.and_eq_true, decide_eq_true_eq, List.all_eq_true] at h
  exact ⟨h.1.1.1, h.1.1.2, h.1.2⟩
theorem li_parts {p : Int} {l : Li} (h : isLi p l = true) : (0 ≤ l.x ∧ l.x ≤ p - 1 ∧ l.x + 1 ≤ l.y ∧ l.y ≤ p - 1) ∧ small l.a ∧ small l.b ∧ Nat.gcd l.a.natAbs l.b.natAbs = 1 := by
  simp only [isLi, Bool.and_eq_true, decide_eq_true_eq] at h
  exact ⟨h.1.1, h.1.2.1, h.1.2.2.1, h.1.2.2.2⟩
theorem dOf_plain (o : Option Int) : plainD (dOf o) = true := by cases o <;> rfl
def dirO (a b : Option Int) : Bool := match a, b with
  | some a, some b => decide ((-20 ≤ a ∧ a ≤ 20) ∧ (-20 ≤ b ∧ b ≤ 20) ∧ Nat.gcd a.natAbs b.natAbs = 1)
  | _, _ => false
theorem F12_ret (ns : List Int) (a b : Option Int) : F12 ns [.tup [dOf a, dOf b]] = ret (.bool (dirO a b)) := by
  have hT : (T12 ns)[8]? = some (F8 ns) := rfl
  have hT2 : (T12 ns)[11]? = some (F11 ns) := rfl
  funext S
  have at0 : getitem (.tup [dOf a, dOf b]) (.int 0) = some (dOf a) := rfl
  have at1 : getitem (.tup [dOf a, dOf b]) (.int 1) = some (dOf b) := rfl
  have hc : ev (T12 ns) (.comp [("one", 1)] (.name 1) (.seq (.var 0)) .non (.call 8 (.cons (.var 1) (.cons (.neg (.int 20)) (.cons (.int 20) .nil))))) [.val (.tup [dOf a, dOf b]), .un] = ret (.list [.bool (isBetween (dOf a) (-20) 20), .bool (isBetween (dOf b) (-20) 20)]) := by
    funext S
    refine comp_map (ds := [dOf a, dOf b]) (g := fun d => .bool (isBetween d (-20) 20)) (by simp [evI, ev, getv, iseq]) (by simp) (by simp) (fun d hd => ?_) (by simp)
    have hp : plainD d = true := by
      simp at hd
      rcases hd with rfl | rfl <;> exact dOf_plain _
    simp [ev, evs, getv, wipeE, hT, F8_ret _ _ _ _ hp]
  have hall : blt .all [.list [.bool (isBetween (dOf a) (-20) 20), .bool (isBetween (dOf b) (-20) 20)]] = some (.bool (isBetween (dOf a) (-20) 20 && isBetween (dOf b) (-20) 20)) := by simp [blt, truths]
  have hlen : blt .len [.tup [dOf a, dOf b]] = some (.int 2) := rfl
  refine r_rt rfl ?_
  by_cases hb : (isBetween (dOf a) (-20) 20 && isBetween (dOf b) (-20) 20) = true
  · cases a with
    | none => simp [isBetween, dOf] at hb
    | some a => cases b with
      | none => simp [isBetween, dOf] at hb
      | some b =>
        have hb' := hb
        simp only [isBetween, dOf, Bool.and_eq_true, decide_eq_true_eq] at hb'
        have hg : F11 ns [dOf (some a), dOf (some b)] = _ := F11_ret ns a b (small_big hb'.2)
        have e : dirO (some a) (some b) = decide (((Nat.gcd a.natAbs b.natAbs : Nat) : Int) = 1) := by
          unfold dirO
          simp only [decide_eq_decide]
          constructor
          · rintro ⟨_, _, h⟩; omega
          · intro h; exact ⟨hb'.1, hb'.2, by omega⟩
        rw [e]
        rw [hb] at hall
        show exs (T12 ns) fuel c12 [.val (.tup [dOf (some a), dOf (some b)]), .un] S = _
        rw [c12]
        simp [exs, ex, evT, evTOr, ↓hc, ev, evs, getv, isTy, hlen, hall, at0, at1, hT2, hg]
  · have e : dirO a b = false := by
      cases a with
      | none => rfl
      | some a => cases b with
        | none => rfl
        | some b =>
          unfold dirO
          refine decide_eq_false fun h => hb ?_
          simp only [isBetween, dOf, Bool.and_eq_true, decide_eq_true_eq]
          exact ⟨h.1, h.2.1⟩
    rw [e]
    rw [Bool.not_eq_true] at hb
    rw [hb] at hall
    show exs (T12 ns) fuel c12 [.val (.tup [dOf a, dOf b]), .un] S = _
    rw [c12]
    simp [exs, ex, evT, evTOr, ↓hc, ev, evs, getv, isTy, hlen, hall, at0, at1]
theorem F9_ret (ns : List Int) (a b : Int) : F9 ns [.tup [.int a, .int b]] = ret (.bool (decide (0 < b) || decide (a = 1 ∧ b = 0))) := by
  funext S
  have at1 : getitem (.tup [.int a, .int b]) (.int 1) = some (.int b) := rfl
  by_cases h : 0 < b
  · simp [F9, Q7.run, c9, exs, ex, ev, evOr, getv, at1, h]
  · simp [F9, Q7.run, c9, exs, ex, ev, evOr, evs, getv, at1, h, sizeOk, c_eqP]
def lineO (p : Int) (m : Ln) : Bool := match liO m with
  | some l => isLi p l
  | none => false
theorem pair_iff (p x y : Int) : isPair p (.tup [.int x, .int y]) = decide (0 ≤ x ∧ x ≤ p - 1 ∧ x + 1 ≤ y ∧ y ≤ p - 1) := by
  simp only [isPair, isBetween]
  by_cases h1 : 0 ≤ x <;> by_cases h2 : x ≤ p - 1 <;> by_cases h3 : x + 1 ≤ y <;> by_cases h4 : y ≤ p - 1 <;> simp [h1, h2, h3, h4]
theorem pair_none (p : Int) (x : Option Int) : isPair p (.tup [dOf x, .none]) = false := by
  cases x <;> simp [isPair, dOf, isBetween]
theorem pair_none' (p : Int) (d : D) : isPair p (.tup [.none, d]) = false := rfl
theorem ty_b (s : Bool) : isTy (.bool s) .bool = some true := rfl
theorem F13_ret (ns : List Int) (p : Int) (m : Ln) : F13 ns [.int p, lnD m] = ret (.bool (lineO p m)) := by
  have hT1 : (T13 ns)[10]? = some (F10 ns) := rfl
  have hT2 : (T13 ns)[12]? = some (F12 ns) := rfl
  have hT3 : (T13 ns)[9]? = some (F9 ns) := rfl
  obtain ⟨x, y, a, b, s⟩ := m
  funext S
  have sl : slice (lnD ⟨x, y, a, b, s⟩) none (some 2) = some (.tup [dOf x, dOf y]) := rfl
  have at2 : getitem (lnD ⟨x, y, a, b, s⟩) (.int 2) = some (.tup [dOf a, dOf b]) := rfl
  have at3 : getitem (lnD ⟨x, y, a, b, s⟩) (.int 3) = some (.bool s) := rfl
  have hlen : blt .len [lnD ⟨x, y, a, b, s⟩] = some (.int 4) := rfl
  have ht : isTy (lnD ⟨x, y, a, b, s⟩) .tuple = some true := rfl
  have hp := F10_ret ns p _ _ (dOf_plain x) (dOf_plain y)
  have hd := F12_ret ns a b
  generalize hD : lnD ⟨x, y, a, b, s⟩ = d at sl at2 at3 hlen ht
  by_cases h1 : isPair p (.tup [dOf x, dOf y]) = true
  · by_cases h2 : dirO a b = true
    · cases a with
      | none => cases h2
      | some a => cases b with
        | none => cases h2
        | some b => cases x with
          | none => cases h1
          | some x => cases y with
            | none => rw [show dOf none = D.none from rfl, pair_none] at h1; cases h1
            | some y =>
              have hpl : F9 ns [.tup [dOf (some a), dOf (some b)]] = _ := F9_ret ns a b
              have e : lineO p ⟨some x, some y, some a, some b, s⟩ = (s || decide (0 < b) || decide (a = 1 ∧ b = 0)) := by
                have h1' := h1
                simp only [dOf] at h1'
                rw [pair_iff] at h1'
                simp only [dirO] at h2
                simp only [lineO, liO, isLi, h1', h2, Bool.and_self, Bool.true_and]
              rw [e]
              cases s with
              | true => simp [F13, Q7.run, c13, exs, ex, evT, evTOr, ev, evs, evO, evOr, getv, sl, at2, at3, hlen, ht, hT1, hT2, hp, hd, h1, h2, ty_b]
              | false => simp [F13, Q7.run, c13, exs, ex, evT, evTOr, ev, evs, evO, evOr, getv, sl, at2, at3, hlen, ht, hT1, hT2, hT3, hp, hd, h1, h2, ty_b, hpl]
    · have e : lineO p ⟨x, y, a, b, s⟩ = false := by
        unfold lineO
        cases hl : liO ⟨x, y, a, b, s⟩ with
        | none => rfl
        | some l =>
          have := ln_liO hl
          simp only [Li.ln, Ln.mk.injEq] at this
          obtain ⟨rfl, rfl, rfl, rfl, rfl⟩ := this
          simp only [dirO, Bool.not_eq_true] at h2
          simp only [isLi, h2, Bool.and_false, Bool.false_and]
      rw [e]
      rw [Bool.not_eq_true] at h2
      simp [F13, Q7.run, c13, exs, ex, evT, evTOr, ev, evs, evO, evOr, getv, sl, at2, at3, hlen, ht, hT1, hT2, hp, hd, h1, h2, ty_b]
  · have e : lineO p ⟨x, y, a, b, s⟩ = false := by
      unfold lineO
      cases hl : liO ⟨x, y, a, b, s⟩ with
      | none => rfl
      | some l =>
        have := ln_liO hl
        simp only [Li.ln, Ln.mk.injEq] at this
        obtain ⟨rfl, rfl, rfl, rfl, rfl⟩ := this
        simp only [dOf] at h1
        rw [pair_iff, Bool.not_eq_true] at h1
        simp only [isLi, h1, Bool.and_false, Bool.false_and]
    rw [e]
    rw [Bool.not_eq_true] at h1
    simp [F13, Q7.run, c13, exs, ex, evT, evTOr, ev, evs, evO, evOr, getv, sl, at2, at3, hlen, ht, hT1, hT2, hp, hd, h1, ty_b]
/-! is_telling -/
def tellO (p : Option Int) (ms : List Ln) : Bool := match p, lisO ms with
  | some p, some ls => isTell p ls
  | _, _ => false
def liD (l : Li) : D := lnD l.ln
def tellD (p : Int) (ls : List Li) : D := .tup [.int p, .tup (ls.map liD)]
def foundD (p : Option Int) (ms : List Ln) : D := .tup [dOf p, .tup (ms.map lnD)]
theorem lines_all {p : Int} : ∀ {ms : List Ln}, ms.all (lineO p) = true → ∃ ls : List Li, ms = ls.map Li.ln
  | [], _ => ⟨[], rfl⟩
  | m :: ms, h => by
    simp only [List.all_cons, Bool.and_eq_true] at h
    obtain ⟨ls, e⟩ := lines_all h.2
    cases hl : liO m with
    | none => have := h.1; unfold lineO at this; rw [hl] at this; cases this
    | some l => exact ⟨l :: ls, by rw [List.map_cons, ← ln_liO hl, e]⟩
theorem F14_ret (ns : List Int) (p : Option Int) (ms : List Ln) (hm : ms.length ≤ 100000) : F14 ns [foundD p ms] = ret (.bool (tellO p ms)) := by
  have hT1 : (T14 ns)[8]? = some (F8 ns) := rfl
  have hT2 : (T14 ns)[13]? = some (F13 ns) := rfl
  funext S
  have at0 : getitem (foundD p ms) (.int 0) = some (dOf p) := rfl
  have at1 : getitem (foundD p ms) (.int 1) = some (.tup (ms.map lnD)) := rfl
  have hlen : blt .len [foundD p ms] = some (.int 2) := rfl
  have hlen2 : blt .len [.tup (ms.map lnD)] = some (.int (ms.length : Nat)) := by simp [blt]
  have ht : isTy (foundD p ms) .tuple = some true := rfl
  have ht2 : isTy (.tup (ms.map lnD)) .tuple = some true := rfl
  have h9 := F8_ret ns (dOf p) 2 9 (dOf_plain p)
  generalize hD : foundD p ms = d at at0 at1 hlen ht
  by_cases h1 : isBetween (dOf p) 2 9 = true
  · cases p with
    | none => cases h1
    | some p =>
      have at0' : getitem d (.int 0) = some (.int p) := at0
      by_cases h2 : ms.length ≤ 16
      · have h2' : ¬ (16 : Int) < (ms.length : Nat) := by omega
        have hc : ev (T14 ns) (.comp [("line", 2)] (.name 2) (.seq (.idx (.var 0) (.int 1))) .non (.call 13 (.cons (.idx (.var 0) (.int 0)) (.cons (.var 2) .nil)))) [.val d, .un, .un] = ret (.list (ms.map fun m => .bool (lineO p m))) := by
          funext S
          have e : ms.map (fun m => D.bool (lineO p m)) = (ms.map lnD).map fun d => match d with
            | .tup [x, y, .tup [a, b], .bool s] => .bool (lineO p ⟨(match x with | .int i => some i | _ => none), (match y with | .int i => some i | _ => none), (match a with | .int i => some i | _ => none), (match b with | .int i => some i | _ => none), s⟩)
            | _ => .none := by
            rw [List.map_map]
            refine List.map_congr_left fun m _ => ?_
            obtain ⟨_ | x, _ | y, _ | a, _ | b, s⟩ := m <;> rfl
          rw [e]
          refine comp_map (ds := ms.map lnD) (by simp [evI, ev, getv, iseq, at1]) (by simp) (by simp) (fun d' hd => ?_) (by simp; omega)
          obtain ⟨m, _, rfl⟩ := List.mem_map.mp hd
          have h14 := F13_ret ns p m
          simp [ev, evs, getv, wipeE, hT2, at0', h14]
          obtain ⟨_ | x, _ | y, _ | a, _ | b, s⟩ := m <;> rfl
        have hall := all_b (lineO p) ms
        by_cases h3 : ms.all (lineO p) = true
        · obtain ⟨ls, rfl⟩ := lines_all h3
          have hrng : rng1O (.int (((ls.map Li.ln).length : Nat) - 1)) = some (rangeD 0 (((ls.map Li.ln).length : Nat) - 1)) := by
            have : rngOk 0 (((ls.map Li.ln).length : Nat) - 1) = true := by
              simp only [rngOk, Bool.and_eq_true, decide_eq_true_eq]
              omega
            simp only [rng1O, this, if_true]
          have hc2 : ev (T14 ns) (.comp [("k", 1)] (.name 1) (.rng1 (.bin .sub (.blt .len (.cons (.idx (.var 0) (.int 1)) .nil)) (.int 1))) .non (.cmp .lt (.slc (.idx (.idx (.var 0) (.int 1)) (.var 1)) .non (.som (.int 2))) (.slc (.idx (.idx (.var 0) (.int 1)) (.bin .add (.var 1) (.int 1))) .non (.som (.int 2))))) [.val d, .un, .un] = ret (.list ((List.range (ls.length - 1)).map fun k => .bool (before (ls.getD k default) (ls.getD (k + 1) default)))) := by
            funext S
            have e : rangeD 0 (((ls.map Li.ln).length : Nat) - 1) = (List.range (ls.length - 1)).map fun k => D.int (k : Nat) := by
              unfold rangeD
              rw [List.length_map, show (((ls.length : Nat) : Int) - 1 - 0).toNat = ls.length - 1 by omega]
              refine List.map_congr_left fun k _ => ?_
              rw [Int.zero_add]
            have e2 : (List.range (ls.length - 1)).map (fun k => D.bool (before (ls.getD k default) (ls.getD (k + 1) default))) = ((List.range (ls.length - 1)).map fun k => D.int (k : Nat)).map fun d => match d with
              | .int i => .bool (before (ls.getD i.toNat default) (ls.getD (i.toNat + 1) default))
              | _ => .none := by
              rw [List.map_map]; rfl
            rw [e2]
            refine comp_map (ds := (List.range (ls.length - 1)).map fun k => D.int (k : Nat)) (by simp only [evI, ev, evs, getv, at1, hlen2, hrng, e, b_ret, l_some, List.getElem?_cons_zero, o_sub]; rfl) (by simp) (by simp) (fun d' hd => ?_) (by simp at hm ⊢; omega)
            obtain ⟨k, hk, rfl⟩ := List.mem_map.mp hd
            have hk' : k + 1 < ls.length := by have := List.mem_range.mp hk; omega
            have g1 : getitem (.tup ((ls.map Li.ln).map lnD)) (.int (k : Int)) = some (liD ls[k]) := by
              rw [at_nat (by simp; omega), List.getElem?_map, List.getElem?_map, List.getElem?_eq_getElem (by omega)]
              rfl
            have g2 : getitem (.tup ((ls.map Li.ln).map lnD)) (.int ((k : Int) + 1)) = some (liD ls[k + 1]) := by
              rw [show ((k : Int) + 1) = ((k + 1 : Nat) : Int) by omega, at_nat (by simp; omega), List.getElem?_map, List.getElem?_map, List.getElem?_eq_getElem (by omega)]
              rfl
            have sl : ∀ l : Li, slice (liD l) none (some 2) = some (.tup [.int l.x, .int l.y]) := fun l => rfl
            have d1 : ls.getD k default = ls[k] := by simp [List.getD, List.getElem?_eq_getElem (show k < ls.length by omega)]
            have d2 : ls.getD (k + 1) default = ls[k + 1] := by simp [List.getD, List.getElem?_eq_getElem (show k + 1 < ls.length by omega)]
            show _ = Res.ok (D.bool (before (ls.getD k default) (ls.getD (k + 1) default))) S
            rw [d1, d2]
            simp [ev, evO, getv, wipeE, at1, g1, g2, sl, c_ltP, before, -List.map_map]
          have hall2 := all_b (fun k => before (ls.getD k default) (ls.getD (k + 1) default)) (List.range (ls.length - 1))
          have e : tellO (some p) (ls.map Li.ln) = (List.range (ls.length - 1)).all fun k => before (ls.getD k default) (ls.getD (k + 1) default) := by
            have ha : ls.all (isLi p) = true := by
              rw [List.all_map] at h3
              exact h3
            have hp : 2 ≤ p ∧ p ≤ 9 := by simpa [isBetween, dOf] using h1
            have hn : ls.length ≤ 16 := by simpa using h2
            simp only [tellO, lisO_ln, isTell, ha, hp, hn, decide_true, Bool.and_self, Bool.true_and]
            simp
          rw [e]
          refine r_rt rfl ?_
          have c14' : c14 = .cons (.ite (.or (.cons (.not (.val (.isi (.var 0) .tuple))) (.cons (.cmp .ne (.blt .len (.cons (.var 0) .nil)) (.int 2)) (.cons (.not (.val (.call 8 (.cons (.idx (.var 0) (.int 0)) (.cons (.int 2) (.cons (.int 9) .nil)))))) .nil)))) (.cons (.ret (.bl false)) .nil) .nil) _ := rfl
          rw [c14']
          refine (x_nx (env' := [.val d, .un, .un]) (S' := S) ?_).trans ?_
          · simp [exs, ex, evT, evTOr, ev, evs, getv, ht, hlen, at0, hT1, h9, h1]
          refine (x_nx (env' := [.val d, .un, .un]) (S' := S) ?_).trans ?_
          · simp [exs, ex, evT, evTOr, ev, evs, getv, ht2, hlen2, at1, h2', -List.map_map, -List.length_map]
          refine (x_nx (env' := [.val d, .un, .un]) (S' := S) ?_).trans ?_
          · simp only [ex, evT, ev, evs, ↓hc, b_ret, hall, l_some, h3, t_b]; rfl
          refine x_rt ?_
          simp only [ex, ↓hc2, ev, evs, b_ret, hall2, l_some]; rfl
        · have e : tellO (some p) ms = false := by
            unfold tellO
            cases hl : lisO ms with
            | none => rfl
            | some ls =>
              have := ln_lisO hl
              subst this
              rw [List.all_map, Bool.not_eq_true] at h3
              have h3' : ls.all (isLi p) = false := h3
              simp only [isTell, h3', Bool.and_false, Bool.false_and]
          rw [e]
          rw [Bool.not_eq_true] at h3
          refine r_rt rfl ?_
          have c14' : c14 = .cons (.ite (.or (.cons (.not (.val (.isi (.var 0) .tuple))) (.cons (.cmp .ne (.blt .len (.cons (.var 0) .nil)) (.int 2)) (.cons (.not (.val (.call 8 (.cons (.idx (.var 0) (.int 0)) (.cons (.int 2) (.cons (.int 9) .nil)))))) .nil)))) (.cons (.ret (.bl false)) .nil) .nil) _ := rfl
          rw [c14']
          refine (x_nx (env' := [.val d, .un, .un]) (S' := S) ?_).trans ?_
          · simp [exs, ex, evT, evTOr, ev, evs, getv, ht, hlen, at0, hT1, h9, h1]
          refine (x_nx (env' := [.val d, .un, .un]) (S' := S) ?_).trans ?_
          · simp [exs, ex, evT, evTOr, ev, evs, getv, ht2, hlen2, at1, h2', -List.map_map, -List.length_map]
          refine x_rt ?_
          simp only [ex, evT, ev, evs, ↓hc, b_ret, hall, l_some, h3, t_b]; rfl
      · have h2' : (16 : Int) < (ms.length : Nat) := by omega
        have e : tellO (some p) ms = false := by
          unfold tellO
          cases hl : lisO ms with
          | none => rfl
          | some ls =>
            have := ln_lisO hl
            subst this
            have h3' : decide (ls.length ≤ 16) = false := decide_eq_false (by simpa using h2)
            simp only [isTell, h3', Bool.and_false, Bool.false_and]
        rw [e]
        simp [F14, Q7.run, c14, exs, ex, evT, evTOr, ev, evs, getv, ht, hlen, at0, hT1, h9, h1, ht2, hlen2, at1, h2']
  · have e : tellO p ms = false := by
      unfold tellO
      cases p with
      | none => rfl
      | some p =>
        cases hl : lisO ms with
        | none => rfl
        | some ls =>
          have : decide (2 ≤ p ∧ p ≤ 9) = false := decide_eq_false fun h => h1 (by simpa [isBetween, dOf] using h)
          simp only [isTell, this, Bool.false_and]
    rw [e]
    rw [Bool.not_eq_true] at h1
    simp [F14, Q7.run, c14, exs, ex, evT, evTOr, ev, evs, getv, ht, hlen, at0, hT1, h9, h1]
theorem F14_tell (ns : List Int) (p : Int) (ls : List Li) (h : isTell p ls = true) : F14 ns [tellD p ls] = ret (.bool true) := by
  have hn := (tell_parts h).2.1
  have := F14_ret ns (some p) (ls.map Li.ln) (by simp; omega)
  have e : tellO (some p) (ls.map Li.ln) = true := by simp only [tellO, lisO_ln, h]
  rw [e] at this
  have hfd : foundD (some p) (ls.map Li.ln) = tellD p ls := by
    simp only [foundD, tellD, List.map_map]; rfl
  rwa [hfd] at this
end K21

namespace K21
open Q7
def redF (a b : Int) : Int × Int := (a.fdiv (Nat.gcd a.natAbs b.natAbs : Nat), b.fdiv (Nat.gcd a.natAbs b.natAbs : Nat))
def plainF (a b : Int) : Int × Int := if 0 < (redF a b).2 ∨ ((redF a b).2 = 0 ∧ 0 < (redF a b).1) then redF a b else (0 - (redF a b).1, 0 - (redF a b).2)
def dirB (q : Int × Int) : Bool := decide ((-20 ≤ q.1 ∧ q.1 ≤ 20) ∧ (-20 ≤ q.2 ∧ q.2 ≤ 20) ∧ Nat.gcd q.1.natAbs q.2.natAbs = 1)
def redOk (a b : Int) : Bool := decide (a = 0 ∧ b = 0) || (dirB (redF a b) && dirB (plainF a b) && (decide (0 < (plainF a b).2) || decide ((plainF a b).1 = 1 ∧ (plainF a b).2 = 0)) && decide (0 < Nat.gcd a.natAbs b.natAbs) && decide (Nat.gcd a.natAbs b.natAbs ≤ 20))
theorem red_fin : ∀ i : Fin 41, ∀ j : Fin 41, redOk ((i.val : Int) - 20) ((j.val : Int) - 20) = true := by decide +kernel
theorem red_ok {a b : Int} (ha : small a) (hb : small b) (hne : ¬ (a = 0 ∧ b = 0)) : dirB (redF a b) = true ∧ dirB (plainF a b) = true ∧ (0 < (plainF a b).2 ∨ ((plainF a b).1 = 1 ∧ (plainF a b).2 = 0)) ∧ 0 < Nat.gcd a.natAbs b.natAbs ∧ Nat.gcd a.natAbs b.natAbs ≤ 20 := by
  have h := red_fin ⟨(a + 20).toNat, by have := ha.1; have := ha.2; omega⟩ ⟨(b + 20).toNat, by have := hb.1; have := hb.2; omega⟩
  have e1 : (((a + 20).toNat : Nat) : Int) - 20 = a := by have := ha.1; omega
  have e2 : (((b + 20).toNat : Nat) : Int) - 20 = b := by have := hb.1; omega
  simp only [e1, e2] at h
  simp only [redOk, Bool.or_eq_true, Bool.and_eq_true, decide_eq_true_eq] at h
  rcases h with h | h
  · exact absurd h hne
  · exact ⟨h.1.1.1.1, h.1.1.1.2, h.1.1.2, h.1.2, h.2⟩
theorem dirB_parts {a b : Int} (h : dirB (a, b) = true) : small a ∧ small b ∧ ¬ (a = 0 ∧ b = 0) := by
  simp only [dirB, decide_eq_true_eq] at h
  refine ⟨h.1, h.2.1, ?_⟩
  rintro ⟨rfl, rfl⟩
  exact absurd h.2.2 (by decide)
def prD (q : Int × Int) : D := .tup [.int q.1, .int q.2]
theorem F5_ret (ns : List Int) (a b : Int) (ha : small a) (hb : small b) (hne : ¬ (a = 0 ∧ b = 0)) : F5 ns [.int a, .int b] = ret (prD (plainF a b)) := by
  have hT : (T5 ns)[4]? = some (F4 ns) := rfl
  obtain ⟨_, _, _, g0, g1⟩ := red_ok ha hb hne
  have h2 := F4_ret ns a b (small_big hb)
  have hd : divOk ((Nat.gcd a.natAbs b.natAbs : Nat) : Int) = true := div_ok (by omega) (by omega)
  funext S
  refine r_rt rfl ?_
  refine (x_nx (env' := [.val (.int a), .val (.int b), .val (.int (Nat.gcd a.natAbs b.natAbs : Nat))]) (S' := S) (by simp [ex, ev, evs, getv, hT, h2, store1])).trans ?_
  refine (x_nx (env' := [.val (.int (redF a b).1), .val (.int (redF a b).2), .val (.int (Nat.gcd a.natAbs b.natAbs : Nat))]) (S' := S) (by simp [ex, ev, evs, getv, o_div hd, storePar, store1, redF])).trans ?_
  unfold plainF
  generalize redF a b = q
  obtain ⟨c, d⟩ := q
  by_cases h1 : 0 < d
  · simp [exs, ex, ev, evs, evT, evTOr, evTAnd, getv, h1, sizeOk, prD]
  · by_cases h2 : d = 0
    · by_cases h3 : 0 < c
      · simp [exs, ex, ev, evs, evT, evTOr, evTAnd, getv, h1, h2, h3, sizeOk, prD]
      · simp [exs, ex, ev, evs, evT, evTOr, evTAnd, getv, h1, h2, h3, sizeOk, prD]
    · simp [exs, ex, ev, evs, evT, evTOr, evTAnd, getv, h1, h2, sizeOk, prD]
theorem F6_ok (ns : List Int) (s : Bool) {n : Nat} {S : Sta} (h : St ns n S) (hn : n ≤ 90000) : Ok (F6 ns [.scr, .ref 0, .bool s]) S fun d S' => ∃ a b, d = prD (a, b) ∧ dirB (a, b) = true ∧ St ns (n + 2) S' := by
  have hT1 : (T6 ns)[1]? = some (drawF ns) := rfl
  have hT2 : (T6 ns)[4]? = some (F4 ns) := rfl
  have hT3 : (T6 ns)[5]? = some (F5 ns) := rfl
  refine k_run rfl (k_seq ?_)
  simp only [ex, evs, ev, k_bind, List.map, List.replicate, List.cons_append, List.nil_append, getv, List.getElem?_cons_zero, List.getElem?_cons_succ, l_some, k_ret, hT1]
  refine k_draw h (by omega) (by decide) (by decide) fun r S1 r0 r1 h1 => ?_
  simp only [o_sub, l_some, k_ret]
  refine k_draw h1 (by omega) (by decide) (by decide) fun r' S2 r0' r1' h2 => ?_
  simp only [o_sub, l_some, k_ret]
  have fin : ∀ a b : Int, small a → small b → ¬ (a = 0 ∧ b = 0) → Ok (exs (T6 ns) fuel (.cons (.set 3 (.call 4 (.cons (.var 4) (.cons (.var 5) .nil)))) (.cons (.ret (.ite (.val (.var 2)) (.tup (.cons (.bin .fdiv (.var 4) (.var 3)) (.cons (.bin .fdiv (.var 5) (.var 3)) .nil))) (.call 5 (.cons (.var 4) (.cons (.var 5) .nil))))) .nil)) [.val .scr, .val (.ref 0), .val (.bool s), .un, .val (.int a), .val (.int b)]) S2 fun e S' => ∃ a b, endD e = prD (a, b) ∧ dirB (a, b) = true ∧ St ns (n + 2) S' := by
    intro a b ha hb hne
    obtain ⟨q1, q2, q3, g0, g1⟩ := red_ok ha hb hne
    have h2' := F4_ret ns a b (small_big hb)
    have h3' := F5_ret ns a b ha hb hne
    have hd : divOk ((Nat.gcd a.natAbs b.natAbs : Nat) : Int) = true := div_ok (by omega) (by omega)
    cases s with
    | true =>
      refine k_eq (a := .rt (prD (redF a b))) (S' := S2) ?_ ⟨_, _, rfl, q1, h2⟩
      simp [exs, ex, ev, evs, evT, getv, hT2, h2', o_div hd, store1, sizeOk, prD, redF]
    | false =>
      refine k_eq (a := .rt (prD (plainF a b))) (S' := S2) ?_ ⟨_, _, rfl, q2, h2⟩
      simp [exs, ex, ev, evs, evT, getv, hT2, hT3, h2', h3', store1]
  refine k_eq (a := .nx [.val .scr, .val (.ref 0), .val (.bool s), .un, .val (.int (r - 3)), .val (.int (r' - 3))]) (S' := S2) rfl ?_
  refine k_seq ?_
  by_cases hz : r - 3 = 0 ∧ r' - 3 = 0
  · refine k_eq (a := .nx [.val .scr, .val (.ref 0), .val (.bool s), .un, .val (.int 1), .val (.int (r' - 3))]) (S' := S2) ?_ (fin 1 (r' - 3) ⟨by omega, by omega⟩ ⟨by omega, by omega⟩ (by omega))
    simp [exs, ex, ev, evT, evTAnd, getv, hz.1, hz.2, store1]
  · refine k_eq (a := .nx [.val .scr, .val (.ref 0), .val (.bool s), .un, .val (.int (r - 3)), .val (.int (r' - 3))]) (S' := S2) ?_ (fin (r - 3) (r' - 3) ⟨by omega, by omega⟩ ⟨by omega, by omega⟩ hz)
    by_cases hz1 : r - 3 = 0
    · have hz2 : ¬ r' - 3 = 0 := fun e => hz ⟨hz1, e⟩
      simp [exs, ex, ev, evT, evTAnd, getv, hz1, hz2]
    · simp [exs, ex, ev, evT, evTAnd, getv, hz1]
theorem F2_ok (ns : List Int) (ds : List D) (h0 : ds ≠ []) (h1 : ds.length ≤ 1000000) {n : Nat} {S : Sta} (h : St ns n S) (hn : n ≤ 90000) : Ok (F2 ns [.scr, .ref 0, .list ds]) S fun d S' => d ∈ ds ∧ St ns (n + 1) S' := by
  have hT1 : (T2 ns)[1]? = some (drawF ns) := rfl
  have hlen : blt .len [.list ds] = some (.int ds.length) := rfl
  have hp : 0 < ds.length := List.length_pos_iff.mpr h0
  refine k_run rfl (k_seq ?_)
  simp only [ex, evs, ev, k_bind, List.map, List.replicate, List.cons_append, List.nil_append, getv, List.getElem?_cons_zero, List.getElem?_cons_succ, l_some, k_ret, hT1, hlen]
  refine k_draw h (by omega) (by omega) (by omega) fun r S1 r0 r1 h1' => ?_
  have hat : getitem (.list ds) (.int r) = some ds[r.toNat] := by
    show L2.atI ds r = _
    rw [at_in r0 r1]
    exact List.getElem?_eq_getElem (by omega)
  simp only [hat, l_some, k_ret]
  exact ⟨List.getElem_mem _, h1'⟩
/-! spots -/
def spotD (q : Int × Int) : D := .tup [.int q.1, .int q.2]
def spotB (q : Int × Int) : Prop := (-9 ≤ q.1 ∧ q.1 ≤ 9) ∧ (-9 ≤ q.2 ∧ q.2 ≤ 9)
theorem F3_ok (ns : List Int) (p : Int) (hp0 : 0 ≤ p) (hp1 : p ≤ 9) {n : Nat} {S : Sta} (h : St ns n S) (hn : n ≤ 80000) : Ok (F3 ns [.scr, .ref 0, .int p]) S fun d S' => ∃ qs : List (Int × Int), d = .list (qs.map spotD) ∧ (qs.length : Int) = p ∧ (∀ q ∈ qs, spotB q) ∧ St ns (n + 19) S' := by
  have hT1 : (T3 ns)[1]? = some (drawF ns) := rfl
  have hT6 : (T3 ns)[2]? = some (F2 ns) := rfl
  have hz3 : ∀ a b c : D, sizeOk [a, b, c].length = true := fun _ _ _ => rfl
  refine k_run rfl (k_seq ?_)
  simp only [ex, evs, ev, k_bind, List.map, List.replicate, List.cons_append, List.nil_append, getv, List.getElem?_cons_zero, List.getElem?_cons_succ, l_some, k_ret, hT6, hz3, if_true]
  refine k_mono (F2_ok ns _ (by simp) (by decide) h (by omega)) ?_
  rintro d S1 ⟨hd, h1⟩
  have hf : ∃ far : Int, d = .int far ∧ 2 ≤ far ∧ far ≤ 9 := by
    simp only [List.mem_cons, List.not_mem_nil, or_false] at hd
    rcases hd with rfl | rfl | rfl
    · exact ⟨2, rfl, by decide, by decide⟩
    · exact ⟨4, rfl, by decide, by decide⟩
    · exact ⟨9, rfl, by decide, by decide⟩
  obtain ⟨far, rfl, f0, f1⟩ := hf
  refine k_eq (a := .nx [.val .scr, .val (.ref 0), .val (.int p), .val (.int far), .un, .un]) (S' := S1) rfl ?_
  refine k_seq (k_eq (a := .nx [.val .scr, .val (.ref 0), .val (.int p), .val (.int far), .own [], .un]) (S' := S1) rfl ?_)
  refine k_seq ?_
  have hr : rng1O (.int p) = some (rangeD 0 p) := by
    have : rngOk 0 p = true := by simp only [rngOk, Bool.and_eq_true, decide_eq_true_eq]; omega
    simp only [rng1O, this, if_true]
  have hrl : (rangeD 0 p).length = p.toNat := by simp [rangeD]
  simp only [ex, evI, ev, k_bind, getv, List.getElem?_cons_zero, List.getElem?_cons_succ, l_some, k_ret, hr]
  have hm : binop .mul (.int 2) (.int far) = some (.int (2 * far)) := o_mul (mul_sm (by decide) (by omega))
  refine k_for (fun k env S => ∃ (e : Slot) (qs : List (Int × Int)), env = [.val .scr, .val (.ref 0), .val (.int p), .val (.int far), .own (qs.map spotD), e] ∧ (∀ ds, e ≠ .own ds) ∧ qs.length = k ∧ k ≤ 9 + 0 * k ∧ (∀ q ∈ qs, spotB q) ∧ St ns (n + 1 + 2 * k) S) ⟨.un, [], rfl, by simp, rfl, by omega, by simp, h1⟩ ?_ ?_
  · rintro k d env S hd ⟨e, qs, rfl, he, hk, hk9, hq, hS⟩
    have hkp : k < (rangeD 0 p).length := (List.getElem?_eq_some_iff.mp hd).1
    rw [hrl] at hkp
    have hu : unpack (.name 5) d [.val .scr, .val (.ref 0), .val (.int p), .val (.int far), .own (qs.map spotD), e] = some [.val .scr, .val (.ref 0), .val (.int p), .val (.int far), .own (qs.map spotD), .val d] := by
      cases e with
      | own ds => exact absurd rfl (he ds)
      | un => rfl
      | val v => rfl
    simp only [hu]
    refine k_seq ?_
    have hz2 : ∀ a b : D, sizeOk [a, b].length = true := fun _ _ => rfl
    simp only [ex, evs, ev, k_bind, getv, List.getElem?_cons_zero, List.getElem?_cons_succ, l_some, k_ret, hT1, hm, o_add]
    refine k_draw hS (by omega) (by omega) (by omega) fun r S2 r0 r1 h2 => ?_
    simp only [o_sub, l_some, k_ret]
    refine k_draw h2 (by omega) (by omega) (by omega) fun r' S3 r0' r1' h3 => ?_
    have hz : sizeOk (qs.map spotD).length = true := decide_eq_true (by simp; omega)
    simp only [o_sub, l_some, k_ret, hz2, hz, if_true]
    refine k_ret.mpr ?_
    refine ⟨_, rfl, .val d, qs ++ [(r - far, r' - far)], by simp [spotD], by simp, by simp [hk], by omega, ?_, h3.mono (by omega)⟩
    intro q hq'
    rcases List.mem_append.mp hq' with hq' | hq'
    · exact hq q hq'
    · rw [List.mem_singleton.mp hq']
      exact ⟨⟨by show _ ≤ r - far; omega, by show r - far ≤ _; omega⟩, ⟨by show _ ≤ r' - far; omega, by show r' - far ≤ _; omega⟩⟩
  · rintro env S ⟨e, qs, rfl, he, hk, hk9, hq, hS⟩
    rw [hrl] at hk hS
    refine k_eq (a := .rt (.list (qs.map spotD))) (S' := S) rfl ?_
    exact ⟨qs, rfl, by omega, hq, hS.mono (by omega)⟩
abbrev env5 (sp : List D) (p often odd : Int) (ls : List Li) (e4 e9 e10 e11 e12 e13 e14 e15 e16 e17 e18 : Slot) : Env :=
  [.val .scr, .val (.ref 0), .val (.list sp), .val (.int 9), e4, .val (.int p), .own (ls.map liD), .val (.int often), .val (.int odd), e9, e10, e11, e12, e13, e14, e15, e16, e17, e18]
/-- lines drawn before the pair (i, j) -/
structure Good (p i j : Int) (ls : List Li) : Prop where
  lines : ∀ l ∈ ls, isLi p l = true
  few : ls.length ≤ 9
  old : ∀ l ∈ ls, l.x < i ∨ (l.x = i ∧ l.y < j)
  asc : ls.Pairwise fun l m => before l m = true
theorem Good.next {p i j : Int} {ls : List Li} (h : Good p i j ls) : Good p i (j + 1) ls := ⟨h.lines, h.few, fun l hl => by have := h.old l hl; omega, h.asc⟩
theorem Good.row {p i j : Int} {ls : List Li} (h : Good p i j ls) (k : Int) : Good p (i + 1) k ls := ⟨h.lines, h.few, fun l hl => by have := h.old l hl; omega, h.asc⟩
theorem Good.add {p i j a b : Int} {s : Bool} {ls : List Li} (h : Good p i j ls) (hn : ls.length < 9) (hl : isLi p ⟨i, j, a, b, s⟩ = true) : Good p i (j + 1) (ls ++ [⟨i, j, a, b, s⟩]) where
  lines l hm := by
    rcases List.mem_append.mp hm with hm | hm
    · exact h.lines l hm
    · rw [List.mem_singleton.mp hm]; exact hl
  few := by simp; omega
  old l hm := by
    rcases List.mem_append.mp hm with hm | hm
    · have := h.old l hm; omega
    · rw [List.mem_singleton.mp hm]
      exact .inr ⟨rfl, by show j < j + 1; omega⟩
  asc := by
    rw [List.pairwise_append]
    refine ⟨h.asc, by simp, fun l hm m hm' => ?_⟩
    rw [List.mem_singleton.mp hm']
    exact decide_eq_true (h.old l hm)
theorem Good.tell {p i j : Int} {ls : List Li} (h : Good p i j ls) (hp : 2 ≤ p ∧ p ≤ 9) : isTell p ls = true := by
  simp only [isTell, Bool.and_eq_true, decide_eq_true_eq, List.all_eq_true]
  refine ⟨⟨⟨hp, by have := h.few; omega⟩, h.lines⟩, fun k hk => ?_⟩
  have hk' : k + 1 < ls.length := by have := List.mem_range.mp hk; omega
  have d1 : ls.getD k default = ls[k] := by simp [List.getD, List.getElem?_eq_getElem (show k < ls.length by omega)]
  have d2 : ls.getD (k + 1) default = ls[k + 1] := by simp [List.getD, List.getElem?_eq_getElem hk']
  rw [d1, d2]
  exact List.pairwise_iff_getElem.mp h.asc k (k + 1) (by omega) hk' (by omega)
theorem li_of {p i j a b : Int} {s : Bool} (hi : 0 ≤ i) (hij : i + 1 ≤ j) (hj : j ≤ p - 1) (hd : dirB (a, b) = true) (hs : s = true ∨ 0 < b ∨ (a = 1 ∧ b = 0)) : isLi p ⟨i, j, a, b, s⟩ = true := by
  have h1 : decide (0 ≤ i ∧ i ≤ p - 1 ∧ i + 1 ≤ j ∧ j ≤ p - 1) = true := decide_eq_true ⟨hi, by omega, hij, hj⟩
  have h2 : (s || decide (0 < b) || decide (a = 1 ∧ b = 0)) = true := by
    rcases hs with rfl | hs | hs
    · rfl
    · rw [decide_eq_true hs]; simp
    · rw [decide_eq_true hs]; simp
  unfold isLi
  simp only [h1, h2, Bool.true_and, Bool.and_true]
  exact hd
theorem dirB_neg {a b : Int} (h : dirB (a, b) = true) : dirB (0 - a, 0 - b) = true := by
  simp only [dirB, decide_eq_true_eq] at h ⊢
  have e1 : (0 - a).natAbs = a.natAbs := by omega
  have e2 : (0 - b).natAbs = b.natAbs := by omega
  rw [e1, e2]
  exact ⟨by omega, by omega, h.2.2⟩
/-- the last part of the body: from a and b -/
def tail5 : CSs := (.cons (.set 11 (.call 4 (.cons (.var 13) (.cons (.var 14) .nil)))) (.cons (.set 12 (.ite (.val (.var 10)) (.tup (.cons (.bin .fdiv (.var 13) (.var 11)) (.cons (.bin .fdiv (.var 14) (.var 11)) .nil))) (.call 5 (.cons (.var 13) (.cons (.var 14) .nil))))) (.cons (.ite (.and (.cons (.val (.var 10)) (.cons (.cmp .eq (.var 8) (.int 1)) (.cons (.cmp .eq (.call 1 (.cons (.var 0) (.cons (.var 1) (.cons (.int 5) .nil)))) (.int 0)) .nil)))) (.cons (.set 12 (.tup (.cons (.bin .sub (.int 0) (.idx (.var 12) (.int 0))) (.cons (.bin .sub (.int 0) (.idx (.var 12) (.int 1))) .nil)))) .nil) .nil) (.cons (.app 6 (.tup (.cons (.var 4) (.cons (.var 9) (.cons (.var 12) (.cons (.var 10) .nil)))))) .nil))))
/-- what an inner turn leaves -/
def Left (ns : List Int) (sp : List D) (p often odd i j : Int) (m : Nat) (e : End) (S' : Sta) : Prop := ∃ ls e9 e10 e11 e12 e13 e14 e15 e16 e17 e18, e = .nx (env5 sp p often odd ls (.val (.int i)) e9 e10 e11 e12 e13 e14 e15 e16 e17 e18) ∧ (nown e9 ∧ nown e10 ∧ nown e11 ∧ nown e12 ∧ nown e13 ∧ nown e14 ∧ nown e15 ∧ nown e16 ∧ nown e17 ∧ nown e18) ∧ Good p i j ls ∧ St ns m S'
theorem tail_ok (ns : List Int) (sp : List D) (p often odd i j a b : Int) (s : Bool) (ls : List Li) (e11 e12 e15 e16 e17 e18 : Slot) (hi : 0 ≤ i) (hij : i + 1 ≤ j) (hj : j ≤ p - 1) (hp : p ≤ 9)
    (ha : small a) (hb : small b) (hne : ¬ (a = 0 ∧ b = 0)) (hg : Good p i j ls) (hl : ls.length < 9) (h15 : nown e15) (h16 : nown e16) (h17 : nown e17) (h18 : nown e18) {n : Nat} {S : Sta} (hS : St ns n S) (hn : n ≤ 90000) :
    Ok (exs (T7 ns) fuel tail5 (env5 sp p often odd ls (.val (.int i)) (.val (.int j)) (.val (.bool s)) e11 e12 (.val (.int a)) (.val (.int b)) e15 e16 e17 e18)) S (Left ns sp p often odd i (j + 1) (n + 1)) := by
  have hT1 : (T7 ns)[1]? = some (drawF ns) := rfl
  have hT2 : (T7 ns)[4]? = some (F4 ns) := rfl
  have hT3 : (T7 ns)[5]? = some (F5 ns) := rfl
  obtain ⟨q1, q2, q3, g0, g1⟩ := red_ok ha hb hne
  have h2' := F4_ret ns a b (small_big hb)
  have h3' := F5_ret ns a b ha hb hne
  have hd : divOk ((Nat.gcd a.natAbs b.natAbs : Nat) : Int) = true := div_ok (by omega) (by omega)
  -- the append
  have app : ∀ (c d : Int) (g : Slot) (n' : Nat) (S' : Sta), isLi p ⟨i, j, c, d, s⟩ = true → n' ≤ n + 1 → St ns n' S' → nown g → Ok (exs (T7 ns) fuel (.cons (.app 6 (.tup (.cons (.var 4) (.cons (.var 9) (.cons (.var 12) (.cons (.var 10) .nil)))))) .nil) (env5 sp p often odd ls (.val (.int i)) (.val (.int j)) (.val (.bool s)) g (.val (prD (c, d))) (.val (.int a)) (.val (.int b)) e15 e16 e17 e18)) S' (Left ns sp p often odd i (j + 1) (n + 1)) := by
    intro c d g n' S' hli hn' hS' hg'
    refine k_eq (a := .nx (env5 sp p often odd (ls ++ [⟨i, j, c, d, s⟩]) (.val (.int i)) (.val (.int j)) (.val (.bool s)) g (.val (prD (c, d))) (.val (.int a)) (.val (.int b)) e15 e16 e17 e18)) (S' := S') ?_ ?_
    · have hz : sizeOk (ls.map liD).length = true := decide_eq_true (by simp; omega)
      have hz4 : ∀ a b c d : D, sizeOk [a, b, c, d].length = true := fun _ _ _ _ => rfl
      simp only [exs, ex, ev, evs, getv, List.getElem?_cons_zero, List.getElem?_cons_succ, l_some, b_ret, hz, hz4, if_true, List.set_cons_succ, List.set_cons_zero]
      have hmap : (ls ++ [(⟨i, j, c, d, s⟩ : Li)]).map liD = ls.map liD ++ [.tup [.int i, .int j, prD (c, d), .bool s]] := by rw [List.map_append]; rfl
      rw [← hmap]
      rfl
    · exact ⟨_, _, _, _, _, _, _, _, _, _, _, rfl, ⟨nown_val _, nown_val _, hg', nown_val _, nown_val _, nown_val _, h15, h16, h17, h18⟩, hg.add hl hli, hS'.mono hn'⟩
  unfold tail5
  refine k_seq (k_eq (a := .nx (env5 sp p often odd ls (.val (.int i)) (.val (.int j)) (.val (.bool s)) (.val (.int (Nat.gcd a.natAbs b.natAbs : Nat))) e12 (.val (.int a)) (.val (.int b)) e15 e16 e17 e18)) (S' := S) ?_ ?_)
  · simp [ex, ev, evs, getv, hT2, h2', store1]
  cases s with
  | false =>
    refine k_seq (k_eq (a := .nx (env5 sp p often odd ls (.val (.int i)) (.val (.int j)) (.val (.bool false)) (.val (.int (Nat.gcd a.natAbs b.natAbs : Nat))) (.val (prD (plainF a b))) (.val (.int a)) (.val (.int b)) e15 e16 e17 e18)) (S' := S) ?_ ?_)
    · simp [ex, ev, evs, evT, getv, hT3, h3', store1]
    refine k_seq (k_eq (a := .nx (env5 sp p often odd ls (.val (.int i)) (.val (.int j)) (.val (.bool false)) (.val (.int (Nat.gcd a.natAbs b.natAbs : Nat))) (.val (prD (plainF a b))) (.val (.int a)) (.val (.int b)) e15 e16 e17 e18)) (S' := S) ?_ ?_)
    · simp [exs, ex, ev, evs, evT, evTAnd, getv]
    exact app _ _ _ n S (li_of hi hij hj q2 (.inr q3)) (by omega) hS (nown_val _)
  | true =>
    refine k_seq (k_eq (a := .nx (env5 sp p often odd ls (.val (.int i)) (.val (.int j)) (.val (.bool true)) (.val (.int (Nat.gcd a.natAbs b.natAbs : Nat))) (.val (prD (redF a b))) (.val (.int a)) (.val (.int b)) e15 e16 e17 e18)) (S' := S) ?_ ?_)
    · simp [ex, ev, evs, evT, getv, o_div hd, store1, sizeOk, prD, redF]
    by_cases ho : odd = 1
    · refine k_seq ?_
      subst ho
      simp only [ex, evT, evTAnd, ev, evs, k_bind, getv, List.getElem?_cons_zero, List.getElem?_cons_succ, l_some, k_ret, t_b, c_eqI, hT1, if_true, decide_true]
      refine k_draw hS (by omega) (by decide) (by decide) fun r S1 r0 r1 h1 => ?_
      simp only [c_eqI, l_some, k_ret]
      by_cases hr : r = 0
      · refine k_eq (a := .nx (env5 sp p often 1 ls (.val (.int i)) (.val (.int j)) (.val (.bool true)) (.val (.int (Nat.gcd a.natAbs b.natAbs : Nat))) (.val (prD (0 - (redF a b).1, 0 - (redF a b).2))) (.val (.int a)) (.val (.int b)) e15 e16 e17 e18)) (S' := S1) ?_ ?_
        · have at0 : getitem (prD (redF a b)) (.int 0) = some (.int (redF a b).1) := rfl
          have at1 : getitem (prD (redF a b)) (.int 1) = some (.int (redF a b).2) := rfl
          simp [hr, exs, ex, ev, evs, getv, at0, at1, store1, sizeOk]
          rfl
        · exact app _ _ _ (n + 1) S1 (li_of hi hij hj (dirB_neg q1) (.inl rfl)) (by omega) h1 (nown_val _)
      · refine k_eq (a := .nx (env5 sp p often 1 ls (.val (.int i)) (.val (.int j)) (.val (.bool true)) (.val (.int (Nat.gcd a.natAbs b.natAbs : Nat))) (.val (prD (redF a b))) (.val (.int a)) (.val (.int b)) e15 e16 e17 e18)) (S' := S1) ?_ ?_
        · simp [hr, exs]
        · exact app _ _ _ (n + 1) S1 (li_of hi hij hj q1 (.inl rfl)) (by omega) h1 (nown_val _)
    · refine k_seq (k_eq (a := .nx (env5 sp p often odd ls (.val (.int i)) (.val (.int j)) (.val (.bool true)) (.val (.int (Nat.gcd a.natAbs b.natAbs : Nat))) (.val (prD (redF a b))) (.val (.int a)) (.val (.int b)) e15 e16 e17 e18)) (S' := S) ?_ ?_)
      · simp [exs, ex, ev, evs, evT, evTAnd, getv, ho]
      exact app _ _ _ n S (li_of hi hij hj q1 (.inl rfl)) (by omega) hS (nown_val _)
/-- one pair -/
def turn5 : CSs := (.cons (.ite (.and (.cons (.cmp .lt (.blt .len (.cons (.bv 6) .nil)) (.var 3)) (.cons (.cmp .lt (.call 1 (.cons (.var 0) (.cons (.var 1) (.cons (.int 6) .nil)))) (.var 7)) .nil))) (.cons (.set 10 (.cmp .eq (.call 1 (.cons (.var 0) (.cons (.var 1) (.cons (.int 2) .nil)))) (.int 0))) (.cons (.par [(false, .tup (.cons (.name 15) (.cons (.name 16) .nil))), (false, .tup (.cons (.name 17) (.cons (.name 18) .nil)))] (.cons (.idx (.var 2) (.var 4)) (.cons (.idx (.var 2) (.var 9)) .nil))) (.cons (.par [(false, .name 13), (false, .name 14)] (.cons (.bin .sub (.var 17) (.var 15)) (.cons (.bin .sub (.var 18) (.var 16)) .nil))) (.cons (.ite (.or (.cons (.cmp .eq (.tup (.cons (.var 13) (.cons (.var 14) .nil))) (.tup (.cons (.int 0) (.cons (.int 0) .nil)))) (.cons (.and (.cons (.cmp .eq (.var 8) (.int 0)) (.cons (.cmp .eq (.call 1 (.cons (.var 0) (.cons (.var 1) (.cons (.int 4) .nil)))) (.int 0)) .nil))) .nil))) (.cons (.unp (.tup (.cons (.name 13) (.cons (.name 14) .nil))) (.call 6 (.cons (.var 0) (.cons (.var 1) (.cons (.var 10) .nil))))) .nil) .nil) tail5)))) .nil) .nil)
theorem turn_ok (ns : List Int) (qs : List (Int × Int)) (hq : ∀ q ∈ qs, spotB q) (p often odd i j : Int) (hqp : (qs.length : Int) = p) (ls : List Li) (e10 e11 e12 e13 e14 e15 e16 e17 e18 : Slot) (hi : 0 ≤ i) (hij : i + 1 ≤ j) (hj : j ≤ p - 1) (hp : p ≤ 9)
    (hg : Good p i j ls) (h10 : nown e10) (h11 : nown e11) (h12 : nown e12) (h13 : nown e13) (h14 : nown e14) (h15 : nown e15) (h16 : nown e16) (h17 : nown e17) (h18 : nown e18) {n : Nat} {S : Sta} (hS : St ns n S) (hn : n ≤ 80000) :
    Ok (exs (T7 ns) fuel turn5 (env5 (qs.map spotD) p often odd ls (.val (.int i)) (.val (.int j)) e10 e11 e12 e13 e14 e15 e16 e17 e18)) S (Left ns (qs.map spotD) p often odd i (j + 1) (n + 6)) := by
  have hT1 : (T7 ns)[1]? = some (drawF ns) := rfl
  have hT4 : (T7 ns)[6]? = some (F6 ns) := rfl
  have hlen : blt .len [.list (ls.map liD)] = some (.int (ls.length : Nat)) := by simp [blt]
  have skip : ∀ S' n', n' ≤ n + 6 → St ns n' S' → Left ns (qs.map spotD) p often odd i (j + 1) (n + 6) (.nx (env5 (qs.map spotD) p often odd ls (.val (.int i)) (.val (.int j)) e10 e11 e12 e13 e14 e15 e16 e17 e18)) S' := fun S' n' hn' hS' =>
    ⟨_, _, _, _, _, _, _, _, _, _, _, rfl, ⟨nown_val _, h10, h11, h12, h13, h14, h15, h16, h17, h18⟩, hg.next, hS'.mono hn'⟩
  unfold turn5
  refine k_seq ?_
  by_cases hl : ls.length < 9
  · have hl' : ((ls.length : Nat) : Int) < 9 := by omega
    simp only [ex, evT, evTAnd, ev, evs, k_bind, getv, getb, List.getElem?_cons_zero, List.getElem?_cons_succ, l_some, k_ret, hlen, c_lt, hT1, decide_eq_true hl', if_true]
    refine k_draw hS (by omega) (by decide) (by decide) fun r S1 r0 r1 h1 => ?_
    simp only [c_lt, l_some, k_ret]
    by_cases hr : r < often
    · simp only [decide_eq_true hr, if_true]
      refine k_mono ?_ (fun e S' h => ?_) (P := Left ns (qs.map spotD) p often odd i (j + 1) (n + 6))
      · refine k_seq ?_
        simp only [ex, evT, evTAnd, ev, evs, k_bind, getv, List.getElem?_cons_zero, List.getElem?_cons_succ, l_some, k_ret, hT1]
        refine k_draw h1 (by omega) (by decide) (by decide) fun r2 S2 _ _ h2 => ?_
        simp only [c_eqI, Option.map_some, l_some, k_ret]
        generalize decide (r2 = 0) = s
        refine k_eq (a := .nx (env5 (qs.map spotD) p often odd ls (.val (.int i)) (.val (.int j)) (.val (.bool s)) e11 e12 e13 e14 e15 e16 e17 e18)) (S' := S2) rfl ?_
        -- the two spots
        have hi' : i.toNat < qs.length := by omega
        have hj' : j.toNat < qs.length := by omega
        have b1 := hq _ (List.getElem_mem hi')
        have b2 := hq _ (List.getElem_mem hj')
        have g1 : getitem (.list (qs.map spotD)) (.int i) = some (spotD qs[i.toNat]) := by
          show L2.atI _ _ = _
          rw [at_in (by omega) (by simp; omega), List.getElem?_map, List.getElem?_eq_getElem hi']; rfl
        have g2 : getitem (.list (qs.map spotD)) (.int j) = some (spotD qs[j.toNat]) := by
          show L2.atI _ _ = _
          rw [at_in (by omega) (by simp; omega), List.getElem?_map, List.getElem?_eq_getElem hj']; rfl
        generalize qs[i.toNat] = q1 at g1 b1
        generalize qs[j.toNat] = q2 at g2 b2
        obtain ⟨x, y⟩ := q1
        obtain ⟨u, v⟩ := q2
        refine k_seq (k_eq (a := .nx (env5 (qs.map spotD) p often odd ls (.val (.int i)) (.val (.int j)) (.val (.bool s)) e11 e12 e13 e14 (.val (.int x)) (.val (.int y)) (.val (.int u)) (.val (.int v)))) (S' := S2) ?_ ?_)
        · have u1 := un_pair (i := 15) (j := 16) (a := .int x) (b := .int y) (env := env5 (qs.map spotD) p often odd ls (.val (.int i)) (.val (.int j)) (.val (.bool s)) e11 e12 e13 e14 e15 e16 e17 e18) rfl h15 rfl h16
          have u2 := un_pair (i := 17) (j := 18) (a := .int u) (b := .int v) (env := env5 (qs.map spotD) p often odd ls (.val (.int i)) (.val (.int j)) (.val (.bool s)) e11 e12 e13 e14 (.val (.int x)) (.val (.int y)) e17 e18) rfl h17 rfl h18
          have u1' : store1 (false, .tup (.cons (.name 15) (.cons (.name 16) .nil))) (spotD (x, y)) (env5 (qs.map spotD) p often odd ls (.val (.int i)) (.val (.int j)) (.val (.bool s)) e11 e12 e13 e14 e15 e16 e17 e18) = some (env5 (qs.map spotD) p often odd ls (.val (.int i)) (.val (.int j)) (.val (.bool s)) e11 e12 e13 e14 (.val (.int x)) (.val (.int y)) e17 e18) := u1
          have u2' : store1 (false, .tup (.cons (.name 17) (.cons (.name 18) .nil))) (spotD (u, v)) (env5 (qs.map spotD) p often odd ls (.val (.int i)) (.val (.int j)) (.val (.bool s)) e11 e12 e13 e14 (.val (.int x)) (.val (.int y)) e17 e18) = some (env5 (qs.map spotD) p often odd ls (.val (.int i)) (.val (.int j)) (.val (.bool s)) e11 e12 e13 e14 (.val (.int x)) (.val (.int y)) (.val (.int u)) (.val (.int v))) := u2
          simp only [ex, evs, ev, getv, List.getElem?_cons_zero, List.getElem?_cons_succ, l_some, b_ret, g1, g2, storePar, u1', u2']
          rfl
        refine k_seq (k_eq (a := .nx (env5 (qs.map spotD) p often odd ls (.val (.int i)) (.val (.int j)) (.val (.bool s)) e11 e12 (.val (.int (u - x))) (.val (.int (v - y))) (.val (.int x)) (.val (.int y)) (.val (.int u)) (.val (.int v)))) (S' := S2) rfl ?_)
        have sa : small (u - x) := ⟨by have := b1.1; have := b2.1; simp only at *; omega, by have := b1.1; have := b2.1; simp only at *; omega⟩
        have sb : small (v - y) := ⟨by have := b1.2; have := b2.2; simp only at *; omega, by have := b1.2; have := b2.2; simp only at *; omega⟩
        have hz2 : ∀ a b : D, sizeOk [a, b].length = true := fun _ _ => rfl
        -- a drawn direction
        have dirn : ∀ n' S', n' ≤ n + 3 → St ns n' S' → Ok (exs (T7 ns) fuel (.cons (.unp (.tup (.cons (.name 13) (.cons (.name 14) .nil))) (.call 6 (.cons (.var 0) (.cons (.var 1) (.cons (.var 10) .nil))))) .nil) (env5 (qs.map spotD) p often odd ls (.val (.int i)) (.val (.int j)) (.val (.bool s)) e11 e12 (.val (.int (u - x))) (.val (.int (v - y))) (.val (.int x)) (.val (.int y)) (.val (.int u)) (.val (.int v)))) S' (fun e S' => Ok (match e with | .nx env' => exs (T7 ns) fuel tail5 env' | .rt d => ret (.rt d)) S' (Left ns (qs.map spotD) p often odd i (j + 1) (n + 6))) := by
          intro n' S' hn' hS'
          refine k_seq ?_
          simp only [ex, ev, evs, k_bind, getv, List.getElem?_cons_zero, List.getElem?_cons_succ, l_some, k_ret, hT4]
          refine k_mono (F6_ok ns s hS' (by omega)) ?_
          rintro d S3 ⟨a, b, rfl, hd, h3⟩
          obtain ⟨ha, hb, hne⟩ := dirB_parts hd
          refine k_eq (a := .nx (env5 (qs.map spotD) p often odd ls (.val (.int i)) (.val (.int j)) (.val (.bool s)) e11 e12 (.val (.int a)) (.val (.int b)) (.val (.int x)) (.val (.int y)) (.val (.int u)) (.val (.int v)))) (S' := S3) rfl ?_
          refine k_ret.mpr ?_
          refine k_mono (tail_ok ns (qs.map spotD) p often odd i j a b s ls e11 e12 _ _ _ _ hi hij hj hp ha hb hne hg hl (nown_val _) (nown_val _) (nown_val _) (nown_val _) h3 (by omega)) ?_
          rintro e S4 ⟨ls', f9, f10, f11, f12, f13, f14, f15, f16, f17, f18, he, hh, hg', h4⟩
          exact ⟨ls', f9, f10, f11, f12, f13, f14, f15, f16, f17, f18, he, hh, hg', h4.mono (by omega)⟩
        have keep : ¬ (u - x = 0 ∧ v - y = 0) → ∀ n' S', n' ≤ n + 3 → St ns n' S' → Ok (exs (T7 ns) fuel tail5 (env5 (qs.map spotD) p often odd ls (.val (.int i)) (.val (.int j)) (.val (.bool s)) e11 e12 (.val (.int (u - x))) (.val (.int (v - y))) (.val (.int x)) (.val (.int y)) (.val (.int u)) (.val (.int v)))) S' (Left ns (qs.map spotD) p often odd i (j + 1) (n + 6)) := by
          intro hne n' S' hn' hS'
          refine k_mono (tail_ok ns (qs.map spotD) p often odd i j (u - x) (v - y) s ls e11 e12 _ _ _ _ hi hij hj hp sa sb hne hg hl (nown_val _) (nown_val _) (nown_val _) (nown_val _) hS' (by omega)) ?_
          rintro e S4 ⟨ls', f9, f10, f11, f12, f13, f14, f15, f16, f17, f18, he, hh, hg', h4⟩
          exact ⟨ls', f9, f10, f11, f12, f13, f14, f15, f16, f17, f18, he, hh, hg', h4.mono (by omega)⟩
        refine k_seq ?_
        by_cases hz : u - x = 0 ∧ v - y = 0
        · simp only [ex, evT, evTOr, ev, evs, k_bind, getv, List.getElem?_cons_zero, List.getElem?_cons_succ, l_some, k_ret, hz2, if_true, c_eqP, decide_eq_true hz]
          exact dirn (n + 2) S2 (by omega) h2
        · simp only [ex, evT, evTOr, evTAnd, ev, evs, k_bind, getv, List.getElem?_cons_zero, List.getElem?_cons_succ, l_some, k_ret, hz2, if_true, c_eqP, decide_eq_false hz, Bool.false_eq_true, if_false, c_eqI]
          by_cases ho : odd = 0
          · simp only [decide_eq_true ho, if_true, ev, evs, k_bind, getv, List.getElem?_cons_zero, List.getElem?_cons_succ, l_some, b_ret, k_ret, hT1]
            refine k_draw h2 (by omega) (by decide) (by decide) fun r3 S3 _ _ h3 => ?_
            simp only [c_eqI, l_some, k_ret]
            by_cases hr3 : r3 = 0
            · simp only [decide_eq_true hr3, if_true]
              exact dirn (n + 3) S3 (by omega) h3
            · simp only [decide_eq_false hr3, Bool.false_eq_true, if_false, exs, k_ret]
              exact keep hz (n + 3) S3 (by omega) h3
          · simp only [decide_eq_false ho, Bool.false_eq_true, if_false, exs, k_ret]
            exact keep hz (n + 2) S2 (by omega) h2
      · obtain ⟨ls', f9, f10, f11, f12, f13, f14, f15, f16, f17, f18, rfl, hh⟩ := h
        exact k_ret.mpr ⟨ls', f9, f10, f11, f12, f13, f14, f15, f16, f17, f18, rfl, hh⟩
    · simp only [decide_eq_false hr, Bool.false_eq_true, if_false, exs, k_ret]
      exact skip S1 (n + 1) (by omega) h1
  · have hl' : ¬ ((ls.length : Nat) : Int) < 9 := by omega
    simp only [ex, evT, evTAnd, ev, evs, k_bind, getv, getb, List.getElem?_cons_zero, List.getElem?_cons_succ, l_some, k_ret, hlen, c_lt, decide_eq_false hl', Bool.false_eq_true, if_false, exs]
    exact skip S n (by omega) hS
theorem F7_ok (ns : List Int) (qs : List (Int × Int)) (hq : ∀ q ∈ qs, spotB q) (p : Int) (hqp : (qs.length : Int) = p) (hp : 2 ≤ p ∧ p ≤ 9) {n : Nat} {S : Sta} (hS : St ns n S) (hn : n ≤ 1000) :
    Ok (F7 ns [.scr, .ref 0, .list (qs.map spotD), .int 9]) S fun d S' => ∃ ls, d = tellD p ls ∧ isTell p ls = true ∧ ls.length ≤ 9 ∧ St ns (n + 600) S' := by
  have hT1 : (T7 ns)[1]? = some (drawF ns) := rfl
  have hlen : blt .len [.list (qs.map spotD)] = some (.int p) := by simp [blt, hqp]
  have hz0 : sizeOk ([] : List D).length = true := rfl
  refine k_run rfl (k_seq ?_)
  refine k_eq (a := .nx (env5 (qs.map spotD) p 0 0 [] .un .un .un .un .un .un .un .un .un .un .un |>.set 7 .un |>.set 8 .un)) (S' := S) ?_ ?_
  · simp only [ex, evs, ev, getv, List.map, List.replicate, List.cons_append, List.nil_append, List.getElem?_cons_zero, List.getElem?_cons_succ, l_some, b_ret, hlen, hz0, if_true]
    rfl
  refine k_seq ?_
  simp only [ex, evs, ev, k_bind, getv, List.set_cons_succ, List.set_cons_zero, List.getElem?_cons_zero, List.getElem?_cons_succ, l_some, k_ret, hT1]
  refine k_draw hS (by omega) (by decide) (by decide) fun r S1 r0 r1 h1 => ?_
  simp only [o_add, l_some, k_ret]
  refine k_draw h1 (by omega) (by decide) (by decide) fun odd S2 o0 o1 h2 => ?_
  generalize hof : 1 + r = often
  refine k_eq (a := .nx (env5 (qs.map spotD) p often odd [] .un .un .un .un .un .un .un .un .un .un .un)) (S' := S2) rfl ?_
  refine k_seq ?_
  have hr : rng1O (.int p) = some (rangeD 0 p) := by
    have : rngOk 0 p = true := by simp only [rngOk, Bool.and_eq_true, decide_eq_true_eq]; omega
    simp only [rng1O, this, if_true]
  have hrl : (rangeD 0 p).length = p.toNat := by simp [rangeD]
  simp only [ex, evI, ev, k_bind, getv, List.getElem?_cons_zero, List.getElem?_cons_succ, l_some, k_ret, hr]
  refine k_for (fun k env S => ∃ ls e4 e9 e10 e11 e12 e13 e14 e15 e16 e17 e18, env = env5 (qs.map spotD) p often odd ls e4 e9 e10 e11 e12 e13 e14 e15 e16 e17 e18 ∧ (nown e4 ∧ nown e9 ∧ nown e10 ∧ nown e11 ∧ nown e12 ∧ nown e13 ∧ nown e14 ∧ nown e15 ∧ nown e16 ∧ nown e17 ∧ nown e18) ∧ Good p (k : Int) 0 ls ∧ St ns (n + 2 + 54 * k) S) ?_ ?_ ?_
  · exact ⟨_, _, _, _, _, _, _, _, _, _, _, _, rfl, ⟨nown_un, nown_un, nown_un, nown_un, nown_un, nown_un, nown_un, nown_un, nown_un, nown_un, nown_un⟩, ⟨by simp, by simp, by simp, by simp⟩, h2⟩
  · rintro k d env S hd ⟨ls, e4, e9, e10, e11, e12, e13, e14, e15, e16, e17, e18, rfl, ⟨n4, n9, n10, n11, n12, n13, n14, n15, n16, n17, n18⟩, hg, hS⟩
    obtain ⟨rfl, hkp⟩ := range_get hd
    rw [Int.zero_add] at hkp ⊢
    have hu := un_name (i := 4) (d := .int (k : Int)) (env := env5 (qs.map spotD) p often odd ls e4 e9 e10 e11 e12 e13 e14 e15 e16 e17 e18) rfl n4
    simp only [hu]
    refine k_seq ?_
    have hr2 : rng2O (.int ((k : Int) + 1)) (.int p) = some (rangeD ((k : Int) + 1) p) := by
      have : rngOk ((k : Int) + 1) p = true := by simp only [rngOk, Bool.and_eq_true, decide_eq_true_eq]; omega
      simp only [rng2O, this, if_true]
    have hrl2 : (rangeD ((k : Int) + 1) p).length = (p - ((k : Int) + 1)).toNat := by simp [rangeD]
    simp only [ex, evI, ev, k_bind, getv, List.set_cons_succ, List.set_cons_zero, List.getElem?_cons_zero, List.getElem?_cons_succ, l_some, k_ret, o_add, hr2]
    refine k_for (fun j env S => ∃ ls e9 e10 e11 e12 e13 e14 e15 e16 e17 e18, env = env5 (qs.map spotD) p often odd ls (.val (.int (k : Int))) e9 e10 e11 e12 e13 e14 e15 e16 e17 e18 ∧ (nown e9 ∧ nown e10 ∧ nown e11 ∧ nown e12 ∧ nown e13 ∧ nown e14 ∧ nown e15 ∧ nown e16 ∧ nown e17 ∧ nown e18) ∧ Good p (k : Int) ((k : Int) + 1 + (j : Nat)) ls ∧ St ns (n + 2 + 54 * k + 6 * j) S) ?_ ?_ ?_
    · exact ⟨ls, e9, e10, e11, e12, e13, e14, e15, e16, e17, e18, rfl, ⟨n9, n10, n11, n12, n13, n14, n15, n16, n17, n18⟩, ⟨hg.lines, hg.few, fun l hl => by have := hg.old l hl; have := li_parts (hg.lines l hl); omega, hg.asc⟩, hS⟩
    · rintro j d env S hd ⟨ls, e9, e10, e11, e12, e13, e14, e15, e16, e17, e18, rfl, ⟨n9, n10, n11, n12, n13, n14, n15, n16, n17, n18⟩, hg, hS⟩
      obtain ⟨rfl, hjp⟩ := range_get hd
      have hu := un_name (i := 9) (d := .int ((k : Int) + 1 + (j : Nat))) (env := env5 (qs.map spotD) p often odd ls (.val (.int (k : Int))) e9 e10 e11 e12 e13 e14 e15 e16 e17 e18) rfl n9
      simp only [hu]
      refine k_mono (turn_ok ns qs hq p often odd (k : Int) ((k : Int) + 1 + (j : Nat)) hqp ls e10 e11 e12 e13 e14 e15 e16 e17 e18 (by omega) (by omega) (by omega) hp.2 hg n10 n11 n12 n13 n14 n15 n16 n17 n18 hS (by omega)) ?_
      rintro e S' ⟨ls', f9, f10, f11, f12, f13, f14, f15, f16, f17, f18, rfl, hh, hg', h4⟩
      refine ⟨_, rfl, ls', f9, f10, f11, f12, f13, f14, f15, f16, f17, f18, rfl, hh, ?_, h4.mono (by omega)⟩
      rw [show (k : Int) + 1 + ((j + 1 : Nat) : Int) = (k : Int) + 1 + (j : Nat) + 1 by omega]
      exact hg'
    · rintro env S ⟨ls, e9, e10, e11, e12, e13, e14, e15, e16, e17, e18, rfl, ⟨n9, n10, n11, n12, n13, n14, n15, n16, n17, n18⟩, hg, hS⟩
      rw [hrl2] at hS
      refine k_ret.mpr ?_
      refine ⟨_, rfl, ls, _, e9, e10, e11, e12, e13, e14, e15, e16, e17, e18, rfl, ⟨nown_val _, n9, n10, n11, n12, n13, n14, n15, n16, n17, n18⟩, ?_, hS.mono (by omega)⟩
      rw [show ((k + 1 : Nat) : Int) = (k : Int) + 1 by omega]
      exact hg.row 0
  · rintro env S ⟨ls, e4, e9, e10, e11, e12, e13, e14, e15, e16, e17, e18, rfl, _, hg, hS⟩
    rw [hrl] at hS
    have hz2 : ∀ a b : D, sizeOk [a, b].length = true := fun _ _ => rfl
    refine k_eq (a := .rt (tellD p ls)) (S' := S) ?_ ⟨ls, rfl, hg.tell hp, hg.few, hS.mono (by omega)⟩
    rfl
end K21

/-! shortened, first_place, reduced. -/
namespace Q7
theorem evs1 {T : List Fn} {e : CE} {env : Env} {S S' : Sta} {x : D} (h : ev T e env S = .ok x S') : evs T (.cons e .nil) env S = .ok [x] S' := by
  rw [evs]
  refine (b_ok h).trans ?_
  rw [evs]; rfl
theorem blt1 {T : List Fn} {b : Blt} {e : CE} {env : Env} {S S' : Sta} {x y : D} (h : ev T e env S = .ok x S') (hb : blt b [x] = some y) : ev T (.blt b (.cons e .nil)) env S = .ok y S' := by
  rw [ev]
  refine (b_ok (evs1 h)).trans ?_
  rw [hb]; rfl
end Q7
namespace K21
open Q7 Lin
theorem truths_i {α : Type} (f : α → Int) : ∀ l : List α, truths (l.map fun c => .int (f c)) = some (l.map fun c => f c != 0)
  | [] => rfl
  | a :: l => by simp only [List.map_cons, truths, truths_i f l, Option.map_some]
def fstD : D → D
  | .tup [x, _] => x
  | _ => .none
def iD (l : List Int) : D := .list (l.map .int)
def bd (B : Nat) (l : List Int) : Prop := ∀ x ∈ l, x.natAbs < 2 ^ B
theorem en_mem {l : List Int} {i : Nat} (h : i < l.length) : en l i ∈ l := by
  have : en l i = l[i] := by simp [en, List.getD, List.getElem?_eq_getElem h]
  rw [this]; exact List.getElem_mem h
theorem en_out {l : List Int} {i : Nat} (h : l.length ≤ i) : en l i = 0 := by simp [en, List.getD, List.getElem?_eq_none h]
theorem bd_en {B : Nat} {l : List Int} (h : bd B l) (i : Nat) : (en l i).natAbs < 2 ^ B := by
  by_cases hi : i < l.length
  · exact h _ (en_mem hi)
  · rw [en_out (by omega)]; exact Nat.two_pow_pos B
theorem mem_en {l : List Int} {x : Int} (h : x ∈ l) : ∃ i, i < l.length ∧ x = en l i := by
  obtain ⟨i, hi, rfl⟩ := List.getElem_of_mem h
  exact ⟨i, hi, by simp [en, List.getD, List.getElem?_eq_getElem hi]⟩
theorem bd_mono {B C : Nat} {l : List Int} (h : bd B l) (hBC : B ≤ C) : bd C l := fun x hx => Nat.lt_of_lt_of_le (h x hx) (Nat.pow_le_pow_right (by decide) hBC)
theorem abs_le_mul {g x : Int} (hg : g ≠ 0) : x.natAbs ≤ (g * x).natAbs := by
  rw [Int.natAbs_mul]
  exact Nat.le_mul_of_pos_left _ (by omega)
theorem bd_scale {B : Nat} {l l' : List Int} {g : Int} (hg : g ≠ 0) (h : ∀ i, g * en l' i = en l i) (hb : bd B l) : bd B l' := by
  intro x hx
  obtain ⟨i, _, rfl⟩ := mem_en hx
  have := abs_le_mul (x := en l' i) hg
  rw [h i] at this
  exact Nat.lt_of_le_of_lt this (bd_en hb i)
theorem en_map {f : Int → Int} (h0 : f 0 = 0) (l : List Int) (i : Nat) : en (l.map f) i = f (en l i) := by
  by_cases hi : i < l.length
  · simp [en, List.getD, List.getElem?_eq_getElem hi]
  · rw [en_out (by simpa using hi), en_out (by omega), h0]
theorem div_okB {j : Int} (h0 : j ≠ 0) (h1 : j.natAbs < 2 ^ 8999) : divOk j = true := by
  unfold divOk
  have hj : j.natAbs ≠ 0 := by omega
  have : j.natAbs.log2 < 8999 := (Nat.log2_lt hj).mpr h1
  simp only [Bool.and_eq_true, decide_eq_true_eq]
  exact ⟨h0, by omega⟩
theorem pow_le_big {b k m : Nat} (h : b < 2 ^ k) (hk : k ≤ m) : b < 2 ^ m := Nat.lt_of_lt_of_le h (Nat.pow_le_pow_right (by decide) hk)
theorem F18_ex (ns : List Int) (l : List Int) (hb : bd 8990 l) (hn : l.length ≤ 1000) (S : Sta) : ∃ l' g, F18 ns [iD l] S = .ok (iD l') S ∧ g ≠ 0 ∧ l'.length = l.length ∧ (∀ i, g * en l' i = en l i) ∧ (firstF l ≠ none → Prim (en l')) := by
  have hT : (T18 ns)[11]? = some (F11 ns) := rfl
  have hlist : blt .list [iD l] = some (iD l) := rfl
  have key : Ok (F18 ns [iD l]) S fun d S' => S' = S ∧ ∃ l' g, d = iD l' ∧ g ≠ 0 ∧ l'.length = l.length ∧ (∀ i, g * en l' i = en l i) ∧ (firstF l ≠ none → Prim (en l')) := by
    have same : (firstF l ≠ none → Prim (en l)) → ∃ l' g, iD l = iD l' ∧ g ≠ 0 ∧ l'.length = l.length ∧ (∀ i, g * en l' i = en l i) ∧ (firstF l ≠ none → Prim (en l')) := fun h => ⟨l, 1, rfl, by decide, rfl, fun i => Int.one_mul _, h⟩
    refine k_run rfl ?_
    refine k_seq (k_eq (a := .nx [.val (iD l), .val (.int ((0 : Nat) : Int)), .un]) (S' := S) rfl ?_)
    refine k_seq ?_
    have hi : iseq (iD l) = some (l.map .int) := rfl
    simp only [ex, evI, ev, k_bind, getv, List.getElem?_cons_zero, List.getElem?_cons_succ, l_some, k_ret, hi]
    refine k_forR (fun k env S' => S' = S ∧ ∃ (b : Nat) (e2 : Slot), nown e2 ∧ env = [.val (iD l), .val (.int (b : Int)), e2] ∧ b ≠ 1 ∧ (∀ i, i < k → (b : Int) ∣ en l i) ∧ (b ≠ 0 → ∃ i, i < k ∧ en l i ≠ 0) ∧ (∀ q : Int, (∀ i, i < k → q ∣ en l i) → q.natAbs ∣ b)) ⟨rfl, 0, .un, nown_un, rfl, by decide, by intro i hi; omega, fun h => absurd rfl h, fun q _ => Nat.dvd_zero _⟩ ?_ ?_
    · rintro k d env S' hd ⟨rfl, b, e2, n2, rfl, hb1, hdv, hex, hgr⟩
      rw [List.getElem?_map] at hd
      obtain ⟨x, hx, rfl⟩ := Option.map_eq_some_iff.mp hd
      obtain ⟨hk, hkx⟩ := List.getElem?_eq_some_iff.mp hx
      have hen : en l k = x := by simp [en, List.getD, hx]
      have hu := un_name (i := 2) (d := .int x) (env := [.val (iD l), .val (.int (b : Int)), e2]) rfl n2
      simp only [hu]
      have e9 := F11_ret ns (b : Int) x (pow_le_big (hb x (hkx ▸ List.getElem_mem hk)) (by decide))
      have eb : Nat.gcd (b : Int).natAbs x.natAbs = Nat.gcd b x.natAbs := rfl
      rw [eb] at e9
      have g1 := Nat.gcd_dvd_left b x.natAbs
      have g2 := Nat.gcd_dvd_right b x.natAbs
      have g0 : Nat.gcd b x.natAbs ≠ 0 → b ≠ 0 ∨ x ≠ 0 := fun h => by
        by_cases h0 : b = 0
        · right; intro hx0; subst h0; subst hx0; exact h rfl
        · exact .inl h0
      have g3 : ∀ q : Int, (∀ i, i < k + 1 → q ∣ en l i) → q.natAbs ∣ Nat.gcd b x.natAbs := fun q hq => Nat.dvd_gcd (hgr q fun i hi => hq i (by omega)) (by
        have := hq k (by omega)
        rw [hen] at this
        exact Int.natAbs_dvd_natAbs.mpr this)
      generalize Nat.gcd b x.natAbs = b' at g3 e9 g1 g2 g0
      refine k_seq (k_eq (a := .nx [.val (iD l), .val (.int (b' : Int)), .val (.int x)]) (S' := S') (by simp [ex, ev, evs, getv, hT, e9, store1]) ?_)
      by_cases h1 : b' = 1
      · subst h1
        refine k_seq (k_eq (a := .rt (iD l)) (S' := S') (by simp [exs, ex, evT, ev, evs, getv, hlist]) ?_)
        exact k_ret.mpr (.inr ⟨⟨_, rfl⟩, k_ret.mpr ⟨rfl, same fun _ q hq => Nat.dvd_one.mp (g3 q fun i _ => hq i)⟩⟩)
      · refine k_seq (k_eq (a := .nx [.val (iD l), .val (.int (b' : Int)), .val (.int x)]) (S' := S') (by
          have : ¬ ((b' : Int) = 1) := by omega
          simp [exs, ex, evT, ev, evs, getv, this]) ?_)
        refine k_ret.mpr (.inl ⟨_, rfl, rfl, b', .val (.int x), nown_val _, rfl, h1, fun i hi' => ?_, fun h => ?_, g3⟩)
        · by_cases e : i = k
          · subst e
            rw [hen]
            exact Int.ofNat_dvd_left.mpr g2
          · exact Int.dvd_trans (Int.natCast_dvd_natCast.mpr g1) (hdv i (by omega))
        · rcases g0 h with h | h
          · obtain ⟨i, hi', hne⟩ := hex h
            exact ⟨i, by omega, hne⟩
          · exact ⟨k, by omega, by rw [hen]; exact h⟩
    · rintro env S' ⟨rfl, b, e2, n2, rfl, hb1, hdv, hex, hgr⟩
      rw [List.length_map] at hdv hex hgr
      by_cases h0 : b = 0
      · subst h0
        refine k_seq (k_eq (a := .rt (iD l)) (S' := S') (by simp [ex, evT, ev, evs, getv, hlist]) ?_)
        refine k_ret.mpr ⟨rfl, same fun hne => absurd (first_none.mpr fun i => ?_) hne⟩
        by_cases hi' : i < l.length
        · exact Int.zero_dvd.mp (hdv i hi')
        · exact en_out (by omega)
      · have hgt : (1 : Int) < (b : Int) := by omega
        obtain ⟨i, hi', hne⟩ := hex h0
        have hbl : b < 2 ^ 8999 := by
          have h1 : b ≤ (en l i).natAbs := by
            have := Int.natAbs_dvd_natAbs.mpr (hdv i hi')
            exact Nat.le_of_dvd (by omega) this
          exact pow_le_big (Nat.lt_of_le_of_lt h1 (bd_en hb i)) (by decide)
        have hdk : divOk (b : Int) = true := div_okB (by omega) (by simpa using hbl)
        have hc : ev (T18 ns) (.comp [("one", 2)] (.name 2) (.seq (.var 0)) .non (.bin .fdiv (.var 2) (.var 1))) [.val (iD l), .val (.int (b : Int)), e2] S' = .ok (iD (l.map fun x => x.fdiv b)) S' := by
          refine (comp_map (ds := l.map .int) (g := fun d => match d with | .int x => .int (x.fdiv b) | _ => .none) (by simp [evI, ev, getv, hi]) (by simp) (by simp) (fun d hd => ?_) (by simp; omega)).trans ?_
          · obtain ⟨x, _, rfl⟩ := List.mem_map.mp hd
            simp [ev, getv, wipeE, o_div hdk]
          · unfold iD
            rw [List.map_map, List.map_map]; rfl
        refine k_seq (k_eq (a := .rt (iD (l.map fun x => x.fdiv b))) (S' := S') ?_ ?_)
        · rw [ex]
          refine (b_ok (a := iD (l.map fun x => x.fdiv b)) (S' := S') ?_).trans rfl
          rw [ev]
          refine (b_ok (a := true) (S' := S') (by simp [evT, ev, getv, hgt])).trans ?_
          simp only [if_true]
          exact hc
        · have hex2 : ∀ i, (b : Int) * en (l.map fun x => x.fdiv b) i = en l i := fun i => by
            rw [en_map (f := fun x => x.fdiv b) (by simp) l i]
            show (b : Int) * (en l i).fdiv b = en l i
            rw [Int.fdiv_eq_ediv_of_nonneg _ (by omega)]
            by_cases hil : i < l.length
            · exact Int.mul_ediv_cancel' (hdv i hil)
            · rw [en_out (by omega)]; simp
          refine k_ret.mpr ⟨rfl, l.map fun x => x.fdiv b, (b : Int), rfl, by omega, by simp, fun i => ?_, fun _ q hq => ?_⟩
          rotate_left
          · have h1 := hgr ((b : Int) * q) fun i _ => by
              rw [← hex2 i]
              exact Int.mul_dvd_mul_left _ (hq i)
            rw [Int.natAbs_mul, Int.natAbs_natCast] at h1
            have h2 : b * q.natAbs ∣ b * 1 := by rw [Nat.mul_one]; exact h1
            exact Nat.dvd_one.mp (Nat.dvd_of_mul_dvd_mul_left (by omega) h2)
          exact hex2 i
  obtain ⟨d, S', e, rfl, l', g, rfl, h⟩ := key
  exact ⟨l', g, e, h⟩
/-! first_place -/
def fpD : Option Nat → D
  | none => .none
  | some k => .int (k : Nat)
def nzF : List Int → Nat → List Nat
  | [], _ => []
  | x :: l, n => if x = 0 then nzF l (n + 1) else n :: nzF l (n + 1)
theorem nz_head : ∀ (l : List Int) (n : Nat), (nzF l n).head? = (firstF l).map (· + n)
  | [], _ => rfl
  | x :: l, n => by
    unfold nzF firstF
    split
    · rw [nz_head l (n + 1), Option.map_map]
      congr 1
      funext k
      show k + (n + 1) = k + 1 + n
      omega
    · simp
theorem nz_nil {l : List Int} {n : Nat} : nzF l n = [] ↔ firstF l = none := by
  have := nz_head l n
  cases h : nzF l n with
  | nil =>
    rw [h] at this
    cases hf : firstF l with
    | none => simp
    | some j => rw [hf] at this; cases this
  | cons a r => rw [h] at this; simp at this; constructor
                · intro e; cases e
                · intro e; rw [e] at this; simp at this
def nzT : D → Bool
  | .tup [_, .int x] => decide (x ≠ 0)
  | _ => false
theorem nz_list : ∀ (l : List Int) (n : Nat), ((((l.map D.int).zipIdx n).map fun p => D.tup [.int (p.2 : Nat), p.1]).filter nzT).map fstD = (nzF l n).map fun (k : Nat) => D.int (k : Nat)
  | [], _ => rfl
  | x :: l, n => by
    rw [List.map_cons, List.zipIdx_cons, List.map_cons, List.filter_cons]
    unfold nzF
    have ih := nz_list l (n + 1)
    by_cases h : x = 0
    · rw [if_pos h, if_neg (by simp [nzT, h])]
      exact ih
    · rw [if_neg h, if_pos (by simp [nzT, h]), List.map_cons, List.map_cons, ih]
      rfl
theorem c_neNil (ks : List Nat) : cmpop .ne (.list (ks.map fun (k : Nat) => D.int (k : Nat))) (.list []) = some (!ks.isEmpty) := by
  cases ks with
  | nil => rfl
  | cons k ks =>
    have h : okD 60 (.list ((k :: ks).map fun (k : Nat) => D.int (k : Nat))) = true := by
      show ((k :: ks).map fun (k : Nat) => D.int (k : Nat)).all (okD 59) = true
      rw [List.all_map, List.all_eq_true]
      intro a _; rfl
    have h2 : okD 60 (.list []) = true := rfl
    simp only [cmpop, eqO, h, h2, Bool.and_self, if_true]
    rfl
theorem F17_ret (ns : List Int) (l : List Int) (hn : l.length ≤ 1000) : F17 ns [iD l] = ret (fpD (firstF l)) := by
  funext S
  have hc : ev (T17 ns) (.comp [("place", 2), ("one", 3)] (.tup (.cons (.name 2) (.cons (.name 3) .nil))) (.enm (.var 0)) (.som (.cmp .ne (.var 3) (.int 0))) (.var 2)) [.val (iD l), .un, .un, .un] S = .ok (.list ((nzF l 0).map fun (k : Nat) => D.int (k : Nat))) S := by
    refine (comp_gen (ds := enumD (l.map .int)) nzT fstD (by simp [evI, ev, getv, enumO, iD]) (fun d hd => ?_) (by simp [enumD]; omega)).trans ?_
    · unfold enumD at hd
      obtain ⟨⟨d', i⟩, hp, rfl⟩ := List.mem_map.mp hd
      have hd' : d' ∈ l.map D.int := by
        have := List.mem_zipIdx hp
        rw [this.2.2]
        exact List.getElem_mem _
      obtain ⟨x, _, rfl⟩ := List.mem_map.mp hd'
      refine ⟨[.val (iD l), .un, .val (.int (i : Nat)), .val (.int x)], rfl, ?_, fun _ => rfl⟩
      simp [evOT, evT, ev, getv, nzT]
    · rw [← nz_list l 0]; rfl
  refine r_rt rfl ?_
  show exs (T17 ns) fuel c17 [.val (iD l), .un, .un, .un] S = _
  rw [c17]
  refine (x_nx (env' := [.val (iD l), .val (.list ((nzF l 0).map fun (k : Nat) => D.int (k : Nat))), .un, .un]) (S' := S) ?_).trans ?_
  · rw [ex]
    exact (b_ok hc).trans rfl
  have hh := nz_head l 0
  have hcn := c_neNil (nzF l 0)
  have hz0 : sizeOk ([] : List D).length = true := rfl
  cases hf : nzF l 0 with
  | nil =>
    rw [hf] at hh hcn
    have : firstF l = none := nz_nil.mp hf
    rw [this]
    refine x_rt ?_
    simp only [ex, ev, evs, evT, getv, List.getElem?_cons_zero, List.getElem?_cons_succ, l_some, b_ret, hz0, if_true, hcn, List.isEmpty_nil, Bool.not_true, Bool.false_eq_true, if_false]
    rfl
  | cons k r =>
    rw [hf] at hh hcn
    have : firstF l = some k := by
      cases hf2 : firstF l with
      | none => rw [hf2] at hh; cases hh
      | some j => rw [hf2] at hh; simp at hh; rw [hh]
    rw [this]
    have at0 : getitem (.list ((k :: r).map fun (k : Nat) => D.int (k : Nat))) (.int 0) = some (.int (k : Nat)) := by
      show L2.atI _ _ = _
      rw [at_in (by decide) (by simp <;> omega)]
      rfl
    refine x_rt ?_
    simp only [ex, ev, evs, evT, getv, List.getElem?_cons_zero, List.getElem?_cons_succ, l_some, b_ret, hz0, if_true, hcn, List.isEmpty_cons, Bool.not_false, at0]
    rfl
end K21

/-! reduced, independent. -/
namespace K21
open Q7 Lin
def comb (r o : List Int) (pl : Nat) : List Int := (r.zip o).map fun p => p.1 * en o pl - en r pl * p.2
theorem comb_en {r o : List Int} {pl : Nat} (h : o.length = r.length) (i : Nat) : en (comb r o pl) i = en r i * en o pl - en r pl * en o i := by
  by_cases hi : i < r.length
  · have h2 : i < o.length := by omega
    have e1 : en r i = r[i] := by simp [en, List.getD, List.getElem?_eq_getElem hi]
    have e2 : en o i = o[i] := by simp [en, List.getD, List.getElem?_eq_getElem h2]
    have hz : i < (r.zip o).length := by simp; omega
    have e3 : en (comb r o pl) i = (r.zip o)[i].1 * en o pl - en r pl * (r.zip o)[i].2 := by
      unfold comb
      show ((r.zip o).map _).getD i 0 = _
      rw [List.getD, List.getElem?_map, List.getElem?_eq_getElem hz]
      rfl
    rw [e3, e1, e2, List.getElem_zip]
  · rw [en_out (l := comb r o pl) (i := i) (by simp [comb]; omega), en_out (l := r) (i := i) (by omega), en_out (l := o) (i := i) (by omega), Int.zero_mul, Int.mul_zero]
    rfl
theorem comb_len {r o : List Int} {pl : Nat} (h : o.length = r.length) : (comb r o pl).length = r.length := by simp [comb, h]
theorem two_pow_add (a b : Nat) : 2 ^ a * 2 ^ b = 2 ^ (a + b) := (Nat.pow_add 2 a b).symm
theorem mul_lt_pow {x y : Int} {A B : Nat} (hx : x.natAbs < 2 ^ A) (hy : y.natAbs < 2 ^ B) : (x * y).natAbs < 2 ^ (A + B) := by
  rw [Int.natAbs_mul, ← two_pow_add]
  exact Nat.mul_lt_mul'' hx hy
theorem sub_lt_pow {x y : Int} {C : Nat} (hx : x.natAbs < 2 ^ C) (hy : y.natAbs < 2 ^ C) : (x - y).natAbs < 2 ^ (C + 1) := by
  rw [Nat.pow_succ]; omega
theorem comb_bd {r o : List Int} {pl A B : Nat} (h : o.length = r.length) (hr : bd A r) (ho : bd B o) : bd (A + B + 1) (comb r o pl) := by
  intro x hx
  obtain ⟨i, _, rfl⟩ := mem_en hx
  rw [comb_en h]
  exact sub_lt_pow (mul_lt_pow (bd_en hr i) (bd_en ho pl)) (mul_lt_pow (bd_en hr pl) (bd_en ho i))
theorem at_i {l : List Int} {k : Nat} (h : k < l.length) : getitem (iD l) (.int (k : Int)) = some (.int (en l k)) := by
  show L2.atI (l.map D.int) (k : Int) = _
  rw [at_in (by omega) (by rw [List.length_map]; omega)]
  show (l.map D.int)[k]? = _
  rw [List.getElem?_map, List.getElem?_eq_getElem h]
  simp [en, List.getD, List.getElem?_eq_getElem h]
theorem mul_okB {x y : Int} {A B : Nat} (hx : x.natAbs < 2 ^ A) (hy : y.natAbs < 2 ^ B) (hA : A ≤ 400000) (hB : B ≤ 400000) : binop .mul (.int x) (.int y) = some (.int (x * y)) := o_mul (mul_ok (pow_le_big hx hA) (pow_le_big hy hB))
def combD (a b : Int) : D → D
  | .tup [.int x, .int y] => .int (x * a - b * y)
  | _ => .none
theorem F19_ex (ns : List Int) (row : List Int) (os : List (List Int)) (w A B : Nat) (hw : w ≤ 1000) (hr : row.length = w) (ho : ∀ o ∈ os, o.length = w ∧ ∃ pl, firstF o = some pl) (hbr : bd A row) (hbo : ∀ o ∈ os, bd B o) (hAB : A + os.length * (B + 1) ≤ 8990) (S : Sta) :
    ∃ row', F19 ns [iD row, .list (os.map iD)] S = .ok (iD row') S ∧ Chain os row row' ∧ bd (A + os.length * (B + 1)) row' ∧ (Prim (en row) → firstF row' ≠ none → Prim (en row')) := by
  have hT34 : (T19 ns)[17]? = some (F17 ns) := rfl
  have hT30 : (T19 ns)[18]? = some (F18 ns) := rfl
  have key : Ok (F19 ns [iD row, .list (os.map iD)]) S fun d S' => S' = S ∧ ∃ row', d = iD row' ∧ Chain os row row' ∧ bd (A + os.length * (B + 1)) row' ∧ (Prim (en row) → firstF row' ≠ none → Prim (en row')) := by
    refine k_run rfl ?_
    refine k_seq ?_
    have hi : iseq (.list (os.map iD)) = some (os.map iD) := rfl
    simp only [List.map, List.replicate, List.cons_append, List.nil_append, ex, evI, ev, k_bind, getv, List.getElem?_cons_zero, List.getElem?_cons_succ, l_some, k_ret, hi]
    refine k_for (fun k env S' => S' = S ∧ ∃ (r : List Int) (e2 e3 : Slot), nown e2 ∧ env = [.val (iD r), .val (.list (os.map iD)), e2, e3, .un, .un] ∧ Chain (os.take k) row r ∧ bd (A + k * (B + 1)) r ∧ (Prim (en row) → firstF r ≠ none → Prim (en r))) ⟨rfl, row, .un, .un, nown_un, rfl, .nil, by simpa using hbr, fun h _ => h⟩ ?_ ?_
    · rintro k d env S' hd ⟨rfl, r, e2, e3, n2, rfl, hch, hb, hpr⟩
      rw [List.getElem?_map] at hd
      obtain ⟨o, ho', rfl⟩ := Option.map_eq_some_iff.mp hd
      obtain ⟨hk, hko⟩ := List.getElem?_eq_some_iff.mp ho'
      have hmo : o ∈ os := hko ▸ List.getElem_mem hk
      obtain ⟨hol, pl, hpl⟩ := ho o hmo
      have hrl : r.length = w := by rw [hch.len, hr]
      have hplw : pl < w := by rw [← hol]; exact first_lt hpl
      have hu := un_name (i := 2) (d := iD o) (env := [.val (iD r), .val (.list (os.map iD)), e2, e3, .un, .un]) rfl n2
      simp only [hu]
      have e34 := F17_ret ns o (by omega)
      rw [hpl] at e34
      have e34' : F17 ns [iD o] = ret (.int (pl : Int)) := e34
      have htk : os.take (k + 1) = os.take k ++ [o] := by rw [List.take_succ_eq_append_getElem hk, hko]
      refine k_seq (k_eq (a := .nx [.val (iD r), .val (.list (os.map iD)), .val (iD o), .val (.int (pl : Int)), .un, .un]) (S' := S') (by simp [ex, ev, evs, getv, hT34, e34', store1]) ?_)
      have a1 := at_i (l := r) (k := pl) (by omega)
      have a2 := at_i (l := o) (k := pl) (by omega)
      have hkA : A + k * (B + 1) + B + 1 ≤ 8990 := by
        have : (k + 1) * (B + 1) ≤ os.length * (B + 1) := Nat.mul_le_mul_right _ (by omega)
        rw [Nat.add_mul, Nat.one_mul] at this
        omega
      by_cases hz : en r pl = 0
      · refine k_seq (k_eq (a := .nx [.val (iD r), .val (.list (os.map iD)), .val (iD o), .val (.int (pl : Int)), .un, .un]) (S' := S') (by
          rw [hz] at a1
          simp [exs, ex, evT, ev, evs, getv, a1]) ?_)
        refine k_ret.mpr ⟨_, rfl, rfl, r, _, _, nown_val _, rfl, ?_, bd_mono hb (by rw [Nat.add_mul]; omega), hpr⟩
        rw [htk]
        exact .snoc hch ⟨pl, hpl, .inl ⟨hz, rfl⟩⟩
      · have hbo' := hbo o hmo
        have hc : ev (T19 ns) (.comp [("one", 4), ("two", 5)] (.tup (.cons (.name 4) (.cons (.name 5) .nil))) (.zip (.var 0) (.var 2)) .non (.bin .sub (.bin .mul (.var 4) (.idx (.var 2) (.var 3))) (.bin .mul (.idx (.var 0) (.var 3)) (.var 5)))) [.val (iD r), .val (.list (os.map iD)), .val (iD o), .val (.int (pl : Int)), .un, .un] S' = .ok (iD (comb r o pl)) S' := by
          have hzp : zipO (iD r) (iD o) = some (zipD (r.map .int) (o.map .int)) := rfl
          have hzl : zipD (r.map .int) (o.map .int) = (r.zip o).map fun p => .tup [.int p.1, .int p.2] := by
            unfold zipD
            rw [List.zip_map, List.map_map]
            rfl
          refine (comp_gen (ds := zipD (r.map .int) (o.map .int)) (fun _ => true) (combD (en o pl) (en r pl)) (by simp [evI, ev, getv, hzp]) (fun d hd => ?_) (by rw [hzl]; simp; omega)).trans ?_
          · rw [hzl] at hd
            obtain ⟨⟨x, y⟩, hxy, rfl⟩ := List.mem_map.mp hd
            refine ⟨[.val (iD r), .val (.list (os.map iD)), .val (iD o), .val (.int (pl : Int)), .val (.int x), .val (.int y)], rfl, rfl, fun _ => ?_⟩
            have hx := hb x (List.of_mem_zip hxy).1
            have hy := hbo' y (List.of_mem_zip hxy).2
            have m1 := mul_okB hx (bd_en hbo' pl) (by omega) (by omega)
            have m2 := mul_okB (bd_en hb pl) hy (by omega) (by omega)
            simp only [ev, getv, List.getElem?_cons_zero, List.getElem?_cons_succ, l_some, b_ret, a1, a2, m1, m2, o_sub]
            rfl
          · rw [List.filter_eq_self.mpr (fun _ _ => rfl), hzl, List.map_map]
            unfold iD comb
            rw [List.map_map]
            rfl
        obtain ⟨r', g, e30, hg, hl', hgi, hpr'⟩ := F18_ex ns (comb r o pl) (bd_mono (comb_bd (by omega) hb hbo') (by omega)) (by rw [comb_len (by omega)]; omega) S'
        refine k_seq (k_eq (a := .nx [.val (iD r'), .val (.list (os.map iD)), .val (iD o), .val (.int (pl : Int)), .un, .un]) (S' := S') ?_ ?_)
        · have ht : evT (T19 ns) (.cmp .ne (.idx (.var 0) (.var 3)) (.int 0)) [.val (iD r), .val (.list (os.map iD)), .val (iD o), .val (.int (pl : Int)), .un, .un] S' = .ok true S' := by
            simp only [evT, ev, getv, List.getElem?_cons_zero, List.getElem?_cons_succ, l_some, b_ret, a1, c_neI, decide_eq_true (show en r pl ≠ 0 from hz)]
            rfl
          have hcall : ev (T19 ns) (.call 18 (.cons (.comp [("one", 4), ("two", 5)] (.tup (.cons (.name 4) (.cons (.name 5) .nil))) (.zip (.var 0) (.var 2)) .non (.bin .sub (.bin .mul (.var 4) (.idx (.var 2) (.var 3))) (.bin .mul (.idx (.var 0) (.var 3)) (.var 5)))) .nil)) [.val (iD r), .val (.list (os.map iD)), .val (iD o), .val (.int (pl : Int)), .un, .un] S' = .ok (iD r') S' := by
            rw [ev]
            refine (b_ok (evs1 hc)).trans ?_
            rw [hT30]
            exact e30
          rw [ex]
          refine (b_ok ht).trans ?_
          simp only [if_true]
          refine (x_nx (env' := [.val (iD r'), .val (.list (os.map iD)), .val (iD o), .val (.int (pl : Int)), .un, .un]) (S' := S') ?_).trans rfl
          rw [ex]
          exact (b_ok hcall).trans rfl
        · refine k_ret.mpr ⟨_, rfl, rfl, r', _, _, nown_val _, rfl, ?_, ?_, fun _ hne => hpr' fun e0 => hne (first_none.mpr fun i => mul_cancel hg (by rw [hgi i]; exact first_none.mp e0 i))⟩
          · rw [htk]
            exact .snoc hch ⟨pl, hpl, .inr ⟨hz, by rw [hl', comb_len (by omega)], g, hg, fun i => by rw [hgi i, comb_en (by omega)]⟩⟩
          · exact bd_mono (bd_scale hg hgi (comb_bd (by omega) hb hbo')) (by rw [Nat.add_mul]; omega)
    · rintro env S' ⟨rfl, r, e2, e3, n2, rfl, hch, hb, hpr⟩
      rw [List.length_map] at hch hb
      rw [List.take_length] at hch
      refine k_eq (a := .rt (iD r)) (S' := S') rfl ?_
      exact ⟨rfl, r, rfl, hch, hb, hpr⟩
  obtain ⟨d, S', e, rfl, row', rfl, h⟩ := key
  exact ⟨row', e, h⟩
theorem chain_one {o r r' : List Int} (h : Chain [o] r r') : Red o r r' := by
  generalize he : [o] = os at h
  cases h with
  | nil => cases he
  | snoc h1 h2 =>
    rename_i os' o' r1
    have hl : os' = [] ∧ o = o' := by
      cases os' with
      | nil => simp at he; exact ⟨rfl, he⟩
      | cons a b => cases b <;> simp at he
    obtain ⟨rfl, rfl⟩ := hl
    generalize hn : ([] : List (List Int)) = z at h1
    cases h1 with
    | nil => exact h2
    | snoc _ _ => simp at hn
theorem all2_map {R : List Int → List Int → Prop} : ∀ {own : List (List Int)} {ys : List D}, All2 (fun d y => ∀ a, d = iD a → ∃ b, y = iD b ∧ R a b) (own.map iD) ys → ∃ own' : List (List Int), ys = own'.map iD ∧ own'.length = own.length ∧ ∀ i (h1 : i < own.length) (h2 : i < own'.length), R own[i] own'[i]
  | [], ys, h => by
    cases h
    exact ⟨[], rfl, rfl, fun i h1 _ => by simp at h1⟩
  | a :: own, ys, h => by
    cases h with
    | cons h1 h2 =>
      obtain ⟨b, rfl, hr⟩ := h1 a rfl
      obtain ⟨own', rfl, hl, hri⟩ := all2_map h2
      refine ⟨b :: own', rfl, by simp [hl], fun i q1 q2 => ?_⟩
      cases i with
      | zero => exact hr
      | succ i => exact hri i (by simpa using q1) (by simpa using q2)
theorem iD_inj {a b : List Int} (h : iD a = iD b) : a = b := by
  unfold iD at h
  injection h with h
  exact List.map_inj_right (fun x y e => by injection e) |>.mp h
theorem any_i (l : List Int) : blt .any [iD l] = some (.bool (firstF l).isSome) := by
  show (truths (l.map fun x => D.int x)).map _ = _
  rw [truths_i (fun x => x) l]
  show some (D.bool ((l.map fun c => c != 0).any id)) = _
  congr 2
  induction l with
  | nil => rfl
  | cons x l ih =>
    rw [List.map_cons, List.any_cons, ih, show firstF (x :: l) = if x = 0 then (firstF l).map (· + 1) else some 0 from rfl]
    by_cases h : x = 0
    · simp [h]
    · simp [h]
theorem big16 : (16 * 20) ^ 16 < 2 ^ 134 := by decide
theorem bas_bd {w : Nat} {own R : List (List Int)} (h : Bas w own R) (hR : ∀ r ∈ R, ∀ c, (en r c).natAbs ≤ 20) (hn : own.length ≤ 16) (hp : ∀ r ∈ own, Prim (en r)) : ∀ r ∈ own, bd 134 r := by
  intro r hr x hx
  obtain ⟨i, _, rfl⟩ := mem_en hx
  have h1 := h.bound hR hr (hp r hr) i
  have h2 : (own.length * 20) ^ own.length ≤ (16 * 20) ^ own.length := Nat.pow_le_pow_left (Nat.mul_le_mul_right _ hn) _
  have h3 : (16 * 20) ^ own.length ≤ (16 * 20) ^ 16 := Nat.pow_le_pow_right (by decide) hn
  have := big16
  omega
theorem bd5_of {r : List Int} (h : ∀ c, (en r c).natAbs ≤ 20) : bd 5 r := fun x hx => by
  obtain ⟨i, _, rfl⟩ := mem_en hx
  have := h i
  omega
theorem F20_ex (ns : List Int) (rows : List (List Int)) (w : Nat) (hw : w ≤ 1000) (hr : ∀ r ∈ rows, r.length = w ∧ (∀ c, (en r c).natAbs ≤ 20) ∧ Prim (en r)) (hn : rows.length ≤ 16) (S : Sta) :
    ∃ own R, F20 ns [.list (rows.map iD)] S = .ok (.list (own.map iD)) S ∧ Bas w own R ∧ (∀ r ∈ R, r ∈ rows) ∧ own.length ≤ rows.length ∧ (∀ r ∈ own, Prim (en r)) ∧ (∀ r ∈ rows, Sp own (en r)) ∧ ∀ r ∈ own, Sp rows (en r) := by
  have hT : (T20 ns)[19]? = some (F19 ns) := rfl
  have key : Ok (F20 ns [.list (rows.map iD)]) S fun d S' => S' = S ∧ ∃ own R, d = .list (own.map iD) ∧ Bas w own R ∧ (∀ r ∈ R, r ∈ rows) ∧ own.length ≤ rows.length ∧ (∀ r ∈ own, Prim (en r)) ∧ (∀ r ∈ rows, Sp own (en r)) ∧ ∀ r ∈ own, Sp rows (en r) := by
    refine k_run rfl ?_
    refine k_seq (k_eq (a := .nx [.val (.list (rows.map iD)), .val (.list (([] : List (List Int)).map iD)), .un, .un]) (S' := S) rfl ?_)
    refine k_seq ?_
    have hi : iseq (.list (rows.map iD)) = some (rows.map iD) := rfl
    simp only [ex, evI, ev, k_bind, getv, List.getElem?_cons_zero, List.getElem?_cons_succ, l_some, k_ret, hi]
    refine k_for (fun k env S' => S' = S ∧ ∃ (own R : List (List Int)) (e2 : Slot), nown e2 ∧ env = [.val (.list (rows.map iD)), .val (.list (own.map iD)), e2, .un] ∧ Bas w own R ∧ (∀ r ∈ R, r ∈ rows) ∧ own.length ≤ k ∧ k ≤ rows.length ∧ (∀ r ∈ own, Prim (en r)) ∧ (∀ r ∈ rows.take k, Sp own (en r)) ∧ ∀ r ∈ own, Sp rows (en r)) ⟨rfl, [], [], .un, nown_un, rfl, ⟨⟨by simp, by simp, by simp⟩, rfl, by simp, by decide⟩, by simp, by simp, by omega, by simp, by simp, by simp⟩ ?_ ?_
    · rintro k d env S' hd ⟨rfl, own, R, e2, n2, rfl, hbas, hRr, hok, hkr, hprm, hin, hout⟩
      have hs := hbas.sys
      rw [List.getElem?_map] at hd
      obtain ⟨row, hrow, rfl⟩ := Option.map_eq_some_iff.mp hd
      obtain ⟨hk, hkr'⟩ := List.getElem?_eq_some_iff.mp hrow
      have hrm : row ∈ rows := hkr' ▸ List.getElem_mem hk
      obtain ⟨hrl, hrb, hrp⟩ := hr row hrm
      have hu := un_name (i := 2) (d := iD row) (env := [.val (.list (rows.map iD)), .val (.list (own.map iD)), e2, .un]) rfl n2
      simp only [hu]
      have hbd := bas_bd hbas (fun r hr' => (hr r (hRr r hr')).2.1) (by omega) hprm
      have hlm : own.length * (134 + 1) ≤ 16 * 135 := Nat.mul_le_mul_right _ (by omega)
      obtain ⟨row', e35, hch, hb', hpr'⟩ := F19_ex ns row own w 5 134 hw hrl (fun o ho => ⟨hs.len o ho, hs.fst o ho⟩) (bd5_of hrb) hbd (by omega) S'
      have hb'' : bd 2165 row' := bd_mono hb' (by omega)
      have hrl' : row'.length = w := by rw [hch.len, hrl]
      refine k_seq (k_eq (a := .nx [.val (.list (rows.map iD)), .val (.list (own.map iD)), .val (iD row'), .un]) (S' := S') ?_ ?_)
      · rw [ex]
        refine (b_ok (a := iD row') (S' := S') ?_).trans rfl
        simp only [List.set_cons_succ, List.set_cons_zero, ev, evs, getv, List.getElem?_cons_zero, List.getElem?_cons_succ, l_some, b_ret, hT]
        exact e35
      have hany := any_i row'
      have htk : rows.take (k + 1) = rows.take k ++ [row] := by rw [List.take_succ_eq_append_getElem hk, hkr']
      obtain ⟨A, G, hA, hG, hX⟩ := hch.sp
      cases hf : firstF row' with
      | none =>
        rw [hf] at hany
        refine k_seq (k_eq (a := .nx [.val (.list (rows.map iD)), .val (.list (own.map iD)), .val (iD row'), .un]) (S' := S') (by simp [exs, ex, evT, ev, evs, getv, hany]) ?_)
        refine k_ret.mpr ⟨_, rfl, rfl, own, R, _, nown_val _, rfl, hbas, hRr, by omega, by omega, hprm, fun r hr' => ?_, hout⟩
        rw [htk] at hr'
        rcases List.mem_append.mp hr' with hr' | hr'
        · exact hin r hr'
        · rw [List.mem_singleton.mp hr']
          refine .div A hA ?_
          have h2 := Sp.scale (-1) hX
          have e : (fun i => A * en row i) = fun i => -1 * (G * en row' i - A * en row i) := by
            funext i
            rw [first_none.mp hf i]; omega
          rw [e]; exact h2
      | some q =>
        rw [hf] at hany
        have hprow : Prim (en row') := hpr' hrp (by rw [hf]; simp)
        have hcomp := comp_rel (T := T20 ns) (vs := [("one", 3)]) (i := 3) (it := .seq (.var 1)) (elt := .call 19 (.cons (.var 3) (.cons (.lst (.cons (.var 2) .nil)) .nil))) (env := [.val (.list (rows.map iD)), .val (.list (own.map iD)), .val (iD row'), .un]) (S := S') (ds := own.map iD) (R := fun d y => ∀ a, d = iD a → ∃ b, y = iD b ∧ (Red row' a b ∧ (Prim (en a) → firstF b ≠ none → Prim (en b)))) (by simp [evI, ev, getv, iseq]) (by simp) (by simp) (fun d hd => by
          obtain ⟨one, hone, rfl⟩ := List.mem_map.mp hd
          obtain ⟨one', e1, c1, bb, pp⟩ := F19_ex ns one [row'] w 134 2165 hw (hs.len one hone) (fun o ho => by rw [List.mem_singleton.mp ho]; exact ⟨hrl', q, hf⟩) (hbd one hone) (fun o ho => by rw [List.mem_singleton.mp ho]; exact hb'') (by simp) S'
          refine ⟨iD one', ?_, fun a ha => ⟨one', rfl, ?_, ?_⟩⟩
          · have hz1 : ∀ a : D, sizeOk [a].length = true := fun _ => rfl
            simp only [wipeE, List.map, List.set_cons_succ, List.set_cons_zero, ev, evs, getv, List.getElem?_cons_zero, List.getElem?_cons_succ, l_some, b_ret, hz1, if_true, hT]
            exact e1
          · rw [← iD_inj ha]
            exact chain_one c1
          · rw [← iD_inj ha]
            exact pp) (by simp; omega)
        obtain ⟨ys, ec, hrel⟩ := hcomp
        obtain ⟨own', rfl, hl', hri⟩ := all2_map (R := fun a b => Red row' a b ∧ (Prim (en a) → firstF b ≠ none → Prim (en b))) hrel
        have hadd : binop .add (.list (own'.map iD)) (.list [iD row']) = some (.list ((own' ++ [row']).map iD)) := by
          have : sizeOk ((own'.map iD).length + [iD row'].length) = true := decide_eq_true (by simp; omega)
          simp only [binop, this, if_true]
          rw [List.map_append]; rfl
        refine k_seq (k_eq (a := .nx [.val (.list (rows.map iD)), .val (.list ((own' ++ [row']).map iD)), .val (iD row'), .un]) (S' := S') ?_ ?_)
        · rw [ex]
          refine (b_ok (a := true) (S' := S') (by simp [evT, ev, evs, getv, hany])).trans ?_
          simp only [if_true]
          refine (x_nx (env' := [.val (.list (rows.map iD)), .val (.list ((own' ++ [row']).map iD)), .val (iD row'), .un]) (S' := S') ?_).trans rfl
          rw [ex]
          refine (b_ok (a := .list ((own' ++ [row']).map iD)) (S' := S') ?_).trans rfl
          rw [ev]
          refine (b_ok ec).trans ?_
          have hz1 : ∀ a : D, sizeOk [a].length = true := fun _ => rfl
          simp only [ev, evs, getv, List.getElem?_cons_zero, List.getElem?_cons_succ, l_some, b_ret, hz1, if_true, hadd]
          rfl
        · have hbas' : Bas w (own' ++ [row']) (row :: R) := hbas.add hrl hch hf hl' (fun i h1 h2 => (hri i h1 h2).1)
          have row_out : Sp rows (en row') := by
            refine .div G hG ?_
            have h1 : Sp rows fun i => G * en row' i - A * en row i := hX.trans hout
            have h2 := Sp.lin 1 A h1 (.base hrm)
            have e : (fun i => G * en row' i) = fun i => 1 * (G * en row' i - A * en row i) + A * en row i := by funext i; omega
            rw [e]; exact h2
          have own_in : ∀ r ∈ own, Sp (own' ++ [row']) (en r) := fun r hrm' => by
            obtain ⟨i, hi', rfl⟩ := List.getElem_of_mem hrm'
            have hi2 : i < own'.length := by omega
            refine (hri i hi' hi2).1.sp.1.trans fun x hx => ?_
            simp only [List.mem_cons, List.not_mem_nil, or_false] at hx
            rcases hx with rfl | rfl
            · exact .base (by simp)
            · exact .base (by simp)
          refine k_ret.mpr ⟨_, rfl, rfl, own' ++ [row'], row :: R, _, nown_val _, rfl, hbas', fun r hr' => ?_, by simp; omega, by omega, fun r hr' => ?_, fun r hr' => ?_, fun r hr' => ?_⟩
          · rcases List.mem_cons.mp hr' with rfl | hr'
            · exact hrm
            · exact hRr r hr'
          · rcases List.mem_append.mp hr' with hr' | hr'
            · obtain ⟨i, hi', rfl⟩ := List.getElem_of_mem hr'
              have hf' := hbas'.sys.fst own'[i] (by simp)
              obtain ⟨pl, hpl⟩ := hf'
              exact (hri i (by omega) hi').2 (hprm _ (List.getElem_mem _)) (by rw [hpl]; simp)
            · rw [List.mem_singleton.mp hr']; exact hprow
          · rw [htk] at hr'
            rcases List.mem_append.mp hr' with hr' | hr'
            · exact (hin r hr').trans own_in
            · rw [List.mem_singleton.mp hr']
              exact hbas'.rin row (by simp)
          · rcases List.mem_append.mp hr' with hr' | hr'
            · obtain ⟨i, hi', rfl⟩ := List.getElem_of_mem hr'
              refine (hri i (by omega) hi').1.sp.2.1.trans fun x hx => ?_
              simp only [List.mem_cons, List.not_mem_nil, or_false] at hx
              rcases hx with rfl | rfl
              · exact hout _ (List.getElem_mem _)
              · exact row_out
            · rw [List.mem_singleton.mp hr']; exact row_out
    · rintro env S' ⟨rfl, own, R, e2, n2, rfl, hbas, hRr, hok, hkr, hprm, hin, hout⟩
      rw [List.length_map] at hok hin
      rw [List.take_length] at hin
      exact k_eq (a := .rt (.list (own.map iD))) (S' := S') rfl ⟨rfl, own, R, rfl, hbas, hRr, hok, hprm, hin, hout⟩
  obtain ⟨d, S', e, rfl, own, R, rfl, h⟩ := key
  exact ⟨own, R, e, h⟩
end K21

/-! solutions. -/
namespace K21
open Q7 Lin
theorem nodup_len : ∀ (w : Nat) (l : List Nat), l.Nodup → (∀ x ∈ l, x < w) → l.length ≤ w
  | 0, l, _, h => by
    cases l with
    | nil => simp
    | cons a l => exact absurd (h a (by simp)) (by omega)
  | w + 1, l, hn, h => by
    by_cases hw : w ∈ l
    · have ih := nodup_len w (l.erase w) (hn.erase w) (fun x hx => by
        have := (hn.mem_erase_iff).mp hx
        have := h x this.2
        omega)
      rw [List.length_erase_of_mem hw] at ih
      omega
    · have ih := nodup_len w l hn (fun x hx => by
        have h1 := h x hx
        have : x ≠ w := fun e => hw (e ▸ hx)
        omega)
      omega
def pl (r : List Int) : Nat := (firstF r).getD 0
theorem pl_of {w : Nat} {own : List (List Int)} (h : Sys w own) {r : List Int} (hr : r ∈ own) : firstF r = some (pl r) := by
  obtain ⟨p, hp⟩ := h.fst r hr
  unfold pl
  rw [hp]; rfl
theorem pl_ne {w : Nat} {own : List (List Int)} (h : Sys w own) {i j : Nat} (hi : i < own.length) (hj : j < own.length) (hij : i ≠ j) : pl own[i] ≠ pl own[j] := by
  intro e
  have p1 := pl_of h (List.getElem_mem hi)
  have p2 := pl_of h (List.getElem_mem hj)
  have n1 := (first_some.mp p1).1
  rcases Nat.lt_or_gt_of_ne hij with h1 | h1
  · exact n1 (e ▸ (List.pairwise_iff_getElem.mp h.pair i j hi hj h1).1 _ p2)
  · exact n1 (e ▸ (List.pairwise_iff_getElem.mp h.pair j i hj hi h1).2 _ p2)
theorem free_len {w : Nat} {own : List (List Int)} (h : Sys w own) {f : Nat} (hf : f < w) (hfree : ∀ r ∈ own, pl r ≠ f) : own.length + 1 ≤ w := by
  have := nodup_len w (f :: own.map pl) (by
    rw [List.nodup_cons]
    refine ⟨fun hm => ?_, ?_⟩
    · obtain ⟨r, hr, e⟩ := List.mem_map.mp hm
      exact hfree r hr e
    · rw [List.nodup_iff_pairwise_ne, List.pairwise_map, List.pairwise_iff_getElem]
      intro i j hi hj hij
      exact pl_ne h hi hj (by omega)) (fun x hx => by
    rcases List.mem_cons.mp hx with rfl | hx
    · exact hf
    · obtain ⟨r, hr, rfl⟩ := List.mem_map.mp hx
      rw [← h.len r hr]
      exact first_lt (pl_of h hr))
  simpa using this
theorem IsSol.un {w : Nat} {own : List (List Int)} {f : Nat} {u : Nat → Int} {g : Int} (hg : g ≠ 0) (h : IsSol w own f fun i => g * u i) : IsSol w own f u := by
  refine ⟨fun e => h.1 (by show g * u f = 0; rw [e, Int.mul_zero]), fun r hr p hp => ?_, fun i hi hif hfr => mul_cancel hg (h.2.2 i hi hif hfr)⟩
  have e := h.2.1 r hr p hp
  have e' : g * u p * en r p = -en r f * (g * u f) := e
  have e2 : g * (u p * en r p) = g * (-en r f * u f) := by rw [← Int.mul_assoc, e', Int.mul_left_comm]
  exact Int.eq_of_mul_eq_mul_left hg e2
theorem en_set {u : List Int} {k : Nat} {x : Int} (hk : k < u.length) (i : Nat) : en (u.set k x) i = if i = k then x else en u i := by
  by_cases h : i = k
  · subst h
    rw [if_pos rfl]
    simp [en, List.getD, hk]
  · rw [if_neg h]
    simp [en, List.getD, List.getElem?_set, Ne.symm h]
theorem set_i {u : List Int} {k : Nat} {x : Int} (hk : k < u.length) : setitem (u.map .int) (k : Int) (.int x) = some ((u.set k x).map .int) := by
  unfold setitem
  rw [ix_in (by omega) (by rw [List.length_map]; omega)]
  show some ((u.map D.int).set (k : Int).toNat (.int x)) = _
  rw [Int.toNat_natCast, List.map_set]
theorem rep0 (w : Nat) : rep [.int 0] w = (List.replicate w (0 : Int)).map .int := by
  unfold rep
  induction w with
  | zero => rfl
  | succ w ih => rw [List.replicate_succ, List.flatten_cons, ih, List.replicate_succ]; rfl
theorem en_rep (w i : Nat) : en (List.replicate w (0 : Int)) i = 0 := by
  by_cases h : i < w
  · simp [en, List.getD, h]
  · exact en_out (by simpa using h)
theorem memI (f : Nat) (own : List (List Int)) : cmpop .notin (.int (f : Int)) (.list (own.map fun r => .int (pl r : Nat))) = some (!own.any fun r => decide (pl r = f)) := by
  have h1 : okD 60 (.int (f : Int)) = true := rfl
  have h2 : (own.map fun r => D.int (pl r : Nat)).all (okD 59) = true := by
    rw [List.all_map, List.all_eq_true]; intro r _; rfl
  simp only [cmpop, memO, h1, h2, Bool.and_self, if_true, Option.map_some]
  congr 2
  rw [List.any_map]
  congr 1
  funext r
  show ((pl r : Int) == (f : Int)) = decide (pl r = f)
  by_cases h : pl r = f
  · simp [h]
  · rw [decide_eq_false h]
    simp; omega
theorem lcm_step {s : Nat} {a : Int} (ha : a ≠ 0) : (((s : Int) * (a.natAbs : Int))).fdiv (Nat.gcd s a.natAbs : Nat) = ((Nat.lcm s a.natAbs : Nat) : Int) := by
  rw [Int.fdiv_eq_ediv_of_nonneg _ (by omega)]
  unfold Nat.lcm
  simp
theorem F21_ex (ns : List Int) (rows : List (List Int)) (w : Nat) (hw : w ≤ 16) (hr : ∀ r ∈ rows, r.length = w ∧ (∀ c, (en r c).natAbs ≤ 20) ∧ Prim (en r)) (hn : rows.length ≤ 16) (S : Sta) :
    ∃ sols : List (List Int), F21 ns [.list (rows.map iD), .int (w : Int)] S = .ok (.list (sols.map iD)) S ∧ (∀ s ∈ sols, s.length = w ∧ (∀ K, 1 ≤ K → rows.length ≤ K → ∀ c, (en s c).natAbs ≤ (K * 20) ^ K) ∧ Prim (en s) ∧ ∀ r ∈ rows, dot w (en r) (en s) = 0) ∧ sols.length ≤ w ∧ (∀ c v, (∀ s ∈ sols, dot w c (en s) = 0) → (∀ r ∈ rows, dot w (en r) v = 0) → dot w c v = 0) ∧ (rows ≠ [] → sols.length < w) ∧ (rows = [] → ∀ f, f < w → ∃ s ∈ sols, en s f ≠ 0 ∧ ∀ i, i ≠ f → en s i = 0) := by
  have hT36 : (T21 ns)[20]? = some (F20 ns) := rfl
  have hT34 : (T21 ns)[17]? = some (F17 ns) := rfl
  have hT30 : (T21 ns)[18]? = some (F18 ns) := rfl
  have hT9 : (T21 ns)[11]? = some (F11 ns) := rfl
  obtain ⟨own, R, e36, hbas, hRr, hol, hprm, hin, hout⟩ := F20_ex ns rows w (by omega) hr hn S
  have hs := hbas.sys
  have hbd := bas_bd hbas (fun r h => (hr r (hRr r h)).2.1) (by omega) hprm
  have hlenr : ∀ r ∈ own, r.length = w := hs.len
  have plt : ∀ r ∈ own, pl r < w := fun r h => by rw [← hs.len r h]; exact first_lt (pl_of hs h)
  have pne : ∀ r ∈ own, en r (pl r) ≠ 0 := fun r h => (first_some.mp (pl_of hs h)).1
  generalize hfd : (own.map fun r => D.int (pl r : Nat)) = firsts
  have key : Ok (F21 ns [.list (rows.map iD), .int (w : Int)]) S fun d S' => S' = S ∧ ∃ sols : List (List Int), d = .list (sols.map iD) ∧ (∀ s ∈ sols, s.length = w ∧ Prim (en s) ∧ ∃ f, f < w ∧ (∀ r ∈ own, pl r ≠ f) ∧ ∃ g, g ≠ 0 ∧ IsSol w own f fun i => g * en s i) ∧ sols.length ≤ w ∧ (∀ r ∈ own, pl r < w → sols.length + 1 ≤ w) ∧ ∀ f, f < w → (∀ r ∈ own, pl r ≠ f) → ∃ s ∈ sols, ∃ g, g ≠ 0 ∧ IsSol w own f fun i => g * en s i := by
    refine k_run rfl ?_
    refine k_seq (k_eq (a := .nx [.val (.list (rows.map iD)), .val (.int (w : Int)), .val (.list (own.map iD)), .un, .un, .un, .un, .un, .un, .un]) (S' := S) ?_ ?_)
    · rw [ex]
      refine (b_ok (a := .list (own.map iD)) (S' := S) ?_).trans rfl
      simp only [List.map, List.replicate, List.cons_append, List.nil_append, ev, evs, getv, List.getElem?_cons_zero, List.getElem?_cons_succ, l_some, b_ret, hT36]
      exact e36
    have hfc : ev (T21 ns) (.comp [("row", 8)] (.name 8) (.seq (.var 2)) .non (.call 17 (.cons (.var 8) .nil))) [.val (.list (rows.map iD)), .val (.int (w : Int)), .val (.list (own.map iD)), .un, .un, .un, .un, .un, .un, .un] S = .ok (.list firsts) S := by
      obtain ⟨ys, e, hrel⟩ := comp_rel (T := T21 ns) (vs := [("row", 8)]) (i := 8) (it := .seq (.var 2)) (elt := .call 17 (.cons (.var 8) .nil)) (env := [.val (.list (rows.map iD)), .val (.int (w : Int)), .val (.list (own.map iD)), .un, .un, .un, .un, .un, .un, .un]) (S := S) (ds := own.map iD) (R := fun d y => ∀ a ∈ own, d = iD a → y = .int (pl a : Nat)) (by simp [evI, ev, getv, iseq]) (by simp) (by simp) (fun d hd => by
        obtain ⟨r, hrm, rfl⟩ := List.mem_map.mp hd
        refine ⟨.int (pl r : Nat), ?_, fun a _ ha => by rw [iD_inj ha]⟩
        have e34 := F17_ret ns r (by rw [hlenr r hrm]; omega)
        rw [pl_of hs hrm] at e34
        simp only [wipeE, List.map, List.set_cons_succ, List.set_cons_zero, ev, evs, getv, List.getElem?_cons_zero, List.getElem?_cons_succ, l_some, b_ret, hT34, e34]
        rfl) (by simp; omega)
      rw [e]
      congr 2
      rw [← hfd]
      have aux : ∀ (l : List (List Int)) (ys : List D), (∀ a ∈ l, a ∈ own) → All2 (fun d y => ∀ a ∈ own, d = iD a → y = .int (pl a : Nat)) (l.map iD) ys → ys = l.map fun r => D.int (pl r : Nat) := by
        intro l
        induction l with
        | nil => intro ys _ h; cases h; rfl
        | cons a l ih =>
          intro ys hm h
          cases h with
          | cons h1 h2 => rw [h1 a (hm a (by simp)) rfl, ih _ (fun b hb => hm b (by simp [hb])) h2]; rfl
      exact aux own ys (fun a h => h) hrel
    refine k_seq (k_eq (a := .nx [.val (.list (rows.map iD)), .val (.int (w : Int)), .val (.list (own.map iD)), .un, .val (.list firsts), .own [], .un, .un, .un, .un]) (S' := S) ?_ ?_)
    · rw [ex]
      refine (b_ok (a := [.list firsts, .list []]) (S' := S) ?_).trans rfl
      rw [evs]
      refine (b_ok hfc).trans ?_
      rfl
    refine k_seq ?_
    have hrg : rng1O (.int (w : Int)) = some (rangeD 0 (w : Int)) := by
      have : rngOk 0 (w : Int) = true := by simp only [rngOk, Bool.and_eq_true, decide_eq_true_eq]; omega
      simp only [rng1O, this, if_true]
    have hrl : (rangeD 0 (w : Int)).length = w := by simp [rangeD]
    simp only [ex, evI, ev, k_bind, getv, List.getElem?_cons_zero, List.getElem?_cons_succ, l_some, k_ret, hrg]
    have hzip : zipO (.list (own.map iD)) (.list firsts) = some (own.map fun r => .tup [iD r, .int (pl r : Nat)]) := by
      rw [← hfd]
      show some (zipD (own.map iD) (own.map fun r => D.int (pl r : Nat))) = _
      unfold zipD
      rw [List.zip_map', List.map_map]; rfl
    refine k_for (fun n env S' => S' = S ∧ n ≤ w ∧ ∃ (sols : List (List Int)) (e3 e6 e7 e8 e9 : Slot), (nown e3 ∧ nown e8 ∧ nown e9) ∧ env = [.val (.list (rows.map iD)), .val (.int (w : Int)), .val (.list (own.map iD)), e3, .val (.list firsts), .own (sols.map iD), e6, e7, e8, e9] ∧ (∀ s ∈ sols, s.length = w ∧ Prim (en s) ∧ ∃ f, f < w ∧ (∀ r ∈ own, pl r ≠ f) ∧ ∃ g, g ≠ 0 ∧ IsSol w own f fun i => g * en s i) ∧ sols.length ≤ n ∧ (∀ r ∈ own, pl r < n → sols.length + 1 ≤ n) ∧ ∀ f, f < n → (∀ r ∈ own, pl r ≠ f) → ∃ s ∈ sols, ∃ g, g ≠ 0 ∧ IsSol w own f fun i => g * en s i) ⟨rfl, by omega, [], .un, .un, .un, .un, .un, ⟨nown_un, nown_un, nown_un⟩, rfl, by simp, by simp, fun r _ h => by omega, fun f hf => by omega⟩ ?_ ?_
    · rintro f d env S' hd ⟨rfl, hfw0, sols, e3, e6, e7, e8, e9, ⟨n3, n8, n9⟩, rfl, hsl, hsn, hsc, hsol⟩
      obtain ⟨rfl, hfw⟩ := range_get hd
      rw [Int.zero_add] at hfw ⊢
      have hfw' : f < w := by omega
      have hu := un_name (i := 3) (d := .int (f : Int)) (env := [.val (.list (rows.map iD)), .val (.int (w : Int)), .val (.list (own.map iD)), e3, .val (.list firsts), .own (sols.map iD), e6, e7, e8, e9]) rfl n3
      simp only [hu]
      have hmem := memI f own
      rw [hfd] at hmem
      refine k_seq ?_
      by_cases hfree : ∀ r ∈ own, pl r ≠ f
      · have hany : (own.any fun r => decide (pl r = f)) = false := by
          rw [List.any_eq_false]
          intro r hrm
          simpa using hfree r hrm
        rw [hany] at hmem
        obtain ⟨B, hB, bf1, bf2⟩ : ∃ B, B = 134 ∧ B * own.length + B + 1 ≤ 7420 ∧ B ≤ 1235 := ⟨134, rfl, by omega, by decide⟩
        rw [← hB] at hbd
        simp only [ex, evT, ev, k_bind, List.set_cons_succ, List.set_cons_zero, getv, List.getElem?_cons_zero, List.getElem?_cons_succ, l_some, k_ret, hmem, Bool.not_false, if_true]
        -- size
        refine k_seq (k_eq (a := .nx [.val (.list (rows.map iD)), .val (.int (w : Int)), .val (.list (own.map iD)), .val (.int (f : Int)), .val (.list firsts), .own (sols.map iD), .val (.int ((1 : Nat) : Int)), e7, e8, e9]) (S' := S') rfl ?_)
        refine k_seq ?_
        simp only [ex, evI, ev, k_bind, getv, List.getElem?_cons_zero, List.getElem?_cons_succ, l_some, k_ret, hzip]
        refine k_for (fun j env S'' => S'' = S' ∧ ∃ (s : Nat) (e8 e9 : Slot), (nown e8 ∧ nown e9) ∧ env = [.val (.list (rows.map iD)), .val (.int (w : Int)), .val (.list (own.map iD)), .val (.int (f : Int)), .val (.list firsts), .own (sols.map iD), .val (.int (s : Int)), e7, e8, e9] ∧ 0 < s ∧ s ≤ 2 ^ (B * j) ∧ ∀ r ∈ own.take j, en r (pl r) ∣ (s : Int)) ⟨rfl, 1, e8, e9, ⟨n8, n9⟩, rfl, by omega, by simp, by simp⟩ ?_ ?_
        · rintro j d env S'' hd ⟨rfl, s, e8, e9, ⟨n8, n9⟩, rfl, hs0, hsB, hdv⟩
          rw [List.getElem?_map] at hd
          obtain ⟨r, hrj, rfl⟩ := Option.map_eq_some_iff.mp hd
          obtain ⟨hj, hjr⟩ := List.getElem?_eq_some_iff.mp hrj
          have hrm : r ∈ own := hjr ▸ List.getElem_mem hj
          have hu := un_pair (i := 8) (j := 9) (a := iD r) (b := .int (pl r : Nat)) (env := [.val (.list (rows.map iD)), .val (.int (w : Int)), .val (.list (own.map iD)), .val (.int (f : Int)), .val (.list firsts), .own (sols.map iD), .val (.int (s : Int)), e7, e8, e9]) rfl n8 rfl n9
          simp only [hu]
          have a1 := at_i (l := r) (k := pl r) (by rw [hlenr r hrm]; exact plt r hrm)
          have hne := pne r hrm
          have hab := bd_en (hbd r hrm) (pl r)
          generalize ha : en r (pl r) = a at a1 hne hab
          have habs : blt .abs [.int a] = some (.int (a.natAbs : Int)) := by
            simp only [blt]
            congr 2
            split <;> omega
          have hjB : B * j ≤ 7420 := by
            have : B * j ≤ B * own.length := Nat.mul_le_mul_left _ (by omega)
            omega
          have e9' := F11_ret ns (s : Int) a (pow_le_big hab (by omega))
          have e9s : F11 ns [.int (s : Int), .int a] = ret (.int ((Nat.gcd s a.natAbs : Nat) : Int)) := e9'
          have hsp : s < 2 ^ 8000 := Nat.lt_of_le_of_lt hsB (Nat.pow_lt_pow_right (by decide) (by omega))
          have m1 : binop .mul (.int (s : Int)) (.int (a.natAbs : Int)) = some (.int ((s : Int) * (a.natAbs : Int))) := mul_okB (A := 8000) (B := B) (by simpa using hsp) (by simpa using hab) (by decide) (by omega)
          have g0 : 0 < Nat.gcd s a.natAbs := Nat.gcd_pos_of_pos_left _ hs0
          have g1 : Nat.gcd s a.natAbs ≤ a.natAbs := Nat.gcd_le_right _ (by omega)
          have hdk : divOk ((Nat.gcd s a.natAbs : Nat) : Int) = true := div_okB (by omega) (by
            show Nat.gcd s a.natAbs < _
            exact pow_le_big (Nat.lt_of_le_of_lt g1 hab) (by omega))
          have hdiv := o_div (i := (s : Int) * (a.natAbs : Int)) hdk
          rw [lcm_step hne] at hdiv
          refine k_seq (k_eq (a := .nx [.val (.list (rows.map iD)), .val (.int (w : Int)), .val (.list (own.map iD)), .val (.int (f : Int)), .val (.list firsts), .own (sols.map iD), .val (.int ((Nat.lcm s a.natAbs : Nat) : Int)), e7, .val (iD r), .val (.int (pl r : Nat))]) (S' := S'') ?_ ?_)
          · simp only [ex, List.set_cons_succ, List.set_cons_zero, ev, evs, getv, List.getElem?_cons_zero, List.getElem?_cons_succ, l_some, b_ret, a1, habs, m1, hT9, e9s, hdiv, store1]
            rfl
          · refine k_ret.mpr ⟨_, rfl, rfl, Nat.lcm s a.natAbs, _, _, ⟨nown_val _, nown_val _⟩, rfl, Nat.lcm_pos hs0 (by omega), ?_, fun r' hr' => ?_⟩
            · have l1 : Nat.lcm s a.natAbs ≤ s * a.natAbs := Nat.div_le_self _ _
              have l2 : s * a.natAbs ≤ 2 ^ (B * j) * 2 ^ B := Nat.mul_le_mul hsB (by omega)
              rw [two_pow_add] at l2
              rw [Nat.mul_add, Nat.mul_one]
              omega
            · rw [List.take_succ_eq_append_getElem hj] at hr'
              rcases List.mem_append.mp hr' with hr' | hr'
              · exact Int.dvd_trans (hdv r' hr') (Int.natCast_dvd_natCast.mpr (Nat.dvd_lcm_left _ _))
              · rw [List.mem_singleton.mp hr', hjr, ha]
                exact Int.ofNat_dvd_right.mpr (Nat.dvd_lcm_right _ _)
        · rintro env S'' ⟨rfl, s, e8, e9, ⟨n8, n9⟩, rfl, hs0, hsB, hdv⟩
          rw [List.length_map] at hsB hdv
          rw [List.take_length] at hdv
          have hz1 : ∀ a : D, sizeOk [a].length = true := fun _ => rfl
          have hmul : binop .mul (.list [.int 0]) (.int (w : Int)) = some (.list ((List.replicate w (0 : Int)).map .int)) := by
            have hc : (decide (0 ≤ (w : Int)) && decide ((w : Int) ≤ 1000) && decide ([D.int 0].length ≤ 1000)) = true := by
              simp only [Bool.and_eq_true, decide_eq_true_eq, List.length_cons, List.length_nil]; omega
            simp only [binop, hc, if_true]
            rw [Int.toNat_natCast, rep0]
          refine k_seq (k_eq (a := .nx [.val (.list (rows.map iD)), .val (.int (w : Int)), .val (.list (own.map iD)), .val (.int (f : Int)), .val (.list firsts), .own (sols.map iD), .val (.int (s : Int)), .own ((List.replicate w (0 : Int)).map .int), e8, e9]) (S' := S'') ?_ ?_)
          · simp only [ex, ev, evs, getv, List.getElem?_cons_zero, List.getElem?_cons_succ, l_some, b_ret, hz1, if_true, hmul, store1]
            rfl
          have hrl0 : (List.replicate w (0 : Int)).length = w := by simp
          refine k_seq (k_eq (a := .nx [.val (.list (rows.map iD)), .val (.int (w : Int)), .val (.list (own.map iD)), .val (.int (f : Int)), .val (.list firsts), .own (sols.map iD), .val (.int (s : Int)), .own (((List.replicate w (0 : Int)).set f (s : Int)).map .int), e8, e9]) (S' := S'') ?_ ?_)
          · have hset := set_i (u := List.replicate w (0 : Int)) (k := f) (x := (s : Int)) (by rw [hrl0]; exact hfw')
            simp only [ex, ev, getv, List.getElem?_cons_zero, List.getElem?_cons_succ, l_some, b_ret, hset]
            rfl
          refine k_seq ?_
          simp only [ex, evI, ev, k_bind, getv, List.getElem?_cons_zero, List.getElem?_cons_succ, l_some, k_ret, hzip]
          have hsp : s < 2 ^ (B * own.length + 1) := Nat.lt_of_le_of_lt hsB (Nat.pow_lt_pow_right (by decide) (by omega))
          refine k_for (fun j env S3 => S3 = S'' ∧ ∃ (u : List Int) (e8 e9 : Slot), (nown e8 ∧ nown e9) ∧ env = [.val (.list (rows.map iD)), .val (.int (w : Int)), .val (.list (own.map iD)), .val (.int (f : Int)), .val (.list firsts), .own (sols.map iD), .val (.int (s : Int)), .own (u.map .int), e8, e9] ∧ u.length = w ∧ en u f = (s : Int) ∧ (∀ r ∈ own.take j, en u (pl r) * en r (pl r) = -en r f * (s : Int)) ∧ (∀ i, i < w → i ≠ f → (∀ r ∈ own.take j, pl r ≠ i) → en u i = 0) ∧ bd 7420 u) ?_ ?_ ?_
          · refine ⟨rfl, _, e8, e9, ⟨n8, n9⟩, rfl, by simp, by rw [en_set (by rw [hrl0]; exact hfw'), if_pos rfl], by simp, fun i _ hne _ => by rw [en_set (by rw [hrl0]; exact hfw'), if_neg hne, en_rep], fun x hx => ?_⟩
            obtain ⟨i, _, rfl⟩ := mem_en hx
            rw [en_set (by rw [hrl0]; exact hfw')]
            split
            · show ((s : Nat) : Int).natAbs < _
              exact pow_le_big (by simpa using hsp) (by omega)
            · rw [en_rep]; exact Nat.two_pow_pos _
          · rintro j d env S3 hd ⟨rfl, u, e8, e9, ⟨n8, n9⟩, rfl, hul, huf, hup, huz, hub⟩
            rw [List.getElem?_map] at hd
            obtain ⟨r, hrj, rfl⟩ := Option.map_eq_some_iff.mp hd
            obtain ⟨hj, hjr⟩ := List.getElem?_eq_some_iff.mp hrj
            have hrm : r ∈ own := hjr ▸ List.getElem_mem hj
            have hu := un_pair (i := 8) (j := 9) (a := iD r) (b := .int (pl r : Nat)) (env := [.val (.list (rows.map iD)), .val (.int (w : Int)), .val (.list (own.map iD)), .val (.int (f : Int)), .val (.list firsts), .own (sols.map iD), .val (.int (s : Int)), .own (u.map .int), e8, e9]) rfl n8 rfl n9
            simp only [hu]
            have a1 := at_i (l := r) (k := pl r) (by rw [hlenr r hrm]; exact plt r hrm)
            have a2 := at_i (l := r) (k := f) (by rw [hlenr r hrm]; exact hfw')
            have hne := pne r hrm
            have hab := bd_en (hbd r hrm) (pl r)
            have hbf := bd_en (hbd r hrm) f
            have hbn : (-en r f).natAbs < 2 ^ B := by rw [Int.natAbs_neg]; exact hbf
            have m1 := mul_okB (A := B) (B := B * own.length + 1) hbn (y := (s : Int)) (by simpa using hsp) (by omega) (by omega)
            have hdk : divOk (en r (pl r)) = true := div_okB hne (pow_le_big hab (by omega))
            have hdiv := o_div (i := -en r f * (s : Int)) hdk
            have hdd : en r (pl r) ∣ -en r f * (s : Int) := Int.dvd_trans (hdv r hrm) (Int.dvd_mul_left _ _)
            have hex : en r (pl r) * ((-en r f * (s : Int)).fdiv (en r (pl r))) = -en r f * (s : Int) := by
              rw [Int.fdiv_eq_ediv_of_dvd hdd]
              exact Int.mul_ediv_cancel' hdd
            generalize (-en r f * (s : Int)).fdiv (en r (pl r)) = t at hdiv hex
            have hplu : pl r < u.length := by rw [hul]; exact plt r hrm
            have hset := set_i (u := u) (k := pl r) (x := t) hplu
            refine k_seq (k_eq (a := .nx [.val (.list (rows.map iD)), .val (.int (w : Int)), .val (.list (own.map iD)), .val (.int (f : Int)), .val (.list firsts), .own (sols.map iD), .val (.int (s : Int)), .own ((u.set (pl r) t).map .int), .val (iD r), .val (.int (pl r : Nat))]) (S' := S3) ?_ ?_)
            · simp only [ex, List.set_cons_succ, List.set_cons_zero, ev, getv, List.getElem?_cons_zero, List.getElem?_cons_succ, l_some, b_ret, a1, a2, m1, hdiv, hset]
              rfl
            have hfp : f ≠ pl r := fun e => hfree r hrm e.symm
            have htk : own.take (j + 1) = own.take j ++ [r] := by rw [List.take_succ_eq_append_getElem hj, hjr]
            refine k_ret.mpr ⟨_, rfl, rfl, u.set (pl r) t, _, _, ⟨nown_val _, nown_val _⟩, rfl, by simp [hul], by rw [en_set hplu, if_neg hfp, huf], fun r' hr' => ?_, fun i hi hif hr' => ?_, fun x hx => ?_⟩
            · rw [htk] at hr'
              rcases List.mem_append.mp hr' with hr' | hr'
              · obtain ⟨i', hi', e⟩ := List.getElem_of_mem hr'
                have hij : i' < j := by simp at hi'; omega
                rw [List.getElem_take] at e
                have hpp : pl r' ≠ pl r := by
                  rw [← e, ← hjr]
                  exact pl_ne hs (by omega) hj (by omega)
                rw [en_set hplu, if_neg hpp]
                exact hup r' hr'
              · rw [List.mem_singleton.mp hr', en_set hplu, if_pos rfl, Int.mul_comm]
                exact hex
            · rw [htk] at hr'
              have hip : i ≠ pl r := fun e => hr' r (by simp) e.symm
              rw [en_set hplu, if_neg hip]
              exact huz i hi hif fun r'' h'' => hr' r'' (by simp [h''])
            · obtain ⟨i, _, rfl⟩ := mem_en hx
              rw [en_set hplu]
              split
              · have h1 := abs_le_mul (x := t) hne
                rw [hex] at h1
                have h2 := mul_lt_pow (A := B) (B := B * own.length + 1) hbn (y := (s : Int)) (by simpa using hsp)
                exact pow_le_big (Nat.lt_of_le_of_lt h1 h2) (by omega)
              · exact bd_en hub i
          · rintro env S3 ⟨rfl, u, e8, e9, ⟨n8, n9⟩, rfl, hul, huf, hup, huz, hub⟩
            rw [List.length_map, List.take_length] at hup huz
            refine k_seq (k_eq (a := .nx [.val (.list (rows.map iD)), .val (.int (w : Int)), .val (.list (own.map iD)), .val (.int (f : Int)), .val (.list firsts), .own (sols.map iD), .val (.int (s : Int)), .val (iD u), e8, e9]) (S' := S3) rfl ?_)
            obtain ⟨q, g, e30, hg, hql, hgi, hqp⟩ := F18_ex ns u (bd_mono hub (by decide)) (by omega) S3
            refine k_seq (k_eq (a := .nx [.val (.list (rows.map iD)), .val (.int (w : Int)), .val (.list (own.map iD)), .val (.int (f : Int)), .val (.list firsts), .own ((sols ++ [q]).map iD), .val (.int (s : Int)), .val (iD u), e8, e9]) (S' := S3) ?_ ?_)
            · have hsz : sizeOk (sols.map iD).length = true := decide_eq_true (by simp; omega)
              have hcall : ev (T21 ns) (.call 18 (.cons (.var 7) .nil)) [.val (.list (rows.map iD)), .val (.int (w : Int)), .val (.list (own.map iD)), .val (.int (f : Int)), .val (.list firsts), .own (sols.map iD), .val (.int (s : Int)), .val (iD u), e8, e9] S3 = .ok (iD q) S3 := by
                simp only [ev, evs, getv, List.getElem?_cons_zero, List.getElem?_cons_succ, l_some, b_ret, hT30]
                exact e30
              simp only [ex, List.getElem?_cons_zero, List.getElem?_cons_succ]
              refine (b_ok hcall).trans ?_
              simp only [hsz, if_true]
              rw [List.map_append]
              rfl
            · have hqp' : Prim (en q) := hqp fun e0 => by
                have := first_none.mp e0 f
                rw [huf] at this
                omega
              have hS : IsSol w own f fun i => g * en q i := by
                have efun : (fun i => g * en q i) = en u := funext fun i => hgi i
                rw [efun]
                refine ⟨by rw [huf]; omega, fun r hrm q' hq' => ?_, fun i hi hif hfi => ?_⟩
                · have hpq : q' = pl r := by
                    have := pl_of hs hrm
                    rw [hq'] at this
                    exact Option.some.inj this
                  rw [hpq, huf]
                  exact hup r hrm
                · exact huz i hi hif fun r hrm e => hfi r hrm (by rw [pl_of hs hrm, e])
              refine k_ret.mpr (k_ret.mpr ⟨_, rfl, rfl, by omega, sols ++ [q], _, _, _, _, _, ⟨nown_val _, n8, n9⟩, rfl, fun x hx => ?_, by simp; omega, fun r hrm hlt => ?_, fun f' hf' hfr' => ?_⟩)
              · rcases List.mem_append.mp hx with hx | hx
                · exact hsl x hx
                · rw [List.mem_singleton.mp hx]
                  exact ⟨by omega, hqp', f, hfw', hfree, g, hg, hS⟩
              · have h1 := hfree r hrm
                have h2 := hsc r hrm (by omega)
                simp; omega
              · by_cases e : f' = f
                · subst e
                  exact ⟨q, by simp, g, hg, hS⟩
                · obtain ⟨x, hx, g', hg', hS⟩ := hsol f' (by omega) hfr'
                  exact ⟨x, by simp [hx], g', hg', hS⟩
      · have hany : (own.any fun r => decide (pl r = f)) = true := by
          rw [List.any_eq_true]
          refine Classical.byContradiction fun hc => hfree fun r hrm e => hc ⟨r, hrm, decide_eq_true e⟩
        rw [hany] at hmem
        refine k_eq (a := .nx [.val (.list (rows.map iD)), .val (.int (w : Int)), .val (.list (own.map iD)), .val (.int (f : Int)), .val (.list firsts), .own (sols.map iD), e6, e7, e8, e9]) (S' := S') ?_ ?_
        · simp only [ex, exs, evT, ev, List.set_cons_succ, List.set_cons_zero, getv, List.getElem?_cons_zero, List.getElem?_cons_succ, l_some, b_ret, hmem, Bool.not_true, Bool.false_eq_true, if_false]
          rfl
        · refine k_ret.mpr ⟨_, rfl, rfl, by omega, sols, _, _, _, _, _, ⟨nown_val _, n8, n9⟩, rfl, hsl, by omega, fun r hrm hlt => by omega, fun f' hf' hfr' => ?_⟩
          by_cases e : f' = f
          · exact absurd (e ▸ hfr') hfree
          · exact hsol f' (by omega) hfr'
    · rintro env S' ⟨rfl, _, sols, e3, e6, e7, e8, e9, _, rfl, hsl, hsn, hsc, hsol⟩
      rw [hrl] at hsn hsol hsc
      exact k_eq (a := .rt (.list (sols.map iD))) (S' := S') rfl ⟨rfl, sols, rfl, hsl, hsn, hsc, hsol⟩
  obtain ⟨d, S', e, rfl, sols, rfl, h1, h2, h2c, h3⟩ := key
  have hfr_of : ∀ f, (∀ r ∈ own, pl r ≠ f) → ∀ r ∈ own, firstF r ≠ some f := fun f hf r hrm e => hf r hrm (by
    have := pl_of hs hrm
    rw [e] at this
    exact (Option.some.inj this).symm)
  refine ⟨sols, e, fun s hsm => ?_, h2, fun c v hc hv => ?_, fun hne => ?_, fun he f hf => ?_⟩
  · obtain ⟨q1, q2, f, hf, hfree, g, hg, hS⟩ := h1 s hsm
    have hS' := IsSol.un hg hS
    refine ⟨q1, fun K hK1 hK c => ?_, q2, fun r hrm => ?_⟩
    · have b1 := hbas.sol_bound (fun r h => (hr r (hRr r h)).2.1) hf (hfr_of f hfree) hS' (fun i hi => en_out (by omega)) q2 c
      have b2 : (own.length * 20) ^ own.length ≤ (K * 20) ^ own.length := Nat.pow_le_pow_left (Nat.mul_le_mul_right _ (by omega)) _
      have b3 : (K * 20) ^ own.length ≤ (K * 20) ^ K := Nat.pow_le_pow_right (by omega) (by omega)
      omega
    · exact (hin r hrm).null (sol_null hs hf (hfr_of f hfree) hS')
  · refine span hs (fun f hf hfr => ?_) (fun r hrm => (hout r hrm).null hv)
    obtain ⟨s, hsm, g, hg, hS⟩ := h3 f hf (fun r hrm e => hfr r hrm (by rw [pl_of hs hrm, e]))
    refine ⟨_, hS, ?_⟩
    rw [dot_scale_r (g := g) (v := en s) (fun i => rfl), hc s hsm, Int.mul_zero]
  · have hone : own ≠ [] := fun e0 => by
      cases hrw : rows with
      | nil => exact hne hrw
      | cons r rest =>
        have hr1 := hin r (by rw [hrw]; simp)
        rw [e0] at hr1
        have hz : ∀ c, c < w → en r c = 0 := hr1.uniq (own := []) (w := w) ⟨by simp, by simp, by simp⟩ (by simp)
        have hp := (hr r (by rw [hrw]; simp)).2.2 2 (fun i => by
          by_cases hi : i < w
          · rw [hz i hi]; exact Int.dvd_zero _
          · rw [en_out (by have := (hr r (by rw [hrw]; simp)).1; omega)]; exact Int.dvd_zero _)
        exact absurd hp (by decide)
    cases hown : own with
    | nil => exact absurd hown hone
    | cons r rest => exact h2c r (by rw [hown]; simp) (plt r (by rw [hown]; simp))
  · have hown : own = [] := by
      have : own.length = 0 := by rw [he] at hol; simpa using hol
      exact List.length_eq_zero_iff.mp this
    obtain ⟨s, hsm, g, hg, hS⟩ := h3 f hf (by rw [hown]; simp)
    have hS' := IsSol.un hg hS
    refine ⟨s, hsm, hS'.1, fun i hif => ?_⟩
    by_cases hi : i < w
    · exact hS'.2.2 i hi hif (by rw [hown]; simp)
    · exact en_out (by have := (h1 s hsm).1; omega)
end K21

/-! Rows of lines, gaps, kinds of pairs. -/
namespace K21
open Q7 Lin
def vx (v : Nat → Int) (k : Nat) : Int := if k = 0 then 0 else v (2 * k - 2)
def vy (v : Nat → Int) (k : Nat) : Int := if k = 0 then 0 else v (2 * k - 1)
def rowOf (w i j : Nat) (a b : Int) : List Int :=
  if i = 0 then ((List.replicate w (0 : Int)).set (2 * j - 2) (1 * b)).set (2 * j - 1) (-1 * a)
  else ((((List.replicate w (0 : Int)).set (2 * j - 2) (1 * b)).set (2 * j - 1) (-1 * a)).set (2 * i - 2) (-1 * b)).set (2 * i - 1) (- -1 * a)
theorem dot_set {w : Nat} {u : List Int} {k : Nat} {x : Int} {v : Nat → Int} (hk : k < u.length) (hw : u.length = w) : dot w (en (u.set k x)) v = dot w (en u) v + (x - en u k) * v k := by
  have e : en (u.set k x) = fun n => 1 * en u n + 1 * (fun m => if m = k then x - en u k else 0) n := by
    funext n
    rw [en_set hk]
    show _ = 1 * en u n + 1 * (if n = k then x - en u k else 0)
    by_cases h : n = k
    · subst h
      rw [if_pos rfl, if_pos rfl]; omega
    · rw [if_neg h, if_neg h]; omega
  have e2 : dot w (fun m => if m = k then x - en u k else 0) v = (x - en u k) * v k := by
    unfold dot
    rw [sum_one (a := k) (by omega) fun i _ hne => by
      show (if i = k then x - en u k else 0) * v i = 0
      rw [if_neg hne, Int.zero_mul]]
    show (if k = k then x - en u k else 0) * v k = _
    rw [if_pos rfl]
  rw [e, dot_lin, Int.one_mul, Int.one_mul, e2]
theorem dot_rep (w : Nat) (v : Nat → Int) : dot w (en (List.replicate w (0 : Int))) v = 0 := sum_zero fun i _ => by
  show en _ i * v i = 0
  rw [en_rep, Int.zero_mul]
theorem dot_row {w i j : Nat} {a b : Int} {v : Nat → Int} (hij : i < j) (hj : 2 * j - 1 < w) : dot w (en (rowOf w i j a b)) v = b * (vx v j - vx v i) - a * (vy v j - vy v i) := by
  have hj0 : j ≠ 0 := by omega
  have l0 : (List.replicate w (0 : Int)).length = w := by simp
  unfold rowOf vx vy
  rw [if_neg hj0, if_neg hj0]
  by_cases hi : i = 0
  · rw [if_pos hi, if_pos hi, if_pos hi]
    rw [dot_set (by simp; omega) (by simp), dot_set (by simp; omega) (by simp), dot_rep, en_set (by simp; omega), if_neg (by omega), en_rep, en_rep]
    simp [Int.sub_eq_add_neg, Int.neg_mul]
  · rw [if_neg hi, if_neg hi, if_neg hi]
    rw [dot_set (by simp; omega) (by simp), dot_set (by simp; omega) (by simp), dot_set (by simp; omega) (by simp), dot_set (by simp; omega) (by simp), dot_rep]
    rw [en_set (k := 2 * i - 2) (i := 2 * i - 1) (by simp; omega), if_neg (by omega), en_set (k := 2 * j - 1) (i := 2 * i - 1) (by simp; omega), if_neg (by omega), en_set (k := 2 * j - 2) (i := 2 * i - 1) (by simp; omega), if_neg (by omega), en_rep]
    rw [en_set (k := 2 * j - 1) (i := 2 * i - 2) (by simp; omega), if_neg (by omega), en_set (k := 2 * j - 2) (i := 2 * i - 2) (by simp; omega), if_neg (by omega), en_rep]
    rw [en_set (k := 2 * j - 2) (i := 2 * j - 1) (by simp; omega), if_neg (by omega), en_rep, en_rep]
    rw [Int.mul_sub, Int.mul_sub]
    simp [Int.sub_eq_add_neg, Int.neg_mul, Int.neg_add]
    omega
theorem row_len (w i j : Nat) (a b : Int) : (rowOf w i j a b).length = w := by
  unfold rowOf
  split <;> simp
theorem row_bd {w i j : Nat} {a b : Int} (ha : small a) (hb : small b) (hj : 2 * j - 1 < w) (hij : i < j) : bd 5 (rowOf w i j a b) := by
  have key : ∀ (u : List Int) (k : Nat) (x : Int), k < u.length → bd 5 u → x.natAbs < 2 ^ 5 → bd 5 (u.set k x) := by
    intro u k x hk hu hx y hy
    obtain ⟨n, _, rfl⟩ := mem_en hy
    rw [en_set hk]
    split
    · exact hx
    · exact bd_en hu n
  have b0 : bd 5 (List.replicate w (0 : Int)) := fun x hx => by
    rw [(List.mem_replicate.mp hx).2]; decide
  have ha' := ha.1
  have ha2 := ha.2
  have hb' := hb.1
  have hb2 := hb.2
  unfold rowOf
  split
  · exact key _ _ _ (by simp; omega) (key _ _ _ (by simp; omega) b0 (by omega)) (by omega)
  · exact key _ _ _ (by simp; omega) (key _ _ _ (by simp; omega) (key _ _ _ (by simp; omega) (key _ _ _ (by simp; omega) b0 (by omega)) (by omega)) (by omega)) (by omega)
def put2 : CSs := (.cons (.ite (.cmp .gt (.var 7) (.int 0)) (.cons (.put 4 (.bin .sub (.bin .mul (.int 2) (.var 7)) (.int 2)) (.bin .mul (.var 8) (.var 6))) (.cons (.put 4 (.bin .sub (.bin .mul (.int 2) (.var 7)) (.int 1)) (.bin .mul (.neg (.var 8)) (.var 5))) .nil)) .nil) .nil)
theorem put2_ok (T : List Fn) (s0 s1 s2 s3 : Slot) (u : List Int) (a b sg : Int) (k : Nat) (ha : small a) (hb : small b) (hs : sg = 1 ∨ sg = -1) (hk0 : 0 < k) (hk : 2 * k - 1 < u.length) (hk9 : k ≤ 9) (S : Sta) :
    exs T fuel put2 [s0, s1, s2, s3, .own (u.map .int), .val (.int a), .val (.int b), .val (.int (k : Int)), .val (.int sg)] S = .ok (.nx [s0, s1, s2, s3, .own (((u.set (2 * k - 2) (sg * b)).set (2 * k - 1) (-sg * a)).map .int), .val (.int a), .val (.int b), .val (.int (k : Int)), .val (.int sg)]) S := by
  have hb' := hb.1
  have hb2 := hb.2
  have ha' := ha.1
  have ha2 := ha.2
  have m1 : binop .mul (.int sg) (.int b) = some (.int (sg * b)) := o_mul (mul_sm (by omega) (by omega))
  have m2 : binop .mul (.int (-sg)) (.int a) = some (.int (-sg * a)) := o_mul (mul_sm (by omega) (by omega))
  have m3 : binop .mul (.int 2) (.int (k : Int)) = some (.int (2 * (k : Int))) := o_mul (mul_sm (by decide) (by omega))
  have t : (0 : Int) < (k : Int) := by omega
  have i1 : (2 * (k : Int) - 2) = ((2 * k - 2 : Nat) : Int) := by omega
  have i2 : (2 * (k : Int) - 1) = ((2 * k - 1 : Nat) : Int) := by omega
  have h1 := set_i (u := u) (k := 2 * k - 2) (x := sg * b) (by omega)
  have h2 := set_i (u := u.set (2 * k - 2) (sg * b)) (k := 2 * k - 1) (x := -sg * a) (by simp; omega)
  unfold put2
  simp only [exs, ex, evT, ev, getv, List.getElem?_cons_zero, List.getElem?_cons_succ, l_some, b_ret, c_gt, decide_eq_true t, if_true, m1, m2, m3, o_sub, i1, i2, h1, h2, List.set_cons_succ, List.set_cons_zero]
  rfl
theorem put2_skip (T : List Fn) (s0 s1 s2 s3 s4 s5 s6 s8 : Slot) (S : Sta) : exs T fuel put2 [s0, s1, s2, s3, s4, s5, s6, .val (.int 0), s8] S = .ok (.nx [s0, s1, s2, s3, s4, s5, s6, .val (.int 0), s8]) S := by
  simp [put2, exs, ex, evT, ev, getv]
theorem F22_ret (ns : List Int) (p i j : Nat) (a b : Int) (ha : small a) (hb : small b) (hij : i < j) (hjp : j < p) (hp : p ≤ 9) : F22 ns [.int (p : Int), .int (i : Int), .int (j : Int), prD (a, b)] = ret (iD (rowOf (2 * p - 2) i j a b)) := by
  funext S
  have m3 : binop .mul (.int 2) (.int (p : Int)) = some (.int (2 * (p : Int))) := o_mul (mul_sm (by decide) (by omega))
  have hmul : binop .mul (.list [.int 0]) (.int (2 * (p : Int) - 2)) = some (.list ((List.replicate (2 * p - 2) (0 : Int)).map .int)) := by
    have hc : (decide (0 ≤ (2 * (p : Int) - 2)) && decide ((2 * (p : Int) - 2) ≤ 1000) && decide ([D.int 0].length ≤ 1000)) = true := by
      simp only [Bool.and_eq_true, decide_eq_true_eq, List.length_cons, List.length_nil]; omega
    simp only [binop, hc, if_true]
    rw [show (2 * (p : Int) - 2).toNat = 2 * p - 2 by omega, rep0]
  have hz1 : ∀ a : D, sizeOk [a].length = true := fun _ => rfl
  refine r_rt rfl ?_
  refine (x_nx (env' := [.val (.int (p : Int)), .val (.int (i : Int)), .val (.int (j : Int)), .val (prD (a, b)), .un, .val (.int a), .val (.int b), .un, .un]) (S' := S) rfl).trans ?_
  refine (x_nx (env' := [.val (.int (p : Int)), .val (.int (i : Int)), .val (.int (j : Int)), .val (prD (a, b)), .own ((List.replicate (2 * p - 2) (0 : Int)).map .int), .val (.int a), .val (.int b), .un, .un]) (S' := S) ?_).trans ?_
  · simp only [ex, ev, evs, getv, List.getElem?_cons_zero, List.getElem?_cons_succ, l_some, b_ret, hz1, if_true, m3, o_sub, hmul, store1]
    rfl
  have hloop : ex (T22 ns) fuel (.for_ (.tup (.cons (.name 7) (.cons (.name 8) .nil))) (.seq (.tup (.cons (.tup (.cons (.var 2) (.cons (.int 1) .nil))) (.cons (.tup (.cons (.var 1) (.cons (.neg (.int 1)) .nil))) .nil)))) put2) [.val (.int (p : Int)), .val (.int (i : Int)), .val (.int (j : Int)), .val (prD (a, b)), .own ((List.replicate (2 * p - 2) (0 : Int)).map .int), .val (.int a), .val (.int b), .un, .un] S = .ok (.nx [.val (.int (p : Int)), .val (.int (i : Int)), .val (.int (j : Int)), .val (prD (a, b)), .own ((rowOf (2 * p - 2) i j a b).map .int), .val (.int a), .val (.int b), .val (.int (i : Int)), .val (.int (-1))]) S := by
    have hit : evI (T22 ns) (.seq (.tup (.cons (.tup (.cons (.var 2) (.cons (.int 1) .nil))) (.cons (.tup (.cons (.var 1) (.cons (.neg (.int 1)) .nil))) .nil)))) [.val (.int (p : Int)), .val (.int (i : Int)), .val (.int (j : Int)), .val (prD (a, b)), .own ((List.replicate (2 * p - 2) (0 : Int)).map .int), .val (.int a), .val (.int b), .un, .un] = ret [.tup [.int (j : Int), .int 1], .tup [.int (i : Int), .int (-1)]] := rfl
    rw [ex, hit, b_ret, forLoop]
    refine (b_ok (put2_ok (T22 ns) _ _ _ _ (List.replicate (2 * p - 2) (0 : Int)) a b 1 j ha hb (.inl rfl) (by omega) (by simp; omega) (by omega) S)).trans ?_
    simp only [forLoop]
    by_cases hi : i = 0
    · subst hi
      refine (b_ok (put2_skip (T22 ns) _ _ _ _ _ _ _ _ S)).trans ?_
      rfl
    · refine (b_ok (put2_ok (T22 ns) _ _ _ _ (((List.replicate (2 * p - 2) (0 : Int)).set (2 * j - 2) (1 * b)).set (2 * j - 1) (-1 * a)) a b (-1) i ha hb (.inr rfl) (by omega) (by simp; omega) (by omega) S)).trans ?_
      unfold rowOf
      rw [if_neg hi]
      rfl
  refine (x_nx hloop).trans ?_
  rfl
def lineRow (w : Nat) (l : Li) : List Int := rowOf w l.x.toNat l.y.toNat l.a l.b
def rowDd (w : Nat) : D → D
  | .tup [.int x, .int y, .tup [.int a, .int b], _] => iD (rowOf w x.toNat y.toNat a b)
  | _ => .none
theorem F23_ret (ns : List Int) (p : Nat) (ls : List Li) (hp : p ≤ 9) (hn : ls.length ≤ 16) (hl : ∀ l ∈ ls, isLi (p : Int) l = true) : F23 ns [tellD (p : Int) ls] = ret (.list ((ls.map (lineRow (2 * p - 2))).map iD)) := by
  have hT : (T23 ns)[22]? = some (F22 ns) := rfl
  funext S
  have at0 : getitem (tellD (p : Int) ls) (.int 0) = some (.int (p : Int)) := rfl
  have at1 : getitem (tellD (p : Int) ls) (.int 1) = some (.tup (ls.map liD)) := rfl
  generalize hD : tellD (p : Int) ls = d at at0 at1
  have hc : ev (T23 ns) (.comp [("i", 1), ("j", 2), ("direction", 3), ("sense", 4)] (.tup (.cons (.name 1) (.cons (.name 2) (.cons (.name 3) (.cons (.name 4) .nil))))) (.seq (.idx (.var 0) (.int 1))) .non (.call 22 (.cons (.idx (.var 0) (.int 0)) (.cons (.var 1) (.cons (.var 2) (.cons (.var 3) .nil)))))) [.val d, .un, .un, .un, .un] S = .ok (.list ((ls.map (lineRow (2 * p - 2))).map iD)) S := by
    refine (comp_gen (ds := ls.map liD) (fun _ => true) (rowDd (2 * p - 2)) (by simp [evI, ev, getv, iseq, at1]) (fun x hx => ?_) (by simp; omega)).trans ?_
    · obtain ⟨l, hm, rfl⟩ := List.mem_map.mp hx
      obtain ⟨⟨x0, x1, y0, y1⟩, ha, hb, _⟩ := li_parts (hl l hm)
      refine ⟨[.val d, .val (.int l.x), .val (.int l.y), .val (prD (l.a, l.b)), .val (.bool l.s)], rfl, rfl, fun _ => ?_⟩
      have e := F22_ret ns p l.x.toNat l.y.toNat l.a l.b ha hb (by omega) (by omega) hp
      rw [Int.toNat_of_nonneg x0, Int.toNat_of_nonneg (by omega)] at e
      simp only [ev, evs, getv, List.getElem?_cons_zero, List.getElem?_cons_succ, l_some, b_ret, at0, hT, e]
      rfl
    · rw [List.filter_eq_self.mpr (fun _ _ => rfl), List.map_map, List.map_map]; rfl
  refine r_rt rfl ?_
  show exs (T23 ns) fuel c23 [.val d, .un, .un, .un, .un] S = _
  refine x_rt ?_
  rw [ex]
  exact (b_ok hc).trans rfl
/-- drawings, as vectors -/
def Drawn (ls : List Li) (v : Nat → Int) : Prop := ∀ l ∈ ls, l.b * (vx v l.y.toNat - vx v l.x.toNat) - l.a * (vy v l.y.toNat - vy v l.x.toNat) = 0
theorem row_at {w i j : Nat} {a b : Int} (hij : i < j) (hj : 2 * j - 1 < w) : en (rowOf w i j a b) (2 * j - 2) = 1 * b ∧ en (rowOf w i j a b) (2 * j - 1) = -1 * a := by
  unfold rowOf
  split
  · constructor
    · rw [en_set (by simp; omega), if_neg (by omega), en_set (by simp; omega), if_pos rfl]
    · rw [en_set (by simp; omega), if_pos rfl]
  · constructor
    · rw [en_set (by simp; omega), if_neg (by omega), en_set (by simp; omega), if_neg (by omega), en_set (by simp; omega), if_neg (by omega), en_set (by simp; omega), if_pos rfl]
    · rw [en_set (by simp; omega), if_neg (by omega), en_set (by simp; omega), if_neg (by omega), en_set (by simp; omega), if_pos rfl]
theorem row_prim {w i j : Nat} {a b : Int} (hij : i < j) (hj : 2 * j - 1 < w) (hg : Nat.gcd a.natAbs b.natAbs = 1) : Prim (en (rowOf w i j a b)) := by
  intro k hk
  obtain ⟨h1, h2⟩ := row_at (a := a) (b := b) hij hj
  have k1 := hk (2 * j - 2)
  have k2 := hk (2 * j - 1)
  rw [h1] at k1
  rw [h2] at k2
  have d1 : k.natAbs ∣ b.natAbs := by
    have := Int.natAbs_dvd_natAbs.mpr k1
    simpa using this
  have d2 : k.natAbs ∣ a.natAbs := by
    have := Int.natAbs_dvd_natAbs.mpr k2
    simpa using this
  have := Nat.dvd_gcd d2 d1
  rw [hg] at this
  exact Nat.dvd_one.mp this
theorem row_le {w i j : Nat} {a b : Int} (ha : small a) (hb : small b) (hj : 2 * j - 1 < w) (hij : i < j) : ∀ c, (en (rowOf w i j a b) c).natAbs ≤ 20 := by
  have key : ∀ (u : List Int) (k : Nat) (x : Int), k < u.length → (∀ c, (en u c).natAbs ≤ 20) → x.natAbs ≤ 20 → ∀ c, (en (u.set k x) c).natAbs ≤ 20 := by
    intro u k x hk hu hx c
    rw [en_set hk]
    split
    · exact hx
    · exact hu c
  have b0 : ∀ c, (en (List.replicate w (0 : Int)) c).natAbs ≤ 20 := fun c => by rw [en_rep]; decide
  have ha' := ha.1
  have ha2 := ha.2
  have hb' := hb.1
  have hb2 := hb.2
  unfold rowOf
  split
  · exact key _ _ _ (by simp; omega) (key _ _ _ (by simp; omega) b0 (by omega)) (by omega)
  · exact key _ _ _ (by simp; omega) (key _ _ _ (by simp; omega) (key _ _ _ (by simp; omega) (key _ _ _ (by simp; omega) b0 (by omega)) (by omega)) (by omega)) (by omega)
/-- what basis_of gives -/
structure Basis (p : Nat) (ls : List Li) (sols : List (List Int)) : Prop where
  each : ∀ s ∈ sols, s.length = 2 * p - 2 ∧ (∀ K, 1 ≤ K → ls.length ≤ K → ∀ c, (en s c).natAbs ≤ (K * 20) ^ K) ∧ Drawn ls (en s)
  most : sols.length ≤ 2 * p - 2
  span : ∀ c v, (∀ s ∈ sols, dot (2 * p - 2) c (en s) = 0) → Drawn ls v → dot (2 * p - 2) c v = 0
  less : ls ≠ [] → sols.length < 2 * p - 2
  none : ls = [] → ∀ f, f < 2 * p - 2 → ∃ s ∈ sols, en s f ≠ 0 ∧ ∀ i, i ≠ f → en s i = 0
theorem F24_ex (ns : List Int) (p : Nat) (ls : List Li) (hp2 : 2 ≤ p) (hp : p ≤ 9) (hn : ls.length ≤ 16) (hl : ∀ l ∈ ls, isLi (p : Int) l = true) (S : Sta) : ∃ sols : List (List Int), F24 ns [tellD (p : Int) ls] S = .ok (.list (sols.map iD)) S ∧ Basis p ls sols := by
  have hT21 : (T24 ns)[21]? = some (F21 ns) := rfl
  have hT23 : (T24 ns)[23]? = some (F23 ns) := rfl
  have lp : ∀ l ∈ ls, l.x.toNat < l.y.toNat ∧ l.y.toNat < p ∧ small l.a ∧ small l.b ∧ Nat.gcd l.a.natAbs l.b.natAbs = 1 := fun l hm => by
    obtain ⟨⟨x0, x1, y0, y1⟩, ha, hb, hg⟩ := li_parts (hl l hm)
    exact ⟨by omega, by omega, ha, hb, hg⟩
  obtain ⟨sols, e37, h1, h2, h3, h4, h5⟩ := F21_ex ns (ls.map (lineRow (2 * p - 2))) (2 * p - 2) (by omega) (fun r hr => by
    obtain ⟨l, hm, rfl⟩ := List.mem_map.mp hr
    obtain ⟨q1, q2, q3, q4, q5⟩ := lp l hm
    exact ⟨row_len _ _ _ _ _, row_le q3 q4 (by omega) q1, row_prim q1 (by omega) q5⟩) (by simpa using hn) S
  have e39 := F23_ret ns p ls (by omega) (by omega) hl
  have at0 : getitem (tellD (p : Int) ls) (.int 0) = some (.int (p : Int)) := rfl
  have m3 : binop .mul (.int 2) (.int (p : Int)) = some (.int (2 * (p : Int))) := o_mul (mul_sm (by decide) (by omega))
  have i1 : (2 * (p : Int) - 2) = ((2 * p - 2 : Nat) : Int) := by omega
  have drawn : ∀ v, (∀ r ∈ ls.map (lineRow (2 * p - 2)), dot (2 * p - 2) (en r) v = 0) ↔ Drawn ls v := fun v => by
    constructor
    · intro h l hm
      obtain ⟨q1, q2, _⟩ := lp l hm
      have := h (lineRow (2 * p - 2) l) (List.mem_map.mpr ⟨l, hm, rfl⟩)
      unfold lineRow at this
      rw [dot_row q1 (by omega)] at this
      exact this
    · intro h r hr
      obtain ⟨l, hm, rfl⟩ := List.mem_map.mp hr
      obtain ⟨q1, q2, _⟩ := lp l hm
      unfold lineRow
      rw [dot_row q1 (by omega)]
      exact h l hm
  refine ⟨sols, ?_, fun s hs => ?_, h2, fun c v hc hv => h3 c v hc ((drawn v).mpr hv), fun hne => h4 (by simpa using hne), fun he => h5 (by simpa using he)⟩
  · refine r_rt rfl ?_
    refine x_rt ?_
    rw [ex]
    refine (b_ok (a := .list (sols.map iD)) (S' := S) ?_).trans rfl
    simp only [List.map, List.replicate, List.cons_append, List.nil_append, ev, evs, getv, List.getElem?_cons_zero, List.getElem?_cons_succ, l_some, b_ret, hT23, e39, at0, m3, o_sub, i1, hT21]
    exact e37
  · obtain ⟨q1, q2, _, q4⟩ := h1 s hs
    exact ⟨q1, fun K hK1 hK => q2 K hK1 (by simpa using hK), (drawn _).mp q4⟩
end K21

/-! Fractions, places, what fits. -/
namespace K21
open Q7
theorem big_pow {b k : Nat} (h : b < 2 ^ k) (hk : k ≤ 100000) : b < 2 ^ 100000 := Nat.lt_of_lt_of_le h (Nat.pow_le_pow_right (by decide) hk)
def fracF (a b : Int) : Int × Int := (a.fdiv (Nat.gcd a.natAbs b.natAbs : Nat), b.fdiv (Nat.gcd a.natAbs b.natAbs : Nat))
theorem F25_ret (ns : List Int) (a b : Int) (h0 : 0 < b) (h1 : b.natAbs < 2 ^ 8000) : F25 ns [.int a, .int b] = ret (prD (fracF a b)) := by
  have hT : (T25 ns)[11]? = some (F11 ns) := rfl
  have h2 := F11_ret ns a b (big_pow (k := 8000) h1 (by decide))
  have g0 : 0 < Nat.gcd a.natAbs b.natAbs := Nat.gcd_pos_of_pos_right _ (by omega)
  have g1 : Nat.gcd a.natAbs b.natAbs ≤ b.natAbs := Nat.gcd_le_right _ (by omega)
  have hd : divOk ((Nat.gcd a.natAbs b.natAbs : Nat) : Int) = true := div_okB (by omega) (pow_le_big (k := 8000) (by show Nat.gcd a.natAbs b.natAbs < _; omega) (by decide))
  funext S
  simp [F25, Q7.run, c25, exs, ex, ev, evs, getv, hT, h2, store1, o_div hd, sizeOk, prD, fracF]
def plusF (q r : Int × Int) : Int × Int := fracF (q.1 * r.2 + r.1 * q.2) (q.2 * r.2)
def lessF (q r : Int × Int) : Int × Int := plusF q (-r.1, r.2)
def timesF (q r : Int × Int) : Int × Int := fracF (q.1 * r.1) (q.2 * r.2)
def fb (q : Int × Int) : Prop := q.1.natAbs < 2 ^ 90 ∧ 0 < q.2 ∧ q.2.natAbs < 2 ^ 90
theorem den_ok {q r : Int × Int} (hq : fb q) (hr : fb r) : 0 < q.2 * r.2 ∧ (q.2 * r.2).natAbs < 2 ^ 8000 := ⟨Int.mul_pos hq.2.1 hr.2.1, pow_le_big (mul_lt_pow hq.2.2 hr.2.2) (by decide)⟩
theorem at_p0 (q : Int × Int) : getitem (prD q) (.int 0) = some (.int q.1) := rfl
theorem at_p1 (q : Int × Int) : getitem (prD q) (.int 1) = some (.int q.2) := rfl
theorem F44_ret (ns : List Int) (q r : Int × Int) (hq : fb q) (hr : fb r) : F44 ns [prD q, prD r] = ret (prD (plusF q r)) := by
  have hT : (T44 ns)[25]? = some (F25 ns) := rfl
  have d := den_ok hq hr
  have e := F25_ret ns (q.1 * r.2 + r.1 * q.2) (q.2 * r.2) d.1 d.2
  have m1 : binop .mul (.int q.1) (.int r.2) = some (.int (q.1 * r.2)) := mul_okB hq.1 hr.2.2 (by decide) (by decide)
  have m2 : binop .mul (.int r.1) (.int q.2) = some (.int (r.1 * q.2)) := mul_okB hr.1 hq.2.2 (by decide) (by decide)
  have m3 : binop .mul (.int q.2) (.int r.2) = some (.int (q.2 * r.2)) := mul_okB hq.2.2 hr.2.2 (by decide) (by decide)
  funext S
  simp [F44, Q7.run, c44, exs, ex, ev, evs, getv, hT, at_p0, at_p1, m1, m2, m3, e, plusF]
theorem F45_ret (ns : List Int) (q r : Int × Int) (hq : fb q) (hr : fb r) : F45 ns [prD q, prD r] = ret (prD (lessF q r)) := by
  have hT : (T45 ns)[44]? = some (F44 ns) := rfl
  have e := F44_ret ns q (-r.1, r.2) hq ⟨by have := hr.1; simp; exact this, hr.2⟩
  have e' : F44 ns [prD q, .tup [.int (-r.1), .int r.2]] = ret (prD (lessF q r)) := e
  funext S
  simp [F45, Q7.run, c45, exs, ex, ev, evs, getv, hT, at_p0, at_p1, e', sizeOk]
theorem F32_ret (ns : List Int) (q r : Int × Int) (hq : fb q) (hr : fb r) : F32 ns [prD q, prD r] = ret (prD (timesF q r)) := by
  have hT : (T32 ns)[25]? = some (F25 ns) := rfl
  have d := den_ok hq hr
  have e := F25_ret ns (q.1 * r.1) (q.2 * r.2) d.1 d.2
  have m1 : binop .mul (.int q.1) (.int r.1) = some (.int (q.1 * r.1)) := mul_okB hq.1 hr.1 (by decide) (by decide)
  have m3 : binop .mul (.int q.2) (.int r.2) = some (.int (q.2 * r.2)) := mul_okB hq.2.2 hr.2.2 (by decide) (by decide)
  funext S
  simp [F32, Q7.run, c32, exs, ex, ev, evs, getv, hT, at_p0, at_p1, m1, m3, e, timesF]
theorem pow30 : binop .pow (.int 10) (.int 30) = some (.int 1000000000000000000000000000000) := rfl
theorem F41_ret (ns : List Int) (q : Int × Int) (hq : fb q) : F41 ns [prD q] = ret (.bool (decide (Nat.gcd q.1.natAbs q.2.natAbs = 1))) := by
  have hT8 : (T41 ns)[8]? = some (F8 ns) := rfl
  have hT9 : (T41 ns)[11]? = some (F11 ns) := rfl
  have e1 := F8_ret ns (.int q.1) (-1000000000000000000000000000000) 1000000000000000000000000000000 rfl
  have b1 : isBetween (.int q.1) (-1000000000000000000000000000000) 1000000000000000000000000000000 = true := by
    simp only [isBetween, Bool.and_eq_true, decide_eq_true_eq]; have := hq.1; omega
  rw [b1] at e1
  have e2 := F8_ret ns (.int q.2) 1 1000000000000000000000000000000 rfl
  have b2 : isBetween (.int q.2) 1 1000000000000000000000000000000 = true := by
    simp only [isBetween, Bool.and_eq_true, decide_eq_true_eq]; have := hq.2; omega
  rw [b2] at e2
  have e3 := F11_ret ns q.1 q.2 (big_pow (k := 90) hq.2.2 (by decide))
  have ht : isTy (prD q) .tuple = some true := rfl
  have hl : blt .len [prD q] = some (.int 2) := rfl
  have hd : (decide (((Nat.gcd q.1.natAbs q.2.natAbs : Nat) : Int) = 1)) = decide (Nat.gcd q.1.natAbs q.2.natAbs = 1) := by
    rw [decide_eq_decide]; omega
  rw [← hd]
  funext S
  simp [F41, Q7.run, c41, exs, ex, ev, evs, evT, evTOr, evAnd, getv, ht, hl, hT8, hT9, at_p0, at_p1, pow30, e1, e2, e3]
abbrev Pl := (Int × Int) × (Int × Int)
def plD (q : Pl) : D := .tup [prD q.1, prD q.2]
def plOk (q : Pl) : Prop := (fb q.1 ∧ Nat.gcd q.1.1.natAbs q.1.2.natAbs = 1) ∧ (fb q.2 ∧ Nat.gcd q.2.1.natAbs q.2.2.natAbs = 1)
theorem F42_ret (ns : List Int) (pl : List Pl) (h2 : 2 ≤ pl.length) (h9 : pl.length ≤ 9) (h : ∀ q ∈ pl, plOk q) : F42 ns [.tup (pl.map plD)] = ret (.bool true) := by
  have hT : (T42 ns)[41]? = some (F41 ns) := rfl
  funext S
  have hl : blt .len [.tup (pl.map plD)] = some (.int (pl.length : Nat)) := by simp [blt]
  have ht : isTy (.tup (pl.map plD)) .tuple = some true := rfl
  have hc1 : ev (T42 ns) (.comp [("place", 1)] (.name 1) (.seq (.var 0)) .non (.and (.cons (.isi (.var 1) .tuple) (.cons (.cmp .eq (.blt .len (.cons (.var 1) .nil)) (.int 2)) .nil)))) [.val (.tup (pl.map plD)), .un] = ret (.list (pl.map fun _ => .bool true)) := by
    funext S
    refine (comp_map (ds := pl.map plD) (g := fun _ => .bool true) (by simp [evI, ev, getv, iseq]) (by simp) (by simp) (fun d hd => ?_) (by simp; omega)).trans (by rw [List.map_map]; rfl)
    obtain ⟨q, hq, rfl⟩ := List.mem_map.mp hd
    have ht : isTy (plD q) .tuple = some true := rfl
    have hl : blt .len [plD q] = some (.int 2) := rfl
    simp [ev, evs, evAnd, getv, wipeE, ht, hl]
  have hc2 : ev (T42 ns) (.comp [("place", 1)] (.name 1) (.seq (.var 0)) .non (.and (.cons (.call 41 (.cons (.idx (.var 1) (.int 0)) .nil)) (.cons (.call 41 (.cons (.idx (.var 1) (.int 1)) .nil)) .nil)))) [.val (.tup (pl.map plD)), .un] = ret (.list (pl.map fun _ => .bool true)) := by
    funext S
    refine (comp_map (ds := pl.map plD) (g := fun _ => .bool true) (by simp [evI, ev, getv, iseq]) (by simp) (by simp) (fun d hd => ?_) (by simp; omega)).trans (by rw [List.map_map]; rfl)
    obtain ⟨q, hq, rfl⟩ := List.mem_map.mp hd
    obtain ⟨⟨f1, g1⟩, ⟨f2, g2⟩⟩ := h q hq
    have i0 : getitem (plD q) (.int 0) = some (prD q.1) := rfl
    have i1 : getitem (plD q) (.int 1) = some (prD q.2) := rfl
    have e1 := F41_ret ns q.1 f1
    have e2 := F41_ret ns q.2 f2
    rw [decide_eq_true g1] at e1
    rw [decide_eq_true g2] at e2
    simp [ev, evs, evAnd, getv, wipeE, i0, i1, hT, e1, e2]
  have ha : blt .all [.list (pl.map fun _ => .bool true)] = some (.bool true) := by
    rw [all_b (fun _ => true) pl]; simp
  have q1 : (2 : Int) ≤ (pl.length : Nat) := by omega
  have q2 : ((pl.length : Nat) : Int) ≤ 9 := by omega
  refine r_rt rfl ?_
  show exs (T42 ns) fuel c42 [.val (.tup (pl.map plD)), .un] S = _
  rw [c42]
  refine (x_nx (env' := [.val (.tup (pl.map plD)), .un]) (S' := S) (by simp [exs, ex, evT, evTOr, ev, evs, getv, ht, hl, q1, q2])).trans ?_
  refine (x_nx (env' := [.val (.tup (pl.map plD)), .un]) (S' := S) (by simp only [exs, ex, evT, ev, evs, ↓hc1, b_ret, ha, l_some, t_b]; rfl)).trans ?_
  exact x_rt (by simp only [ex, ev, evs, ↓hc2, b_ret, ha, l_some]; rfl)
theorem F43_ret (ns : List Int) (pl : List Pl) (h2 : 2 ≤ pl.length) (h9 : pl.length ≤ 9) (h : ∀ q ∈ pl, plOk q) : F43 ns [.tup (pl.map plD)] = ret .none := by
  have hT : (T43 ns)[42]? = some (F42 ns) := rfl
  have e := F42_ret ns pl h2 h9 h
  funext S
  simp [F43, Q7.run, c43, exs, ex, evT, ev, evs, getv, hT, e]
end K21

/-! gap_of, plain, kind_of, pair. -/
namespace K21
open Q7 Lin
def gapF (v : Nat → Int) (i j : Nat) : Int × Int := (vx v j - vx v i, vy v j - vy v i)
theorem en_two (s : List Int) (k : Nat) : en (0 :: 0 :: s) (2 * k) = vx (en s) k ∧ en (0 :: 0 :: s) (2 * k + 1) = vy (en s) k := by
  unfold vx vy
  cases k with
  | zero => exact ⟨rfl, rfl⟩
  | succ k =>
    rw [if_neg (by omega), if_neg (by omega)]
    rw [show 2 * (k + 1) = 2 * k + 1 + 1 by omega, show 2 * k + 1 + 1 - 2 = 2 * k by omega, show 2 * k + 1 + 1 - 1 = 2 * k + 1 by omega]
    exact ⟨rfl, rfl⟩
theorem F28_ret (ns : List Int) (s : List Int) (i j : Nat) (hs : s.length ≤ 100) (hi : 2 * i + 1 < s.length + 2) (hj : 2 * j + 1 < s.length + 2) : F28 ns [iD s, .int (i : Int), .int (j : Int)] = ret (prD (gapF (en s) i j)) := by
  funext S
  have hadd : binop .add (.list [.int 0, .int 0]) (iD s) = some (iD (0 :: 0 :: s)) := by
    have : sizeOk ([D.int 0, .int 0].length + (s.map D.int).length) = true := decide_eq_true (by simp; omega)
    show (if sizeOk ([D.int 0, .int 0].length + (s.map D.int).length) then some (D.list ([D.int 0, .int 0] ++ s.map D.int)) else none) = _
    rw [if_pos this]; rfl
  have hlist : blt .list [iD s] = some (iD s) := rfl
  have hz2 : ∀ a b : D, sizeOk [a, b].length = true := fun _ _ => rfl
  have mi : binop .mul (.int 2) (.int (i : Int)) = some (.int (2 * (i : Int))) := o_mul (mul_sm (by decide) (by omega))
  have mj : binop .mul (.int 2) (.int (j : Int)) = some (.int (2 * (j : Int))) := o_mul (mul_sm (by decide) (by omega))
  have gi := at_i (l := 0 :: 0 :: s) (k := 2 * i) (by simp; omega)
  have gi1 := at_i (l := 0 :: 0 :: s) (k := 2 * i + 1) (by simp; omega)
  have gj := at_i (l := 0 :: 0 :: s) (k := 2 * j) (by simp; omega)
  have gj1 := at_i (l := 0 :: 0 :: s) (k := 2 * j + 1) (by simp; omega)
  rw [(en_two s i).1, show ((2 * i : Nat) : Int) = 2 * (i : Int) by omega] at gi
  rw [(en_two s i).2, show ((2 * i + 1 : Nat) : Int) = 2 * (i : Int) + 1 by omega] at gi1
  rw [(en_two s j).1, show ((2 * j : Nat) : Int) = 2 * (j : Int) by omega] at gj
  rw [(en_two s j).2, show ((2 * j + 1 : Nat) : Int) = 2 * (j : Int) + 1 by omega] at gj1
  refine r_rt rfl ?_
  refine (x_nx (env' := [.val (iD s), .val (.int (i : Int)), .val (.int (j : Int)), .val (iD (0 :: 0 :: s))]) (S' := S) ?_).trans ?_
  · simp only [List.map, List.replicate, List.cons_append, List.nil_append, ex, ev, evs, getv, List.getElem?_cons_zero, List.getElem?_cons_succ, l_some, b_ret, hz2, if_true, hlist, hadd, store1]
    rfl
  refine x_rt ?_
  simp only [ex, ev, evs, getv, List.getElem?_cons_zero, List.getElem?_cons_succ, l_some, b_ret, hz2, if_true, mi, mj, o_add, gi, gi1, gj, gj1, o_sub]
  rfl
theorem F27_ex (ns : List Int) (a b : Int) (ha : a.natAbs < 2 ^ 8990) (hb : b.natAbs < 2 ^ 8990) (S : Sta) : ∃ x y h, F27 ns [.int a, .int b] S = .ok (prD (x, y)) S ∧ h ≠ 0 ∧ h * x = a ∧ h * y = b ∧ (¬ (a = 0 ∧ b = 0) → ∀ k : Int, k ∣ x → k ∣ y → k.natAbs = 1) := by
  have hT : (T27 ns)[18]? = some (F18 ns) := rfl
  obtain ⟨l', g, e30, hg, hl, hgi, hpr⟩ := F18_ex ns [a, b] (fun x hx => by
    simp only [List.mem_cons, List.not_mem_nil, or_false] at hx
    rcases hx with rfl | rfl <;> assumption) (by simp) S
  obtain ⟨x, y, rfl⟩ : ∃ x y, l' = [x, y] := by
    rcases l' with _ | ⟨x, _ | ⟨y, _ | ⟨z, r⟩⟩⟩ <;> simp at hl
    exact ⟨x, y, rfl⟩
  have g0 : g * x = a := hgi 0
  have g1 : g * y = b := hgi 1
  have hprim : ¬ (a = 0 ∧ b = 0) → ∀ k : Int, k ∣ x → k ∣ y → k.natAbs = 1 := fun hne k hx hy => by
    refine hpr (fun e0 => hne ⟨first_none.mp e0 0, first_none.mp e0 1⟩) k fun i => ?_
    rcases i with _ | _ | i
    · exact hx
    · exact hy
    · exact ⟨0, by simp [en, List.getD]⟩
  have hprim2 : ¬ (a = 0 ∧ b = 0) → ∀ k : Int, k ∣ -x → k ∣ -y → k.natAbs = 1 := fun hne k hx hy => hprim hne k (Int.dvd_neg.mp hx) (Int.dvd_neg.mp hy)
  have hz2 : ∀ a b : D, sizeOk [a, b].length = true := fun _ _ => rfl
  have step : ex (T27 ns) fuel (.unp (.tup (.cons (.name 0) (.cons (.name 1) .nil))) (.call 18 (.cons (.lst (.cons (.var 0) (.cons (.var 1) .nil))) .nil))) [.val (.int a), .val (.int b)] S = .ok (.nx [.val (.int x), .val (.int y)]) S := by
    rw [ex]
    refine (b_ok (a := iD [x, y]) (S' := S) ?_).trans rfl
    simp only [ev, evs, getv, List.getElem?_cons_zero, List.getElem?_cons_succ, l_some, b_ret, hz2, if_true, hT]
    exact e30
  have run : ∀ q : Int × Int, exs (T27 ns) fuel (.cons (.ret (.ite (.or (.cons (.cmp .lt (.var 1) (.int 0)) (.cons (.and (.cons (.cmp .eq (.var 1) (.int 0)) (.cons (.cmp .lt (.var 0) (.int 0)) .nil))) .nil))) (.tup (.cons (.neg (.var 0)) (.cons (.neg (.var 1)) .nil))) (.tup (.cons (.var 0) (.cons (.var 1) .nil))))) .nil) [.val (.int x), .val (.int y)] S = .ok (.rt (prD q)) S → F27 ns [.int a, .int b] S = .ok (prD q) S := fun q h => r_rt rfl ((x_nx step).trans h)
  by_cases h1 : y < 0
  · refine ⟨-x, -y, -g, run _ ?_, by omega, by rw [Int.neg_mul_neg]; exact g0, by rw [Int.neg_mul_neg]; exact g1, hprim2⟩
    simp [exs, ex, ev, evs, evT, evTOr, evTAnd, getv, h1, sizeOk, prD]
  · by_cases h2 : y = 0
    · by_cases h3 : x < 0
      · refine ⟨-x, -y, -g, run _ ?_, by omega, by rw [Int.neg_mul_neg]; exact g0, by rw [Int.neg_mul_neg]; exact g1, hprim2⟩
        simp [exs, ex, ev, evs, evT, evTOr, evTAnd, getv, h1, h2, h3, sizeOk, prD]
      · refine ⟨x, y, g, run _ ?_, hg, g0, g1, hprim⟩
        simp [exs, ex, ev, evs, evT, evTOr, evTAnd, getv, h1, h2, h3, sizeOk, prD]
    · refine ⟨x, y, g, run _ ?_, hg, g0, g1, hprim⟩
      simp [exs, ex, ev, evs, evT, evTOr, evTAnd, getv, h1, h2, sizeOk, prD]
def sameD : D := .tup [.str (PySem.Str.ofString "same")]
def openD : D := .tup [.str (PySem.Str.ofString "open")]
def alongD (q : Int × Int) : D := .tup [.str (PySem.Str.ofString "along"), prD q]
def gapD (i j : Nat) : D → D
  | .list ds => prD (gapF (en (ds.map fun d => match d with | .int x => x | _ => 0)) i j)
  | _ => .none
def nz0 : D → Bool
  | .tup [.int x, .int y] => !decide (x = 0 ∧ y = 0)
  | _ => false
theorem c_neP (a b c d : Int) : cmpop .ne (.tup [.int a, .int b]) (.tup [.int c, .int d]) = some (!decide (a = c ∧ b = d)) := by
  have := c_eqP a b c d
  simp only [cmpop] at this ⊢
  rw [this]; rfl
theorem ok_pairs (qs : List (Int × Int)) : okD 60 (.list (qs.map prD)) = true := by
  show (qs.map prD).all (okD 59) = true
  rw [List.all_map, List.all_eq_true]
  intro q _; rfl
theorem gap_bd {s : List Int} (h : bd 7420 s) (i j : Nat) : (gapF (en s) i j).1.natAbs < 2 ^ 7421 ∧ (gapF (en s) i j).2.natAbs < 2 ^ 7421 := by
  have hx : ∀ k, (vx (en s) k).natAbs < 2 ^ 7420 := fun k => by
    unfold vx; split
    · exact Nat.two_pow_pos _
    · exact bd_en h _
  have hy : ∀ k, (vy (en s) k).natAbs < 2 ^ 7420 := fun k => by
    unfold vy; split
    · exact Nat.two_pow_pos _
    · exact bd_en h _
  exact ⟨sub_lt_pow (hx j) (hx i), sub_lt_pow (hy j) (hy i)⟩
theorem F29_ex (ns : List Int) (w i j : Nat) (sols : List (List Int)) (hw : w ≤ 16) (hi : 2 * i + 1 < w + 2) (hj : 2 * j + 1 < w + 2) (hs : ∀ s ∈ sols, s.length = w ∧ bd 7420 s) (hn : sols.length ≤ 16) (S : Sta) :
    ∃ d, F29 ns [.list (sols.map iD), .tup [.int (i : Int), .int (j : Int)]] S = .ok d S ∧ ((d = sameD ∧ ∀ s ∈ sols, gapF (en s) i j = (0, 0)) ∨ (d = openD ∧ ∃ g0 r, ((sols.map fun s => gapF (en s) i j).filter fun g => !decide (g.1 = 0 ∧ g.2 = 0)) = g0 :: r ∧ ∃ g ∈ g0 :: r, ¬ g0.1 * g.2 = g0.2 * g.1) ∨ ∃ q, d = alongD q ∧ (q.1.natAbs < 2 ^ 8000 ∧ q.2.natAbs < 2 ^ 8000) ∧ (∀ k : Int, k ∣ q.1 → k ∣ q.2 → k.natAbs = 1) ∧ (∃ s ∈ sols, ¬ ((gapF (en s) i j).1 = 0 ∧ (gapF (en s) i j).2 = 0)) ∧ ∀ s ∈ sols, (gapF (en s) i j).1 * q.2 = (gapF (en s) i j).2 * q.1) := by
  have hT32 : (T29 ns)[28]? = some (F28 ns) := rfl
  have hT31 : (T29 ns)[27]? = some (F27 ns) := rfl
  generalize hone : D.tup [.int (i : Int), .int (j : Int)] = one
  have at0 : getitem one (.int 0) = some (.int (i : Int)) := by rw [← hone]; rfl
  have at1 : getitem one (.int 1) = some (.int (j : Int)) := by rw [← hone]; rfl
  -- the gaps
  have hc1 : ev (T29 ns) (.comp [("row", 7)] (.name 7) (.seq (.var 0)) .non (.call 28 (.cons (.var 7) (.cons (.idx (.var 1) (.int 0)) (.cons (.idx (.var 1) (.int 1)) .nil))))) [.val (.list (sols.map iD)), .val one, .un, .un, .un, .un, .un, .un] S = .ok (.list ((sols.map fun s => gapF (en s) i j).map prD)) S := by
    refine (comp_map (ds := sols.map iD) (g := gapD i j) (by simp [evI, ev, getv, iseq]) (by simp) (by simp) (fun d hd => ?_) (by simp; omega)).trans ?_
    · obtain ⟨s, hm, rfl⟩ := List.mem_map.mp hd
      obtain ⟨hl, _⟩ := hs s hm
      have e := F28_ret ns s i j (by omega) (by omega) (by omega)
      have e2 : gapD i j (iD s) = prD (gapF (en s) i j) := by
        show prD (gapF (en ((s.map D.int).map _)) i j) = _
        rw [List.map_map]
        congr 3
        exact (List.map_congr_left (fun x _ => rfl)).trans (List.map_id s)
      rw [e2]
      simp only [wipeE, List.map, List.set_cons_succ, List.set_cons_zero, ev, evs, getv, List.getElem?_cons_zero, List.getElem?_cons_succ, l_some, b_ret, at0, at1, hT32, e]
      rfl
    · rw [List.map_map, List.map_map]
      congr 2
      refine List.map_congr_left fun s _ => ?_
      show gapD i j (iD s) = prD (gapF (en s) i j)
      show prD (gapF (en ((s.map D.int).map _)) i j) = _
      rw [List.map_map]
      congr 3
      exact (List.map_congr_left (fun x _ => rfl)).trans (List.map_id s)
  generalize hgs : (sols.map fun s => gapF (en s) i j) = gs at hc1
  have hgb : ∀ g ∈ gs, g.1.natAbs < 2 ^ 7421 ∧ g.2.natAbs < 2 ^ 7421 := fun g hg => by
    rw [← hgs] at hg
    obtain ⟨s, hm, rfl⟩ := List.mem_map.mp hg
    exact gap_bd (hs s hm).2 i j
  have hgl : gs.length ≤ 16 := by rw [← hgs]; simpa using hn
  have hgm : ∀ s ∈ sols, gapF (en s) i j ∈ gs := fun s hm => by rw [← hgs]; exact List.mem_map.mpr ⟨s, hm, rfl⟩
  generalize hfs : (gs.filter fun g => !decide (g.1 = 0 ∧ g.2 = 0)) = fs
  have hfm : ∀ g, g ∈ fs ↔ g ∈ gs ∧ ¬ (g.1 = 0 ∧ g.2 = 0) := fun g => by
    rw [← hfs, List.mem_filter]
    simp only [Bool.not_eq_true', decide_eq_false_iff_not]
  have hz2 : ∀ a b : D, sizeOk [a, b].length = true := fun _ _ => rfl
  have hc2 : ev (T29 ns) (.comp [("gap", 5)] (.name 5) (.seq (.comp [("row", 7)] (.name 7) (.seq (.var 0)) .non (.call 28 (.cons (.var 7) (.cons (.idx (.var 1) (.int 0)) (.cons (.idx (.var 1) (.int 1)) .nil)))))) (.som (.cmp .ne (.var 5) (.tup (.cons (.int 0) (.cons (.int 0) .nil))))) (.var 5)) [.val (.list (sols.map iD)), .val one, .un, .un, .un, .un, .un, .un] S = .ok (.list (fs.map prD)) S := by
    refine (comp_gen (ds := gs.map prD) nz0 id ?_ (fun d hd => ?_) (by simp; omega)).trans ?_
    · rw [evI]
      exact (b_ok hc1).trans rfl
    · obtain ⟨g, hg, rfl⟩ := List.mem_map.mp hd
      refine ⟨[.val (.list (sols.map iD)), .val one, .un, .un, .un, .val (prD g), .un, .un], rfl, ?_, fun _ => rfl⟩
      have := c_neP g.1 g.2 0 0
      simp only [evOT, evT, ev, evs, getv, List.getElem?_cons_zero, List.getElem?_cons_succ, l_some, b_ret, hz2, if_true]
      show lift (cmpop .ne (.tup [.int g.1, .int g.2]) (.tup [.int 0, .int 0])) S = _
      rw [this]
      rfl
    · rw [List.map_id, List.filter_map, ← hfs]
      rfl
  have hz0 : sizeOk ([] : List D).length = true := rfl
  have hz1 : ∀ a : D, sizeOk [a].length = true := fun _ => rfl
  have hrun : ∀ d, exs (T29 ns) fuel (.cons (.ite (.cmp .eq (.var 2) (.lst .nil)) (.cons (.ret (.tup (.cons (.str "same") .nil))) .nil) .nil) (.cons (.unp (.tup (.cons (.name 3) (.cons (.name 4) .nil))) (.idx (.var 2) (.int 0))) (.cons (.ite (.val (.blt .any (.cons (.comp [("other", 6)] (.name 6) (.seq (.var 2)) .non (.cmp .ne (.bin .mul (.var 3) (.idx (.var 6) (.int 1))) (.bin .mul (.var 4) (.idx (.var 6) (.int 0))))) .nil))) (.cons (.ret (.tup (.cons (.str "open") .nil))) .nil) .nil) (.cons (.ret (.tup (.cons (.str "along") (.cons (.call 27 (.cons (.var 3) (.cons (.var 4) .nil))) .nil)))) .nil)))) [.val (.list (sols.map iD)), .val one, .val (.list (fs.map prD)), .un, .un, .un, .un, .un] S = .ok (.rt d) S → F29 ns [.list (sols.map iD), one] S = .ok d S := by
    intro d h
    refine r_rt rfl ?_
    show exs (T29 ns) fuel c29 [.val (.list (sols.map iD)), .val one, .un, .un, .un, .un, .un, .un] S = _
    rw [c29]
    refine (x_nx (env' := [.val (.list (sols.map iD)), .val one, .val (.list (fs.map prD)), .un, .un, .un, .un, .un]) (S' := S) ?_).trans h
    rw [ex]
    exact (b_ok hc2).trans rfl
  cases hf : fs with
  | nil =>
    rw [hf] at hrun hfm
    refine ⟨sameD, hrun _ ?_, .inl ⟨rfl, fun s hm => ?_⟩⟩
    · have ceq : cmpop .eq (.list (([] : List (Int × Int)).map prD)) (.list []) = some true := rfl
      simp only [exs, ex, evT, ev, evs, getv, List.getElem?_cons_zero, List.getElem?_cons_succ, l_some, b_ret, hz0, hz1, if_true, ceq]
      rfl
    · have h1 := hgm s hm
      refine Classical.byContradiction fun hc => ?_
      have := (hfm (gapF (en s) i j)).mpr ⟨h1, fun h => hc (Prod.ext h.1 h.2)⟩
      simp at this
  | cons g0 r =>
    rw [hf] at hrun hfm
    have g0m : g0 ∈ gs := ((hfm g0).mp (by simp)).1
    have g0n : ¬ (g0.1 = 0 ∧ g0.2 = 0) := ((hfm g0).mp (by simp)).2
    have ceq : cmpop .eq (.list ((g0 :: r).map prD)) (.list []) = some false := by
      have h2 : okD 60 (.list []) = true := rfl
      simp only [cmpop, eqO, ok_pairs, h2, Bool.and_self, if_true]
      rfl
    have i0 : getitem (.list ((g0 :: r).map prD)) (.int 0) = some (prD g0) := by
      show L2.atI _ _ = _
      rw [at_in (by decide) (by simp <;> omega)]
      rfl
    have hfb : ∀ g ∈ g0 :: r, g.1.natAbs < 2 ^ 7421 ∧ g.2.natAbs < 2 ^ 7421 := fun g hg => hgb g ((hfm g).mp hg).1
    have hc3 : ev (T29 ns) (.comp [("other", 6)] (.name 6) (.seq (.var 2)) .non (.cmp .ne (.bin .mul (.var 3) (.idx (.var 6) (.int 1))) (.bin .mul (.var 4) (.idx (.var 6) (.int 0))))) [.val (.list (sols.map iD)), .val one, .val (.list ((g0 :: r).map prD)), .val (.int g0.1), .val (.int g0.2), .un, .un, .un] S = .ok (.list ((g0 :: r).map fun g => .bool (!decide (g0.1 * g.2 = g0.2 * g.1)))) S := by
      refine (comp_map (ds := (g0 :: r).map prD) (g := fun d => match d with | .tup [.int x, .int y] => .bool (!decide (g0.1 * y = g0.2 * x)) | _ => .none) (by simp [evI, ev, getv, iseq]) (by simp) (by simp) (fun d hd => ?_) (by
        have h1 : (g0 :: r).length ≤ gs.length := by rw [← hf, ← hfs]; exact List.length_filter_le _ _
        rw [List.length_map]
        omega)).trans ?_
      · obtain ⟨g, hg, rfl⟩ := List.mem_map.mp hd
        have hb1 := hfb g hg
        have hb0 := hfb g0 (by simp)
        have m1 := mul_okB hb0.1 hb1.2 (by decide) (by decide)
        have m2 := mul_okB hb0.2 hb1.1 (by decide) (by decide)
        simp only [wipeE, List.map, List.set_cons_succ, List.set_cons_zero, ev, getv, List.getElem?_cons_zero, List.getElem?_cons_succ, l_some, b_ret, at_p0, at_p1, m1, m2, c_neI, Option.map_some]
        show ret (D.bool (decide (g0.1 * g.2 ≠ g0.2 * g.1))) S = Res.ok (D.bool (!decide (g0.1 * g.2 = g0.2 * g.1))) S
        rw [decide_not]
        rfl
      · rw [List.map_map]; rfl
    have hany : blt .any [.list ((g0 :: r).map fun g => .bool (!decide (g0.1 * g.2 = g0.2 * g.1)))] = some (.bool ((g0 :: r).any fun g => !decide (g0.1 * g.2 = g0.2 * g.1))) := by
      simp only [blt, truths_b, Option.map_some]
      congr 2
      rw [List.any_map]; rfl
    have s1 : ∀ rest, exs (T29 ns) fuel (.cons (.ite (.cmp .eq (.var 2) (.lst .nil)) (.cons (.ret (.tup (.cons (.str "same") .nil))) .nil) .nil) (.cons (.unp (.tup (.cons (.name 3) (.cons (.name 4) .nil))) (.idx (.var 2) (.int 0))) rest)) [.val (.list (sols.map iD)), .val one, .val (.list ((g0 :: r).map prD)), .un, .un, .un, .un, .un] S = exs (T29 ns) fuel rest [.val (.list (sols.map iD)), .val one, .val (.list ((g0 :: r).map prD)), .val (.int g0.1), .val (.int g0.2), .un, .un, .un] S := by
      intro rest
      refine (x_nx (env' := [.val (.list (sols.map iD)), .val one, .val (.list ((g0 :: r).map prD)), .un, .un, .un, .un, .un]) (S' := S) ?_).trans ?_
      · simp only [exs, ex, evT, ev, evs, getv, List.getElem?_cons_zero, List.getElem?_cons_succ, l_some, b_ret, hz0, if_true, ceq, Bool.false_eq_true, if_false]
        rfl
      refine (x_nx (env' := [.val (.list (sols.map iD)), .val one, .val (.list ((g0 :: r).map prD)), .val (.int g0.1), .val (.int g0.2), .un, .un, .un]) (S' := S) ?_).trans rfl
      simp only [ex, ev, getv, List.getElem?_cons_zero, List.getElem?_cons_succ, l_some, b_ret, i0]
      rfl
    have hev : evT (T29 ns) (.val (.blt .any (.cons (.comp [("other", 6)] (.name 6) (.seq (.var 2)) .non (.cmp .ne (.bin .mul (.var 3) (.idx (.var 6) (.int 1))) (.bin .mul (.var 4) (.idx (.var 6) (.int 0))))) .nil))) [.val (.list (sols.map iD)), .val one, .val (.list ((g0 :: r).map prD)), .val (.int g0.1), .val (.int g0.2), .un, .un, .un] S = .ok ((g0 :: r).any fun g => !decide (g0.1 * g.2 = g0.2 * g.1)) S := by
      rw [evT]
      exact (b_ok (blt1 hc3 hany)).trans rfl
    cases ha : ((g0 :: r).any fun g => !decide (g0.1 * g.2 = g0.2 * g.1)) with
    | true =>
      rw [ha] at hev
      refine ⟨openD, hrun _ ?_, .inr (.inl ⟨rfl, g0, r, rfl, by
        obtain ⟨g, hg, hgn⟩ := List.any_eq_true.mp ha
        exact ⟨g, hg, by simpa using hgn⟩⟩)⟩
      rw [s1]
      refine x_rt ?_
      rw [ex]
      refine (b_ok hev).trans ?_
      rfl
    | false =>
      rw [ha] at hev
      obtain ⟨x, y, h, e31, hh, hx, hy, hxy⟩ := F27_ex ns g0.1 g0.2 (pow_le_big (hfb g0 (by simp)).1 (by decide)) (pow_le_big (hfb g0 (by simp)).2 (by decide)) S
      refine ⟨alongD (x, y), hrun _ ?_, .inr (.inr ⟨(x, y), rfl, ⟨?_, ?_⟩, hxy g0n, by
        rw [← hgs] at g0m
        obtain ⟨s, hs', e⟩ := List.mem_map.mp g0m
        exact ⟨s, hs', by rw [e]; exact g0n⟩, fun s hm => ?_⟩)⟩
      · rw [s1]
        refine (x_nx (env' := [.val (.list (sols.map iD)), .val one, .val (.list ((g0 :: r).map prD)), .val (.int g0.1), .val (.int g0.2), .un, .un, .un]) (S' := S) ?_).trans ?_
        · rw [ex]
          refine (b_ok hev).trans ?_
          rfl
        refine x_rt ?_
        rw [ex]
        refine (b_ok (a := alongD (x, y)) (S' := S) ?_).trans rfl
        simp only [ev, evs, getv, List.getElem?_cons_zero, List.getElem?_cons_succ, l_some, b_ret, hT31]
        refine (b_ok (a := [.str (PySem.Str.ofString "along"), prD (x, y)]) (S' := S) ?_).trans rfl
        refine (b_ok (a := [prD (x, y)]) (S' := S) ?_).trans rfl
        exact (b_ok e31).trans rfl
      · have q1 := abs_le_mul (x := x) hh
        rw [hx] at q1
        exact pow_le_big (Nat.lt_of_le_of_lt q1 (hfb g0 (by simp)).1) (by decide)
      · have q1 := abs_le_mul (x := y) hh
        rw [hy] at q1
        exact pow_le_big (Nat.lt_of_le_of_lt q1 (hfb g0 (by simp)).2) (by decide)
      · show (gapF (en s) i j).1 * y = (gapF (en s) i j).2 * x
        by_cases hz : (gapF (en s) i j).1 = 0 ∧ (gapF (en s) i j).2 = 0
        · rw [hz.1, hz.2]; simp
        · have hmem := (hfm (gapF (en s) i j)).mpr ⟨hgm s hm, hz⟩
          have := List.any_eq_false.mp ha _ hmem
          simp only [Bool.not_eq_true, Bool.not_eq_false', decide_eq_true_eq] at this
          generalize gapF (en s) i j = q at this
          -- g0.1 * q.2 = g0.2 * q.1
          rw [← hx, ← hy] at this
          have e2 : h * (q.1 * y - q.2 * x) = 0 := by
            rw [Int.mul_sub]
            have e3 : h * (q.1 * y) = h * y * q.1 := by rw [Int.mul_comm q.1, Int.mul_assoc]
            have e4 : h * (q.2 * x) = h * x * q.2 := by rw [Int.mul_comm q.2, Int.mul_assoc]
            rw [e3, e4, this]; omega
          have := mul_cancel hh e2
          omega
end K21

/-! Fractions' worth; fits, mixed, places_of. -/
namespace K21
open Q7 Lin
def val (k : Int) (q : Int × Int) (S : Int) : Prop := 0 < q.2 ∧ k * q.1 = S * q.2
theorem frac_mul (n : Int) {d : Int} (hd : 0 < d) : ∃ g : Int, 0 < g ∧ n = g * (fracF n d).1 ∧ d = g * (fracF n d).2 := by
  have g0 : 0 < Nat.gcd n.natAbs d.natAbs := Nat.gcd_pos_of_pos_right _ (by omega)
  have d1 : ((Nat.gcd n.natAbs d.natAbs : Nat) : Int) ∣ n := Int.ofNat_dvd_left.mpr (Nat.gcd_dvd_left _ _)
  have d2 : ((Nat.gcd n.natAbs d.natAbs : Nat) : Int) ∣ d := Int.ofNat_dvd_left.mpr (Nat.gcd_dvd_right _ _)
  refine ⟨(Nat.gcd n.natAbs d.natAbs : Nat), by omega, ?_, ?_⟩
  · show n = _ * n.fdiv _
    rw [Int.fdiv_eq_ediv_of_dvd d1, Int.mul_ediv_cancel' d1]
  · show d = _ * d.fdiv _
    rw [Int.fdiv_eq_ediv_of_dvd d2, Int.mul_ediv_cancel' d2]
theorem frac_cop (n : Int) {d : Int} (hd : 0 < d) : Nat.gcd (fracF n d).1.natAbs (fracF n d).2.natAbs = 1 := by
  have g0 : 0 < Nat.gcd n.natAbs d.natAbs := Nat.gcd_pos_of_pos_right _ (by omega)
  have d1 : ((Nat.gcd n.natAbs d.natAbs : Nat) : Int) ∣ n := Int.ofNat_dvd_left.mpr (Nat.gcd_dvd_left _ _)
  have d2 : ((Nat.gcd n.natAbs d.natAbs : Nat) : Int) ∣ d := Int.ofNat_dvd_left.mpr (Nat.gcd_dvd_right _ _)
  have e1 : (fracF n d).1.natAbs = n.natAbs / Nat.gcd n.natAbs d.natAbs := by
    show (n.fdiv _).natAbs = _
    rw [Int.fdiv_eq_ediv_of_dvd d1, Int.natAbs_ediv_of_dvd d1, Int.natAbs_natCast]
  have e2 : (fracF n d).2.natAbs = d.natAbs / Nat.gcd n.natAbs d.natAbs := by
    show (d.fdiv _).natAbs = _
    rw [Int.fdiv_eq_ediv_of_dvd d2, Int.natAbs_ediv_of_dvd d2, Int.natAbs_natCast]
  rw [e1, e2]
  exact Nat.coprime_div_gcd_div_gcd g0
theorem frac_pos (n : Int) {d : Int} (hd : 0 < d) : 0 < (fracF n d).2 := by
  obtain ⟨g, hg, _, h⟩ := frac_mul n hd
  refine Int.pos_of_mul_pos_left ?_ hg
  rw [Int.mul_comm, ← h]; exact hd
theorem frac_le (n : Int) {d : Int} (hd : 0 < d) : (fracF n d).1.natAbs ≤ n.natAbs ∧ (fracF n d).2.natAbs ≤ d.natAbs := by
  obtain ⟨g, hg, h1, h2⟩ := frac_mul n hd
  constructor
  · conv => rhs; rw [h1]
    exact abs_le_mul (by omega)
  · conv => rhs; rw [h2]
    exact abs_le_mul (by omega)
theorem val_frac {k n d S : Int} (hd : 0 < d) (h : k * n = S * d) : val k (fracF n d) S := by
  refine ⟨frac_pos n hd, ?_⟩
  obtain ⟨g, hg, h1, h2⟩ := frac_mul n hd
  generalize fracF n d = q at h1 h2
  have e : g * (k * q.1) = g * (S * q.2) := by
    rw [Int.mul_left_comm g, ← h1, Int.mul_left_comm g, ← h2]
    exact h
  exact Int.eq_of_mul_eq_mul_left (by omega) e
theorem val_plus {k S T : Int} {q r : Int × Int} (hq : val k q S) (hr : val k r T) : val k (plusF q r) (S + T) := by
  refine val_frac (Int.mul_pos hq.1 hr.1) ?_
  rw [Int.mul_add, ← Int.mul_assoc, hq.2, ← Int.mul_assoc, hr.2, Int.add_mul, Int.mul_assoc, Int.mul_assoc T, Int.mul_comm r.2 q.2]
theorem val_less {k S T : Int} {q r : Int × Int} (hq : val k q S) (hr : val k r T) : val k (lessF q r) (S - T) := by
  have : val k (-r.1, r.2) (-T) := ⟨hr.1, by show k * -r.1 = -T * r.2; rw [Int.mul_neg, hr.2, Int.neg_mul]⟩
  have := val_plus hq this
  rw [← Int.sub_eq_add_neg] at this
  exact this
/-! bounds -/
theorem plus_bd {q r : Int × Int} (hq : fb q) (hr : fb r) : (plusF q r).1.natAbs < 2 ^ 181 ∧ (plusF q r).2.natAbs < 2 ^ 181 ∧ 0 < (plusF q r).2 := by
  have d := Int.mul_pos hq.2.1 hr.2.1
  obtain ⟨l1, l2⟩ := frac_le (q.1 * r.2 + r.1 * q.2) d
  have a1 := mul_lt_pow hq.1 hr.2.2
  have a2 := mul_lt_pow hr.1 hq.2.2
  have a3 := mul_lt_pow hq.2.2 hr.2.2
  refine ⟨?_, ?_, frac_pos _ d⟩
  · show (fracF (q.1 * r.2 + r.1 * q.2) (q.2 * r.2)).1.natAbs < _
    have : (2 : Nat) ^ 181 = 2 ^ 180 + 2 ^ 180 := by decide
    omega
  · show (fracF (q.1 * r.2 + r.1 * q.2) (q.2 * r.2)).2.natAbs < _
    have : (2 : Nat) ^ 180 < 2 ^ 181 := by decide
    omega
theorem less_bd {q r : Int × Int} (hq : fb q) (hr : fb r) : (lessF q r).1.natAbs < 2 ^ 181 ∧ (lessF q r).2.natAbs < 2 ^ 181 ∧ 0 < (lessF q r).2 := plus_bd hq ⟨by show (-r.1).natAbs < _; rw [Int.natAbs_neg]; exact hr.1, hr.2⟩
/-! between -/
def betF (a b : Pl) : Int × Int := ((lessF b.1 a.1).1 * (lessF b.2 a.2).2, (lessF b.2 a.2).1 * (lessF b.1 a.1).2)
def pb (a : Pl) : Prop := fb a.1 ∧ fb a.2
theorem F49_ret (ns : List Int) (a b : Pl) (ha : pb a) (hb : pb b) : F49 ns [plD a, plD b] = ret (prD (betF a b)) := by
  have hT : (T49 ns)[45]? = some (F45 ns) := rfl
  have e1 := F45_ret ns b.1 a.1 hb.1 ha.1
  have e2 := F45_ret ns b.2 a.2 hb.2 ha.2
  have i0 : ∀ w : Pl, getitem (plD w) (.int 0) = some (prD w.1) := fun w => rfl
  have i1 : ∀ w : Pl, getitem (plD w) (.int 1) = some (prD w.2) := fun w => rfl
  have l1 := less_bd hb.1 ha.1
  have l2 := less_bd hb.2 ha.2
  have m1 := mul_okB l1.1 l2.2.1 (by decide) (by decide)
  have m2 := mul_okB l2.1 l1.2.1 (by decide) (by decide)
  funext S
  simp [F49, Q7.run, c49, exs, ex, ev, evs, getv, hT, i0, i1, e1, e2, storePar, store1, at_p0, at_p1, m1, m2, sizeOk]
  rfl
/-! factors_of -/
def facP (pl : List Pl) (l : Li) : Int × Int :=
  let q := betF (pl.getD l.x.toNat ((0, 1), (0, 1))) (pl.getD l.y.toNat ((0, 1), (0, 1)))
  (q.1 * l.b - q.2 * l.a, q.1 * l.a + q.2 * l.b)
theorem fb01 : fb (0, 1) := ⟨by decide, by decide, by decide⟩
theorem pb_get {pl : List Pl} (h : ∀ v ∈ pl, pb v) (k : Nat) : pb (pl.getD k ((0, 1), (0, 1))) := by
  by_cases hk : k < pl.length
  · have : pl.getD k ((0, 1), (0, 1)) = pl[k] := by simp [List.getD, List.getElem?_eq_getElem hk]
    rw [this]
    exact h _ (List.getElem_mem hk)
  · have : pl.getD k ((0, 1), (0, 1)) = ((0, 1), (0, 1)) := by simp [List.getD, List.getElem?_eq_none (by omega : pl.length ≤ k)]
    rw [this]
    exact ⟨fb01, fb01⟩
theorem at_pl {pl : List Pl} {i : Int} (h0 : 0 ≤ i) (h1 : i < (pl.length : Int)) : getitem (.tup (pl.map plD)) (.int i) = some (plD (pl.getD i.toNat ((0, 1), (0, 1)))) := by
  show L2.atI _ _ = _
  have hk : i.toNat < pl.length := by omega
  rw [at_in h0 (by rw [List.length_map]; exact h1), List.getElem?_map, List.getElem?_eq_getElem hk]
  simp [List.getD, List.getElem?_eq_getElem hk]
theorem un_line (s0 s1 s2 e3 e4 e5 e6 e7 e8 e9 : Slot) (l : Li) (h3 : nown e3) (h4 : nown e4) (h5 : nown e5) (h6 : nown e6) (h7 : nown e7) :
    unpack (.tup (.cons (.name 3) (.cons (.name 4) (.cons (.tup (.cons (.name 6) (.cons (.name 7) .nil))) (.cons (.name 5) .nil))))) (liD l) [s0, s1, s2, e3, e4, e5, e6, e7, e8, e9] = some [s0, s1, s2, .val (.int l.x), .val (.int l.y), .val (.bool l.s), .val (.int l.a), .val (.int l.b), e8, e9] := by
  cases e3 <;> cases e4 <;> cases e5 <;> cases e6 <;> cases e7 <;> first | rfl | exact absurd rfl (h3 _) | exact absurd rfl (h4 _) | exact absurd rfl (h5 _) | exact absurd rfl (h6 _) | exact absurd rfl (h7 _)
theorem F50_ret (ns : List Int) (p : Int) (ls : List Li) (pl : List Pl) (hp : p ≤ 9) (hn : ls.length ≤ 16) (hl : ∀ l ∈ ls, isLi p l = true) (hv : ∀ v ∈ pl, pb v) (hvp : (pl.length : Int) = p) (S : Sta) : F50 ns [tellD p ls, .tup (pl.map plD)] S = .ok (.list (ls.map fun l => prD (facP pl l))) S := by
  have hT : (T50 ns)[49]? = some (F49 ns) := rfl
  have key : Ok (F50 ns [tellD p ls, .tup (pl.map plD)]) S fun d S' => d = .list (ls.map fun l => prD (facP pl l)) ∧ S' = S := by
    refine k_run rfl ?_
    refine k_seq (k_eq (a := .nx [.val (tellD p ls), .val (.tup (pl.map plD)), .own [], .un, .un, .un, .un, .un, .un, .un]) (S' := S) rfl ?_)
    refine k_seq ?_
    have at1 : getitem (tellD p ls) (.int 1) = some (.tup (ls.map liD)) := rfl
    have hi : iseq (.tup (ls.map liD)) = some (ls.map liD) := rfl
    simp only [ex, evI, ev, k_bind, getv, List.getElem?_cons_zero, List.getElem?_cons_succ, l_some, k_ret, at1, hi]
    refine k_for (fun k env S' => S' = S ∧ ∃ e3 e4 e5 e6 e7 e8 e9, (nown e3 ∧ nown e4 ∧ nown e5 ∧ nown e6 ∧ nown e7 ∧ nown e8 ∧ nown e9) ∧ env = [.val (tellD p ls), .val (.tup (pl.map plD)), .own ((ls.take k).map fun l => prD (facP pl l)), e3, e4, e5, e6, e7, e8, e9]) ?_ ?_ ?_
    · exact ⟨rfl, .un, .un, .un, .un, .un, .un, .un, ⟨nown_un, nown_un, nown_un, nown_un, nown_un, nown_un, nown_un⟩, rfl⟩
    · rintro k d env S' hd ⟨rfl, e3, e4, e5, e6, e7, e8, e9, ⟨n3, n4, n5, n6, n7, n8, n9⟩, rfl⟩
      rw [List.getElem?_map] at hd
      obtain ⟨l, hl', rfl⟩ := Option.map_eq_some_iff.mp hd
      obtain ⟨hk, hkl⟩ := List.getElem?_eq_some_iff.mp hl'
      have hm : l ∈ ls := hkl ▸ List.getElem_mem hk
      obtain ⟨⟨x0, x1, y0, y1⟩, ⟨a0, a1⟩, ⟨b0, b1⟩, _⟩ := li_parts (hl _ hm)
      simp only [un_line _ _ _ e3 e4 e5 e6 e7 e8 e9 l n3 n4 n5 n6 n7]
      have g1 := at_pl (pl := pl) (i := l.x) x0 (by omega)
      have g2 := at_pl (pl := pl) (i := l.y) (by omega) (by omega)
      have z1 := pb_get hv l.x.toNat
      have z2 := pb_get hv l.y.toNat
      have e25 := F49_ret ns _ _ z1 z2
      have hfac : facP pl l = ((betF (pl.getD l.x.toNat ((0, 1), (0, 1))) (pl.getD l.y.toNat ((0, 1), (0, 1)))).1 * l.b - (betF (pl.getD l.x.toNat ((0, 1), (0, 1))) (pl.getD l.y.toNat ((0, 1), (0, 1)))).2 * l.a, (betF (pl.getD l.x.toNat ((0, 1), (0, 1))) (pl.getD l.y.toNat ((0, 1), (0, 1)))).1 * l.a + (betF (pl.getD l.x.toNat ((0, 1), (0, 1))) (pl.getD l.y.toNat ((0, 1), (0, 1)))).2 * l.b) := rfl
      have sb : (betF (pl.getD l.x.toNat ((0, 1), (0, 1))) (pl.getD l.y.toNat ((0, 1), (0, 1)))).1.natAbs < 2 ^ 362 ∧ (betF (pl.getD l.x.toNat ((0, 1), (0, 1))) (pl.getD l.y.toNat ((0, 1), (0, 1)))).2.natAbs < 2 ^ 362 := by
        have l1 := less_bd z2.1 z1.1
        have l2 := less_bd z2.2 z1.2
        exact ⟨mul_lt_pow l1.1 l2.2.1, mul_lt_pow l2.1 l1.2.1⟩
      generalize betF (pl.getD l.x.toNat ((0, 1), (0, 1))) (pl.getD l.y.toNat ((0, 1), (0, 1))) = q at e25 sb hfac
      have ab : l.a.natAbs < 2 ^ 5 := by omega
      have bb : l.b.natAbs < 2 ^ 5 := by omega
      have m1 := mul_okB sb.1 bb (by decide) (by decide)
      have m2 := mul_okB sb.2 ab (by decide) (by decide)
      have m3 := mul_okB sb.1 ab (by decide) (by decide)
      have m4 := mul_okB sb.2 bb (by decide) (by decide)
      refine k_seq (k_eq (a := .nx [.val (tellD p ls), .val (.tup (pl.map plD)), .own ((ls.take k).map fun l => prD (facP pl l)), .val (.int l.x), .val (.int l.y), .val (.bool l.s), .val (.int l.a), .val (.int l.b), .val (.int q.1), .val (.int q.2)]) (S' := S') ?_ ?_)
      · have hu := un_pair (i := 8) (j := 9) (a := .int q.1) (b := .int q.2) (env := [.val (tellD p ls), .val (.tup (pl.map plD)), .own ((ls.take k).map fun l => prD (facP pl l)), .val (.int l.x), .val (.int l.y), .val (.bool l.s), .val (.int l.a), .val (.int l.b), e8, e9]) rfl n8 rfl n9
        simp only [ex, ev, evs, getv, List.getElem?_cons_zero, List.getElem?_cons_succ, l_some, b_ret, g1, g2, hT, e25]
        rw [show prD q = .tup [.int q.1, .int q.2] from rfl, hu]
        rfl
      refine k_seq (k_eq (a := .nx [.val (tellD p ls), .val (.tup (pl.map plD)), .own ((ls.take (k + 1)).map fun l => prD (facP pl l)), .val (.int l.x), .val (.int l.y), .val (.bool l.s), .val (.int l.a), .val (.int l.b), .val (.int q.1), .val (.int q.2)]) (S' := S') ?_ ?_)
      · have hz : sizeOk ((ls.take k).map fun l => prD (facP pl l)).length = true := decide_eq_true (by simp; omega)
        have hz2 : ∀ a b : D, sizeOk [a, b].length = true := fun _ _ => rfl
        have ht : (ls.take (k + 1)).map (fun l => prD (facP pl l)) = ((ls.take k).map fun l => prD (facP pl l)) ++ [.tup [.int (q.1 * l.b - q.2 * l.a), .int (q.1 * l.a + q.2 * l.b)]] := by
          rw [List.take_succ_eq_append_getElem hk, List.map_append, hkl]
          simp only [List.map_cons, List.map_nil]
          rw [hfac]; rfl
        rw [ht]
        simp only [ex, ev, evs, getv, List.getElem?_cons_zero, List.getElem?_cons_succ, l_some, b_ret, m1, m2, m3, m4, o_sub, o_add, hz2, hz, if_true, List.set_cons_succ, List.set_cons_zero]
        rfl
      refine k_ret.mpr ?_
      exact ⟨_, rfl, rfl, _, _, _, _, _, _, _, ⟨nown_val _, nown_val _, nown_val _, nown_val _, nown_val _, nown_val _, nown_val _⟩, rfl⟩
    · rintro env S' ⟨rfl, e3, e4, e5, e6, e7, e8, e9, _, rfl⟩
      refine k_eq (a := .rt (.list (ls.map fun l => prD (facP pl l)))) (S' := S') ?_ ⟨rfl, rfl⟩
      rw [List.length_map, List.take_length]
      rfl
  obtain ⟨d, S', e, rfl, rfl⟩ := key
  exact e
/-- places worth v over k -/
def PV (k : Int) (pl : List Pl) (v : Nat → Int × Int) : Prop := ∀ i, i < pl.length → val k (pl.getD i ((0, 1), (0, 1))).1 (v i).1 ∧ val k (pl.getD i ((0, 1), (0, 1))).2 (v i).2
theorem fac_zero {k : Int} (hk : k ≠ 0) {pl : List Pl} {v : Nat → Int × Int} (hv : PV k pl v) {l : Li} (hx : l.x.toNat < pl.length) (hy : l.y.toNat < pl.length) (h0 : l.b * ((v l.y.toNat).1 - (v l.x.toNat).1) - l.a * ((v l.y.toNat).2 - (v l.x.toNat).2) = 0) : (facP pl l).1 = 0 := by
  obtain ⟨p1, p2⟩ := hv _ hx
  obtain ⟨q1, q2⟩ := hv _ hy
  have x := val_less q1 p1
  have y := val_less q2 p2
  show (lessF (pl.getD l.y.toNat ((0, 1), (0, 1))).1 (pl.getD l.x.toNat ((0, 1), (0, 1))).1).1 * (lessF (pl.getD l.y.toNat ((0, 1), (0, 1))).2 (pl.getD l.x.toNat ((0, 1), (0, 1))).2).2 * l.b - (lessF (pl.getD l.y.toNat ((0, 1), (0, 1))).2 (pl.getD l.x.toNat ((0, 1), (0, 1))).2).1 * (lessF (pl.getD l.y.toNat ((0, 1), (0, 1))).1 (pl.getD l.x.toNat ((0, 1), (0, 1))).1).2 * l.a = 0
  generalize lessF (pl.getD l.y.toNat ((0, 1), (0, 1))).1 (pl.getD l.x.toNat ((0, 1), (0, 1))).1 = X at x
  generalize lessF (pl.getD l.y.toNat ((0, 1), (0, 1))).2 (pl.getD l.x.toNat ((0, 1), (0, 1))).2 = Y at y
  generalize (v l.y.toNat).1 - (v l.x.toNat).1 = dx at x h0
  generalize (v l.y.toNat).2 - (v l.x.toNat).2 = dy at y h0
  refine mul_cancel hk ?_
  have e1 : k * (X.1 * Y.2 * l.b) = (X.2 * Y.2) * (l.b * dx) := by
    rw [Int.mul_assoc, ← Int.mul_assoc k, x.2]
    simp only [Int.mul_assoc, Int.mul_left_comm, Int.mul_comm]
  have e2 : k * (Y.1 * X.2 * l.a) = (X.2 * Y.2) * (l.a * dy) := by
    rw [Int.mul_assoc, ← Int.mul_assoc k, y.2]
    simp only [Int.mul_assoc, Int.mul_left_comm, Int.mul_comm]
  rw [Int.mul_sub, e1, e2, ← Int.mul_sub, h0, Int.mul_zero]
theorem F51_true (ns : List Int) (p : Int) (ls : List Li) (pl : List Pl) (hp : p ≤ 9) (hn : ls.length ≤ 16) (hl : ∀ l ∈ ls, isLi p l = true) (hv : ∀ v ∈ pl, pb v) (hvp : (pl.length : Int) = p) (h0 : ∀ l ∈ ls, (facP pl l).1 = 0) (S : Sta) : F51 ns [tellD p ls, .tup (pl.map plD)] S = .ok (.bool true) S := by
  have hT : (T51 ns)[50]? = some (F50 ns) := rfl
  have e26 := F50_ret ns p ls pl hp hn hl hv hvp S
  have hc : ev (T51 ns) (.comp [("across", 2), ("along", 3)] (.tup (.cons (.name 2) (.cons (.name 3) .nil))) (.seq (.call 50 (.cons (.var 0) (.cons (.var 1) .nil)))) .non (.var 2)) [.val (tellD p ls), .val (.tup (pl.map plD)), .un, .un] S = .ok (.list (ls.map fun l => .int (facP pl l).1)) S := by
    refine (comp_gen (ds := ls.map fun l => prD (facP pl l)) (fun _ => true) fstD ?_ (fun d hd => ?_) (by simp; omega)).trans ?_
    · simp only [evI, ev, evs, getv, List.getElem?_cons_zero, List.getElem?_cons_succ, l_some, b_ret, hT]
      exact (b_ok e26).trans rfl
    · obtain ⟨l, _, rfl⟩ := List.mem_map.mp hd
      exact ⟨[.val (tellD p ls), .val (.tup (pl.map plD)), .val (.int (facP pl l).1), .val (.int (facP pl l).2)], rfl, rfl, fun _ => rfl⟩
    · rw [List.filter_eq_self.mpr (fun _ _ => rfl), List.map_map]; rfl
  have ha : blt .any [.list (ls.map fun l => .int (facP pl l).1)] = some (.bool false) := by
    simp only [blt, truths_i, Option.map_some]
    congr 2
    rw [List.any_map, List.any_eq_false]
    intro l hm
    simp [h0 l hm]
  refine r_rt rfl ?_
  show exs (T51 ns) fuel c51 [.val (tellD p ls), .val (.tup (pl.map plD)), .un, .un] S = _
  refine x_rt ?_
  rw [ex]
  refine (b_ok (a := .bool true) (S' := S) ?_).trans rfl
  rw [ev]
  exact (b_ok (blt1 hc ha)).trans rfl
theorem F15_ret' (ns : List Int) (p : Int) (ls : List Li) (h : isTell p ls = true) : F15 ns [tellD p ls] = ret .none := by
  have hT : (T15 ns)[14]? = some (F14 ns) := rfl
  have e := F14_tell ns p ls h
  funext S
  simp [F15, Q7.run, c15, exs, ex, evT, ev, evs, getv, hT, e]
theorem F52_true (ns : List Int) (p : Int) (ls : List Li) (pl : List Pl) (h : isTell p ls = true) (hv : ∀ v ∈ pl, plOk v) (hvp : (pl.length : Int) = p) (h0 : ∀ l ∈ ls, (facP pl l).1 = 0) (S : Sta) : F52 ns [tellD p ls, .tup (pl.map plD)] S = .ok (.bool true) S := by
  obtain ⟨hp, hn, hl⟩ := tell_parts h
  have hT1 : (T48 ns)[15]? = some (F15 ns) := rfl
  have hT2 : (T48 ns)[43]? = some (F43 ns) := rfl
  have hT3 : (T52 ns)[48]? = some (F48 ns) := rfl
  have hT4 : (T52 ns)[51]? = some (F51 ns) := rfl
  have e1 := F15_ret' ns p ls h
  have e2 := F43_ret ns pl (by omega) (by omega) hv
  have e3 := F51_true ns p ls pl hp.2 hn hl (fun v hm => ⟨(hv v hm).1.1, (hv v hm).2.1⟩) hvp h0 S
  have at0 : getitem (tellD p ls) (.int 0) = some (.int p) := rfl
  have hlen : blt .len [.tup (pl.map plD)] = some (.int p) := by simp [blt, hvp]
  generalize D.tup (pl.map plD) = P at e2 e3 hlen
  generalize tellD p ls = Te at e1 e3 at0
  have e42 : F48 ns [Te, P] = ret .none := by
    funext S
    simp [F48, Q7.run, c48, exs, ex, evT, ev, evs, getv, hT1, e1, hT2, e2, at0, hlen]
  refine r_rt rfl ?_
  refine (x_nx (env' := [.val Te, .val P]) (S' := S) (by simp [ex, ev, evs, getv, hT3, e42])).trans ?_
  refine x_rt ?_
  rw [ex]
  refine (b_ok (a := .bool true) (S' := S) ?_).trans rfl
  simp only [ev, evs, getv, List.getElem?_cons_zero, List.getElem?_cons_succ, l_some, b_ret, hT4]
  exact e3
end K21

/-! mixed, places_of, pair, freedom. -/
namespace K21
open Q7 Lin
theorem fb11 : fb (1, 1) := ⟨by decide, by decide, by decide⟩
/-! mixed -/
def mixP (sh rest : Int × Int) (a b : Pl) : Pl := (plusF (timesF sh a.1) (timesF rest b.1), plusF (timesF sh a.2) (timesF rest b.2))
def mixD (sh rest : Int × Int) : D → D
  | .tup [.tup [.int a, .int b], .tup [.int c, .int d]] => prD (plusF (timesF sh (a, b)) (timesF rest (c, d)))
  | _ => .none
theorem F46_ret (ns : List Int) (p1 p2 : List Pl) (sh rest : Int × Int) (hsh : fb sh) (hg : Nat.gcd sh.1.natAbs sh.2.natAbs = 1) (hrest : lessF (1, 1) sh = rest) (hrf : fb rest) (h2 : 2 ≤ p1.length) (h9 : p1.length ≤ 9) (hl : p2.length = p1.length) (ho1 : ∀ q ∈ p1, plOk q) (ho2 : ∀ q ∈ p2, plOk q)
    (hf1 : ∀ q ∈ p1, fb (timesF sh q.1) ∧ fb (timesF sh q.2)) (hf2 : ∀ q ∈ p2, fb (timesF rest q.1) ∧ fb (timesF rest q.2)) (S : Sta) :
    F46 ns [.tup (p1.map plD), .tup (p2.map plD), prD sh] S = .ok (.tup (((p1.zip p2).map fun q => mixP sh rest q.1 q.2).map plD)) S := by
  have hT12 : (T46 ns)[43]? = some (F43 ns) := rfl
  have hT10 : (T46 ns)[41]? = some (F41 ns) := rfl
  have hT15 : (T46 ns)[45]? = some (F45 ns) := rfl
  have hT14 : (T46 ns)[44]? = some (F44 ns) := rfl
  have hT16 : (T46 ns)[32]? = some (F32 ns) := rfl
  have e12a := F43_ret ns p1 h2 h9 ho1
  have e12b := F43_ret ns p2 (by omega) (by omega) ho2
  have e10 := F41_ret ns sh hsh
  rw [decide_eq_true hg] at e10
  have e15 := F45_ret ns (1, 1) sh fb11 hsh
  rw [hrest] at e15
  have e15' : F45 ns [.tup [.int 1, .int 1], prD sh] = ret (prD rest) := e15
  have l1 : blt .len [.tup (p1.map plD)] = some (.int (p1.length : Nat)) := by simp [blt]
  have l2 : blt .len [.tup (p2.map plD)] = some (.int (p1.length : Nat)) := by simp [blt, hl]
  have hz2 : ∀ a b : D, sizeOk [a, b].length = true := fun _ _ => rfl
  have hz0 : sizeOk ([] : List D).length = true := rfl
  have hzip : zipO (.tup (p1.map plD)) (.tup (p2.map plD)) = some ((p1.zip p2).map fun q => .tup [plD q.1, plD q.2]) := by
    show some (zipD (p1.map plD) (p2.map plD)) = _
    unfold zipD
    rw [List.zip_map, List.map_map]; rfl
  generalize hA : D.tup (p1.map plD) = A at e12a l1 hzip
  generalize hB : D.tup (p2.map plD) = B at e12b l2 hzip
  have key : Ok (F46 ns [A, B, prD sh]) S fun d S' => S' = S ∧ d = .tup (((p1.zip p2).map fun q => mixP sh rest q.1 q.2).map plD) := by
    refine k_run rfl ?_
    refine k_seq (k_eq (a := .nx [.val A, .val B, .val (prD sh), .un, .un, .un, .un, .un, .un]) (S' := S) (by simp [ex, ev, evs, getv, hT12, e12a]) ?_)
    refine k_seq (k_eq (a := .nx [.val A, .val B, .val (prD sh), .un, .un, .un, .un, .un, .un]) (S' := S) (by simp [ex, ev, evs, getv, hT12, e12b]) ?_)
    refine k_seq (k_eq (a := .nx [.val A, .val B, .val (prD sh), .un, .un, .un, .un, .un, .un]) (S' := S) (by simp [exs, ex, evT, ev, evs, getv, hT10, e10]) ?_)
    refine k_seq (k_eq (a := .nx [.val A, .val B, .val (prD sh), .un, .un, .un, .un, .un, .un]) (S' := S) (by simp [exs, ex, evT, ev, evs, getv, l1, l2]) ?_)
    refine k_seq (k_eq (a := .nx [.val A, .val B, .val (prD sh), .val (prD rest), .own [], .un, .un, .un, .un]) (S' := S) ?_ ?_)
    · simp only [ex, ev, evs, getv, List.getElem?_cons_zero, List.getElem?_cons_succ, l_some, b_ret, hz2, hz0, if_true, hT15, e15']
      rfl
    refine k_seq ?_
    simp only [ex, evI, ev, k_bind, getv, List.getElem?_cons_zero, List.getElem?_cons_succ, l_some, k_ret, hzip]
    refine k_for (fun k env S' => S' = S ∧ ∃ e5 e6, (nown e5 ∧ nown e6) ∧ env = [.val A, .val B, .val (prD sh), .val (prD rest), .own ((((p1.zip p2).take k).map fun q => mixP sh rest q.1 q.2).map plD), e5, e6, .un, .un]) ⟨rfl, .un, .un, ⟨nown_un, nown_un⟩, rfl⟩ ?_ ?_
    · rintro k d env S' hd ⟨rfl, e5, e6, ⟨n5, n6⟩, rfl⟩
      rw [List.getElem?_map] at hd
      obtain ⟨⟨qa, qb⟩, hq, rfl⟩ := Option.map_eq_some_iff.mp hd
      obtain ⟨hk, hkq⟩ := List.getElem?_eq_some_iff.mp hq
      have hmem : (qa, qb) ∈ p1.zip p2 := hkq ▸ List.getElem_mem hk
      obtain ⟨ma, mb⟩ := List.of_mem_zip hmem
      have hu := un_pair (i := 5) (j := 6) (a := plD qa) (b := plD qb) (env := [.val A, .val B, .val (prD sh), .val (prD rest), .own ((((p1.zip p2).take k).map fun q => mixP sh rest q.1 q.2).map plD), e5, e6, .un, .un]) rfl n5 rfl n6
      simp only [hu]
      have hc : ev (T46 ns) (.comp [("first", 7), ("second", 8)] (.tup (.cons (.name 7) (.cons (.name 8) .nil))) (.zip (.var 5) (.var 6)) .non (.call 44 (.cons (.call 32 (.cons (.var 2) (.cons (.var 7) .nil))) (.cons (.call 32 (.cons (.var 3) (.cons (.var 8) .nil))) .nil)))) [.val A, .val B, .val (prD sh), .val (prD rest), .own ((((p1.zip p2).take k).map fun q => mixP sh rest q.1 q.2).map plD), .val (plD qa), .val (plD qb), .un, .un] S' = .ok (.list [prD (mixP sh rest qa qb).1, prD (mixP sh rest qa qb).2]) S' := by
        have one : ∀ q r : Int × Int, fb q → fb r → fb (timesF sh q) → fb (timesF rest r) → ev (T46 ns) (.call 44 (.cons (.call 32 (.cons (.var 2) (.cons (.var 7) .nil))) (.cons (.call 32 (.cons (.var 3) (.cons (.var 8) .nil))) .nil))) [.val A, .val B, .val (prD sh), .val (prD rest), .own ((((p1.zip p2).take k).map fun q => mixP sh rest q.1 q.2).map plD), .val (plD qa), .val (plD qb), .val (prD q), .val (prD r)] S' = .ok (prD (plusF (timesF sh q) (timesF rest r))) S' := by
          intro q r hq hr ht1 ht2
          simp only [ev, evs, getv, List.getElem?_cons_zero, List.getElem?_cons_succ, l_some, b_ret, hT16, F32_ret ns sh q hsh hq, F32_ret ns rest r hrf hr, hT14, F44_ret ns _ _ ht1 ht2]
          rfl
        obtain ⟨⟨a1, _⟩, ⟨a2, _⟩⟩ := ho1 qa ma
        obtain ⟨⟨b1, _⟩, ⟨b2, _⟩⟩ := ho2 qb mb
        obtain ⟨c1, c2⟩ := hf1 qa ma
        obtain ⟨d1, d2⟩ := hf2 qb mb
        refine (comp_gen (ds := [.tup [prD qa.1, prD qb.1], .tup [prD qa.2, prD qb.2]]) (fun _ => true) (mixD sh rest) rfl (fun d hd => ?_) (by simp)).trans rfl
        simp only [List.mem_cons, List.not_mem_nil, or_false] at hd
        rcases hd with rfl | rfl
        · exact ⟨_, rfl, rfl, fun _ => one qa.1 qb.1 a1 b1 c1 d1⟩
        · exact ⟨_, rfl, rfl, fun _ => one qa.2 qb.2 a2 b2 c2 d2⟩
      refine k_seq (k_eq (a := .nx [.val A, .val B, .val (prD sh), .val (prD rest), .own ((((p1.zip p2).take (k + 1)).map fun q => mixP sh rest q.1 q.2).map plD), .val (plD qa), .val (plD qb), .un, .un]) (S' := S') ?_ ?_)
      · have hsz : sizeOk ((((p1.zip p2).take k).map fun q => mixP sh rest q.1 q.2).map plD).length = true := decide_eq_true (by simp; omega)
        simp only [List.set_cons_succ, List.set_cons_zero, ex, List.getElem?_cons_zero, List.getElem?_cons_succ]
        refine (b_ok (blt1 (b := .tuple) (y := .tup [prD (mixP sh rest qa qb).1, prD (mixP sh rest qa qb).2]) hc rfl)).trans ?_
        simp only [hsz, if_true]
        have ht : (((p1.zip p2).take (k + 1)).map fun q => mixP sh rest q.1 q.2).map plD = (((p1.zip p2).take k).map fun q => mixP sh rest q.1 q.2).map plD ++ [.tup [prD (mixP sh rest qa qb).1, prD (mixP sh rest qa qb).2]] := by
          rw [List.take_succ_eq_append_getElem hk, List.map_append, List.map_append, hkq]; rfl
        rw [ht]
        rfl
      · exact k_ret.mpr ⟨_, rfl, rfl, _, _, ⟨nown_val _, nown_val _⟩, rfl⟩
    · rintro env S' ⟨rfl, e5, e6, _, rfl⟩
      rw [List.length_map, List.take_length]
      exact k_eq (a := .rt (.tup (((p1.zip p2).map fun q => mixP sh rest q.1 q.2).map plD))) (S' := S') rfl ⟨rfl, rfl⟩
  obtain ⟨d, S', e, rfl, rfl⟩ := key
  exact e
/-! places_of -/
def zP (v : Int × Int) : Pl := ((v.1, 1), (v.2, 1))
def ptsF (p : Nat) (s : List Int) : List Pl := (List.range p).map fun k => zP (vx (en s) k, vy (en s) k)
def plsD (p : Nat) (s : List Int) : D := .tup ((ptsF p s).map plD)
theorem times_one (n : Int) : timesF (n, 1) (1, 1) = (n, 1) := by
  show fracF (n * 1) (1 * 1) = _
  rw [Int.mul_one, Int.mul_one]
  unfold fracF
  rw [show (1 : Int).natAbs = 1 from rfl, Nat.gcd_one_right]
  simp [Int.fdiv_one]
theorem fb_int {n : Int} (h : n.natAbs < 2 ^ 90) : fb (n, 1) := ⟨h, by show (0 : Int) < 1; decide, by show (1 : Int).natAbs < 2 ^ 90; decide⟩
def numD : D → D
  | .int n => prD (n, 1)
  | _ => .none
theorem at_map {l : List Int} {f : Int → D} {k : Nat} (h : k < l.length) : getitem (.list (l.map f)) (.int (k : Int)) = some (f (en l k)) := by
  show L2.atI (l.map f) (k : Int) = _
  rw [at_in (by omega) (by rw [List.length_map]; omega)]
  show (l.map f)[k]? = _
  rw [List.getElem?_map, List.getElem?_eq_getElem h]
  simp [en, List.getD, List.getElem?_eq_getElem h]
theorem F33_ret (ns : List Int) (p : Nat) (s : List Int) (hp : p ≤ 9) (hp1 : 1 ≤ p) (hs : s.length = 2 * p - 2) (hb : ∀ c, (en s c).natAbs < 2 ^ 90) : F33 ns [iD s, .int 1] = ret (plsD p s) := by
  have hT : (T33 ns)[32]? = some (F32 ns) := rfl
  funext S
  have hadd : binop .add (.list [.int 0, .int 0]) (iD s) = some (iD (0 :: 0 :: s)) := by
    have : sizeOk ([D.int 0, .int 0].length + (s.map D.int).length) = true := decide_eq_true (by simp; omega)
    show (if sizeOk ([D.int 0, .int 0].length + (s.map D.int).length) then some (D.list ([D.int 0, .int 0] ++ s.map D.int)) else none) = _
    rw [if_pos this]; rfl
  have hlist : blt .list [iD s] = some (iD s) := rfl
  have hz2 : ∀ a b : D, sizeOk [a, b].length = true := fun _ _ => rfl
  generalize hnu : (0 :: 0 :: s : List Int) = nu at hadd
  have hnl : nu.length = 2 * p := by rw [← hnu]; simp; omega
  have hnb : ∀ n ∈ nu, n.natAbs < 2 ^ 90 := fun n hn => by
    obtain ⟨i, _, rfl⟩ := mem_en hn
    rw [← hnu]
    rcases i with _ | _ | i
    · exact Nat.two_pow_pos _
    · exact Nat.two_pow_pos _
    · exact hb i
  have hc1 : ev (T33 ns) (.comp [("number", 4)] (.name 4) (.seq (.var 2)) .non (.call 32 (.cons (.tup (.cons (.var 4) (.cons (.int 1) .nil))) (.cons (.tup (.cons (.int 1) (.cons (.var 1) .nil))) .nil)))) [.val (iD s), .val (.int 1), .val (iD nu), .un, .un, .un] S = .ok (.list (nu.map fun n => prD (n, 1))) S := by
    refine (comp_map (ds := nu.map .int) (g := numD) (by simp [evI, ev, getv, iseq, iD]) (by simp) (by simp) (fun d hd => ?_) (by rw [List.length_map]; omega)).trans ?_
    · obtain ⟨n, hn, rfl⟩ := List.mem_map.mp hd
      have e := F32_ret ns (n, 1) (1, 1) (fb_int (hnb n hn)) (fb_int (by decide))
      rw [times_one] at e
      have e' : F32 ns [.tup [.int n, .int 1], .tup [.int 1, .int 1]] = ret (prD (n, 1)) := e
      simp only [wipeE, List.map, List.set_cons_succ, List.set_cons_zero, ev, evs, getv, List.getElem?_cons_zero, List.getElem?_cons_succ, l_some, b_ret, hz2, if_true, hT, e']
      rfl
    · rw [List.map_map]; rfl
  have hlen : blt .len [.list (nu.map fun n => prD (n, 1))] = some (.int ((2 * p : Nat) : Int)) := by simp [blt, hnl]
  have hrg : rng3O (.int 0) (.int ((2 * p : Nat) : Int)) (.int 2) = some ((List.range p).map fun k => .int (2 * (k : Nat))) := by
    have h1 : rngOk 0 ((2 * p : Nat) : Int) = true := by simp only [rngOk, Bool.and_eq_true, decide_eq_true_eq]; omega
    have h2 : (((2 * p : Nat) : Int) + 1).toNat / 2 = p := by omega
    simp only [rng3O, h1, decide_true, Bool.and_self, if_true, h2]
  have hc2 : ev (T33 ns) (.comp [("k", 5)] (.name 5) (.rng3 (.int 0) (.blt .len (.cons (.var 3) .nil)) (.int 2)) .non (.tup (.cons (.idx (.var 3) (.var 5)) (.cons (.idx (.var 3) (.bin .add (.var 5) (.int 1))) .nil)))) [.val (iD s), .val (.int 1), .val (iD nu), .val (.list (nu.map fun n => prD (n, 1))), .un, .un] S = .ok (.list ((ptsF p s).map plD)) S := by
    refine (comp_map (ds := (List.range p).map fun k => .int (2 * (k : Nat))) (g := fun d => match d with | .int i => plD (zP (en nu i.toNat, en nu (i.toNat + 1))) | _ => .none) ?_ (by simp) (by simp) (fun d hd => ?_) (by rw [List.length_map, List.length_range]; omega)).trans ?_
    · simp only [evI, ev, evs, getv, List.getElem?_cons_zero, List.getElem?_cons_succ, l_some, b_ret, hlen, hrg]
      rfl
    · obtain ⟨k, hk, rfl⟩ := List.mem_map.mp hd
      have hk' := List.mem_range.mp hk
      have a1 := at_map (l := nu) (f := fun n => prD (n, 1)) (k := 2 * k) (by omega)
      have a2 := at_map (l := nu) (f := fun n => prD (n, 1)) (k := 2 * k + 1) (by omega)
      rw [show ((2 * k : Nat) : Int) = 2 * (k : Int) by omega] at a1
      rw [show ((2 * k + 1 : Nat) : Int) = 2 * (k : Int) + 1 by omega] at a2
      show _ = Res.ok (plD (zP (en nu (2 * (k : Int)).toNat, en nu ((2 * (k : Int)).toNat + 1)))) S
      rw [show (2 * (k : Int)).toNat = 2 * k by omega]
      simp only [wipeE, List.map, List.set_cons_succ, List.set_cons_zero, ev, evs, getv, List.getElem?_cons_zero, List.getElem?_cons_succ, l_some, b_ret, hz2, if_true, a1, a2, o_add]
      rfl
    · rw [List.map_map]
      unfold ptsF
      rw [List.map_map]
      congr 2
      refine List.map_congr_left fun k _ => ?_
      show plD (zP (en nu (2 * (k : Int)).toNat, en nu ((2 * (k : Int)).toNat + 1))) = plD (zP (vx (en s) k, vy (en s) k))
      rw [show (2 * (k : Int)).toNat = 2 * k by omega, ← hnu, (en_two s k).1, (en_two s k).2]
  refine r_rt rfl ?_
  refine (x_nx (env' := [.val (iD s), .val (.int 1), .val (iD nu), .un, .un, .un]) (S' := S) ?_).trans ?_
  · simp only [List.map, List.replicate, List.cons_append, List.nil_append, ex, ev, evs, getv, List.getElem?_cons_zero, List.getElem?_cons_succ, l_some, b_ret, hz2, if_true, hlist, hadd, store1]
    rfl
  refine (x_nx (env' := [.val (iD s), .val (.int 1), .val (iD nu), .val (.list (nu.map fun n => prD (n, 1))), .un, .un]) (S' := S) ?_).trans ?_
  · rw [ex]
    exact (b_ok hc1).trans rfl
  refine x_rt ?_
  rw [ex]
  exact (b_ok (blt1 (b := .tuple) hc2 rfl)).trans rfl
theorem F16_ret' (ns : List Int) (p i j : Nat) (ls : List Li) (hij : i < j) (hjp : j < p) : F16 ns [tellD (p : Int) ls, .tup [.int (i : Int), .int (j : Int)]] = ret .none := by
  have hT : (T16 ns)[10]? = some (F10 ns) := rfl
  have e := F10_ret ns (p : Int) (.int (i : Int)) (.int (j : Int)) rfl rfl
  have b : isPair (p : Int) (.tup [.int (i : Int), .int (j : Int)]) = true := by
    rw [pair_iff]
    exact decide_eq_true ⟨by omega, by omega, by omega, by omega⟩
  rw [b] at e
  have at0 : getitem (tellD (p : Int) ls) (.int 0) = some (.int (p : Int)) := rfl
  generalize tellD (p : Int) ls = d at at0
  generalize D.tup [.int (i : Int), .int (j : Int)] = o at e
  funext S
  simp [F16, Q7.run, c16, exs, ex, evT, ev, evs, getv, hT, e, at0]
theorem F39_of (ns : List Int) (p i j : Nat) (ls : List Li) (h : isTell (p : Int) ls = true) (hij : i < j) (hjp : j < p) {S : Sta} {sols : List (List Int)} {kd : D} (e24 : F24 ns [tellD (p : Int) ls] S = .ok (.list (sols.map iD)) S) (e29 : F29 ns [.list (sols.map iD), .tup [.int (i : Int), .int (j : Int)]] S = .ok kd S) : F39 ns [tellD (p : Int) ls, .tup [.int (i : Int), .int (j : Int)]] S = .ok kd S := by
  have hT15 : (T39 ns)[15]? = some (F15 ns) := rfl
  have hT16 : (T39 ns)[16]? = some (F16 ns) := rfl
  have hT29 : (T39 ns)[29]? = some (F29 ns) := rfl
  have hT24 : (T39 ns)[24]? = some (F24 ns) := rfl
  have e15 := F15_ret' ns (p : Int) ls h
  have e16 := F16_ret' ns p i j ls hij hjp
  generalize D.tup [.int (i : Int), .int (j : Int)] = one at e29 e16
  generalize tellD (p : Int) ls = Te at e15 e16 e24
  refine r_rt rfl ?_
  refine (x_nx (env' := [.val Te, .val one]) (S' := S) (by simp [ex, ev, evs, getv, hT15, e15])).trans ?_
  refine (x_nx (env' := [.val Te, .val one]) (S' := S) (by simp [ex, ev, evs, getv, hT16, e16])).trans ?_
  refine x_rt ?_
  rw [ex]
  refine (b_ok (a := kd) (S' := S) ?_).trans rfl
  rw [ev]
  refine (b_ok (a := [.list (sols.map iD), one]) (S' := S) ?_).trans ?_
  · rw [evs]
    refine (b_ok (a := .list (sols.map iD)) (S' := S) ?_).trans rfl
    simp only [ev, evs, getv, List.getElem?_cons_zero, List.getElem?_cons_succ, l_some, b_ret, hT24]
    exact e24
  · rw [hT29]
    exact e29
theorem F38_of (ns : List Int) (p : Nat) (ls : List Li) (h : isTell (p : Int) ls = true) {S : Sta} {sols : List (List Int)} (e24 : F24 ns [tellD (p : Int) ls] S = .ok (.list (sols.map iD)) S) : F38 ns [tellD (p : Int) ls] S = .ok (.int (sols.length : Nat)) S := by
  have hT15 : (T38 ns)[15]? = some (F15 ns) := rfl
  have hT24 : (T38 ns)[24]? = some (F24 ns) := rfl
  have e15 := F15_ret' ns (p : Int) ls h
  have hlen : blt .len [.list (sols.map iD)] = some (.int (sols.length : Nat)) := by simp [blt]
  generalize tellD (p : Int) ls = Te at e15 e24
  refine r_rt rfl ?_
  refine (x_nx (env' := [.val Te]) (S' := S) (by simp [ex, ev, evs, getv, hT15, e15])).trans ?_
  refine x_rt ?_
  rw [ex]
  refine (b_ok (blt1 (x := .list (sols.map iD)) (S' := S) ?_ hlen)).trans rfl
  simp only [ev, evs, getv, List.getElem?_cons_zero, List.getElem?_cons_succ, l_some, b_ret, hT24]
  exact e24
end K21

/-! two_drawings, quotient. -/
namespace K21
open Q7 Lin
theorem gapD_iD (s : List Int) (i j : Nat) : gapD i j (iD s) = prD (gapF (en s) i j) := by
  show prD (gapF (en ((s.map D.int).map _)) i j) = _
  rw [List.map_map]
  congr 3
  exact (List.map_congr_left (fun x _ => rfl)).trans (List.map_id s)
theorem ok_along (q : Int × Int) : okD 60 (alongD q) = true := by
  show ([D.str (PySem.Str.ofString "along"), prD q].all (okD 59)) = true
  simp only [List.all_cons, List.all_nil, Bool.and_true]
  show (PySem.PyData.strOk (PySem.Str.ofString "along") && true) = true
  decide +kernel
theorem ne_so : cmpop .ne sameD openD = some true := by kernel_rfl
theorem ne_oo : cmpop .ne openD openD = some false := by kernel_rfl
theorem ne_ao (q : Int × Int) : cmpop .ne (alongD q) openD = some true := by
  have h2 : okD 60 openD = true := by
    show ([D.str (PySem.Str.ofString "open")].all (okD 59)) = true
    simp only [List.all_cons, List.all_nil, Bool.and_true]
    show PySem.PyData.strOk (PySem.Str.ofString "open") = true
    decide +kernel
  have h3 : eqD (alongD q) openD = false := by
    have e : eqD (alongD q) openD = ((PySem.Str.ofString "along" == PySem.Str.ofString "open") && PySem.PyData.eqvAll (pyds [prD q]) (pyds [])) := rfl
    rw [e, show (PySem.Str.ofString "along" == PySem.Str.ofString "open") = false by decide +kernel]
    rfl
  simp only [cmpop, eqO, ok_along, h2, Bool.and_self, if_true, h3, Option.map_some, Bool.not_false]
section
variable (ns : List Int) (p i j : Nat) (ls : List Li) (h : isTell (p : Int) ls = true) (hij : i < j) (hjp : j < p) {S : Sta} {sols : List (List Int)} {kd : D} (e24 : F24 ns [tellD (p : Int) ls] S = .ok (.list (sols.map iD)) S) (e29 : F29 ns [.list (sols.map iD), .tup [.int (i : Int), .int (j : Int)]] S = .ok kd S)
include h hij hjp e24 e29
theorem F34_closed (hne : cmpop .ne kd openD = some true) : F34 ns [tellD (p : Int) ls, .tup [.int (i : Int), .int (j : Int)]] S = .exc 12 S := by
  have hT15 : (T34 ns)[15]? = some (F15 ns) := rfl
  have hT16 : (T34 ns)[16]? = some (F16 ns) := rfl
  have hT29 : (T34 ns)[29]? = some (F29 ns) := rfl
  have hT24 : (T34 ns)[24]? = some (F24 ns) := rfl
  have e15 := F15_ret' ns (p : Int) ls h
  have e16 := F16_ret' ns p i j ls hij hjp
  generalize D.tup [.int (i : Int), .int (j : Int)] = one at e29 e16
  generalize tellD (p : Int) ls = Te at e15 e16 e24
  have hz1 : ∀ a : D, sizeOk [a].length = true := fun _ => rfl
  refine r_exc rfl ?_
  refine (x_nx (env' := [.val Te, .val one, .un, .un, .un, .un, .un, .un, .un, .un]) (S' := S) (by simp [ex, ev, evs, getv, hT15, e15])).trans ?_
  refine (x_nx (env' := [.val Te, .val one, .un, .un, .un, .un, .un, .un, .un, .un]) (S' := S) (by simp [ex, ev, evs, getv, hT16, e16])).trans ?_
  refine (x_nx (env' := [.val Te, .val one, .val (.list (sols.map iD)), .un, .un, .un, .un, .un, .un, .un]) (S' := S) ?_).trans ?_
  · rw [ex]
    refine (b_ok (a := .list (sols.map iD)) (S' := S) ?_).trans rfl
    simp only [ev, evs, getv, List.getElem?_cons_zero, List.getElem?_cons_succ, l_some, b_ret, hT24]
    exact e24
  refine x_exc ?_
  rw [ex]
  refine (b_ok (a := true) (S' := S) ?_).trans rfl
  rw [evT]
  refine (b_ok (a := kd) (S' := S) ?_).trans ?_
  · simp only [ev, evs, getv, List.getElem?_cons_zero, List.getElem?_cons_succ, l_some, b_ret, hT29]
    exact e29
  · simp only [ev, evs, b_ret, hz1, if_true]
    show lift (cmpop .ne kd openD) S = _
    rw [hne]; rfl
theorem F34_open (hko : kd = openD) (hp : p ≤ 9) (hb : ∀ s ∈ sols, s.length = 2 * p - 2 ∧ ∀ c, (en s c).natAbs < 2 ^ 90) (hsl : sols.length ≤ 16) {g0 : Int × Int} {r : List (Int × Int)} (hf : ((sols.map fun s => gapF (en s) i j).filter fun g => !decide (g.1 = 0 ∧ g.2 = 0)) = g0 :: r) (hex : ∃ g ∈ g0 :: r, ¬ g0.1 * g.2 = g0.2 * g.1) :
    ∃ s ∈ sols, ∃ t ∈ sols, F34 ns [tellD (p : Int) ls, .tup [.int (i : Int), .int (j : Int)]] S = .ok (.tup [plsD p s, plsD p t]) S ∧ ¬ (gapF (en s) i j).1 * (gapF (en t) i j).2 = (gapF (en s) i j).2 * (gapF (en t) i j).1 := by
  subst hko
  have hT15 : (T34 ns)[15]? = some (F15 ns) := rfl
  have hT16 : (T34 ns)[16]? = some (F16 ns) := rfl
  have hT29 : (T34 ns)[29]? = some (F29 ns) := rfl
  have hT24 : (T34 ns)[24]? = some (F24 ns) := rfl
  have hT28 : (T34 ns)[28]? = some (F28 ns) := rfl
  have hT33 : (T34 ns)[33]? = some (F33 ns) := rfl
  have e15 := F15_ret' ns (p : Int) ls h
  have e16 := F16_ret' ns p i j ls hij hjp
  have o0 : getitem (.tup [.int (i : Int), .int (j : Int)]) (.int 0) = some (.int (i : Int)) := rfl
  have o1 : getitem (.tup [.int (i : Int), .int (j : Int)]) (.int 1) = some (.int (j : Int)) := rfl
  generalize D.tup [.int (i : Int), .int (j : Int)] = one at e29 e16 o0 o1
  generalize tellD (p : Int) ls = Te at e15 e16 e24
  have hz1 : ∀ a : D, sizeOk [a].length = true := fun _ => rfl
  have hz2 : ∀ a b : D, sizeOk [a, b].length = true := fun _ _ => rfl
  generalize hzs : (sols.filter fun s => !decide ((gapF (en s) i j).1 = 0 ∧ (gapF (en s) i j).2 = 0)) = zs
  have hzm : ∀ s ∈ zs, s ∈ sols := fun s hm => by rw [← hzs] at hm; exact (List.mem_filter.mp hm).1
  have hzg : zs.map (fun s => gapF (en s) i j) = g0 :: r := by
    rw [← hf, List.filter_map, ← hzs]
    rfl
  cases hz : zs with
  | nil => rw [hz] at hzg; cases hzg
  | cons s0 zr =>
    have hs0 : s0 ∈ sols := hzm s0 (by rw [hz]; simp)
    have hg0 : gapF (en s0) i j = g0 := by rw [hz] at hzg; simpa using (List.cons.inj hzg).1
    have e28 : ∀ s ∈ sols, F28 ns [iD s, .int (i : Int), .int (j : Int)] = ret (prD (gapF (en s) i j)) := fun s hm => F28_ret ns s i j (by have := (hb s hm).1; omega) (by have := (hb s hm).1; omega) (by have := (hb s hm).1; omega)
    have gb : ∀ s ∈ sols, (gapF (en s) i j).1.natAbs < 2 ^ 7421 ∧ (gapF (en s) i j).2.natAbs < 2 ^ 7421 := fun s hm => gap_bd (fun x hx => by
      obtain ⟨c, _, rfl⟩ := mem_en hx
      exact pow_le_big ((hb s hm).2 c) (by decide)) i j
    have key : Ok (F34 ns [Te, one]) S fun d S' => S' = S ∧ ∃ t ∈ sols, d = .tup [plsD p s0, plsD p t] ∧ ¬ (gapF (en s0) i j).1 * (gapF (en t) i j).2 = (gapF (en s0) i j).2 * (gapF (en t) i j).1 := by
      refine k_run rfl ?_
      refine k_seq (k_eq (a := .nx [.val Te, .val one, .un, .un, .un, .un, .un, .un, .un, .un]) (S' := S) (by simp [ex, ev, evs, getv, hT15, e15]) ?_)
      refine k_seq (k_eq (a := .nx [.val Te, .val one, .un, .un, .un, .un, .un, .un, .un, .un]) (S' := S) (by simp [ex, ev, evs, getv, hT16, e16]) ?_)
      refine k_seq (k_eq (a := .nx [.val Te, .val one, .val (.list (sols.map iD)), .un, .un, .un, .un, .un, .un, .un]) (S' := S) ?_ ?_)
      · rw [ex]
        refine (b_ok (a := .list (sols.map iD)) (S' := S) ?_).trans rfl
        simp only [ev, evs, getv, List.getElem?_cons_zero, List.getElem?_cons_succ, l_some, b_ret, hT24]
        exact e24
      refine k_seq (k_eq (a := .nx [.val Te, .val one, .val (.list (sols.map iD)), .un, .un, .un, .un, .un, .un, .un]) (S' := S) ?_ ?_)
      · rw [ex]
        refine (b_ok (a := false) (S' := S) ?_).trans rfl
        rw [evT]
        refine (b_ok (a := openD) (S' := S) ?_).trans ?_
        · simp only [ev, evs, getv, List.getElem?_cons_zero, List.getElem?_cons_succ, l_some, b_ret, hT29]
          exact e29
        · simp only [ev, evs, b_ret, hz1, if_true]
          show lift (cmpop .ne openD openD) S = _
          rw [ne_oo]; rfl
      have hc : ev (T34 ns) (.comp [("row", 7)] (.name 7) (.seq (.var 2)) (.som (.cmp .ne (.call 28 (.cons (.var 7) (.cons (.idx (.var 1) (.int 0)) (.cons (.idx (.var 1) (.int 1)) .nil)))) (.tup (.cons (.int 0) (.cons (.int 0) .nil))))) (.var 7)) [.val Te, .val one, .val (.list (sols.map iD)), .un, .un, .un, .un, .un, .un, .un] S = .ok (.list (zs.map iD)) S := by
        refine (comp_gen (ds := sols.map iD) (fun d => nz0 (gapD i j d)) id (by simp [evI, ev, getv, iseq]) (fun d hd => ?_) (by rw [List.length_map]; omega)).trans ?_
        · obtain ⟨s, hm, rfl⟩ := List.mem_map.mp hd
          refine ⟨[.val Te, .val one, .val (.list (sols.map iD)), .un, .un, .un, .un, .val (iD s), .un, .un], rfl, ?_, fun _ => rfl⟩
          have := c_neP (gapF (en s) i j).1 (gapF (en s) i j).2 0 0
          rw [gapD_iD]
          simp only [evOT, evT, ev, evs, getv, List.getElem?_cons_zero, List.getElem?_cons_succ, l_some, b_ret, o0, o1, hT28, e28 s hm, hz2, if_true]
          show lift (cmpop .ne (.tup [.int (gapF (en s) i j).1, .int (gapF (en s) i j).2]) (.tup [.int 0, .int 0])) S = _
          rw [this]
          rfl
        · rw [List.map_id, List.filter_map, ← hzs]
          congr 2
          congr 1
          refine List.filter_congr fun s _ => ?_
          show nz0 (gapD i j (iD s)) = _
          rw [gapD_iD]
          rfl
      refine k_seq (k_eq (a := .nx [.val Te, .val one, .val (.list (sols.map iD)), .val (.list (zs.map iD)), .un, .un, .un, .un, .un, .un]) (S' := S) ?_ ?_)
      · rw [ex]
        exact (b_ok hc).trans rfl
      have a0 : getitem (.list (zs.map iD)) (.int 0) = some (iD s0) := by
        rw [hz]
        show L2.atI _ _ = _
        rw [at_in (by decide) (by simp <;> omega)]
        rfl
      refine k_seq (k_eq (a := .nx [.val Te, .val one, .val (.list (sols.map iD)), .val (.list (zs.map iD)), .un, .val (.int (gapF (en s0) i j).1), .val (.int (gapF (en s0) i j).2), .un, .un, .un]) (S' := S) ?_ ?_)
      · simp only [ex, ev, evs, getv, List.getElem?_cons_zero, List.getElem?_cons_succ, l_some, b_ret, a0, o0, o1, hT28, e28 s0 hs0]
        rfl
      refine k_seq ?_
      have hi : iseq (.list (zs.map iD)) = some (zs.map iD) := rfl
      simp only [ex, evI, ev, k_bind, getv, List.getElem?_cons_zero, List.getElem?_cons_succ, l_some, k_ret, hi]
      refine k_forR (fun k env S' => S' = S ∧ (∀ m (hm : m < zs.length), m < k → (gapF (en s0) i j).1 * (gapF (en zs[m]) i j).2 = (gapF (en s0) i j).2 * (gapF (en zs[m]) i j).1) ∧ ∃ e4 e8 e9, (nown e4 ∧ nown e8 ∧ nown e9) ∧ env = [.val Te, .val one, .val (.list (sols.map iD)), .val (.list (zs.map iD)), e4, .val (.int (gapF (en s0) i j).1), .val (.int (gapF (en s0) i j).2), .un, e8, e9]) ⟨rfl, fun m hm h0 => by omega, .un, .un, .un, ⟨nown_un, nown_un, nown_un⟩, rfl⟩ ?_ ?_
      · rintro k d env S' hd ⟨rfl, hpar, e4, e8, e9, ⟨n4, n8, n9⟩, rfl⟩
        rw [List.getElem?_map] at hd
        obtain ⟨t, ht, rfl⟩ := Option.map_eq_some_iff.mp hd
        obtain ⟨hk, hkt⟩ := List.getElem?_eq_some_iff.mp ht
        have htm : t ∈ sols := hzm t (hkt ▸ List.getElem_mem hk)
        have hu := un_name (i := 4) (d := iD t) (env := [.val Te, .val one, .val (.list (sols.map iD)), .val (.list (zs.map iD)), e4, .val (.int (gapF (en s0) i j).1), .val (.int (gapF (en s0) i j).2), .un, e8, e9]) rfl n4
        simp only [hu]
        have hu2 := un_pair (i := 8) (j := 9) (a := .int (gapF (en t) i j).1) (b := .int (gapF (en t) i j).2) (env := [.val Te, .val one, .val (.list (sols.map iD)), .val (.list (zs.map iD)), .val (iD t), .val (.int (gapF (en s0) i j).1), .val (.int (gapF (en s0) i j).2), .un, e8, e9]) rfl n8 rfl n9
        refine k_seq (k_eq (a := .nx [.val Te, .val one, .val (.list (sols.map iD)), .val (.list (zs.map iD)), .val (iD t), .val (.int (gapF (en s0) i j).1), .val (.int (gapF (en s0) i j).2), .un, .val (.int (gapF (en t) i j).1), .val (.int (gapF (en t) i j).2)]) (S' := S') ?_ ?_)
        · simp only [List.set_cons_succ, List.set_cons_zero, ex, ev, evs, getv, List.getElem?_cons_zero, List.getElem?_cons_succ, l_some, b_ret, o0, o1, hT28, e28 t htm]
          rw [show prD (gapF (en t) i j) = .tup [.int (gapF (en t) i j).1, .int (gapF (en t) i j).2] from rfl, hu2]
          rfl
        have m1 := mul_okB (gb s0 hs0).1 (gb t htm).2 (by decide) (by decide)
        have m2 := mul_okB (gb s0 hs0).2 (gb t htm).1 (by decide) (by decide)
        by_cases hx : (gapF (en s0) i j).1 * (gapF (en t) i j).2 = (gapF (en s0) i j).2 * (gapF (en t) i j).1
        · refine k_seq (k_eq (a := .nx [.val Te, .val one, .val (.list (sols.map iD)), .val (.list (zs.map iD)), .val (iD t), .val (.int (gapF (en s0) i j).1), .val (.int (gapF (en s0) i j).2), .un, .val (.int (gapF (en t) i j).1), .val (.int (gapF (en t) i j).2)]) (S' := S') ?_ ?_)
          · have hd0 : decide ((gapF (en s0) i j).1 * (gapF (en t) i j).2 ≠ (gapF (en s0) i j).2 * (gapF (en t) i j).1) = false := decide_eq_false (fun h => h hx)
            simp only [exs, ex, evT, ev, getv, List.getElem?_cons_zero, List.getElem?_cons_succ, l_some, b_ret, m1, m2, c_neI, hd0, Bool.false_eq_true, if_false]
            rfl
          · refine k_ret.mpr (.inl ⟨_, rfl, rfl, fun m hm h0 => ?_, _, _, _, ⟨nown_val _, nown_val _, nown_val _⟩, rfl⟩)
            by_cases e : m = k
            · subst e
              rw [hkt]; exact hx
            · exact hpar m hm (by omega)
        · refine k_seq (k_eq (a := .rt (.tup [plsD p s0, plsD p t])) (S' := S') ?_ ?_)
          · have hd0 : decide ((gapF (en s0) i j).1 * (gapF (en t) i j).2 ≠ (gapF (en s0) i j).2 * (gapF (en t) i j).1) = true := decide_eq_true hx
            have p1 := F33_ret ns p s0 hp (by omega) (hb s0 hs0).1 (hb s0 hs0).2
            have p2 := F33_ret ns p t hp (by omega) (hb t htm).1 (hb t htm).2
            simp only [exs, ex, evT, ev, evs, getv, List.getElem?_cons_zero, List.getElem?_cons_succ, l_some, b_ret, m1, m2, c_neI, hd0, if_true, a0, hT33, p1, p2, hz2]
            rfl
          · exact k_ret.mpr (.inr ⟨⟨_, rfl⟩, k_ret.mpr ⟨rfl, t, htm, rfl, hx⟩⟩)
      · rintro env S' ⟨rfl, hpar, _⟩
        exfalso
        obtain ⟨g, hg, hgn⟩ := hex
        rw [← hzg] at hg
        obtain ⟨t, htm, rfl⟩ := List.mem_map.mp hg
        obtain ⟨m, hm, rfl⟩ := List.getElem_of_mem htm
        rw [List.length_map] at hpar
        rw [← hg0] at hgn
        exact hgn (hpar m hm hm)
    obtain ⟨d, S', e, rfl, t, htm, rfl, hx⟩ := key
    exact ⟨s0, hs0, t, htm, e, hx⟩
end
end K21

/-! quotient, outcomes, steps. -/
namespace K21
open Q7 Lin
theorem st_s : cmpop .ne (.str (PySem.Str.ofString "same")) (.str (PySem.Str.ofString "along")) = some true := by kernel_rfl
theorem st_o : cmpop .ne (.str (PySem.Str.ofString "open")) (.str (PySem.Str.ofString "along")) = some true := by kernel_rfl
theorem st_a : cmpop .ne (.str (PySem.Str.ofString "along")) (.str (PySem.Str.ofString "along")) = some false := by kernel_rfl
theorem F30_none (ns : List Int) (sols : List (List Int)) (one kd : D) {S : Sta} {z : PySem.Str} (e29 : F29 ns [.list (sols.map iD), one] S = .ok kd S) (h0 : getitem kd (.int 0) = some (.str z)) (hz : cmpop .ne (.str z) (.str (PySem.Str.ofString "along")) = some true) : F30 ns [.list (sols.map iD), one] S = .ok .none S := by
  have hT29 : (T30 ns)[29]? = some (F29 ns) := rfl
  refine r_rt rfl ?_
  refine (x_nx (env' := [.val (.list (sols.map iD)), .val one, .val kd, .un, .un, .un, .un, .un, .un]) (S' := S) ?_).trans ?_
  · rw [ex]
    refine (b_ok (a := kd) (S' := S) ?_).trans rfl
    simp only [List.map, List.replicate, List.cons_append, List.nil_append, ev, evs, getv, List.getElem?_cons_zero, List.getElem?_cons_succ, l_some, b_ret, hT29]
    exact e29
  refine x_rt ?_
  simp only [ex, exs, evT, ev, getv, List.getElem?_cons_zero, List.getElem?_cons_succ, l_some, b_ret, h0, hz, if_true]
  rfl
def facV (q g : Int × Int) : Int := if q.1 ≠ 0 then g.1.fdiv q.1 else g.2.fdiv q.2
theorem cop_dvd {a b x y : Int} (hc : ∀ k : Int, k ∣ a → k ∣ b → k.natAbs = 1) (h : x * b = y * a) : a ∣ x := by
  have h1 : Nat.Coprime a.natAbs b.natAbs := by
    have := hc ((Nat.gcd a.natAbs b.natAbs : Nat) : Int) (Int.ofNat_dvd_left.mpr (Nat.gcd_dvd_left _ _)) (Int.ofNat_dvd_left.mpr (Nat.gcd_dvd_right _ _))
    simpa using this
  have h2 : a.natAbs ∣ x.natAbs * b.natAbs := by
    rw [← Int.natAbs_mul, h, Int.natAbs_mul]
    exact Nat.dvd_mul_left _ _
  exact Int.natAbs_dvd_natAbs.mp (h1.dvd_of_dvd_mul_right h2)
theorem facV_ok {q g : Int × Int} (hc : ∀ k : Int, k ∣ q.1 → k ∣ q.2 → k.natAbs = 1) (h : g.1 * q.2 = g.2 * q.1) (hg : g.1.natAbs < 2 ^ 7421 ∧ g.2.natAbs < 2 ^ 7421) : (facV q g).natAbs < 2 ^ 7421 ∧ (¬ (g.1 = 0 ∧ g.2 = 0) → facV q g ≠ 0) := by
  unfold facV
  by_cases h0 : q.1 = 0
  · rw [if_neg (by simpa using h0)]
    have h2 : q.2 ≠ 0 := fun e => absurd (hc 2 (by rw [h0]; exact Int.dvd_zero _) (by rw [e]; exact Int.dvd_zero _)) (by decide)
    have hd : q.2 ∣ g.2 := cop_dvd (a := q.2) (b := q.1) (x := g.2) (y := g.1) (fun k a b => hc k b a) h.symm
    rw [Int.fdiv_eq_ediv_of_dvd hd]
    have e := Int.mul_ediv_cancel' hd
    generalize g.2 / q.2 = t at e
    have hl := abs_le_mul (x := t) h2
    rw [e] at hl
    refine ⟨Nat.lt_of_le_of_lt hl hg.2, fun hne ht => hne ⟨?_, by rw [← e, ht, Int.mul_zero]⟩⟩
    rw [h0, Int.mul_zero] at h
    rcases Int.mul_eq_zero.mp h with h | h
    · exact h
    · exact absurd h h2
  · rw [if_pos h0]
    have hd : q.1 ∣ g.1 := cop_dvd hc h
    rw [Int.fdiv_eq_ediv_of_dvd hd]
    have e := Int.mul_ediv_cancel' hd
    generalize g.1 / q.1 = t at e
    have hl := abs_le_mul (x := t) h0
    rw [e] at hl
    refine ⟨Nat.lt_of_le_of_lt hl hg.1, fun hne ht => ?_⟩
    have h1 : g.1 = 0 := by rw [← e, ht, Int.mul_zero]
    rw [h1, Int.zero_mul] at h
    rcases Int.mul_eq_zero.mp h.symm with h | h
    · exact hne ⟨h1, h⟩
    · exact h0 h
def facD (q : Int × Int) : D → D
  | .tup [.int x, .int y] => .int (facV q (x, y))
  | _ => .none
theorem F30_along (ns : List Int) (w i j : Nat) (sols : List (List Int)) (q : Int × Int) {S : Sta} (hw : w ≤ 16) (hi : 2 * i + 1 < w + 2) (hj : 2 * j + 1 < w + 2) (hs : ∀ s ∈ sols, s.length = w ∧ bd 7420 s) (hn : sols.length ≤ 16)
    (e29 : F29 ns [.list (sols.map iD), .tup [.int (i : Int), .int (j : Int)]] S = .ok (alongD q) S) (hqb : q.1.natAbs < 2 ^ 8000 ∧ q.2.natAbs < 2 ^ 8000) (hc : ∀ k : Int, k ∣ q.1 → k ∣ q.2 → k.natAbs = 1) (hex : ∃ s ∈ sols, ¬ ((gapF (en s) i j).1 = 0 ∧ (gapF (en s) i j).2 = 0)) (hp : ∀ s ∈ sols, (gapF (en s) i j).1 * q.2 = (gapF (en s) i j).2 * q.1) :
    ∃ fs : List Int, F30 ns [.list (sols.map iD), .tup [.int (i : Int), .int (j : Int)]] S = .ok (iD fs) S ∧ fs.length ≤ 16 ∧ bd 7421 fs ∧ ∃ k, firstF fs = some k := by
  have hT29 : (T30 ns)[29]? = some (F29 ns) := rfl
  have hT28 : (T30 ns)[28]? = some (F28 ns) := rfl
  have o0 : getitem (.tup [.int (i : Int), .int (j : Int)]) (.int 0) = some (.int (i : Int)) := rfl
  have o1 : getitem (.tup [.int (i : Int), .int (j : Int)]) (.int 1) = some (.int (j : Int)) := rfl
  generalize D.tup [.int (i : Int), .int (j : Int)] = one at e29 o0 o1
  have gb : ∀ s ∈ sols, (gapF (en s) i j).1.natAbs < 2 ^ 7421 ∧ (gapF (en s) i j).2.natAbs < 2 ^ 7421 := fun s hm => gap_bd (hs s hm).2 i j
  refine ⟨sols.map fun s => facV q (gapF (en s) i j), ?_, by simpa using hn, fun x hx => ?_, ?_⟩
  rotate_left
  · obtain ⟨s, hm, rfl⟩ := List.mem_map.mp hx
    exact (facV_ok hc (hp s hm) (gb s hm)).1
  · cases hf : firstF (sols.map fun s => facV q (gapF (en s) i j)) with
    | some k => exact ⟨k, rfl⟩
    | none =>
      obtain ⟨s, hm, hne⟩ := hex
      have hnz := (facV_ok hc (hp s hm) (gb s hm)).2 hne
      obtain ⟨n, _, e⟩ := mem_en (List.mem_map.mpr ⟨s, hm, rfl⟩ : facV q (gapF (en s) i j) ∈ sols.map fun s => facV q (gapF (en s) i j))
      rw [first_none.mp hf n] at e
      exact absurd e hnz
  have k0 : getitem (alongD q) (.int 0) = some (.str (PySem.Str.ofString "along")) := rfl
  have k1 : getitem (alongD q) (.int 1) = some (prD q) := rfl
  have hc1 : ev (T30 ns) (.comp [("row", 6)] (.name 6) (.seq (.var 0)) .non (.call 28 (.cons (.var 6) (.cons (.idx (.var 1) (.int 0)) (.cons (.idx (.var 1) (.int 1)) .nil))))) [.val (.list (sols.map iD)), .val one, .val (alongD q), .un, .val (.int q.1), .val (.int q.2), .un, .un, .un] S = .ok (.list (sols.map fun s => prD (gapF (en s) i j))) S := by
    refine (comp_map (ds := sols.map iD) (g := gapD i j) (by simp [evI, ev, getv, iseq]) (by simp) (by simp) (fun d hd => ?_) (by rw [List.length_map]; omega)).trans ?_
    · obtain ⟨s, hm, rfl⟩ := List.mem_map.mp hd
      have e := F28_ret ns s i j (by have := (hs s hm).1; omega) (by have := (hs s hm).1; omega) (by have := (hs s hm).1; omega)
      rw [gapD_iD]
      simp only [wipeE, List.map, List.set_cons_succ, List.set_cons_zero, ev, evs, getv, List.getElem?_cons_zero, List.getElem?_cons_succ, l_some, b_ret, o0, o1, hT28, e]
      rfl
    · rw [List.map_map]
      congr 2
      exact List.map_congr_left fun s _ => gapD_iD s i j
  have hc2 : ev (T30 ns) (.comp [("x", 7), ("y", 8)] (.tup (.cons (.name 7) (.cons (.name 8) .nil))) (.seq (.var 3)) .non (.ite (.cmp .ne (.var 4) (.int 0)) (.bin .fdiv (.var 7) (.var 4)) (.bin .fdiv (.var 8) (.var 5)))) [.val (.list (sols.map iD)), .val one, .val (alongD q), .val (.list (sols.map fun s => prD (gapF (en s) i j))), .val (.int q.1), .val (.int q.2), .un, .un, .un] S = .ok (iD (sols.map fun s => facV q (gapF (en s) i j))) S := by
    refine (comp_gen (ds := sols.map fun s => prD (gapF (en s) i j)) (fun _ => true) (facD q) (by simp [evI, ev, getv, iseq]) (fun d hd => ?_) (by rw [List.length_map]; omega)).trans ?_
    · obtain ⟨s, hm, rfl⟩ := List.mem_map.mp hd
      refine ⟨[.val (.list (sols.map iD)), .val one, .val (alongD q), .val (.list (sols.map fun s => prD (gapF (en s) i j))), .val (.int q.1), .val (.int q.2), .un, .val (.int (gapF (en s) i j).1), .val (.int (gapF (en s) i j).2)], rfl, rfl, fun _ => ?_⟩
      show _ = Res.ok (D.int (facV q (gapF (en s) i j))) S
      unfold facV
      by_cases h0 : q.1 = 0
      · have h2 : q.2 ≠ 0 := fun e => absurd (hc 2 (by rw [h0]; exact Int.dvd_zero _) (by rw [e]; exact Int.dvd_zero _)) (by decide)
        have dk : divOk q.2 = true := div_okB h2 (pow_le_big hqb.2 (by decide))
        rw [if_neg (by simpa using h0)]
        have hd0 : decide (q.1 ≠ 0) = false := decide_eq_false (fun h => h h0)
        simp only [ev, evT, getv, List.getElem?_cons_zero, List.getElem?_cons_succ, l_some, b_ret, c_neI, hd0, Bool.false_eq_true, if_false, o_div dk]
        rfl
      · have dk : divOk q.1 = true := div_okB h0 (pow_le_big hqb.1 (by decide))
        rw [if_pos h0]
        have hd0 : decide (q.1 ≠ 0) = true := decide_eq_true h0
        simp only [ev, evT, getv, List.getElem?_cons_zero, List.getElem?_cons_succ, l_some, b_ret, c_neI, hd0, if_true, o_div dk]
        rfl
    · rw [List.filter_eq_self.mpr (fun _ _ => rfl), List.map_map]
      unfold iD
      rw [List.map_map]
      rfl
  refine r_rt rfl ?_
  refine (x_nx (env' := [.val (.list (sols.map iD)), .val one, .val (alongD q), .un, .un, .un, .un, .un, .un]) (S' := S) ?_).trans ?_
  · rw [ex]
    refine (b_ok (a := alongD q) (S' := S) ?_).trans rfl
    simp only [List.map, List.replicate, List.cons_append, List.nil_append, ev, evs, getv, List.getElem?_cons_zero, List.getElem?_cons_succ, l_some, b_ret, hT29]
    exact e29
  refine (x_nx (env' := [.val (.list (sols.map iD)), .val one, .val (alongD q), .un, .un, .un, .un, .un, .un]) (S' := S) ?_).trans ?_
  · simp only [ex, exs, evT, ev, getv, List.getElem?_cons_zero, List.getElem?_cons_succ, l_some, b_ret, k0, st_a, Bool.false_eq_true, if_false]
    rfl
  refine (x_nx (env' := [.val (.list (sols.map iD)), .val one, .val (alongD q), .un, .val (.int q.1), .val (.int q.2), .un, .un, .un]) (S' := S) ?_).trans ?_
  · simp only [ex, ev, getv, List.getElem?_cons_zero, List.getElem?_cons_succ, l_some, b_ret, k1]
    rfl
  refine (x_nx (env' := [.val (.list (sols.map iD)), .val one, .val (alongD q), .val (.list (sols.map fun s => prD (gapF (en s) i j))), .val (.int q.1), .val (.int q.2), .un, .un, .un]) (S' := S) ?_).trans ?_
  · rw [ex]
    exact (b_ok hc1).trans rfl
  refine x_rt ?_
  rw [ex]
  exact (b_ok hc2).trans rfl
/-! proportion -/
theorem F26_ex (ns : List Int) (fs : List Int) {k : Nat} (hk : firstF fs = some k) (hn : fs.length ≤ 16) (hb : bd 7421 fs) (S : Sta) : ∃ r, F26 ns [iD fs, iD fs] S = .ok r S := by
  have hT : (T26 ns)[25]? = some (F25 ns) := rfl
  have hkl := first_lt hk
  have hkn := (first_some.mp hk).1
  have hkb := bd_en hb k
  have ak := at_i (l := fs) hkl
  have hc : ev (T26 ns) (.comp [("k", 4), ("number", 5)] (.tup (.cons (.name 4) (.cons (.name 5) .nil))) (.enm (.var 0)) (.som (.cmp .ne (.var 5) (.int 0))) (.var 4)) [.val (iD fs), .val (iD fs), .un, .un, .un, .un, .un, .un] S = .ok (.list ((nzF fs 0).map fun (k : Nat) => D.int (k : Nat))) S := by
    refine (comp_gen (ds := enumD (fs.map .int)) nzT fstD (by simp [evI, ev, getv, enumO, iD]) (fun d hd => ?_) (by simp [enumD]; omega)).trans ?_
    · unfold enumD at hd
      obtain ⟨⟨d', n⟩, hp, rfl⟩ := List.mem_map.mp hd
      have hd' : d' ∈ fs.map D.int := by
        have := List.mem_zipIdx hp
        rw [this.2.2]
        exact List.getElem_mem _
      obtain ⟨x, _, rfl⟩ := List.mem_map.mp hd'
      refine ⟨[.val (iD fs), .val (iD fs), .un, .un, .val (.int (n : Nat)), .val (.int x), .un, .un], rfl, ?_, fun _ => rfl⟩
      simp [evOT, evT, ev, getv, nzT]
    · rw [← nz_list fs 0]; rfl
  have hh := nz_head fs 0
  rw [hk] at hh
  have a0 : getitem (.list ((nzF fs 0).map fun (k : Nat) => D.int (k : Nat))) (.int 0) = some (.int (k : Nat)) := by
    cases hz : nzF fs 0 with
    | nil => rw [hz] at hh; cases hh
    | cons n r =>
      rw [hz] at hh
      have e : n = k := by simpa using hh
      rw [e]
      show L2.atI _ _ = _
      rw [at_in (by decide) (by simp <;> omega)]
      rfl
  have hc2 : ev (T26 ns) (.comp [("first", 6), ("second", 7)] (.tup (.cons (.name 6) (.cons (.name 7) .nil))) (.zip (.var 0) (.var 1)) .non (.cmp .ne (.bin .mul (.var 6) (.idx (.var 1) (.var 2))) (.bin .mul (.var 7) (.idx (.var 0) (.var 2))))) [.val (iD fs), .val (iD fs), .val (.int (k : Nat)), .un, .un, .un, .un, .un] S = .ok (.list (fs.map fun _ => .bool false)) S := by
    have hzp : zipO (iD fs) (iD fs) = some (fs.map fun x => .tup [.int x, .int x]) := by
      show some (zipD (fs.map .int) (fs.map .int)) = _
      unfold zipD
      rw [List.zip_map', List.map_map]; rfl
    refine (comp_gen (ds := fs.map fun x => .tup [.int x, .int x]) (fun _ => true) (fun _ => .bool false) (by simp [evI, ev, getv, hzp]) (fun d hd => ?_) (by rw [List.length_map]; omega)).trans ?_
    · obtain ⟨x, hx, rfl⟩ := List.mem_map.mp hd
      refine ⟨[.val (iD fs), .val (iD fs), .val (.int (k : Nat)), .un, .un, .un, .val (.int x), .val (.int x)], rfl, rfl, fun _ => ?_⟩
      have m1 := mul_okB (hb x hx) hkb (by decide) (by decide)
      have hd0 : decide (x * en fs k ≠ x * en fs k) = false := decide_eq_false (fun h => h rfl)
      simp only [ev, getv, List.getElem?_cons_zero, List.getElem?_cons_succ, l_some, b_ret, ak, m1, c_neI, hd0, Option.map_some]
      rfl
    · rw [List.filter_eq_self.mpr (fun _ _ => rfl), List.map_map]; rfl
  have ha : blt .any [.list (fs.map fun _ => .bool false)] = some (.bool false) := by
    simp only [blt, truths_b (fun _ => false), Option.map_some]
    congr 2
    rw [List.any_map, List.any_eq_false]
    intro x _
    simp
  have habs : blt .abs [.int (en fs k)] = some (.int ((en fs k).natAbs : Int)) := by
    simp only [blt]
    congr 2
    split <;> omega
  have fin : ∀ sg : Int, (sg = 1 ∨ sg = -1) → ∃ r, exs (T26 ns) fuel (.cons (.ret (.call 25 (.cons (.bin .mul (.var 3) (.idx (.var 1) (.var 2))) (.cons (.blt .abs (.cons (.idx (.var 0) (.var 2)) .nil)) .nil)))) .nil) [.val (iD fs), .val (iD fs), .val (.int (k : Nat)), .val (.int sg), .un, .un, .un, .un] S = .ok (.rt r) S := by
    intro sg hsg
    have m1 : binop .mul (.int sg) (.int (en fs k)) = some (.int (sg * en fs k)) := mul_okB (A := 5) (by rcases hsg with rfl | rfl <;> decide) hkb (by decide) (by decide)
    have e := F25_ret ns (sg * en fs k) ((en fs k).natAbs : Int) (by omega) (by rw [Int.natAbs_natCast]; exact pow_le_big hkb (by decide))
    refine ⟨_, x_rt (d := prD (fracF (sg * en fs k) ((en fs k).natAbs : Int))) ?_⟩
    simp only [ex, ev, evs, getv, List.getElem?_cons_zero, List.getElem?_cons_succ, l_some, b_ret, ak, m1, habs, hT, e]
    rfl
  have pre : ∀ (sg : Int) (r : D), ((if 0 < en fs k then (1 : Int) else -1) = sg) → exs (T26 ns) fuel (.cons (.ret (.call 25 (.cons (.bin .mul (.var 3) (.idx (.var 1) (.var 2))) (.cons (.blt .abs (.cons (.idx (.var 0) (.var 2)) .nil)) .nil)))) .nil) [.val (iD fs), .val (iD fs), .val (.int (k : Nat)), .val (.int sg), .un, .un, .un, .un] S = .ok (.rt r) S → F26 ns [iD fs, iD fs] S = .ok r S := by
    intro sg r hsg hr
    refine r_rt rfl ?_
    show exs (T26 ns) fuel c26 [.val (iD fs), .val (iD fs), .un, .un, .un, .un, .un, .un] S = _
    rw [c26]
    refine (x_nx (env' := [.val (iD fs), .val (iD fs), .val (.int (k : Nat)), .un, .un, .un, .un, .un]) (S' := S) ?_).trans ?_
    · rw [ex]
      refine (b_ok (a := .int (k : Nat)) (S' := S) ?_).trans rfl
      rw [ev]
      refine (b_ok hc).trans ?_
      simp only [ev, b_ret, a0]
      rfl
    refine (x_nx (env' := [.val (iD fs), .val (iD fs), .val (.int (k : Nat)), .un, .un, .un, .un, .un]) (S' := S) ?_).trans ?_
    · rw [ex]
      refine (b_ok (a := false) (S' := S) ?_).trans rfl
      rw [evT]
      exact (b_ok (blt1 hc2 ha)).trans rfl
    refine (x_nx (env' := [.val (iD fs), .val (iD fs), .val (.int (k : Nat)), .val (.int sg), .un, .un, .un, .un]) (S' := S) ?_).trans hr
    by_cases h : 0 < en fs k
    · rw [if_pos h] at hsg
      rw [← hsg]
      simp only [ex, ev, evT, getv, List.getElem?_cons_zero, List.getElem?_cons_succ, l_some, b_ret, ak, c_gt, decide_eq_true h, if_true, store1]
      rfl
    · rw [if_neg h] at hsg
      rw [← hsg]
      simp only [ex, ev, evT, getv, List.getElem?_cons_zero, List.getElem?_cons_succ, l_some, b_ret, ak, c_gt, decide_eq_false h, Bool.false_eq_true, if_false, store1]
      rfl
  obtain ⟨r, hr⟩ := fin (if 0 < en fs k then 1 else -1) (by split <;> simp)
  exact ⟨r, pre _ r rfl hr⟩
end K21

/-! quotient, outcomes, the law's steps. -/
namespace K21
open Q7 Lin
section
variable (ns : List Int) (p i j : Nat) (ls : List Li) (h : isTell (p : Int) ls = true) (hij : i < j) (hjp : j < p) {S : Sta} {sols : List (List Int)} (e24 : F24 ns [tellD (p : Int) ls] S = .ok (.list (sols.map iD)) S)
include h hij hjp e24
theorem F31_none (e30 : F30 ns [.list (sols.map iD), .tup [.int (i : Int), .int (j : Int)]] S = .ok .none S) : F31 ns [tellD (p : Int) ls, .tup [.int (i : Int), .int (j : Int)], .tup [.int (i : Int), .int (j : Int)]] S = .exc 13 S := by
  have hT15 : (T31 ns)[15]? = some (F15 ns) := rfl
  have hT16 : (T31 ns)[16]? = some (F16 ns) := rfl
  have hT24 : (T31 ns)[24]? = some (F24 ns) := rfl
  have hT30 : (T31 ns)[30]? = some (F30 ns) := rfl
  have e15 := F15_ret' ns (p : Int) ls h
  have e16 := F16_ret' ns p i j ls hij hjp
  generalize D.tup [.int (i : Int), .int (j : Int)] = one at e30 e16
  generalize tellD (p : Int) ls = Te at e15 e16 e24
  refine r_exc rfl ?_
  refine (x_nx (env' := [.val Te, .val one, .val one, .un, .un, .un]) (S' := S) (by simp [ex, ev, evs, getv, hT15, e15])).trans ?_
  refine (x_nx (env' := [.val Te, .val one, .val one, .un, .un, .un]) (S' := S) (by simp [ex, ev, evs, getv, hT16, e16])).trans ?_
  refine (x_nx (env' := [.val Te, .val one, .val one, .un, .un, .un]) (S' := S) (by simp [ex, ev, evs, getv, hT16, e16])).trans ?_
  refine (x_nx (env' := [.val Te, .val one, .val one, .val (.list (sols.map iD)), .un, .un]) (S' := S) ?_).trans ?_
  · rw [ex]
    refine (b_ok (a := .list (sols.map iD)) (S' := S) ?_).trans rfl
    simp only [ev, evs, getv, List.getElem?_cons_zero, List.getElem?_cons_succ, l_some, b_ret, hT24]
    exact e24
  refine (x_nx (env' := [.val Te, .val one, .val one, .val (.list (sols.map iD)), .val .none, .val .none]) (S' := S) ?_).trans ?_
  · rw [ex]
    refine (b_ok (a := [.none, .none]) (S' := S) ?_).trans rfl
    simp only [evs, ev, getv, List.getElem?_cons_zero, List.getElem?_cons_succ, l_some, b_ret, hT30]
    refine (b_ok e30).trans ?_
    refine (b_ok (a := [D.none]) (S' := S) ?_).trans rfl
    exact (b_ok e30).trans rfl
  refine x_exc ?_
  simp [ex, exs, evT, evTOr, ev, getv]
theorem F31_ok {fs : List Int} {r : D} (e30 : F30 ns [.list (sols.map iD), .tup [.int (i : Int), .int (j : Int)]] S = .ok (iD fs) S) (e26 : F26 ns [iD fs, iD fs] S = .ok r S) : F31 ns [tellD (p : Int) ls, .tup [.int (i : Int), .int (j : Int)], .tup [.int (i : Int), .int (j : Int)]] S = .ok r S := by
  have hT15 : (T31 ns)[15]? = some (F15 ns) := rfl
  have hT16 : (T31 ns)[16]? = some (F16 ns) := rfl
  have hT24 : (T31 ns)[24]? = some (F24 ns) := rfl
  have hT30 : (T31 ns)[30]? = some (F30 ns) := rfl
  have hT26 : (T31 ns)[26]? = some (F26 ns) := rfl
  have e15 := F15_ret' ns (p : Int) ls h
  have e16 := F16_ret' ns p i j ls hij hjp
  have hn : cmpop .is (iD fs) .none = some false := rfl
  generalize D.tup [.int (i : Int), .int (j : Int)] = one at e30 e16
  generalize tellD (p : Int) ls = Te at e15 e16 e24
  generalize iD fs = F at e30 e26 hn
  refine r_rt rfl ?_
  refine (x_nx (env' := [.val Te, .val one, .val one, .un, .un, .un]) (S' := S) (by simp [ex, ev, evs, getv, hT15, e15])).trans ?_
  refine (x_nx (env' := [.val Te, .val one, .val one, .un, .un, .un]) (S' := S) (by simp [ex, ev, evs, getv, hT16, e16])).trans ?_
  refine (x_nx (env' := [.val Te, .val one, .val one, .un, .un, .un]) (S' := S) (by simp [ex, ev, evs, getv, hT16, e16])).trans ?_
  refine (x_nx (env' := [.val Te, .val one, .val one, .val (.list (sols.map iD)), .un, .un]) (S' := S) ?_).trans ?_
  · rw [ex]
    refine (b_ok (a := .list (sols.map iD)) (S' := S) ?_).trans rfl
    simp only [ev, evs, getv, List.getElem?_cons_zero, List.getElem?_cons_succ, l_some, b_ret, hT24]
    exact e24
  refine (x_nx (env' := [.val Te, .val one, .val one, .val (.list (sols.map iD)), .val F, .val F]) (S' := S) ?_).trans ?_
  · rw [ex]
    refine (b_ok (a := [F, F]) (S' := S) ?_).trans rfl
    simp only [evs, ev, getv, List.getElem?_cons_zero, List.getElem?_cons_succ, l_some, b_ret, hT30]
    refine (b_ok e30).trans ?_
    refine (b_ok (a := [F]) (S' := S) ?_).trans rfl
    exact (b_ok e30).trans rfl
  refine (x_nx (env' := [.val Te, .val one, .val one, .val (.list (sols.map iD)), .val F, .val F]) (S' := S) ?_).trans ?_
  · simp only [ex, exs, evT, evTOr, ev, getv, List.getElem?_cons_zero, List.getElem?_cons_succ, l_some, b_ret, hn, Bool.false_eq_true, if_false]
    rfl
  refine x_rt ?_
  rw [ex]
  refine (b_ok (a := r) (S' := S) ?_).trans rfl
  simp only [ev, evs, getv, List.getElem?_cons_zero, List.getElem?_cons_succ, l_some, b_ret, hT26]
  exact e26
end
/-! outcomes -/
def retD (d : D) : D := .tup [.str (PySem.Str.ofString "returned"), d]
def excD (c : Nat) : D := .tup [.str (PySem.Str.ofString "raised"), .int (c : Int)]
theorem F35_0 (ns : List Int) (a b : D) : F35 ns [.int 0, .tup [a, b]] = F34 ns [a, b] := by
  have hT : (T35 ns)[34]? = some (F34 ns) := rfl
  have a0 : getitem (.tup [a, b]) (.int 0) = some a := rfl
  have a1 : getitem (.tup [a, b]) (.int 1) = some b := rfl
  generalize D.tup [a, b] = d at a0 a1
  funext S
  simp [F35, Q7.run, c35, exs, ex, evT, ev, evs, getv, a0, a1, hT]
  unfold Q7.bind
  cases F34 ns [a, b] S <;> rfl
theorem F35_1 (ns : List Int) (a b c : D) : F35 ns [.int 1, .tup [a, b, c]] = F31 ns [a, b, c] := by
  have hT : (T35 ns)[31]? = some (F31 ns) := rfl
  have a0 : getitem (.tup [a, b, c]) (.int 0) = some a := rfl
  have a1 : getitem (.tup [a, b, c]) (.int 1) = some b := rfl
  have a2 : getitem (.tup [a, b, c]) (.int 2) = some c := rfl
  generalize D.tup [a, b, c] = d at a0 a1 a2
  funext S
  simp [F35, Q7.run, c35, exs, ex, evT, ev, evs, getv, a0, a1, a2, hT]
  unfold Q7.bind
  cases F31 ns [a, b, c] S <;> rfl
theorem F36_12 (ns : List Int) : F36 ns [.exc 12] = ret (.int 12) := by
  funext S; rfl
theorem F36_13 (ns : List Int) : F36 ns [.exc 13] = ret (.int 13) := by
  funext S; rfl
theorem F37_ok (ns : List Int) (i : Int) (d r : D) {S : Sta} (h : F35 ns [.int i, d] S = .ok r S) : F37 ns [.int i, d] S = .ok (retD r) S := by
  have hT : (T37 ns)[35]? = some (F35 ns) := rfl
  refine r_rt rfl ?_
  refine (x_nx (env' := [.val (.int i), .val d, .val .none, .un, .un]) (S' := S) rfl).trans ?_
  refine (x_nx (env' := [.val (.int i), .val d, .val .none, .val .none, .un]) (S' := S) rfl).trans ?_
  refine (x_nx (env' := [.val (.int i), .val d, .val .none, .val r, .un]) (S' := S) (by simp [ex, evs, ev, getv, hT, h, store1])).trans ?_
  simp [exs, ex, evT, ev, evs, getv, sizeOk, retD]
theorem F37_exc (ns : List Int) (i : Int) (d : D) (c : Nat) (hc : c < 18) {S : Sta} (h : F35 ns [.int i, d] S = .exc c S) (h23 : F36 ns [.exc c] = ret (.int (c : Int))) : F37 ns [.int i, d] S = .ok (excD c) S := by
  have hT : (T37 ns)[35]? = some (F35 ns) := rfl
  have hT2 : (T37 ns)[36]? = some (F36 ns) := rfl
  refine r_rt rfl ?_
  refine (x_nx (env' := [.val (.int i), .val d, .val .none, .un, .un]) (S' := S) rfl).trans ?_
  refine (x_nx (env' := [.val (.int i), .val d, .val .none, .val .none, .un]) (S' := S) rfl).trans ?_
  refine (x_nx (env' := [.val (.int i), .val d, .val (.exc c), .val .none, .un]) (S' := S) (by simp [ex, evs, ev, getv, hT, h, store1, hc])).trans ?_
  simp [exs, ex, evT, ev, evs, getv, hT2, h23, sizeOk, excD]
theorem F40_closed (ns : List Int) : F40 ns [.str (PySem.Str.ofString "closed")] = ret (excD 12) := by kernel_rfl
theorem F40_na (ns : List Int) : F40 ns [.str (PySem.Str.ofString "not_along")] = ret (excD 13) := by kernel_rfl
theorem ne_e12 : cmpop .ne (excD 12) (excD 12) = some false := by kernel_rfl
theorem ne_e13 : cmpop .ne (excD 13) (excD 13) = some false := by kernel_rfl
/-! steps -/
def stepP (a b : Pl) : Int × Int := ((b.1.1 * a.1.2 - a.1.1 * b.1.2) * a.2.2 * b.2.2, (b.2.1 * a.2.2 - a.2.1 * b.2.2) * a.1.2 * b.1.2)
theorem F47_ret (ns : List Int) (pl : List Pl) (i j : Nat) (hi : i < pl.length) (hj : j < pl.length) (hv : ∀ v ∈ pl, pb v) : F47 ns [.tup (pl.map plD), .tup [.int (i : Int), .int (j : Int)]] = ret (prD (stepP (pl.getD i ((0, 1), (0, 1))) (pl.getD j ((0, 1), (0, 1))))) := by
  have g1 := at_pl (pl := pl) (i := (i : Int)) (by omega) (by omega)
  have g2 := at_pl (pl := pl) (i := (j : Int)) (by omega) (by omega)
  rw [Int.toNat_natCast] at g1 g2
  have z1 := pb_get hv i
  have z2 := pb_get hv j
  have o0 : getitem (.tup [.int (i : Int), .int (j : Int)]) (.int 0) = some (.int (i : Int)) := rfl
  have o1 : getitem (.tup [.int (i : Int), .int (j : Int)]) (.int 1) = some (.int (j : Int)) := rfl
  generalize D.tup [.int (i : Int), .int (j : Int)] = one at o0 o1
  generalize D.tup (pl.map plD) = P at g1 g2
  generalize pl.getD i ((0, 1), (0, 1)) = a at g1 z1
  generalize pl.getD j ((0, 1), (0, 1)) = b at g2 z2
  have q1 := mul_lt_pow z2.1.1 z1.1.2.2
  have q2 := mul_lt_pow z1.1.1 z2.1.2.2
  have q3 := sub_lt_pow q1 q2
  have q4 := mul_lt_pow q3 z1.2.2.2
  have r1 := mul_lt_pow z2.2.1 z1.2.2.2
  have r2 := mul_lt_pow z1.2.1 z2.2.2.2
  have r3 := sub_lt_pow r1 r2
  have r4 := mul_lt_pow r3 z1.1.2.2
  have m1 := mul_okB z2.1.1 z1.1.2.2 (by decide) (by decide)
  have m2 := mul_okB z1.1.1 z2.1.2.2 (by decide) (by decide)
  have m3 := mul_okB q3 z1.2.2.2 (by decide) (by decide)
  have m4 := mul_okB q4 z2.2.2.2 (by decide) (by decide)
  have n1 := mul_okB z2.2.1 z1.2.2.2 (by decide) (by decide)
  have n2 := mul_okB z1.2.1 z2.2.2.2 (by decide) (by decide)
  have n3 := mul_okB r3 z1.1.2.2 (by decide) (by decide)
  have n4 := mul_okB r4 z2.1.2.2 (by decide) (by decide)
  have hz2 : ∀ a b : D, sizeOk [a, b].length = true := fun _ _ => rfl
  funext S
  refine r_rt rfl ?_
  refine (x_nx (env' := [.val P, .val one, .val (.int a.1.1), .val (.int a.1.2), .val (.int a.2.1), .val (.int a.2.2), .un, .un, .un, .un]) (S' := S) ?_).trans ?_
  · simp only [List.map, List.replicate, List.cons_append, List.nil_append, ex, ev, getv, List.getElem?_cons_zero, List.getElem?_cons_succ, l_some, b_ret, o0, g1]
    rfl
  refine (x_nx (env' := [.val P, .val one, .val (.int a.1.1), .val (.int a.1.2), .val (.int a.2.1), .val (.int a.2.2), .val (.int b.1.1), .val (.int b.1.2), .val (.int b.2.1), .val (.int b.2.2)]) (S' := S) ?_).trans ?_
  · simp only [ex, ev, getv, List.getElem?_cons_zero, List.getElem?_cons_succ, l_some, b_ret, o1, g2]
    rfl
  refine x_rt ?_
  simp only [ex, ev, evs, getv, List.getElem?_cons_zero, List.getElem?_cons_succ, l_some, b_ret, m1, m2, m3, m4, n1, n2, n3, n4, o_sub, hz2, if_true]
  rfl
theorem step_val {k : Int} {a b : Pl} {A B : Int × Int} (ha : val k a.1 A.1 ∧ val k a.2 A.2) (hb : val k b.1 B.1 ∧ val k b.2 B.2) : ∃ m : Int, m ≠ 0 ∧ k * (stepP a b).1 = m * (B.1 - A.1) ∧ k * (stepP a b).2 = m * (B.2 - A.2) := by
  obtain ⟨⟨a1, a2⟩, ⟨a3, a4⟩⟩ := ha
  obtain ⟨⟨b1, b2⟩, ⟨b3, b4⟩⟩ := hb
  refine ⟨a.1.2 * b.1.2 * (a.2.2 * b.2.2), Int.mul_ne_zero (Int.mul_ne_zero (by omega) (by omega)) (Int.mul_ne_zero (by omega) (by omega)), ?_, ?_⟩
  · show k * ((b.1.1 * a.1.2 - a.1.1 * b.1.2) * a.2.2 * b.2.2) = _
    have e : k * (b.1.1 * a.1.2 - a.1.1 * b.1.2) = (B.1 - A.1) * (a.1.2 * b.1.2) := by
      rw [Int.mul_sub, ← Int.mul_assoc, b2, ← Int.mul_assoc, a2, Int.sub_mul, Int.mul_assoc, Int.mul_assoc, Int.mul_comm b.1.2]
    rw [Int.mul_assoc (b.1.1 * a.1.2 - a.1.1 * b.1.2), ← Int.mul_assoc k, e, Int.mul_assoc, Int.mul_comm (B.1 - A.1)]
  · show k * ((b.2.1 * a.2.2 - a.2.1 * b.2.2) * a.1.2 * b.1.2) = _
    have e : k * (b.2.1 * a.2.2 - a.2.1 * b.2.2) = (B.2 - A.2) * (a.2.2 * b.2.2) := by
      rw [Int.mul_sub, ← Int.mul_assoc, b4, ← Int.mul_assoc, a4, Int.sub_mul, Int.mul_assoc, Int.mul_assoc, Int.mul_comm b.2.2]
    rw [Int.mul_assoc (b.2.1 * a.2.2 - a.2.1 * b.2.2), ← Int.mul_assoc k, e, Int.mul_assoc, Int.mul_comm (B.2 - A.2), Int.mul_comm (a.2.2 * b.2.2)]
/-! small places -/
theorem F53_true (ns : List Int) (pl : List Pl) (hv : ∀ v ∈ pl, pb v) (S : Sta) : F53 ns [.tup (pl.map plD)] S = .ok (.bool true) S := by
  have key : Ok (F53 ns [.tup (pl.map plD)]) S fun d S' => S' = S ∧ d = .bool true := by
    refine k_run rfl (k_seq ?_)
    have hi : iseq (.tup (pl.map plD)) = some (pl.map plD) := rfl
    simp only [List.map, List.replicate, List.cons_append, List.nil_append, ex, evI, ev, k_bind, getv, List.getElem?_cons_zero, List.getElem?_cons_succ, l_some, k_ret, hi]
    refine k_for (fun k env S' => S' = S ∧ ∃ e1 e2, (nown e1 ∧ nown e2) ∧ env = [.val (.tup (pl.map plD)), e1, e2]) ⟨rfl, .un, .un, ⟨nown_un, nown_un⟩, rfl⟩ ?_ ?_
    · rintro k d env S' hd ⟨rfl, e1, e2, ⟨n1, n2⟩, rfl⟩
      rw [List.getElem?_map] at hd
      obtain ⟨v, hvk, rfl⟩ := Option.map_eq_some_iff.mp hd
      obtain ⟨p1, p2⟩ := hv v (List.mem_of_getElem? hvk)
      have hu := un_pair (i := 1) (j := 2) (a := prD v.1) (b := prD v.2) (env := [.val (.tup (pl.map plD)), e1, e2]) rfl n1 rfl n2
      have hu' : unpack (.tup (.cons (.name 1) (.cons (.name 2) .nil))) (plD v) [.val (.tup (pl.map plD)), e1, e2] = some [.val (.tup (pl.map plD)), .val (prD v.1), .val (prD v.2)] := hu
      simp only [hu']
      have ab : ∀ x : Int, blt .abs [.int x] = some (.int (if x < 0 then -x else x)) := fun x => rfl
      have mx : ∀ a b c d : Int, blt .max2 [.int a, .int b, .int c, .int d] = some (.int (max4 a b c d)) := fun a b c d => rfl
      have hle : ¬ (1000000000000000000000000000000 : Int) < max4 (if v.1.1 < 0 then -v.1.1 else v.1.1) v.1.2 (if v.2.1 < 0 then -v.2.1 else v.2.1) v.2.2 := by
        have c1 := p1.1
        have c2 := p1.2.2
        have c3 := p2.1
        have c4 := p2.2.2
        have big : (2 : Nat) ^ 90 < 1000000000000000000000000000000 := by decide
        unfold max4
        simp only
        repeat' split
        all_goals omega
      have hd0 : decide ((1000000000000000000000000000000 : Int) < max4 (if v.1.1 < 0 then -v.1.1 else v.1.1) v.1.2 (if v.2.1 < 0 then -v.2.1 else v.2.1) v.2.2) = false := decide_eq_false hle
      refine k_seq (k_eq (a := .nx [.val (.tup (pl.map plD)), .val (prD v.1), .val (prD v.2)]) (S' := S') ?_ ?_)
      · simp only [exs, ex, evT, ev, evs, getv, List.getElem?_cons_zero, List.getElem?_cons_succ, l_some, b_ret, at_p0, at_p1, ab, mx, pow30, c_gt, hd0, Bool.false_eq_true, if_false]
        rfl
      · exact k_ret.mpr ⟨_, rfl, rfl, _, _, ⟨nown_val _, nown_val _⟩, rfl⟩
    · rintro env S' ⟨rfl, e1, e2, _, rfl⟩
      exact k_eq (a := .rt (.bool true)) (S' := S') rfl ⟨rfl, rfl⟩
  obtain ⟨d, S', e, rfl, rfl⟩ := key
  exact e
end K21

/-! The law. -/
namespace K21
open Q7 Lin
theorem big9 : (9 * 20) ^ 9 < 2 ^ 80 := by decide
/-! drawings out of the basis -/
theorem pts_len (p : Nat) (s : List Int) : (ptsF p s).length = p := by simp [ptsF]
theorem pts_get {p : Nat} {s : List Int} {k : Nat} (h : k < p) : (ptsF p s).getD k ((0, 1), (0, 1)) = zP (vx (en s) k, vy (en s) k) := by
  simp [ptsF, List.getD, h]
theorem v_bd {s : List Int} (hb : ∀ c, (en s c).natAbs < 2 ^ 80) (k : Nat) : (vx (en s) k).natAbs < 2 ^ 80 ∧ (vy (en s) k).natAbs < 2 ^ 80 := by
  unfold vx vy
  constructor
  · split
    · exact Nat.two_pow_pos _
    · exact hb _
  · split
    · exact Nat.two_pow_pos _
    · exact hb _
theorem zP_pb {v : Int × Int} (h1 : v.1.natAbs < 2 ^ 90) (h2 : v.2.natAbs < 2 ^ 90) : plOk (zP v) := ⟨⟨fb_int h1, Nat.gcd_one_right _⟩, ⟨fb_int h2, Nat.gcd_one_right _⟩⟩
theorem pts_ok {p : Nat} {s : List Int} (hb : ∀ c, (en s c).natAbs < 2 ^ 80) : ∀ v ∈ ptsF p s, plOk v := by
  intro v hv
  obtain ⟨k, _, rfl⟩ := List.mem_map.mp hv
  have := v_bd hb k
  exact zP_pb (Nat.lt_trans this.1 (by decide)) (Nat.lt_trans this.2 (by decide))
theorem pts_val (p : Nat) (s : List Int) : PV 1 (ptsF p s) fun k => (vx (en s) k, vy (en s) k) := by
  intro k hk
  rw [pts_len] at hk
  rw [pts_get hk]
  exact ⟨⟨by show (0 : Int) < 1; decide, by show 1 * vx (en s) k = vx (en s) k * 1; omega⟩, ⟨by show (0 : Int) < 1; decide, by show 1 * vy (en s) k = vy (en s) k * 1; omega⟩⟩
theorem ok_pb {pl : List Pl} (h : ∀ v ∈ pl, plOk v) : ∀ v ∈ pl, pb v := fun v hv => ⟨(h v hv).1.1, (h v hv).2.1⟩
theorem li_nat {p : Nat} {ls : List Li} (hl : ∀ l ∈ ls, isLi (p : Int) l = true) : ∀ l ∈ ls, l.x.toNat < p ∧ l.y.toNat < p := fun l hm => by
  obtain ⟨⟨x0, x1, y0, y1⟩, _⟩ := li_parts (hl l hm)
  exact ⟨by omega, by omega⟩
/-! halves -/
def hlf (s t : List Int) (k : Nat) : Int × Int := (vx (en s) k + vx (en t) k, vy (en s) k + vy (en t) k)
def halfP (p : Nat) (s t : List Int) : List Pl := ((ptsF p s).zip (ptsF p t)).map fun q => mixP (1, 2) (1, 2) q.1 q.2
theorem half_len (p : Nat) (s t : List Int) : (halfP p s t).length = p := by simp [halfP, pts_len]
theorem half_get {p : Nat} {s t : List Int} {k : Nat} (h : k < p) : (halfP p s t).getD k ((0, 1), (0, 1)) = mixP (1, 2) (1, 2) (zP (vx (en s) k, vy (en s) k)) (zP (vx (en t) k, vy (en t) k)) := by
  have hz : k < ((ptsF p s).zip (ptsF p t)).length := by simp [pts_len]; exact h
  unfold halfP
  rw [List.getD, List.getElem?_map, List.getElem?_eq_getElem hz, List.getElem_zip]
  have e1 : (ptsF p s)[k]'(by rw [pts_len]; exact h) = zP (vx (en s) k, vy (en s) k) := by simp [ptsF]
  have e2 : (ptsF p t)[k]'(by rw [pts_len]; exact h) = zP (vx (en t) k, vy (en t) k) := by simp [ptsF]
  simp only [e1, e2]
  rfl
theorem t_half (x : Int) : val 2 (timesF (1, 2) (x, 1)) x ∧ (timesF (1, 2) (x, 1)).1.natAbs ≤ x.natAbs ∧ (timesF (1, 2) (x, 1)).2.natAbs ≤ 2 := by
  have e : timesF (1, 2) (x, 1) = fracF x 2 := by
    show fracF (1 * x) (2 * 1) = _
    rw [Int.one_mul]; rfl
  rw [e]
  have l := frac_le x (d := 2) (by decide)
  exact ⟨val_frac (by decide) (by omega), l.1, by have := l.2; simpa using this⟩
theorem t_fb {x : Int} (h : x.natAbs < 2 ^ 80) : fb (timesF (1, 2) (x, 1)) := by
  obtain ⟨v, l1, l2⟩ := t_half x
  exact ⟨by omega, v.1, by omega⟩
theorem half_one {x y : Int} (hx : x.natAbs < 2 ^ 80) (hy : y.natAbs < 2 ^ 80) : val 2 (plusF (timesF (1, 2) (x, 1)) (timesF (1, 2) (y, 1))) (x + y) ∧ fb (plusF (timesF (1, 2) (x, 1)) (timesF (1, 2) (y, 1))) ∧ Nat.gcd (plusF (timesF (1, 2) (x, 1)) (timesF (1, 2) (y, 1))).1.natAbs (plusF (timesF (1, 2) (x, 1)) (timesF (1, 2) (y, 1))).2.natAbs = 1 := by
  obtain ⟨v1, a1, a2⟩ := t_half x
  obtain ⟨v2, b1, b2⟩ := t_half y
  generalize timesF (1, 2) (x, 1) = q at *
  generalize timesF (1, 2) (y, 1) = r at *
  have hd : 0 < q.2 * r.2 := Int.mul_pos v1.1 v2.1
  have l := frac_le (q.1 * r.2 + r.1 * q.2) hd
  refine ⟨val_plus v1 v2, ⟨?_, frac_pos _ hd, ?_⟩, frac_cop _ hd⟩
  · have m1 : (q.1 * r.2).natAbs ≤ x.natAbs * 2 := by rw [Int.natAbs_mul]; exact Nat.mul_le_mul a1 b2
    have m2 : (r.1 * q.2).natAbs ≤ y.natAbs * 2 := by rw [Int.natAbs_mul]; exact Nat.mul_le_mul b1 a2
    have := l.1
    show (fracF (q.1 * r.2 + r.1 * q.2) (q.2 * r.2)).1.natAbs < 2 ^ 90
    omega
  · have m1 : (q.2 * r.2).natAbs ≤ 2 * 2 := by rw [Int.natAbs_mul]; exact Nat.mul_le_mul a2 b2
    have := l.2
    show (fracF (q.1 * r.2 + r.1 * q.2) (q.2 * r.2)).2.natAbs < 2 ^ 90
    omega
theorem half_val {p : Nat} {s t : List Int} (hs : ∀ c, (en s c).natAbs < 2 ^ 80) (ht : ∀ c, (en t c).natAbs < 2 ^ 80) : PV 2 (halfP p s t) (hlf s t) := by
  intro k hk
  rw [half_len] at hk
  rw [half_get hk]
  have b1 := v_bd hs k
  have b2 := v_bd ht k
  exact ⟨(half_one b1.1 b2.1).1, (half_one b1.2 b2.2).1⟩
theorem half_plok {p : Nat} {s t : List Int} (hs : ∀ c, (en s c).natAbs < 2 ^ 80) (ht : ∀ c, (en t c).natAbs < 2 ^ 80) : ∀ v ∈ halfP p s t, plOk v := by
  intro v hv
  obtain ⟨i, hi, rfl⟩ := List.getElem_of_mem hv
  have hk : i < p := by rw [half_len] at hi; exact hi
  have e : (halfP p s t)[i] = (halfP p s t).getD i ((0, 1), (0, 1)) := by simp [List.getD, List.getElem?_eq_getElem hi]
  rw [e, half_get hk]
  have b1 := v_bd hs i
  have b2 := v_bd ht i
  exact ⟨(half_one b1.1 b2.1).2, (half_one b1.2 b2.2).2⟩
theorem mix_half (ns : List Int) (p : Nat) (s t : List Int) (hp2 : 2 ≤ p) (hp : p ≤ 9) (hs : ∀ c, (en s c).natAbs < 2 ^ 80) (ht : ∀ c, (en t c).natAbs < 2 ^ 80) (S : Sta) : F46 ns [plsD p s, plsD p t, prD (1, 2)] S = .ok (.tup ((halfP p s t).map plD)) S := by
  have fb12 : fb (1, 2) := ⟨by decide, by decide, by decide⟩
  have key : ∀ (s : List Int), (∀ c, (en s c).natAbs < 2 ^ 80) → ∀ q ∈ ptsF p s, fb (timesF (1, 2) q.1) ∧ fb (timesF (1, 2) q.2) := fun s hs q hq => by
    obtain ⟨k, _, rfl⟩ := List.mem_map.mp hq
    have := v_bd hs k
    exact ⟨t_fb this.1, t_fb this.2⟩
  exact F46_ret ns (ptsF p s) (ptsF p t) (1, 2) (1, 2) fb12 (by decide) (by decide +kernel) fb12 (by rw [pts_len]; exact hp2) (by rw [pts_len]; exact hp) (by rw [pts_len, pts_len]) (pts_ok hs) (pts_ok ht) (key s hs) (key t ht) S
/-! no lines: all is open -/
theorem none_open {p i j : Nat} {sols : List (List Int)} (hij : i < j) (hjp : j < p) (hn : ∀ f, f < 2 * p - 2 → ∃ s ∈ sols, en s f ≠ 0 ∧ ∀ c, c ≠ f → en s c = 0) : (∃ s ∈ sols, (gapF (en s) i j).1 ≠ 0 ∧ (gapF (en s) i j).2 = 0) ∧ ∃ s ∈ sols, (gapF (en s) i j).1 = 0 ∧ (gapF (en s) i j).2 ≠ 0 := by
  have hj0 : j ≠ 0 := by omega
  constructor
  · obtain ⟨s, hm, h1, h2⟩ := hn (2 * j - 2) (by omega)
    refine ⟨s, hm, ?_, ?_⟩
    · show vx (en s) j - vx (en s) i ≠ 0
      have e : vx (en s) i = 0 := by
        unfold vx
        split
        · rfl
        · exact h2 _ (by omega)
      have e2 : vx (en s) j = en s (2 * j - 2) := by unfold vx; rw [if_neg hj0]
      rw [e, e2]; omega
    · show vy (en s) j - vy (en s) i = 0
      have e : vy (en s) i = 0 := by
        unfold vy
        split
        · rfl
        · exact h2 _ (by omega)
      have e2 : vy (en s) j = 0 := by unfold vy; rw [if_neg hj0]; exact h2 _ (by omega)
      rw [e, e2]; rfl
  · obtain ⟨s, hm, h1, h2⟩ := hn (2 * j - 1) (by omega)
    refine ⟨s, hm, ?_, ?_⟩
    · show vx (en s) j - vx (en s) i = 0
      have e : vx (en s) i = 0 := by
        unfold vx
        split
        · rfl
        · exact h2 _ (by omega)
      have e2 : vx (en s) j = 0 := by unfold vx; rw [if_neg hj0]; exact h2 _ (by omega)
      rw [e, e2]; rfl
    · show vy (en s) j - vy (en s) i ≠ 0
      have e : vy (en s) i = 0 := by
        unfold vy
        split
        · rfl
        · exact h2 _ (by omega)
      have e2 : vy (en s) j = en s (2 * j - 1) := by unfold vy; rw [if_neg hj0]
      rw [e, e2]; omega
end K21

/-! One pair. -/
namespace K21
open Q7 Lin
theorem call_ok {T : List Fn} {f : Nat} {es : CEs} {env : Env} {S : Sta} {ds : List D} {F : Fn} {r : D} (h1 : evs T es env S = .ok ds S) (hT : T[f]? = some F) (h : F ds S = .ok r S) : ev T (.call f es) env S = .ok r S := by
  rw [ev]
  refine (b_ok h1).trans ?_
  rw [hT]
  exact h
theorem evs2 {T : List Fn} {e1 e2 : CE} {env : Env} {S : Sta} {a b : D} (h1 : ev T e1 env S = .ok a S) (h2 : ev T e2 env S = .ok b S) : evs T (.cons e1 (.cons e2 .nil)) env S = .ok [a, b] S := by
  rw [evs]
  refine (b_ok h1).trans ?_
  refine (b_ok (evs1 h2)).trans rfl
abbrev env54 (sp te : D) (p : Nat) (e4 : Slot) (so : List D) (e7 e8 e9 e10 e11 e12 e13 e14 e15 e16 e17 e18 : Slot) : Env :=
  [.val .scr, .val (.ref 0), .val sp, .val te, e4, .val (.int (p : Int)), .own so, e7, e8, e9, e10, e11, e12, e13, e14, e15, e16, e17, e18]
def openB : CSs := (.cons (.unp (.tup (.cons (.name 11) (.cons (.name 12) .nil))) (.idx (.var 8) (.int 1))) (.cons (.par [(false, .tup (.cons (.name 15) (.cons (.name 16) .nil))), (false, .tup (.cons (.name 17) (.cons (.name 18) .nil)))] (.cons (.call 47 (.cons (.var 11) (.cons (.tup (.cons (.var 4) (.cons (.var 7) .nil))) .nil))) (.cons (.call 47 (.cons (.var 12) (.cons (.tup (.cons (.var 4) (.cons (.var 7) .nil))) .nil))) .nil))) (.cons (.ite (.or (.cons (.cmp .eq (.bin .mul (.var 15) (.var 18)) (.bin .mul (.var 16) (.var 17))) (.cons (.cmp .isnot (.call 52 (.cons (.var 3) (.cons (.var 11) .nil))) (.bl true)) (.cons (.cmp .isnot (.call 52 (.cons (.var 3) (.cons (.var 12) .nil))) (.bl true)) .nil)))) (.cons (.ret (.bl false)) .nil) .nil) (.cons (.set 10 (.call 46 (.cons (.var 11) (.cons (.var 12) (.cons (.tup (.cons (.int 1) (.cons (.int 2) .nil))) .nil))))) (.cons (.unp (.tup (.cons (.name 13) (.cons (.name 14) .nil))) (.call 47 (.cons (.var 10) (.cons (.tup (.cons (.var 4) (.cons (.var 7) .nil))) .nil)))) (.cons (.ite (.or (.cons (.cmp .eq (.bin .mul (.var 13) (.var 16)) (.bin .mul (.var 14) (.var 15))) (.cons (.cmp .eq (.bin .mul (.var 13) (.var 18)) (.bin .mul (.var 14) (.var 17))) (.cons (.and (.cons (.val (.call 53 (.cons (.var 10) .nil))) (.cons (.cmp .isnot (.call 52 (.cons (.var 3) (.cons (.var 10) .nil))) (.bl true)) .nil))) .nil)))) (.cons (.ret (.bl false)) .nil) .nil) (.cons (.app 6 (.tup (.cons (.var 4) (.cons (.var 7) .nil)))) .nil)))))))
def tail54 : CSs := (.cons (.set 8 (.call 37 (.cons (.int 1) (.cons (.tup (.cons (.var 3) (.cons (.tup (.cons (.var 4) (.cons (.var 7) .nil))) (.cons (.tup (.cons (.var 4) (.cons (.var 7) .nil))) .nil)))) .nil)))) (.cons (.ite (.and (.cons (.cmp .ne (.idx (.var 9) (.int 0)) (.str "along")) (.cons (.cmp .ne (.var 8) (.call 40 (.cons (.str "not_along") .nil))) .nil))) (.cons (.ret (.bl false)) .nil) .nil) .nil))
def turn54 : CSs := (.cons (.par [(false, .name 9), (false, .name 8)] (.cons (.call 39 (.cons (.var 3) (.cons (.tup (.cons (.var 4) (.cons (.var 7) .nil))) .nil))) (.cons (.call 37 (.cons (.int 0) (.cons (.tup (.cons (.var 3) (.cons (.tup (.cons (.var 4) (.cons (.var 7) .nil))) .nil))) .nil))) .nil))) (.cons (.ite (.cmp .ne (.var 9) (.tup (.cons (.str "open") .nil))) (.cons (.ite (.cmp .ne (.var 8) (.call 40 (.cons (.str "closed") .nil))) (.cons (.ret (.bl false)) .nil) .nil) .nil) (.cons (.ite (.or (.cons (.cmp .ne (.idx (.var 8) (.int 0)) (.str "returned")) (.cons (.cmp .ne (.blt .len (.cons (.idx (.var 8) (.int 1)) .nil)) (.int 2)) .nil))) (.cons (.ret (.bl false)) .nil) openB) .nil)) tail54))
theorem stepP_bd {a b : Pl} (z1 : pb a) (z2 : pb b) : (stepP a b).1.natAbs < 2 ^ 361 ∧ (stepP a b).2.natAbs < 2 ^ 361 := by
  have q1 := mul_lt_pow z2.1.1 z1.1.2.2
  have q2 := mul_lt_pow z1.1.1 z2.1.2.2
  have r1 := mul_lt_pow z2.2.1 z1.2.2.2
  have r2 := mul_lt_pow z1.2.1 z2.2.2.2
  exact ⟨mul_lt_pow (mul_lt_pow (sub_lt_pow q1 q2) z1.2.2.2) z2.2.2.2, mul_lt_pow (mul_lt_pow (sub_lt_pow r1 r2) z1.1.2.2) z2.1.2.2⟩
theorem step_int (p i j : Nat) (s : List Int) (hi : i < p) (hj : j < p) : stepP ((ptsF p s).getD i ((0, 1), (0, 1))) ((ptsF p s).getD j ((0, 1), (0, 1))) = gapF (en s) i j := by
  rw [pts_get hi, pts_get hj]
  unfold stepP gapF zP
  simp
theorem openB_ok (ns : List Int) (sp : D) (p i j : Nat) (ls : List Li) (so : List D) (s t : List Int) (e9 e10 e11 e12 e13 e14 e15 e16 e17 e18 : Slot) (h : isTell (p : Int) ls = true) (hp : p ≤ 9) (hij : i < j) (hjp : j < p)
    (hs : ∀ c, (en s c).natAbs < 2 ^ 80) (ht : ∀ c, (en t c).natAbs < 2 ^ 80) (ds : Drawn ls (en s)) (dt : Drawn ls (en t)) (hx : ¬ (gapF (en s) i j).1 * (gapF (en t) i j).2 = (gapF (en s) i j).2 * (gapF (en t) i j).1) (hso : so.length ≤ 1000)
    (n11 : nown e11) (n12 : nown e12) (n13 : nown e13) (n14 : nown e14) (n15 : nown e15) (n16 : nown e16) (n17 : nown e17) (n18 : nown e18) (S : Sta) :
    ∃ f10 f11 f12 f13 f14 f15 f16 f17 f18, exs (T54 ns) fuel openB (env54 sp (tellD (p : Int) ls) p (.val (.int (i : Int))) so (.val (.int (j : Int))) (.val (retD (.tup [plsD p s, plsD p t]))) e9 e10 e11 e12 e13 e14 e15 e16 e17 e18) S = .ok (.nx (env54 sp (tellD (p : Int) ls) p (.val (.int (i : Int))) (so ++ [.tup [.int (i : Int), .int (j : Int)]]) (.val (.int (j : Int))) (.val (retD (.tup [plsD p s, plsD p t]))) e9 f10 f11 f12 f13 f14 f15 f16 f17 f18)) S ∧ (nown f11 ∧ nown f12 ∧ nown f13 ∧ nown f14 ∧ nown f15 ∧ nown f16 ∧ nown f17 ∧ nown f18) := by
  obtain ⟨⟨hp2, _⟩, hn16, hl⟩ := tell_parts h
  have hT47 : (T54 ns)[47]? = some (F47 ns) := rfl
  have hT52 : (T54 ns)[52]? = some (F52 ns) := rfl
  have hT46 : (T54 ns)[46]? = some (F46 ns) := rfl
  have hT53 : (T54 ns)[53]? = some (F53 ns) := rfl
  have hz2 : ∀ a b : D, sizeOk [a, b].length = true := fun _ _ => rfl
  have f47 : ∀ s, (∀ c, (en s c).natAbs < 2 ^ 80) → F47 ns [plsD p s, .tup [.int (i : Int), .int (j : Int)]] = ret (prD (gapF (en s) i j)) := fun s hs => by
    have e := F47_ret ns (ptsF p s) i j (by rw [pts_len]; omega) (by rw [pts_len]; omega) (ok_pb (pts_ok hs))
    rw [step_int p i j s (by omega) hjp] at e
    exact e
  have f52 : ∀ s, (∀ c, (en s c).natAbs < 2 ^ 80) → Drawn ls (en s) → F52 ns [tellD (p : Int) ls, plsD p s] S = .ok (.bool true) S := fun s hs hd => F52_true ns (p : Int) ls (ptsF p s) h (pts_ok hs) (by rw [pts_len]) (fun l hm => by
    obtain ⟨q1, q2⟩ := li_nat hl l hm
    exact fac_zero (k := 1) (by decide) (pts_val p s) (by rw [pts_len]; exact q1) (by rw [pts_len]; exact q2) (hd l hm)) S
  have fm := mix_half ns p s t (by omega) hp hs ht S
  have f47h := F47_ret ns (halfP p s t) i j (by rw [half_len]; omega) (by rw [half_len]; exact hjp) (ok_pb (half_plok hs ht))
  have f52h : F52 ns [tellD (p : Int) ls, .tup ((halfP p s t).map plD)] S = .ok (.bool true) S := F52_true ns (p : Int) ls (halfP p s t) h (half_plok hs ht) (by rw [half_len]) (fun l hm => by
    obtain ⟨q1, q2⟩ := li_nat hl l hm
    refine fac_zero (k := 2) (by decide) (half_val hs ht) (by rw [half_len]; exact q1) (by rw [half_len]; exact q2) ?_
    have d1 := ds l hm
    have d2 := dt l hm
    show l.b * ((vx (en s) l.y.toNat + vx (en t) l.y.toNat) - (vx (en s) l.x.toNat + vx (en t) l.x.toNat)) - l.a * ((vy (en s) l.y.toNat + vy (en t) l.y.toNat) - (vy (en s) l.x.toNat + vy (en t) l.x.toNat)) = 0
    simp only [Int.mul_sub, Int.mul_add] at *
    omega) S
  have f53h := F53_true ns (halfP p s t) (ok_pb (half_plok hs ht)) S
  have hv := half_val (p := p) hs ht
  obtain ⟨m, hm0, hm1, hm2⟩ := step_val (hv i (by rw [half_len]; omega)) (hv j (by rw [half_len]; exact hjp))
  have sb := stepP_bd (pb_get (ok_pb (half_plok (p := p) hs ht)) i) (pb_get (ok_pb (half_plok (p := p) hs ht)) j)
  have e1 : (hlf s t j).1 - (hlf s t i).1 = (gapF (en s) i j).1 + (gapF (en t) i j).1 := by
    show vx (en s) j + vx (en t) j - (vx (en s) i + vx (en t) i) = vx (en s) j - vx (en s) i + (vx (en t) j - vx (en t) i)
    omega
  have e2 : (hlf s t j).2 - (hlf s t i).2 = (gapF (en s) i j).2 + (gapF (en t) i j).2 := by
    show vy (en s) j + vy (en t) j - (vy (en s) i + vy (en t) i) = vy (en s) j - vy (en s) i + (vy (en t) j - vy (en t) i)
    omega
  rw [e1] at hm1
  rw [e2] at hm2
  have gbs : (gapF (en s) i j).1.natAbs < 2 ^ 81 ∧ (gapF (en s) i j).2.natAbs < 2 ^ 81 := ⟨sub_lt_pow (v_bd hs j).1 (v_bd hs i).1, sub_lt_pow (v_bd hs j).2 (v_bd hs i).2⟩
  have gbt : (gapF (en t) i j).1.natAbs < 2 ^ 81 ∧ (gapF (en t) i j).2.natAbs < 2 ^ 81 := ⟨sub_lt_pow (v_bd ht j).1 (v_bd ht i).1, sub_lt_pow (v_bd ht j).2 (v_bd ht i).2⟩
  have fs47 := f47 s hs
  have ft47 := f47 t ht
  have fs52 := f52 s hs ds
  have ft52 := f52 t ht dt
  generalize gapF (en s) i j = gs at *
  generalize gapF (en t) i j = gt at *
  generalize stepP ((halfP p s t).getD i ((0, 1), (0, 1))) ((halfP p s t).getD j ((0, 1), (0, 1))) = st at *
  have ne1 : ¬ st.1 * gs.2 = st.2 * gs.1 := fun e => hx (by
    have a1 : m * ((gs.1 + gt.1) * gs.2) = m * ((gs.2 + gt.2) * gs.1) := by
      rw [← Int.mul_assoc, ← hm1, ← Int.mul_assoc, ← hm2, Int.mul_assoc, Int.mul_assoc, e]
    have a2 := Int.eq_of_mul_eq_mul_left hm0 a1
    rw [Int.add_mul, Int.add_mul, Int.mul_comm gs.2 gs.1] at a2
    have a3 : gt.1 * gs.2 = gt.2 * gs.1 := by omega
    rw [Int.mul_comm gs.1, Int.mul_comm gs.2, a3])
  have ne2 : ¬ st.1 * gt.2 = st.2 * gt.1 := fun e => hx (by
    have a1 : m * ((gs.1 + gt.1) * gt.2) = m * ((gs.2 + gt.2) * gt.1) := by
      rw [← Int.mul_assoc, ← hm1, ← Int.mul_assoc, ← hm2, Int.mul_assoc, Int.mul_assoc, e]
    have a2 := Int.eq_of_mul_eq_mul_left hm0 a1
    rw [Int.add_mul, Int.add_mul, Int.mul_comm gt.2 gt.1] at a2
    omega)
  have m1 := mul_okB gbs.1 gbt.2 (by decide) (by decide)
  have m2 := mul_okB gbs.2 gbt.1 (by decide) (by decide)
  have m3 := mul_okB sb.1 gbs.2 (by decide) (by decide)
  have m4 := mul_okB sb.2 gbs.1 (by decide) (by decide)
  have m5 := mul_okB sb.1 gbt.2 (by decide) (by decide)
  have m6 := mul_okB sb.2 gbt.1 (by decide) (by decide)
  have i1 : getitem (retD (.tup [plsD p s, plsD p t])) (.int 1) = some (.tup [plsD p s, plsD p t]) := rfl
  generalize hps : plsD p s = PS at *
  generalize hpt : plsD p t = PT at *
  generalize hph : D.tup ((halfP p s t).map plD) = PH at *
  generalize hte : tellD (p : Int) ls = Te at *
  have fm' : F46 ns [PS, PT, .tup [.int 1, .int 2]] S = .ok PH S := fm
  refine ⟨.val PH, .val PS, .val PT, .val (.int st.1), .val (.int st.2), .val (.int gs.1), .val (.int gs.2), .val (.int gt.1), .val (.int gt.2), ?_, ⟨nown_val _, nown_val _, nown_val _, nown_val _, nown_val _, nown_val _, nown_val _, nown_val _⟩⟩
  unfold openB
  -- first, second
  have u1 := un_pair (i := 11) (j := 12) (a := PS) (b := PT) (env := env54 sp Te p (.val (.int (i : Int))) so (.val (.int (j : Int))) (.val (retD (.tup [PS, PT]))) e9 e10 e11 e12 e13 e14 e15 e16 e17 e18) rfl n11 rfl n12
  refine (x_nx (env' := env54 sp Te p (.val (.int (i : Int))) so (.val (.int (j : Int))) (.val (retD (.tup [PS, PT]))) e9 e10 (.val PS) (.val PT) e13 e14 e15 e16 e17 e18) (S' := S) ?_).trans ?_
  · simp only [ex, ev, getv, List.getElem?_cons_zero, List.getElem?_cons_succ, l_some, b_ret, i1, u1]
    rfl
  -- steps
  have w1 := un_pair (i := 15) (j := 16) (a := .int gs.1) (b := .int gs.2) (env := env54 sp Te p (.val (.int (i : Int))) so (.val (.int (j : Int))) (.val (retD (.tup [PS, PT]))) e9 e10 (.val PS) (.val PT) e13 e14 e15 e16 e17 e18) rfl n15 rfl n16
  have w2 := un_pair (i := 17) (j := 18) (a := .int gt.1) (b := .int gt.2) (env := env54 sp Te p (.val (.int (i : Int))) so (.val (.int (j : Int))) (.val (retD (.tup [PS, PT]))) e9 e10 (.val PS) (.val PT) e13 e14 (.val (.int gs.1)) (.val (.int gs.2)) e17 e18) rfl n17 rfl n18
  have w1' : store1 (false, .tup (.cons (.name 15) (.cons (.name 16) .nil))) (prD gs) (env54 sp Te p (.val (.int (i : Int))) so (.val (.int (j : Int))) (.val (retD (.tup [PS, PT]))) e9 e10 (.val PS) (.val PT) e13 e14 e15 e16 e17 e18) = some (env54 sp Te p (.val (.int (i : Int))) so (.val (.int (j : Int))) (.val (retD (.tup [PS, PT]))) e9 e10 (.val PS) (.val PT) e13 e14 (.val (.int gs.1)) (.val (.int gs.2)) e17 e18) := w1
  have w2' : store1 (false, .tup (.cons (.name 17) (.cons (.name 18) .nil))) (prD gt) (env54 sp Te p (.val (.int (i : Int))) so (.val (.int (j : Int))) (.val (retD (.tup [PS, PT]))) e9 e10 (.val PS) (.val PT) e13 e14 (.val (.int gs.1)) (.val (.int gs.2)) e17 e18) = some (env54 sp Te p (.val (.int (i : Int))) so (.val (.int (j : Int))) (.val (retD (.tup [PS, PT]))) e9 e10 (.val PS) (.val PT) e13 e14 (.val (.int gs.1)) (.val (.int gs.2)) (.val (.int gt.1)) (.val (.int gt.2))) := w2
  refine (x_nx (env' := env54 sp Te p (.val (.int (i : Int))) so (.val (.int (j : Int))) (.val (retD (.tup [PS, PT]))) e9 e10 (.val PS) (.val PT) e13 e14 (.val (.int gs.1)) (.val (.int gs.2)) (.val (.int gt.1)) (.val (.int gt.2))) (S' := S) ?_).trans ?_
  · simp only [ex, ev, evs, getv, List.getElem?_cons_zero, List.getElem?_cons_succ, l_some, b_ret, hz2, if_true, hT47, fs47, ft47, storePar, w1', w2']
    rfl
  -- unlike, and drawings
  refine (x_nx (env' := env54 sp Te p (.val (.int (i : Int))) so (.val (.int (j : Int))) (.val (retD (.tup [PS, PT]))) e9 e10 (.val PS) (.val PT) e13 e14 (.val (.int gs.1)) (.val (.int gs.2)) (.val (.int gt.1)) (.val (.int gt.2))) (S' := S) ?_).trans ?_
  · rw [ex]
    refine (b_ok (a := false) (S' := S) ?_).trans rfl
    simp only [evT, evTOr, ev, evs, getv, List.getElem?_cons_zero, List.getElem?_cons_succ, l_some, b_ret, m1, m2, c_eqI, decide_eq_false hx, Bool.false_eq_true, if_false, hT52]
    refine (b_ok (a := false) (S' := S) ((b_ok fs52).trans rfl)).trans ?_
    simp only [Bool.false_eq_true, if_false]
    exact (b_ok ft52).trans rfl
  -- half
  refine (x_nx (env' := env54 sp Te p (.val (.int (i : Int))) so (.val (.int (j : Int))) (.val (retD (.tup [PS, PT]))) e9 (.val PH) (.val PS) (.val PT) e13 e14 (.val (.int gs.1)) (.val (.int gs.2)) (.val (.int gt.1)) (.val (.int gt.2))) (S' := S) ?_).trans ?_
  · rw [ex]
    refine (b_ok (a := PH) (S' := S) ?_).trans rfl
    simp only [ev, evs, getv, List.getElem?_cons_zero, List.getElem?_cons_succ, l_some, b_ret, hz2, if_true, hT46]
    exact fm'
  have w3 := un_pair (i := 13) (j := 14) (a := .int st.1) (b := .int st.2) (env := env54 sp Te p (.val (.int (i : Int))) so (.val (.int (j : Int))) (.val (retD (.tup [PS, PT]))) e9 (.val PH) (.val PS) (.val PT) e13 e14 (.val (.int gs.1)) (.val (.int gs.2)) (.val (.int gt.1)) (.val (.int gt.2))) rfl n13 rfl n14
  refine (x_nx (env' := env54 sp Te p (.val (.int (i : Int))) so (.val (.int (j : Int))) (.val (retD (.tup [PS, PT]))) e9 (.val PH) (.val PS) (.val PT) (.val (.int st.1)) (.val (.int st.2)) (.val (.int gs.1)) (.val (.int gs.2)) (.val (.int gt.1)) (.val (.int gt.2))) (S' := S) ?_).trans ?_
  · simp only [ex, ev, evs, getv, List.getElem?_cons_zero, List.getElem?_cons_succ, l_some, b_ret, hz2, if_true, hT47, f47h]
    rw [show prD st = .tup [.int st.1, .int st.2] from rfl, w3]
    rfl
  refine (x_nx (env' := env54 sp Te p (.val (.int (i : Int))) so (.val (.int (j : Int))) (.val (retD (.tup [PS, PT]))) e9 (.val PH) (.val PS) (.val PT) (.val (.int st.1)) (.val (.int st.2)) (.val (.int gs.1)) (.val (.int gs.2)) (.val (.int gt.1)) (.val (.int gt.2))) (S' := S) ?_).trans ?_
  · rw [ex]
    refine (b_ok (a := false) (S' := S) ?_).trans rfl
    simp only [evT, evTOr, evTAnd, ev, evs, getv, List.getElem?_cons_zero, List.getElem?_cons_succ, l_some, b_ret, m3, m4, m5, m6, c_eqI, decide_eq_false ne1, decide_eq_false ne2, Bool.false_eq_true, if_false, hT52, hT53]
    refine (b_ok (a := true) (S' := S) ((b_ok f53h).trans rfl)).trans ?_
    simp only [if_true]
    exact (b_ok f52h).trans rfl
  refine (x_nx (env' := env54 sp Te p (.val (.int (i : Int))) (so ++ [.tup [.int (i : Int), .int (j : Int)]]) (.val (.int (j : Int))) (.val (retD (.tup [PS, PT]))) e9 (.val PH) (.val PS) (.val PT) (.val (.int st.1)) (.val (.int st.2)) (.val (.int gs.1)) (.val (.int gs.2)) (.val (.int gt.1)) (.val (.int gt.2))) (S' := S) ?_).trans rfl
  have hsz : sizeOk so.length = true := decide_eq_true (by omega)
  simp only [ex, ev, evs, getv, List.getElem?_cons_zero, List.getElem?_cons_succ, l_some, b_ret, hz2, hsz, if_true, List.set_cons_succ, List.set_cons_zero]
  rfl
end K21

/-! The law, whole. -/
namespace K21
open Q7 Lin
theorem tail54_ok (ns : List Int) (sp te : D) (p i j : Nat) (so : List D) (kd d8 : D) (e8 e10 e11 e12 e13 e14 e15 e16 e17 e18 : Slot) {z : PySem.Str} {S : Sta} (h0 : getitem kd (.int 0) = some (.str z))
    (e37 : F37 ns [.int 1, .tup [te, .tup [.int (i : Int), .int (j : Int)], .tup [.int (i : Int), .int (j : Int)]]] S = .ok d8 S) (hz : cmpop .ne (.str z) (.str (PySem.Str.ofString "along")) = some false ∨ (cmpop .ne (.str z) (.str (PySem.Str.ofString "along")) = some true ∧ d8 = excD 13)) :
    exs (T54 ns) fuel tail54 (env54 sp te p (.val (.int (i : Int))) so (.val (.int (j : Int))) e8 (.val kd) e10 e11 e12 e13 e14 e15 e16 e17 e18) S = .ok (.nx (env54 sp te p (.val (.int (i : Int))) so (.val (.int (j : Int))) (.val d8) (.val kd) e10 e11 e12 e13 e14 e15 e16 e17 e18)) S := by
  have hT37 : (T54 ns)[37]? = some (F37 ns) := rfl
  have hT40 : (T54 ns)[40]? = some (F40 ns) := rfl
  have hz2 : ∀ a b : D, sizeOk [a, b].length = true := fun _ _ => rfl
  have hz3 : ∀ a b c : D, sizeOk [a, b, c].length = true := fun _ _ _ => rfl
  have f40 := F40_na ns
  unfold tail54
  refine (x_nx (env' := env54 sp te p (.val (.int (i : Int))) so (.val (.int (j : Int))) (.val d8) (.val kd) e10 e11 e12 e13 e14 e15 e16 e17 e18) (S' := S) ?_).trans ?_
  · rw [ex]
    refine (b_ok (a := d8) (S' := S) ?_).trans rfl
    simp only [ev, evs, getv, List.getElem?_cons_zero, List.getElem?_cons_succ, l_some, b_ret, hz2, hz3, if_true, hT37]
    exact e37
  refine (x_nx (env' := env54 sp te p (.val (.int (i : Int))) so (.val (.int (j : Int))) (.val d8) (.val kd) e10 e11 e12 e13 e14 e15 e16 e17 e18) (S' := S) ?_).trans rfl
  rw [ex]
  refine (b_ok (a := false) (S' := S) ?_).trans rfl
  rcases hz with hz | ⟨hz, rfl⟩
  · simp only [evT, evTAnd, ev, getv, List.getElem?_cons_zero, List.getElem?_cons_succ, l_some, b_ret, h0, hz, Bool.false_eq_true, if_false]
    rfl
  · simp only [evT, evTAnd, ev, evs, getv, List.getElem?_cons_zero, List.getElem?_cons_succ, l_some, b_ret, h0, hz, if_true, hT40]
    rw [f40]
    simp only [b_ret, ne_e13, l_some]
    rfl
def nw (e : Slot) : Prop := nown e
theorem turn54_ok (ns : List Int) (sp : D) (p i j : Nat) (ls : List Li) (so : List D) (e8 e9 e10 e11 e12 e13 e14 e15 e16 e17 e18 : Slot) (h : isTell (p : Int) ls = true) (hn9 : ls.length ≤ 9) (hp : p ≤ 9) (hij : i < j) (hjp : j < p) (hso : so.length ≤ 1000)
    (n8 : nown e8) (n9 : nown e9) (n11 : nown e11) (n12 : nown e12) (n13 : nown e13) (n14 : nown e14) (n15 : nown e15) (n16 : nown e16) (n17 : nown e17) (n18 : nown e18) (S : Sta) :
    ∃ so' f8 f9 f10 f11 f12 f13 f14 f15 f16 f17 f18, exs (T54 ns) fuel turn54 (env54 sp (tellD (p : Int) ls) p (.val (.int (i : Int))) so (.val (.int (j : Int))) e8 e9 e10 e11 e12 e13 e14 e15 e16 e17 e18) S = .ok (.nx (env54 sp (tellD (p : Int) ls) p (.val (.int (i : Int))) so' (.val (.int (j : Int))) f8 f9 f10 f11 f12 f13 f14 f15 f16 f17 f18)) S ∧ (nown f8 ∧ nown f9 ∧ nown f11 ∧ nown f12 ∧ nown f13 ∧ nown f14 ∧ nown f15 ∧ nown f16 ∧ nown f17 ∧ nown f18) ∧ so.length ≤ so'.length ∧ so'.length ≤ so.length + 1 ∧ (so.all (okD 59) = true → so'.all (okD 59) = true) ∧ (ls = [] → so' ≠ []) := by
  obtain ⟨⟨hp2, _⟩, hn16, hl⟩ := tell_parts h
  have hT37 : (T54 ns)[37]? = some (F37 ns) := rfl
  have hT39 : (T54 ns)[39]? = some (F39 ns) := rfl
  have hT40 : (T54 ns)[40]? = some (F40 ns) := rfl
  have hz2 : ∀ a b : D, sizeOk [a, b].length = true := fun _ _ => rfl
  have hz1 : ∀ a : D, sizeOk [a].length = true := fun _ => rfl
  obtain ⟨sols, e24, hB⟩ := F24_ex ns p ls (by omega) hp hn16 hl S
  have hb80 : ∀ s ∈ sols, ∀ c, (en s c).natAbs < 2 ^ 80 := fun s hs c => Nat.lt_of_le_of_lt ((hB.each s hs).2.1 9 (by decide) hn9 c) big9
  have hbd : ∀ s ∈ sols, s.length = 2 * p - 2 ∧ bd 7420 s := fun s hs => ⟨(hB.each s hs).1, fun x hx => by
    obtain ⟨c, hc, rfl⟩ := List.getElem_of_mem hx
    have := hb80 s hs c
    rw [show en s c = s[c] by simp [en, List.getD, hc]] at this
    exact Nat.lt_trans this (Nat.pow_lt_pow_right (by decide) (by decide))⟩
  have hsl : sols.length ≤ 16 := by have := hB.most; omega
  obtain ⟨kd, e29, hkd⟩ := F29_ex ns (2 * p - 2) i j sols (by omega) (by omega) (by omega) hbd hsl S
  have e39 := F39_of ns p i j ls h hij hjp e24 e29
  -- what the first two calls say
  have first : ∀ d8, F37 ns [.int 0, .tup [tellD (p : Int) ls, .tup [.int (i : Int), .int (j : Int)]]] S = .ok d8 S → ex (T54 ns) fuel (.par [(false, .name 9), (false, .name 8)] (.cons (.call 39 (.cons (.var 3) (.cons (.tup (.cons (.var 4) (.cons (.var 7) .nil))) .nil))) (.cons (.call 37 (.cons (.int 0) (.cons (.tup (.cons (.var 3) (.cons (.tup (.cons (.var 4) (.cons (.var 7) .nil))) .nil))) .nil))) .nil))) (env54 sp (tellD (p : Int) ls) p (.val (.int (i : Int))) so (.val (.int (j : Int))) e8 e9 e10 e11 e12 e13 e14 e15 e16 e17 e18) S = .ok (.nx (env54 sp (tellD (p : Int) ls) p (.val (.int (i : Int))) so (.val (.int (j : Int))) (.val d8) (.val kd) e10 e11 e12 e13 e14 e15 e16 e17 e18)) S := by
    intro d8 e37
    have w1' : store1 (false, .name 9) kd (env54 sp (tellD (p : Int) ls) p (.val (.int (i : Int))) so (.val (.int (j : Int))) e8 e9 e10 e11 e12 e13 e14 e15 e16 e17 e18) = some (env54 sp (tellD (p : Int) ls) p (.val (.int (i : Int))) so (.val (.int (j : Int))) e8 (.val kd) e10 e11 e12 e13 e14 e15 e16 e17 e18) := rfl
    have w2' : store1 (false, .name 8) d8 (env54 sp (tellD (p : Int) ls) p (.val (.int (i : Int))) so (.val (.int (j : Int))) e8 (.val kd) e10 e11 e12 e13 e14 e15 e16 e17 e18) = some (env54 sp (tellD (p : Int) ls) p (.val (.int (i : Int))) so (.val (.int (j : Int))) (.val d8) (.val kd) e10 e11 e12 e13 e14 e15 e16 e17 e18) := rfl
    rw [ex]
    refine (b_ok (a := [kd, d8]) (S' := S) ?_).trans ?_
    · refine evs2 ?_ ?_
      · simp only [ev, evs, getv, List.getElem?_cons_zero, List.getElem?_cons_succ, l_some, b_ret, hz2, if_true, hT39]
        exact e39
      · simp only [ev, evs, getv, List.getElem?_cons_zero, List.getElem?_cons_succ, l_some, b_ret, hz2, if_true, hT37]
        exact e37
    · simp only [storePar, w1', w2']
      rfl
  -- a pair that is not open
  have closed : cmpop .ne kd openD = some true → ∀ (d8 : D) (z : PySem.Str), getitem kd (.int 0) = some (.str z) → F37 ns [.int 1, .tup [tellD (p : Int) ls, .tup [.int (i : Int), .int (j : Int)], .tup [.int (i : Int), .int (j : Int)]]] S = .ok d8 S → (cmpop .ne (.str z) (.str (PySem.Str.ofString "along")) = some false ∨ (cmpop .ne (.str z) (.str (PySem.Str.ofString "along")) = some true ∧ d8 = excD 13)) → exs (T54 ns) fuel turn54 (env54 sp (tellD (p : Int) ls) p (.val (.int (i : Int))) so (.val (.int (j : Int))) e8 e9 e10 e11 e12 e13 e14 e15 e16 e17 e18) S = .ok (.nx (env54 sp (tellD (p : Int) ls) p (.val (.int (i : Int))) so (.val (.int (j : Int))) (.val d8) (.val kd) e10 e11 e12 e13 e14 e15 e16 e17 e18)) S := by
    intro hne d8 z h0 e37 hz
    have e34 := F34_closed ns p i j ls h hij hjp e24 e29 hne
    have e35 : F35 ns [.int 0, .tup [tellD (p : Int) ls, .tup [.int (i : Int), .int (j : Int)]]] S = .exc 12 S := by rw [F35_0]; exact e34
    have e37c := F37_exc ns 0 _ 12 (by decide) e35 (F36_12 ns)
    unfold turn54
    refine (x_nx (first _ e37c)).trans ?_
    refine (x_nx (env' := env54 sp (tellD (p : Int) ls) p (.val (.int (i : Int))) so (.val (.int (j : Int))) (.val (excD 12)) (.val kd) e10 e11 e12 e13 e14 e15 e16 e17 e18) (S' := S) ?_).trans (tail54_ok ns sp _ p i j so kd d8 _ e10 e11 e12 e13 e14 e15 e16 e17 e18 h0 e37 hz)
    have f40 := F40_closed ns
    have hne' : cmpop .ne kd (.tup [.str (PySem.Str.ofString "open")]) = some true := hne
    simp only [ex, evT, ev, evs, getv, List.getElem?_cons_zero, List.getElem?_cons_succ, l_some, b_ret, hz1, if_true, hne']
    refine (x_nx (env' := env54 sp (tellD (p : Int) ls) p (.val (.int (i : Int))) so (.val (.int (j : Int))) (.val (excD 12)) (.val kd) e10 e11 e12 e13 e14 e15 e16 e17 e18) (S' := S) ?_).trans rfl
    simp only [ex, evT, ev, evs, getv, List.getElem?_cons_zero, List.getElem?_cons_succ, l_some, b_ret, hT40]
    rw [f40]
    simp only [b_ret, ne_e12, l_some]
    rfl
  have nope : F30 ns [.list (sols.map iD), .tup [.int (i : Int), .int (j : Int)]] S = .ok .none S → F37 ns [.int 1, .tup [tellD (p : Int) ls, .tup [.int (i : Int), .int (j : Int)], .tup [.int (i : Int), .int (j : Int)]]] S = .ok (excD 13) S := by
    intro e30
    have e31 := F31_none ns p i j ls h hij hjp e24 e30
    exact F37_exc ns 1 _ 13 (by decide) (by rw [F35_1]; exact e31) (F36_13 ns)
  rcases hkd with ⟨rfl, hz⟩ | ⟨rfl, g0, r, hf, hex⟩ | ⟨q, rfl, hqb, hc, hex, hpp⟩
  · -- same
    have e30 := F30_none ns sols _ sameD e29 rfl st_s
    refine ⟨so, _, _, _, _, _, _, _, _, _, _, _, closed ne_so _ _ rfl (nope e30) (.inr ⟨st_s, rfl⟩), ⟨nown_val _, nown_val _, n11, n12, n13, n14, n15, n16, n17, n18⟩, Nat.le_refl _, by omega, id, fun he => ?_⟩
    exfalso
    obtain ⟨⟨s, hs, h1, _⟩, _⟩ := none_open hij hjp (hB.none he)
    rw [hz s hs] at h1
    exact h1 rfl
  · -- open
    obtain ⟨s, hs, t, ht, e34, hx⟩ := F34_open ns p i j ls h hij hjp e24 e29 rfl hp (fun s hs => ⟨(hB.each s hs).1, fun c => Nat.lt_trans (hb80 s hs c) (Nat.pow_lt_pow_right (by decide) (by decide))⟩) hsl hf hex
    have e37o := F37_ok ns 0 (.tup [tellD (p : Int) ls, .tup [.int (i : Int), .int (j : Int)]]) _ (by rw [F35_0]; exact e34)
    obtain ⟨f10, f11, f12, f13, f14, f15, f16, f17, f18, eo, m11, m12, m13, m14, m15, m16, m17, m18⟩ := openB_ok ns sp p i j ls so s t (.val openD) e10 e11 e12 e13 e14 e15 e16 e17 e18 h hp hij hjp (hb80 s hs) (hb80 t ht) (hB.each s hs).2.2 (hB.each t ht).2.2 hx hso n11 n12 n13 n14 n15 n16 n17 n18 S
    have e30 := F30_none ns sols _ openD e29 rfl st_o
    refine ⟨so ++ [.tup [.int (i : Int), .int (j : Int)]], _, _, f10, f11, f12, f13, f14, f15, f16, f17, f18, ?_, ⟨nown_val (excD 13), nown_val openD, m11, m12, m13, m14, m15, m16, m17, m18⟩, by simp, by simp, fun ha => by rw [List.all_append, ha]; rfl, by simp⟩
    unfold turn54
    refine (x_nx (first _ e37o)).trans ?_
    refine (x_nx (env' := env54 sp (tellD (p : Int) ls) p (.val (.int (i : Int))) (so ++ [.tup [.int (i : Int), .int (j : Int)]]) (.val (.int (j : Int))) (.val (retD (.tup [plsD p s, plsD p t]))) (.val openD) f10 f11 f12 f13 f14 f15 f16 f17 f18) (S' := S) ?_).trans (tail54_ok ns sp _ p i j _ openD _ _ f10 f11 f12 f13 f14 f15 f16 f17 f18 rfl (nope e30) (.inr ⟨st_o, rfl⟩))
    have hne' : cmpop .ne openD (.tup [.str (PySem.Str.ofString "open")]) = some false := ne_oo
    simp only [ex, evT, ev, evs, getv, List.getElem?_cons_zero, List.getElem?_cons_succ, l_some, b_ret, hz1, if_true, hne', Bool.false_eq_true, if_false]
    refine (x_nx (env' := env54 sp (tellD (p : Int) ls) p (.val (.int (i : Int))) (so ++ [.tup [.int (i : Int), .int (j : Int)]]) (.val (.int (j : Int))) (.val (retD (.tup [plsD p s, plsD p t]))) (.val openD) f10 f11 f12 f13 f14 f15 f16 f17 f18) (S' := S) ?_).trans rfl
    have g0' : getitem (retD (.tup [plsD p s, plsD p t])) (.int 0) = some (.str (PySem.Str.ofString "returned")) := rfl
    have g1' : getitem (retD (.tup [plsD p s, plsD p t])) (.int 1) = some (.tup [plsD p s, plsD p t]) := rfl
    have cr : cmpop .ne (.str (PySem.Str.ofString "returned")) (.str (PySem.Str.ofString "returned")) = some false := by kernel_rfl
    have bl : blt .len [.tup [plsD p s, plsD p t]] = some (.int 2) := rfl
    have c2 : cmpop .ne (.int 2) (.int 2) = some false := by kernel_rfl
    rw [ex]
    refine (b_ok (a := false) (S' := S) ?_).trans ?_
    · simp only [evT, evTOr, ev, evs, getv, List.getElem?_cons_zero, List.getElem?_cons_succ, l_some, b_ret, g0', g1', cr, bl, c2, Bool.false_eq_true, if_false]
      rfl
    · simp only [Bool.false_eq_true, if_false]
      exact eo
  · -- along
    obtain ⟨fs, e30, hfl, hfb, k, hk⟩ := F30_along ns (2 * p - 2) i j sols q (by omega) (by omega) (by omega) hbd hsl e29 hqb hc hex hpp
    obtain ⟨r, e26⟩ := F26_ex ns fs hk hfl hfb S
    have e31 := F31_ok ns p i j ls h hij hjp e24 e30 e26
    have e37q := F37_ok ns 1 (.tup [tellD (p : Int) ls, .tup [.int (i : Int), .int (j : Int)], .tup [.int (i : Int), .int (j : Int)]]) r (by rw [F35_1]; exact e31)
    refine ⟨so, _, _, _, _, _, _, _, _, _, _, _, closed (ne_ao q) _ _ rfl e37q (.inl st_a), ⟨nown_val _, nown_val _, n11, n12, n13, n14, n15, n16, n17, n18⟩, Nat.le_refl _, by omega, id, fun he => ?_⟩
    exfalso
    obtain ⟨⟨s, hs, h1, h2⟩, t, ht, h3, h4⟩ := none_open hij hjp (hB.none he)
    have p1 := hpp s hs
    have p2 := hpp t ht
    rw [h2, Int.zero_mul] at p1
    rw [h3, Int.zero_mul] at p2
    have q2 : q.2 = 0 := (Int.mul_eq_zero.mp p1).resolve_left h1
    have q1 : q.1 = 0 := (Int.mul_eq_zero.mp p2.symm).resolve_left h4
    have := hc 2 (by rw [q1]; exact Int.dvd_zero _) (by rw [q2]; exact Int.dvd_zero _)
    exact absurd this (by decide)
theorem good (ns : List Int) (hns : ns.length ≤ 63) : ∃ S', F54 ns [.scr] [] = .ok (.bool true) S' := by
  have key : Ok (F54 ns [.scr]) [] fun d _ => d = .bool true := by
    have hT1 : (T54 ns)[1]? = some (drawF ns) := rfl
    have hT3 : (T54 ns)[3]? = some (F3 ns) := rfl
    have hT7 : (T54 ns)[7]? = some (F7 ns) := rfl
    have hT38 : (T54 ns)[38]? = some (F38 ns) := rfl
    obtain ⟨t1, t2⟩ := town_ex ns hns
    have hS0 : St ns 0 [.town (0 :: ns)] := ⟨_, rfl, t2⟩
    have hz0 : sizeOk ([] : List D).length = true := rfl
    refine k_run rfl ?_
    -- town
    refine k_seq (k_eq (a := .nx [.val .scr, .val (.ref 0), .un, .un, .un, .un, .un, .un, .un, .un, .un, .un, .un, .un, .un, .un, .un, .un, .un]) (S' := [.town (0 :: ns)]) ?_ ?_)
    · show Q7.bind (Q7.bind (evs (T54 ns) _ _) _) _ [] = _
      have : Q7.bind (evs (T54 ns) (.cons (.var 0) .nil) ([D.scr].map .val ++ List.replicate (19 - 1) .un)) (fun ds => match (T54 ns)[0]? with | some F => F ds | none => bad) [] = .ok (.ref 0) [.town (0 :: ns)] := t1
      exact b_ok this
    -- spots
    refine k_seq ?_
    simp only [ex, ev, evs, k_bind, getv, List.getElem?_cons_zero, List.getElem?_cons_succ, l_some, k_ret, hT1, hT3]
    refine k_draw hS0 (by omega) (by decide) (by decide) fun r S1 r0 r1 h1 => ?_
    have i1 : (2 : Int) + r = ((r.toNat + 2 : Nat) : Int) := by omega
    simp only [o_add, l_some, k_ret, k_bind, i1]
    obtain ⟨p, hp⟩ : ∃ p, p = r.toNat + 2 := ⟨_, rfl⟩
    have hp2 : 2 ≤ p := by omega
    have hp7 : p ≤ 7 := by omega
    rw [← hp]
    refine k_mono (F3_ok ns (p : Int) (by omega) (by omega) h1 (by omega)) ?_
    rintro d S2 ⟨qs, rfl, hqp, hq, h2⟩
    refine k_eq (a := .nx [.val .scr, .val (.ref 0), .val (.list (qs.map spotD)), .un, .un, .un, .un, .un, .un, .un, .un, .un, .un, .un, .un, .un, .un, .un, .un]) (S' := S2) rfl ?_
    refine k_seq ?_
    simp only [ex, ev, evs, k_bind, getv, List.getElem?_cons_zero, List.getElem?_cons_succ, l_some, k_ret, hT7]
    refine k_mono (F7_ok ns qs hq (p : Int) hqp ⟨by omega, by omega⟩ h2 (by omega)) ?_
    rintro d S3 ⟨ls, rfl, ht, hn9, h3⟩
    refine k_eq (a := .nx [.val .scr, .val (.ref 0), .val (.list (qs.map spotD)), .val (tellD (p : Int) ls), .un, .un, .un, .un, .un, .un, .un, .un, .un, .un, .un, .un, .un, .un, .un]) (S' := S3) rfl ?_
    refine k_seq (k_eq (a := .nx (env54 (.list (qs.map spotD)) (tellD (p : Int) ls) p .un [] .un .un .un .un .un .un .un .un .un .un .un .un)) (S' := S3) rfl ?_)
    -- the loops
    have loops : Ok (ex (T54 ns) fuel (.for_ (.name 4) (.rng1 (.var 5)) (.cons (.for_ (.name 7) (.rng2 (.bin .add (.var 4) (.int 1)) (.var 5)) turn54) .nil)) (env54 (.list (qs.map spotD)) (tellD (p : Int) ls) p .un [] .un .un .un .un .un .un .un .un .un .un .un .un)) S3 fun e S' => S' = S3 ∧ ∃ f4 so f7 f8 f9 f10 f11 f12 f13 f14 f15 f16 f17 f18, e = .nx (env54 (.list (qs.map spotD)) (tellD (p : Int) ls) p f4 so f7 f8 f9 f10 f11 f12 f13 f14 f15 f16 f17 f18) ∧ so.all (okD 59) = true ∧ (ls = [] → so ≠ []) := by
      rw [ex]
      have hr0 : rngOk 0 (p : Int) = true := by simp only [rngOk, Bool.and_eq_true, decide_eq_true_eq]; omega
      have hr1 : rng1O (.int (p : Int)) = some (rangeD 0 (p : Int)) := by simp only [rng1O, hr0, if_true]
      simp only [evI, ev, getv, List.getElem?_cons_zero, List.getElem?_cons_succ, l_some, k_bind, k_ret, hr1, if_true]
      refine k_for (fun k env S' => S' = S3 ∧ ∃ f4 so f7 f8 f9 f10 f11 f12 f13 f14 f15 f16 f17 f18, env = env54 (.list (qs.map spotD)) (tellD (p : Int) ls) p f4 so f7 f8 f9 f10 f11 f12 f13 f14 f15 f16 f17 f18 ∧ (nown f4 ∧ nown f7 ∧ nown f8 ∧ nown f9 ∧ nown f11 ∧ nown f12 ∧ nown f13 ∧ nown f14 ∧ nown f15 ∧ nown f16 ∧ nown f17 ∧ nown f18) ∧ so.length ≤ 9 * k ∧ so.all (okD 59) = true ∧ (ls = [] → 0 < k → so ≠ [])) ⟨rfl, .un, [], .un, .un, .un, .un, .un, .un, .un, .un, .un, .un, .un, .un, rfl, ⟨nown_un, nown_un, nown_un, nown_un, nown_un, nown_un, nown_un, nown_un, nown_un, nown_un, nown_un, nown_un⟩, by simp, rfl, fun _ h => absurd h (by omega)⟩ ?_ ?_
      · rintro i d env S5 hd ⟨rfl, f4, so, f7, f8, f9, f10, f11, f12, f13, f14, f15, f16, f17, f18, rfl, ⟨n4, n7, n8, n9, n11, n12, n13, n14, n15, n16, n17, n18⟩, hlen, hok, hne⟩
        obtain ⟨rfl, hip⟩ := range_get hd
        rw [Int.zero_add] at hip ⊢
        have u4 := un_name (i := 4) (d := .int (i : Int)) (env := env54 (.list (qs.map spotD)) (tellD (p : Int) ls) p f4 so f7 f8 f9 f10 f11 f12 f13 f14 f15 f16 f17 f18) rfl n4
        simp only [u4]
        refine k_seq ?_
        rw [ex]
        have hr0 : rngOk ((i : Int) + 1) (p : Int) = true := by simp only [rngOk, Bool.and_eq_true, decide_eq_true_eq]; omega
        have hr2 : rng2O (.int ((i : Int) + 1)) (.int (p : Int)) = some (rangeD ((i : Int) + 1) (p : Int)) := by simp only [rng2O, hr0, if_true]
        simp only [List.set_cons_succ, List.set_cons_zero, evI, ev, getv, List.getElem?_cons_zero, List.getElem?_cons_succ, l_some, k_bind, k_ret, o_add, hr2, if_true]
        refine k_for (fun k env S' => S' = S5 ∧ ∃ so' f7 f8 f9 f10 f11 f12 f13 f14 f15 f16 f17 f18, env = env54 (.list (qs.map spotD)) (tellD (p : Int) ls) p (.val (.int (i : Int))) so' f7 f8 f9 f10 f11 f12 f13 f14 f15 f16 f17 f18 ∧ (nown f7 ∧ nown f8 ∧ nown f9 ∧ nown f11 ∧ nown f12 ∧ nown f13 ∧ nown f14 ∧ nown f15 ∧ nown f16 ∧ nown f17 ∧ nown f18) ∧ so'.length ≤ 9 * i + k ∧ so.length ≤ so'.length ∧ so'.all (okD 59) = true ∧ (ls = [] → 0 < k → so' ≠ [])) ⟨rfl, so, f7, f8, f9, f10, f11, f12, f13, f14, f15, f16, f17, f18, rfl, ⟨n7, n8, n9, n11, n12, n13, n14, n15, n16, n17, n18⟩, hlen, Nat.le_refl _, hok, fun _ h => absurd h (by omega)⟩ ?_ ?_
        · rintro k d env S'' hd ⟨rfl, so', f7, f8, f9, f10, f11, f12, f13, f14, f15, f16, f17, f18, rfl, ⟨n7, n8, n9, n11, n12, n13, n14, n15, n16, n17, n18⟩, hlen', hge, hok', hne'⟩
          obtain ⟨rfl, hjp⟩ := range_get hd
          have i2 : (i : Int) + 1 + (k : Nat) = ((i + 1 + k : Nat) : Int) := by omega
          rw [i2] at hjp ⊢
          have u7 := un_name (i := 7) (d := .int ((i + 1 + k : Nat) : Int)) (env := env54 (.list (qs.map spotD)) (tellD (p : Int) ls) p (.val (.int (i : Int))) so' f7 f8 f9 f10 f11 f12 f13 f14 f15 f16 f17 f18) rfl n7
          simp only [u7]
          obtain ⟨so2, g8, g9, g10, g11, g12, g13, g14, g15, g16, g17, g18, et, ⟨m8, m9, m11, m12, m13, m14, m15, m16, m17, m18⟩, ha, hb, hok2, hc⟩ := turn54_ok ns (.list (qs.map spotD)) p i (i + 1 + k) ls so' f8 f9 f10 f11 f12 f13 f14 f15 f16 f17 f18 ht hn9 (by omega) (by omega) (by omega) (by omega) n8 n9 n11 n12 n13 n14 n15 n16 n17 n18 S''
          exact k_eq et ⟨_, rfl, rfl, so2, _, g8, g9, g10, g11, g12, g13, g14, g15, g16, g17, g18, rfl, ⟨nown_val _, m8, m9, m11, m12, m13, m14, m15, m16, m17, m18⟩, by omega, by omega, hok2 hok', fun he _ => hc he⟩
        · rintro env S'' ⟨rfl, so', f7, f8, f9, f10, f11, f12, f13, f14, f15, f16, f17, f18, rfl, ⟨n7, n8, n9, n11, n12, n13, n14, n15, n16, n17, n18⟩, hlen', hge, hok', hne'⟩
          have hrl : (rangeD ((i : Int) + 1) (p : Int)).length = p - 1 - i := by
            unfold rangeD
            rw [List.length_map, List.length_range]; omega
          rw [hrl] at hlen' hne'
          refine k_ret.mpr ⟨_, rfl, rfl, _, so', f7, f8, f9, f10, f11, f12, f13, f14, f15, f16, f17, f18, rfl, ⟨nown_val _, n7, n8, n9, n11, n12, n13, n14, n15, n16, n17, n18⟩, by omega, hok', fun he _ => ?_⟩
          by_cases hi0 : i = 0
          · exact hne' he (by omega)
          · have := hne he (by omega)
            intro e0
            rw [e0] at hge
            exact this (List.length_eq_zero_iff.mp (by simpa using hge))
      · rintro env S' ⟨rfl, f4, so, f7, f8, f9, f10, f11, f12, f13, f14, f15, f16, f17, f18, rfl, _, _, hok, hne⟩
        have hrl : (rangeD 0 (p : Int)).length = p := by
          unfold rangeD
          rw [List.length_map, List.length_range]; omega
        rw [hrl] at hne
        exact ⟨rfl, f4, so, f7, f8, f9, f10, f11, f12, f13, f14, f15, f16, f17, f18, rfl, hok, fun he => hne he (by omega)⟩
    refine k_seq (k_mono loops ?_)
    rintro e S4 ⟨rfl, f4, so, f7, f8, f9, f10, f11, f12, f13, f14, f15, f16, f17, f18, rfl, hok, hne⟩
    -- the end
    obtain ⟨⟨_, _⟩, hn16, hl⟩ := tell_parts ht
    obtain ⟨sols, e24, hB⟩ := F24_ex ns p ls (by omega) (by omega) hn16 hl S4
    have e38 := F38_of ns p ls ht e24
    refine k_seq (k_eq (a := .rt (.bool true)) (S' := S4) ?_ ?_)
    rotate_left
    · exact k_ret.mpr rfl
    rw [ex]
    refine (b_ok (a := .bool true) (S' := S4) ?_).trans rfl
    have hol : okD 60 (.list so) = true := hok
    have ho0 : okD 60 (.list []) = true := rfl
    have hlt : cmpop .lt (.int (sols.length : Nat)) (.int (2 * (p : Int) - 2)) = some (decide (((sols.length : Nat) : Int) < 2 * (p : Int) - 2)) := rfl
    have m3 : binop .mul (.int 2) (.int (p : Int)) = some (.int (2 * (p : Int))) := o_mul (mul_sm (by decide) (by omega))
    cases hso : so with
    | nil =>
      have hls : ls ≠ [] := fun he => hne he hso
      have hless := hB.less hls
      have hd : decide (((sols.length : Nat) : Int) < 2 * (p : Int) - 2) = true := decide_eq_true (by omega)
      rw [hd] at hlt
      have c0 : cmpop .ne (.list []) (.list []) = some false := by kernel_rfl
      simp only [ev, evs, evOr, evO, getb, getv, List.getElem?_cons_zero, List.getElem?_cons_succ, l_some, b_ret, hz0, if_true, c0, Option.map_some, t_b, Bool.false_eq_true, if_false, hT38]
      refine (b_ok e38).trans ?_
      simp only [m3, o_sub, l_some, b_ret, hlt, Option.map_some]
      rfl
    | cons x xs =>
      rw [hso] at hol
      have heq : eqD (.list (x :: xs)) (.list []) = false := rfl
      have c0 : cmpop .ne (.list (x :: xs)) (.list []) = some true := by
        simp only [cmpop, eqO, hol, ho0, Bool.and_self, if_true, heq, Option.map_some, Bool.not_false]
      simp only [ev, evs, evOr, evO, getb, getv, List.getElem?_cons_zero, List.getElem?_cons_succ, l_some, b_ret, hz0, if_true, c0, Option.map_some, t_b]
      rfl
  obtain ⟨d, S', e, rfl⟩ := key
  exact ⟨S', e⟩
theorem whole : PySem.Challenge.rw_slopeshapes_k21_open_pairs.Holds := holds good
end K21

theorem PySem.Challenge.cw_slopeshapes_k21_open_pairs_holds : PySem.Challenge.rw_slopeshapes_k21_open_pairs.Holds :=
  K21.whole
