import PyProof.Rows.All
import Wide.All
import OpenK.AllK
import Wide.FinOn
import HandS.ForMost
import HandS.Star
import HandS.Conv
import HandS.Exc
import HandS.Strs
import HandS.SetFor
import HandS.TupAny
import HandS.TupMul
import HandS.Lambda
import HandS.HeadHook4
import HandS.Style
import HandS.Defaults
import HandS.HeadHook1
import HandS.HeadHook2
import KE.GoesEnum
import KE.GoesZip
import HandS.More
import HandS.Flt
import HandS.Text
import HandS.IsInst
import KE.KTupSum
import PyProof.ReprRoads
import HandS.CallLocal
import PyProof.P3Eq
import HandS.Dict
import KE.KDictZip
import HandS.Nested
import HandS.SortKw
import HandS.Ends
import HandS.Words
import HandS.WordsExc
import HandS.Head0
import HandS.Head1
import HandS.Head2
import HandS.HeadEnd
import HandS.HeadHook3
import HandS.EndTab
import HandS.EndBits
import HandS.HeadWalk
import PySem.Challenge.RW_floorkeepers_k46_whole_best_and_worst_ke
set_option Elab.async false
section
set_option autoImplicit false
set_option linter.all false
namespace FK

/-! ### words as functions of the place -/
def Word (n : Nat) (f : Nat → Int) : Prop := f 0 = 0 ∧ ∀ d, d < n → f d ≤ f (d + 1) ∧ f (d + 1) ≤ f d + 1
theorem Word.mono {n : Nat} {f : Nat → Int} (h : Word n f) {a : Nat} : ∀ {b : Nat}, a ≤ b → b ≤ n → f a ≤ f b ∧ f b ≤ f a + ((b : Int) - (a : Int)) := by
  intro b
  induction b with
  | zero => intro h1 _; obtain rfl : a = 0 := by omega
            omega
  | succ b ih =>
    intro h1 h2
    by_cases hc : a = b + 1
    · subst hc; omega
    · have i := ih (by omega) (by omega)
      have s := h.2 b (by omega)
      omega
theorem Word.lo {n : Nat} {f : Nat → Int} (h : Word n f) {d : Nat} (hd : d ≤ n) : 0 ≤ f d ∧ f d ≤ (d : Int) := by
  have := h.mono (Nat.zero_le d) hd
  have h0 := h.1
  omega
def Nest (n : Nat) (f g : Nat → Int) : Prop := ∀ a b, a ≤ b → b ≤ n → f b - f a ≤ g b - g a
theorem nest_of {n : Nat} {f g : Nat → Int} (h : ∀ d, d < n → f (d + 1) - f d ≤ g (d + 1) - g d) : Nest n f g := by
  intro a b
  induction b with
  | zero => intro h1 _; obtain rfl : a = 0 := by omega
            omega
  | succ b ih =>
    intro h1 h2
    by_cases hc : a = b + 1
    · subst hc; omega
    · have i := ih (by omega) (by omega)
      have s := h b (by omega)
      omega
def takeHit (f : Nat → Int) (e : Nat) : Nat → Int := fun d => if d ≤ e then f d else max (f e) (f (d + 1) - 1)
def takeMiss (f : Nat → Int) (e : Nat) : Nat → Int := fun d => if d < e then max (f d) (f (e + 1) - ((e : Int) - (d : Int))) else f (d + 1)
def rowHit (f : Nat → Int) (e : Nat) : Nat → Int := fun d => if d ≤ e then f d else f (d + 1) - 1
def rowMiss (f : Nat → Int) (e : Nat) : Nat → Int := fun d => if d < e then f d else f (d + 1)
def lost (f : Nat → Int) : Nat → Int := fun d => max 0 (f d - 1)
def front (f : Nat → Int) : Nat → Int := fun d => match d with
  | 0 => 0
  | d + 1 => f d + 1

theorem word_hit {n e : Nat} {f : Nat → Int} (h : Word (n + 1) f) (he : e ≤ n) (hf : f e < f (n + 1)) : Word n (takeHit f e) ∧ takeHit f e n = f (n + 1) - 1 := by
  refine ⟨⟨?_, fun d hd => ?_⟩, ?_⟩
  · simp only [takeHit]; rw [if_pos (Nat.zero_le e)]; exact h.1
  · have a := h.2 d (by omega)
    have b := h.2 (d + 1) (by omega)
    simp only [takeHit]
    by_cases h1 : d ≤ e
    · rw [if_pos h1]
      by_cases h2 : d + 1 ≤ e
      · rw [if_pos h2]; omega
      · rw [if_neg h2]
        obtain rfl : d = e := by omega
        omega
    · rw [if_neg h1, if_neg (by omega)]
      omega
  · simp only [takeHit]
    have a := h.2 n (by omega)
    by_cases h1 : n ≤ e
    · obtain rfl : n = e := by omega
      rw [if_pos h1]; omega
    · rw [if_neg h1]; omega
theorem word_miss {n e : Nat} {f : Nat → Int} (h : Word (n + 1) f) (he : e ≤ n) (hf : f (e + 1) ≤ (e : Int)) : Word n (takeMiss f e) ∧ takeMiss f e n = f (n + 1) := by
  refine ⟨⟨?_, fun d hd => ?_⟩, ?_⟩
  · simp only [takeMiss]
    have h0 := h.1
    by_cases h1 : 0 < e
    · rw [if_pos h1]; omega
    · rw [if_neg h1]
      obtain rfl : e = 0 := by omega
      have a := h.2 0 (by omega)
      simp only [Nat.zero_add] at *
      omega
  · have a := h.2 d (by omega)
    have b := h.2 (d + 1) (by omega)
    simp only [takeMiss]
    by_cases h1 : d < e
    · rw [if_pos h1]
      by_cases h2 : d + 1 < e
      · rw [if_pos h2]; omega
      · rw [if_neg h2]
        obtain rfl : e = d + 1 := by omega
        omega
    · rw [if_neg h1, if_neg (by omega)]
      omega
  · simp only [takeMiss]
    rw [if_neg (by omega)]
theorem word_lost {n : Nat} {f : Nat → Int} (h : Word n f) : Word n (lost f) := by
  refine ⟨?_, fun d hd => ?_⟩
  · simp only [lost]; have := h.1; omega
  · have a := h.2 d hd
    simp only [lost]; omega
theorem word_front {n : Nat} {f : Nat → Int} (h : Word n f) : Word (n + 1) (front f) := by
  refine ⟨rfl, fun d hd => ?_⟩
  cases d with
  | zero => simp only [front]; have := h.1; omega
  | succ d => have a := h.2 d (by omega); simp only [front]; omega

theorem nest_hh {n e : Nat} {f g : Nat → Int} (hf : Word (n + 1) f) (hg : Word (n + 1) g) (h : Nest (n + 1) f g) (he : e ≤ n) : Nest n (takeHit f e) (takeHit g e) := by
  refine nest_of fun d hd => ?_
  simp only [takeHit]
  have a := h d (d + 1) (by omega) (by omega)
  have b := h (d + 1) (d + 1 + 1) (by omega) (by omega)
  have f1 := hf.2 d (by omega)
  have f2 := hf.2 (d + 1) (by omega)
  have g1 := hg.2 d (by omega)
  have g2 := hg.2 (d + 1) (by omega)
  by_cases h1 : d ≤ e
  · rw [if_pos h1, if_pos h1]
    by_cases h2 : d + 1 ≤ e
    · rw [if_pos h2, if_pos h2]; exact a
    · rw [if_neg h2, if_neg h2]
      obtain rfl : d = e := by omega
      omega
  · rw [if_neg h1, if_neg h1, if_neg (by omega), if_neg (by omega)]
    have c := h e (d + 1) (by omega) (by omega)
    omega
theorem nest_mm {n e : Nat} {f g : Nat → Int} (hf : Word (n + 1) f) (hg : Word (n + 1) g) (h : Nest (n + 1) f g) (he : e ≤ n) : Nest n (takeMiss f e) (takeMiss g e) := by
  refine nest_of fun d hd => ?_
  simp only [takeMiss]
  have a := h d (d + 1) (by omega) (by omega)
  have b := h (d + 1) (d + 1 + 1) (by omega) (by omega)
  have f1 := hf.2 d (by omega)
  have f2 := hf.2 (d + 1) (by omega)
  have g1 := hg.2 d (by omega)
  have g2 := hg.2 (d + 1) (by omega)
  by_cases h1 : d < e
  · rw [if_pos h1, if_pos h1]
    have c := h d (e + 1) (by omega) (by omega)
    have f3 := hf.mono (a := d + 1) (b := e) (by omega) (by omega)
    have g3 := hg.mono (a := d + 1) (b := e) (by omega) (by omega)
    have f4 := hf.2 e (by omega)
    have g4 := hg.2 e (by omega)
    by_cases h2 : d + 1 < e
    · rw [if_pos h2, if_pos h2]; omega
    · rw [if_neg h2, if_neg h2]
      obtain rfl : e = d + 1 := by omega
      omega
  · rw [if_neg h1, if_neg h1, if_neg (by omega), if_neg (by omega)]
    exact b
/-- the boundary: beyond floor i - 1, within floor i -/
theorem nest_mh {n e : Nat} {f g : Nat → Int} (hf : Word (n + 1) f) (hg : Word (n + 1) g) (h : Nest (n + 1) f g) (he : e ≤ n) (hb : f e = f (n + 1) ∨ g (e + 1) = (e : Int) + 1) : Nest n (takeMiss f e) (takeHit g e) := by
  refine nest_of fun d hd => ?_
  simp only [takeMiss, takeHit]
  have a := h d (d + 1) (by omega) (by omega)
  have b := h (d + 1) (d + 1 + 1) (by omega) (by omega)
  have f1 := hf.2 d (by omega)
  have f2 := hf.2 (d + 1) (by omega)
  have g1 := hg.2 d (by omega)
  have g2 := hg.2 (d + 1) (by omega)
  rcases hb with hb | hb
  · -- f is at its end at e
    have k : ∀ b, e ≤ b → b ≤ n + 1 → f b = f (n + 1) := fun b h1 h2 => by
      have u := hf.mono (a := e) (b := b) h1 h2
      have v := hf.mono (a := b) (b := n + 1) h2 (Nat.le_refl _)
      omega
    have k1 := k (e + 1) (by omega) (by omega)
    by_cases h1 : d < e
    · rw [if_pos h1, if_pos (Nat.le_of_lt h1)]
      have f3 := hf.mono (a := d) (b := e) (by omega) (by omega)
      have f4 := hf.mono (a := d + 1) (b := e) (by omega) (by omega)
      by_cases h2 : d + 1 < e
      · rw [if_pos h2, if_pos (by omega)]; omega
      · rw [if_neg h2, if_pos (by omega)]
        obtain rfl : e = d + 1 := by omega
        omega
    · rw [if_neg h1, if_neg (by omega)]
      have k2 := k (d + 1) (by omega) (by omega)
      have k3 := k (d + 1 + 1) (by omega) (by omega)
      by_cases h2 : d ≤ e
      · rw [if_pos h2, if_neg (by omega)]
        obtain rfl : d = e := by omega
        omega
      · rw [if_neg h2, if_neg (by omega)]
        have g3 := hg.mono (a := e) (b := d + 1) (by omega) (by omega)
        omega
  · -- g is full up to e
    have k : ∀ b, b ≤ e + 1 → g b = (b : Int) := fun b h1 => by
      have u := hg.mono (a := b) (b := e + 1) h1 (by omega)
      have v := hg.lo (d := b) (by omega)
      omega
    by_cases h1 : d < e
    · rw [if_pos h1, if_pos (Nat.le_of_lt h1), if_pos (show d + 1 ≤ e by omega)]
      have k1 := k d (by omega)
      have k2 := k (d + 1) (by omega)
      by_cases h2 : d + 1 < e
      · rw [if_pos h2]; omega
      · rw [if_neg h2]
        obtain rfl : e = d + 1 := by omega
        omega
    · rw [if_neg h1, if_neg (by omega)]
      have k1 := k e (by omega)
      have k2 := k (e + 1) (by omega)
      by_cases h2 : d ≤ e
      · obtain rfl : d = e := by omega
        rw [if_pos h2, if_neg (by omega)]
        have g3 := hg.2 (d + 1) (by omega)
        omega
      · rw [if_neg h2, if_neg (by omega)]
        have g3 := hg.mono (a := e + 1) (b := d + 1) (by omega) (by omega)
        omega
theorem nest_ll {n : Nat} {f g : Nat → Int} (hf : Word n f) (hg : Word n g) (h : Nest n f g) : Nest n (lost f) (lost g) := by
  refine nest_of fun d hd => ?_
  simp only [lost]
  have a := h d (d + 1) (by omega) (by omega)
  have b := h 0 d (by omega) (by omega)
  have f1 := hf.2 d hd
  have g1 := hg.2 d hd
  have f0 := hf.1
  have g0 := hg.1
  omega
theorem nest_l {n : Nat} {f g : Nat → Int} (hf : Word n f) (h : Nest n f g) : Nest n (lost f) g := by
  refine nest_of fun d hd => ?_
  simp only [lost]
  have a := h d (d + 1) (by omega) (by omega)
  have f1 := hf.2 d hd
  omega
theorem nest_front {n : Nat} {f g : Nat → Int} (hf : Word n f) (hg : Word n g) (h : Nest n f g) : Nest (n + 1) (front f) (front g) := by
  refine nest_of fun d hd => ?_
  cases d with
  | zero => simp only [front]; have := hf.1; have := hg.1; omega
  | succ d => have a := h d (d + 1) (by omega) (by omega); simp only [front]; omega

/-! ### what `stepped` reckons: F on the way on, G on the way back -/
structure Stp (N : Nat) (row : Nat → Int) (s : Int) (F G : Nat → Int) : Prop where
  f0 : F 0 = max 0 (max (row 0) (s - N))
  fs : ∀ d, d < N → F (d + 1) = max (F d) (max (row (d + 1)) (s - N + ((d : Int) + 1)))
  gN : G N = F N
  gs : ∀ d, d < N → G d = max (F d) (G (d + 1) - 1)
theorem stp_hit {n e : Nat} {f : Nat → Int} (h : Word (n + 1) f) (he : e ≤ n) (hf : f e < f (n + 1)) : Stp n (rowHit f e) (f (n + 1) - 1) (takeHit f e) (takeHit f e) := by
  obtain ⟨hw, hN⟩ := word_hit h he hf
  refine ⟨?_, fun d hd => ?_, rfl, fun d hd => ?_⟩
  · simp only [takeHit, rowHit, if_pos (Nat.zero_le e)]
    have a := h.mono (a := 0) (b := n + 1) (by omega) (Nat.le_refl _)
    have := h.1
    omega
  · simp only [takeHit, rowHit]
    have a := h.2 d (by omega)
    have b := h.2 (d + 1) (by omega)
    have c := h.mono (a := d + 1 + 1) (b := n + 1) (by omega) (Nat.le_refl _)
    have c2 := h.mono (a := d + 1) (b := n + 1) (by omega) (Nat.le_refl _)
    by_cases h1 : d + 1 ≤ e
    · rw [if_pos h1, if_pos h1, if_pos (show d ≤ e by omega)]; omega
    · rw [if_neg h1, if_neg h1]
      by_cases h2 : d ≤ e
      · obtain rfl : d = e := by omega
        rw [if_pos h2]; omega
      · rw [if_neg h2]; omega
  · have a := hw.2 d hd
    omega
def fMiss (n : Nat) (f : Nat → Int) (e : Nat) : Nat → Int := fun d => max (rowMiss f e d) (f (n + 1) - (n : Int) + (d : Int))
theorem stp_miss {n e : Nat} {f : Nat → Int} (h : Word (n + 1) f) (he : e ≤ n) (hf : f (e + 1) ≤ (e : Int)) : Stp n (rowMiss f e) (f (n + 1)) (fMiss n f e) (takeMiss f e) := by
  refine ⟨?_, fun d hd => ?_, ?_, fun d hd => ?_⟩
  · simp only [rowMiss, fMiss]
    have a := h.mono (a := 0) (b := n + 1) (by omega) (Nat.le_refl _)
    have a1 := h.mono (a := 1) (b := n + 1) (by omega) (Nat.le_refl _)
    have h0 := h.1
    have h1 := h.2 0 (by omega)
    simp only [Nat.zero_add] at h1 ⊢
    split <;> omega
  · simp only [rowMiss, fMiss]
    have a := h.2 d (by omega)
    have b := h.2 (d + 1) (by omega)
    have c := h.mono (a := d + 1 + 1) (b := n + 1) (by omega) (Nat.le_refl _)
    by_cases h1 : d + 1 < e
    · rw [if_pos h1, if_pos (show d < e by omega)]; omega
    · rw [if_neg h1]
      by_cases h2 : d < e
      · rw [if_pos h2]; omega
      · rw [if_neg h2]; omega
  · simp only [rowMiss, takeMiss, fMiss]
    rw [if_neg (by omega), if_neg (by omega)]
    omega
  · simp only [rowMiss, takeMiss, fMiss]
    have a := h.2 d (by omega)
    have b := h.2 (d + 1) (by omega)
    have c := h.mono (a := d + 1) (b := n + 1) (by omega) (Nat.le_refl _)
    have c1 := h.mono (a := e + 1) (b := n + 1) (by omega) (Nat.le_refl _)
    by_cases h1 : d < e
    · rw [if_pos h1, if_pos h1]
      by_cases h2 : d + 1 < e
      · rw [if_pos h2]; omega
      · rw [if_neg h2]
        obtain rfl : e = d + 1 := by omega
        omega
    · rw [if_neg h1, if_neg h1, if_neg (by omega)]
      omega
end FK
end
section
set_option autoImplicit false
set_option linter.all false
namespace FK

/-! ### the first of so many -/
def ff (p : Nat → Bool) : Nat → Nat
  | 0 => 0
  | m + 1 => if p 0 then 0 else ff (fun j => p (j + 1)) m + 1
theorem ff_le : ∀ (m : Nat) (p : Nat → Bool), ff p m ≤ m
  | 0, _ => Nat.le_refl 0
  | m + 1, p => by
    unfold ff
    split
    · omega
    · have := ff_le m (fun j => p (j + 1)); omega
theorem ff_no : ∀ (m : Nat) (p : Nat → Bool) (j : Nat), j < ff p m → p j = false
  | 0, _, j, h => by unfold ff at h; omega
  | m + 1, p, j, h => by
    unfold ff at h
    by_cases h0 : p 0 = true
    · rw [if_pos h0] at h; omega
    · rw [if_neg h0] at h
      cases j with
      | zero => simpa using h0
      | succ j => exact ff_no m (fun j => p (j + 1)) j (by omega)
theorem ff_yes : ∀ (m : Nat) (p : Nat → Bool), ff p m < m → p (ff p m) = true
  | 0, _, h => by omega
  | m + 1, p, h => by
    unfold ff at h ⊢
    by_cases h0 : p 0 = true
    · rw [if_pos h0]; exact h0
    · rw [if_neg h0] at h ⊢
      exact ff_yes m (fun j => p (j + 1)) (by omega)
theorem ff_eq {m i : Nat} {p : Nat → Bool} (h1 : i ≤ m) (h2 : ∀ j, j < i → p j = false) (h3 : i < m → p i = true) : ff p m = i := by
  have a := ff_le m p
  have b := ff_no m p
  have c := ff_yes m p
  by_cases k1 : ff p m < i
  · have := c (by omega)
    rw [h2 _ k1] at this; cases this
  · by_cases k2 : i < ff p m
    · have u := b i k2
      rw [h3 (by omega)] at u; cases u
    · omega

/-! ### knowledges -/
structure Kn where
  order : List Nat
  W : Nat → Nat → Int
def RW (r : Nat → Nat) : Nat → Int
  | 0 => (r 0 : Int)
  | j + 1 => RW r j + (r (j + 1) : Int)
theorem RW_nonneg (r : Nat → Nat) : ∀ j, 0 ≤ RW r j
  | 0 => by unfold RW; omega
  | j + 1 => by have := RW_nonneg r j; unfold RW; omega
theorem RW_pos {r : Nat → Nat} (h : 1 ≤ r 0) : ∀ j, 1 ≤ RW r j
  | 0 => by unfold RW; omega
  | j + 1 => by have := RW_pos h j; unfold RW; omega
structure KOk (n m : Nat) (r : Nat → Nat) (K : Kn) : Prop where
  perm : K.order.Perm (List.range n)
  word : ∀ j, j < m → Word n (K.W j)
  nest : ∀ j, j + 1 < m → Nest n (K.W j) (K.W (j + 1))
  room0 : K.W 0 n ≤ r 0
  room : ∀ j, j + 1 < m → K.W (j + 1) n ≤ K.W j n + r (j + 1)
  mpos : 0 < m
  rpos : 1 ≤ r 0
theorem KOk.nodup {n m : Nat} {r : Nat → Nat} {K : Kn} (h : KOk n m r K) : K.order.Nodup := h.perm.nodup_iff.mpr List.nodup_range
theorem KOk.len {n m : Nat} {r : Nat → Nat} {K : Kn} (h : KOk n m r K) : K.order.length = n := by rw [h.perm.length_eq, List.length_range]
theorem KOk.mem {n m : Nat} {r : Nat → Nat} {K : Kn} (h : KOk n m r K) {x : Nat} : x ∈ K.order ↔ x < n := by rw [h.perm.mem_iff, List.mem_range]
theorem KOk.size_le {n m : Nat} {r : Nat → Nat} {K : Kn} (h : KOk n m r K) : ∀ j, j < m → K.W j n ≤ RW r j
  | 0, _ => h.room0
  | j + 1, hj => by
    have a := h.size_le j (by omega)
    have b := h.room j hj
    unfold RW; omega
/-- a floor that is filled up has filled up ones ahead of it -/
theorem KOk.full_down {n m : Nat} {r : Nat → Nat} {K : Kn} (h : KOk n m r K) {j : Nat} (hj : j + 1 < m) (e : K.W (j + 1) n = RW r (j + 1)) : K.W j n = RW r j := by
  have a := h.size_le j (by omega)
  have b := h.room j hj
  unfold RW at e; omega
theorem KOk.mono {n m : Nat} {r : Nat → Nat} {K : Kn} (h : KOk n m r K) {j d : Nat} (hj : j + 1 < m) (hd : d ≤ n) : K.W j d ≤ K.W (j + 1) d ∧ K.W (j + 1) d - K.W j d ≤ K.W (j + 1) n - K.W j n := by
  have a := h.nest j hj 0 d (by omega) hd
  have b := h.nest j hj d n hd (Nat.le_refl _)
  have c := (h.word j (by omega)).1
  have e := (h.word (j + 1) hj).1
  omega
/-- a law of neighbours holds of all -/
theorem up {m : Nat} {P : Nat → Nat → Prop} (h0 : ∀ j, j < m → P j j) (hs : ∀ j k, j ≤ k → k + 1 < m → P j k → P j (k + 1)) : ∀ j k, j ≤ k → k < m → P j k := by
  intro j k
  induction k with
  | zero => intro h1 h2; obtain rfl : j = 0 := by omega
            exact h0 0 h2
  | succ k ih =>
    intro h1 h2
    by_cases hc : j = k + 1
    · subst hc; exact h0 _ h2
    · exact hs j k (by omega) h2 (ih (by omega) (by omega))

def placeOf (K : Kn) (x : Nat) : Nat := K.order.idxOf x
def Wt (K : Kn) (e i j : Nat) : Nat → Int := if i ≤ j then takeHit (K.W j) e else takeMiss (K.W j) e
def sz (K : Kn) (n i j : Nat) : Int := if i ≤ j then K.W j n - 1 else K.W j n
def full (K : Kn) (n : Nat) (r : Nat → Nat) (i j : Nat) : Prop := j < i ∧ K.W j n = RW r j
instance {K : Kn} {n : Nat} {r : Nat → Nat} {i j : Nat} : Decidable (full K n r i j) := inferInstanceAs (Decidable (_ ∧ _))
def Wn (K : Kn) (n : Nat) (r : Nat → Nat) (e i j : Nat) : Nat → Int := front (if full K n r i j then lost (Wt K e i j) else Wt K e i j)
def ledK (n : Nat) (r : Nat → Nat) (K : Kn) (x i : Nat) : Kn := ⟨x :: K.order.erase x, Wn K n r (placeOf K x) i⟩
structure Can (n m : Nat) (K : Kn) (e i : Nat) : Prop where
  le : i ≤ m
  lo : ∀ j, j < m → j < i → K.W j (e + 1) ≤ (e : Int)
  hi : ∀ j, j < m → i ≤ j → K.W j e < K.W j n
  bd : ∀ j, j + 1 = i → i < m → K.W j e = K.W j n ∨ K.W (j + 1) (e + 1) = (e : Int) + 1

section
variable {n m e i x : Nat} {r : Nat → Nat} {K : Kn}
theorem wt_word (h : KOk (n + 1) m r K) (he : e ≤ n) (c : Can (n + 1) m K e i) {j : Nat} (hj : j < m) : Word n (Wt K e i j) ∧ Wt K e i j n = sz K (n + 1) i j := by
  unfold Wt sz
  by_cases hc : i ≤ j
  · rw [if_pos hc, if_pos hc]
    exact word_hit (h.word j hj) he (c.hi j hj hc)
  · rw [if_neg hc, if_neg hc]
    exact word_miss (h.word j hj) he (c.lo j hj (by omega))
theorem wt_nest (h : KOk (n + 1) m r K) (he : e ≤ n) (c : Can (n + 1) m K e i) {j : Nat} (hj : j + 1 < m) : Nest n (Wt K e i j) (Wt K e i (j + 1)) := by
  have w1 := h.word j (by omega)
  have w2 := h.word (j + 1) hj
  have ne := h.nest j hj
  unfold Wt
  by_cases h1 : i ≤ j
  · rw [if_pos h1, if_pos (by omega)]
    exact nest_hh w1 w2 ne he
  · rw [if_neg h1]
    by_cases h2 : i ≤ j + 1
    · rw [if_pos h2]
      exact nest_mh w1 w2 ne he (c.bd j (by omega) (by omega))
    · rw [if_neg h2]
      exact nest_mm w1 w2 ne he
theorem full_down (h : KOk n m r K) {j : Nat} (hj : j + 1 < m) (f : full K n r i (j + 1)) : full K n r i j := ⟨by have := f.1; omega, h.full_down hj f.2⟩
theorem led_ok (h : KOk (n + 1) m r K) (hx : x < n + 1) (he : placeOf K x = e) (c : Can (n + 1) m K e i) : KOk (n + 1) m r (ledK (n + 1) r K x i) := by
  have hel : e ≤ n := by
    have := List.idxOf_lt_length_of_mem (h.mem.mpr hx)
    rw [h.len] at this
    unfold placeOf at he
    omega
  have hsz : ∀ j, j < m → (ledK (n + 1) r K x i).W j (n + 1) = if j < i then (if K.W j (n + 1) = RW r j then K.W j (n + 1) else K.W j (n + 1) + 1) else K.W j (n + 1) := fun j hj => by
    have w := wt_word h hel c hj
    have p := RW_pos h.rpos j
    show Wn K (n + 1) r (placeOf K x) i j (n + 1) = _
    rw [he]
    unfold Wn
    show (if full K (n + 1) r i j then lost (Wt K e i j) else Wt K e i j) n + 1 = _
    have u := w.2
    unfold sz at u
    by_cases h1 : j < i
    · rw [if_pos h1]
      rw [if_neg (by omega)] at u
      by_cases h2 : K.W j (n + 1) = RW r j
      · rw [if_pos (show full K (n + 1) r i j from ⟨h1, h2⟩), if_pos h2]
        simp only [lost]
        omega
      · rw [if_neg (show ¬ full K (n + 1) r i j from fun z => h2 z.2), if_neg h2]
        omega
    · rw [if_neg h1, if_neg (show ¬ full K (n + 1) r i j from fun z => h1 z.1)]
      rw [if_pos (by omega)] at u
      omega
  refine ⟨?_, fun j hj => ?_, fun j hj => ?_, ?_, fun j hj => ?_, h.mpos, h.rpos⟩
  · exact (List.perm_cons_erase (h.mem.mpr hx)).symm.trans h.perm
  · have w := wt_word h hel c hj
    show Word (n + 1) (Wn K (n + 1) r (placeOf K x) i j)
    rw [he]
    unfold Wn
    refine word_front ?_
    split
    · exact word_lost w.1
    · exact w.1
  · have w1 := wt_word h hel c (j := j) (by omega)
    have w2 := wt_word h hel c hj
    have ne := wt_nest h hel c hj
    show Nest (n + 1) (Wn K (n + 1) r (placeOf K x) i j) (Wn K (n + 1) r (placeOf K x) i (j + 1))
    rw [he]
    unfold Wn
    by_cases h1 : full K (n + 1) r i j
    · by_cases h2 : full K (n + 1) r i (j + 1)
      · rw [if_pos h1, if_pos h2]
        exact nest_front (word_lost w1.1) (word_lost w2.1) (nest_ll w1.1 w2.1 ne)
      · rw [if_pos h1, if_neg h2]
        exact nest_front (word_lost w1.1) w2.1 (nest_l w1.1 ne)
    · rw [if_neg h1, if_neg (fun z => h1 (full_down h hj z))]
      exact nest_front w1.1 w2.1 ne
  · rw [hsz 0 h.mpos]
    have a := h.room0
    have e0 : RW r 0 = (r 0 : Int) := rfl
    split
    · split <;> omega
    · exact a
  · rw [hsz j (by omega), hsz (j + 1) hj]
    have a := h.room j hj
    have s1 := h.size_le j (by omega)
    have s2 := h.size_le (j + 1) hj
    have fd := h.full_down hj
    have e1 : RW r (j + 1) = RW r j + (r (j + 1) : Int) := rfl
    by_cases h1 : j + 1 < i
    · rw [if_pos h1, if_pos (show j < i by omega)]
      by_cases h2 : K.W (j + 1) (n + 1) = RW r (j + 1)
      · rw [if_pos h2, if_pos (fd h2)]; omega
      · rw [if_neg h2]
        split <;> omega
    · rw [if_neg h1]
      split
      · split <;> omega
      · exact a
theorem led_size (h : KOk (n + 1) m r K) (hx : x < n + 1) (he : placeOf K x = e) (c : Can (n + 1) m K e i) {j : Nat} (hj : j < m) :
    (ledK (n + 1) r K x i).W j (n + 1) = if j < i then (if K.W j (n + 1) = RW r j then K.W j (n + 1) else K.W j (n + 1) + 1) else K.W j (n + 1) := by
  have hel : e ≤ n := by
    have := List.idxOf_lt_length_of_mem (h.mem.mpr hx)
    rw [h.len] at this
    unfold placeOf at he
    omega
  have w := wt_word h hel c hj
  have p := RW_pos h.rpos j
  show Wn K (n + 1) r (placeOf K x) i j (n + 1) = _
  rw [he]
  unfold Wn
  show (if full K (n + 1) r i j then lost (Wt K e i j) else Wt K e i j) n + 1 = _
  have u := w.2
  unfold sz at u
  by_cases h1 : j < i
  · rw [if_pos h1]
    rw [if_neg (by omega)] at u
    by_cases h2 : K.W j (n + 1) = RW r j
    · rw [if_pos (show full K (n + 1) r i j from ⟨h1, h2⟩), if_pos h2]
      simp only [lost]
      omega
    · rw [if_neg (show ¬ full K (n + 1) r i j from fun z => h2 z.2), if_neg h2]
      omega
  · rw [if_neg h1, if_neg (show ¬ full K (n + 1) r i j from fun z => h1 z.1)]
    rw [if_pos (by omega)] at u
    omega
/-! ### the choice of a floor -/
def leastF (m : Nat) (n : Nat) (K : Kn) (e : Nat) : Nat := ff (fun j => decide (K.W j e < K.W j n)) m
def greatF (m : Nat) (K : Kn) (e : Nat) : Nat := ff (fun j => decide (K.W j (e + 1) = (e : Int) + 1)) m
def pick (g : Bool) (m n : Nat) (K : Kn) (e : Nat) : Nat := if g then greatF m K e else leastF m n K e
theorem least_can (h : KOk (n + 1) m r K) (he : e ≤ n) : Can (n + 1) m K e (leastF m (n + 1) K e) := by
  unfold leastF
  have no := ff_no m (fun j => decide (K.W j e < K.W j (n + 1)))
  have yes := ff_yes m (fun j => decide (K.W j e < K.W j (n + 1)))
  have le := ff_le m (fun j => decide (K.W j e < K.W j (n + 1)))
  generalize ff (fun j => decide (K.W j e < K.W j (n + 1))) m = i at *
  have fin : ∀ j, j < m → j < i → K.W j e = K.W j (n + 1) := fun j hm hj => by
    have a := of_decide_eq_false (no j hj)
    have b := (h.word j hm).mono (a := e) (b := n + 1) (by omega) (Nat.le_refl _)
    omega
  refine ⟨le, fun j hm hj => ?_, fun j hm hj => ?_, fun j hj hi => .inl (fin j (by omega) (by omega))⟩
  · have a := fin j hm hj
    have b := (h.word j hm).mono (a := e) (b := e + 1) (by omega) (by omega)
    have c := (h.word j hm).mono (a := e + 1) (b := n + 1) (by omega) (Nat.le_refl _)
    have d := (h.word j hm).lo (d := e) (by omega)
    omega
  · have y := of_decide_eq_true (yes (by omega))
    refine up (m := m) (P := fun a b => K.W a e < K.W a (n + 1) → K.W b e < K.W b (n + 1)) (fun _ _ z => z) (fun j k _ hk q z => ?_) i j hj hm y
    have a := q z
    have b := h.mono (d := e) hk (by omega)
    omega
theorem great_can (h : KOk (n + 1) m r K) (he : e ≤ n) : Can (n + 1) m K e (greatF m K e) := by
  unfold greatF
  have no := ff_no m (fun j => decide (K.W j (e + 1) = (e : Int) + 1))
  have yes := ff_yes m (fun j => decide (K.W j (e + 1) = (e : Int) + 1))
  have le := ff_le m (fun j => decide (K.W j (e + 1) = (e : Int) + 1))
  generalize ff (fun j => decide (K.W j (e + 1) = (e : Int) + 1)) m = i at *
  refine ⟨le, fun j hm hj => ?_, fun j hm hj => ?_, fun j hj hi => .inr ?_⟩
  · have a := of_decide_eq_false (no j hj)
    have b := (h.word j hm).lo (d := e + 1) (by omega)
    omega
  · have y := of_decide_eq_true (yes (by omega))
    have z : K.W j (e + 1) = (e : Int) + 1 := by
      refine up (m := m) (P := fun a b => K.W a (e + 1) = (e : Int) + 1 → K.W b (e + 1) = (e : Int) + 1) (fun _ _ z => z) (fun j k _ hk q z => ?_) i j hj hm y
      have a := q z
      have b := h.mono (d := e + 1) hk (by omega)
      have c := (h.word (k + 1) hk).lo (d := e + 1) (by omega)
      omega
    have b := (h.word j hm).lo (d := e) (by omega)
    have c := (h.word j hm).mono (a := e + 1) (b := n + 1) (by omega) (Nat.le_refl _)
    omega
  · have y := of_decide_eq_true (yes (by omega))
    rw [hj]; exact y
theorem pick_can (g : Bool) (h : KOk (n + 1) m r K) (he : e ≤ n) : Can (n + 1) m K e (pick g m (n + 1) K e) := by
  cases g with
  | false => exact least_can h he
  | true => exact great_can h he
end
end FK
end
section
set_option autoImplicit false
set_option linter.all false
namespace FK

/-! ### what the tightening over the floors asks -/
structure Tight (m N : Nat) (s : Nat → Int) (G : Nat → Nat → Int) : Prop where
  s0 : 0 ≤ s 0
  sm : ∀ j, j < m → s j ≤ N
  up : ∀ j, j + 1 < m → s j ≤ s (j + 1)
  mono : ∀ j d, j + 1 < m → d ≤ N → G j d ≤ G (j + 1) d
  gap : ∀ j d, j + 1 < m → d ≤ N → G (j + 1) d - (s (j + 1) - s j) ≤ G j d
  pl : ∀ j d, j < m → d ≤ N → G j d ≤ (d : Int)
  sz : ∀ j d, j < m → d ≤ N → G j d ≤ s j
section
variable {n m e i x : Nat} {r : Nat → Nat} {K : Kn}
def rowT (K : Kn) (e i j : Nat) : Nat → Int := if i ≤ j then rowHit (K.W j) e else rowMiss (K.W j) e
def fT (K : Kn) (n e i j : Nat) : Nat → Int := if i ≤ j then takeHit (K.W j) e else fMiss n (K.W j) e
theorem stp_T (h : KOk (n + 1) m r K) (he : e ≤ n) (c : Can (n + 1) m K e i) {j : Nat} (hj : j < m) : Stp n (rowT K e i j) (sz K (n + 1) i j) (fT K n e i j) (Wt K e i j) := by
  unfold rowT fT Wt sz
  by_cases hc : i ≤ j
  · simp only [if_pos hc]
    exact stp_hit (h.word j hj) he (c.hi j hj hc)
  · simp only [if_neg hc]
    exact stp_miss (h.word j hj) he (c.lo j hj (by omega))
theorem tight_T (h : KOk (n + 1) m r K) (he : e ≤ n) (c : Can (n + 1) m K e i) : Tight m n (sz K (n + 1) i) (Wt K e i) := by
  have w : ∀ j, j < m → Word n (Wt K e i j) ∧ Wt K e i j n = sz K (n + 1) i j := fun j hj => wt_word h he c hj
  have ne : ∀ j, j + 1 < m → Nest n (Wt K e i j) (Wt K e i (j + 1)) := fun j hj => wt_nest h he c hj
  generalize Wt K e i = G at *
  generalize sz K (n + 1) i = s at *
  refine ⟨?_, fun j hj => ?_, fun j hj => ?_, fun j d hj hd => ?_, fun j d hj hd => ?_, fun j d hj hd => ?_, fun j d hj hd => ?_⟩
  · have a := w 0 h.mpos
    have b := a.1.lo (Nat.le_refl n)
    omega
  · have a := w j hj
    have b := a.1.lo (Nat.le_refl n)
    omega
  · have a := w j (by omega)
    have b := w (j + 1) hj
    have c := ne j hj 0 n (Nat.zero_le _) (Nat.le_refl _)
    have := a.1.1
    have := b.1.1
    omega
  · have a := w j (by omega)
    have b := w (j + 1) hj
    have c := ne j hj 0 d (Nat.zero_le _) hd
    have := a.1.1
    have := b.1.1
    omega
  · have a := w j (by omega)
    have b := w (j + 1) hj
    have c := ne j hj d n hd (Nat.le_refl _)
    omega
  · exact ((w j hj).1.lo hd).2
  · have a := w j hj
    have b := a.1.mono hd (Nat.le_refl n)
    omega
end

/-! ### counts -/
def cp (p : Nat → Bool) (l : List Nat) (d : Nat) : Int := ((l.take d).countP p : Nat)
theorem cp_split {p : Nat → Bool} {a b : List Nat} {x : Nat} (d : Nat) :
    (d ≤ a.length → cp p (a ++ x :: b) d = cp p (a ++ b) d) ∧ (a.length ≤ d → cp p (a ++ x :: b) (d + 1) = cp p (a ++ b) d + (if p x = true then 1 else 0)) := by
  unfold cp
  refine ⟨fun h => ?_, fun h => ?_⟩
  · rw [List.take_append_of_le_length h, List.take_append_of_le_length h]
  · obtain ⟨k, rfl⟩ : ∃ k, d = a.length + k := ⟨d - a.length, by omega⟩
    rw [List.take_append, List.take_append, List.take_of_length_le (l := a) (by omega), List.take_of_length_le (l := a) (by omega)]
    rw [show a.length + k + 1 - a.length = k + 1 by omega, show a.length + k - a.length = k by omega, List.take_succ_cons, List.countP_append, List.countP_append, List.countP_cons]
    split <;> omega
theorem cp_mono {p q : Nat → Bool} {l : List Nat} (h : ∀ y ∈ l, p y = true → q y = true) (d : Nat) : cp p l d ≤ cp q l d := by
  unfold cp
  have := List.countP_mono_left (l := l.take d) (p := p) (q := q) fun y hy => h y (List.mem_of_mem_take hy)
  omega
theorem cp_congr {p q : Nat → Bool} {l : List Nat} (h : ∀ y ∈ l, p y = q y) (d : Nat) : cp p l d = cp q l d := by
  unfold cp
  rw [List.countP_congr fun y hy => by rw [h y (List.mem_of_mem_take hy)]]
theorem cp_step {p : Nat → Bool} {l : List Nat} (d : Nat) (h : d < l.length) : cp p l d ≤ cp p l (d + 1) ∧ cp p l (d + 1) ≤ cp p l d + 1 := by
  unfold cp
  rw [List.take_succ, List.countP_append]
  have : (l[d]?.toList.countP p) ≤ 1 := by
    have := List.countP_le_length (p := p) (l := l[d]?.toList)
    cases hh : l[d]? with
    | none => simp
    | some v => rw [hh] at this; simpa using this
  omega
theorem cp_word {p : Nat → Bool} {l : List Nat} : Word l.length (cp p l) := ⟨by unfold cp; simp, fun d hd => cp_step d hd⟩
/-- one thing is taken off -/
theorem count_off {p q : Nat → Bool} {z : Nat} : ∀ {l : List Nat}, l.Nodup → z ∈ l → p z = true → (∀ y ∈ l, q y = (p y && decide (y ≠ z))) → l.countP q + 1 = l.countP p
  | [], _, h, _, _ => by simp at h
  | a :: l, nd, h, hp, hq => by
    rw [List.countP_cons, List.countP_cons]
    have nd' := List.nodup_cons.mp nd
    by_cases e : a = z
    · subst e
      have hqa : q a = false := by rw [hq a (by simp)]; simp
      have : l.countP q = l.countP p := List.countP_congr fun y hy => by
        rw [hq y (by simp [hy])]
        have : y ≠ a := fun e => nd'.1 (e ▸ hy)
        simp [this]
      have e0 : (if q a = true then 1 else 0) = 0 := by rw [hqa]; rfl
      rw [e0, if_pos hp]
      omega
    · have hz : z ∈ l := by
        rcases List.mem_cons.mp h with h | h
        · exact absurd h.symm e
        · exact h
      have ih := count_off nd'.2 hz hp fun y hy => hq y (by simp [hy])
      have : q a = p a := by rw [hq a (by simp)]; simp [e]
      rw [this]
      split <;> omega
theorem count_off_le {p q : Nat → Bool} {z : Nat} : ∀ {l : List Nat}, l.Nodup → (∀ y ∈ l, q y = (p y && decide (y ≠ z))) → l.countP p ≤ l.countP q + 1 ∧ l.countP q ≤ l.countP p
  | [], _, _ => by simp
  | a :: l, nd, hq => by
    rw [List.countP_cons, List.countP_cons]
    have nd' := List.nodup_cons.mp nd
    by_cases e : a = z
    · subst e
      have hqa : q a = false := by rw [hq a (by simp)]; simp
      have : l.countP q = l.countP p := List.countP_congr fun y hy => by
        rw [hq y (by simp [hy])]
        have : y ≠ a := fun e => nd'.1 (e ▸ hy)
        simp [this]
      have e0 : (if q a = true then 1 else 0) = 0 := by rw [hqa]; rfl
      rw [e0]
      split <;> omega
    · have ih := count_off_le nd'.2 fun y hy => hq y (by simp [hy])
      have : q a = p a := by rw [hq a (by simp)]; simp [e]
      rw [this]
      split <;> omega
/-- one thing is put on -/
theorem count_on {p q : Nat → Bool} {z : Nat} {l : List Nat} (nd : l.Nodup) (hz : z ∈ l) (hp : p z = false) (hq : ∀ y ∈ l, q y = (p y || decide (y = z))) : l.countP q = l.countP p + 1 := by
  have := count_off (p := q) (q := p) nd hz (by rw [hq z hz]; simp) fun y hy => by
    rw [hq y hy]
    by_cases e : y = z
    · subst e; simp [hp]
    · simp [e]
  omega

/-! ### one ask -/
/-- how many things stand within a floor -/
def cw (n : Nat) (st : Nat → Nat) (j : Nat) : Int := ((List.range n).countP (fun y => decide (st y ≤ j)) : Nat)
def inJ (st : Nat → Nat) (j : Nat) : Nat → Bool := fun y => decide (st y ≤ j)
/-- what an ask of x does within floor j -/
def StepJ (n : Nat) (st st' : Nat → Nat) (x j : Nat) (fl : Prop) : Prop :=
  (st x ≤ j ∧ ∀ y, y < n → (st' y ≤ j ↔ st y ≤ j)) ∨ (j < st x ∧ ¬ fl ∧ ∀ y, y < n → (st' y ≤ j ↔ st y ≤ j ∨ y = x)) ∨
  (j < st x ∧ fl ∧ ∃ z, z < n ∧ z ≠ x ∧ st z ≤ j ∧ ∀ y, y < n → (st' y ≤ j ↔ (st y ≤ j ∨ y = x) ∧ y ≠ z))
theorem order_split {o : List Nat} {x : Nat} (nd : o.Nodup) (hx : x ∈ o) : ∃ a b, o = a ++ x :: b ∧ o.erase x = a ++ b ∧ o.idxOf x = a.length ∧ x ∉ a ++ b := by
  obtain ⟨a, b, ha, e1, e2⟩ := List.exists_erase_eq hx
  refine ⟨a, b, e1, e2, ?_, ?_⟩
  · rw [e1, List.idxOf_append, if_neg ha, List.idxOf_cons_self, Nat.zero_add]
  · rw [e1] at nd
    have h1 := (List.nodup_append.mp nd)
    intro h
    rcases List.mem_append.mp h with h | h
    · exact ha h
    · exact (List.nodup_cons.mp h1.2.1).1 h
/-- the counts ahead of an ask and behind it, over the things without the asked one -/
structure Cnt (n e : Nat) (S S' c c' : Nat → Int) (px : Int) (R : Int) : Prop where
  lo : ∀ d, d ≤ e → S d = c d
  hi : ∀ d, e ≤ d → d ≤ n → S (d + 1) = c d + px
  cw : Word n c
  cw' : Word n c'
  s0 : S' 0 = 0
  s' : ∀ d, d ≤ n → S' (d + 1) = 1 + c' d
  way : (px = 1 ∧ ∀ d, d ≤ n → c' d = c d) ∨ (px = 0 ∧ S (n + 1) ≠ R ∧ ∀ d, d ≤ n → c' d = c d) ∨ (px = 0 ∧ S (n + 1) = R ∧ (∀ d, d ≤ n → c d ≤ c' d + 1 ∧ c' d ≤ c d) ∧ c' n + 1 = c n)
theorem cnt_of {n x j : Nat} {o : List Nat} {st st' : Nat → Nat} {R : Int} (ho : o.Perm (List.range (n + 1))) (hx : x < n + 1) (hs' : st' x ≤ j) (h : StepJ (n + 1) st st' x j (cw (n + 1) st j = R)) :
    Cnt n (o.idxOf x) (cp (inJ st j) o) (cp (inJ st' j) (x :: o.erase x)) (cp (inJ st j) (o.erase x)) (cp (inJ st' j) (o.erase x)) (if st x ≤ j then 1 else 0) R := by
  have nd : o.Nodup := ho.nodup_iff.mpr List.nodup_range
  have hm : x ∈ o := ho.mem_iff.mpr (List.mem_range.mpr hx)
  have hl : o.length = n + 1 := by rw [ho.length_eq, List.length_range]
  have hle : (o.erase x).length = n := by rw [List.length_erase_of_mem hm, hl]; rfl
  have hnd : (o.erase x).Nodup := nd.erase x
  obtain ⟨a, b, e1, e2, e3, e4⟩ := order_split nd hm
  have hlt : ∀ y, y ∈ o.erase x → y < n + 1 ∧ y ≠ x := fun y hy => ⟨List.mem_range.mp (ho.mem_iff.mp (List.mem_of_mem_erase hy)), fun z => by rw [z, e2] at hy; exact e4 hy⟩
  have hS : cp (inJ st j) o (n + 1) = cw (n + 1) st j := by
    unfold cp cw inJ
    rw [← hl, List.take_length, hl]
    rw [ho.countP_eq]
  refine ⟨fun d hd => ?_, fun d hd hd2 => ?_, ?_, ?_, ?_, fun d hd => ?_, ?_⟩
  · rw [e3] at hd
    rw [e2, e1]
    exact (cp_split d).1 hd
  · rw [e3] at hd
    rw [e2, e1, (cp_split d).2 hd]
    unfold inJ
    by_cases k : st x ≤ j
    · simp [k]
    · simp [k]
  · rw [← hle]; exact cp_word
  · rw [← hle]; exact cp_word
  · unfold cp; simp
  · unfold cp inJ
    rw [List.take_succ_cons, List.countP_cons, if_pos (by simpa using hs')]
    omega
  · rcases h with ⟨h1, h2⟩ | ⟨h1, h2, h3⟩ | ⟨h1, h2, z, hz, hzx, hzj, h3⟩
    · refine .inl ⟨if_pos h1, fun d _ => cp_congr (fun y hy => ?_) d⟩
      unfold inJ
      exact decide_eq_decide.mpr (h2 y (hlt y hy).1)
    · refine .inr (.inl ⟨if_neg (by omega), by rw [hS]; exact h2, fun d _ => cp_congr (fun y hy => ?_) d⟩)
      unfold inJ
      refine decide_eq_decide.mpr ((h3 y (hlt y hy).1).trans ⟨fun q => ?_, .inl⟩)
      rcases q with q | q
      · exact q
      · exact absurd q (hlt y hy).2
    · have hq : ∀ y ∈ o.erase x, inJ st' j y = (inJ st j y && decide (y ≠ z)) := fun y hy => by
        unfold inJ
        rw [← Bool.decide_and]
        refine decide_eq_decide.mpr ((h3 y (hlt y hy).1).trans ⟨fun q => ⟨?_, q.2⟩, fun q => ⟨.inl q.1, q.2⟩⟩)
        rcases q.1 with q | q
        · exact q
        · exact absurd q (hlt y hy).2
      refine .inr (.inr ⟨if_neg (by omega), by rw [hS]; exact h2, fun d _ => ?_, ?_⟩)
      · have := count_off_le (p := inJ st j) (q := inJ st' j) (z := z) (l := (o.erase x).take d) (hnd.sublist (List.take_sublist _ _)) fun y hy => hq y (List.mem_of_mem_take hy)
        unfold cp
        omega
      · have hzm : z ∈ o.erase x := (List.mem_erase_of_ne hzx).mpr (ho.mem_iff.mpr (List.mem_range.mpr hz))
        have := count_off (p := inJ st j) (q := inJ st' j) (z := z) hnd hzm (by unfold inJ; exact decide_eq_true hzj) hq
        unfold cp
        rw [← hle, List.take_length]
        omega
end FK
end
section
set_option autoImplicit false
set_option linter.all false
namespace FK

/-! ### the best: no keepers have fewer asks found behind a floor -/
structure BI (n : Nat) (W S : Nat → Int) (R D : Int) : Prop where
  d0 : 0 ≤ D
  sz : S n = W n
  le : W n ≤ R
  dom : ∀ d, d ≤ n → W d - D ≤ S d
  free : W n ≠ R → ∀ d, d ≤ n → W d = min (d : Int) (W n) ∧ S d = min (d : Int) (W n)
/-- the word behind an ask, by whether it is taken for found within -/
def nextW (W : Nat → Int) (n e : Nat) (R : Int) (hit : Bool) : Nat → Int := if hit then front (takeHit W e) else front (if W n = R then lost (takeMiss W e) else takeMiss W e)
theorem best_step {n e : Nat} {W S S' c c' : Nat → Int} {R D px : Int} (w : Word (n + 1) W) (he : e ≤ n) (hR : 1 ≤ R) (b : BI (n + 1) W S R D) (t : Cnt n e S S' c c' px R) :
    BI (n + 1) (nextW W (n + 1) e R (decide (W e < W (n + 1)))) S' R (D + (1 - px) - (if W e < W (n + 1) then 0 else 1)) := by
  obtain ⟨d0, sz, le, dom, free⟩ := b
  have se : S e = c e := t.lo e (Nat.le_refl _)
  have se1 : S (e + 1) = c e + px := t.hi e (Nat.le_refl _) he
  have hcn : S (n + 1) = c n + px := t.hi n he (Nat.le_refl _)
  have de := dom e (by omega)
  have wm1 := w.mono (a := e) (b := n + 1) (by omega) (Nat.le_refl _)
  have cme := t.cw.mono (a := e) (b := n) he (Nat.le_refl _)
  have hpx01 : px = 0 ∨ px = 1 := by
    rcases t.way with ⟨h1, _⟩ | ⟨h1, _⟩ | ⟨h1, _⟩
    · exact .inr h1
    · exact .inl h1
    · exact .inl h1
  by_cases hit : W e < W (n + 1)
  · rw [if_pos hit, decide_eq_true hit]
    obtain ⟨hw, hwn⟩ := word_hit w he hit
    have e1 : nextW W (n + 1) e R true = front (takeHit W e) := rfl
    rw [e1]
    -- in the free case the asked thing is there
    have hfree : W (n + 1) ≠ R → px = 1 := fun z => by
      have a := (free z e (by omega))
      have b := (free z (e + 1) (by omega))
      omega
    have hc' : ∀ d, d ≤ n → c d - (1 - px) ≤ c' d := fun d hd => by
      rcases t.way with ⟨h1, h2⟩ | ⟨h1, _, h2⟩ | ⟨h1, _, h2, _⟩
      · have := h2 d hd; omega
      · have := h2 d hd; omega
      · have := h2 d hd; omega
    have hc'n : c' n = S (n + 1) - 1 := by
      rcases t.way with ⟨h1, h2⟩ | ⟨h1, h3, h2⟩ | ⟨h1, h3, h2, h4⟩
      · have := h2 n (Nat.le_refl _); omega
      · exfalso
        rw [sz] at h3
        have := hfree h3
        omega
      · omega
    refine ⟨?_, ?_, ?_, fun d hd => ?_, fun z d hd => ?_⟩
    · rcases t.way with ⟨h1, _⟩ | ⟨h1, _⟩ | ⟨h1, _⟩ <;> omega
    · show S' (n + 1) = takeHit W e n + 1
      rw [t.s' n (Nat.le_refl _), hc'n, hwn]; omega
    · show takeHit W e n + 1 ≤ R
      omega
    · cases d with
      | zero =>
        show (0 : Int) - _ ≤ _
        rw [t.s0]
        rcases t.way with ⟨h1, _⟩ | ⟨h1, _⟩ | ⟨h1, _⟩ <;> omega
      | succ d =>
        show takeHit W e d + 1 - _ ≤ _
        rw [t.s' d (by omega)]
        have a := hc' d (by omega)
        simp only [takeHit]
        by_cases h1 : d ≤ e
        · rw [if_pos h1]
          have b := t.lo d h1
          have c := dom d (by omega)
          omega
        · rw [if_neg h1]
          have b := t.hi d (by omega) (by omega)
          have c1 := dom (d + 1) (by omega)
          have c2 := t.cw.mono (a := e) (b := d) (by omega) (by omega)
          omega
    · have z2 : W (n + 1) ≠ R := by
        intro y; apply z
        show takeHit W e n + 1 = R
        omega
      have hp := hfree z2
      have hpx : ∀ d, d ≤ n → c' d = c d := fun d hd => by
        rcases t.way with ⟨h1, h2⟩ | ⟨h1, h3, h2⟩ | ⟨h1, h3, h2, h4⟩
        · exact h2 d hd
        · omega
        · omega
      have fn : front (takeHit W e) (n + 1) = W (n + 1) := by
        show takeHit W e n + 1 = _
        omega
      rw [fn]
      cases d with
      | zero =>
        have := (free z2 0 (by omega)).1
        have := w.1
        rw [t.s0]
        show (0 : Int) = _ ∧ _
        omega
      | succ d =>
        show takeHit W e d + 1 = _ ∧ _
        rw [t.s' d (by omega), hpx d (by omega)]
        have f1 := free z2 d (by omega)
        have f2 := free z2 (d + 1) (by omega)
        have f3 := free z2 e (by omega)
        simp only [takeHit]
        by_cases h1 : d ≤ e
        · rw [if_pos h1]
          have b := t.lo d h1
          omega
        · rw [if_neg h1]
          have b := t.hi d (by omega) (by omega)
          omega
  · rw [if_neg hit, decide_eq_false hit]
    have hend : W e = W (n + 1) := by omega
    have hfin : ∀ d, e ≤ d → d ≤ n + 1 → W d = W (n + 1) := fun d h1 h2 => by
      have a := w.mono (a := e) (b := d) h1 h2
      have b := w.mono (a := d) (b := n + 1) h2 (Nat.le_refl _)
      omega
    have hWe1 := hfin (e + 1) (by omega) (by omega)
    -- the word without x
    have htm : ∀ d, d ≤ n → takeMiss W e d = if d < e then W d else W (d + 1) := fun d hd => by
      simp only [takeMiss]
      by_cases h1 : d < e
      · rw [if_pos h1, if_pos h1]
        have a := w.mono (a := d) (b := e) (by omega) (by omega)
        omega
      · rw [if_neg h1, if_neg h1]
    have e1 : nextW W (n + 1) e R false = front (if W (n + 1) = R then lost (takeMiss W e) else takeMiss W e) := rfl
    rw [e1]
    by_cases hfull : W (n + 1) = R
    · rw [if_pos hfull]
      have hc'n : c' n + 1 = S (n + 1) := by
        rcases t.way with ⟨h1, h2⟩ | ⟨h1, h3, h2⟩ | ⟨h1, h3, h2, h4⟩
        · have := h2 n (Nat.le_refl _); omega
        · exact absurd (sz.trans hfull) h3
        · omega
      have hc0 : ∀ d, d ≤ n → 0 ≤ c' d := fun d hd => (t.cw'.lo hd).1
      have hD : px = 1 → 1 ≤ D := fun z => by omega
      have hln : lost (takeMiss W e) n = R - 1 := by
        simp only [lost]
        rw [htm n (Nat.le_refl _), if_neg (by omega)]
        omega
      have fn : front (lost (takeMiss W e)) (n + 1) = R := by
        show lost (takeMiss W e) n + 1 = R
        omega
      refine ⟨?_, ?_, ?_, fun d hd => ?_, fun z => absurd fn z⟩
      · rcases t.way with ⟨h1, _⟩ | ⟨h1, _⟩ | ⟨h1, _⟩
        · have := hD h1; omega
        · omega
        · omega
      · rw [fn, t.s' n (Nat.le_refl _)]; omega
      · rw [fn]; omega
      · cases d with
        | zero =>
          show (0 : Int) - _ ≤ _
          rw [t.s0]
          rcases t.way with ⟨h1, _⟩ | ⟨h1, _⟩ | ⟨h1, _⟩
          · have := hD h1; omega
          · omega
          · omega
        | succ d =>
          show lost (takeMiss W e) d + 1 - _ ≤ _
          rw [t.s' d (by omega)]
          simp only [lost]
          rw [htm d (by omega)]
          have k0 := hc0 d (by omega)
          have hD1 : 0 ≤ D + (1 - px) - 1 := by
            rcases t.way with ⟨h1, _⟩ | ⟨h1, _⟩ | ⟨h1, _⟩
            · have := hD h1; omega
            · omega
            · omega
          have hcd : c d ≤ c' d + (1 - px) := by
            rcases t.way with ⟨h1, h2⟩ | ⟨h1, h3, h2⟩ | ⟨h1, h3, h2, h4⟩
            · have := h2 d (by omega); omega
            · have := h2 d (by omega); omega
            · have := h2 d (by omega); omega
          by_cases h1 : d < e
          · rw [if_pos h1]
            have b := t.lo d (by omega)
            have c1 := dom d (by omega)
            omega
          · rw [if_neg h1]
            have b := t.hi d (by omega) (by omega)
            have c1 := hfin (d + 1) (by omega) (by omega)
            have c2 := t.cw.mono (a := e) (b := d) (by omega) (by omega)
            omega
    · rw [if_neg hfull]
      have f1 := free hfull e (by omega)
      have f2 := free hfull (e + 1) (by omega)
      have hp : px = 0 := by omega
      have hpx : ∀ d, d ≤ n → c' d = c d := fun d hd => by
        rcases t.way with ⟨h1, h2⟩ | ⟨h1, h3, h2⟩ | ⟨h1, h3, h2, h4⟩
        · exact h2 d hd
        · exact h2 d hd
        · exact absurd (sz.symm.trans h3) hfull
      have fn : front (takeMiss W e) (n + 1) = W (n + 1) + 1 := by
        show takeMiss W e n + 1 = _
        rw [htm n (Nat.le_refl _), if_neg (by omega)]
      have key : ∀ d, d ≤ n + 1 → front (takeMiss W e) d = min (d : Int) (W (n + 1) + 1) ∧ S' d = min (d : Int) (W (n + 1) + 1) := fun d hd => by
        cases d with
        | zero =>
          rw [t.s0]
          show (0 : Int) = _ ∧ _
          have := (w.lo (Nat.le_refl (n + 1))).1
          omega
        | succ d =>
          show takeMiss W e d + 1 = _ ∧ _
          rw [t.s' d (by omega), hpx d (by omega), htm d (by omega)]
          have f3 := free hfull d (by omega)
          have f4 := free hfull (d + 1) (by omega)
          by_cases h1 : d < e
          · rw [if_pos h1]
            have b := t.lo d (by omega)
            omega
          · rw [if_neg h1]
            have b := t.hi d (by omega) (by omega)
            omega
      refine ⟨by omega, ?_, ?_, fun d hd => ?_, fun z d hd => ?_⟩
      · have a := key (n + 1) (Nat.le_refl _)
        omega
      · rw [fn]; omega
      · have a := key d hd
        omega
      · rw [fn]; exact key d hd

/-! ### the worst: no keepers have more -/
/-- nothing was put down | a start of unknown things | only what was asked last is sure -/
def WI (n : Nat) (W S : Nat → Int) (R D : Int) : Prop := 0 ≤ D ∧ S n = W n ∧ W n ≤ R ∧
  ((∀ d, d ≤ n → W d = min (d : Int) (W n) ∧ S d = min (d : Int) (W n)) ∨ (W n = R ∧ R < n ∧ ∀ d, d ≤ n → W d = max 0 (R - ((n : Int) - (d : Int)))) ∨ (W n = R ∧ 2 ≤ n ∧ W 1 = 1 ∧ W 2 = 1 ∧ S 1 = 1))
theorem worst_step {n e : Nat} {W S S' c c' : Nat → Int} {R D px : Int} (w : Word (n + 1) W) (he : e ≤ n) (hR : 1 ≤ R) (b : WI (n + 1) W S R D) (t : Cnt n e S S' c c' px R) :
    WI (n + 1) (nextW W (n + 1) e R (decide (W (e + 1) = (e : Int) + 1))) S' R (D - (1 - px) + (if W (e + 1) = (e : Int) + 1 then 0 else 1)) := by
  obtain ⟨d0, sz, le, way⟩ := b
  have se : S e = c e := t.lo e (Nat.le_refl _)
  have se1 : S (e + 1) = c e + px := t.hi e (Nat.le_refl _) he
  have hcn : S (n + 1) = c n + px := t.hi n he (Nat.le_refl _)
  have hpx01 : px = 0 ∨ px = 1 := by
    rcases t.way with ⟨h1, _⟩ | ⟨h1, _⟩ | ⟨h1, _⟩
    · exact .inr h1
    · exact .inl h1
    · exact .inl h1
  have s1 : S' 1 = 1 := by
    have := t.s' 0 (by omega)
    have h0 := t.cw'.1
    simp only [Nat.zero_add] at this
    omega
  have w0 := w.1
  have wnn := (w.lo (Nat.le_refl (n + 1))).1
  have wst := w.2 0 (by omega)
  simp only [Nat.zero_add] at wst
  -- a full floor behind a miss of the worst: phase (B)
  have toB : W (n + 1) = R → 1 ≤ n → ¬ W (e + 1) = (e : Int) + 1 → 0 ≤ D - (1 - px) + 1 → WI (n + 1) (nextW W (n + 1) e R false) S' R (D - (1 - px) + 1) := fun hfull hn hm hD => by
    have e1 : nextW W (n + 1) e R false = front (lost (takeMiss W e)) := by
      unfold nextW
      rw [if_neg (by simp), if_pos hfull]
    have hlo := (w.lo (d := e + 1) (by omega)).2
    obtain ⟨hw, hwn⟩ := word_miss w he (by omega)
    have fn : front (lost (takeMiss W e)) (n + 1) = R := by
      show lost (takeMiss W e) n + 1 = R
      simp only [lost]
      omega
    have hc'n : c' n + 1 = S (n + 1) := by
      rcases t.way with ⟨h1, h2⟩ | ⟨h1, h3, h2⟩ | ⟨h1, h3, h2, h4⟩
      · have := h2 n (Nat.le_refl _); omega
      · exact absurd (sz.trans hfull) h3
      · omega
    rw [e1]
    refine ⟨hD, ?_, by rw [fn]; omega, .inr (.inr ⟨fn, by omega, ?_, ?_, s1⟩)⟩
    · rw [fn, t.s' n (Nat.le_refl _)]; omega
    · show lost (takeMiss W e) 0 + 1 = 1
      have := hw.1
      simp only [lost]; omega
    · show lost (takeMiss W e) 1 + 1 = 1
      have a := hw.1
      have b := hw.2 0 (by omega)
      simp only [Nat.zero_add] at b
      simp only [lost]; omega
  rcases way with free | ⟨hfull, hRn, hW⟩ | ⟨hfull, hn2, hW1, hW2, hS1⟩
  · have f1 := free e (by omega)
    have f2 := free (e + 1) (by omega)
    have fN := free (n + 1) (Nat.le_refl _)
    by_cases hit : W (e + 1) = (e : Int) + 1
    · rw [if_pos hit, decide_eq_true hit]
      have hp : px = 1 := by omega
      have hpx : ∀ d, d ≤ n → c' d = c d := fun d hd => by
        rcases t.way with ⟨h1, h2⟩ | ⟨h1, h3, h2⟩ | ⟨h1, h3, h2, h4⟩
        · exact h2 d hd
        · omega
        · omega
      have e1 : nextW W (n + 1) e R true = front (takeHit W e) := rfl
      rw [e1]
      have fn : front (takeHit W e) (n + 1) = W (n + 1) := by
        show takeHit W e n + 1 = _
        rw [(word_hit w he (by omega)).2]; omega
      have key : ∀ d, d ≤ n + 1 → front (takeHit W e) d = min (d : Int) (W (n + 1)) ∧ S' d = min (d : Int) (W (n + 1)) := fun d hd => by
        cases d with
        | zero =>
          rw [t.s0]
          show (0 : Int) = _ ∧ _
          omega
        | succ d =>
          show takeHit W e d + 1 = _ ∧ _
          rw [t.s' d (by omega), hpx d (by omega)]
          have f3 := free d (by omega)
          have f4 := free (d + 1) (by omega)
          simp only [takeHit]
          by_cases h1 : d ≤ e
          · rw [if_pos h1]
            have b := t.lo d h1
            omega
          · rw [if_neg h1]
            have b := t.hi d (by omega) (by omega)
            omega
      refine ⟨by omega, ?_, by rw [fn]; exact le, .inl fun d hd => by rw [fn]; exact key d hd⟩
      have := key (n + 1) (Nat.le_refl _)
      omega
    · rw [if_neg hit, decide_eq_false hit]
      have hp : px = 0 := by omega
      by_cases hfull : W (n + 1) = R
      · exact toB hfull (by omega) hit (by omega)
      · have hpx : ∀ d, d ≤ n → c' d = c d := fun d hd => by
          rcases t.way with ⟨h1, h2⟩ | ⟨h1, h3, h2⟩ | ⟨h1, h3, h2, h4⟩
          · exact h2 d hd
          · exact h2 d hd
          · exact absurd (sz.symm.trans h3) hfull
        have e1 : nextW W (n + 1) e R false = front (takeMiss W e) := by
          unfold nextW
          rw [if_neg (by simp), if_neg hfull]
        rw [e1]
        have fn : front (takeMiss W e) (n + 1) = W (n + 1) + 1 := by
          show takeMiss W e n + 1 = _
          rw [(word_miss w he (by omega)).2]
        have key : ∀ d, d ≤ n + 1 → front (takeMiss W e) d = min (d : Int) (W (n + 1) + 1) ∧ S' d = min (d : Int) (W (n + 1) + 1) := fun d hd => by
          cases d with
          | zero =>
            rw [t.s0]
            show (0 : Int) = _ ∧ _
            omega
          | succ d =>
            show takeMiss W e d + 1 = _ ∧ _
            rw [t.s' d (by omega), hpx d (by omega)]
            have f3 := free d (by omega)
            have f4 := free (d + 1) (by omega)
            simp only [takeMiss]
            by_cases h1 : d < e
            · rw [if_pos h1]
              have b := t.lo d (by omega)
              omega
            · rw [if_neg h1]
              have b := t.hi d (by omega) (by omega)
              omega
        refine ⟨by omega, ?_, by rw [fn]; omega, .inl fun d hd => by rw [fn]; exact key d hd⟩
        have := key (n + 1) (Nat.le_refl _)
        omega
  · have hm : ¬ W (e + 1) = (e : Int) + 1 := by
      rw [hW (e + 1) (by omega)]; omega
    rw [if_neg hm, decide_eq_false hm]
    exact toB hfull (by omega) hm (by omega)
  · by_cases h0 : e = 0
    · subst h0
      have hit : W (0 + 1) = ((0 : Nat) : Int) + 1 := by simpa using hW1
      rw [if_pos hit, decide_eq_true hit]
      simp only [Nat.zero_add] at se1
      have s0 := se
      have hp : px = 1 := by
        have c0 := t.cw.1
        omega
      have hpx : ∀ d, d ≤ n → c' d = c d := fun d hd => by
        rcases t.way with ⟨h1, h2⟩ | ⟨h1, h3, h2⟩ | ⟨h1, h3, h2, h4⟩
        · exact h2 d hd
        · omega
        · omega
      have e1 : nextW W (n + 1) 0 R true = front (takeHit W 0) := rfl
      rw [e1]
      have hmn := w.mono (a := 1) (b := n + 1) (by omega) (Nat.le_refl _)
      have fn : front (takeHit W 0) (n + 1) = R := by
        show takeHit W 0 n + 1 = _
        rw [(word_hit w he (by omega)).2]; omega
      refine ⟨by omega, ?_, by rw [fn]; omega, .inr (.inr ⟨fn, hn2, ?_, ?_, s1⟩)⟩
      · rw [fn, t.s' n (Nat.le_refl _), hpx n (Nat.le_refl _)]; omega
      · show takeHit W 0 0 + 1 = 1
        simp only [takeHit, Nat.le_refl, if_true]
        omega
      · show takeHit W 0 1 + 1 = 1
        simp only [takeHit]
        rw [if_neg (by omega)]
        show max (W 0) (W 2 - 1) + 1 = 1
        omega
    · have hm : ¬ W (e + 1) = (e : Int) + 1 := by
        have a := w.mono (a := 2) (b := e + 1) (by omega) (by omega)
        omega
      rw [if_neg hm, decide_eq_false hm]
      exact toB hfull (by omega) hm (by omega)
end FK
end
section
set_option autoImplicit false
set_option linter.all false
namespace FK

/-- a run of asks by any keepers: the states, what is asked, where it is found -/
inductive Tr (n m : Nat) (r : Nat → Nat) : (Nat → Nat) → List Nat → List Nat → Prop
  | nil (st : Nat → Nat) : Tr n m r st [] []
  | cons (st st' : Nat → Nat) (x : Nat) (xs fl : List Nat) : x < n → st' x = 0 → (∀ j, j < m → StepJ n st st' x j (cw n st j = RW r j)) → Tr n m r st' xs fl → Tr n m r st (x :: xs) (st x :: fl)
/-- the pattern of a row: least floors, greatest floors -/
def follow (g : Bool) (n m : Nat) (r : Nat → Nat) : Kn → List Nat → List Nat
  | _, [] => []
  | K, x :: xs => pick g m n K (placeOf K x) :: follow g n m r (ledK n r K x (pick g m n K (placeOf K x))) xs
def ledAll (g : Bool) (n m : Nat) (r : Nat → Nat) : Kn → List Nat → Kn
  | K, [] => K
  | K, x :: xs => ledAll g n m r (ledK n r K x (pick g m n K (placeOf K x))) xs
theorem place_lt {n m : Nat} {r : Nat → Nat} {K : Kn} {x : Nat} (h : KOk (n + 1) m r K) (hx : x < n + 1) : placeOf K x ≤ n := by
  have := List.idxOf_lt_length_of_mem (h.mem.mpr hx)
  rw [h.len] at this
  unfold placeOf
  omega
theorem pick_ok (g : Bool) {n m : Nat} {r : Nat → Nat} {K : Kn} {x : Nat} (h : KOk (n + 1) m r K) (hx : x < n + 1) : KOk (n + 1) m r (ledK (n + 1) r K x (pick g m (n + 1) K (placeOf K x))) :=
  led_ok h hx rfl (pick_can g h (place_lt h hx))
theorem least_iff {n m e j : Nat} {r : Nat → Nat} {K : Kn} (h : KOk (n + 1) m r K) (he : e ≤ n) (hj : j < m) : leastF m (n + 1) K e ≤ j ↔ K.W j e < K.W j (n + 1) := by
  have c := least_can h he
  refine ⟨fun q => c.hi j hj q, fun q => ?_⟩
  by_cases k : leastF m (n + 1) K e ≤ j
  · exact k
  · have := ff_no m (fun j => decide (K.W j e < K.W j (n + 1))) j (by unfold leastF at k; omega)
    exact absurd q (of_decide_eq_false this)
theorem great_iff {n m e j : Nat} {r : Nat → Nat} {K : Kn} (h : KOk (n + 1) m r K) (he : e ≤ n) (hj : j < m) : greatF m K e ≤ j ↔ K.W j (e + 1) = (e : Int) + 1 := by
  have c := great_can h he
  refine ⟨fun q => ?_, fun q => ?_⟩
  · have y := ff_yes m (fun j => decide (K.W j (e + 1) = (e : Int) + 1)) (by unfold greatF at q; omega)
    refine up (m := m) (P := fun a b => K.W a (e + 1) = (e : Int) + 1 → K.W b (e + 1) = (e : Int) + 1) (fun _ _ z => z) (fun j k _ hk q z => ?_) _ j q hj (of_decide_eq_true y)
    have a := q z
    have b := h.mono (d := e + 1) hk (by omega)
    have c := (h.word (k + 1) hk).lo (d := e + 1) (by omega)
    omega
  · by_cases k : greatF m K e ≤ j
    · exact k
    · have := ff_no m (fun j => decide (K.W j (e + 1) = (e : Int) + 1)) j (by unfold greatF at k; omega)
      exact absurd q (of_decide_eq_false this)
theorem led_next {n e i j : Nat} {r : Nat → Nat} {K : Kn} {x : Nat} (he : placeOf K x = e) : (ledK n r K x i).W j = nextW (K.W j) n e (RW r j) (decide (i ≤ j)) := by
  show Wn K n r (placeOf K x) i j = _
  rw [he]
  unfold Wn nextW Wt
  by_cases h : i ≤ j
  · rw [if_neg (show ¬ full K n r i j from fun z => by have := z.1; omega), if_pos h, decide_eq_true h, if_pos rfl]
  · rw [if_neg h, decide_eq_false h, if_neg (show ¬ (false = true) by simp)]
    by_cases k : K.W j n = RW r j
    · rw [if_pos (show full K n r i j from ⟨by omega, k⟩), if_pos k]
    · rw [if_neg (show ¬ full K n r i j from fun z => k z.2), if_neg k]
def behind (l : List Nat) (j : Nat) : Int := (l.countP (fun i => decide (j < i)) : Nat)
theorem behind_cons (i : Nat) (l : List Nat) (j : Nat) : behind (i :: l) j = behind l j + (if j < i then 1 else 0) := by
  unfold behind
  rw [List.countP_cons]
  by_cases h : j < i
  · simp [h]
  · simp [h]
theorem best_le {n m : Nat} {r : Nat → Nat} : ∀ {row fl : List Nat} {K : Kn} {st : Nat → Nat} {D : Nat → Int}, KOk (n + 1) m r K → Tr (n + 1) m r st row fl → (∀ j, j < m → BI (n + 1) (K.W j) (cp (inJ st j) K.order) (RW r j) (D j)) →
    ∀ j, j < m → behind (follow false (n + 1) m r K row) j ≤ D j + behind fl j
  | _, _, K, st, D, h, .nil _, b => fun j hj => by
    have := (b j hj).d0
    show (0 : Int) ≤ D j + 0
    omega
  | _, _, K, st, D, h, .cons _ st' x xs fl hx hx0 hs t, b => fun j hj => by
    have he := place_lt h hx
    have ih := best_le (K := ledK (n + 1) r K x (pick false m (n + 1) K (placeOf K x))) (D := fun j => D j + (1 - (if st x ≤ j then 1 else 0)) - (if K.W j (placeOf K x) < K.W j (n + 1) then 0 else 1)) (pick_ok false h hx) t (fun j hj => ?_) j hj
    · show behind (pick false m (n + 1) K (placeOf K x) :: follow false (n + 1) m r (ledK (n + 1) r K x (pick false m (n + 1) K (placeOf K x))) xs) j ≤ D j + behind (st x :: fl) j
      rw [behind_cons, behind_cons]
      have li : pick false m (n + 1) K (placeOf K x) ≤ j ↔ _ := least_iff h he hj
      by_cases h1 : pick false m (n + 1) K (placeOf K x) ≤ j
      · rw [if_pos (li.mp h1)] at ih
        rw [if_neg (Nat.not_lt.mpr h1)]
        by_cases h2 : st x ≤ j
        · rw [if_pos h2] at ih
          rw [if_neg (by omega)]; omega
        · rw [if_neg h2] at ih
          rw [if_pos (by omega)]; omega
      · rw [if_neg (fun z => h1 (li.mpr z))] at ih
        rw [if_pos (by omega)]
        by_cases h2 : st x ≤ j
        · rw [if_pos h2] at ih
          rw [if_neg (by omega)]; omega
        · rw [if_neg h2] at ih
          rw [if_pos (by omega)]; omega
    · have c := cnt_of h.perm hx (by omega) (hs j hj)
      have q := best_step (h.word j hj) he (RW_pos h.rpos j) (b j hj) c
      rw [led_next rfl]
      have e : decide (pick false m (n + 1) K (placeOf K x) ≤ j) = decide (K.W j (placeOf K x) < K.W j (n + 1)) := decide_eq_decide.mpr (least_iff h he hj)
      rw [e]
      exact q
theorem worst_ge {n m : Nat} {r : Nat → Nat} : ∀ {row fl : List Nat} {K : Kn} {st : Nat → Nat} {D : Nat → Int}, KOk (n + 1) m r K → Tr (n + 1) m r st row fl → (∀ j, j < m → WI (n + 1) (K.W j) (cp (inJ st j) K.order) (RW r j) (D j)) →
    ∀ j, j < m → behind fl j ≤ D j + behind (follow true (n + 1) m r K row) j
  | _, _, K, st, D, h, .nil _, b => fun j hj => by
    have := (b j hj).1
    show (0 : Int) ≤ D j + 0
    omega
  | _, _, K, st, D, h, .cons _ st' x xs fl hx hx0 hs t, b => fun j hj => by
    have he := place_lt h hx
    have ih := worst_ge (K := ledK (n + 1) r K x (pick true m (n + 1) K (placeOf K x))) (D := fun j => D j - (1 - (if st x ≤ j then 1 else 0)) + (if K.W j (placeOf K x + 1) = (placeOf K x : Int) + 1 then 0 else 1)) (pick_ok true h hx) t (fun j hj => ?_) j hj
    · show behind (st x :: fl) j ≤ D j + behind (pick true m (n + 1) K (placeOf K x) :: follow true (n + 1) m r (ledK (n + 1) r K x (pick true m (n + 1) K (placeOf K x))) xs) j
      rw [behind_cons, behind_cons]
      have li : pick true m (n + 1) K (placeOf K x) ≤ j ↔ _ := great_iff h he hj
      by_cases h1 : pick true m (n + 1) K (placeOf K x) ≤ j
      · rw [if_pos (li.mp h1)] at ih
        rw [if_neg (Nat.not_lt.mpr h1)]
        by_cases h2 : st x ≤ j
        · rw [if_pos h2] at ih
          rw [if_neg (by omega)]; omega
        · rw [if_neg h2] at ih
          rw [if_pos (by omega)]; omega
      · rw [if_neg (fun z => h1 (li.mpr z))] at ih
        rw [if_pos (show j < pick true m (n + 1) K (placeOf K x) by omega)]
        by_cases h2 : st x ≤ j
        · rw [if_pos h2] at ih
          rw [if_neg (by omega)]; omega
        · rw [if_neg h2] at ih
          rw [if_pos (by omega)]; omega
    · have c := cnt_of h.perm hx (by omega) (hs j hj)
      have q := worst_step (h.word j hj) he (RW_pos h.rpos j) (b j hj) c
      rw [led_next rfl]
      have e : decide (pick true m (n + 1) K (placeOf K x) ≤ j) = decide (K.W j (placeOf K x + 1) = (placeOf K x : Int) + 1) := decide_eq_decide.mpr (great_iff h he hj)
      rw [e]
      exact q
end FK
end
section
set_option autoImplicit false
set_option linter.all false
namespace FK

/-! ### states, and what keepers can do -/
def cOn (n : Nat) (st : Nat → Nat) (j : Nat) : Nat := (List.range n).countP (fun y => decide (st y = j))
structure StOk (n m : Nat) (r : Nat → Nat) (st : Nat → Nat) : Prop where
  le : ∀ y, y < n → st y ≤ m
  room : ∀ j, j < m → cOn n st j ≤ r j
def upd (st : Nat → Nat) (x v : Nat) : Nat → Nat := fun y => if y = x then v else st y
theorem upd_self {st : Nat → Nat} {x v : Nat} : upd st x v x = v := if_pos rfl
theorem upd_other {st : Nat → Nat} {x v y : Nat} (h : y ≠ x) : upd st x v y = st y := if_neg h
theorem cw_zero (n : Nat) (st : Nat → Nat) : cw n st 0 = cOn n st 0 := by
  unfold cw cOn
  rw [List.countP_congr (p := fun y => decide (st y ≤ 0)) (q := fun y => decide (st y = 0)) fun y _ => by simp]
theorem countP_add {p q s : Nat → Bool} : ∀ {l : List Nat}, (∀ y ∈ l, (s y = true ↔ p y = true ∨ q y = true) ∧ ¬ (p y = true ∧ q y = true)) → l.countP s = l.countP p + l.countP q
  | [], _ => rfl
  | a :: l, h => by
    have ih := countP_add (l := l) fun y hy => h y (by simp [hy])
    have ha := h a (by simp)
    rw [List.countP_cons, List.countP_cons, List.countP_cons, ih]
    by_cases h1 : p a = true
    · have h2 : ¬ q a = true := fun z => ha.2 ⟨h1, z⟩
      rw [if_pos (ha.1.mpr (.inl h1)), if_pos h1, if_neg h2]; omega
    · by_cases h2 : q a = true
      · rw [if_pos (ha.1.mpr (.inr h2)), if_neg h1, if_pos h2]; omega
      · rw [if_neg (fun z => (ha.1.mp z).elim h1 h2), if_neg h1, if_neg h2]; omega
theorem cw_succ (n : Nat) (st : Nat → Nat) (j : Nat) : cw n st (j + 1) = cw n st j + cOn n st (j + 1) := by
  unfold cw cOn
  rw [countP_add (l := List.range n) (p := fun y => decide (st y ≤ j)) (q := fun y => decide (st y = j + 1)) (s := fun y => decide (st y ≤ j + 1)) fun y _ => by
    simp only [decide_eq_true_eq]; omega]
  omega
theorem StOk.cw_le {n m : Nat} {r : Nat → Nat} {st : Nat → Nat} (h : StOk n m r st) : ∀ j, j < m → cw n st j ≤ RW r j
  | 0, hj => by
    have := h.room 0 hj
    rw [cw_zero]; unfold RW; omega
  | j + 1, hj => by
    have a := h.cw_le j (by omega)
    have b := h.room (j + 1) hj
    rw [cw_succ]; unfold RW; omega
theorem cw_congr {n j : Nat} {st st' : Nat → Nat} (h : ∀ y, y < n → (st' y ≤ j ↔ st y ≤ j)) : cw n st' j = cw n st j := by
  unfold cw
  rw [List.countP_congr (p := fun y => decide (st' y ≤ j)) (q := fun y => decide (st y ≤ j)) fun y hy => by
    have := h y (List.mem_range.mp hy)
    simp only [decide_eq_true_eq]
    exact this]
theorem cw_on {n j x : Nat} {st st' : Nat → Nat} (hx : x < n) (hj : j < st x) (h : ∀ y, y < n → (st' y ≤ j ↔ st y ≤ j ∨ y = x)) : cw n st' j = cw n st j + 1 := by
  unfold cw
  rw [count_on (p := fun y => decide (st y ≤ j)) (q := fun y => decide (st' y ≤ j)) (z := x) List.nodup_range (List.mem_range.mpr hx) (decide_eq_false (by omega)) fun y hy => by
    rw [← Bool.decide_or]
    exact decide_eq_decide.mpr (h y (List.mem_range.mp hy))]
  omega
theorem cw_off {n j x z : Nat} {st st' : Nat → Nat} (hx : x < n) (hj : j < st x) (hz : z < n) (hzx : z ≠ x) (hzj : st z ≤ j) (h : ∀ y, y < n → (st' y ≤ j ↔ (st y ≤ j ∨ y = x) ∧ y ≠ z)) : cw n st' j = cw n st j := by
  have a := cw_on (st := st) (st' := fun y => if st y ≤ j ∨ y = x then j else j + 1) hx hj fun y hy => by
    by_cases k : st y ≤ j ∨ y = x
    · simp [k]
    · simp only [if_neg k]
      constructor
      · intro q; omega
      · intro q; exact absurd q k
  have b := count_off (p := fun y => decide ((if st y ≤ j ∨ y = x then j else j + 1) ≤ j)) (q := fun y => decide (st' y ≤ j)) (z := z) (l := List.range n) List.nodup_range (List.mem_range.mpr hz) (by simp [hzj]) fun y hy => by
    rw [← Bool.decide_and]
    refine decide_eq_decide.mpr ((h y (List.mem_range.mp hy)).trans ?_)
    by_cases k : st y ≤ j ∨ y = x
    · simp [k]
    · simp only [if_neg k]
      constructor
      · intro q; exact absurd q.1 k
      · intro q; omega
  have a : ((List.range n).countP (fun y => decide ((if st y ≤ j ∨ y = x then j else j + 1) ≤ j)) : Int) = cw n st j + 1 := a
  show ((List.range n).countP (fun y => decide (st' y ≤ j)) : Int) = cw n st j
  omega
/-- from floor at on, floor by floor, things are put down -/
inductive PD (n m : Nat) (r : Nat → Nat) (x : Nat) : Nat → (Nat → Nat) → List Nat → (Nat → Nat) → Prop
  | stop (k : Nat) (now : Nat → Nat) : (k < m → cOn n now k ≤ r k) → PD n m r x k now [] now
  | step (k : Nat) (now : Nat → Nat) (z : Nat) (ds : List Nat) (fin : Nat → Nat) : k < m → r k < cOn n now k → z < n → now z = k → ¬ (k = 0 ∧ z = x) → PD n m r x (k + 1) (upd now z (k + 1)) ds fin → PD n m r x k now (z :: ds) fin
structure PI (n m : Nat) (r : Nat → Nat) (st : Nat → Nat) (x k : Nat) (now : Nat → Nat) : Prop where
  km : k ≤ m
  dn : ∀ j, j < k → j < st x ∧ cw n st j = RW r j ∧ ∃ z, z < n ∧ z ≠ x ∧ st z ≤ j ∧ ∀ y, y < n → (now y ≤ j ↔ (st y ≤ j ∨ y = x) ∧ y ≠ z)
  on : ∀ j, k ≤ j → j < m → ∀ y, y < n → (now y ≤ j ↔ st y ≤ j ∨ y = x)
  x0 : now x = 0
  le : ∀ y, y < n → now y ≤ m
section
variable {n m x : Nat} {r : Nat → Nat} {st : Nat → Nat}
theorem PI.start (h : StOk n m r st) (hx : x < n) : PI n m r st x 0 (upd st x 0) := by
  refine ⟨Nat.zero_le _, fun j hj => by omega, fun j _ hj y hy => ?_, upd_self, fun y hy => ?_⟩
  · by_cases e : y = x
    · subst e; simp [upd_self]
    · rw [upd_other e]; simp [e]
  · by_cases e : y = x
    · subst e; rw [upd_self]; omega
    · rw [upd_other e]; exact h.le y hy
/-- how full floor k is when the chain comes there -/
theorem PI.count {k : Nat} {now : Nat → Nat} (I : PI n m r st x k now) (h : StOk n m r st) (hx : x < n) (hk : k < m) :
    (st x ≤ k → (cOn n now k : Int) ≤ r k) ∧ (k < st x → (cOn n now k : Int) = cw n st k + 1 - RW r k + r k) := by
  have on := I.on k (Nat.le_refl _) hk
  cases k with
  | zero =>
    refine ⟨fun hs => ?_, fun hs => ?_⟩
    · have a := cw_congr (n := n) (j := 0) (st := st) (st' := now) fun y hy => (on y hy).trans ⟨fun q => q.elim id fun e => e ▸ hs, .inl⟩
      have b := h.cw_le 0 hk
      rw [cw_zero] at a
      unfold RW at b
      omega
    · have a := cw_on hx hs on
      rw [cw_zero] at a
      unfold RW
      omega
  | succ k =>
    obtain ⟨h1, h2, z, hz, hzx, hzj, h3⟩ := I.dn k (by omega)
    have p := cw_off hx h1 hz hzx hzj h3
    have s := cw_succ n now k
    refine ⟨fun hs => ?_, fun hs => ?_⟩
    · have a := cw_congr (n := n) (j := k + 1) (st := st) (st' := now) fun y hy => (on y hy).trans ⟨fun q => q.elim id fun e => e ▸ hs, .inl⟩
      have b := h.cw_le (k + 1) hk
      unfold RW at b
      omega
    · have a := cw_on hx hs on
      unfold RW
      omega
theorem full_up {j k : Nat} (h : StOk n m r st) (hjk : j ≤ k) (hk : k < m) (hf : cw n st k = RW r k) : cw n st j = RW r j := by
  have := up (m := m) (P := fun a b => cw n st b = RW r b → cw n st a = RW r a) (fun _ _ z => z) (fun a b _ hb q z => q (by
    have c := h.cw_le b (by omega)
    have d := h.room (b + 1) hb
    rw [cw_succ] at z
    unfold RW at z
    omega)) j k hjk hk
  exact this hf
theorem PI.step {k z : Nat} {now : Nat → Nat} (I : PI n m r st x k now) (h : StOk n m r st) (hx : x < n) (hk : k < m) (hc : r k < cOn n now k) (hz : z < n) (hzk : now z = k) (hn : ¬ (k = 0 ∧ z = x)) : PI n m r st x (k + 1) (upd now z (k + 1)) := by
  obtain ⟨c1, c2⟩ := I.count h hx hk
  have hs : k < st x := by
    by_cases q : k < st x
    · exact q
    · have := c1 (by omega); omega
  have hf : cw n st k = RW r k := by
    have a := c2 hs
    have b := h.cw_le k hk
    omega
  have hzx : z ≠ x := fun e => by
    have := I.x0
    rw [← e, hzk] at this
    exact hn ⟨this, e⟩
  have hzj : st z ≤ k := by
    rcases (I.on k (Nat.le_refl _) hk z hz).mp (by omega) with q | q
    · exact q
    · exact absurd q hzx
  refine ⟨hk, fun j hj => ?_, fun j hj hjm y hy => ?_, ?_, fun y hy => ?_⟩
  · by_cases e : j = k
    · subst e
      refine ⟨hs, hf, z, hz, hzx, hzj, fun y hy => ?_⟩
      by_cases e : y = z
      · subst e; rw [upd_self]; simp
      · rw [upd_other e, I.on _ (Nat.le_refl _) hk y hy]; simp [e]
    · obtain ⟨h1, h2, z', q⟩ := I.dn j (by omega)
      refine ⟨h1, h2, z', q.1, q.2.1, q.2.2.1, fun y hy => ?_⟩
      rw [← q.2.2.2 y hy]
      by_cases e2 : y = z
      · subst e2; rw [upd_self, hzk]; omega
      · rw [upd_other e2]
  · rw [← I.on j (by omega) hjm y hy]
    by_cases e2 : y = z
    · subst e2; rw [upd_self, hzk]; omega
    · rw [upd_other e2]
  · rw [upd_other (Ne.symm hzx)]; exact I.x0
  · by_cases e2 : y = z
    · subst e2; rw [upd_self]; omega
    · rw [upd_other e2]; exact I.le y hy
theorem PI.stop {k : Nat} {now : Nat → Nat} (I : PI n m r st x k now) (h : StOk n m r st) (hx : x < n) (hc : k < m → cOn n now k ≤ r k) :
    StOk n m r now ∧ now x = 0 ∧ ∀ j, j < m → StepJ n st now x j (cw n st j = RW r j) := by
  have hle : k ≤ st x ∨ m ≤ k := by
    by_cases q : k ≤ st x
    · exact .inl q
    · have := (I.dn (st x) (by omega)).1; omega
  have key : ∀ j, k ≤ j → j < m → st x ≤ j ∨ cw n st j ≠ RW r j := fun j hj hjm => by
    by_cases q : st x ≤ j
    · exact .inl q
    · refine .inr fun e => ?_
      have f := full_up h hj hjm e
      have c := (I.count h hx (by omega)).2 (by omega)
      have d := hc (by omega)
      omega
  have cwd : ∀ j, j < k → cw n now j = RW r j := fun j hj => by
    obtain ⟨h1, h2, z, hz, hzx, hzj, h3⟩ := I.dn j hj
    rw [cw_off hx h1 hz hzx hzj h3, h2]
  refine ⟨⟨I.le, fun j hj => ?_⟩, I.x0, fun j hj => ?_⟩
  · by_cases h1 : j < k
    · cases j with
      | zero =>
        have a := cwd 0 h1
        rw [cw_zero] at a
        unfold RW at a
        omega
      | succ j =>
        have a := cwd (j + 1) h1
        have b := cwd j (by omega)
        rw [cw_succ] at a
        unfold RW at a
        omega
    · by_cases h2 : j = k
      · subst h2; exact hc hj
      · obtain ⟨i, rfl⟩ : ∃ i, j = i + 1 := ⟨j - 1, by omega⟩
        have s1 := cw_succ n now i
        have s2 := cw_succ n st i
        have rm := h.room (i + 1) hj
        have o1 := I.on (i + 1) (by omega) hj
        have o2 := I.on i (by omega) (by omega)
        by_cases q1 : st x ≤ i
        · have a := cw_congr (n := n) (j := i) (st := st) (st' := now) fun y hy => (o2 y hy).trans ⟨fun q => q.elim id fun e => e ▸ q1, .inl⟩
          have b := cw_congr (n := n) (j := i + 1) (st := st) (st' := now) fun y hy => (o1 y hy).trans ⟨fun q => q.elim id fun e => e ▸ (by omega), .inl⟩
          omega
        · have a := cw_on hx (by omega) o2
          by_cases q2 : st x ≤ i + 1
          · have b := cw_congr (n := n) (j := i + 1) (st := st) (st' := now) fun y hy => (o1 y hy).trans ⟨fun q => q.elim id fun e => e ▸ q2, .inl⟩
            omega
          · have b := cw_on hx (by omega) o1
            omega
  · by_cases h1 : j < k
    · obtain ⟨a, b, c⟩ := I.dn j h1
      exact .inr (.inr ⟨a, b, c⟩)
    · have o := I.on j (by omega) hj
      rcases key j (by omega) hj with q | q
      · exact .inl ⟨q, fun y hy => (o y hy).trans ⟨fun z => z.elim id fun e => e ▸ q, .inl⟩⟩
      · by_cases q2 : st x ≤ j
        · exact .inl ⟨q2, fun y hy => (o y hy).trans ⟨fun z => z.elim id fun e => e ▸ q2, .inl⟩⟩
        · exact .inr (.inl ⟨by omega, q, o⟩)
theorem PD.out (h : StOk n m r st) (hx : x < n) : ∀ {k : Nat} {now : Nat → Nat} {ds : List Nat} {fin : Nat → Nat}, PD n m r x k now ds fin → PI n m r st x k now →
    StOk n m r fin ∧ fin x = 0 ∧ ∀ j, j < m → StepJ n st fin x j (cw n st j = RW r j)
  | _, _, _, _, .stop _ _ hc, I => I.stop h hx hc
  | _, _, _, _, .step _ _ _ _ _ hk hc hz hzk hn t, I => PD.out h hx t (I.step h hx hk hc hz hzk hn)
/-- an ask that was done -/
theorem ask_done (h : StOk n m r st) (hx : x < n) {ds : List Nat} {fin : Nat → Nat} (p : PD n m r x 0 (upd st x 0) ds fin) : StOk n m r fin ∧ fin x = 0 ∧ ∀ j, j < m → StepJ n st fin x j (cw n st j = RW r j) :=
  PD.out h hx p (PI.start h hx)
end
end FK
end
section
set_option autoImplicit false
set_option linter.all false
namespace FK

/-- a state fits a knowledge -/
structure FitS (n m : Nat) (K : Kn) (st : Nat → Nat) : Prop where
  le : ∀ y, y < n → st y ≤ m
  sz : ∀ j, j < m → cp (inJ st j) K.order n = K.W j n
  lo : ∀ j d, j < m → d ≤ n → K.W j d ≤ cp (inJ st j) K.order d
theorem cw_cp {n : Nat} {o : List Nat} {st : Nat → Nat} {j : Nat} (ho : o.Perm (List.range n)) : cw n st j = cp (inJ st j) o n := by
  have hl : o.length = n := by rw [ho.length_eq, List.length_range]
  unfold cp cw inJ
  rw [List.take_of_length_le (by omega), ho.countP_eq]
theorem FitS.cw {n m : Nat} {r : Nat → Nat} {K : Kn} {st : Nat → Nat} (h : FitS n m K st) (k : KOk n m r K) {j : Nat} (hj : j < m) : cw n st j = K.W j n := by
  rw [cw_cp k.perm, h.sz j hj]
theorem FitS.ok {n m : Nat} {r : Nat → Nat} {K : Kn} {st : Nat → Nat} (h : FitS n m K st) (k : KOk n m r K) : StOk n m r st := by
  refine ⟨h.le, fun j hj => ?_⟩
  cases j with
  | zero =>
    have a := h.cw k hj
    have b := k.room0
    rw [cw_zero] at a
    omega
  | succ j =>
    have a := h.cw k hj
    have b := h.cw k (j := j) (by omega)
    have c := k.room j hj
    rw [cw_succ] at a
    omega
theorem first_filter {q : Nat → Bool} {l t : List Nat} {z : Nat} (h : l.filter q = z :: t) (d : Nat) : z ∈ l.take d ∨ ∀ y ∈ l.take d, q y = false := by
  have e : (l.take d ++ l.drop d).filter q = z :: t := by rw [List.take_append_drop]; exact h
  rw [List.filter_append] at e
  cases hh : (l.take d).filter q with
  | nil =>
    refine .inr fun y hy => ?_
    cases hq : q y with
    | false => rfl
    | true =>
      have : y ∈ (l.take d).filter q := List.mem_filter.mpr ⟨hy, hq⟩
      rw [hh] at this; simp at this
  | cons a s =>
    rw [hh] at e
    have ea : a = z := by simpa using (List.cons.inj e).1
    refine .inl ?_
    have : a ∈ (l.take d).filter q := by rw [hh]; simp
    rw [← ea]
    exact (List.mem_filter.mp this).1

/-- what the lots within each floor were ahead of an ask -/
structure Back (m : Nat) (rest : List Nat) (lots : Nat → List Nat) (fl : Nat → Bool) (bf : Nat → List Nat) (z : Nat → Nat) : Prop where
  top : bf m = rest
  on : ∀ j, j < m → fl j = true → (∃ t, rest.filter (fun y => (bf (j + 1)).contains y && !(lots j).contains y) = z j :: t) ∧ bf j = lots j ++ [z j]
  off : ∀ j, j < m → fl j = false → bf j = lots j
def bfk (m : Nat) (rest : List Nat) (lots : Nat → List Nat) (fl : Nat → Bool) : Nat → List Nat
  | 0 => rest
  | k + 1 => if fl (m - (k + 1)) = true then lots (m - (k + 1)) ++ [(rest.filter (fun y => (bfk m rest lots fl k).contains y && !(lots (m - (k + 1))).contains y)).headD 0] else lots (m - (k + 1))
def bfF (m : Nat) (rest : List Nat) (lots : Nat → List Nat) (fl : Nat → Bool) (j : Nat) : List Nat := bfk m rest lots fl (m - j)
def zF (m : Nat) (rest : List Nat) (lots : Nat → List Nat) (fl : Nat → Bool) (j : Nat) : Nat := (rest.filter (fun y => (bfF m rest lots fl (j + 1)).contains y && !(lots j).contains y)).headD 0
theorem bfF_top {m : Nat} {rest : List Nat} {lots : Nat → List Nat} {fl : Nat → Bool} : bfF m rest lots fl m = rest := by
  unfold bfF
  rw [Nat.sub_self]; rfl
theorem bfF_at {m j : Nat} {rest : List Nat} {lots : Nat → List Nat} {fl : Nat → Bool} (hj : j < m) : bfF m rest lots fl j = if fl j = true then lots j ++ [zF m rest lots fl j] else lots j := by
  unfold bfF zF bfF
  obtain ⟨k, hk⟩ : ∃ k, m - j = k + 1 := ⟨m - j - 1, by omega⟩
  have h1 : m - (k + 1) = j := by omega
  have h2 : m - (j + 1) = k := by omega
  rw [hk, h2]
  show (if fl (m - (k + 1)) = true then _ else _) = _
  rw [h1]
/-- from the last floor to the first -/
theorem downI {m : Nat} {P : Nat → Prop} (h0 : P m) (hs : ∀ j, j < m → P (j + 1) → P j) : ∀ j, j ≤ m → P j := by
  intro j hj
  obtain ⟨k, hk⟩ : ∃ k, m = j + k := ⟨m - j, by omega⟩
  induction k generalizing j with
  | zero => have : j = m := by omega
            rw [this]; exact h0
  | succ k ih => exact hs j (by omega) (ih (j + 1) (by omega) (by omega))

section
variable {n m x i : Nat} {r : Nat → Nat} {K : Kn} {st' : Nat → Nat}
def restK (K : Kn) (x : Nat) : List Nat := K.order.erase x
def lotsK (K : Kn) (x : Nat) (st' : Nat → Nat) (j : Nat) : List Nat := (restK K x).filter (fun y => decide (st' y ≤ j))
def flK (n : Nat) (r : Nat → Nat) (K : Kn) (i j : Nat) : Bool := decide (full K n r i j)
/-- the state ahead -/
def stK (n m : Nat) (r : Nat → Nat) (K : Kn) (x i : Nat) (st' : Nat → Nat) : Nat → Nat := fun y =>
  if y = x then i else ff (fun j => (bfF m (restK K x) (lotsK K x st') (flK n r K i) j).contains y) m
structure Bk (n m : Nat) (r : Nat → Nat) (K : Kn) (x i : Nat) (st' : Nat → Nat) (j : Nat) : Prop where
  sub : ∀ y, y ∈ bfF m (restK K x) (lotsK K x st') (flK (n + 1) r K i) j → y ∈ restK K x
  lots : j < m → ∀ y, y ∈ lotsK K x st' j → y ∈ bfF m (restK K x) (lotsK K x st') (flK (n + 1) r K i) j
  cnt : cp (fun y => (bfF m (restK K x) (lotsK K x st') (flK (n + 1) r K i) j).contains y) (restK K x) n = if j < m then sz K (n + 1) i j else n
  dom : ∀ d, d ≤ n → (if j < m then Wt K (placeOf K x) i j d else (d : Int)) ≤ cp (fun y => (bfF m (restK K x) (lotsK K x st') (flK (n + 1) r K i) j).contains y) (restK K x) d
theorem back_all (h : KOk (n + 1) m r K) (hx : x < n + 1) (c : Can (n + 1) m K (placeOf K x) i) (f : FitS (n + 1) m (ledK (n + 1) r K x i) st') :
    st' x = 0 ∧ (∀ j, j ≤ m → Bk n m r K x i st' j) ∧ Back m (restK K x) (lotsK K x st') (flK (n + 1) r K i) (bfF m (restK K x) (lotsK K x st') (flK (n + 1) r K i)) (zF m (restK K x) (lotsK K x st') (flK (n + 1) r K i)) := by
  have he := place_lt h hx
  have hm : x ∈ K.order := h.mem.mpr hx
  have hrl : (restK K x).length = n := by unfold restK; rw [List.length_erase_of_mem hm, h.len]; rfl
  have hrn : (restK K x).Nodup := h.nodup.erase x
  have hw : ∀ j d, (ledK (n + 1) r K x i).W j (d + 1) = (if full K (n + 1) r i j then lost (Wt K (placeOf K x) i j) else Wt K (placeOf K x) i j) d + 1 := fun j d => rfl
  have wt := fun j (hj : j < m) => wt_word h he c hj
  have st0 : st' x = 0 := by
    have a := f.lo 0 1 h.mpos (by omega)
    have b := hw 0 0
    simp only [Nat.zero_add] at b
    rw [b] at a
    have c0 : 0 ≤ (if full K (n + 1) r i 0 then lost (Wt K (placeOf K x) i 0) else Wt K (placeOf K x) i 0) 0 := by
      split
      · simp only [lost]; omega
      · rw [(wt 0 h.mpos).1.1]; omega
    have e : cp (inJ st' 0) (ledK (n + 1) r K x i).order 1 = if inJ st' 0 x = true then 1 else 0 := by
      show cp (inJ st' 0) (x :: K.order.erase x) 1 = _
      unfold cp
      rw [List.take_succ_cons, List.take_zero, List.countP_cons]
      by_cases q : inJ st' 0 x = true <;> simp [q]
    rw [e] at a
    by_cases q : inJ st' 0 x = true
    · unfold inJ at q
      have := of_decide_eq_true q
      omega
    · rw [if_neg q] at a; omega
  have hcp : ∀ j d, cp (inJ st' j) (ledK (n + 1) r K x i).order (d + 1) = cp (inJ st' j) (restK K x) d + 1 := fun j d => by
    show cp (inJ st' j) (x :: restK K x) (d + 1) = _
    unfold cp
    rw [List.take_succ_cons, List.countP_cons, if_pos (show inJ st' j x = true from decide_eq_true (by omega))]
    omega
  have hlm : ∀ j y, y ∈ lotsK K x st' j ↔ y ∈ restK K x ∧ st' y ≤ j := fun j y => by
    unfold lotsK
    rw [List.mem_filter]
    simp
  have hlc : ∀ j d, cp (fun y => (lotsK K x st' j).contains y) (restK K x) d = cp (inJ st' j) (restK K x) d := fun j d => cp_congr (fun y hy => by
    unfold inJ
    rw [Bool.eq_iff_iff]
    simp only [List.contains_iff_mem, decide_eq_true_eq]
    rw [hlm]
    exact ⟨fun q => q.2, fun q => ⟨hy, q⟩⟩) d
  have hfl : ∀ j, flK (n + 1) r K i j = true ↔ full K (n + 1) r i j := fun j => decide_eq_true_iff
  -- the lots behind, by the words
  have ldom : ∀ j d, j < m → d ≤ n → (if full K (n + 1) r i j then lost (Wt K (placeOf K x) i j) else Wt K (placeOf K x) i j) d ≤ cp (fun y => (lotsK K x st' j).contains y) (restK K x) d := fun j d hj hd => by
    rw [hlc]
    have a := f.lo j (d + 1) hj (by omega)
    rw [hw, hcp] at a
    omega
  have lcnt : ∀ j, j < m → cp (fun y => (lotsK K x st' j).contains y) (restK K x) n = if full K (n + 1) r i j then sz K (n + 1) i j - 1 else sz K (n + 1) i j := fun j hj => by
    rw [hlc]
    have a := f.sz j hj
    rw [hw, hcp] at a
    have b := (wt j hj).2
    by_cases q : full K (n + 1) r i j
    · rw [if_pos q] at a ⊢
      have p := RW_pos h.rpos j
      have q2 := q.2
      have q1 := q.1
      simp only [lost] at a
      have s : sz K (n + 1) i j = RW r j := by
        unfold sz
        rw [if_neg (by omega), q2]
      omega
    · rw [if_neg q] at a ⊢
      omega
  -- there is one to be put back
  have main : ∀ j, j ≤ m → Bk n m r K x i st' j ∧ (j < m → flK (n + 1) r K i j = true → ∃ t, (restK K x).filter (fun y => (bfF m (restK K x) (lotsK K x st') (flK (n + 1) r K i) (j + 1)).contains y && !(lotsK K x st' j).contains y) = zF m (restK K x) (lotsK K x st') (flK (n + 1) r K i) j :: t) := by
    refine downI ⟨⟨fun y hy => ?_, fun q => by omega, ?_, fun d hd => ?_⟩, fun q => by omega⟩ fun j hj ih => ?_
    · rw [bfF_top] at hy; exact hy
    · rw [bfF_top, if_neg (by omega)]
      unfold cp
      rw [List.take_of_length_le (by omega)]
      rw [List.countP_eq_length.mpr fun y hy => by simpa using hy, hrl]
    · rw [bfF_top, if_neg (by omega)]
      unfold cp
      rw [List.countP_eq_length.mpr fun y hy => by simpa using List.mem_of_mem_take hy, List.length_take]
      omega
    · obtain ⟨I, _⟩ := ih
      have sub1 : ∀ y, y ∈ lotsK K x st' j → y ∈ bfF m (restK K x) (lotsK K x st') (flK (n + 1) r K i) (j + 1) := fun y hy => by
        by_cases q : j + 1 < m
        · exact I.lots q y ((hlm _ _).mpr ⟨((hlm _ _).mp hy).1, by have := ((hlm _ _).mp hy).2; omega⟩)
        · obtain rfl : j + 1 = m := by omega
          rw [bfF_top]
          exact ((hlm _ _).mp hy).1
      by_cases q : flK (n + 1) r K i j = true
      · have qf := (hfl j).mp q
        have hne : ∃ t, (restK K x).filter (fun y => (bfF m (restK K x) (lotsK K x st') (flK (n + 1) r K i) (j + 1)).contains y && !(lotsK K x st' j).contains y) = zF m (restK K x) (lotsK K x st') (flK (n + 1) r K i) j :: t := by
          unfold zF
          cases hh : (restK K x).filter (fun y => (bfF m (restK K x) (lotsK K x st') (flK (n + 1) r K i) (j + 1)).contains y && !(lotsK K x st' j).contains y) with
          | cons a t => exact ⟨t, rfl⟩
          | nil =>
            exfalso
            have le := cp_mono (l := restK K x) (p := fun y => (bfF m (restK K x) (lotsK K x st') (flK (n + 1) r K i) (j + 1)).contains y) (q := fun y => (lotsK K x st' j).contains y) (fun y hy hp => by
              by_cases w : (lotsK K x st' j).contains y = true
              · exact w
              · have : y ∈ (restK K x).filter (fun y => (bfF m (restK K x) (lotsK K x st') (flK (n + 1) r K i) (j + 1)).contains y && !(lotsK K x st' j).contains y) := List.mem_filter.mpr ⟨hy, by
                  rw [hp]
                  simpa using w⟩
                rw [hh] at this; simp at this) n
            rw [I.cnt, lcnt j hj, if_pos qf] at le
            have q2 := qf.2
            have q1 := qf.1
            have wj := h.word j hj
            by_cases q3 : j + 1 < m
            · rw [if_pos q3] at le
              have mo := h.mono (d := n + 1) q3 (Nat.le_refl _)
              unfold sz at le
              rw [if_neg (show ¬ i ≤ j by omega)] at le
              by_cases q4 : i ≤ j + 1
              · rw [if_pos q4] at le
                have hi := c.hi (j + 1) q3 q4
                have lo := c.lo j hj q1
                have mo2 := h.mono (d := placeOf K x) q3 (by omega)
                rcases c.bd j (by omega) (by omega) with b | b
                · omega
                · have ne := h.nest j q3 (placeOf K x + 1) (n + 1) (by omega) (Nat.le_refl _)
                  omega
              · rw [if_neg q4] at le
                omega
            · rw [if_neg q3] at le
              have lo := c.lo j hj q1
              have mo := wj.mono (a := placeOf K x + 1) (b := n + 1) (by omega) (Nat.le_refl _)
              unfold sz at le
              rw [if_neg (show ¬ i ≤ j by omega)] at le
              omega
        refine ⟨?_, fun _ _ => hne⟩
        obtain ⟨t, ht⟩ := hne
        have hz : zF m (restK K x) (lotsK K x st') (flK (n + 1) r K i) j ∈ (restK K x).filter (fun y => (bfF m (restK K x) (lotsK K x st') (flK (n + 1) r K i) (j + 1)).contains y && !(lotsK K x st' j).contains y) := by rw [ht]; simp
        obtain ⟨hz1, hz2⟩ := List.mem_filter.mp hz
        simp only [Bool.and_eq_true, Bool.not_eq_true', List.contains_eq_mem, decide_eq_true_eq, decide_eq_false_iff_not] at hz2
        have hbf := bfF_at (m := m) (rest := restK K x) (lots := lotsK K x st') (fl := flK (n + 1) r K i) hj
        rw [if_pos q] at hbf
        have hcn : ∀ y ∈ restK K x, (bfF m (restK K x) (lotsK K x st') (flK (n + 1) r K i) j).contains y = ((lotsK K x st' j).contains y || decide (y = zF m (restK K x) (lotsK K x st') (flK (n + 1) r K i) j)) := fun y hy => by
          rw [hbf, Bool.eq_iff_iff]
          simp [List.contains_eq_mem]
        refine ⟨fun y hy => ?_, fun _ y hy => ?_, ?_, fun d hd => ?_⟩
        · rw [hbf] at hy
          rcases List.mem_append.mp hy with hy | hy
          · exact ((hlm _ _).mp hy).1
          · rw [List.mem_singleton.mp hy]; exact hz1
        · rw [hbf]; exact List.mem_append.mpr (.inl hy)
        · rw [if_pos hj]
          have a : (restK K x).countP (fun y => (bfF m (restK K x) (lotsK K x st') (flK (n + 1) r K i) j).contains y) = (restK K x).countP (fun y => (lotsK K x st' j).contains y) + 1 := count_on (l := restK K x) hrn hz1 (p := fun y => (lotsK K x st' j).contains y) (by simpa [List.contains_eq_mem] using hz2.2) hcn
          have b := lcnt j hj
          rw [if_pos qf] at b
          unfold cp at b ⊢
          rw [List.take_of_length_le (by omega)] at b ⊢
          omega
        · rw [if_pos hj]
          have ld := ldom j d hj hd
          rw [if_pos qf] at ld
          simp only [lost] at ld
          rcases first_filter ht d with g | g
          · have a : ((restK K x).take d).countP (fun y => (bfF m (restK K x) (lotsK K x st') (flK (n + 1) r K i) j).contains y) = ((restK K x).take d).countP (fun y => (lotsK K x st' j).contains y) + 1 := count_on (l := (restK K x).take d) (hrn.sublist (List.take_sublist _ _)) g (p := fun y => (lotsK K x st' j).contains y) (by simpa [List.contains_eq_mem] using hz2.2) fun y hy => hcn y (List.mem_of_mem_take hy)
            unfold cp at ld ⊢
            omega
          · have up1 : cp (fun y => (bfF m (restK K x) (lotsK K x st') (flK (n + 1) r K i) (j + 1)).contains y) (restK K x) d ≤ cp (fun y => (bfF m (restK K x) (lotsK K x st') (flK (n + 1) r K i) j).contains y) (restK K x) d := by
              unfold cp
              have := List.countP_mono_left (l := (restK K x).take d) (p := fun y => (bfF m (restK K x) (lotsK K x st') (flK (n + 1) r K i) (j + 1)).contains y) (q := fun y => (bfF m (restK K x) (lotsK K x st') (flK (n + 1) r K i) j).contains y) fun y hy hp => by
                have g2 := g y hy
                rw [hp, Bool.true_and] at g2
                rw [hcn y (List.mem_of_mem_take hy)]
                have : (lotsK K x st' j).contains y = true := by simpa using g2
                rw [this, Bool.true_or]
              omega
            have dm := I.dom d hd
            by_cases q3 : j + 1 < m
            · rw [if_pos q3] at dm
              have ne := wt_nest h he c q3 0 d (Nat.zero_le _) hd
              have a1 := (wt j hj).1.1
              have a2 := (wt (j + 1) q3).1.1
              omega
            · rw [if_neg q3] at dm
              have := ((wt j hj).1.lo hd).2
              omega
      · refine ⟨?_, fun _ z => absurd z q⟩
        have qf : ¬ full K (n + 1) r i j := fun z => q ((hfl j).mpr z)
        have hbf := bfF_at (m := m) (rest := restK K x) (lots := lotsK K x st') (fl := flK (n + 1) r K i) hj
        rw [if_neg q] at hbf
        refine ⟨fun y hy => ?_, fun _ y hy => ?_, ?_, fun d hd => ?_⟩
        · rw [hbf] at hy; exact ((hlm _ _).mp hy).1
        · rw [hbf]; exact hy
        · rw [hbf, if_pos hj, lcnt j hj, if_neg qf]
        · rw [hbf, if_pos hj]
          have := ldom j d hj hd
          rw [if_neg qf] at this
          exact this
  refine ⟨st0, fun j hj => (main j hj).1, bfF_top, fun j hj q => ⟨(main j (by omega)).2 hj q, ?_⟩, fun j hj q => ?_⟩
  · rw [bfF_at hj, if_pos q]
  · rw [bfF_at hj, if_neg (by rw [q]; simp)]
end
end FK
end
section
set_option autoImplicit false
set_option linter.all false
namespace FK
section
variable {n m x i : Nat} {r : Nat → Nat} {K : Kn} {st' : Nat → Nat}
theorem filter_len (h : KOk (n + 1) m r K) (hx : x < n + 1) : (restK K x).length = n := by
  unfold restK
  rw [List.length_erase_of_mem (h.mem.mpr hx), h.len]; rfl
/-- within floor j ahead of the ask -/
theorem stK_le (h : KOk (n + 1) m r K) (hx : x < n + 1) (c : Can (n + 1) m K (placeOf K x) i) (f : FitS (n + 1) m (ledK (n + 1) r K x i) st') {j y : Nat} (hj : j < m) (hy : y ≠ x) :
    stK (n + 1) m r K x i st' y ≤ j ↔ y ∈ bfF m (restK K x) (lotsK K x st') (flK (n + 1) r K i) j := by
  obtain ⟨st0, bk, bb⟩ := back_all h hx c f
  have mono : ∀ a b, a ≤ b → b < m → y ∈ bfF m (restK K x) (lotsK K x st') (flK (n + 1) r K i) a → y ∈ bfF m (restK K x) (lotsK K x st') (flK (n + 1) r K i) b := by
    refine up (fun _ _ z => z) fun a b _ hb q z => ?_
    have z := q z
    rw [bfF_at (by omega)] at z
    have lot : y ∈ lotsK K x st' b → y ∈ bfF m (restK K x) (lotsK K x st') (flK (n + 1) r K i) (b + 1) := fun u => by
      refine (bk (b + 1) (by omega)).lots hb y ?_
      unfold lotsK at u ⊢
      rw [List.mem_filter] at u ⊢
      simp only [decide_eq_true_eq] at u ⊢
      exact ⟨u.1, by omega⟩
    by_cases k : flK (n + 1) r K i b = true
    · rw [if_pos k] at z
      rcases List.mem_append.mp z with z | z
      · exact lot z
      · rw [List.mem_singleton.mp z]
        obtain ⟨⟨t, ht⟩, _⟩ := bb.on b (by omega) k
        have : zF m (restK K x) (lotsK K x st') (flK (n + 1) r K i) b ∈ (restK K x).filter (fun y => (bfF m (restK K x) (lotsK K x st') (flK (n + 1) r K i) (b + 1)).contains y && !(lotsK K x st' b).contains y) := by rw [ht]; simp
        have := (List.mem_filter.mp this).2
        simp only [Bool.and_eq_true, List.contains_eq_mem, decide_eq_true_eq] at this
        exact this.1
    · rw [if_neg k] at z
      exact lot z
  unfold stK
  rw [if_neg hy]
  constructor
  · intro q
    have y1 := ff_yes m (fun j => (bfF m (restK K x) (lotsK K x st') (flK (n + 1) r K i) j).contains y) (by omega)
    simp only [List.contains_eq_mem, decide_eq_true_eq] at y1 q
    exact mono _ j q hj y1
  · intro q
    by_cases k : ff (fun j => (bfF m (restK K x) (lotsK K x st') (flK (n + 1) r K i) j).contains y) m ≤ j
    · exact k
    · have := ff_no m (fun j => (bfF m (restK K x) (lotsK K x st') (flK (n + 1) r K i) j).contains y) j (by omega)
      simp only [List.contains_eq_mem, decide_eq_false_iff_not] at this
      exact absurd q this
theorem stK_self : stK (n + 1) m r K x i st' x = i := if_pos rfl
theorem stK_fit (h : KOk (n + 1) m r K) (hx : x < n + 1) (c : Can (n + 1) m K (placeOf K x) i) (f : FitS (n + 1) m (ledK (n + 1) r K x i) st') : FitS (n + 1) m K (stK (n + 1) m r K x i st') := by
  obtain ⟨st0, bk, bb⟩ := back_all h hx c f
  have he := place_lt h hx
  obtain ⟨a, b, e1, e2, e3, e4⟩ := order_split h.nodup (h.mem.mpr hx)
  have hrest : restK K x = a ++ b := e2
  have hp : placeOf K x = a.length := e3
  have hxr : x ∉ restK K x := by rw [hrest]; exact e4
  have hcp : ∀ j d, j < m → cp (inJ (stK (n + 1) m r K x i st') j) (a ++ b) d = cp (fun y => (bfF m (restK K x) (lotsK K x st') (flK (n + 1) r K i) j).contains y) (restK K x) d := fun j d hj => by
    rw [← hrest]
    refine cp_congr (fun y hy => ?_) d
    unfold inJ
    rw [Bool.eq_iff_iff]
    simp only [decide_eq_true_eq, List.contains_eq_mem]
    exact stK_le h hx c f hj fun e => hxr (e ▸ hy)
  have hxi : ∀ j, inJ (stK (n + 1) m r K x i st') j x = true ↔ i ≤ j := fun j => by
    unfold inJ
    rw [stK_self, decide_eq_true_eq]
  refine ⟨fun y hy => ?_, fun j hj => ?_, fun j d hj hd => ?_⟩
  · by_cases e : y = x
    · subst e; rw [stK_self]; exact c.le
    · unfold stK; rw [if_neg e]; exact ff_le _ _
  · rw [e1, (cp_split n).2 (by omega), hcp j n hj, (bk j (by omega)).cnt, if_pos hj]
    unfold sz
    by_cases q : i ≤ j
    · rw [if_pos q, if_pos ((hxi j).mpr q)]; omega
    · rw [if_neg q, if_neg (fun z => q ((hxi j).mp z))]; omega
  · rw [e1]
    have w := h.word j hj
    by_cases q : d ≤ a.length
    · rw [(cp_split d).1 q, hcp j d hj]
      have dm := (bk j (by omega)).dom d (by omega)
      rw [if_pos hj] at dm
      refine Int.le_trans ?_ dm
      unfold Wt
      by_cases q2 : i ≤ j
      · rw [if_pos q2]; simp only [takeHit]
        rw [if_pos (by omega)]; exact Int.le_refl _
      · rw [if_neg q2]; simp only [takeMiss]
        by_cases q3 : d < placeOf K x
        · rw [if_pos q3]; omega
        · rw [if_neg q3]
          exact (w.2 d (by omega)).1
    · obtain ⟨d, rfl⟩ : ∃ k, d = k + 1 := ⟨d - 1, by omega⟩
      rw [(cp_split d).2 (by omega), hcp j d hj]
      have dm := (bk j (by omega)).dom d (by omega)
      rw [if_pos hj] at dm
      have w2 := w.2 d (by omega)
      unfold Wt at dm
      by_cases q2 : i ≤ j
      · rw [if_pos q2] at dm
        rw [if_pos ((hxi j).mpr q2)]
        simp only [takeHit] at dm
        by_cases q3 : d ≤ placeOf K x
        · rw [if_pos q3] at dm; omega
        · rw [if_neg q3] at dm; omega
      · rw [if_neg q2] at dm
        rw [if_neg (fun z => q2 ((hxi j).mp z))]
        simp only [takeMiss] at dm
        rw [if_neg (by omega)] at dm
        omega
/-- what is put down -/
def downsK (n m : Nat) (r : Nat → Nat) (K : Kn) (x i : Nat) (st' : Nat → Nat) : List Nat := ((List.range m).filter (flK n r K i)).map (zF m (restK K x) (lotsK K x st') (flK n r K i))
theorem cw_rest (h : KOk (n + 1) m r K) (hx : x < n + 1) {now : Nat → Nat} {j : Nat} (h0 : now x ≤ j) : cw (n + 1) now j = cp (inJ now j) (restK K x) n + 1 := by
  have p : (x :: restK K x).Perm (List.range (n + 1)) := (List.perm_cons_erase (h.mem.mpr hx)).symm.trans h.perm
  rw [cw_cp p]
  unfold cp
  rw [List.take_succ_cons, List.countP_cons, if_pos (show inJ now j x = true from decide_eq_true h0)]
  omega
theorem filter_range {p : Nat → Bool} : ∀ (m f : Nat), f ≤ m → (∀ j, j < f → p j = true) → (∀ j, f ≤ j → j < m → p j = false) → (List.range m).filter p = List.range f
  | 0, f, h, _, _ => by
    obtain rfl : f = 0 := by omega
    rfl
  | m + 1, f, h, h1, h2 => by
    rw [List.range_succ, List.filter_append]
    by_cases e : f = m + 1
    · subst e
      rw [filter_range m m (Nat.le_refl _) (fun j hj => h1 j (by omega)) (fun j h3 h4 => by omega)]
      rw [List.filter_cons, if_pos (h1 m (by omega)), List.range_succ]; rfl
    · rw [filter_range m f (by omega) h1 (fun j h3 h4 => h2 j h3 (by omega))]
      rw [List.filter_cons, if_neg (by rw [h2 m (by omega) (by omega)]; simp)]
      simp
theorem stK_done (h : KOk (n + 1) m r K) (hx : x < n + 1) (c : Can (n + 1) m K (placeOf K x) i) (f : FitS (n + 1) m (ledK (n + 1) r K x i) st') :
    ∃ fin, PD (n + 1) m r x 0 (upd (stK (n + 1) m r K x i st') x 0) (downsK (n + 1) m r K x i st') fin ∧ ∀ y, y < n + 1 → fin y = st' y := by
  obtain ⟨st0, bk, bb⟩ := back_all h hx c f
  have hk' := led_ok h hx rfl c
  have ok' := f.ok hk'
  have hrl := filter_len h hx
  have hxr : x ∉ restK K x := fun z => by
    obtain ⟨a, b, e1, e2, e3, e4⟩ := order_split h.nodup (h.mem.mpr hx)
    unfold restK at z
    rw [e2] at z
    exact e4 z
  have hmr : ∀ y, y < n + 1 → y ≠ x → y ∈ restK K x := fun y hy e => (List.mem_erase_of_ne e).mpr (h.mem.mpr hy)
  -- how many floors are filled
  generalize hF : ff (fun j => !flK (n + 1) r K i j) m = F
  have F1 : F ≤ m := by rw [← hF]; exact ff_le _ _
  have F2 : ∀ j, j < F → flK (n + 1) r K i j = true := fun j hj => by
    have := ff_no m (fun j => !flK (n + 1) r K i j) j (by omega)
    simpa using this
  have F3 : ∀ j, F ≤ j → j < m → flK (n + 1) r K i j = false := fun j hj hjm => by
    have y := ff_yes m (fun j => !flK (n + 1) r K i j) (by omega)
    rw [hF] at y
    refine up (m := m) (P := fun a b => flK (n + 1) r K i a = false → flK (n + 1) r K i b = false) (fun _ _ z => z) (fun a b _ hb q z => ?_) F j hj hjm (by simpa using y)
    have q := q z
    cases w : flK (n + 1) r K i (b + 1) with
    | false => rfl
    | true =>
      have := full_down h hb (of_decide_eq_true w)
      rw [show flK (n + 1) r K i b = true from decide_eq_true this] at q
      cases q
  have hds : downsK (n + 1) m r K x i st' = (List.range' 0 (F - 0)).map (zF m (restK K x) (lotsK K x st') (flK (n + 1) r K i)) := by
    unfold downsK
    rw [filter_range m F F1 F2 F3, List.range_eq_range']
    rfl
  rw [hds]
  have hlm : ∀ j y, y ∈ lotsK K x st' j ↔ y ∈ restK K x ∧ st' y ≤ j := fun j y => by
    unfold lotsK
    rw [List.mem_filter]
    simp
  have run : ∀ k at_, at_ + k = F → ∀ now : Nat → Nat, now x = 0 → (∀ y, y < n + 1 → now y ≤ m) →
      (∀ j y, j < m → y < n + 1 → y ≠ x → (now y ≤ j ↔ if j < at_ then y ∈ lotsK K x st' j else y ∈ bfF m (restK K x) (lotsK K x st') (flK (n + 1) r K i) j)) →
      ∃ fin, PD (n + 1) m r x at_ now ((List.range' at_ k).map (zF m (restK K x) (lotsK K x st') (flK (n + 1) r K i))) fin ∧ ∀ y, y < n + 1 → fin y = st' y := by
    intro k
    induction k with
    | zero =>
      intro at_ e now n0 nm inv
      have e1 : at_ = F := by omega
      subst e1
      have same : ∀ y, y < n + 1 → now y = st' y := fun y hy => by
        by_cases ex : y = x
        · subst ex; rw [n0, st0]
        · have all : ∀ j, j < m → (now y ≤ j ↔ st' y ≤ j) := fun j hj => by
            rw [inv j y hj hy ex]
            by_cases q : j < at_
            · rw [if_pos q, hlm]
              exact ⟨fun z => z.2, fun z => ⟨hmr y hy ex, z⟩⟩
            · rw [if_neg q, bfF_at hj, if_neg (by rw [F3 j (by omega) hj]; simp), hlm]
              exact ⟨fun z => z.2, fun z => ⟨hmr y hy ex, z⟩⟩
          have a := nm y hy
          have b := f.le y hy
          by_cases q1 : now y < m
          · have := (all _ q1).mp (Nat.le_refl _)
            by_cases q2 : st' y < m
            · have := (all _ q2).mpr (Nat.le_refl _); omega
            · omega
          · by_cases q2 : st' y < m
            · have := (all _ q2).mpr (Nat.le_refl _); omega
            · omega
      refine ⟨now, PD.stop _ _ fun hm => ?_, same⟩
      have := ok'.room at_ hm
      have e : cOn (n + 1) now at_ = cOn (n + 1) st' at_ := by
        unfold cOn
        exact List.countP_congr fun y hy => by rw [same y (List.mem_range.mp hy)]
      omega
    | succ k ih =>
      intro at_ e now n0 nm inv
      have ham : at_ < m := by omega
      have hfl := F2 at_ (by omega)
      have qf : full K (n + 1) r i at_ := of_decide_eq_true hfl
      obtain ⟨⟨t, ht⟩, hbf⟩ := bb.on at_ ham hfl
      have hz : zF m (restK K x) (lotsK K x st') (flK (n + 1) r K i) at_ ∈ (restK K x).filter (fun y => (bfF m (restK K x) (lotsK K x st') (flK (n + 1) r K i) (at_ + 1)).contains y && !(lotsK K x st' at_).contains y) := by rw [ht]; simp
      obtain ⟨hz1, hz2⟩ := List.mem_filter.mp hz
      simp only [Bool.and_eq_true, Bool.not_eq_true', List.contains_eq_mem, decide_eq_true_eq, decide_eq_false_iff_not] at hz2
      generalize hzq : zF m (restK K x) (lotsK K x st') (flK (n + 1) r K i) at_ = z at hz1 hz2 hbf
      have hzx : z ≠ x := fun q => hxr (q ▸ hz1)
      have hzn : z < n + 1 := h.mem.mp (List.mem_of_mem_erase hz1)
      have cwb : cw (n + 1) now at_ = RW r at_ + 1 := by
        rw [cw_rest h hx (by omega)]
        have : cp (inJ now at_) (restK K x) n = cp (fun y => (bfF m (restK K x) (lotsK K x st') (flK (n + 1) r K i) at_).contains y) (restK K x) n := cp_congr (fun y hy => by
          unfold inJ
          rw [Bool.eq_iff_iff]
          simp only [decide_eq_true_eq, List.contains_eq_mem]
          rw [inv at_ y ham (h.mem.mp (List.mem_of_mem_erase hy)) (fun q => hxr (q ▸ hy)), if_neg (by omega)]) n
        rw [this, (bk at_ (by omega)).cnt, if_pos ham]
        unfold sz
        rw [if_neg (by have := qf.1; omega), qf.2]
      have cwa : ∀ j, j < at_ → cw (n + 1) now j = RW r j := fun j hj => by
        have qj : full K (n + 1) r i j := of_decide_eq_true (F2 j (by omega))
        have ln : cp (inJ now j) (restK K x) n = cp (inJ st' j) (restK K x) n := cp_congr (fun y hy => by
          unfold inJ
          rw [Bool.eq_iff_iff]
          simp only [decide_eq_true_eq]
          rw [inv j y (by omega) (h.mem.mp (List.mem_of_mem_erase hy)) (fun q => hxr (q ▸ hy)), if_pos hj, hlm]
          exact ⟨fun q => q.2, fun q => ⟨hy, q⟩⟩) n
        rw [cw_rest h hx (by omega), ln, ← cw_rest h hx (by omega), f.cw hk' (by omega), led_size h hx rfl c (by omega), if_pos qj.1, if_pos qj.2]
        exact qj.2
      have hnz : now z = at_ := by
        have a : now z ≤ at_ := by
          rw [inv at_ z ham hzn hzx, if_neg (by omega), hbf]
          simp
        have b : ¬ now z < at_ := fun q => by
          have := (inv (now z) z (by omega) hzn hzx).mp (Nat.le_refl _)
          rw [if_pos q, hlm] at this
          exact hz2.2 ((hlm _ _).mpr ⟨hz1, by omega⟩)
        omega
      have hcnt : r at_ < cOn (n + 1) now at_ := by
        cases at_ with
        | zero =>
          rw [cw_zero] at cwb
          unfold RW at cwb
          omega
        | succ a =>
          have := cwa a (by omega)
          rw [cw_succ] at cwb
          unfold RW at cwb
          omega
      obtain ⟨fin, p, q⟩ := ih (at_ + 1) (by omega) (upd now z (at_ + 1)) (by rw [upd_other (Ne.symm hzx)]; exact n0) (fun y hy => by
        by_cases e2 : y = z
        · subst e2; rw [upd_self]; omega
        · rw [upd_other e2]; exact nm y hy) (fun j y hj hy hyx => by
        by_cases e2 : y = z
        · subst e2
          rw [upd_self]
          by_cases q1 : j < at_ + 1
          · rw [if_pos q1]
            constructor
            · intro q; omega
            · intro q
              exact absurd ((hlm _ _).mpr ⟨hz1, by have := ((hlm _ _).mp q).2; omega⟩) hz2.2
          · rw [if_neg q1]
            constructor
            · intro _
              have := inv j y hj hy hyx
              rw [if_neg (by omega)] at this
              exact this.mp (by omega)
            · intro _; omega
        · rw [upd_other e2, inv j y hj hy hyx]
          by_cases q1 : j < at_
          · rw [if_pos q1, if_pos (by omega)]
          · rw [if_neg q1]
            by_cases q2 : j < at_ + 1
            · obtain rfl : j = at_ := by omega
              rw [if_pos q2, hbf]
              simp [e2]
            · rw [if_neg q2])
      refine ⟨fin, ?_, q⟩
      rw [List.range'_succ, List.map_cons, hzq]
      exact PD.step _ _ _ _ _ ham hcnt hzn hnz (fun w => hzx w.2) p
  refine run F 0 (by omega) _ upd_self (fun y hy => ?_) fun j y hj hy hyx => ?_
  · by_cases e : y = x
    · subst e; rw [upd_self]; omega
    · rw [upd_other e]; exact (stK_fit h hx c f).le y hy
  · rw [upd_other hyx, if_neg (by omega)]
    exact stK_le h hx c f hj hyx
end
end FK
end
section
set_option autoImplicit false
set_option linter.all false
namespace FK

/-! ### counts by place -/
theorem cp_at {p : Nat → Bool} {l : List Nat} {d : Nat} (h : d < l.length) : cp p l (d + 1) = cp p l d + (if p l[d] = true then 1 else 0) := by
  unfold cp
  rw [List.take_succ, List.countP_append, List.getElem?_eq_getElem h]
  show ((List.countP p (l.take d) + List.countP p [l[d]] : Nat) : Int) = _
  rw [List.countP_cons, List.countP_nil]
  split <;> simp
theorem cp_zero {p : Nat → Bool} {l : List Nat} : cp p l 0 = 0 := by unfold cp; simp
theorem cp_min {p : Nat → Bool} {l : List Nat} {s : Int} (hs : 0 ≤ s) (h : ∀ d (hd : d < l.length), p l[d] = decide ((d : Int) < s)) : ∀ d, d ≤ l.length → cp p l d = min (d : Int) s
  | 0, _ => by rw [cp_zero]; omega
  | d + 1, hd => by
    rw [cp_at (by omega), cp_min hs h d (by omega), h d (by omega)]
    by_cases q : (d : Int) < s
    · rw [if_pos (by simpa using q)]; omega
    · rw [if_neg (by simpa using q)]; omega
/-- in an order by floors -/
theorem cp_sorted {st : Nat → Nat} {j : Nat} : ∀ {l : List Nat}, l.Pairwise (fun a b => st a ≤ st b) → ∀ d, d ≤ l.length → cp (inJ st j) l d = min (d : Int) (cp (inJ st j) l l.length)
  | [], _, d, hd => by
    have : d = 0 := by simpa using hd
    subst this
    unfold cp; simp
  | a :: l, hp, d, hd => by
    obtain ⟨h1, h2⟩ := List.pairwise_cons.mp hp
    have ih := cp_sorted (j := j) h2
    have hall : cp (inJ st j) (a :: l) (a :: l).length = cp (inJ st j) l l.length + (if inJ st j a = true then 1 else 0) := by
      unfold cp
      rw [List.take_length, List.take_length, List.countP_cons]
      split <;> simp
    have nn : 0 ≤ cp (inJ st j) l l.length := (cp_word.lo (Nat.le_refl _)).1
    cases d with
    | zero => rw [cp_zero, hall]; split <;> omega
    | succ d =>
      have hs : cp (inJ st j) (a :: l) (d + 1) = cp (inJ st j) l d + (if inJ st j a = true then 1 else 0) := by
        unfold cp
        rw [List.take_succ_cons, List.countP_cons]
        split <;> simp
      rw [hs, hall, ih d (by simpa using hd)]
      by_cases q : inJ st j a = true
      · rw [if_pos q]; omega
      · rw [if_neg q]
        have z : ∀ k, cp (inJ st j) l k = 0 := fun k => by
          unfold cp
          rw [List.countP_eq_zero.mpr fun y hy => ?_]
          · rfl
          · unfold inJ at q ⊢
            have := h1 y (List.mem_of_mem_take hy)
            simp only [decide_eq_true_eq] at q ⊢
            omega
        rw [z]
        omega

/-! ### the knowledges at first -/
def firstS (n : Nat) (o : List Nat) (st : Nat → Nat) : Kn := ⟨o, fun j d => min (d : Int) (cw n st j)⟩
def firstN (n : Nat) (r : Nat → Nat) : Kn := ⟨List.range n, fun j d => max 0 (RW r j - ((n : Int) - (d : Int)))⟩
section
variable {n m : Nat} {r : Nat → Nat}
theorem cw_nn (n : Nat) (st : Nat → Nat) (j : Nat) : 0 ≤ cw n st j ∧ cw n st j ≤ n := by
  unfold cw
  have := List.countP_le_length (l := List.range n) (p := fun y => decide (st y ≤ j))
  rw [List.length_range] at this
  omega
theorem firstS_ok {o : List Nat} {st : Nat → Nat} (hm : 0 < m) (hr : 1 ≤ r 0) (ho : o.Perm (List.range n)) (h : StOk n m r st) : KOk n m r (firstS n o st) := by
  refine ⟨ho, fun j hj => ?_, fun j hj => ?_, ?_, fun j hj => ?_, hm, hr⟩
  · have := cw_nn n st j
    refine ⟨?_, fun d hd => ?_⟩
    · show min ((0 : Nat) : Int) (cw n st j) = 0
      omega
    · show min (d : Int) (cw n st j) ≤ min ((d + 1 : Nat) : Int) (cw n st j) ∧ _
      show _ ∧ min ((d + 1 : Nat) : Int) (cw n st j) ≤ min (d : Int) (cw n st j) + 1
      omega
  · have := cw_succ n st j
    refine nest_of fun d hd => ?_
    show min ((d + 1 : Nat) : Int) (cw n st j) - min (d : Int) (cw n st j) ≤ min ((d + 1 : Nat) : Int) (cw n st (j + 1)) - min (d : Int) (cw n st (j + 1))
    omega
  · have := h.room 0 hm
    have := cw_zero n st
    show min (n : Int) (cw n st 0) ≤ _
    omega
  · have := h.room (j + 1) hj
    have := cw_succ n st j
    have := cw_nn n st j
    show min (n : Int) (cw n st (j + 1)) ≤ min (n : Int) (cw n st j) + _
    omega
theorem firstS_size {o : List Nat} {st : Nat → Nat} (j : Nat) : (firstS n o st).W j n = cw n st j := by
  have := cw_nn n st j
  show min (n : Int) (cw n st j) = _
  omega
theorem RW_le_last (h : RW r (m - 1) ≤ (n : Int)) : ∀ j, j < m → RW r j ≤ n := by
  have : ∀ j k, j ≤ k → k < m → RW r j ≤ RW r k := up (fun _ _ => Int.le_refl _) fun j k _ _ q => by
    show _ ≤ RW r k + (r (k + 1) : Int)
    omega
  intro j hj
  have := this j (m - 1) (by omega) (by omega)
  omega
theorem firstN_ok (hm : 0 < m) (hr : 1 ≤ r 0) (h : RW r (m - 1) ≤ (n : Int)) : KOk n m r (firstN n r) := by
  have hl := RW_le_last h
  refine ⟨List.Perm.refl _, fun j hj => ?_, fun j hj => ?_, ?_, fun j hj => ?_, hm, hr⟩
  · have := hl j hj
    refine ⟨?_, fun d hd => ?_⟩
    · show max 0 (RW r j - ((n : Int) - ((0 : Nat) : Int))) = 0
      omega
    · show max 0 (RW r j - ((n : Int) - (d : Int))) ≤ max 0 (RW r j - ((n : Int) - ((d + 1 : Nat) : Int))) ∧ max 0 (RW r j - ((n : Int) - ((d + 1 : Nat) : Int))) ≤ max 0 (RW r j - ((n : Int) - (d : Int))) + 1
      omega
  · refine nest_of fun d hd => ?_
    have e : RW r (j + 1) = RW r j + (r (j + 1) : Int) := rfl
    show max 0 (RW r j - ((n : Int) - ((d + 1 : Nat) : Int))) - max 0 (RW r j - ((n : Int) - (d : Int))) ≤ max 0 (RW r (j + 1) - ((n : Int) - ((d + 1 : Nat) : Int))) - max 0 (RW r (j + 1) - ((n : Int) - (d : Int)))
    omega
  · have e : RW r 0 = (r 0 : Int) := rfl
    show max 0 (RW r 0 - ((n : Int) - (n : Int))) ≤ _
    omega
  · have e : RW r (j + 1) = RW r j + (r (j + 1) : Int) := rfl
    have := RW_nonneg r j
    show max 0 (RW r (j + 1) - ((n : Int) - (n : Int))) ≤ max 0 (RW r j - ((n : Int) - (n : Int))) + _
    omega
theorem firstN_size (j : Nat) : (firstN n r).W j n = RW r j := by
  have := RW_nonneg r j
  show max 0 (RW r j - ((n : Int) - (n : Int))) = _
  omega
theorem firstS_cp {o : List Nat} {st : Nat → Nat} (ho : o.Perm (List.range n)) (hs : o.Pairwise (fun a b => st a ≤ st b)) (j : Nat) {d : Nat} (hd : d ≤ n) : cp (inJ st j) o d = min (d : Int) (cw n st j) := by
  have hl : o.length = n := by rw [ho.length_eq, List.length_range]
  rw [cp_sorted hs d (by omega), hl, cw_cp ho]
theorem firstS_BI {o : List Nat} {st : Nat → Nat} (ho : o.Perm (List.range n)) (hs : o.Pairwise (fun a b => st a ≤ st b)) (h : StOk n m r st) {j : Nat} (hj : j < m) :
    BI n ((firstS n o st).W j) (cp (inJ st j) (firstS n o st).order) (RW r j) 0 ∧ WI n ((firstS n o st).W j) (cp (inJ st j) (firstS n o st).order) (RW r j) 0 := by
  have sz := firstS_size (n := n) (o := o) (st := st) j
  have c := fun d (hd : d ≤ n) => firstS_cp ho hs j hd
  have le := h.cw_le j hj
  have nn := cw_nn n st j
  have hn := c n (Nat.le_refl _)
  have hW : ∀ d : Nat, (firstS n o st).W j d = min (d : Int) (cw n st j) := fun _ => rfl
  have hO : (firstS n o st).order = o := rfl
  rw [hO]
  refine ⟨⟨Int.le_refl _, by rw [sz]; omega, by rw [sz]; exact le, fun d hd => by rw [c d hd, hW]; omega, fun _ d hd => by rw [sz, c d hd, hW]; exact ⟨rfl, rfl⟩⟩, Int.le_refl _, by rw [sz]; omega, by rw [sz]; exact le, .inl fun d hd => by rw [sz, c d hd, hW]; exact ⟨rfl, rfl⟩⟩
theorem firstN_BI {st : Nat → Nat} (h : RW r (m - 1) ≤ (n : Int)) (hc : ∀ j, j < m → cw n st j = RW r j) (hr : 1 ≤ r 0) {j : Nat} (hj : j < m) :
    BI n ((firstN n r).W j) (cp (inJ st j) (firstN n r).order) (RW r j) 0 ∧ WI n ((firstN n r).W j) (cp (inJ st j) (firstN n r).order) (RW r j) 0 := by
  have sz := firstN_size (n := n) (r := r) j
  have hl := RW_le_last h j hj
  have p := RW_pos hr j
  have hO : (firstN n r).order = List.range n := rfl
  rw [hO]
  have w : Word n (cp (inJ st j) (List.range n)) := by
    have := cp_word (p := inJ st j) (l := List.range n)
    rw [List.length_range] at this
    exact this
  have hn : cp (inJ st j) (List.range n) n = RW r j := by rw [← cw_cp (List.Perm.refl _), hc j hj]
  have hW : ∀ d : Nat, (firstN n r).W j d = max 0 (RW r j - ((n : Int) - (d : Int))) := fun _ => rfl
  refine ⟨⟨Int.le_refl _, by rw [sz]; exact hn, by rw [sz]; exact Int.le_refl _, fun d hd => ?_, fun q => absurd sz q⟩, Int.le_refl _, by rw [sz]; exact hn, by rw [sz]; exact Int.le_refl _, ?_⟩
  · have a := w.mono hd (Nat.le_refl n)
    have b := w.lo hd
    rw [hW]; omega
  · by_cases q : RW r j < n
    · exact .inr (.inl ⟨sz, q, fun d hd => hW d⟩)
    · refine .inl fun d hd => ?_
      have a := w.mono hd (Nat.le_refl n)
      have b := w.lo hd
      rw [sz, hW]
      omega
theorem firstN_fit {st : Nat → Nat} (f : FitS n m (firstN n r) st) {j : Nat} (hj : j < m) : cw n st j = RW r j := by
  have := f.sz j hj
  rw [firstN_size] at this
  rw [cw_cp (o := (firstN n r).order) (List.Perm.refl _), this]
/-- the start is the only state that fits its knowledge -/
theorem firstS_fit {o : List Nat} {st st0 : Nat → Nat} (ho : o.Perm (List.range n)) (hs : o.Pairwise (fun a b => st0 a ≤ st0 b)) (h : StOk n m r st0) (f : FitS n m (firstS n o st0) st) : ∀ y, y < n → st y = st0 y := by
  have hl : o.length = n := by rw [ho.length_eq, List.length_range]
  have nd : o.Nodup := ho.nodup_iff.mpr List.nodup_range
  have same : ∀ j, j < m → ∀ d, d ≤ n → cp (inJ st j) o d = min (d : Int) (cw n st0 j) := fun j hj d hd => by
    have nn := cw_nn n st0 j
    have w : Word n (cp (inJ st j) o) := by
      have := cp_word (p := inJ st j) (l := o)
      rw [hl] at this
      exact this
    have a := f.lo j d hj hd
    have b := f.sz j hj
    rw [firstS_size] at b
    have a : min (d : Int) (cw n st0 j) ≤ cp (inJ st j) o d := a
    have b : cp (inJ st j) o n = cw n st0 j := b
    have c1 := w.mono hd (Nat.le_refl n)
    have c2 := w.lo hd
    omega
  have at_ : ∀ j, j < m → ∀ d (hd : d < o.length), inJ st j o[d] = inJ st0 j o[d] := fun j hj d hd => by
    have a := cp_at (p := inJ st j) hd
    have b := cp_at (p := inJ st0 j) hd
    rw [same j hj _ (by omega), same j hj _ (by omega)] at a
    rw [firstS_cp ho hs j (by omega), firstS_cp ho hs j (by omega)] at b
    by_cases q : inJ st j o[d] = true
    · rw [if_pos q] at a
      by_cases q2 : inJ st0 j o[d] = true
      · rw [q, q2]
      · rw [if_neg q2] at b; omega
    · rw [if_neg q] at a
      by_cases q2 : inJ st0 j o[d] = true
      · rw [if_pos q2] at b; omega
      · rw [Bool.eq_iff_iff]; exact ⟨fun z => absurd z q, fun z => absurd z q2⟩
  intro y hy
  have hy' : y ∈ o := ho.mem_iff.mpr (List.mem_range.mpr hy)
  obtain ⟨d, hd, e⟩ := List.getElem_of_mem hy'
  have all : ∀ j, j < m → (st y ≤ j ↔ st0 y ≤ j) := fun j hj => by
    have := at_ j hj d hd
    rw [e] at this
    unfold inJ at this
    exact decide_eq_decide.mp this
  have a := f.le y hy
  have b := h.le y hy
  by_cases q1 : st y < m
  · have := (all _ q1).mp (Nat.le_refl _)
    by_cases q2 : st0 y < m
    · have := (all _ q2).mpr (Nat.le_refl _); omega
    · omega
  · by_cases q2 : st0 y < m
    · have := (all _ q2).mpr (Nat.le_refl _); omega
    · omega

/-! ### the front state -/
def frontK (n m : Nat) (K : Kn) : Nat → Nat := fun y => ff (fun j => decide ((K.order.idxOf y : Int) < K.W j n)) m
theorem front_fit {K : Kn} (h : KOk n m r K) : FitS n m K (frontK n m K) := by
  have le : ∀ j y, j < m → (frontK n m K y ≤ j ↔ (K.order.idxOf y : Int) < K.W j n) := fun j y hj => by
    unfold frontK
    constructor
    · intro q
      have y1 := of_decide_eq_true (ff_yes m (fun j => decide ((K.order.idxOf y : Int) < K.W j n)) (by omega))
      refine up (m := m) (P := fun a b => (K.order.idxOf y : Int) < K.W a n → (K.order.idxOf y : Int) < K.W b n) (fun _ _ z => z) (fun a b _ hb q z => ?_) _ j q hj y1
      have z := q z
      have := h.mono (d := n) hb (Nat.le_refl _)
      omega
    · intro q
      by_cases k : ff (fun j => decide ((K.order.idxOf y : Int) < K.W j n)) m ≤ j
      · exact k
      · have := of_decide_eq_false (ff_no m (fun j => decide ((K.order.idxOf y : Int) < K.W j n)) j (by omega))
        exact absurd q this
  have cpm : ∀ j d, j < m → d ≤ n → cp (inJ (frontK n m K) j) K.order d = min (d : Int) (K.W j n) := fun j d hj hd => by
    refine cp_min ((h.word j hj).lo (Nat.le_refl _)).1 (fun d hd => ?_) d (by rw [h.len]; exact hd)
    unfold inJ
    refine decide_eq_decide.mpr ((le j _ hj).trans ?_)
    rw [h.nodup.idxOf_getElem]
  refine ⟨fun y _ => ff_le _ _, fun j hj => ?_, fun j d hj hd => ?_⟩
  · rw [cpm j n hj (Nat.le_refl _)]
    have := (h.word j hj).lo (Nat.le_refl n)
    omega
  · rw [cpm j d hj hd]
    have a := (h.word j hj).lo hd
    have b := (h.word j hj).mono hd (Nat.le_refl n)
    omega
end
end FK
end
section
set_option autoImplicit false
set_option linter.all false
namespace FK
section
variable {n m e : Nat} {r : Nat → Nat} {K : Kn}
def sureJ (K : Kn) (e j : Nat) : Bool := decide (K.W j (e + 1) = (e : Int) + 1)
def mayJ (K : Kn) (n e j : Nat) : Bool := decide (K.W j e < K.W j n)
/-- is a thing surely within the floor ahead -/
def sureA (K : Kn) (e : Nat) : Nat → Bool
  | 0 => false
  | j + 1 => sureJ K e j
def sizeA (K : Kn) (n : Nat) : Nat → Int
  | 0 => 0
  | j + 1 => K.W j n
/-- the floors at which a thing stands, as the program and as the law say them -/
def floorsL (m n : Nat) (K : Kn) (e : Nat) : List Nat := (List.range m).filter (fun j => !sureA K e j && (decide (sizeA K n j < K.W j n) && mayJ K n e j)) ++ (if sureA K e m then [] else [m])
def floorsW (m n : Nat) (K : Kn) (e : Nat) : List Nat := (List.range' (leastF m n K e) (m + 1 - leastF m n K e)).filter (fun j => !sureA K e j && !(decide (j < m) && decide (K.W j n = sizeA K n j)))
structure Fl (n m : Nat) (K : Kn) (e : Nat) : Prop where
  loM : ∀ j, j < leastF m n K e → mayJ K n e j = false
  loS : sureA K e (leastF m n K e) = false
  loB : leastF m n K e < m → mayJ K n e (leastF m n K e) = true ∧ sizeA K n (leastF m n K e) < K.W (leastF m n K e) n
  hiS : sureA K e (greatF m K e) = false
  hiB : greatF m K e < m → mayJ K n e (greatF m K e) = true ∧ sizeA K n (greatF m K e) < K.W (greatF m K e) n
  hiU : ∀ j, greatF m K e < j → j ≤ m → sureA K e j = true
  lh : leastF m n K e ≤ greatF m K e
theorem fl_ok (h : KOk (n + 1) m r K) (he : e ≤ n) : Fl (n + 1) m K e := by
  have lc := least_can h he
  have gc := great_can h he
  have li := fun j (hj : j < m) => least_iff h he hj
  have gi := fun j (hj : j < m) => great_iff h he hj
  have sm : ∀ j, j < m → sureJ K e j = true → mayJ K (n + 1) e j = true := fun j hj q => by
    unfold sureJ at q; unfold mayJ
    have q := of_decide_eq_true q
    have a := (h.word j hj).lo (d := e) (by omega)
    have b := (h.word j hj).mono (a := e + 1) (b := n + 1) (by omega) (Nat.le_refl _)
    exact decide_eq_true (by omega)
  have bare : ∀ j, j < m → mayJ K (n + 1) e j = true → (∀ i, i + 1 = j → mayJ K (n + 1) e i = false ∨ (sureJ K e j = true ∧ sureJ K e i = false)) → sizeA K (n + 1) j < K.W j (n + 1) := fun j hj q hi => by
    have q := of_decide_eq_true q
    cases j with
    | zero =>
      have := (h.word 0 hj).lo (d := e) (by omega)
      show (0 : Int) < _
      omega
    | succ i =>
      show K.W i (n + 1) < K.W (i + 1) (n + 1)
      rcases hi i rfl with z | ⟨z1, z2⟩
      · have z := of_decide_eq_false z
        have a := h.mono (d := e) hj (by omega)
        omega
      · have z1 := of_decide_eq_true z1
        have z2 := of_decide_eq_false z2
        have a := h.nest i hj (e + 1) (n + 1) (by omega) (Nat.le_refl _)
        have b := (h.word i (by omega)).lo (d := e + 1) (by omega)
        omega
  have loM : ∀ j, j < leastF m (n + 1) K e → mayJ K (n + 1) e j = false := fun j hj => by
    have := lc.le
    exact decide_eq_false fun z => by have := (li j (by omega)).mpr z; omega
  have gS : ∀ j, j < greatF m K e → sureJ K e j = false := fun j hj => by
    have := gc.le
    exact decide_eq_false fun z => by have := (gi j (by omega)).mpr z; omega
  have lle := lc.le
  have gle := gc.le
  refine ⟨loM, ?_, fun q => ?_, ?_, fun q => ?_, fun j hj hjm => ?_, ?_⟩
  · cases k : leastF m (n + 1) K e with
    | zero => rfl
    | succ i =>
      show sureJ K e i = false
      cases w : sureJ K e i with
      | false => rfl
      | true =>
        have a := sm i (by omega) w
        rw [loM i (by omega)] at a; cases a
  · have my : mayJ K (n + 1) e (leastF m (n + 1) K e) = true := decide_eq_true ((li _ q).mp (Nat.le_refl _))
    exact ⟨my, bare _ q my fun i hi => .inl (loM i (by omega))⟩
  · cases k : greatF m K e with
    | zero => rfl
    | succ i => exact gS i (by omega)
  · have my : sureJ K e (greatF m K e) = true := decide_eq_true ((gi _ q).mp (Nat.le_refl _))
    exact ⟨sm _ q my, bare _ q (sm _ q my) fun i hi => .inr ⟨my, gS i (by omega)⟩⟩
  · cases j with
    | zero => omega
    | succ i => exact decide_eq_true ((gi i (by omega)).mp (by omega))
  · by_cases q : greatF m K e < m
    · have my : sureJ K e (greatF m K e) = true := decide_eq_true ((gi _ q).mp (Nat.le_refl _))
      exact (li _ q).mpr (of_decide_eq_true (sm _ q my))
    · omega
theorem head_filter {p : Nat → Bool} {i : Nat} : ∀ {l : List Nat} {d : Nat}, l.Pairwise (· < ·) → i ∈ l → p i = true → (∀ j ∈ l, j < i → p j = false) → (l.filter p).headD d = i
  | [], _, _, h, _, _ => by simp at h
  | a :: l, d, hp, h, hi, hj => by
    obtain ⟨h1, h2⟩ := List.pairwise_cons.mp hp
    by_cases e : a = i
    · subst e
      rw [List.filter_cons, if_pos hi]; rfl
    · have hm : i ∈ l := by
        rcases List.mem_cons.mp h with h | h
        · exact absurd h.symm e
        · exact h
      have := h1 i hm
      rw [List.filter_cons, if_neg (by rw [hj a (by simp) this]; simp)]
      exact head_filter h2 hm hi fun j q => hj j (by simp [q])
theorem last_filter {p : Nat → Bool} {i : Nat} : ∀ {l : List Nat} {d : Nat}, l.Pairwise (· < ·) → i ∈ l → p i = true → (∀ j ∈ l, i < j → p j = false) → (l.filter p).getLastD d = i
  | [], _, _, h, _, _ => by simp at h
  | a :: l, d, hp, h, hi, hj => by
    obtain ⟨h1, h2⟩ := List.pairwise_cons.mp hp
    by_cases e : a = i
    · subst e
      rw [List.filter_cons, if_pos hi]
      rw [List.filter_eq_nil_iff.mpr fun b hb => by rw [hj b (by simp [hb]) (h1 b hb)]; simp]
      rfl
    · have hm : i ∈ l := by
        rcases List.mem_cons.mp h with h | h
        · exact absurd h.symm e
        · exact h
      rw [List.filter_cons]
      split
      · rw [List.getLastD_cons]
        exact last_filter h2 hm hi fun j q => hj j (by simp [q])
      · exact last_filter h2 hm hi fun j q => hj j (by simp [q])
def fP (m n : Nat) (K : Kn) (e j : Nat) : Bool := if j < m then !sureA K e j && (decide (sizeA K n j < K.W j n) && mayJ K n e j) else !sureA K e j
def fQ (m n : Nat) (K : Kn) (e j : Nat) : Bool := !sureA K e j && !(decide (j < m) && decide (K.W j n = sizeA K n j))
theorem floorsL_head (h : KOk (n + 1) m r K) (he : e ≤ n) : floorsL m (n + 1) K e ≠ [] ∧ (floorsL m (n + 1) K e).headD 0 = leastF m (n + 1) K e ∧ (floorsL m (n + 1) K e).getLastD 0 = greatF m K e := by
  have f := fl_ok h he
  have lle := (least_can h he).le
  have gle := (great_can h he).le
  have e1 : floorsL m (n + 1) K e = (List.range (m + 1)).filter (fP m (n + 1) K e) := by
    unfold floorsL
    rw [List.range_succ, List.filter_append]
    congr 1
    · refine List.filter_congr fun j hj => ?_
      unfold fP
      rw [if_pos (List.mem_range.mp hj)]
    · have : fP m (n + 1) K e m = !sureA K e m := by unfold fP; rw [if_neg (Nat.lt_irrefl m)]
      rw [List.filter_cons, this]
      cases sureA K e m <;> simp
  have pw : (List.range (m + 1)).Pairwise (· < ·) := List.pairwise_lt_range
  have hp : ∀ i, i ≤ m → sureA K e i = false → (i < m → mayJ K (n + 1) e i = true ∧ sizeA K (n + 1) i < K.W i (n + 1)) → fP m (n + 1) K e i = true := fun i hi a b => by
    unfold fP
    by_cases q : i < m
    · rw [if_pos q, a, (b q).1, decide_eq_true (b q).2]; rfl
    · rw [if_neg q, a]; rfl
  have hl := head_filter (p := fP m (n + 1) K e) (d := 0) pw (List.mem_range.mpr (show leastF m (n + 1) K e < m + 1 by omega)) (hp _ lle f.loS f.loB) fun j hj hjl => by
    unfold fP
    rw [if_pos (by omega), f.loM j hjl]; simp
  have hg := last_filter (p := fP m (n + 1) K e) (d := 0) pw (List.mem_range.mpr (show greatF m K e < m + 1 by omega)) (hp _ gle f.hiS f.hiB) fun j hj hjl => by
    have := f.hiU j hjl (by have := List.mem_range.mp hj; omega)
    unfold fP
    rw [this]; simp
  rw [e1]
  refine ⟨fun z => ?_, hl, hg⟩
  have : leastF m (n + 1) K e ∈ (List.range (m + 1)).filter (fP m (n + 1) K e) := List.mem_filter.mpr ⟨List.mem_range.mpr (by omega), hp _ lle f.loS f.loB⟩
  rw [z] at this; simp at this
theorem floorsW_head (h : KOk (n + 1) m r K) (he : e ≤ n) : floorsW m (n + 1) K e ≠ [] ∧ (floorsW m (n + 1) K e).headD 0 = leastF m (n + 1) K e ∧ (floorsW m (n + 1) K e).getLastD 0 = greatF m K e := by
  have f := fl_ok h he
  have lle := (least_can h he).le
  have gle := (great_can h he).le
  have pw : (List.range' (leastF m (n + 1) K e) (m + 1 - leastF m (n + 1) K e)).Pairwise (· < ·) := List.pairwise_lt_range'
  have hp : ∀ i, i ≤ m → sureA K e i = false → (i < m → mayJ K (n + 1) e i = true ∧ sizeA K (n + 1) i < K.W i (n + 1)) → fQ m (n + 1) K e i = true := fun i hi a b => by
    unfold fQ
    rw [a]
    by_cases q : i < m
    · have := (b q).2
      rw [decide_eq_false (show ¬ K.W i (n + 1) = sizeA K (n + 1) i by omega)]; simp
    · rw [decide_eq_false q]; rfl
  have mem : ∀ j, leastF m (n + 1) K e ≤ j → j ≤ m → j ∈ List.range' (leastF m (n + 1) K e) (m + 1 - leastF m (n + 1) K e) := fun j h1 h2 => by
    rw [List.mem_range'_1]; omega
  have hl := head_filter (p := fQ m (n + 1) K e) (d := 0) pw (mem _ (Nat.le_refl _) lle) (hp _ lle f.loS f.loB) fun j hj hjl => by
    rw [List.mem_range'_1] at hj; omega
  have hg := last_filter (p := fQ m (n + 1) K e) (d := 0) pw (mem _ f.lh gle) (hp _ gle f.hiS f.hiB) fun j hj hjl => by
    rw [List.mem_range'_1] at hj
    unfold fQ
    rw [f.hiU j hjl (by omega)]; simp
  unfold floorsW
  refine ⟨fun z => ?_, hl, hg⟩
  have z : (List.range' (leastF m (n + 1) K e) (m + 1 - leastF m (n + 1) K e)).filter (fQ m (n + 1) K e) = [] := z
  have : leastF m (n + 1) K e ∈ (List.range' (leastF m (n + 1) K e) (m + 1 - leastF m (n + 1) K e)).filter (fQ m (n + 1) K e) := List.mem_filter.mpr ⟨mem _ (Nat.le_refl _) lle, hp _ lle f.loS f.loB⟩
  rw [z] at this; simp at this
end
/-! ### the states along a row, from its end -/
def backS (g : Bool) (n m : Nat) (r : Nat → Nat) : Kn → List Nat → (Nat → Nat)
  | K, [] => frontK n m K
  | K, x :: xs => stK n m r K x (pick g m n K (placeOf K x)) (backS g n m r (ledK n r K x (pick g m n K (placeOf K x))) xs)
def backM (g : Bool) (n m : Nat) (r : Nat → Nat) : Kn → List Nat → List (Nat × List Nat)
  | _, [] => []
  | K, x :: xs => (x, downsK n m r K x (pick g m n K (placeOf K x)) (backS g n m r (ledK n r K x (pick g m n K (placeOf K x))) xs)) :: backM g n m r (ledK n r K x (pick g m n K (placeOf K x))) xs
theorem backS_fit (g : Bool) {n m : Nat} {r : Nat → Nat} : ∀ {row : List Nat} {K : Kn}, KOk (n + 1) m r K → (∀ x ∈ row, x < n + 1) → FitS (n + 1) m K (backS g (n + 1) m r K row)
  | [], K, h, _ => front_fit h
  | x :: xs, K, h, hr => by
    have hx := hr x (by simp)
    have ih := backS_fit g (row := xs) (pick_ok g h hx) fun y hy => hr y (by simp [hy])
    exact stK_fit h hx (pick_can g h (place_lt h hx)) ih
theorem ledAll_ok (g : Bool) {n m : Nat} {r : Nat → Nat} : ∀ {row : List Nat} {K : Kn}, KOk (n + 1) m r K → (∀ x ∈ row, x < n + 1) → KOk (n + 1) m r (ledAll g (n + 1) m r K row)
  | [], K, h, _ => h
  | x :: xs, K, h, hr => ledAll_ok g (row := xs) (pick_ok g h (hr x (by simp))) fun y hy => hr y (by simp [hy])
end FK
end
section
set_option autoImplicit false
set_option linter.all false
namespace FK
/-! ### logs -/
def logK (n : Nat) (r : Nat → Nat) : Kn → List (Nat × Nat) → Kn
  | K, [] => K
  | K, p :: l => logK n r (ledK n r K p.1 p.2) l
def LogOk (n m : Nat) (r : Nat → Nat) : Kn → List (Nat × Nat) → Prop
  | _, [] => True
  | K, p :: l => p.1 < n ∧ Can n m K (placeOf K p.1) p.2 ∧ LogOk n m r (ledK n r K p.1 p.2) l
theorem led_okN {n m x i : Nat} {r : Nat → Nat} {K : Kn} (h : KOk n m r K) (hx : x < n) (c : Can n m K (placeOf K x) i) : KOk n m r (ledK n r K x i) := by
  obtain ⟨n, rfl⟩ : ∃ k, n = k + 1 := ⟨n - 1, by omega⟩
  exact led_ok h hx rfl c
theorem log_at {n m : Nat} {r : Nat → Nat} : ∀ {log : List (Nat × Nat)} {K : Kn}, KOk n m r K → LogOk n m r K log → ∀ (c : Nat) (p : Nat × Nat), log[c]? = some p →
    p.1 < n ∧ KOk n m r (logK n r K (log.take c)) ∧ Can n m (logK n r K (log.take c)) (placeOf (logK n r K (log.take c)) p.1) p.2 ∧ logK n r K (log.take (c + 1)) = ledK n r (logK n r K (log.take c)) p.1 p.2
  | [], _, _, _, c, p, e => by simp at e
  | q :: l, K, h, lo, 0, p, e => by
    obtain rfl : q = p := by simpa using e
    exact ⟨lo.1, h, lo.2.1, rfl⟩
  | q :: l, K, h, lo, c + 1, p, e => by
    have e' : l[c]? = some p := by simpa using e
    exact log_at (led_okN h lo.1 lo.2.1) lo.2.2 c p e'
theorem logK_ok {n m : Nat} {r : Nat → Nat} : ∀ {log : List (Nat × Nat)} {K : Kn}, KOk n m r K → LogOk n m r K log → KOk n m r (logK n r K log)
  | [], _, h, _ => h
  | p :: l, K, h, lo => logK_ok (log := l) (K := ledK n r K p.1 p.2) (led_okN h lo.1 lo.2.1) lo.2.2
/-! ### what follows -/
theorem pick_canN (g : Bool) {n m x : Nat} {r : Nat → Nat} {K : Kn} (h : KOk n m r K) (hx : x < n) : Can n m K (placeOf K x) (pick g m n K (placeOf K x)) := by
  obtain ⟨n, rfl⟩ : ∃ k, n = k + 1 := ⟨n - 1, by omega⟩
  exact pick_can g h (place_lt h hx)
theorem pick_okN (g : Bool) {n m x : Nat} {r : Nat → Nat} {K : Kn} (h : KOk n m r K) (hx : x < n) : KOk n m r (ledK n r K x (pick g m n K (placeOf K x))) := led_okN h hx (pick_canN g h hx)
theorem follow_len (g : Bool) {n m : Nat} {r : Nat → Nat} : ∀ {row : List Nat} {K : Kn}, (follow g n m r K row).length = row.length
  | [], _ => rfl
  | x :: xs, K => by unfold follow; rw [List.length_cons, List.length_cons, follow_len g]
theorem follow_at (g : Bool) {n m : Nat} {r : Nat → Nat} : ∀ {row : List Nat} {K : Kn}, KOk n m r K → (∀ x ∈ row, x < n) → ∀ (c x : Nat), row[c]? = some x →
    x < n ∧ KOk n m r (ledAll g n m r K (row.take c)) ∧ (follow g n m r K row)[c]? = some (pick g m n (ledAll g n m r K (row.take c)) (placeOf (ledAll g n m r K (row.take c)) x)) ∧
      ledAll g n m r K (row.take (c + 1)) = ledK n r (ledAll g n m r K (row.take c)) x (pick g m n (ledAll g n m r K (row.take c)) (placeOf (ledAll g n m r K (row.take c)) x))
  | [], _, _, _, c, x, e => by simp at e
  | y :: ys, K, h, hr, 0, x, e => by
    obtain rfl : y = x := by simpa using e
    exact ⟨hr y (by simp), h, rfl, rfl⟩
  | y :: ys, K, h, hr, c + 1, x, e => by
    have e' : ys[c]? = some x := by simpa using e
    exact follow_at g (pick_okN g h (hr y (by simp))) (fun z hz => hr z (by simp [hz])) c x e'
theorem ledAll_okN (g : Bool) {n m : Nat} {r : Nat → Nat} : ∀ {row : List Nat} {K : Kn}, KOk n m r K → (∀ x ∈ row, x < n) → KOk n m r (ledAll g n m r K row)
  | [], K, h, _ => h
  | x :: xs, K, h, hr => ledAll_okN g (row := xs) (pick_okN g h (hr x (by simp))) fun y hy => hr y (by simp [hy])
/-- the log of a pattern -/
def logOf (g : Bool) (n m : Nat) (r : Nat → Nat) (K : Kn) (row : List Nat) : List (Nat × Nat) := row.zip (follow g n m r K row)
theorem logOf_cons (g : Bool) {n m x : Nat} {r : Nat → Nat} {K : Kn} {row : List Nat} : logOf g n m r K (x :: row) = (x, pick g m n K (placeOf K x)) :: logOf g n m r (ledK n r K x (pick g m n K (placeOf K x))) row := rfl
theorem logOf_ok (g : Bool) {n m : Nat} {r : Nat → Nat} : ∀ {row : List Nat} {K : Kn}, KOk n m r K → (∀ x ∈ row, x < n) → LogOk n m r K (logOf g n m r K row) ∧ logK n r K (logOf g n m r K row) = ledAll g n m r K row
  | [], _, _, _ => ⟨trivial, rfl⟩
  | x :: xs, K, h, hr => by
    have hx := hr x (by simp)
    have ih := logOf_ok g (row := xs) (pick_okN g h hx) fun y hy => hr y (by simp [hy])
    rw [logOf_cons]
    exact ⟨⟨hx, pick_canN g h hx, ih.1⟩, ih.2⟩
end FK
end
section
set_option autoImplicit false
set_option linter.all false
namespace FK
/-! ### the order of a told start -/
def leS (st : Nat → Nat) (a b : Nat) : Bool := decide (st a < st b ∨ (st a = st b ∧ a ≤ b))
def ordOf (n : Nat) (st : Nat → Nat) : List Nat := (List.range n).mergeSort (leS st)
theorem ordOf_perm (n : Nat) (st : Nat → Nat) : (ordOf n st).Perm (List.range n) := List.mergeSort_perm _ _
theorem ordOf_le (n : Nat) (st : Nat → Nat) : (ordOf n st).Pairwise (fun a b => leS st a b = true) := by
  refine List.pairwise_mergeSort (fun a b c h1 h2 => ?_) (fun a b => ?_) _
  · have h1 := of_decide_eq_true h1
    have h2 := of_decide_eq_true h2
    exact decide_eq_true (by omega)
  · unfold leS
    by_cases h : st a < st b ∨ (st a = st b ∧ a ≤ b)
    · rw [decide_eq_true h]; rfl
    · rw [decide_eq_false h, decide_eq_true (by omega : st b < st a ∨ (st b = st a ∧ b ≤ a))]; rfl
theorem ordOf_st (n : Nat) (st : Nat → Nat) : (ordOf n st).Pairwise (fun a b => st a ≤ st b) := (ordOf_le n st).imp fun h => by
  have := of_decide_eq_true h
  omega
theorem ord_uniq {st : Nat → Nat} : ∀ {l k : List Nat}, l.Perm k → l.Pairwise (fun a b => leS st a b = true) → k.Pairwise (fun a b => leS st a b = true) → l = k
  | [], k, p, _, _ => (List.Perm.nil_eq p)
  | a :: l, [], p, _, _ => absurd p.length_eq (by simp)
  | a :: l, b :: k, p, h1, h2 => by
    have e : a = b := by
      rcases List.mem_cons.mp (p.mem_iff.mp (List.mem_cons_self (a := a) (l := l))) with e | ha
      · exact e
      · rcases List.mem_cons.mp (p.mem_iff.mpr (List.mem_cons_self (a := b) (l := k))) with e | hb
        · exact e.symm
        · have q1 := of_decide_eq_true ((List.pairwise_cons.mp h1).1 b hb)
          have q2 := of_decide_eq_true ((List.pairwise_cons.mp h2).1 a ha)
          omega
    subst e
    rw [ord_uniq (List.Perm.cons_inv p) (List.pairwise_cons.mp h1).2 (List.pairwise_cons.mp h2).2]
def firstK (n : Nat) (r : Nat → Nat) : Option (Nat → Nat) → Kn
  | none => firstN n r
  | some st => firstS n (ordOf n st) st
def StartOk (n m : Nat) (r : Nat → Nat) : Option (Nat → Nat) → Prop
  | none => RW r (m - 1) ≤ (n : Int)
  | some st => StOk n m r st
theorem firstK_ok {n m : Nat} {r : Nat → Nat} {s : Option (Nat → Nat)} (hm : 0 < m) (hr : 1 ≤ r 0) (h : StartOk n m r s) : KOk n m r (firstK n r s) := by
  cases s with
  | none => exact firstN_ok hm hr h
  | some st => exact firstS_ok hm hr (ordOf_perm n st) h
/-! ### back, for any number of things -/
theorem stK_fitN {n m x i : Nat} {r : Nat → Nat} {K : Kn} {st : Nat → Nat} (h : KOk n m r K) (hx : x < n) (c : Can n m K (placeOf K x) i) (f : FitS n m (ledK n r K x i) st) : FitS n m K (stK n m r K x i st) := by
  obtain ⟨n, rfl⟩ : ∃ k, n = k + 1 := ⟨n - 1, by omega⟩
  exact stK_fit h hx c f
/-- the states of a run, from behind; its moves -/
def bkS (n m : Nat) (r : Nat → Nat) (st : Nat → Nat) : Kn → List (Nat × Nat) → (Nat → Nat)
  | _, [] => st
  | K, p :: l => stK n m r K p.1 p.2 (bkS n m r st (ledK n r K p.1 p.2) l)
def bkM (n m : Nat) (r : Nat → Nat) (st : Nat → Nat) : Kn → List (Nat × Nat) → List (Nat × List Nat)
  | _, [] => []
  | K, p :: l => (p.1, downsK n m r K p.1 p.2 (bkS n m r st (ledK n r K p.1 p.2) l)) :: bkM n m r st (ledK n r K p.1 p.2) l
theorem bkS_fit {n m : Nat} {r st : Nat → Nat} : ∀ {log : List (Nat × Nat)} {K : Kn}, KOk n m r K → LogOk n m r K log → FitS n m (logK n r K log) st → FitS n m K (bkS n m r st K log)
  | [], _, _, _, f => f
  | p :: l, K, h, lo, f => stK_fitN h lo.1 lo.2.1 (bkS_fit (log := l) (K := ledK n r K p.1 p.2) (led_okN h lo.1 lo.2.1) lo.2.2 f)
theorem bk_len {n m : Nat} {r st : Nat → Nat} : ∀ {log : List (Nat × Nat)} {K : Kn}, (bkM n m r st K log).length = log.length
  | [], _ => rfl
  | p :: l, K => by unfold bkM; rw [List.length_cons, List.length_cons, bk_len]
/-- one step at place c, seen from the rest -/
theorem bk_at {n m : Nat} {r st : Nat → Nat} : ∀ {log : List (Nat × Nat)} {K : Kn} (c : Nat) (p : Nat × Nat), log[c]? = some p →
    bkS n m r st (logK n r K (log.take c)) (log.drop c) = stK n m r (logK n r K (log.take c)) p.1 p.2 (bkS n m r st (logK n r K (log.take (c + 1))) (log.drop (c + 1))) ∧
    (bkM n m r st K log)[c]? = some (p.1, downsK n m r (logK n r K (log.take c)) p.1 p.2 (bkS n m r st (logK n r K (log.take (c + 1))) (log.drop (c + 1))))
  | [], _, c, p, e => by simp at e
  | q :: l, K, 0, p, e => by
    obtain rfl : q = p := by simpa using e
    exact ⟨rfl, rfl⟩
  | q :: l, K, c + 1, p, e => by
    have e' : l[c]? = some p := by simpa using e
    exact bk_at (log := l) (K := ledK n r K q.1 q.2) c p e'
theorem bk_fit_at {n m : Nat} {r st : Nat → Nat} {log : List (Nat × Nat)} {K : Kn} (h : KOk n m r K) (lo : LogOk n m r K log) (f : FitS n m (logK n r K log) st) : ∀ c, c ≤ log.length → FitS n m (logK n r K (log.take c)) (bkS n m r st (logK n r K (log.take c)) (log.drop c)) := by
  intro c hc
  have : ∀ d, d ≤ log.length → FitS n m (logK n r K (log.take (log.length - d))) (bkS n m r st (logK n r K (log.take (log.length - d))) (log.drop (log.length - d))) := by
    intro d
    induction d with
    | zero =>
      intro _
      rw [Nat.sub_zero, List.take_length, List.drop_length]
      exact f
    | succ d ih =>
      intro hd
      have ih := ih (by omega)
      have hlt : log.length - (d + 1) < log.length := by omega
      obtain ⟨a1, a2, a3, a4⟩ := log_at h lo (log.length - (d + 1)) _ (List.getElem?_eq_getElem hlt)
      obtain ⟨b1, b2⟩ := bk_at (m := m) (r := r) (st := st) (K := K) (n := n) (log.length - (d + 1)) _ (List.getElem?_eq_getElem hlt)
      have e : log.length - (d + 1) + 1 = log.length - d := by omega
      rw [e] at a4 b1
      rw [b1]
      refine stK_fitN a2 a1 a3 ?_
      rw [← a4]
      exact ih
  have := this (log.length - c) (by omega)
  rwa [show log.length - (log.length - c) = c by omega] at this
end FK
end
section
set_option autoImplicit false
set_option linter.all false
namespace FK
/-! ### runs -/
inductive Run (n m : Nat) (r : Nat → Nat) : (Nat → Nat) → List (Nat × List Nat) → List Nat → Prop
  | nil (st : Nat → Nat) : Run n m r st [] []
  | cons (st fin st' : Nat → Nat) (x : Nat) (ds : List Nat) (ms : List (Nat × List Nat)) (fl : List Nat) : x < n → PD n m r x 0 (upd st x 0) ds fin → (∀ y, y < n → fin y = st' y) → Run n m r st' ms fl → Run n m r st ((x, ds) :: ms) (st x :: fl)
theorem PD.lt {n m : Nat} {r : Nat → Nat} {x : Nat} : ∀ {k : Nat} {now : Nat → Nat} {ds : List Nat} {fin : Nat → Nat}, PD n m r x k now ds fin → (∀ z ∈ ds, z < n) ∧ k ≤ m ∨ ds = []
  | _, _, _, _, .stop _ _ _ => .inr rfl
  | _, _, _, _, .step k now z ds fin hk hc hz hzk hn t => by
    refine .inl ⟨fun y hy => ?_, Nat.le_of_lt hk⟩
    rcases List.mem_cons.mp hy with e | hy
    · rw [e]; exact hz
    · rcases PD.lt t with h | h
      · exact h.1 y hy
      · rw [h] at hy; simp at hy
theorem PD.all_lt {n m : Nat} {r : Nat → Nat} {x k : Nat} {now : Nat → Nat} {ds : List Nat} {fin : Nat → Nat} (h : PD n m r x k now ds fin) : ∀ z ∈ ds, z < n := fun z hz => by
  rcases h.lt with q | q
  · exact q.1 z hz
  · rw [q] at hz; simp at hz
theorem PD.len {n m : Nat} {r : Nat → Nat} {x : Nat} : ∀ {k : Nat} {now : Nat → Nat} {ds : List Nat} {fin : Nat → Nat}, PD n m r x k now ds fin → k ≤ m → k + ds.length ≤ m
  | _, _, _, _, .stop _ _ _, h => h
  | _, _, _, _, .step k now z ds fin hk hc hz hzk hn t, _ => by
    have := PD.len t hk
    rw [List.length_cons]
    omega
theorem run_len {n m : Nat} {r : Nat → Nat} : ∀ {st : Nat → Nat} {ms : List (Nat × List Nat)} {fl : List Nat}, Run n m r st ms fl → ms.length = fl.length
  | _, _, _, .nil _ => rfl
  | _, _, _, .cons _ _ _ _ _ _ _ _ _ _ t => by rw [List.length_cons, List.length_cons, run_len t]
/-- the run back is a run -/
theorem bk_run {n m : Nat} {r st : Nat → Nat} : ∀ {log : List (Nat × Nat)} {K : Kn}, KOk n m r K → LogOk n m r K log → FitS n m (logK n r K log) st → Run n m r (bkS n m r st K log) (bkM n m r st K log) (log.map (·.2)) ∧ (bkM n m r st K log).map (·.1) = log.map (·.1)
  | [], _, _, _, _ => ⟨.nil _, rfl⟩
  | p :: l, K, h, lo, f => by
    have ok' := led_okN h lo.1 lo.2.1
    have ih := bk_run (log := l) (K := ledK n r K p.1 p.2) ok' lo.2.2 f
    have fit := bkS_fit (log := l) (K := ledK n r K p.1 p.2) ok' lo.2.2 f
    obtain ⟨n, rfl⟩ : ∃ k, n = k + 1 := ⟨n - 1, by have := lo.1; omega⟩
    obtain ⟨fin, h1, h2⟩ := stK_done h lo.1 lo.2.1 fit
    refine ⟨?_, by unfold bkM; rw [List.map_cons, List.map_cons, ih.2]⟩
    have e : (bkS (n + 1) m r st K (p :: l)) p.1 = p.2 := stK_self
    have := Run.cons (bkS (n + 1) m r st K (p :: l)) fin _ p.1 _ _ _ lo.1 h1 h2 ih.1
    rw [e] at this
    exact this
theorem logOf_snd (g : Bool) {n m : Nat} {r : Nat → Nat} {K : Kn} {row : List Nat} : (logOf g n m r K row).map (·.2) = follow g n m r K row ∧ (logOf g n m r K row).map (·.1) = row := by
  unfold logOf
  refine ⟨?_, ?_⟩
  · exact List.map_snd_zip (by rw [follow_len]; exact Nat.le_refl _)
  · exact List.map_fst_zip (by rw [follow_len]; exact Nat.le_refl _)
theorem head_ff {p : Nat → Bool} : ∀ (m k : Nat), (((List.range' k m).filter p) ++ [k + m]).headD 0 = k + ff (fun j => p (k + j)) m
  | 0, k => by simp [ff]
  | m + 1, k => by
    rw [List.range'_succ]
    unfold ff
    by_cases h : p k = true
    · rw [List.filter_cons_of_pos h, if_pos (by simpa using h)]; rfl
    · rw [List.filter_cons_of_neg h, if_neg (by simpa using h)]
      have := head_ff (p := p) m (k + 1)
      rw [show k + (m + 1) = k + 1 + m by omega, this]
      have e : (fun j => p (k + 1 + j)) = fun j => p (k + (j + 1)) := by
        funext j
        rw [show k + 1 + j = k + (j + 1) by omega]
      rw [e]
      omega
end FK
end
section
set_option autoImplicit false
set_option linter.all false
namespace FK
theorem follow_le (g : Bool) {n m : Nat} {r : Nat → Nat} : ∀ {row : List Nat} {K : Kn}, KOk n m r K → (∀ x ∈ row, x < n) → ∀ i ∈ follow g n m r K row, i ≤ m
  | [], _, _, _, i, hi => by simp [follow] at hi
  | x :: xs, K, h, hr, i, hi => by
    have c := pick_canN g h (hr x (by simp))
    unfold follow at hi
    rcases List.mem_cons.mp hi with e | hi
    · rw [e]; exact c.le
    · exact follow_le g (pick_okN g h (hr x (by simp))) (fun z hz => hr z (by simp [hz])) i hi
/-- what stands at the front of the end, run back -/
def rsS (g : Bool) (n m : Nat) (r : Nat → Nat) (K : Kn) (row : List Nat) : Nat → Nat := bkS n m r (frontK n m (logK n r K (logOf g n m r K row))) K (logOf g n m r K row)
def rsM (g : Bool) (n m : Nat) (r : Nat → Nat) (K : Kn) (row : List Nat) : List (Nat × List Nat) := bkM n m r (frontK n m (logK n r K (logOf g n m r K row))) K (logOf g n m r K row)
section
variable {n m : Nat} {r : Nat → Nat} {K : Kn} {row : List Nat}
theorem rs_all (g : Bool) (h : KOk n m r K) (hr : ∀ x ∈ row, x < n) : FitS n m K (rsS g n m r K row) ∧ StOk n m r (rsS g n m r K row) ∧ Run n m r (rsS g n m r K row) (rsM g n m r K row) (follow g n m r K row) ∧ (rsM g n m r K row).map (·.1) = row := by
  obtain ⟨lo, _⟩ := logOf_ok g h hr
  have f := front_fit (logK_ok h lo)
  have b := bkS_fit h lo f
  obtain ⟨b1, b2⟩ := bk_run h lo f
  rw [(logOf_snd g).1] at b1
  rw [(logOf_snd g).2] at b2
  exact ⟨b, b.ok h, b1, b2⟩
end
theorem run_in {n m : Nat} {r : Nat → Nat} : ∀ {st : Nat → Nat} {mv : List (Nat × List Nat)} {fl : List Nat}, Run n m r st mv fl → ∀ p ∈ mv, p.1 < n ∧ (∀ z ∈ p.2, z < n) ∧ p.2.length ≤ m
  | _, _, _, .nil _, p, hp => by simp at hp
  | _, _, _, .cons st fin st' x ds ms fl hx hpd he t, p, hp => by
    rcases List.mem_cons.mp hp with e | hp
    · rw [e]
      exact ⟨hx, hpd.all_lt, by have := hpd.len (Nat.zero_le m); simpa using this⟩
    · exact run_in t p hp
/-- a state that is a start's -/
def Begins (n m : Nat) (r : Nat → Nat) (s : Option (Nat → Nat)) (st : Nat → Nat) : Prop :=
  (s = none → ∀ j, j < m → cw n st j = RW r j) ∧ ∀ st0, s = some st0 → ∀ y, y < n → st y = st0 y
theorem fit_begins {n m : Nat} {r : Nat → Nat} {s : Option (Nat → Nat)} {st : Nat → Nat} (h : StartOk n m r s) (f : FitS n m (firstK n r s) st) : Begins n m r s st := by
  cases s with
  | none => exact ⟨fun _ j hj => firstN_fit f hj, (fun _ e => by cases e)⟩
  | some st0 => exact ⟨(fun e => by cases e), fun st1 e => by
      cases e
      exact firstS_fit (ordOf_perm n st0) (ordOf_st n st0) h f⟩
theorem ends_ok {n m : Nat} {r : Nat → Nat} {s : Option (Nat → Nat)} {st : Nat → Nat} {row fl : List Nat} (hm : 0 < m) (hr : 1 ≤ r 0) (h : StartOk n m r s) (hst : (s = none → ∀ j, j < m → cw n st j = RW r j) ∧ ∀ st0, s = some st0 → st = st0) (t : Tr n m r st row fl) :
    ∀ j, j < m → behind (follow false n m r (firstK n r s) row) j ≤ behind fl j ∧ behind fl j ≤ behind (follow true n m r (firstK n r s) row) j := by
  intro j hj
  cases n with
  | zero =>
    cases t with
    | nil => exact ⟨Int.le_refl _, Int.le_refl _⟩
    | cons _ st' x xs fl hx _ _ _ => omega
  | succ n =>
    have ok := firstK_ok (n := n + 1) hm hr h
    have b : ∀ j, j < m → BI (n + 1) ((firstK (n + 1) r s).W j) (cp (inJ st j) (firstK (n + 1) r s).order) (RW r j) 0 ∧ WI (n + 1) ((firstK (n + 1) r s).W j) (cp (inJ st j) (firstK (n + 1) r s).order) (RW r j) 0 := by
      intro j hj
      cases s with
      | none => exact firstN_BI h (hst.1 rfl) hr hj
      | some st0 =>
        obtain rfl := hst.2 st0 rfl
        exact firstS_BI (ordOf_perm _ st) (ordOf_st _ st) h hj
    have h1 := best_le (D := fun _ => 0) ok t (fun j hj => (b j hj).1) j hj
    have h2 := worst_ge (D := fun _ => 0) ok t (fun j hj => (b j hj).2) j hj
    exact ⟨by omega, by omega⟩
end FK
end
section
set_option linter.all false
set_option maxRecDepth 100000
set_option maxHeartbeats 4000000
/-! New tuples, kept with their objects: such a tuple bears no dict, so that its methods can be looked up. -/
namespace FW
open PySem PySem.Spec PyProof.Rows L2
/-- the object of a new tuple -/
abbrev tObj (its : Array Value) : Obj := { cls := .type "tuple", data := .seq its }
section
variable {X : Cx} {pins : List (Addr × Obj)} {σ : L2.St} {H : Hp} {s : Shared}
/-- a new tuple is laid, its object known -/
theorem laidT {h' : Heap} {tk : Nat} {xs : List V} {its : List Value} (I : Inv X pins σ H { s with heap := h', toks := tk }) (rel : Vals xs its) (z : xs.length ≤ sizeLine) {Q : VK} (q : ∀ p o, H p = none → o.dict = none → Q (.ref p) (upd H p (.frz o (.tup xs)))) :
    EP X pins σ Q (.ref h'.objs.size) { s with heap := h'.push (tObj its.toArray), toks := tk } :=
  ⟨.ref h'.objs.size, upd H h'.objs.size (.frz (tObj its.toArray) (.tup xs)), I.laid (t' := tk) (fun b u e => Heap.get?_push_of_some _ e) (Nat.le_refl _) ⟨Heap.get?_push_size _ rfl, z, its, rel, IsTup.new _ _⟩, rfl, q _ _ (I.hok.fresh (Nat.le_refl _)) rfl⟩
end
section
variable {X : Cx} {es : List Expr} {t : TA} {pos : Pos}
/-! ### (a, b, ..) -/
def tTupN (t : TA) : TE := fun σ H Q => t σ H fun xs H1 => xs.length ≤ sizeLine ∧ ∀ p o, H1 p = none → o.dict = none → Q (.ref p) (upd H1 p (.frz o (.tup xs)))
theorem pe_tupN {k} (h : PA X es t) : PE X (.Tuple es k pos) (tTupN t) := by
  refine ⟨fun pins s σ H Q I hq => ?_⟩
  refine wpAny_Tuple_spliced (thn (h.run pos pins s σ H _ I hq) fun us s1 ⟨xs, H1, I1, rel, z, q⟩ => ⟨by rw [← rel.length]; exact z, ?_⟩)
  exact laidT (s := s1) (tk := s1.toks) I1 rel z q
/-! ### tuple(xs) -/
def rTupOf (K : PySem.W.Frag) : List V → Hp → VK → Prop := fun xs H Q => ∃ p ys, xs = [.ref p] ∧ ((SqL K H p ys ∧ ∀ l o, H l = none → o.dict = none → Q (.ref l) (upd H l (.frz o (.tup ys)))) ∨ (SqT K H p ys ∧ Q (.ref p) H))
theorem call_tupN : CallR X (.type "tuple") (rTupOf X.K) := by
  intro pins s σ H xs us Q I r h
  obtain ⟨p, ys, rfl, ⟨sq, q⟩ | ⟨sq, q⟩⟩ := h
  · obtain ⟨u, rfl, rx⟩ := vals1 r
    cases rx
    obtain ⟨its, rel, pl, z⟩ := I.list sq
    refine call_tuple_list pl.isList (fun h' keeps => ?_) (by rw [List.size_toArray, ← rel.length]; exact z)
    have I1 : Inv X pins σ H { s with heap := h' } := I.kept (t' := s.toks) keeps
    exact laidT (s := s) (tk := s.toks) I1 rel z q
  · exact call_tuple_of pins s σ H _ us Q I r ⟨p, ys, rfl, .inr ⟨sq, q⟩⟩
/-! ### tuple(range(n)) -/
def tTupRgN (te : L2.St → Hp → (Int → Int → Hp → Prop) → Prop) : TE := fun σ H Q => te σ H fun a b H1 => RgOk a b ∧ ∀ q o, H1 q = none → o.dict = none → Q (.ref q) (upd H1 q (.frz o (.tup (rgV a b))))
theorem pe_tupRgN {e : Expr} {te : L2.St → Hp → (Int → Int → Hp → Prop) → Prop} {p pos : Pos} (calm : X.calm = true) (hg : Gl X "tuple") (hm : X.mg "tuple" = none) (he : PRg X e te) (na : starEach [e] X.env = (false, eval e X.env) :: starEach [] X.env := by rfl) : PE X (.Call (.Name "tuple" p) [e] [] pos) (tTupRgN te) := by
  refine ⟨fun pins s σ H Q I h => ?_⟩
  refine Call_ (ld_blt I hg hm boot_tuple (PyProof.Rows.callWith_type1 (args_cons (thn (he pins s σ H _ I h) fun x s1 ⟨r, a, b, t, u, v, H1, ex, rg, I1, ok, q⟩ => args_nil ?_) na) na))
  subst ex
  obtain ⟨b1, b2, b3, b4, b5⟩ := ok
  refine call_tuple_range (n := (b - a).toNat) (I1.ok.hd calm) rg (small_one b1 b2 b3 b4) (rangeSize_nat a b) b5 fun h' tk acc keeps items => ?_
  have I2 : Inv X pins σ H1 { s1 with heap := h', toks := tk } := I1.kept keeps
  exact laidT (s := s1) (tk := tk) I2 (vals_rg items) (by rw [rgV_length, sizeLine_eq]; omega) q
/-! ### t + u -/
def rCatN (K : PySem.W.Frag) : R2 := fun x y H Q => ∃ a b xs ys, x = .ref a ∧ y = .ref b ∧ SqT K H a xs ∧ SqT K H b ys ∧ xs.length + ys.length ≤ sizeLine ∧
  (xs = [] → Q (.ref b) H) ∧ (xs ≠ [] → ys = [] → Q (.ref a) H) ∧ (xs ≠ [] → ys ≠ [] → ∀ p o, H p = none → o.dict = none → Q (.ref p) (upd H p (.frz o (.tup (xs ++ ys)))))
theorem op_catN : OpR X (binaryOp .Add) (rCatN X.K) := by
  intro pins s σ H x y v u Q I rx ry h
  obtain ⟨a, b, xs, ys, rfl, rfl, ha, hb, z, q0, q1, q2⟩ := h
  by_cases e1 : xs = []
  · exact op_catA pins s σ H _ _ v u Q I rx ry ⟨a, b, xs, ys, rfl, rfl, ha, hb, z, q0, fun n => absurd e1 n, fun n => absurd e1 n⟩
  by_cases e2 : ys = []
  · exact op_catA pins s σ H _ _ v u Q I rx ry ⟨a, b, xs, ys, rfl, rfl, ha, hb, z, q0, q1, fun _ n => absurd e2 n⟩
  cases rx
  cases ry
  obtain ⟨its, r1, p1, _⟩ := I.tuple ha
  obtain ⟨its2, r2, p2, _⟩ := I.tuple hb
  refine HT.cat_tup p1 p2 (fun n => e1 (r1.nil_iff.mp n)) (fun n => absurd (r2.nil_iff.mp n) e2) (fun _ => ?_) (by rw [← r1.length, ← r2.length]; exact z)
  exact laidT (s := s) (tk := s.toks) I (r1.append r2) (by rw [List.length_append]; exact z) (q2 e1 e2)
/-! ### t[lo:hi] -/
def rSlN (K : PySem.W.Frag) : V → Option Int → Option Int → Hp → VK → Prop := fun x lo hi H Q => ∃ a xs, x = .ref a ∧ SqT K H a xs ∧
  (HT.sIx xs.length 0 lo = 0 ∧ HT.sIx xs.length xs.length hi = xs.length → Q (.ref a) H) ∧ (¬ (HT.sIx xs.length 0 lo = 0 ∧ HT.sIx xs.length xs.length hi = xs.length) → ∀ p o, H p = none → o.dict = none → Q (.ref p) (upd H p (.frz o (.tup (cutV xs lo hi)))))
theorem sl_tupN : SlR X (rSlN X.K) := by
  intro pins s σ H x v vl vu lo hi sl Q I rx hs pl pu h
  obtain ⟨a, xs, rfl, hx, q1, q2⟩ := h
  by_cases w : HT.sIx xs.length 0 lo = 0 ∧ HT.sIx xs.length xs.length hi = xs.length
  · exact sl_tupA pins s σ H _ v vl vu lo hi sl Q I rx hs pl pu ⟨a, xs, rfl, hx, q1, fun n => absurd w n⟩
  cases rx
  obtain ⟨its, rel, tup, z⟩ := I.tuple hx
  have len : its.toArray.size = xs.length := by rw [List.size_toArray]; exact rel.length.symm
  refine ⟨"tuple", _, PyProof.Rows.slot_tuple_getitem.lookup, tup.typeIs, HT.getItem_tuple_cut tup hs pl pu (by rw [len]; exact w) ?_ (by rw [len]; exact z)⟩
  rw [len]
  exact laidT (s := s) (tk := s.toks) I ((rel.drop (HT.sIx xs.length 0 lo)).take (HT.sIx xs.length xs.length hi - HT.sIx xs.length 0 lo)) (Nat.le_trans (cutV_length xs lo hi) z) (q2 w)
end
/-! ### t * k -/
section
open PySem.AutoSeq1 (wpAny_loadPart')
theorem tmul_same (l : Addr) (items : Array Value) (n : Nat) (dd : Option Addr) (sl : Array (Option Value)) (x : Int) (u : Tok) (c0 : (decide (x < -(2 ^ 63)) || decide (x ≥ 2 ^ 63)) = false) (c1 : (items.isEmpty || x == 1) = true) :
    Meets (Builtin.«tuple.__mul__» ⟨[.ref l, .int x u], []⟩) (fun _ R s => s.heap.get? l = some { cls := .type "tuple", dict := dd, data := .seq items n, slots := sl } ∧ R (.ok (.ret (Value.ref l))) s) :=
  .of_wp fun prog w A R s h => by
    obtain ⟨hp, g, d, tk, os⟩ := s
    obtain ⟨hl, h⟩ := h
    have f1 := AutoSeq1.idx_int
    wp_walk using wpAny_loadPart' hl
    repeat (first
      | (refine wpAny_ite_false (decide_eq_false (by rw [c0]; exact Bool.false_ne_true)) ?_; wp_walk using wpAny_loadPart' hl)
      | (refine wpAny_ite_true (decide_eq_true c1) ?_; wp_walk using wpAny_loadPart' hl))
    all_goals exact ⟨_, rfl, h⟩
theorem tmul_zero (l : Addr) (items : Array Value) (n : Nat) (dd : Option Addr) (sl : Array (Option Value)) (x : Int) (u : Tok) (c0 : (decide (x < -(2 ^ 63)) || decide (x ≥ 2 ^ 63)) = false) (c1 : (items.isEmpty || x == 1) = false) (c2 : (decide (x ≤ 0) || items.isEmpty) = true) :
    Meets (Builtin.«tuple.__mul__» ⟨[.ref l, .int x u], []⟩) (fun _ R s => s.heap.get? l = some { cls := .type "tuple", dict := dd, data := .seq items n, slots := sl } ∧ R (.ok (.ret (Value.ref s.heap.objs.size))) { s with heap := s.heap.push { cls := Value.type "tuple", data := Data.seq #[] }, toks := s.toks }) :=
  .of_wp fun prog w A R s h => by
    obtain ⟨hp, g, d, tk, os⟩ := s
    obtain ⟨hl, h⟩ := h
    have f1 := AutoSeq1.idx_int
    wp_walk using wpAny_loadPart' hl
    repeat (first
      | (refine wpAny_ite_false (decide_eq_false (by rw [c0]; exact Bool.false_ne_true)) ?_; wp_walk using wpAny_loadPart' hl)
      | (refine wpAny_ite_false (decide_eq_false (by rw [c1]; exact Bool.false_ne_true)) ?_; wp_walk using wpAny_loadPart' hl)
      | (refine wpAny_ite_true (decide_eq_true c2) ?_; wp_walk using wpAny_loadPart' hl))
    all_goals exact ⟨_, rfl, h⟩
end
/-- k is small and not negative, t has one item at least -/
def rRepN (K : PySem.W.Frag) : R2 := fun x y H Q => ∃ l k xs, x = .ref l ∧ y = .int k ∧ SqT K H l xs ∧ xs ≠ [] ∧ 0 ≤ k ∧ k ≤ 1000 ∧ xs.length ≤ 1000 ∧ (k = 1 → Q (.ref l) H) ∧ (k ≠ 1 → ∀ p o, H p = none → o.dict = none → Q (.ref p) (upd H p (.frz o (.tup (List.replicate k.toNat xs).flatten))))
theorem op_repN {X : Cx} : OpR X (binaryOp .Mult) (rRepN X.K) := by
  intro pins s σ H x y v u Q I rx ry h
  obtain ⟨l, k, xs, rfl, rfl, hT, some_, low, high, few, q1, q2⟩ := h
  cases rx
  obtain ⟨t, rfl⟩ := ry
  obtain ⟨its, rel, ⟨⟨cls, dd, data, sl⟩, ho, hc, n, hd⟩, _⟩ := I.tuple hT
  simp only at hc hd
  subst hc hd
  have len : its.length = xs.length := rel.length.symm
  have full : its.toArray.isEmpty = false := by
    cases its with
    | nil => exact absurd (List.eq_nil_of_length_eq_zero len.symm) some_
    | cons a b => rfl
  have size0 : its.toArray.size = xs.length := by rw [List.size_toArray, len]
  have small : ((its.toArray.size : Nat) : Int) * k ≤ 1000000 := by
    rw [size0]
    have := Int.mul_le_mul_of_nonneg_right (show ((xs.length : Nat) : Int) ≤ 1000 by omega) low
    omega
  have most : k.toNat * xs.length ≤ 1000 * 1000 := Nat.mul_le_mul (by omega) few
  have flat : (List.replicate k.toNat xs).flatten.length ≤ sizeLine := by
    rw [PyProof.Rows.lm_len_rep_flat, sizeLine_eq]
    omega
  have c0 : (decide (k < -(2 ^ 63)) || decide (k ≥ 2 ^ 63)) = false := by
    rw [decide_eq_false (by omega), decide_eq_false (by omega)] <;> rfl
  have road : ∀ {Q' E' : Value → Shared → Prop}, wpAny (model X.prog X.w) X.A (call (.builtin "tuple.__mul__") [.ref l, .int k t]) Q' E' s → wpAny (model X.prog X.w) X.A (binaryOp .Mult (.ref l) (.int k t)) Q' E' s := fun {Q' E'} c =>
    wpAny_binaryOp_repeat_ref (T := "tuple") (U := "int") (by decide) ⟨_, ho, rfl⟩ (fun s' => typeIs_int s' k t) noFill_tuple_mul F.fills_int_mul F.slot_int_rmul repeat_tuple F.slot_int_index.lookup
      (call_meets F.slot_int_rmul (typeIs_int s k t) F.entry_int_rmul (F.args_int_rmul_2 _ _) (int_rmul_tuple k t l its.toArray n dd sl) ⟨ho, rfl, ⟨_, ho, rfl⟩, c⟩)
  refine road ?_
  by_cases k1 : k = 1
  · refine call_meets F.slot_tuple_mul ⟨_, ho, rfl⟩ F.entry_tuple_mul (F.args_tuple_mul_2 _ _) (tmul_same l its.toArray n dd sl k t c0 (by rw [full, k1]; rfl)) ⟨ho, ?_⟩
    exact ⟨.ref l, H, I, rfl, q1 k1⟩
  have c1 : (its.toArray.isEmpty || k == 1) = false := by
    rw [full, Bool.false_or]
    exact beq_eq_false_iff_ne.mpr k1
  by_cases k0 : k = 0
  · subst k0
    refine call_meets F.slot_tuple_mul ⟨_, ho, rfl⟩ F.entry_tuple_mul (F.args_tuple_mul_2 _ _) (tmul_zero l its.toArray n dd sl 0 t c0 c1 (by rw [full]; rfl)) ⟨ho, ?_⟩
    exact laidT (s := s) (tk := s.toks) (its := []) I .nil (by rw [sizeLine_eq]; exact Nat.zero_le _) (q2 k1)
  · refine call_meets F.slot_tuple_mul ⟨_, ho, rfl⟩ F.entry_tuple_mul (F.args_tuple_mul_2 _ _) (tuple_mulW l its.toArray n dd sl k t c0 c1 (by rw [full, Bool.or_false]; exact decide_eq_false (by omega)) (by omega) (by unfold Builtin.Tuple.tupleTooMany; rw [sizeLine_eq]; exact decide_eq_false (by omega)) (by rw [size_rep, List.size_toArray, PyProof.Rows.lm_len_rep_flat, len, sizeLine_eq]; omega)) ⟨ho, ?_⟩
    rw [size_rep]
    exact laidT (s := s) (tk := s.toks) I (rel.rep k.toNat) flat (q2 k1)
/-! ### t.m(..) -/
def tTM (r : V → List V → Hp → VK → Prop) (to : TE) (t : TA) : TE := fun σ H Q => to σ H fun x H1 => (∃ a ob us, x = .ref a ∧ H1 a = some (.frz ob (.tup us)) ∧ ob.dict = none) ∧ t σ H1 fun xs H2 => r x xs H2 Q
theorem pe_tm {X : Cx} {o e : Expr} {es : List Expr} {name : Str} {id : String} {apos cpos : Pos} {r : V → List V → Hp → VK → Prop} {to : TE} {t : TA} (slot : Slot "tuple" name id) (kind : typeOf (.builtin id) = pure (.type "method_descriptor")) (hm : MtR X id r) (ho : PE X o to) (ha : PA X (e :: es) t)
    (b1 : attributeBase o name X.env (eval o X.env) = eval o X.env := by rfl)
    (b2 : ((backTo cpos (starEach (e :: es) X.env)).all (fun x => !x.1) && (backToKw cpos (keywordEach [] X.env)).all (fun x => x.1.isSome) && decide ((e :: es).length + ([] : List Keyword).length + (if ([] : List Keyword).isEmpty then 0 else 1) < 30)) = true := by rfl)
    (b3 : (apos.endLine == cpos.line) = true := by rfl) (b4 : starEach (e :: es) X.env = (false, eval e X.env) :: starEach es X.env := by rfl) (b5 : (backTo cpos (starEach es X.env)).any (·.1) = false := by rfl) :
    PE X (.Call (.Attribute o name apos) (e :: es) [] cpos) (tTM r to t) := by
  refine ⟨fun pins s σ H Q I h => ?_⟩
  refine wpAny_Call_method_late b1 b2 b3 rfl (thn (ho.run pins s σ H _ I h) fun v s1 ⟨x, H1, I1, r1, ty, q1⟩ => ?_)
  obtain ⟨a, ob, us, ex, hx, nd⟩ := ty
  subst ex
  obtain rfl : v = Value.ref a := r1
  obtain ⟨e1, _, its, _, o2, e2, c2, _⟩ := (show ObjOk X.prog X.w H1 s1.heap a (.frz ob (.tup us)) from I1.hok a _ hx)
  rw [e1] at e2
  cases e2
  refine ⟨"tuple", id, PySem.F.plainAttrs_tuple, slot, kind, ⟨_, e1, c2⟩, fun b eb => by cases eb; exact ⟨_, e1, nd⟩, ?_⟩
  have args := ha.run cpos pins s1 σ H1 _ I1 q1
  rw [b4] at args ⊢
  refine Calls.callWith_builtin (by show (false || (backTo cpos (starEach es X.env)).any (·.1)) = false; rw [b5] <;> rfl) (Calls.evalArgs_plain ?_)
  exact thn args fun us s2 ⟨vs, H2, I2, r2, q2⟩ => hm pins s2 σ H2 (.ref a) vs (.ref a) us Q I2 rfl r2 q2
end FW
end
section
set_option linter.all false
set_option maxRecDepth 100000
set_option maxHeartbeats 4000000
/-! The working frame: what is frozen (F) within the heap (H), lists that may change (ms), slots by what they hold (Sl); readings evaluated over these. -/
namespace FW
open PySem PySem.Spec L2
abbrev PD := PyData
/-- a new tuple, its object bears no dict -/
def TN (H : Hp) (a : Addr) (xs : List V) : Prop := ∃ o, H a = some (.frz o (.tup xs)) ∧ o.dict = none
mutual
/-- a value is that data, every tuple in it of that kind -/
inductive Dp (K : PySem.W.Frag) (H : Hp) : V → PD → Prop
  | non : Dp K H .non .none
  | bl (b : Bool) : Dp K H (.bl b) (.bool b)
  | int (i : Int) : Dp K H (.int i) (.int i)
  | str (x : Str) : Dp K H (.str x) (.str x)
  | lst {a : Addr} {xs : List V} {ds : List PD} (seq : H a = some (.lst xs)) (all : DpAll K H xs ds) : Dp K H (.ref a) (.list ds)
  | tup {a : Addr} {xs : List V} {ds : List PD} (seq : TN H a xs) (all : DpAll K H xs ds) : Dp K H (.ref a) (.tuple ds)
inductive DpAll (K : PySem.W.Frag) (H : Hp) : List V → List PD → Prop
  | nil : DpAll K H [] []
  | cons {v : V} {vs : List V} {d : PD} {ds : List PD} : Dp K H v d → DpAll K H vs ds → DpAll K H (v :: vs) (d :: ds)
end
theorem TN.sq {K : PySem.W.Frag} {H : Hp} {a : Addr} {xs : List V} (h : TN H a xs) : SqT K H a xs := .inl (.inr (h.imp fun _ e => e.1))
mutual
theorem Dp.old {K : PySem.W.Frag} {H : Hp} : ∀ (d : PD) {v : V}, Dp K H v d → L2.Dp K H v d
  | .none, _, h => by cases h; exact .non
  | .bool b, _, h => by cases h; exact .bl b
  | .int i, _, h => by cases h; exact .int i
  | .str x, _, h => by cases h; exact .str x
  | .list ds, _, h => by cases h with | lst a b => exact .lst (.inl (.inl a)) (DpAll.old ds b)
  | .tuple ds, _, h => by cases h with | tup a b => exact .tup a.sq (DpAll.old ds b)
  | .dict _, _, h => by cases h
theorem DpAll.old {K : PySem.W.Frag} {H : Hp} : ∀ (ds : List PD) {vs : List V}, DpAll K H vs ds → L2.DpAll K H vs ds
  | [], _, h => by cases h; exact .nil
  | d :: ds, _, h => by cases h with | cons a b => exact .cons (Dp.old d a) (DpAll.old ds b)
end
structure Cn where
  K : PySem.W.Frag
  B : Option Addr
  F0 : Hp
  H0 : Hp
  Fl : Hp
/-- what a slot holds: unknown | data | a list that may change | a value -/
inductive Sl where
  | un
  | dat (d : PD)
  | ml (l : Addr)
  | val (v : V)
  /-- a dict that stands -/
  | dk (kvs : List (Key × V))
  /-- a list that stands, of the module's or the caller's -/
  | ls (ds : List PD)
abbrev I (i : Int) : PD := .int i
abbrev dI (i : Int) : Sl := .dat (.int i)
abbrev dB (b : Bool) : Sl := .dat (.bool b)

/-! ### data stands -/
theorem Same.refl (H : Hp) : Same H H := fun _ _ e => e
theorem Same.trans {A B C : Hp} (p : Same A B) (q : Same B C) : Same A C := fun a o e => q a o (p a o e)
theorem same_new {H : Hp} {p : Addr} {o : HO} (h : H p = none) : Same H (upd H p o) := fun a u e => by
  rw [upd_ne (ne_of_none e h)]; exact e
theorem same_l {K : PySem.W.Frag} {A B : Hp} {a : Addr} {xs : List V} (e : Same A B) (h : SqL K A a xs) : SqL K B a xs := by
  rcases h with (h | ⟨o, h⟩) | h
  · exact .inl (.inl (e a _ h))
  · exact .inl (.inr ⟨o, e a _ h⟩)
  · exact .inr h
theorem same_n {A B : Hp} {a : Addr} {xs : List V} (e : Same A B) (h : TN A a xs) : TN B a xs := h.imp fun _ q => ⟨e a _ q.1, q.2⟩
theorem same_t {K : PySem.W.Frag} {A B : Hp} {a : Addr} {xs : List V} (e : Same A B) (h : SqT K A a xs) : SqT K B a xs := by
  rcases h with (h | ⟨o, h⟩) | h
  · exact .inl (.inl (e a _ h))
  · exact .inl (.inr ⟨o, e a _ h⟩)
  · exact .inr h
mutual
theorem dp_mono {K : PySem.W.Frag} {A B : Hp} (e : Same A B) : ∀ (d : PD) (v : V), Dp K A v d → Dp K B v d
  | .none, _, h => by cases h; exact .non
  | .bool b, _, h => by cases h; exact .bl b
  | .int i, _, h => by cases h; exact .int i
  | .str x, _, h => by cases h; exact .str x
  | .list ds, _, h => by
    cases h with
    | lst hs ha => exact .lst (e _ _ hs) (dps_mono e ds _ ha)
  | .tuple ds, _, h => by
    cases h with
    | tup hs ha => exact .tup (same_n e hs) (dps_mono e ds _ ha)
  | .dict _, _, h => by cases h
theorem dps_mono {K : PySem.W.Frag} {A B : Hp} (e : Same A B) : ∀ (ds : List PD) (vs : List V), DpAll K A vs ds → DpAll K B vs ds
  | [], _, h => by cases h; exact .nil
  | d :: ds, _, h => by
    cases h with
    | cons h1 h2 => exact .cons (dp_mono e d _ h1) (dps_mono e ds _ h2)
end
section
variable {K : PySem.W.Frag} {F : Hp}
theorem dps_len : ∀ {vs : List V} {ds : List PD}, DpAll K F vs ds → vs.length = ds.length
  | _, _, .nil => rfl
  | _, _, .cons _ t => by rw [List.length_cons, List.length_cons, dps_len t]
theorem dps_get : ∀ {vs : List V} {ds : List PD} {i : Nat} {d : PD}, DpAll K F vs ds → ds[i]? = some d → ∃ v, vs[i]? = some v ∧ Dp K F v d
  | _, _, _, _, .nil, e => by simp at e
  | _, _, 0, d, .cons (v := v) h _, e => by
    obtain rfl := Option.some.inj e
    exact ⟨v, rfl, h⟩
  | _, _, i + 1, d, .cons _ t, e => by
    obtain ⟨v, h1, h2⟩ := dps_get (i := i) t (by simpa using e)
    exact ⟨v, by simpa using h1, h2⟩
theorem dps_app : ∀ {vs us : List V} {ds es : List PD}, DpAll K F vs ds → DpAll K F us es → DpAll K F (vs ++ us) (ds ++ es)
  | _, _, _, _, .nil, h => h
  | _, _, _, _, .cons a t, h => .cons a (dps_app t h)
theorem dps_take : ∀ {vs : List V} {ds : List PD} (n : Nat), DpAll K F vs ds → DpAll K F (vs.take n) (ds.take n)
  | _, _, 0, _ => by rw [List.take_zero, List.take_zero]; exact .nil
  | _, _, n + 1, .nil => by rw [List.take_nil, List.take_nil]; exact .nil
  | _, _, n + 1, .cons a t => .cons a (dps_take n t)
theorem dps_drop : ∀ {vs : List V} {ds : List PD} (n : Nat), DpAll K F vs ds → DpAll K F (vs.drop n) (ds.drop n)
  | _, _, 0, h => h
  | _, _, n + 1, .nil => by rw [List.drop_nil, List.drop_nil]; exact .nil
  | _, _, n + 1, .cons a t => dps_drop n t
theorem dps_set {v : V} {d : PD} (hv : Dp K F v d) : ∀ {vs : List V} {ds : List PD} (n : Nat), DpAll K F vs ds → DpAll K F (vs.set n v) (ds.set n d)
  | _, _, _, .nil => .nil
  | _, _, 0, .cons _ t => .cons hv t
  | _, _, n + 1, .cons a t => .cons a (dps_set hv n t)
theorem dps_ints : ∀ {vs : List V} {ns : List Int}, DpAll K F vs (ns.map PyData.int) → vs = ns.map V.int
  | _, [], .nil => rfl
  | _, n :: ns, .cons h t => by cases h; rw [List.map_cons, ← dps_ints t]
theorem dps_of_ints : ∀ (ns : List Int), DpAll K F (ns.map V.int) (ns.map PyData.int)
  | [] => .nil
  | n :: ns => .cons (.int n) (dps_of_ints ns)
theorem dps_bools : ∀ {vs : List V} {bs : List Bool}, DpAll K F vs (bs.map PyData.bool) → vs = bs.map V.bl
  | _, [], .nil => rfl
  | _, n :: ns, .cons h t => by cases h; rw [List.map_cons, ← dps_bools t]
end

/-! ### the bag of drawn numbers -/
def BagOk (K : PySem.W.Frag) (F H : Hp) (b : Addr) : Prop :=
  F b = none ∧ ∃ (a s i : Int) (c : Addr) (cs : List Int), H b = some (.lst [.int a, .int s, .int i, .ref c]) ∧ 0 ≤ a ∧ 0 ≤ s ∧ s < 2147483647 ∧ 0 ≤ i ∧ Dp K F (.ref c) (.list (cs.map PyData.int)) ∧ (∀ z ∈ cs, 0 ≤ z) ∧ cs.length ≤ 63

/-! ### tables of code objects -/
abbrev NoT (o : HO) : Prop := ∀ ps : Array Value, o ≠ .tbl ps
/-- the defs that make a lambda: the table of their code object, the lambda's name -/
def LTab (K : PySem.W.Frag) : List (Addr × Str) := [((He.cT K ("first_knowledge", none)).2, "first_knowledge.<locals>.<lambda>"), ((He.cT K ("_law_first_known", none)).2, "_law_first_known.<locals>.<lambda>")]
def TabK (K : PySem.W.Frag) (F H : Hp) : Prop := ∀ p ∈ LTab K, F p.1 = none ∧ LamX.TabS H p.1 p.2
theorem TabK.keep {K : PySem.W.Frag} {F H F' H' : Hp} (t : TabK K F H) (k : ∀ a o, H a = some o → (∀ vs, o ≠ .lst vs) → H' a = some o) (kf : ∀ a ps, H a = some (.tbl ps) → F a = none → F' a = none) : TabK K F' H' := fun p hp => by
  obtain ⟨h1, ps, h2, h3, h4⟩ := t p hp
  refine ⟨kf _ _ h2 h1, ps, k _ _ h2 nofun, h3, fun pos cv hc => ?_⟩
  obtain ⟨c, e, hc2⟩ := h4 pos cv hc
  refine ⟨c, e, k _ _ hc2 fun vs z => ?_⟩
  unfold LamX.CodeO at z
  cases z
theorem TabK.new {K : PySem.W.Frag} {F H : Hp} {p : Addr} {o : HO} (t : TabK K F H) (h : H p = none) : TabK K F (upd H p o) := t.keep (fun a u q _ => by rw [upd_ne (ne_of_none q h)]; exact q) fun _ _ _ f => f
theorem TabK.newF {K : PySem.W.Frag} {F H F' H' : Hp} {p : Addr} {o : HO} (t : TabK K F H) (t2 : TabK K F' H') (h : H p = none) : TabK K (upd F' p o) H' := fun q hq => by
  obtain ⟨_, ps, h2, _⟩ := t q hq
  exact ⟨by rw [upd_ne (ne_of_none h2 h)]; exact (t2 q hq).1, (t2 q hq).2⟩
theorem TabK.cell {K : PySem.W.Frag} {F H : Hp} {l : Addr} {vs : List V} {o : HO} (t : TabK K F H) (h : H l = some (.lst vs)) : TabK K F (upd H l o) := t.keep (fun a u q n => by
  rw [upd_ne fun z => ?_]
  · exact q
  · subst z; rw [h] at q; cases q; exact n _ rfl) fun _ _ _ f => f
/-! ### from one moment to a later one -/
structure Go (C : Cn) (F H F' H' : Hp) : Prop where
  fx : Same F F'
  ex : Same F' H'
  kp : ∀ a o, H a = some o → F a = none → C.B ≠ some a → NoT o → H' a = some o ∧ F' a = none
  tk : ∀ a ps, H a = some (.tbl ps) → ∃ qs, H' a = some (.tbl qs)
  tb : TabK C.K F H → TabK C.K F' H'
  bg : ∀ b, C.B = some b → BagOk C.K F H b → BagOk C.K F' H' b
abbrev Cn.free (C : Cn) : Cn := { C with B := none }
theorem BagOk.at {K : PySem.W.Frag} {F H F' H' : Hp} {b : Addr} (h : BagOk K F H b) (fx : Same F F') (kp : ∀ o, H b = some o → F b = none → NoT o → H' b = some o ∧ F' b = none) : BagOk K F' H' b := by
  obtain ⟨h0, a, s, i, c, cs, e, h1, h2, h3, h4, h5, h6⟩ := h
  obtain ⟨e1, e2⟩ := kp _ e h0 nofun
  exact ⟨e2, a, s, i, c, cs, e1, h1, h2, h3, h4, dp_mono fx _ _ h5, h6⟩
theorem Go.refl {C : Cn} {F H : Hp} (h : Same F H) : Go C F H F H := ⟨Same.refl F, h, fun _ _ e f _ _ => ⟨e, f⟩, fun _ ps e => ⟨ps, e⟩, fun t => t, fun _ _ q => q⟩
theorem Go.trans {C : Cn} {F H F1 H1 F2 H2 : Hp} (a : Go C F H F1 H1) (b : Go C F1 H1 F2 H2) : Go C F H F2 H2 :=
  ⟨Same.trans a.fx b.fx, b.ex, fun x o e f n z => let ⟨p, q⟩ := a.kp x o e f n z; b.kp x o p q n z, fun x ps e => let ⟨qs, q⟩ := a.tk x ps e; b.tk x qs q, fun t => b.tb (a.tb t), fun x e q => b.bg x e (a.bg x e q)⟩
/-- a call that knows of no bag -/
theorem Go.of_free {C C' : Cn} {F H F' H' : Hp} (hB : C'.B = none) (g : Go C' F H F' H') (hK : C'.K = C.K := by rfl) : Go C F H F' H' :=
  ⟨g.fx, g.ex, fun a o e f _ n => g.kp a o e f (by rw [hB]; intro z; cases z) n, g.tk, (by rw [← hK]; exact g.tb), fun b _ q => q.at g.fx fun o e f n => g.kp b o e f (by rw [hB]; intro z; cases z) n⟩
theorem Go.hh {C : Cn} {F H F' H' : Hp} (g : Go C F H F' H') (e : Same F H) {a : Addr} {o : HO} (h : H a = some o) (n : C.B ≠ some a) (z : NoT o) : H' a = some o := by
  cases q : F a with
  | none => exact (g.kp a o h q n z).1
  | some u =>
    have := e a u q
    rw [h] at this
    cases this
    exact g.ex a _ (g.fx a _ q)
theorem Go.there {C : Cn} {F H F' H' : Hp} (g : Go C F H F' H') (e : Same F H) {a : Addr} {o : HO} (h : H a = some o) (n : C.B ≠ some a) : ∃ u, H' a = some u := by
  by_cases z : NoT o
  · exact ⟨o, g.hh e h n z⟩
  · obtain ⟨ps, hp⟩ := Classical.not_forall.mp z
    have hp := Classical.not_not.mp hp
    subst hp
    obtain ⟨qs, q⟩ := g.tk a ps h
    exact ⟨_, q⟩
/-- a new object that is frozen -/
theorem Go.new {C : Cn} {F H : Hp} {p : Addr} {o : HO} (e : Same F H) (h : H p = none) : Go C F H (upd F p o) (upd H p o) := by
  have hf : F p = none := by
    cases q : F p with
    | none => rfl
    | some u => rw [e p u q] at h; cases h
  refine ⟨same_new hf, fun a u q => ?_, fun a u q f _ _ => ?_, fun a ps q => ⟨ps, by rw [upd_ne (ne_of_none q h)]; exact q⟩, fun t => t.newF (t.new h) h, fun b _ q => q.at (same_new hf) fun u q f _ => ?_⟩
  · by_cases k : a = p
    · subst k; rw [upd_same] at q ⊢; exact q
    · rw [upd_ne k] at q ⊢; exact e a u q
  · have k : a ≠ p := ne_of_none q h
    rw [upd_ne k, upd_ne k]; exact ⟨q, f⟩
  · have k : b ≠ p := ne_of_none q h
    rw [upd_ne k, upd_ne k]; exact ⟨q, f⟩
/-- a new object that is not frozen -/
theorem Go.newM {C : Cn} {F H : Hp} {p : Addr} {o : HO} (e : Same F H) (h : H p = none) : Go C F H F (upd H p o) ∧ F p = none := by
  have hf : F p = none := by
    cases q : F p with
    | none => rfl
    | some u => rw [e p u q] at h; cases h
  refine ⟨⟨Same.refl F, fun a u q => ?_, fun a u q f _ _ => ?_, fun a ps q => ⟨ps, by rw [upd_ne (ne_of_none q h)]; exact q⟩, fun t => t.new h, fun b _ q => q.at (Same.refl F) fun u q f _ => ?_⟩, hf⟩
  · rw [upd_ne (ne_of_none q hf)]; exact e a u q
  · rw [upd_ne (ne_of_none q h)]; exact ⟨q, f⟩
  · rw [upd_ne (ne_of_none q h)]; exact ⟨q, f⟩
/-- a new object, then frozen -/
theorem Go.freeze {C : Cn} {F H F' H' : Hp} {p : Addr} {o : HO} (g : Go C F H F' H') (hn : H p = none) (hf : F' p = none) (hp : H' p = some o) : Go C F H (upd F' p o) H' := by
  refine ⟨Same.trans g.fx (same_new hf), fun a u q => ?_, fun a u q f n z => ?_, g.tk, fun t => t.newF (g.tb t) hn, fun b e q => ?_⟩
  · by_cases k : a = p
    · subst k; rw [upd_same] at q; rw [hp]; exact q
    · rw [upd_ne k] at q; exact g.ex a u q
  · obtain ⟨q1, q2⟩ := g.kp a u q f n z
    refine ⟨q1, ?_⟩
    rw [upd_ne (ne_of_none q hn)]; exact q2
  · have z := g.bg b e q
    obtain ⟨_, _, _, _, _, _, w, _⟩ := q
    have k : b ≠ p := ne_of_none w hn
    exact z.at (same_new hf) fun u q f _ => ⟨q, by rw [upd_ne k]; exact f⟩

/-! ### slots, lists that may change -/
def SlOk (K : PySem.W.Frag) (F : Hp) (v : V) : Sl → Prop
  | .un => True
  | .dat d => Dp K F v d
  | .ml l => v = .ref l
  | .val u => v = u
  | .dk kvs => ∃ p, v = .ref p ∧ F p = some (.dK kvs)
  | .ls ds => ∃ p xs, v = .ref p ∧ SqL K F p xs ∧ DpAll K F xs ds
theorem SlOk.mono {K : PySem.W.Frag} {A B : Hp} {v : V} {s : Sl} (e : Same A B) (h : SlOk K A v s) : SlOk K B v s := by
  cases s with
  | dat d => exact dp_mono e d v h
  | dk kvs => exact h.imp fun p q => ⟨q.1, e p _ q.2⟩
  | ls ds => exact h.imp fun p q => q.imp fun xs q => ⟨q.1, same_l e q.2.1, dps_mono e _ _ q.2.2⟩
  | _ => exact h
def SlotOk (K : PySem.W.Frag) (F : Hp) (x : Option (Option V)) (s : Sl) : Prop := s = .un ∨ ∃ v, x = some (some v) ∧ SlOk K F v s
abbrev Ms := List (Addr × List PD)
structure Sat (C : Cn) (F H : Hp) (σ : St) (G : List Sl) (ms : Ms) : Prop where
  fh : Same F H
  len : σ.length = G.length
  env : ∀ (i : Nat) (s : Sl), G[i]? = some s → SlotOk C.K F σ[i]? s
  cells : ∀ p ∈ ms, F p.1 = none ∧ C.B ≠ some p.1 ∧ ∃ vs, H p.1 = some (.lst vs) ∧ DpAll C.K F vs p.2
  nd : (ms.map (·.1)).Nodup
  bag : ∀ b, C.B = some b → BagOk C.K F H b
  tab : TabK C.K F H
theorem Sat.go {C : Cn} {F H F' H' : Hp} {σ : St} {G : List Sl} {ms : Ms} (S : Sat C F H σ G ms) (g : Go C F H F' H') : Sat C F' H' σ G ms :=
  ⟨g.ex, S.len, fun i s e => (S.env i s e).imp id fun ⟨v, a, b⟩ => ⟨v, a, b.mono g.fx⟩, fun p hp => by
    obtain ⟨a, b, vs, c, d⟩ := S.cells p hp
    obtain ⟨q1, q2⟩ := g.kp _ _ c a b nofun
    exact ⟨q2, b, vs, q1, dps_mono g.fx _ _ d⟩, S.nd, fun b e => g.bg b e (S.bag b e), g.tb S.tab⟩
theorem Sat.set {C : Cn} {F H : Hp} {σ : St} {G : List Sl} {ms : Ms} (S : Sat C F H σ G ms) {v : V} {s : Sl} (hv : SlOk C.K F v s) (i : Nat) : Sat C F H (σ.set i (some v)) (G.set i s) ms := by
  refine ⟨S.fh, by rw [List.length_set, List.length_set, S.len], fun j t e => ?_, S.cells, S.nd, S.bag, S.tab⟩
  by_cases k : i = j
  · subst k
    by_cases hi : i < G.length
    · rw [List.getElem?_set_self hi] at e
      cases e
      exact .inr ⟨v, List.getElem?_set_self (by rw [S.len]; exact hi), hv⟩
    · rw [List.getElem?_eq_none (by rw [List.length_set]; omega)] at e; cases e
  · rw [List.getElem?_set_ne k] at e ⊢
    exact S.env j t e
/-- forgetting -/
def wipeG (G : List Sl) : List Nat → List Sl
  | [] => G
  | v :: vs => (wipeG G vs).set v .un
theorem Sat.forget {C : Cn} {F H : Hp} {σ σ' : St} {G G' : List Sl} {ms : Ms} (S : Sat C F H σ G ms) (hl : σ'.length = σ.length) (hG : G'.length = G.length) (h : ∀ (i : Nat) (s : Sl), G'[i]? = some s → s = .un ∨ (G[i]? = some s ∧ σ'[i]? = σ[i]?)) : Sat C F H σ' G' ms :=
  ⟨S.fh, by rw [hl, hG, S.len], fun i s e => by
    rcases h i s e with q | ⟨q1, q2⟩
    · exact .inl q
    · rw [q2]; exact S.env i s q1, S.cells, S.nd, S.bag, S.tab⟩
theorem Sat.wipe {C : Cn} {F H : Hp} {σ : St} {G : List Sl} {ms : Ms} (S : Sat C F H σ G ms) : ∀ vs : List Nat, Sat C F H (L2.wipe σ vs) (wipeG G vs) ms
  | [] => S
  | v :: vs => by
    have I := Sat.wipe S vs
    refine I.forget (by show ((L2.wipe σ vs).set v none).length = _; rw [List.length_set]) (by rw [wipeG, List.length_set]) fun i s e => ?_
    unfold wipeG at e
    by_cases k : v = i
    · subst k
      by_cases hi : v < (wipeG G vs).length
      · rw [List.getElem?_set_self hi] at e; cases e; exact .inl rfl
      · rw [List.getElem?_eq_none (by rw [List.length_set]; omega)] at e; cases e
    · rw [List.getElem?_set_ne k] at e
      refine .inr ⟨e, ?_⟩
      show ((L2.wipe σ vs).set v none)[i]? = _
      rw [List.getElem?_set_ne k]

/-! ### what a reading evaluates to -/
variable (C : Cn)
def EvP (te : TE) (G : List Sl) (ms : Ms) (P : Sl → Prop) : Prop := ∀ F H σ, Sat C F H σ G ms → ∀ Q : VK, (∀ s v F' H', P s → Go C F H F' H' → SlOk C.K F' v s → Q v H') → te σ H Q
abbrev Ev (te : TE) (G : List Sl) (ms : Ms) (s : Sl) : Prop := EvP C te G ms (· = s)
def EvTP (tt : TT) (G : List Sl) (ms : Ms) (P : Bool → Prop) : Prop := ∀ F H σ, Sat C F H σ G ms → ∀ Q : Bool → Hp → Prop, (∀ b F' H', P b → Go C F H F' H' → Q b H') → tt σ H Q
abbrev EvT (tt : TT) (G : List Sl) (ms : Ms) (b : Bool) : Prop := EvTP C tt G ms (· = b)
inductive SlsOk (K : PySem.W.Frag) (F : Hp) : List V → List Sl → Prop
  | nil : SlsOk K F [] []
  | cons {v : V} {vs : List V} {s : Sl} {ss : List Sl} : SlOk K F v s → SlsOk K F vs ss → SlsOk K F (v :: vs) (s :: ss)
theorem SlsOk.mono {K : PySem.W.Frag} {A B : Hp} (e : Same A B) : ∀ {vs : List V} {ss : List Sl}, SlsOk K A vs ss → SlsOk K B vs ss
  | _, _, .nil => .nil
  | _, _, .cons h t => .cons (h.mono e) (SlsOk.mono e t)
theorem SlsOk.dps {K : PySem.W.Frag} {F : Hp} : ∀ {vs : List V} {ds : List PD}, SlsOk K F vs (ds.map Sl.dat) → DpAll K F vs ds
  | _, [], .nil => .nil
  | _, d :: ds, .cons h t => .cons h (SlsOk.dps t)
theorem SlsOk.of_dps {K : PySem.W.Frag} {F : Hp} : ∀ {vs : List V} {ds : List PD}, DpAll K F vs ds → SlsOk K F vs (ds.map Sl.dat)
  | _, _, .nil => .nil
  | _, _, .cons h t => .cons h (SlsOk.of_dps t)
theorem SlsOk.app {K : PySem.W.Frag} {F : Hp} : ∀ {vs us : List V} {ss ts : List Sl}, SlsOk K F vs ss → SlsOk K F us ts → SlsOk K F (vs ++ us) (ss ++ ts)
  | _, _, _, _, .nil, h => h
  | _, _, _, _, .cons a t, h => .cons a (SlsOk.app t h)
def EvAP (ta : TA) (G : List Sl) (ms : Ms) (P : List Sl → Prop) : Prop := ∀ F H σ, Sat C F H σ G ms → ∀ Q : List V → Hp → Prop, (∀ ss vs F' H', P ss → Go C F H F' H' → SlsOk C.K F' vs ss → Q vs H') → ta σ H Q
abbrev EvA (ta : TA) (G : List Sl) (ms : Ms) (ss : List Sl) : Prop := EvAP C ta G ms (· = ss)
/-- a new list -/
def EvLP (te : TE) (G : List Sl) (ms : Ms) (P : List PD → Prop) : Prop := ∀ F H σ, Sat C F H σ G ms → ∀ Q : VK, (∀ ds p vs F' H', P ds → H p = none → Go C F H F' H' → F' p = none → H' p = some (.lst vs) → DpAll C.K F' vs ds → Q (.ref p) H') → te σ H Q
abbrev EvL (te : TE) (G : List Sl) (ms : Ms) (ds : List PD) : Prop := EvLP C te G ms (· = ds)
/-- operations on values -/
def RvP (r : R2) (x y : Sl) (G : List Sl) (ms : Ms) (P : Sl → Prop) : Prop := ∀ F H σ vx vy, Sat C F H σ G ms → SlOk C.K F vx x → SlOk C.K F vy y → ∀ Q : VK, (∀ s v F' H', P s → Go C F H F' H' → SlOk C.K F' v s → Q v H') → r vx vy H Q
abbrev Rv (r : R2) (x y : Sl) (G : List Sl) (ms : Ms) (z : Sl) : Prop := RvP C r x y G ms (· = z)
def RuP (r : V → Hp → VK → Prop) (x : Sl) (G : List Sl) (ms : Ms) (P : Sl → Prop) : Prop := ∀ F H σ vx, Sat C F H σ G ms → SlOk C.K F vx x → ∀ Q : VK, (∀ s v F' H', P s → Go C F H F' H' → SlOk C.K F' v s → Q v H') → r vx H Q
abbrev Ru (r : V → Hp → VK → Prop) (x : Sl) (G : List Sl) (ms : Ms) (z : Sl) : Prop := RuP C r x G ms (· = z)
def RcP (r : List V → Hp → VK → Prop) (ss : List Sl) (G : List Sl) (ms : Ms) (P : Sl → Prop) : Prop := ∀ F H σ vs, Sat C F H σ G ms → SlsOk C.K F vs ss → ∀ Q : VK, (∀ s v F' H', P s → Go C F H F' H' → SlOk C.K F' v s → Q v H') → r vs H Q
abbrev Rc (r : List V → Hp → VK → Prop) (ss : List Sl) (G : List Sl) (ms : Ms) (z : Sl) : Prop := RcP C r ss G ms (· = z)
def RcLP (r : List V → Hp → VK → Prop) (ss : List Sl) (G : List Sl) (ms : Ms) (P : List PD → Prop) : Prop := ∀ F H σ vs, Sat C F H σ G ms → SlsOk C.K F vs ss → ∀ Q : VK, (∀ ds p us F' H', P ds → H p = none → Go C F H F' H' → F' p = none → H' p = some (.lst us) → DpAll C.K F' us ds → Q (.ref p) H') → r vs H Q
abbrev RcL (r : List V → Hp → VK → Prop) (ss : List Sl) (G : List Sl) (ms : Ms) (ds : List PD) : Prop := RcLP C r ss G ms (· = ds)
variable {C : Cn} {G : List Sl} {ms : Ms} {te ta tb tx : TE} {tt uu : TT} {tr : TA} {s x y z : Sl} {r : R2}
theorem EvP.imp {P P' : Sl → Prop} (h : EvP C te G ms P) (f : ∀ s, P s → P' s) : EvP C te G ms P' := fun F H σ S Q q => h F H σ S Q fun s v F' H' p => q s v F' H' (f s p)
theorem EvP.of {P : Sl → Prop} {s : Sl} (h : Ev C te G ms s) (f : P s) : EvP C te G ms P := h.imp fun _ e => e ▸ f
theorem Ev.is {s s' : Sl} (h : Ev C te G ms s) (e : s = s') : Ev C te G ms s' := e ▸ h
theorem EvTP.imp {P P' : Bool → Prop} (h : EvTP C tt G ms P) (f : ∀ s, P s → P' s) : EvTP C tt G ms P' := fun F H σ S Q q => h F H σ S Q fun s F' H' p => q s F' H' (f s p)
theorem EvT.is {b b' : Bool} (h : EvT C tt G ms b) (e : b = b') : EvT C tt G ms b' := e ▸ h
theorem EvL.is {ds ds' : List PD} (h : EvL C te G ms ds) (e : ds = ds') : EvL C te G ms ds' := e ▸ h
theorem EvLP.imp {P P' : List PD → Prop} (h : EvLP C te G ms P) (f : ∀ s, P s → P' s) : EvLP C te G ms P' := fun F H σ S Q q => h F H σ S Q fun ds p vs F' H' a => q ds p vs F' H' (f ds a)
theorem EvA.is {ss ss' : List Sl} (h : EvA C tr G ms ss) (e : ss = ss') : EvA C tr G ms ss' := e ▸ h
/-- a new list is data, once it is not changed any more -/
theorem EvLP.data {P : List PD → Prop} {P' : Sl → Prop} (h : EvLP C te G ms P) (f : ∀ ds, P ds → P' (.dat (.list ds))) : EvP C te G ms P' := fun F H σ S Q q => h F H σ S Q fun ds p vs F' H' hp hn g hf hh hd => by
  refine q _ _ (upd F' p (.lst vs)) H' (f ds hp) (g.freeze hn hf hh) ?_
  exact .lst upd_same (dps_mono (same_new hf) _ _ hd)
theorem EvL.data {ds : List PD} (h : EvL C te G ms ds) : Ev C te G ms (.dat (.list ds)) := EvLP.data h fun _ e => e ▸ rfl

theorem ev_var {i : Nat} (h : G[i]? = some s) (hs : s ≠ .un) : Ev C (tVar i) G ms s := fun F H σ S Q q => by
  rcases S.env i s h with e | ⟨v, e1, e2⟩
  · exact absurd e hs
  · exact ⟨v, e1, q s v F H rfl (Go.refl S.fh) e2⟩
theorem ev_int {i : Int} : Ev C (tC (.int i)) G ms (dI i) := fun F H _ S _ q => q _ _ F H rfl (Go.refl S.fh) (.int i)
theorem ev_bl {b : Bool} : Ev C (tC (.bl b)) G ms (dB b) := fun F H _ S _ q => q _ _ F H rfl (Go.refl S.fh) (.bl b)
theorem ev_str {x : Str} : Ev C (tC (.str x)) G ms (.dat (.str x)) := fun F H _ S _ q => q _ _ F H rfl (Go.refl S.fh) (.str x)
theorem ev_non : Ev C (tC .non) G ms (.dat .none) := fun F H _ S _ q => q _ _ F H rfl (Go.refl S.fh) .non
theorem ev_val {v : V} : Ev C (tC v) G ms (.val v) := fun F H _ S _ q => q _ _ F H rfl (Go.refl S.fh) rfl
theorem evp_op {Px Py Pz : Sl → Prop} (ha : EvP C ta G ms Px) (hb : EvP C tb G ms Py) (hr : ∀ x y, Px x → Py y → RvP C r x y G ms Pz) : EvP C (tOp r ta tb) G ms Pz := fun F H σ S Q q =>
  ha F H σ S _ fun x vx F1 H1 px g1 k1 => hb F1 H1 σ (S.go g1) _ fun y vy F2 H2 py g2 k2 => hr x y px py F2 H2 σ vx vy ((S.go g1).go g2) (k1.mono g2.fx) k2 Q fun s v F3 H3 pz g3 k3 => q s v F3 H3 pz ((g1.trans g2).trans g3) k3
theorem ev_op (ha : Ev C ta G ms x) (hb : Ev C tb G ms y) (hr : Rv C r x y G ms z) : Ev C (tOp r ta tb) G ms z := evp_op ha hb fun _ _ a b => by subst a b; exact hr
theorem evp_un {Px Pz : Sl → Prop} {r : V → Hp → VK → Prop} (ha : EvP C ta G ms Px) (hr : ∀ x, Px x → RuP C r x G ms Pz) : EvP C (tUn r ta) G ms Pz := fun F H σ S Q q =>
  ha F H σ S _ fun x vx F1 H1 px g1 k1 => hr x px F1 H1 σ vx (S.go g1) k1 Q fun s v F3 H3 pz g3 k3 => q s v F3 H3 pz (g1.trans g3) k3
theorem ev_un {r : V → Hp → VK → Prop} (ha : Ev C ta G ms x) (hr : Ru C r x G ms z) : Ev C (tUn r ta) G ms z := evp_un ha fun _ a => by subst a; exact hr
theorem dp_int {K : PySem.W.Frag} {F : Hp} {v : V} {i : Int} (h : Dp K F v (.int i)) : v = .int i := by cases h; rfl
theorem dp_bl {K : PySem.W.Frag} {F : Hp} {v : V} {i : Bool} (h : Dp K F v (.bool i)) : v = .bl i := by cases h; rfl
theorem dp_non {K : PySem.W.Frag} {F : Hp} {v : V} (h : Dp K F v .none) : v = .non := by cases h; rfl
theorem dp_str {K : PySem.W.Frag} {F : Hp} {v : V} {x : Str} (h : Dp K F v (.str x)) : v = .str x := by cases h; rfl
theorem dp_list {K : PySem.W.Frag} {F : Hp} {v : V} {ds : List PD} (h : Dp K F v (.list ds)) : ∃ a xs, v = .ref a ∧ SqL K F a xs ∧ DpAll K F xs ds := by cases h with | lst h1 h2 => exact ⟨_, _, rfl, .inl (.inl h1), h2⟩
theorem dp_listN {K : PySem.W.Frag} {F : Hp} {v : V} {ds : List PD} (h : Dp K F v (.list ds)) : ∃ a xs, v = .ref a ∧ F a = some (.lst xs) ∧ DpAll K F xs ds := by cases h with | lst h1 h2 => exact ⟨_, _, rfl, h1, h2⟩
theorem dp_tup {K : PySem.W.Frag} {F : Hp} {v : V} {ds : List PD} (h : Dp K F v (.tuple ds)) : ∃ a xs, v = .ref a ∧ SqT K F a xs ∧ DpAll K F xs ds := by cases h with | tup h1 h2 => exact ⟨_, _, rfl, h1.sq, h2⟩
theorem rv_i {g : Int → Int → Int} {i j : Int} : Rv C (rI0 fun a b => .int (g a b)) (dI i) (dI j) G ms (dI (g i j)) := fun F H σ vx vy S hx hy Q q =>
  ⟨i, j, dp_int hx, dp_int hy, q _ _ F H rfl (Go.refl S.fh) (.int _)⟩
theorem rv_b {g : Int → Int → Bool} {i j : Int} : Rv C (rI0 fun a b => .bl (g a b)) (dI i) (dI j) G ms (dB (g i j)) := fun F H σ vx vy S hx hy Q q =>
  ⟨i, j, dp_int hx, dp_int hy, q _ _ F H rfl (Go.refl S.fh) (.bl _)⟩
theorem rv_iC {g : Int → Int → Int} {c : Int → Int → Prop} {i j : Int} (h : c i j) : Rv C (rI c fun a b => .int (g a b)) (dI i) (dI j) G ms (dI (g i j)) := fun F H σ vx vy S hx hy Q q =>
  ⟨i, j, dp_int hx, dp_int hy, h, q _ _ F H rfl (Go.refl S.fh) (.int _)⟩
/-- == of plain values -/
def plain : PD → Bool
  | .none => true
  | .bool _ => true
  | .int _ => true
  | .str _ => true
  | _ => false
def vOf : PD → V
  | .bool b => .bl b
  | .int i => .int i
  | .str x => .str x
  | _ => .non
theorem dp_plain {K : PySem.W.Frag} {F : Hp} {v : V} {d : PD} (h : Dp K F v d) (hp : plain d = true) : v = vOf d := by
  cases h with
  | lst _ _ => cases hp
  | tup _ _ => cases hp
  | _ => rfl
theorem rv_eqI {i j : Int} : Rv C rEq (dI i) (dI j) G ms (dB (decide (i = j))) := fun F H σ vx vy S hx hy Q q => by
  obtain rfl := dp_int hx
  obtain rfl := dp_int hy
  refine ⟨rfl, ?_⟩
  have e : decide (V.int i = V.int j) = decide (i = j) := decide_eq_decide.mpr ⟨fun z => V.int.inj z, fun z => z ▸ rfl⟩
  rw [e]
  exact q _ _ F H rfl (Go.refl S.fh) (.bl _)
theorem rv_neI {i j : Int} : Rv C rNe (dI i) (dI j) G ms (dB (!decide (i = j))) := fun F H σ vx vy S hx hy Q q => by
  obtain rfl := dp_int hx
  obtain rfl := dp_int hy
  refine ⟨rfl, ?_⟩
  have e : decide (V.int i = V.int j) = decide (i = j) := decide_eq_decide.mpr ⟨fun z => V.int.inj z, fun z => z ▸ rfl⟩
  rw [e]
  exact q _ _ F H rfl (Go.refl S.fh) (.bl _)
theorem rv_eqS {i j : Str} : Rv C rEq (.dat (.str i)) (.dat (.str j)) G ms (dB (decide (i = j))) := fun F H σ vx vy S hx hy Q q => by
  obtain rfl := dp_str hx
  obtain rfl := dp_str hy
  refine ⟨rfl, ?_⟩
  have e : decide (V.str i = V.str j) = decide (i = j) := decide_eq_decide.mpr ⟨fun z => V.str.inj z, fun z => z ▸ rfl⟩
  rw [e]
  exact q _ _ F H rfl (Go.refl S.fh) (.bl _)
theorem rv_eqD {d e : PD} (h1 : SeqAt.shaped d = true) (h2 : SeqAt.shaped e = true) : Rv C (rEqD C.K) (.dat d) (.dat e) G ms (dB (PyData.eqv d e)) := fun F H σ vx vy S hx hy Q q =>
  ⟨d, e, (dp_mono S.fh _ _ hx).old, (dp_mono S.fh _ _ hy).old, h1, h2, q _ _ F H rfl (Go.refl S.fh) (.bl _)⟩
theorem rv_neD {d e : PD} (h1 : SeqAt.shaped d = true) (h2 : SeqAt.shaped e = true) : Rv C (rNeD C.K) (.dat d) (.dat e) G ms (dB (!PyData.eqv d e)) := fun F H σ vx vy S hx hy Q q =>
  ⟨d, e, (dp_mono S.fh _ _ hx).old, (dp_mono S.fh _ _ hy).old, h1, h2, q _ _ F H rfl (Go.refl S.fh) (.bl _)⟩
/-- is None -/
def isN : PD → Bool
  | .none => true
  | _ => false
theorem dp_isN {K : PySem.W.Frag} {F : Hp} {v : V} {d : PD} (h : Dp K F v d) : decide (v = .non) = isN d := by
  cases h <;> first | rfl | simp [isN]
theorem ev_isN {d : PD} (ha : Ev C ta G ms (.dat d)) : Ev C (tIsN ta) G ms (dB (isN d)) := fun F H σ S Q q => ha F H σ S _ fun s v F1 H1 e g k => by
  subst e
  rw [dp_isN k]
  exact q _ _ F1 H1 rfl g (.bl _)
theorem ev_notN {d : PD} (ha : Ev C ta G ms (.dat d)) : Ev C (tNotN ta) G ms (dB (!isN d)) := fun F H σ S Q q => ha F H σ S _ fun s v F1 H1 e g k => by
  subst e
  rw [dp_isN k]
  exact q _ _ F1 H1 rfl g (.bl _)
theorem atI_map {α β : Type} (f : α → β) (xs : List α) (i : Int) : atI (xs.map f) i = (atI xs i).map f := by
  unfold atI
  rw [List.length_map]
  cases ixN xs.length i with
  | none => rfl
  | some j => simp
theorem dps_at {K : PySem.W.Frag} {F : Hp} {vs : List V} {ds : List PD} {i : Int} {d : PD} (h : DpAll K F vs ds) (e : atI ds i = some d) : ∃ v, atI vs i = some v ∧ Dp K F v d := by
  unfold atI at e ⊢
  rw [dps_len h]
  cases q : ixN ds.length i with
  | none => rw [q] at e; cases e
  | some j => rw [q] at e; exact dps_get h e
theorem rv_ixL {ds : List PD} {i : Int} {d : PD} (h : atI ds i = some d) : Rv C (rIx C.K) (.dat (.list ds)) (dI i) G ms (.dat d) := fun F H σ vx vy S hx hy Q q => by
  obtain ⟨a, xs, rfl, h1, h2⟩ := dp_list hx
  obtain ⟨v, h3, h4⟩ := dps_at h2 h
  exact .inl ⟨a, xs, i, v, rfl, dp_int hy, same_l S.fh h1, h3, q _ _ F H rfl (Go.refl S.fh) h4⟩
theorem rv_ixT {ds : List PD} {i : Int} {d : PD} (h : atI ds i = some d) : Rv C (rIx C.K) (.dat (.tuple ds)) (dI i) G ms (.dat d) := fun F H σ vx vy S hx hy Q q => by
  obtain ⟨a, xs, rfl, h1, h2⟩ := dp_tup hx
  obtain ⟨v, h3, h4⟩ := dps_at h2 h
  exact .inr (.inl ⟨a, xs, i, v, rfl, dp_int hy, same_t S.fh h1, h3, q _ _ F H rfl (Go.refl S.fh) h4⟩)
theorem rv_ixM {l : Addr} {ds : List PD} {i : Int} {d : PD} (hm : (l, ds) ∈ ms) (h : atI ds i = some d) : Rv C (rIx C.K) (.ml l) (dI i) G ms (.dat d) := fun F H σ vx vy S hx hy Q q => by
  obtain rfl : vx = .ref l := hx
  obtain ⟨_, _, xs, h1, h2⟩ := S.cells _ hm
  obtain ⟨v, h3, h4⟩ := dps_at h2 h
  exact .inl ⟨l, xs, i, v, rfl, dp_int hy, .inl (.inl h1), h3, q _ _ F H rfl (Go.refl S.fh) h4⟩
theorem inV_ints (i : Int) (ns : List Int) : inV (.int i) (ns.map V.int) = decide (i ∈ ns) ∧ (ns.map V.int).all flatV = true := by
  induction ns with
  | nil => exact ⟨rfl, rfl⟩
  | cons n ns ih =>
    refine ⟨?_, by rw [List.map_cons, List.all_cons, ih.2]; rfl⟩
    unfold inV at ih ⊢
    rw [List.map_cons, List.any_cons, ih.1]
    have e : eqV (.int n) (.int i) = decide (n = i) := rfl
    rw [e, ← Bool.decide_or]
    refine decide_eq_decide.mpr ?_
    rw [List.mem_cons]
    exact ⟨fun z => z.elim (fun e => .inl e.symm) .inr, fun z => z.elim (fun e => .inl e.symm) .inr⟩
theorem rv_inL {neg : Bool} {ns : List Int} {i : Int} : Rv C (rIn C.K neg) (dI i) (.dat (.list (ns.map PyData.int))) G ms (dB (if neg then !decide (i ∈ ns) else decide (i ∈ ns))) := fun F H σ vx vy S hx hy Q q => by
  obtain rfl := dp_int hx
  obtain ⟨a, xs, rfl, h1, h2⟩ := dp_list hy
  obtain rfl := dps_ints h2
  have := inV_ints i ns
  refine ⟨a, _, rfl, .inl (same_l S.fh h1), rfl, this.2, ?_⟩
  rw [this.1]
  exact q _ _ F H rfl (Go.refl S.fh) (.bl _)

/-! tests -/
theorem et_B {b : Bool} (h : Ev C te G ms (dB b)) : EvT C (tB te) G ms b := fun F H σ S Q q => h F H σ S _ fun s v F1 H1 e g k => by
  subst e; obtain rfl := dp_bl k; exact ⟨b, rfl, q b F1 H1 rfl g⟩
theorem etp_B {P : Bool → Prop} (h : EvP C te G ms (fun s => ∃ b, s = dB b ∧ P b)) : EvTP C (tB te) G ms P := fun F H σ S Q q => h F H σ S _ fun s v F1 H1 e g k => by
  obtain ⟨b, rfl, p⟩ := e; obtain rfl := dp_bl k; exact ⟨b, rfl, q b F1 H1 p g⟩
theorem et_test {b : Bool} (h : Ev C te G ms (dB b)) : EvT C (tTest te) G ms b := fun F H σ S Q q => h F H σ S _ fun s v F1 H1 e g k => by
  subst e; obtain rfl := dp_bl k; exact ⟨b, rfl, q b F1 H1 rfl g⟩
theorem etp_test {P : Bool → Prop} (h : EvP C te G ms (fun s => ∃ b, s = dB b ∧ P b)) : EvTP C (tTest te) G ms P := fun F H σ S Q q => h F H σ S _ fun s v F1 H1 e g k => by
  obtain ⟨b, rfl, p⟩ := e; obtain rfl := dp_bl k; exact ⟨b, rfl, q b F1 H1 p g⟩
theorem et_and {a b : Bool} (h1 : EvT C tt G ms a) (h2 : a = true → EvT C uu G ms b) : EvT C (tAnd tt uu) G ms (a && b) := fun F H σ S Q q => h1 F H σ S _ fun c F1 H1 e g => by
  subst e
  cases c with
  | true => exact h2 rfl F1 H1 σ (S.go g) Q fun c F2 H2 e g2 => q c F2 H2 (by rw [e]; rfl) (g.trans g2)
  | false => exact q false F1 H1 rfl g
theorem et_or {a b : Bool} (h1 : EvT C tt G ms a) (h2 : a = false → EvT C uu G ms b) : EvT C (tOr tt uu) G ms (a || b) := fun F H σ S Q q => h1 F H σ S _ fun c F1 H1 e g => by
  subst e
  cases c with
  | true => exact q true F1 H1 rfl g
  | false => exact h2 rfl F1 H1 σ (S.go g) Q fun c F2 H2 e g2 => q c F2 H2 (by rw [e]; rfl) (g.trans g2)
theorem et_not {a : Bool} (h1 : EvT C tt G ms a) : EvT C (tNot tt) G ms (!a) := fun F H σ S Q q => h1 F H σ S _ fun c F1 H1 e g => q _ F1 H1 (by rw [e]) g
theorem ev_andV {a b : Bool} (h1 : Ev C ta G ms (dB a)) (h2 : a = true → Ev C tb G ms (dB b)) : Ev C (tAndV ta tb) G ms (dB (a && b)) := fun F H σ S Q q => h1 F H σ S _ fun s v F1 H1 e g k => by
  subst e; obtain rfl := dp_bl k
  refine ⟨a, rfl, ?_⟩
  cases a with
  | true => exact h2 rfl F1 H1 σ (S.go g) Q fun c v2 F2 H2 e g2 => q c v2 F2 H2 (by rw [e]; rfl) (g.trans g2)
  | false => exact q _ _ F1 H1 rfl g (.bl _)
theorem ev_orV {a b : Bool} (h1 : Ev C ta G ms (dB a)) (h2 : a = false → Ev C tb G ms (dB b)) : Ev C (tOrV ta tb) G ms (dB (a || b)) := fun F H σ S Q q => h1 F H σ S _ fun s v F1 H1 e g k => by
  subst e; obtain rfl := dp_bl k
  refine ⟨a, rfl, ?_⟩
  cases a with
  | true => exact q _ _ F1 H1 rfl g (.bl _)
  | false => exact h2 rfl F1 H1 σ (S.go g) Q fun c v2 F2 H2 e g2 => q c v2 F2 H2 (by rw [e]; rfl) (g.trans g2)
theorem ev_notV {a : Bool} (h1 : Ev C ta G ms (dB a)) : Ev C (tNotV ta) G ms (dB (!a)) := fun F H σ S Q q => h1 F H σ S _ fun s v F1 H1 e g k => by
  subst e; obtain rfl := dp_bl k
  exact ⟨a, rfl, q _ _ F1 H1 rfl g (.bl _)⟩
theorem evp_if {P : Sl → Prop} {Pb : Bool → Prop} (h : EvTP C tt G ms Pb) (h1 : Pb true → EvP C ta G ms P) (h2 : Pb false → EvP C tb G ms P) : EvP C (tIf tt ta tb) G ms P := fun F H σ S Q q => h F H σ S _ fun c F1 H1 e g => by
  cases c with
  | true => exact h1 e F1 H1 σ (S.go g) Q fun c v2 F2 H2 e g2 => q c v2 F2 H2 e (g.trans g2)
  | false => exact h2 e F1 H1 σ (S.go g) Q fun c v2 F2 H2 e g2 => q c v2 F2 H2 e (g.trans g2)
theorem ev_if {b : Bool} (h : EvT C tt G ms b) (h1 : b = true → Ev C ta G ms s) (h2 : b = false → Ev C tb G ms s) : Ev C (tIf tt ta tb) G ms s := evp_if h (fun e => h1 e.symm) (fun e => h2 e.symm)
theorem evl_if {P : List PD → Prop} {Pb : Bool → Prop} (h : EvTP C tt G ms Pb) (h1 : Pb true → EvLP C ta G ms P) (h2 : Pb false → EvLP C tb G ms P) : EvLP C (tIf tt ta tb) G ms P := fun F H σ S Q q => h F H σ S _ fun c F1 H1 e g => by
  have back : ∀ {p}, H1 p = none → H p = none := fun {p} hn => by
    cases w : H p with
    | none => rfl
    | some o =>
      by_cases k : C.B = some p
      · obtain ⟨_, _, _, _, _, _, w2, _⟩ := g.bg p k (S.bag p k)
        rw [w2] at hn; cases hn
      · obtain ⟨u, z⟩ := g.there S.fh w k
        rw [z] at hn; cases hn
  cases c with
  | true => exact h1 e F1 H1 σ (S.go g) Q fun ds p vs F2 H2 e hn g2 => q ds p vs F2 H2 e (back hn) (g.trans g2)
  | false => exact h2 e F1 H1 σ (S.go g) Q fun ds p vs F2 H2 e hn g2 => q ds p vs F2 H2 e (back hn) (g.trans g2)
theorem back_none {F H F1 H1 : Hp} {σ : St} {p : Addr} (S : Sat C F H σ G ms) (g : Go C F H F1 H1) (hn : H1 p = none) : H p = none := by
  cases w : H p with
  | none => rfl
  | some o =>
    by_cases k : C.B = some p
    · obtain ⟨_, _, _, _, _, _, w2, _⟩ := g.bg p k (S.bag p k)
      rw [w2] at hn; cases hn
    · obtain ⟨u, z⟩ := g.there S.fh w k
      rw [z] at hn; cases hn

/-! lists of arguments, displays -/
theorem ea_nil : EvA C tNil G ms [] := fun F H _ S _ q => q [] [] F H rfl (Go.refl S.fh) .nil
theorem eap_cons {P : Sl → Prop} {Ps Pt : List Sl → Prop} (h : EvP C ta G ms P) (hr : EvAP C tr G ms Ps) (f : ∀ s ss, P s → Ps ss → Pt (s :: ss)) : EvAP C (tCons ta tr) G ms Pt := fun F H σ S Q q =>
  h F H σ S _ fun s v F1 H1 e g k => hr F1 H1 σ (S.go g) _ fun ss vs F2 H2 e2 g2 k2 => q _ _ F2 H2 (f s ss e e2) (g.trans g2) (.cons (k.mono g2.fx) k2)
theorem ea_cons {ss : List Sl} (h : Ev C ta G ms s) (hr : EvA C tr G ms ss) : EvA C (tCons ta tr) G ms (s :: ss) := eap_cons h hr fun _ _ a b => by rw [a, b]
/-- *e -/
theorem ea_starT {ds : List PD} {ss : List Sl} (h : Ev C ta G ms (.dat (.tuple ds))) (hr : EvA C tr G ms ss) : EvA C (StX.tStar C.K ta tr) G ms (ds.map Sl.dat ++ ss) := fun F H σ S Q q =>
  h F H σ S _ fun s v F1 H1 e g k => by
    subst e
    obtain ⟨a, xs, rfl, h1, h2⟩ := dp_tup k
    exact ⟨a, xs, rfl, .inl (same_t g.ex h1), hr F1 H1 σ (S.go g) _ fun ss vs F2 H2 e2 g2 k2 => q _ _ F2 H2 (by rw [e2]) (g.trans g2) (.app (.of_dps (dps_mono g2.fx _ _ h2)) k2)⟩
theorem ea_starL {ds : List PD} {ss : List Sl} (h : Ev C ta G ms (.dat (.list ds))) (hr : EvA C tr G ms ss) : EvA C (StX.tStar C.K ta tr) G ms (ds.map Sl.dat ++ ss) := fun F H σ S Q q =>
  h F H σ S _ fun s v F1 H1 e g k => by
    subst e
    obtain ⟨a, xs, rfl, h1, h2⟩ := dp_list k
    exact ⟨a, xs, rfl, .inr (same_l g.ex h1), hr F1 H1 σ (S.go g) _ fun ss vs F2 H2 e2 g2 k2 => q _ _ F2 H2 (by rw [e2]) (g.trans g2) (.app (.of_dps (dps_mono g2.fx _ _ h2)) k2)⟩
theorem sl_inj : ∀ {ds : List PD} {ss : List Sl}, ss = ds.map Sl.dat → ss = ds.map Sl.dat := fun h => h
theorem sz_ok {n : Nat} (h : n ≤ 100000) : n ≤ sizeLine := Nat.le_trans h (by decide)
theorem evp_tup {Ps : List Sl → Prop} {P : Sl → Prop} (h : EvAP C tr G ms Ps) (f : ∀ ss, Ps ss → ∃ ds : List PD, ss = ds.map Sl.dat ∧ ds.length ≤ 100000 ∧ P (.dat (.tuple ds))) : EvP C (tTupN tr) G ms P := fun F H σ S Q q =>
  h F H σ S _ fun ss vs F1 H1 e g k => by
    obtain ⟨ds, rfl, hl, hp⟩ := f ss e
    have k := k.dps
    refine ⟨by rw [dps_len k]; exact sz_ok hl, fun p o hn ho => ?_⟩
    have g2 : Go C F1 H1 (upd F1 p (.frz o (.tup vs))) (upd H1 p (.frz o (.tup vs))) := Go.new g.ex hn
    exact q _ _ _ _ hp (g.trans g2) (.tup ⟨o, upd_same, ho⟩ (dps_mono g2.fx _ _ k))
theorem ev_tup {ds : List PD} (h : EvA C tr G ms (ds.map Sl.dat)) (hl : ds.length ≤ 100000) : Ev C (tTupN tr) G ms (.dat (.tuple ds)) := evp_tup h fun _ e => ⟨ds, e, hl, rfl⟩
theorem evlp_lst {Ps : List Sl → Prop} {P : List PD → Prop} (h : EvAP C tr G ms Ps) (f : ∀ ss, Ps ss → ∃ ds : List PD, ss = ds.map Sl.dat ∧ ds.length ≤ 100000 ∧ P ds) : EvLP C (tLst tr) G ms P := fun F H σ S Q q =>
  h F H σ S _ fun ss vs F1 H1 e g k => by
    obtain ⟨ds, rfl, hl, hp⟩ := f ss e
    have k := k.dps
    refine ⟨by rw [dps_len k]; exact sz_ok hl, fun p hn => ?_⟩
    obtain ⟨g2, hf⟩ := Go.newM (C := C) (o := .lst vs) g.ex hn
    exact q _ _ _ _ _ hp (back_none S g hn) (g.trans g2) hf upd_same k
theorem el_lst {ds : List PD} (h : EvA C tr G ms (ds.map Sl.dat)) (hl : ds.length ≤ 100000) : EvL C (tLst tr) G ms ds := evlp_lst h fun _ e => ⟨ds, e, hl, rfl⟩

/-! calls of built-ins by values -/
theorem evp_cb {Ps : List Sl → Prop} {P : Sl → Prop} {r : List V → Hp → VK → Prop} (h : EvAP C tr G ms Ps) (hr : ∀ ss, Ps ss → RcP C r ss G ms P) : EvP C (tCB r tr) G ms P := fun F H σ S Q q =>
  h F H σ S _ fun ss vs F1 H1 e g k => hr ss e F1 H1 σ vs (S.go g) k Q fun s v F2 H2 p g2 k2 => q s v F2 H2 p (g.trans g2) k2
theorem ev_cb {ss : List Sl} {r : List V → Hp → VK → Prop} (h : EvA C tr G ms ss) (hr : Rc C r ss G ms z) : Ev C (tCB r tr) G ms z := evp_cb h fun _ e => e ▸ hr
theorem evlp_cb {Ps : List Sl → Prop} {P : List PD → Prop} {r : List V → Hp → VK → Prop} (h : EvAP C tr G ms Ps) (hr : ∀ ss, Ps ss → RcLP C r ss G ms P) : EvLP C (tCB r tr) G ms P := fun F H σ S Q q =>
  h F H σ S _ fun ss vs F1 H1 e g k => hr ss e F1 H1 σ vs (S.go g) k Q fun ds p us F2 H2 pp hn g2 => q ds p us F2 H2 pp (back_none S g hn) (g.trans g2)
theorem el_cb {ss : List Sl} {ds : List PD} {r : List V → Hp → VK → Prop} (h : EvA C tr G ms ss) (hr : RcL C r ss G ms ds) : EvL C (tCB r tr) G ms ds := evlp_cb h fun _ e => e ▸ hr
theorem sls1 {K : PySem.W.Frag} {F : Hp} {vs : List V} {s : Sl} (h : SlsOk K F vs [s]) : ∃ v, vs = [v] ∧ SlOk K F v s := by
  cases h with | cons a t => cases t; exact ⟨_, rfl, a⟩
theorem sls2 {K : PySem.W.Frag} {F : Hp} {vs : List V} {s t : Sl} (h : SlsOk K F vs [s, t]) : ∃ v u, vs = [v, u] ∧ SlOk K F v s ∧ SlOk K F u t := by
  cases h with | cons a h => obtain ⟨u, rfl, b⟩ := sls1 h; exact ⟨_, u, rfl, a, b⟩
theorem sls3 {K : PySem.W.Frag} {F : Hp} {vs : List V} {s t w : Sl} (h : SlsOk K F vs [s, t, w]) : ∃ v u x, vs = [v, u, x] ∧ SlOk K F v s ∧ SlOk K F u t ∧ SlOk K F x w := by
  cases h with | cons a h => obtain ⟨u, x, rfl, b, c⟩ := sls2 h; exact ⟨_, u, x, rfl, a, b, c⟩
abbrev rLenQ (K : PySem.W.Frag) : List V → Hp → VK → Prop := fun xs H Q => ∃ p ys, xs = [.ref p] ∧ (SqL K H p ys ∨ SqT K H p ys) ∧ Q (.int ys.length) H
theorem rc_lenL {ds : List PD} : Rc C (rLenQ C.K) [.dat (.list ds)] G ms (dI ds.length) := fun F H σ vs S k Q q => by
  obtain ⟨v, rfl, k1⟩ := sls1 k
  obtain ⟨a, xs, rfl, h1, h2⟩ := dp_list k1
  refine ⟨a, xs, rfl, .inl (same_l S.fh h1), ?_⟩
  rw [dps_len h2]
  exact q _ _ F H rfl (Go.refl S.fh) (.int _)
theorem rc_lenT {ds : List PD} : Rc C (rLenQ C.K) [.dat (.tuple ds)] G ms (dI ds.length) := fun F H σ vs S k Q q => by
  obtain ⟨v, rfl, k1⟩ := sls1 k
  obtain ⟨a, xs, rfl, h1, h2⟩ := dp_tup k1
  refine ⟨a, xs, rfl, .inr (same_t S.fh h1), ?_⟩
  rw [dps_len h2]
  exact q _ _ F H rfl (Go.refl S.fh) (.int _)
theorem rc_lenM {l : Addr} {ds : List PD} (hm : (l, ds) ∈ ms) : Rc C (rLenQ C.K) [.ml l] G ms (dI ds.length) := fun F H σ vs S k Q q => by
  obtain ⟨v, rfl, k1⟩ := sls1 k
  obtain rfl : v = .ref l := k1
  obtain ⟨_, _, xs, h1, h2⟩ := S.cells _ hm
  refine ⟨l, xs, rfl, .inl (.inl (.inl h1)), ?_⟩
  rw [dps_len h2]
  exact q _ _ F H rfl (Go.refl S.fh) (.int _)
theorem rc_int {i : Int} : Rc C (fun xs H Q => (∃ i, xs = [.int i] ∧ Q (.int i) H) ∨ ∃ k, xs = [.bl k] ∧ Q (.int (if k then 1 else 0)) H) [dI i] G ms (dI i) := fun F H σ vs S k Q q => by
  obtain ⟨v, rfl, k1⟩ := sls1 k
  obtain rfl := dp_int k1
  exact .inl ⟨i, rfl, q _ _ F H rfl (Go.refl S.fh) (.int _)⟩
theorem rc_intB {b : Bool} : Rc C (fun xs H Q => (∃ i, xs = [.int i] ∧ Q (.int i) H) ∨ ∃ k, xs = [.bl k] ∧ Q (.int (if k then 1 else 0)) H) [dB b] G ms (dI (if b then 1 else 0)) := fun F H σ vs S k Q q => by
  obtain ⟨v, rfl, k1⟩ := sls1 k
  obtain rfl := dp_bl k1
  exact .inr ⟨b, rfl, q _ _ F H rfl (Go.refl S.fh) (.int _)⟩
theorem rc_max2 {i j : Int} : Rc C (fun xs H Q => ∃ i j, xs = [.int i, .int j] ∧ Q (.int (if j > i then j else i)) H) [dI i, dI j] G ms (dI (max i j)) := fun F H σ vs S k Q q => by
  obtain ⟨v, u, rfl, k1, k2⟩ := sls2 k
  obtain rfl := dp_int k1
  obtain rfl := dp_int k2
  refine ⟨i, j, rfl, ?_⟩
  have e : (if j > i then j else i) = max i j := by split <;> omega
  rw [e]
  exact q _ _ F H rfl (Go.refl S.fh) (.int _)
theorem rc_min2 {i j : Int} : Rc C (fun xs H Q => ∃ i j, xs = [.int i, .int j] ∧ Q (.int (if j < i then j else i)) H) [dI i, dI j] G ms (dI (min i j)) := fun F H σ vs S k Q q => by
  obtain ⟨v, u, rfl, k1, k2⟩ := sls2 k
  obtain rfl := dp_int k1
  obtain rfl := dp_int k2
  refine ⟨i, j, rfl, ?_⟩
  have e : (if j < i then j else i) = min i j := by split <;> omega
  rw [e]
  exact q _ _ F H rfl (Go.refl S.fh) (.int _)
theorem rc_abs {i : Int} : Rc C (fun xs H Q => ∃ i, xs = [.int i] ∧ Q (.int (if i < 0 then -i else i)) H) [dI i] G ms (dI i.natAbs) := fun F H σ vs S k Q q => by
  obtain ⟨v, rfl, k1⟩ := sls1 k
  obtain rfl := dp_int k1
  refine ⟨i, rfl, ?_⟩
  have e : (if i < 0 then -i else i) = (i.natAbs : Int) := by split <;> omega
  rw [e]
  exact q _ _ F H rfl (Go.refl S.fh) (.int _)
theorem rc_any {bs : List Bool} : Rc C (rAny C.K) [.dat (.list (bs.map PyData.bool))] G ms (dB (bs.any id)) := fun F H σ vs S k Q q => by
  obtain ⟨v, rfl, k1⟩ := sls1 k
  obtain ⟨a, xs, rfl, h1, h2⟩ := dp_list k1
  obtain rfl := dps_bools h2
  exact ⟨a, bs, rfl, same_l S.fh h1, q _ _ F H rfl (Go.refl S.fh) (.bl _)⟩
theorem rc_all {bs : List Bool} : Rc C (rAll C.K) [.dat (.list (bs.map PyData.bool))] G ms (dB (bs.all id)) := fun F H σ vs S k Q q => by
  obtain ⟨v, rfl, k1⟩ := sls1 k
  obtain ⟨a, xs, rfl, h1, h2⟩ := dp_list k1
  obtain rfl := dps_bools h2
  exact ⟨a, bs, rfl, same_l S.fh h1, q _ _ F H rfl (Go.refl S.fh) (.bl _)⟩
theorem rc_tupL {ds : List PD} : Rc C (rTupOf C.K) [.dat (.list ds)] G ms (.dat (.tuple ds)) := fun F H σ vs S k Q q => by
  obtain ⟨v, rfl, k1⟩ := sls1 k
  obtain ⟨a, xs, rfl, h1, h2⟩ := dp_list k1
  refine ⟨a, xs, rfl, .inl ⟨same_l S.fh h1, fun p o hn ho => ?_⟩⟩
  have g2 : Go C F H (upd F p (.frz o (.tup xs))) (upd H p (.frz o (.tup xs))) := Go.new S.fh hn
  exact q _ _ _ _ rfl g2 (.tup ⟨o, upd_same, ho⟩ (dps_mono g2.fx _ _ h2))
theorem rc_tupT {ds : List PD} : Rc C (rTupOf C.K) [.dat (.tuple ds)] G ms (.dat (.tuple ds)) := fun F H σ vs S k Q q => by
  obtain ⟨v, rfl, k1⟩ := sls1 k
  obtain ⟨a, xs, rfl, h1, h2⟩ := dp_tup k1
  exact ⟨a, xs, rfl, .inr ⟨same_t S.fh h1, q _ _ F H rfl (Go.refl S.fh) k1⟩⟩
theorem rc_tupM {l : Addr} {ds : List PD} (hm : (l, ds) ∈ ms) : Rc C (rTupOf C.K) [.ml l] G ms (.dat (.tuple ds)) := fun F H σ vs S k Q q => by
  obtain ⟨v, rfl, k1⟩ := sls1 k
  obtain rfl : v = .ref l := k1
  obtain ⟨_, _, xs, h1, h2⟩ := S.cells _ hm
  refine ⟨l, xs, rfl, .inl ⟨.inl (.inl h1), fun p o hn ho => ?_⟩⟩
  have g2 : Go C F H (upd F p (.frz o (.tup xs))) (upd H p (.frz o (.tup xs))) := Go.new S.fh hn
  exact q _ _ _ _ rfl g2 (.tup ⟨o, upd_same, ho⟩ (dps_mono g2.fx _ _ h2))
abbrev rLstOf (K : PySem.W.Frag) : List V → Hp → VK → Prop := fun xs H Q => ∃ p ys, xs = [.ref p] ∧ (SqL K H p ys ∨ SqT K H p ys) ∧ ∀ l, H l = none → Q (.ref l) (upd H l (.lst ys))
theorem rc_lstT {ds : List PD} : RcL C (rLstOf C.K) [.dat (.tuple ds)] G ms ds := fun F H σ vs S k Q q => by
  obtain ⟨v, rfl, k1⟩ := sls1 k
  obtain ⟨a, xs, rfl, h1, h2⟩ := dp_tup k1
  refine ⟨a, xs, rfl, .inr (same_t S.fh h1), fun p hn => ?_⟩
  obtain ⟨g2, hf⟩ := Go.newM (C := C) (o := .lst xs) S.fh hn
  exact q _ _ _ _ _ rfl hn g2 hf upd_same h2
end FW
end
section
set_option linter.all false
set_option maxRecDepth 100000
set_option maxHeartbeats 4000000
/-! Statements, loops, comprehensions, calls over the working frame. -/
namespace FW
open PySem PySem.Spec L2

/-! ### promises -/
def Pr (K : PySem.W.Frag) {α : Type} (A : α → List PD) (pre : α → Prop) (R : α → PD) : Sp := fun vs H Q _ =>
  ∃ (x : α) (F : Hp), Same F H ∧ TabK K F H ∧ DpAll K F vs (A x) ∧ pre x ∧ ∀ v F' H', Go ⟨K, none, F, H, F⟩ F H F' H' → Dp K F' v (R x) → Q v H'
/-- the answer is a new list -/
def PrL (K : PySem.W.Frag) {α : Type} (A : α → List PD) (pre : α → Prop) (R : α → List PD) : Sp := fun vs H Q _ =>
  ∃ (x : α) (F : Hp), Same F H ∧ TabK K F H ∧ DpAll K F vs (A x) ∧ pre x ∧ ∀ p us F' H', H p = none → Go ⟨K, none, F, H, F⟩ F H F' H' → F' p = none → H' p = some (.lst us) → DpAll K F' us (R x) → Q (.ref p) H'
/-- with the bag first -/
def PrB (K : PySem.W.Frag) {α : Type} (A : α → List PD) (pre : α → Prop) (R : α → PD → Prop) : Sp := fun vs H Q _ =>
  ∃ (x : α) (F : Hp) (b : Addr) (us : List V), vs = .ref b :: us ∧ Same F H ∧ TabK K F H ∧ BagOk K F H b ∧ DpAll K F us (A x) ∧ pre x ∧ ∀ v F' H' d, Go ⟨K, some b, F, H, F⟩ F H F' H' → R x d → Dp K F' v d → Q v H'
def PrBL (K : PySem.W.Frag) {α : Type} (A : α → List PD) (pre : α → Prop) (R : α → List PD → Prop) : Sp := fun vs H Q _ =>
  ∃ (x : α) (F : Hp) (b : Addr) (us : List V), vs = .ref b :: us ∧ Same F H ∧ TabK K F H ∧ BagOk K F H b ∧ DpAll K F us (A x) ∧ pre x ∧ ∀ p ws F' H' ds, H p = none → Go ⟨K, some b, F, H, F⟩ F H F' H' → F' p = none → H' p = some (.lst ws) → R x ds → DpAll K F' ws ds → Q (.ref p) H'
section
variable {C : Cn} {G : List Sl} {ms : Ms} {te ta tb tx : TE} {tt uu : TT} {tr : TA} {s x y z : Sl} {r : R2} {E : XK}
theorem Go.flip {C C' : Cn} {F H F' H' : Hp} (hK : C'.K = C.K) (hB : C'.B = C.B) (g : Go C F H F' H') : Go C' F H F' H' :=
  ⟨g.fx, g.ex, fun a o e f n z => g.kp a o e f (by rw [← hB]; exact n) z, g.tk, (by rw [hK]; exact g.tb), fun b e q => by rw [hK] at q ⊢; exact g.bg b (by rw [← hB]; exact e) q⟩
theorem ev_call {α : Type} {A : α → List PD} {pre : α → Prop} {R : α → PD} (a : α) (h : EvA C tr G ms ((A a).map Sl.dat)) (hp : pre a) : Ev C (tCall (Pr C.K A pre R) [] E tr) G ms (.dat (R a)) := fun F H σ S Q q =>
  h F H σ S _ fun ss vs F1 H1 e g k => by
    subst e
    rw [List.append_nil]
    exact ⟨a, F1, g.ex, (S.go g).tab, k.dps, hp, fun v F2 H2 g2 k2 => q _ v F2 H2 rfl (g.trans (Go.of_free rfl g2)) k2⟩
theorem el_call {α : Type} {A : α → List PD} {pre : α → Prop} {R : α → List PD} (a : α) (h : EvA C tr G ms ((A a).map Sl.dat)) (hp : pre a) : EvL C (tCall (PrL C.K A pre R) [] E tr) G ms (R a) := fun F H σ S Q q =>
  h F H σ S _ fun ss vs F1 H1 e g k => by
    subst e
    rw [List.append_nil]
    exact ⟨a, F1, g.ex, (S.go g).tab, k.dps, hp, fun p us F2 H2 hn g2 hf hh k2 => q _ p us F2 H2 rfl (back_none S g hn) (g.trans (Go.of_free rfl g2)) hf hh k2⟩
/-- a call that draws from the bag -/
theorem evp_callB {b : Addr} {α : Type} {A : α → List PD} {pre : α → Prop} {R : α → PD → Prop} {Pa : List Sl → Prop} {P : Sl → Prop} (hB : C.B = some b) (h : EvAP C tr G ms Pa) (f : ∀ ss, Pa ss → ∃ a : α, ss = .ml b :: (A a).map Sl.dat ∧ pre a ∧ ∀ d, R a d → P (.dat d)) :
    EvP C (tCall (PrB C.K A pre R) [] E tr) G ms P := fun F H σ S Q q =>
  h F H σ S _ fun ss vs F1 H1 e g k => by
    obtain ⟨a, rfl, hp, hR⟩ := f ss e
    cases k with
    | cons k1 k2 =>
      obtain rfl := (k1 : _ = V.ref b)
      rw [List.append_nil]
      exact ⟨a, F1, b, _, rfl, g.ex, (S.go g).tab, (S.go g).bag b hB, k2.dps, hp, fun v F2 H2 d g2 hr hk => q _ v F2 H2 (hR d hr) (g.trans (Go.flip (C := ⟨C.K, some b, F1, H1, F1⟩) rfl hB g2)) hk⟩
theorem evlp_callB {b : Addr} {α : Type} {A : α → List PD} {pre : α → Prop} {R : α → List PD → Prop} {Pa : List Sl → Prop} {P : List PD → Prop} (hB : C.B = some b) (h : EvAP C tr G ms Pa) (f : ∀ ss, Pa ss → ∃ a : α, ss = .ml b :: (A a).map Sl.dat ∧ pre a ∧ ∀ d, R a d → P d) :
    EvLP C (tCall (PrBL C.K A pre R) [] E tr) G ms P := fun F H σ S Q q =>
  h F H σ S _ fun ss vs F1 H1 e g k => by
    obtain ⟨a, rfl, hp, hR⟩ := f ss e
    cases k with
    | cons k1 k2 =>
      obtain rfl := (k1 : _ = V.ref b)
      rw [List.append_nil]
      exact ⟨a, F1, b, _, rfl, g.ex, (S.go g).tab, (S.go g).bag b hB, k2.dps, hp, fun p us F2 H2 d hn g2 hf hh hr hk => q _ p us F2 H2 (hR d hr) (back_none S g hn) (g.trans (Go.flip (C := ⟨C.K, some b, F1, H1, F1⟩) rfl hB g2)) hf hh hk⟩

/-! ### statements -/
def Pst (C : Cn) (G : List Sl) (ms : Ms) : St → Hp → Prop := fun σ H => ∃ F, Sat C F H σ G ms ∧ Go C C.F0 C.H0 F H ∧ (∀ p ∈ ms, C.H0 p.1 = none) ∧ Same C.Fl F ∧ Same C.F0 C.H0 ∧ (∀ b, C.B = some b → BagOk C.K C.F0 C.H0 b)
def Tr (C : Cn) (G : List Sl) (ms : Ms) (t : TS) (D : Ends) : Prop := ∀ σ H, Pst C G ms σ H → t D σ H
/-- what an element of a row of values is: a value, a new list -/
inductive El where
  | d (s : Sl)
  | r (P : Sl → Prop)
  | l (ds : List PD)
  | rl (P : List PD → Prop)
def El.one (k : Sl → Ms → Prop) : El → Prop
  | .d s => k s []
  | .r P => ∀ s, P s → k s []
  | .l ds => ∀ p, k (.ml p) [(p, ds)]
  | .rl P => ∀ p ds, P ds → k (.ml p) [(p, ds)]
def El.all : List El → (List Sl → Ms → Prop) → Prop
  | [], k => k [] []
  | .d s :: es, k => El.all es fun ss nw => k (s :: ss) nw
  | .r P :: es, k => ∀ s, P s → El.all es fun ss nw => k (s :: ss) nw
  | .l ds :: es, k => ∀ p, El.all es fun ss nw => k (.ml p :: ss) ((p, ds) :: nw)
  | .rl P :: es, k => ∀ p ds, P ds → El.all es fun ss nw => k (.ml p :: ss) ((p, ds) :: nw)
structure New (C : Cn) (F H F' H' : Hp) (nw : Ms) : Prop where
  go : Go C F H F' H'
  cells : ∀ p ∈ nw, H p.1 = none ∧ F' p.1 = none ∧ ∃ vs, H' p.1 = some (.lst vs) ∧ DpAll C.K F' vs p.2
  nd : (nw.map (·.1)).Nodup
def EvE (C : Cn) (te : TE) (G : List Sl) (ms : Ms) (e : El) : Prop := ∀ F H σ, Sat C F H σ G ms → ∀ k : Sl → Ms → Prop, e.one k → ∀ Q : VK, (∀ s nw v F' H', k s nw → New C F H F' H' nw → SlOk C.K F' v s → Q v H') → te σ H Q
def EvEs (C : Cn) (ta : TA) (G : List Sl) (ms : Ms) (es : List El) : Prop := ∀ F H σ, Sat C F H σ G ms → ∀ k : List Sl → Ms → Prop, El.all es k → ∀ Q : List V → Hp → Prop, (∀ ss nw vs F' H', k ss nw → New C F H F' H' nw → SlsOk C.K F' vs ss → Q vs H') → ta σ H Q
theorem ee_d (h : Ev C te G ms s) : EvE C te G ms (.d s) := fun F H σ S k hk Q q => h F H σ S Q fun s' v F' H' e g o => by
  subst e; exact q _ [] v F' H' hk ⟨g, by simp, by simp⟩ o
theorem ee_r {P : Sl → Prop} (h : EvP C te G ms P) : EvE C te G ms (.r P) := fun F H σ S k hk Q q => h F H σ S Q fun s' v F' H' e g o => q _ [] v F' H' (hk s' e) ⟨g, by simp, by simp⟩ o
theorem ee_l {ds : List PD} (h : EvL C te G ms ds) : EvE C te G ms (.l ds) := fun F H σ S k hk Q q => h F H σ S Q fun ds' p vs F' H' e hn g hf hh o => by
  subst e; exact q _ _ _ F' H' (hk p) ⟨g, fun x hx => by rw [List.mem_singleton.mp hx]; exact ⟨hn, hf, vs, hh, o⟩, by simp⟩ rfl
theorem ee_rl {P : List PD → Prop} (h : EvLP C te G ms P) : EvE C te G ms (.rl P) := fun F H σ S k hk Q q => h F H σ S Q fun ds' p vs F' H' e hn g hf hh o =>
  q _ _ _ F' H' (hk p ds' e) ⟨g, fun x hx => by rw [List.mem_singleton.mp hx]; exact ⟨hn, hf, vs, hh, o⟩, by simp⟩ rfl
theorem ees_nil : EvEs C tNil G ms [] := fun F H σ S k hk Q q => q [] [] [] F H hk ⟨Go.refl S.fh, by simp, by simp⟩ .nil
theorem go_some {F H F' H' : Hp} {σ : St} (S : Sat C F H σ G ms) (g : Go C F H F' H') {p : Addr} (hn : H' p = none) : H p = none := back_none S g hn
theorem New.cons {F H F1 H1 F2 H2 : Hp} {σ : St} {n1 n2 : Ms} (S : Sat C F H σ G ms) (a : New C F H F1 H1 n1) (b : New C F1 H1 F2 H2 n2) : New C F H F2 H2 (n1 ++ n2) := by
  have hB : ∀ p, H p = none → C.B ≠ some p := fun p hn e => by
    obtain ⟨_, _, _, _, _, _, w, _⟩ := S.bag p e
    rw [w] at hn; cases hn
  refine ⟨a.go.trans b.go, fun p hp => ?_, ?_⟩
  · rcases List.mem_append.mp hp with hp | hp
    · obtain ⟨h1, h2, vs, h3, h4⟩ := a.cells p hp
      obtain ⟨q1, q2⟩ := b.go.kp _ _ h3 h2 (hB _ h1) nofun
      exact ⟨h1, q2, vs, q1, dps_mono b.go.fx _ _ h4⟩
    · obtain ⟨h1, h2⟩ := b.cells p hp
      exact ⟨back_none S a.go h1, h2⟩
  · rw [List.map_append, List.nodup_append]
    refine ⟨a.nd, b.nd, fun x hx y hy e => ?_⟩
    subst e
    obtain ⟨p, hp, rfl⟩ := List.mem_map.mp hx
    obtain ⟨q, hq, e⟩ := List.mem_map.mp hy
    obtain ⟨_, _, vs, h3, _⟩ := a.cells p hp
    obtain ⟨h1, _⟩ := b.cells q hq
    rw [e, h3] at h1; cases h1
theorem ees_cons {e : El} {es : List El} (h : EvE C ta G ms e) (hr : EvEs C tr G ms es) : EvEs C (tCons ta tr) G ms (e :: es) := fun F H σ S k hk Q q => by
  cases e with
  | d s =>
    refine h F H σ S (fun s' n => s' = s ∧ n = []) ⟨rfl, rfl⟩ _ fun s' n v F1 H1 e1 a o => ?_
    obtain ⟨rfl, rfl⟩ := e1
    exact hr F1 H1 σ (S.go a.go) _ hk _ fun ss nw vs F2 H2 e2 b o2 => q _ _ _ F2 H2 e2 (by simpa using New.cons S a b) (.cons (o.mono b.go.fx) o2)
  | r P =>
    refine h F H σ S (fun s' n => P s' ∧ n = []) (fun s' hp => ⟨hp, rfl⟩) _ fun s' n v F1 H1 e1 a o => ?_
    obtain ⟨hp, rfl⟩ := e1
    exact hr F1 H1 σ (S.go a.go) _ (hk s' hp) _ fun ss nw vs F2 H2 e2 b o2 => q _ _ _ F2 H2 e2 (by simpa using New.cons S a b) (.cons (o.mono b.go.fx) o2)
  | l ds =>
    refine h F H σ S (fun s' n => ∃ p, s' = .ml p ∧ n = [(p, ds)]) (fun p => ⟨p, rfl, rfl⟩) _ fun s' n v F1 H1 e1 a o => ?_
    obtain ⟨p, rfl, rfl⟩ := e1
    exact hr F1 H1 σ (S.go a.go) _ (hk p) _ fun ss nw vs F2 H2 e2 b o2 => q _ _ _ F2 H2 e2 (New.cons S a b) (.cons (o.mono b.go.fx) o2)
  | rl P =>
    refine h F H σ S (fun s' n => ∃ p ds, s' = .ml p ∧ n = [(p, ds)] ∧ P ds) (fun p ds hp => ⟨p, ds, rfl, rfl, hp⟩) _ fun s' n v F1 H1 e1 a o => ?_
    obtain ⟨p, ds, rfl, rfl, hp⟩ := e1
    exact hr F1 H1 σ (S.go a.go) _ (hk p ds hp) _ fun ss nw vs F2 H2 e2 b o2 => q _ _ _ F2 H2 e2 (New.cons S a b) (.cons (o.mono b.go.fx) o2)
theorem Sat.new {F H F' H' : Hp} {σ : St} {nw : Ms} (S : Sat C F H σ G ms) (a : New C F H F' H' nw) : Sat C F' H' σ G (nw ++ ms) := by
  have S' := S.go a.go
  refine ⟨S'.fh, S'.len, S'.env, fun p hp => ?_, ?_, S'.bag, S'.tab⟩
  · rcases List.mem_append.mp hp with hp | hp
    · obtain ⟨h1, h2, h3⟩ := a.cells p hp
      refine ⟨h2, fun e => ?_, h3⟩
      obtain ⟨_, _, _, _, _, _, w, _⟩ := S.bag _ e
      rw [w] at h1; cases h1
    · exact S'.cells p hp
  · rw [List.map_append, List.nodup_append]
    refine ⟨a.nd, S.nd, fun x hx y hy e => ?_⟩
    subst e
    obtain ⟨p, hp, rfl⟩ := List.mem_map.mp hx
    obtain ⟨q, hq, e⟩ := List.mem_map.mp hy
    obtain ⟨h1, _⟩ := a.cells p hp
    obtain ⟨_, _, vs, h2, _⟩ := S.cells q hq
    rw [← e, h2] at h1; cases h1
theorem base_none {F H : Hp} {C : Cn} (g : Go C C.F0 C.H0 F H) (e0 : Same C.F0 C.H0) (hb : ∀ b, C.B = some b → BagOk C.K C.F0 C.H0 b) {p : Addr} (hn : H p = none) : C.H0 p = none := by
  cases w : C.H0 p with
  | none => rfl
  | some o =>
    by_cases k : C.B = some p
    · obtain ⟨_, _, _, _, _, _, w2, _⟩ := g.bg p k (hb p k)
      rw [w2] at hn; cases hn
    · obtain ⟨u, z⟩ := g.there e0 w k
      rw [z] at hn; cases hn
theorem Pst.of {F H F' H' : Hp} {σ : St} {nw : Ms} (S : Sat C F H σ G ms) (g : Go C C.F0 C.H0 F H) (hf : ∀ p ∈ ms, C.H0 p.1 = none) (fl : Same C.Fl F) (e0 : Same C.F0 C.H0) (hb : ∀ b, C.B = some b → BagOk C.K C.F0 C.H0 b) (a : New C F H F' H' nw) : Pst C G (nw ++ ms) σ H' :=
  ⟨F', S.new a, g.trans a.go, fun p hp => by
    rcases List.mem_append.mp hp with hp | hp
    · exact base_none g e0 hb (a.cells p hp).1
    · exact hf p hp, Same.trans fl a.go.fx, e0, hb⟩
theorem Pst.set {σ : St} {H F : Hp} {v : V} (S : Sat C F H σ G ms) (g : Go C C.F0 C.H0 F H) (hf : ∀ p ∈ ms, C.H0 p.1 = none) (fl : Same C.Fl F) (e0 : Same C.F0 C.H0) (hb : ∀ b, C.B = some b → BagOk C.K C.F0 C.H0 b) (hv : SlOk C.K F v s) (i : Nat) : Pst C (G.set i s) ms (σ.set i (some v)) H :=
  ⟨F, S.set hv i, g, hf, fl, e0, hb⟩
variable {D : Ends} {t u : TS} {g : TG}
theorem t_seq (h : Tr C G ms t { D with nx := u D }) : Tr C G ms (tSeq t u) D := h
theorem t_set {i : Nat} {e : El} (h : EvE C te G ms e) (k : e.one fun s nw => ∀ σ H, Pst C (G.set i s) (nw ++ ms) σ H → D.nx σ H) : Tr C G ms (tAsg te (gName i)) D := fun σ H ⟨F, S, g, hf, fl, e0, hb⟩ =>
  h F H σ S _ k _ fun s nw v F' H' q a o => by
    obtain ⟨F2, S2, g2, hf2, fl2, _⟩ := Pst.of S g hf fl e0 hb a
    exact q _ _ ⟨F', (S.new a).set o i, g.trans a.go, hf2, Same.trans fl a.go.fx, e0, hb⟩
theorem t_par {i j : Nat} {es : List El} (h : EvEs C tr G ms es) (k : El.all es fun ss nw => ∃ a b, ss = [a, b] ∧ ∀ σ H, Pst C ((G.set i a).set j b) (nw ++ ms) σ H → D.nx σ H) : Tr C G ms (tPar i j tr) D := fun σ H ⟨F, S, g, hf, fl, e0, hb⟩ =>
  h F H σ S _ k _ fun ss nw vs F' H' q a o => by
    obtain ⟨x, y, rfl, q⟩ := q
    obtain ⟨F2, S2, g2, hf2, fl2, _⟩ := Pst.of S g hf fl e0 hb a
    obtain ⟨v, w, rfl, o1, o2⟩ := sls2 o
    exact ⟨v, w, rfl, q _ _ ⟨F', ((S.new a).set o1 i).set o2 j, g.trans a.go, hf2, Same.trans fl a.go.fx, e0, hb⟩⟩
theorem t_par3 {i j l : Nat} {es : List El} (h : EvEs C tr G ms es) (k : El.all es fun ss nw => ∃ a b c, ss = [a, b, c] ∧ ∀ σ H, Pst C (((G.set i a).set j b).set l c) (nw ++ ms) σ H → D.nx σ H) : Tr C G ms (tPar3 i j l tr) D := fun σ H ⟨F, S, g, hf, fl, e0, hb⟩ =>
  h F H σ S _ k _ fun ss nw vs F' H' q a o => by
    obtain ⟨x, y, z, rfl, q⟩ := q
    obtain ⟨F2, S2, g2, hf2, fl2, _⟩ := Pst.of S g hf fl e0 hb a
    obtain ⟨v, w, w2, rfl, o1, o2, o3⟩ := sls3 o
    exact ⟨v, w, w2, rfl, q _ _ ⟨F', (((S.new a).set o1 i).set o2 j).set o3 l, g.trans a.go, hf2, Same.trans fl a.go.fx, e0, hb⟩⟩
/-! targets -/
def TgT (C : Cn) (g : TG) (s : Sl) (G : List Sl) (ms : Ms) (k : St → Hp → Prop) : Prop := ∀ F H σ v, Sat C F H σ G ms → Go C C.F0 C.H0 F H → (∀ p ∈ ms, C.H0 p.1 = none) → Same C.Fl F → Same C.F0 C.H0 → (∀ b, C.B = some b → BagOk C.K C.F0 C.H0 b) → SlOk C.K F v s → g v σ H k
def TgsT (C : Cn) (g : TGs) (ss : List Sl) (G : List Sl) (ms : Ms) (k : St → Hp → Prop) : Prop := ∀ F H σ vs, Sat C F H σ G ms → Go C C.F0 C.H0 F H → (∀ p ∈ ms, C.H0 p.1 = none) → Same C.Fl F → Same C.F0 C.H0 → (∀ b, C.B = some b → BagOk C.K C.F0 C.H0 b) → SlsOk C.K F vs ss → g vs σ H k
theorem tg_name {i : Nat} {k : St → Hp → Prop} (h : ∀ σ H, Pst C (G.set i s) ms σ H → k σ H) : TgT C (gName i) s G ms k := fun F H σ v S g hf fl e0 hb o => h _ _ (Pst.set S g hf fl e0 hb o i)
theorem tgs_nil {k : St → Hp → Prop} (h : ∀ σ H, Pst C G ms σ H → k σ H) : TgsT C gNil [] G ms k := fun F H σ vs S g hf fl e0 hb o => by
  cases o; exact ⟨rfl, h _ _ ⟨F, S, g, hf, fl, e0, hb⟩⟩
theorem tgs_name {i : Nat} {gs : TGs} {ss : List Sl} {k : St → Hp → Prop} (h : TgsT C gs ss (G.set i s) ms k) : TgsT C (gCons (gName i) gs) (s :: ss) G ms k := fun F H σ vs S g hf fl e0 hb o => by
  cases o with | cons o1 o2 => exact ⟨_, _, rfl, h F H _ _ (S.set o1 i) g hf fl e0 hb o2⟩
theorem Sat.cellset {F H : Hp} {σ : St} {k : Nat} {l : Addr} {ds ds' : List PD} {vs : List V} (S : Sat C F H σ G ms) (hm : ms[k]? = some (l, ds)) (hd : DpAll C.K F vs ds') : Sat C F (upd H l (.lst vs)) σ G (ms.set k (l, ds')) := by
  obtain ⟨hl0, hl1, us0, hl2, _⟩ := S.cells _ (List.mem_of_getElem? hm)
  have hmap : (ms.set k (l, ds')).map (·.1) = ms.map (·.1) := by
    rw [List.map_set]
    show (ms.map (·.1)).set k l = _
    refine List.ext_getElem? fun i => ?_
    by_cases e : k = i
    · subst e
      have : k < ms.length := (List.getElem?_eq_some_iff.mp hm).1
      rw [List.getElem?_set_self (by simpa using this), List.getElem?_map, hm]; rfl
    · rw [List.getElem?_set_ne e]
  refine ⟨fun a o q => ?_, S.len, S.env, fun p hp => ?_, by rw [hmap]; exact S.nd, fun b e => ?_, S.tab.cell hl2⟩
  · rw [upd_ne (fun z => by rw [z, hl0] at q; cases q)]; exact S.fh a o q
  · obtain ⟨i, hi⟩ := List.getElem?_of_mem hp
    by_cases e : k = i
    · subst e
      have hk : k < ms.length := (List.getElem?_eq_some_iff.mp hm).1
      rw [List.getElem?_set_self hk] at hi
      cases hi
      exact ⟨hl0, hl1, vs, upd_same, hd⟩
    · rw [List.getElem?_set_ne e] at hi
      obtain ⟨a1, a2, us, a3, a4⟩ := S.cells p (List.mem_of_getElem? hi)
      have hne : p.1 ≠ l := fun z => by
        have n := S.nd
        have i1 : (ms.map (·.1))[i]? = some l := by rw [List.getElem?_map, hi]; simp [z]
        have i2 : (ms.map (·.1))[k]? = some l := by rw [List.getElem?_map, hm]; rfl
        obtain ⟨h3, h4⟩ := List.getElem?_eq_some_iff.mp i2
        exact e ((List.getElem?_inj h3 n).mp (i2.trans i1.symm))
      exact ⟨a1, a2, us, by rw [upd_ne hne]; exact a3, a4⟩
  · refine (S.bag b e).at (Same.refl F) fun o q f _ => ⟨?_, f⟩
    rw [upd_ne (fun z => hl1 (by rw [← show b = l from z]; exact e))]; exact q
theorem base_cellset {F H : Hp} {l : Addr} {vs0 : List V} {o : HO} (hx : H l = some (.lst vs0)) (g : Go C C.F0 C.H0 F H) (hn : C.H0 l = none) (hl : F l = none) (hb : ∀ b, C.B = some b → BagOk C.K C.F0 C.H0 b) : Go C C.F0 C.H0 F (upd H l o) := by
  refine ⟨g.fx, fun a u q => ?_, fun a u q f n z => ?_, fun a ps q => ?_, fun t => (g.tb t).cell hx, fun b e q => ?_⟩
  · rw [upd_ne (fun z => by rw [z, hl] at q; cases q)]; exact g.ex a u q
  · obtain ⟨q1, q2⟩ := g.kp a u q f n z
    refine ⟨?_, q2⟩
    rw [upd_ne (ne_of_none q hn)]; exact q1
  · obtain ⟨qs, q1⟩ := g.tk a ps q
    exact ⟨qs, by rw [upd_ne (ne_of_none q hn)]; exact q1⟩
  · have z := g.bg b e q
    refine z.at (Same.refl F) fun u q2 f _ => ⟨?_, f⟩
    obtain ⟨_, _, _, _, _, _, w, _⟩ := hb b e
    rw [upd_ne (ne_of_none w hn)]; exact q2
theorem Pst.cell {F H : Hp} {σ : St} {k : Nat} {l : Addr} {ds ds' : List PD} {vs : List V} (S : Sat C F H σ G ms) (g : Go C C.F0 C.H0 F H) (hf : ∀ p ∈ ms, C.H0 p.1 = none) (fl : Same C.Fl F) (e0 : Same C.F0 C.H0) (hb : ∀ b, C.B = some b → BagOk C.K C.F0 C.H0 b) (hm : ms[k]? = some (l, ds)) (hd : DpAll C.K F vs ds') : Pst C G (ms.set k (l, ds')) σ (upd H l (.lst vs)) := by
  have hn := hf _ (List.mem_of_getElem? hm)
  obtain ⟨_, _, us0, hx, _⟩ := S.cells _ (List.mem_of_getElem? hm)
  refine ⟨F, S.cellset hm hd, base_cellset hx g hn (S.cells _ (List.mem_of_getElem? hm)).1 hb, fun p hp => ?_, fl, e0, hb⟩
  obtain ⟨i, hi⟩ := List.getElem?_of_mem hp
  by_cases e : k = i
  · subst e
    have hk : k < ms.length := (List.getElem?_eq_some_iff.mp hm).1
    rw [List.getElem?_set_self hk] at hi
    cases hi
    exact hn
  · rw [List.getElem?_set_ne e] at hi
    exact hf p (List.mem_of_getElem? hi)
theorem tgs_sub {k n : Nat} {l : Addr} {ds : List PD} {d : PD} {j : Int} {to ti : TE} {gs : TGs} {ss : List Sl} {kk : St → Hp → Prop} (ho : Ev C to G ms (.ml l)) (hi : Ev C ti G ms (dI j)) (hm : ms[k]? = some (l, ds)) (hj : ixN ds.length j = some n) (h : TgsT C gs ss G (ms.set k (l, ds.set n d)) kk) :
    TgsT C (gCons (gSub to ti rSetL) gs) (.dat d :: ss) G ms kk := fun F H σ vs S g hf fl e0 hb o => by
  cases o with
  | cons o1 o2 =>
    refine ⟨_, _, rfl, ho F H σ S _ fun s v F1 H1 e g1 k1 => hi F1 H1 σ (S.go g1) _ fun s2 v2 F2 H2 e2 g2 k2 => ?_⟩
    subst e e2
    obtain rfl := (k1 : v = V.ref l)
    obtain rfl := dp_int k2
    have S2 := (S.go g1).go g2
    obtain ⟨_, _, us, h1, h2⟩ := S2.cells _ (List.mem_of_getElem? hm)
    have gg := g1.trans g2
    obtain ⟨F3, S3, g3, hf3, fl3, _, _⟩ := Pst.cell (ds' := ds.set n d) S2 (g.trans gg) hf (Same.trans fl gg.fx) e0 hb hm (dps_set (dp_mono gg.fx _ _ o1) n h2)
    exact ⟨l, us, j, n, rfl, rfl, h1, by rw [dps_len h2]; exact hj, h _ _ _ _ (S2.cellset hm (dps_set (dp_mono gg.fx _ _ o1) n h2)) (base_cellset h1 (g.trans gg) (hf _ (List.mem_of_getElem? hm)) (S2.cells _ (List.mem_of_getElem? hm)).1 hb) hf3 (Same.trans fl gg.fx) e0 hb (o2.mono gg.fx)⟩
theorem tg_tup {n : Nat} {ds : List PD} {gs : TGs} {k : St → Hp → Prop} (hn : ds.length = n) (h : TgsT C gs (ds.map Sl.dat) G ms k) : TgT C (gTup C.K n gs) (.dat (.tuple ds)) G ms k := fun F H σ v S g hf fl e0 hb o => by
  obtain ⟨a, xs, rfl, h1, h2⟩ := dp_tup o
  exact ⟨a, xs, rfl, same_t S.fh h1, by rw [dps_len h2]; exact hn, h F H σ xs S g hf fl e0 hb (.of_dps h2)⟩
theorem t_asg {P : Sl → Prop} (h : EvP C te G ms P) (k : ∀ s, P s → TgT C g s G ms D.nx) : Tr C G ms (tAsg te g) D := fun σ H ⟨F, S, gg, hf, fl, e0, hb⟩ =>
  h F H σ S _ fun s v F' H' q a o => k s q F' H' σ v (S.go a) (gg.trans a) hf (Same.trans fl a.fx) e0 hb o
/-- a tuple of values, taken apart at once -/
theorem t_tup {n : Nat} {es : List El} {gs : TGs} (h : EvEs C tr G ms es) (hn : es.length = n) (hl : n ≤ 1000) (k : El.all es fun ss nw => ss.length = es.length ∧ TgsT C gs ss G (nw ++ ms) D.nx) : Tr C G ms (tAsg (tTupN tr) (gTup C.K n gs)) D := fun σ H ⟨F, S, gg, hf, fl, e0, hb⟩ =>
  h F H σ S _ k _ fun ss nw vs F' H' q a o => by
    obtain ⟨q0, q⟩ := q
    have hlen : vs.length = n := by
      have : ∀ {vs : List V} {ss : List Sl}, SlsOk C.K F' vs ss → vs.length = ss.length := fun {vs ss} o => by
        induction o with
        | nil => rfl
        | cons _ _ ih => rw [List.length_cons, List.length_cons, ih]
      rw [this o, q0, hn]
    refine ⟨by rw [hlen]; exact sz_ok (by omega), fun p ob hp ho => ?_⟩
    have g2 : Go C F' H' (upd F' p (.frz ob (.tup vs))) (upd H' p (.frz ob (.tup vs))) := Go.new a.go.ex hp
    obtain ⟨F2, S2, g3, hf2, fl2, _⟩ := Pst.of S gg hf fl e0 hb a
    exact ⟨p, vs, rfl, .inl (.inr ⟨ob, upd_same⟩), hlen, q _ _ _ _ ((S.new a).go g2) ((gg.trans a.go).trans g2) hf2 (Same.trans (Same.trans fl a.go.fx) g2.fx) e0 hb (o.mono g2.fx)⟩
theorem t_setitem {k n : Nat} {l : Addr} {ds : List PD} {d : PD} {j : Int} {to ti : TE} (h : Ev C te G ms (.dat d)) (ho : Ev C to G ms (.ml l)) (hi : Ev C ti G ms (dI j)) (hm : ms[k]? = some (l, ds)) (hj : ixN ds.length j = some n) (kk : ∀ σ H, Pst C G (ms.set k (l, ds.set n d)) σ H → D.nx σ H) :
    Tr C G ms (tAsg te (gSub to ti rSetL)) D := fun σ H ⟨F, S, gg, hf, fl, e0, hb⟩ =>
  h F H σ S _ fun s v F1 H1 e g1 k1 => ho F1 H1 σ (S.go g1) _ fun s2 v2 F2 H2 e2 g2 k2 => hi F2 H2 σ ((S.go g1).go g2) _ fun s3 v3 F3 H3 e3 g3 k3 => by
    subst e e2 e3
    obtain rfl := (k2 : v2 = V.ref l)
    obtain rfl := dp_int k3
    have gA := (g1.trans g2).trans g3
    have S3 := S.go gA
    obtain ⟨_, _, us, h1, h2⟩ := S3.cells _ (List.mem_of_getElem? hm)
    exact ⟨l, us, j, n, rfl, rfl, h1, by rw [dps_len h2]; exact hj, kk _ _ (Pst.cell S3 (gg.trans gA) hf (Same.trans fl gA.fx) e0 hb hm (dps_set (dp_mono (g2.trans g3).fx _ _ k1) n h2))⟩
theorem t_app {k : Nat} {l : Addr} {ds : List PD} {P : Sl → Prop} {to : TE} (ho : Ev C to G ms (.ml l)) (h : EvP C te G ms P) (hm : ms[k]? = some (l, ds)) (hl : ds.length < 100000) (kk : ∀ s, P s → ∃ d, s = .dat d ∧ ∀ σ H, Pst C G (ms.set k (l, ds ++ [d])) σ H → D.nx σ H) :
    Tr C G ms (tDrop (tBM C.K "list" rAppend to (tCons te tNil))) D := fun σ H ⟨F, S, gg, hf, fl, e0, hb⟩ =>
  ho F H σ S _ fun s v F1 H1 e g1 k1 => by
    subst e
    obtain rfl := (k1 : v = V.ref l)
    obtain ⟨_, _, us, h1, _⟩ := (S.go g1).cells _ (List.mem_of_getElem? hm)
    refine ⟨.inl ⟨rfl, us, .inl (.inl h1)⟩, h F1 H1 σ (S.go g1) _ fun s2 v2 F2 H2 e2 g2 k2 => ?_⟩
    obtain ⟨d, rfl, kk⟩ := kk s2 e2
    have gA := g1.trans g2
    have S2 := S.go gA
    obtain ⟨_, _, ws, h3, h4⟩ := S2.cells _ (List.mem_of_getElem? hm)
    exact ⟨l, ws, v2, rfl, rfl, h3, by rw [dps_len h4]; exact Nat.lt_of_lt_of_le hl (by decide), kk _ _ (Pst.cell S2 (gg.trans gA) hf (Same.trans fl gA.fx) e0 hb hm (dps_app h4 (.cons k2 .nil)))⟩
theorem t_appD {k : Nat} {l : Addr} {ds : List PD} {d : PD} {to : TE} (ho : Ev C to G ms (.ml l)) (h : Ev C te G ms (.dat d)) (hm : ms[k]? = some (l, ds)) (hl : ds.length < 100000) (kk : ∀ σ H, Pst C G (ms.set k (l, ds ++ [d])) σ H → D.nx σ H) :
    Tr C G ms (tDrop (tBM C.K "list" rAppend to (tCons te tNil))) D := t_app ho h hm hl fun _ e => ⟨d, e, kk⟩
theorem t_aug {i : Nat} {f : Int → Int → Int} {a b : Int} (hx : G[i]? = some (dI a)) (h : Ev C te G ms (dI b)) (k : ∀ σ H, Pst C (G.set i (dI (f a b))) ms σ H → D.nx σ H) : Tr C G ms (tAug i te (ipI f)) D := fun σ H ⟨F, S, gg, hf, fl, e0, hb⟩ => by
  rcases S.env i _ hx with e | ⟨v, e1, e2⟩
  · cases e
  · obtain rfl := dp_int e2
    refine ⟨.int a, e1, h F H σ S _ fun s v F1 H1 e g1 k1 => ?_⟩
    subst e
    obtain rfl := dp_int k1
    exact ⟨a, b, rfl, rfl, k _ _ (Pst.set (S.go g1) (gg.trans g1) hf (Same.trans fl g1.fx) e0 hb (show SlOk C.K F1 (.int (f a b)) (dI (f a b)) from Dp.int _) i)⟩
theorem t_ret {P : Sl → Prop} (h : EvP C te G ms P) (k : ∀ s v F' H', P s → Go C C.F0 C.H0 F' H' → SlOk C.K F' v s → D.rt v H') : Tr C G ms (tRet te) D := fun σ H ⟨F, S, gg, hf, fl, e0, hb⟩ =>
  h F H σ S _ fun s v F' H' q a o => k s v F' H' q (gg.trans a) o
theorem t_retD {d : PD} (h : Ev C te G ms (.dat d)) (k : ∀ v F' H', Go C C.F0 C.H0 F' H' → Dp C.K F' v d → D.rt v H') : Tr C G ms (tRet te) D := t_ret h fun s v F' H' e g o => by subst e; exact k v F' H' g o
theorem t_retL {P : List PD → Prop} (h : EvLP C te G ms P) (k : ∀ ds p vs F' H', P ds → C.H0 p = none → Go C C.F0 C.H0 F' H' → F' p = none → H' p = some (.lst vs) → DpAll C.K F' vs ds → D.rt (.ref p) H') : Tr C G ms (tRet te) D := fun σ H ⟨F, S, gg, hf, fl, e0, hb⟩ =>
  h F H σ S _ fun ds p vs F' H' q hn a hf' hh o => k ds p vs F' H' q (base_none gg e0 hb hn) (gg.trans a) hf' hh o
/-- a list of the def's own is handed back -/
theorem t_retM {l : Addr} {ds : List PD} (h : Ev C te G ms (.ml l)) (hm : (l, ds) ∈ ms) (k : ∀ p vs F' H', C.H0 p = none → Go C C.F0 C.H0 F' H' → F' p = none → H' p = some (.lst vs) → DpAll C.K F' vs ds → D.rt (.ref p) H') : Tr C G ms (tRet te) D := fun σ H ⟨F, S, gg, hf, fl, e0, hb⟩ =>
  h F H σ S _ fun s v F' H' q a o => by
    subst q
    obtain rfl := (o : v = V.ref l)
    obtain ⟨h1, _, vs, h2, h3⟩ := (S.go a).cells _ hm
    exact k l vs F' H' (hf _ hm) (gg.trans a) h1 h2 h3
theorem t_if {P : Bool → Prop} (h : EvTP C tt G ms P) (h1 : P true → Tr C G ms t D) (h2 : P false → Tr C G ms u D) : Tr C G ms (tIfS tt t u) D := fun σ H ⟨F, S, gg, hf, fl, e0, hb⟩ =>
  h F H σ S _ fun b F' H' q a => by
    cases b with
    | true => exact h1 q _ _ ⟨F', S.go a, gg.trans a, hf, Same.trans fl a.fx, e0, hb⟩
    | false => exact h2 q _ _ ⟨F', S.go a, gg.trans a, hf, Same.trans fl a.fx, e0, hb⟩
theorem t_ifD {b : Bool} (h : EvT C tt G ms b) (h1 : b = true → Tr C G ms t D) (h2 : b = false → Tr C G ms u D) : Tr C G ms (tIfS tt t u) D := t_if h (fun e => h1 e.symm) (fun e => h2 e.symm)
theorem t_next (h : ∀ σ H, Pst C G ms σ H → D.nx σ H) : Tr C G ms tNext D := h
/-- a list of the def's own that is not changed any more: data -/
theorem Pst.freeze {σ : St} {H : Hp} {i : Nat} {l : Addr} {ds : List PD} {ms1 ms2 : Ms} (h : Pst C G (ms1 ++ (l, ds) :: ms2) σ H) (hi : G[i]? = some (.ml l)) : Pst C (G.set i (.dat (.list ds))) (ms1 ++ ms2) σ H := by
  obtain ⟨F, S, g, hf, fl, e0, hb⟩ := h
  have hm : (l, ds) ∈ ms1 ++ (l, ds) :: ms2 := by simp
  obtain ⟨h1, h2, vs, h3, h4⟩ := S.cells _ hm
  have hn := hf _ hm
  have sF : Same F (upd F l (.lst vs)) := same_new h1
  have hsub : ∀ p, p ∈ ms1 ++ ms2 → p ∈ ms1 ++ (l, ds) :: ms2 := fun p hp => by
    rcases List.mem_append.mp hp with hp | hp
    · simp [hp]
    · simp [hp]
  have nd := S.nd
  rw [List.map_append, List.map_cons] at nd
  have nd2 := List.nodup_append.mp nd
  have hne : ∀ p ∈ ms1 ++ ms2, p.1 ≠ l := fun p hp e => by
    rcases List.mem_append.mp hp with hp | hp
    · exact nd2.2.2 p.1 (List.mem_map.mpr ⟨p, hp, rfl⟩) l (by simp) e
    · exact (List.nodup_cons.mp nd2.2.1).1 (e ▸ List.mem_map.mpr ⟨p, hp, rfl⟩)
  refine ⟨upd F l (.lst vs), ⟨fun a o q => ?_, by rw [S.len, List.length_set], fun j s e => ?_, fun p hp => ?_, ?_, fun b e => ?_, S.tab.keep (fun _ _ q _ => q) fun a ps q f => by rw [upd_ne fun z => ?_]; exact f; subst z; rw [h3] at q; cases q⟩, ?_, fun p hp => hf p (hsub p hp), Same.trans fl sF, e0, hb⟩
  · by_cases k : a = l
    · subst k; rw [upd_same] at q; rw [h3]; exact q
    · rw [upd_ne k] at q; exact S.fh a o q
  · by_cases k : i = j
    · subst k
      have hil : i < G.length := (List.getElem?_eq_some_iff.mp hi).1
      rw [List.getElem?_set_self hil] at e
      cases e
      rcases S.env i _ hi with z | ⟨v, e1, e2⟩
      · cases z
      · obtain rfl := (e2 : v = V.ref l)
        exact .inr ⟨_, e1, .lst upd_same (dps_mono sF _ _ h4)⟩
    · rw [List.getElem?_set_ne k] at e
      exact (S.env j s e).imp id fun ⟨v, a, b⟩ => ⟨v, a, b.mono sF⟩
  · obtain ⟨a1, a2, us, a3, a4⟩ := S.cells p (hsub p hp)
    exact ⟨by rw [upd_ne (hne p hp)]; exact a1, a2, us, a3, dps_mono sF _ _ a4⟩
  · rw [List.map_append]
    exact List.nodup_append.mpr ⟨nd2.1, (List.nodup_cons.mp nd2.2.1).2, fun x hx y hy => nd2.2.2 x hx y (List.mem_cons_of_mem _ hy)⟩
  · have z := S.bag b e
    have k : b ≠ l := fun q => h2 (q ▸ e)
    exact z.at sF fun o q f _ => ⟨q, by rw [upd_ne k]; exact f⟩
  · exact g.freeze hn h1 h3
/-- forgetting slots -/
inductive Fg : List Sl → List Sl → Prop
  | nil : Fg [] []
  | keep (s : Sl) {G G' : List Sl} : Fg G G' → Fg (s :: G) (s :: G')
  | drop (s : Sl) {G G' : List Sl} : Fg G G' → Fg (s :: G) (.un :: G')
theorem Fg.len {G G' : List Sl} (h : Fg G G') : G'.length = G.length := by
  induction h with
  | nil => rfl
  | keep s _ ih => rw [List.length_cons, List.length_cons, ih]
  | drop s _ ih => rw [List.length_cons, List.length_cons, ih]
theorem Fg.get {G G' : List Sl} (h : Fg G G') : ∀ (i : Nat) (s : Sl), G'[i]? = some s → s = .un ∨ G[i]? = some s := by
  induction h with
  | nil => intro i s e; simp at e
  | keep s _ ih =>
    intro i t e
    cases i with
    | zero => exact .inr e
    | succ i => exact ih i t (by simpa using e)
  | drop s _ ih =>
    intro i t e
    cases i with
    | zero => left; simpa using e.symm
    | succ i => exact ih i t (by simpa using e)
theorem Fg.refl : ∀ G : List Sl, Fg G G
  | [] => .nil
  | s :: G => .keep s (Fg.refl G)
theorem Pst.forget {G' : List Sl} {σ : St} {H : Hp} (h : Pst C G ms σ H) (f : Fg G G') : Pst C G' ms σ H := by
  obtain ⟨F, S, r⟩ := h
  exact ⟨F, S.forget rfl f.len fun i s e => (f.get i s e).imp id fun q => ⟨q, rfl⟩, r⟩
theorem Pst.cut {ms1 ms2 : Ms} {σ : St} {H : Hp} (h : Pst C G (ms1 ++ ms2) σ H) : Pst C G ms2 σ H := by
  obtain ⟨F, S, g, hf, r⟩ := h
  refine ⟨F, ⟨S.fh, S.len, S.env, fun p hp => S.cells p (by simp [hp]), ?_, S.bag, S.tab⟩, g, fun p hp => hf p (by simp [hp]), r⟩
  have := S.nd
  rw [List.map_append] at this
  exact (List.nodup_append.mp this).2.1

/-! ### what is walked -/
def CellsOk (C : Cn) (F H : Hp) (ms : Ms) : Prop := ∀ p ∈ ms, F p.1 = none ∧ C.B ≠ some p.1 ∧ ∃ vs, H p.1 = some (.lst vs) ∧ DpAll C.K F vs p.2
def WalkD (C : Cn) (J : It) (F0 : Hp) (ws : Ms) (ds : List PD) : Prop := ∀ F H, Same F0 F → Same F H → CellsOk C F H ws →
  (∀ i, i < ds.length → J.go i H) ∧ J.stop ds.length H ∧ ∀ i x H', i < ds.length → J.yld i H x H' → ∃ F' d, Go C F H F' H' ∧ ds[i]? = some d ∧ Dp C.K F' x d
def Src (C : Cn) (wi : TI) (G : List Sl) (ms ws : Ms) (ds : List PD) : Prop := ∀ F H σ, Sat C F H σ G ms → ∀ R : It → Hp → Prop, (∀ J F' H', Go C F H F' H' → WalkD C J F' ws ds → R J H') → wi σ H R
theorem src_range1 {n : Int} (h : EvA C tr G ms [dI n]) (hn : n ≤ 100000 ∧ -100000 ≤ n) : Src C (iRng1 tr) G ms [] ((List.range n.toNat).map fun k : Nat => PyData.int k) := fun F H σ S R q =>
  h F H σ S _ fun ss vs F1 H1 e g k => by
    subst e
    obtain ⟨v, rfl, k1⟩ := sls1 k
    obtain rfl := dp_int k1
    refine ⟨n, rfl, by omega, by omega, q _ F1 H1 g fun F2 H2 e1 e2 _ => ?_⟩
    rw [List.length_map, List.length_range]
    refine ⟨fun i hi => hi, Nat.le_refl _, fun i x H' hi y => ?_⟩
    obtain ⟨rfl, rfl⟩ := y
    refine ⟨F2, .int (i : Nat), Go.refl e2, by simp [hi], ?_⟩
    have : (0 : Int) + (i : Int) = (i : Nat) := by omega
    rw [this]
    exact .int _
theorem src_range2 {a b : Int} (h : EvA C tr G ms [dI a, dI b]) (hn : -100000 ≤ a ∧ a ≤ 100000 ∧ -100000 ≤ b ∧ b ≤ 100000) : Src C (iRng2 tr) G ms [] ((List.range (b - a).toNat).map fun k : Nat => PyData.int (a + k)) := fun F H σ S R q =>
  h F H σ S _ fun ss vs F1 H1 e g k => by
    subst e
    obtain ⟨v, u, rfl, k1, k2⟩ := sls2 k
    obtain rfl := dp_int k1
    obtain rfl := dp_int k2
    refine ⟨a, b, rfl, ⟨by omega, by omega, by omega, by omega⟩, q _ F1 H1 g fun F2 H2 e1 e2 _ => ?_⟩
    rw [List.length_map, List.length_range]
    refine ⟨fun i hi => hi, Nat.le_refl _, fun i x H' hi y => ?_⟩
    obtain ⟨rfl, rfl⟩ := y
    exact ⟨F2, .int (a + (i : Nat)), Go.refl e2, by simp [hi], .int _⟩
/-- n - 1, .. down to 0 -/
theorem src_down {n : Nat} (h : EvA C tr G ms [dI ((n : Int) - 1), dI (-1), dI (-1)]) (hn : n ≤ 100000) : Src C (iRng3 tr) G ms [] ((List.range n).map fun k : Nat => PyData.int ((n : Int) - 1 - k)) := fun F H σ S R q =>
  h F H σ S _ fun ss vs F1 H1 e g k => by
    subst e
    obtain ⟨v, u, w, rfl, k1, k2, k3⟩ := sls3 k
    obtain rfl := dp_int k1
    obtain rfl := dp_int k2
    obtain rfl := dp_int k3
    have hr : RgC ((n : Int) - 1) (-1) (-1) (((n : Int) - 1 - (-1)).toNat) := RgC.neg (by omega) (by omega) (by omega) (by omega)
    have e : ((n : Int) - 1 - (-1)).toNat = n := by omega
    rw [e] at hr
    refine ⟨_, _, _, n, rfl, hr, q _ F1 H1 g fun F2 H2 e1 e2 _ => ?_⟩
    rw [List.length_map, List.length_range]
    refine ⟨fun i hi => hi, Nat.le_refl _, fun i x H' hi y => ?_⟩
    obtain ⟨rfl, rfl⟩ := y
    refine ⟨F2, .int ((n : Int) - 1 - (i : Nat)), Go.refl e2, by simp [hi], ?_⟩
    have : (n : Int) - 1 + (i : Int) * -1 = (n : Int) - 1 - (i : Nat) := by omega
    rw [this]
    exact .int _
theorem walk_l {F0 : Hp} {a : Addr} {xs : List V} {ds : List PD} (h1 : SqL C.K F0 a xs) (h2 : DpAll C.K F0 xs ds) : WalkD C (Itl C.K a) F0 [] ds := fun F H e1 e2 _ => by
  have hs := same_l e2 (same_l e1 h1)
  have hl := dps_len h2
  refine ⟨fun i hi => ⟨xs, xs[i], hs, by simp [hl, hi]⟩, ⟨xs, hs, by omega⟩, fun i x H' hi y => ?_⟩
  obtain ⟨rfl, y⟩ := y
  obtain ⟨v, h3, h4⟩ := dps_get h2 (List.getElem?_eq_getElem hi)
  have := y xs hs
  rw [h3] at this
  cases this
  exact ⟨F, ds[i], Go.refl e2, List.getElem?_eq_getElem hi, dp_mono e1 _ _ h4⟩
theorem walk_t {F0 : Hp} {a : Addr} {xs : List V} {ds : List PD} (h1 : SqT C.K F0 a xs) (h2 : DpAll C.K F0 xs ds) : WalkD C (Itt C.K a) F0 [] ds := fun F H e1 e2 _ => by
  have hs := same_t e2 (same_t e1 h1)
  have hl := dps_len h2
  refine ⟨fun i hi => ⟨xs, xs[i], hs, by simp [hl, hi]⟩, ⟨xs, hs, by omega⟩, fun i x H' hi y => ?_⟩
  obtain ⟨rfl, y⟩ := y
  obtain ⟨v, h3, h4⟩ := dps_get h2 (List.getElem?_eq_getElem hi)
  have := y xs hs
  rw [h3] at this
  cases this
  exact ⟨F, ds[i], Go.refl e2, List.getElem?_eq_getElem hi, dp_mono e1 _ _ h4⟩
/-- a list or a tuple -/
def iSeq (K : PySem.W.Frag) (tl : TE) : TI := fun σ H R => iList K tl σ H R ∨ iTup K tl σ H R
theorem pi_seq {X : Cx} {tg l : Expr} {tl : TE} (hl : PE X l tl) : PI X tg l (iSeq X.K tl) := by
  refine ⟨fun pins s σ H R I h => ?_⟩
  rcases h with h | h
  · exact (pi_list hl).run pins s σ H R I h
  · exact (pi_tup hl).run pins s σ H R I h
/-- what is known of the object ahead of the walk: the reading may choose -/
def EvS (C : Cn) (te : TE) (G : List Sl) (ms : Ms) (s : Sl) : Prop := Ev C te G ms s
theorem src_seqL {ds : List PD} (h : Ev C te G ms (.dat (.list ds))) : Src C (iList C.K te) G ms [] ds := fun F H σ S R q =>
  h F H σ S _ fun s v F1 H1 e g k => by
    subst e
    obtain ⟨a, xs, rfl, h1, h2⟩ := dp_list k
    exact ⟨a, rfl, ⟨xs, same_l g.ex h1⟩, q _ F1 H1 g (walk_l h1 h2)⟩
theorem src_seqT {ds : List PD} (h : Ev C te G ms (.dat (.tuple ds))) : Src C (iTup C.K te) G ms [] ds := fun F H σ S R q =>
  h F H σ S _ fun s v F1 H1 e g k => by
    subst e
    obtain ⟨a, xs, rfl, h1, h2⟩ := dp_tup k
    exact ⟨a, rfl, ⟨xs, same_t g.ex h1⟩, q _ F1 H1 g (walk_t h1 h2)⟩
theorem src_l {ds : List PD} (h : Ev C te G ms (.dat (.list ds))) : Src C (iSeq C.K te) G ms [] ds := fun F H σ S R q => .inl (src_seqL h F H σ S R q)
theorem src_t {ds : List PD} (h : Ev C te G ms (.dat (.tuple ds))) : Src C (iSeq C.K te) G ms [] ds := fun F H σ S R q => .inr (src_seqT h F H σ S R q)
theorem src_m {l : Addr} {ds : List PD} (h : Ev C te G ms (.ml l)) (hm : (l, ds) ∈ ms) : Src C (iSeq C.K te) G ms [(l, ds)] ds := fun F H σ S R q => .inl (
  h F H σ S _ fun s v F1 H1 e g k => by
    subst e
    obtain rfl := (k : v = V.ref l)
    obtain ⟨_, _, vs, h1, h2⟩ := (S.go g).cells _ hm
    refine ⟨l, rfl, ⟨vs, .inl (.inl h1)⟩, q _ F1 H1 g fun F2 H2 e1 e2 c => ?_⟩
    obtain ⟨_, _, us, h3, h4⟩ := c _ (List.mem_singleton.mpr rfl)
    have hl := dps_len h4
    refine ⟨fun i hi => ⟨us, us[i], .inl (.inl h3), by simp [hl, hi]⟩, ⟨us, .inl (.inl h3), by simp only at hl; omega⟩, fun i x H' hi y => ?_⟩
    obtain ⟨rfl, y⟩ := y
    obtain ⟨v, h5, h6⟩ := dps_get h4 (List.getElem?_eq_getElem hi)
    have := y us (.inl (.inl h3))
    rw [h5] at this
    cases this
    exact ⟨F2, ds[i], Go.refl e2, List.getElem?_eq_getElem hi, h6⟩)

/-! ### for -/
def Pinv (C : Cn) (P : List Sl → Ms → Prop) : St → Hp → Prop := fun σ H => ∃ G ms, P G ms ∧ Pst C G ms σ H
theorem Pst.inv {P : List Sl → Ms → Prop} {σ : St} {H : Hp} (h : Pst C G ms σ H) (p : P G ms) : Pinv C P σ H := ⟨G, ms, p, h⟩
end
section
variable {K : PySem.W.Frag} {B : Option Addr} {F0 H0 Fl : Hp} {G : List Sl} {ms : Ms} {wi : TI} {g : TG} {tb : TS} {D : Ends}
theorem Go.sw {Fl' A B' A' B'' : Hp} (g : Go ⟨K, B, F0, H0, Fl⟩ A B' A' B'') : Go ⟨K, B, F0, H0, Fl'⟩ A B' A' B'' := ⟨g.fx, g.ex, g.kp, g.tk, g.tb, g.bg⟩
theorem Sat.sw {Fl' F H : Hp} {σ : St} (S : Sat ⟨K, B, F0, H0, Fl⟩ F H σ G ms) : Sat ⟨K, B, F0, H0, Fl'⟩ F H σ G ms := ⟨S.fh, S.len, S.env, S.cells, S.nd, S.bag, S.tab⟩
/-- for over data that stands: the word Inv by the turn -/
theorem t_for {α : Type} {xs : List α} {enc : α → PD} (hs : Src ⟨K, B, F0, H0, Fl⟩ wi G ms [] (xs.map enc)) (Inv : Nat → List Sl → Ms → Prop) (h0 : Inv 0 G ms)
    (turn : ∀ i a, xs[i]? = some a → ∀ Fl' G ms, Inv i G ms → TgT ⟨K, B, F0, H0, Fl'⟩ g (.dat (enc a)) G ms fun σ H => tb { D with nx := Pinv ⟨K, B, F0, H0, Fl'⟩ (Inv (i + 1)), ct := Pinv ⟨K, B, F0, H0, Fl'⟩ (Inv (i + 1)), bk := D.nx } σ H)
    (done : ∀ G ms, Inv xs.length G ms → ∀ σ H, Pst ⟨K, B, F0, H0, Fl⟩ G ms σ H → D.nx σ H) : Tr ⟨K, B, F0, H0, Fl⟩ G ms (tFor wi g tb) D := fun σ H ⟨F, S, gg, hf, fl, e0, hb⟩ => by
  refine hs F H σ S _ fun J F1 H1 g1 wk => ?_
  refine ⟨fun i m σ' H' => m = xs.length - i ∧ i ≤ xs.length ∧ Pinv ⟨K, B, F0, H0, F1⟩ (Inv i) σ' H', ⟨xs.length, by simp, Nat.zero_le _, G, ms, h0, F1, (S.go g1).sw, (gg.trans g1).sw, hf, Same.refl _, e0, hb⟩, ?_⟩
  rintro i m σ' H' ⟨rfl, hi, G', ms', iv, F', S', g', hf', fl', _, _⟩
  obtain ⟨w1, w2, w3⟩ := wk F' H' fl' S'.fh (fun p hp => by simp at hp)
  rw [List.length_map] at w1 w2 w3
  by_cases hlt : i < xs.length
  · refine .inr ⟨w1 i hlt, Pinv ⟨K, B, F0, H0, F1⟩ (Inv (i + 1)), fun σ2 H2 p => ⟨xs.length - (i + 1), by omega, rfl, hlt, p⟩, fun x H2 y => ?_⟩
    obtain ⟨F2, d, g2, hd, hk⟩ := w3 i x H2 hlt y
    rw [List.getElem?_map, List.getElem?_eq_getElem hlt] at hd
    cases hd
    exact turn i xs[i] (List.getElem?_eq_getElem hlt) F1 G' ms' iv F2 H2 σ' x (S'.go g2.sw) (g'.trans g2.sw) hf' (Same.trans fl' g2.fx) e0 hb hk
  · obtain rfl : i = xs.length := by omega
    exact .inl ⟨w2, done G' ms' iv σ' H' ⟨F', S'.sw, g'.sw, hf', Same.trans fl (Same.trans g1.fx fl'), e0, hb⟩⟩
theorem tr_fl {Fl' : Hp} {t : TS} (h : Tr ⟨K, B, F0, H0, Fl⟩ G ms t D) (e : Same Fl Fl') : Tr ⟨K, B, F0, H0, Fl'⟩ G ms t D := fun σ H ⟨F, S, gg, hf, fl, r⟩ => h σ H ⟨F, ⟨S.fh, S.len, S.env, S.cells, S.nd, S.bag, S.tab⟩, ⟨gg.fx, gg.ex, gg.kp, gg.tk, gg.tb, gg.bg⟩, hf, Same.trans e fl, r⟩
end

/-! ### comprehensions -/
section
variable {C : Cn} {G : List Sl} {ms ws : Ms} {wi : TI} {g : TG} {tt : TT} {te : TE} {vs : List Nat}
theorem wipe_at {σ : St} {i : Nat} : ∀ {vs : List Nat}, (L2.wipe σ vs)[i]? = if i ∈ vs then (if i < σ.length then some none else none) else σ[i]?
  | [] => by simp [L2.wipe]
  | v :: vs => by
    show ((L2.wipe σ vs).set v none)[i]? = _
    by_cases e : v = i
    · subst e
      rw [if_pos (by simp)]
      by_cases h : v < σ.length
      · rw [List.getElem?_set_self (by rw [wipe_length]; exact h), if_pos h]
      · rw [List.getElem?_eq_none (by rw [List.length_set, wipe_length]; omega), if_neg h]
    · rw [List.getElem?_set_ne e, wipe_at (vs := vs)]
      have : (i ∈ v :: vs) ↔ i ∈ vs := by simp [Ne.symm e]
      by_cases h : i ∈ vs
      · rw [if_pos h, if_pos (this.mpr h)]
      · rw [if_neg h, if_neg (fun z => h (this.mp z))]
/-- the slots outside vs, as they were -/
def Out (vs : List Nat) (σ τ : St) : Prop := τ.length = σ.length ∧ ∀ i, i ∉ vs → τ[i]? = σ[i]?
theorem Out.refl (σ : St) : Out vs σ σ := ⟨rfl, fun _ _ => rfl⟩
theorem Out.set {σ τ : St} (h : Out vs σ τ) {i : Nat} {v : Option V} (hi : i ∈ vs) : Out vs σ (τ.set i v) := ⟨by rw [List.length_set]; exact h.1, fun j hj => by
  rw [List.getElem?_set_ne (fun e : i = j => hj (by rw [← e]; exact hi))]; exact h.2 j hj⟩
theorem Out.wipe {σ τ : St} (h : Out vs (L2.wipe σ vs) τ) : L2.wipe τ vs = L2.wipe σ vs := by
  refine List.ext_getElem? fun i => ?_
  rw [wipe_at, wipe_at]
  have hl : τ.length = σ.length := by rw [h.1, wipe_length]
  by_cases k : i ∈ vs
  · rw [if_pos k, if_pos k, hl]
  · rw [if_neg k, if_neg k, h.2 i k, wipe_at, if_neg k]
/-- a comprehension's target -/
def TgC (C : Cn) (g : TG) (s : Sl) (vs : List Nat) (G G' : List Sl) (ms : Ms) : Prop := ∀ F H σ τ v, Sat C F H τ G ms → Out vs σ τ → SlOk C.K F v s → ∀ Q : St → Hp → Prop, (∀ ρ, Sat C F H ρ G' ms → Out vs σ ρ → Q ρ H) → g v τ H Q
def TgCs (C : Cn) (g : TGs) (ss : List Sl) (vs : List Nat) (G G' : List Sl) (ms : Ms) : Prop := ∀ F H σ τ us, Sat C F H τ G ms → Out vs σ τ → SlsOk C.K F us ss → ∀ Q : St → Hp → Prop, (∀ ρ, Sat C F H ρ G' ms → Out vs σ ρ → Q ρ H) → g us τ H Q
theorem tgc_name {i : Nat} {s : Sl} (hi : i ∈ vs) : TgC C (gName i) s vs G (G.set i s) ms := fun F H σ τ v S O o Q q => q _ (S.set o i) (O.set hi)
theorem tgcs_nil : TgCs C gNil [] vs G G ms := fun F H σ τ us S O o Q q => by cases o; exact ⟨rfl, q _ S O⟩
theorem tgcs_name {i : Nat} {s : Sl} {ss : List Sl} {gs : TGs} {G' : List Sl} (hi : i ∈ vs) (h : TgCs C gs ss vs (G.set i s) G' ms) : TgCs C (gCons (gName i) gs) (s :: ss) vs G G' ms := fun F H σ τ us S O o Q q => by
  cases o with | cons o1 o2 => exact ⟨_, _, rfl, h F H σ _ _ (S.set o1 i) (O.set hi) o2 Q q⟩
theorem tgc_tup {n : Nat} {ds : List PD} {gs : TGs} {G' : List Sl} (hn : ds.length = n) (h : TgCs C gs (ds.map Sl.dat) vs G G' ms) : TgC C (gTup C.K n gs) (.dat (.tuple ds)) vs G G' ms := fun F H σ τ v S O o Q q => by
  obtain ⟨a, xs, rfl, h1, h2⟩ := dp_tup o
  exact ⟨a, xs, rfl, same_t S.fh h1, by rw [dps_len h2]; exact hn, h F H σ τ xs S O (.of_dps h2) Q q⟩
/-- a pair of names -/
theorem tgc_2 {i j : Nat} {d1 d2 : PD} (hi : i ∈ vs) (hj : j ∈ vs) : TgC C (gTup C.K 2 (gCons (gName i) (gCons (gName j) gNil))) (.dat (.tuple [d1, d2])) vs G ((G.set i (.dat d1)).set j (.dat d2)) ms :=
  tgc_tup rfl (tgcs_name hi (tgcs_name hj tgcs_nil))
/-- the word of a comprehension's turn: the new list at D holds what is given so far -/
structure Cw (C : Cn) (F0 H0 : Hp) (D : Addr) (P : List PD → Prop) (H : Hp) : Prop where
  ex : ∃ F us ds, Go C F0 H0 F H ∧ F D = none ∧ H D = some (.lst us) ∧ DpAll C.K F us ds ∧ ds.length ≤ 100000 ∧ P ds
theorem elp_lc {α : Type} {xs : List α} {enc : α → PD} {Gx : α → List Sl} (Acc : Nat → List PD → Prop) (hs : Src C wi G ms ws (xs.map enc)) (hw : ∀ p ∈ ws, p ∈ ms) (hl : xs.length ≤ 100000) (a0 : Acc 0 []) (alen : ∀ i ds, Acc i ds → ds.length ≤ i)
    (hg : ∀ a, a ∈ xs → TgC C g (.dat (enc a)) vs (wipeG G vs) (Gx a) ms)
    (turn : ∀ i a, xs[i]? = some a → ∃ b, EvT C tt (Gx a) ms b ∧ (b = true → EvP C te (Gx a) ms fun s => ∃ d, s = .dat d ∧ ∀ ds, Acc i ds → Acc (i + 1) (ds ++ [d])) ∧ (b = false → ∀ ds, Acc i ds → Acc (i + 1) ds)) :
    EvLP C (tLc wi g tt te vs) G ms (Acc xs.length) := fun F H σ S Q q => by
  refine hs F H σ S _ fun J F1 H1 g1 wk => fun D hD => ?_
  have S1 := S.go g1
  obtain ⟨gD, fD⟩ := Go.newM (C := C) (o := .lst []) g1.ex hD
  refine ⟨fun i m H' => m = xs.length - i ∧ i ≤ xs.length ∧ Cw C F1 H1 D (Acc i) H', ⟨xs.length, by simp, Nat.zero_le _, ⟨F1, [], [], gD, fD, upd_same, .nil, Nat.zero_le _, a0⟩⟩, ?_⟩
  rintro i m H' ⟨rfl, hi, ⟨F', us, ds, gF, hF, hH, hd, hdl, ha⟩⟩
  have S' := S1.go gF
  obtain ⟨w1, w2, w3⟩ := wk F' H' gF.fx gF.ex (fun p hp => S'.cells p (hw p hp))
  rw [List.length_map] at w1 w2 w3
  by_cases hlt : i < xs.length
  · refine .inr ⟨w1 i hlt, Cw C F1 H1 D (Acc (i + 1)), fun H2 p => ⟨xs.length - (i + 1), by omega, rfl, hlt, p⟩, fun x H2 y => ?_⟩
    obtain ⟨F2, d, g2, hd2, hk⟩ := w3 i x H2 hlt y
    rw [List.getElem?_map, List.getElem?_eq_getElem hlt] at hd2
    cases hd2
    have hBD : C.B ≠ some D := fun e => by
      obtain ⟨_, _, _, _, _, _, w, _⟩ := S1.bag D e
      rw [w] at hD; cases hD
    refine hg xs[i] (List.getElem_mem hlt) F2 H2 (L2.wipe σ vs) _ x ((S'.go g2).wipe vs) (Out.refl _) hk _ fun ρ Sρ O => ⟨O.wipe, ?_⟩
    obtain ⟨b, hb, hb1, hb2⟩ := turn i xs[i] (List.getElem?_eq_getElem hlt)
    refine hb F2 H2 ρ Sρ _ fun b' F3 H3 e3 g3 => ?_
    subst e3
    have g23 := g2.trans g3
    cases b' with
    | false =>
      rw [if_neg (by simp)]
      obtain ⟨p1, p2⟩ := g23.kp D _ hH hF hBD nofun
      exact ⟨F3, us, ds, gF.trans g23, p2, p1, dps_mono g23.fx _ _ hd, hdl, hb2 rfl ds ha⟩
    | true =>
      rw [if_pos rfl]
      refine hb1 rfl F3 H3 ρ (Sρ.go g3) _ fun s v F4 H4 e4 g4 k4 => ?_
      obtain ⟨d, rfl, acc⟩ := e4
      have gA := g23.trans g4
      obtain ⟨p1, p2⟩ := gA.kp D _ hH hF hBD nofun
      have al := alen _ _ ha
      refine ⟨us, p1, by rw [dps_len hd]; exact Nat.lt_of_lt_of_le (show ds.length < 100001 by omega) (by decide), ?_⟩
      refine ⟨F4, us ++ [v], ds ++ [d], ?_, p2, upd_same, dps_app (dps_mono gA.fx _ _ hd) (.cons k4 .nil), ?_, acc ds ha⟩
      · have gg := gF.trans gA
        have hx : H4 D = some (.lst us) := p1
        refine ⟨gg.fx, fun a u qa => ?_, fun a u qa f n nt => ?_, fun a ps qa => ?_, fun t => (gg.tb t).cell hx, fun b e z => ?_⟩
        · rw [upd_ne (fun e => by rw [e, p2] at qa; cases qa)]; exact gg.ex a u qa
        · rw [upd_ne (ne_of_none qa hD)]; exact gg.kp a u qa f n nt
        · obtain ⟨qs, q1⟩ := gg.tk a ps qa
          exact ⟨qs, by rw [upd_ne (ne_of_none qa hD)]; exact q1⟩
        · refine (gg.bg b e z).at (Same.refl _) fun u qu f _ => ⟨?_, f⟩
          rw [upd_ne (fun e2 : b = D => hBD (by rw [← e2]; exact e))]; exact qu
      · have := alen _ _ (acc ds ha); omega
  · obtain rfl : i = xs.length := by omega
    refine .inl ⟨w2, q ds D us F' H' ha (back_none S g1 hD) (g1.trans gF) hF hH hd⟩
/-- [elt for .. in xs if ..] -/
theorem el_lc {α : Type} {xs : List α} {enc : α → PD} {Gx : α → List Sl} (p : α → Bool) (f : α → PD) (hs : Src C wi G ms ws (xs.map enc)) (hw : ∀ q ∈ ws, q ∈ ms) (hl : xs.length ≤ 100000)
    (hg : ∀ a, a ∈ xs → TgC C g (.dat (enc a)) vs (wipeG G vs) (Gx a) ms) (ht : ∀ a, a ∈ xs → EvT C tt (Gx a) ms (p a)) (he : ∀ a, a ∈ xs → p a = true → Ev C te (Gx a) ms (.dat (f a))) :
    EvL C (tLc wi g tt te vs) G ms ((xs.filter p).map f) := by
  have h := elp_lc (g := g) (tt := tt) (te := te) (Acc := fun i ds => ds = ((xs.take i).filter p).map f) hs hw hl (by simp) (fun i ds e => by
    rw [e, List.length_map]
    exact Nat.le_trans (List.length_filter_le _ _) (by rw [List.length_take]; omega)) hg fun i a hi => ⟨p a, ht a (List.mem_of_getElem? hi), fun hp => (he a (List.mem_of_getElem? hi) hp).imp fun s e => ⟨_, e, fun ds hd => ?_⟩, fun hp ds hd => ?_⟩
  · refine h.imp fun ds e => ?_
    rw [e, List.take_length]
  · rw [hd, List.take_succ, hi]
    simp [List.filter_append, hp]
  · rw [hd, List.take_succ, hi]
    simp [List.filter_append, hp]
theorem et_yes : EvT C tYes G ms true := fun F H σ S Q q => q true F H rfl (Go.refl S.fh)
/-- without a test -/
theorem el_map {α : Type} {xs : List α} {enc : α → PD} {Gx : α → List Sl} (f : α → PD) (hs : Src C wi G ms ws (xs.map enc)) (hw : ∀ q ∈ ws, q ∈ ms) (hl : xs.length ≤ 100000)
    (hg : ∀ a, a ∈ xs → TgC C g (.dat (enc a)) vs (wipeG G vs) (Gx a) ms) (he : ∀ a, a ∈ xs → Ev C te (Gx a) ms (.dat (f a))) : EvL C (tLc wi g tYes te vs) G ms (xs.map f) := by
  have := el_lc (g := g) (te := te) (tt := tYes) (fun _ => true) f hs hw hl hg (fun a _ => et_yes) (fun a h _ => he a h)
  rw [List.filter_eq_self.mpr (fun _ _ => rfl)] at this
  exact this
end
end FW
end
section
set_option linter.all false
set_option maxRecDepth 100000
set_option maxHeartbeats 4000000
/-! The text by its places; what the top leaves, by names. -/
namespace Hd
open PySem PySem.Spec PyProof.Rows L2
def top (i : Nat) : Stmt := PySem.Challenge.pw_floorkeepers_k46_whole_best_and_worst_ke.main.body.getD i (.Pass ⟨0, 0, 0, 0⟩)
def mkD (x : Str) (i : Nat) : He.DefD := ⟨(x, none), x, x, defArgs (top i), defBody (top i), defScope (top i), [], []⟩
def fn0 : List He.DefD := [mkD "rooms_within" 5, mkD "sizes_of" 6, mkD "things_within" 7, mkD "known_sizes" 9, mkD "are_sizes" 10, mkD "stepped" 11, mkD "tightened" 12, mkD "first_knowledge" 14, mkD "taken_out" 15, mkD "amid" 16, mkD "lost_one" 17, mkD "led" 18]
def fn1 : List He.DefD := [mkD "led_by" 19, mkD "knowledge_behind" 20, mkD "words_through" 21, mkD "surely_within" 23, mkD "may_be_within" 24, mkD "floors_of" 25, mkD "fits" 27, mkD "by_things" 28, mkD "first_above" 29, mkD "front_state" 30, mkD "as_log" 32, mkD "followed" 33]
def fn2 : List He.DefD := [mkD "least_pattern" 34, mkD "greatest_pattern" 35, mkD "put_back" 37, mkD "state_of" 38, mkD "ahead" 39, mkD "showing_to" 41, mkD "showing" 42, mkD "best_run" 44, mkD "worst_run" 45, mkD "_law_bag" 47, mkD "_law_take" 48, mkD "_law_one" 49]
def fn3 : List He.DefD := [mkD "_law_mixed" 50, mkD "_law_alike" 51, mkD "_law_flat" 52, mkD "_law_integer" 53, mkD "_law_house" 54, mkD "_law_rooms_within" 55, mkD "_law_within" 56, mkD "_law_sizes" 57, mkD "_law_state" 58, mkD "_law_full_state" 59, mkD "_law_start" 60, mkD "_law_is_state" 61]
def fn4 : List He.DefD := [mkD "_law_done" 62, mkD "_law_drawn_move" 63, mkD "_law_first_known" 64, mkD "_law_tightened" 65, mkD "_law_known_sizes" 66, mkD "_law_led" 67, mkD "_law_floors_of" 68, mkD "_law_pattern" 69, mkD "_law_behind" 70, mkD "_law_row" 71, mkD "_law_some_house" 72, mkD "_law_floors_by" 73]
def fn5 : List He.DefD := [mkD "_law_is_begin" 74, mkD "_law_drawn_floors" 75, mkD "law" 76]
def fn : List He.DefD := fn0 ++ fn1 ++ fn2 ++ fn3 ++ fn4 ++ fn5
def fa0 : List He.Fa := [.glo "rooms_within", .glo "sizes_of", .glo "things_within", .glo "known_sizes", .glo "are_sizes", .glo "stepped", .glo "tightened", .glo "first_knowledge", .glo "taken_out", .glo "amid", .glo "lost_one", .glo "led"]
def fa1 : List He.Fa := [.glo "led_by", .glo "knowledge_behind", .glo "words_through", .glo "surely_within", .glo "may_be_within", .glo "floors_of", .glo "fits", .glo "by_things", .glo "first_above", .glo "front_state", .glo "as_log", .glo "followed"]
def fa2 : List He.Fa := [.glo "least_pattern", .glo "greatest_pattern", .glo "put_back", .glo "state_of", .glo "ahead", .glo "showing_to", .glo "showing", .glo "best_run", .glo "worst_run", .glo "_law_bag", .glo "_law_take", .glo "_law_one"]
def fa3 : List He.Fa := [.glo "_law_mixed", .glo "_law_alike", .glo "_law_flat", .glo "_law_integer", .glo "_law_house", .glo "_law_rooms_within", .glo "_law_within", .glo "_law_sizes", .glo "_law_state", .glo "_law_full_state", .glo "_law_start", .glo "_law_is_state"]
def fa4 : List He.Fa := [.glo "_law_done", .glo "_law_drawn_move", .glo "_law_first_known", .glo "_law_tightened", .glo "_law_known_sizes", .glo "_law_led", .glo "_law_floors_of", .glo "_law_pattern", .glo "_law_behind", .glo "_law_row", .glo "_law_some_house", .glo "_law_floors_by"]
def fa5 : List He.Fa := [.glo "_law_is_begin", .glo "_law_drawn_floors", .glo "law", .free "abs", .free "all", .free "any", .free "bool", .free "dict", .free "enumerate", .free "int", .free "isinstance", .free "len"]
def fa6 : List He.Fa := [.free "list", .free "max", .free "min", .free "range", .free "repr", .free "sorted", .free "sum", .free "super", .free "tuple", .free "zip"]
def fa : List He.Fa := fa0 ++ fa1 ++ fa2 ++ fa3 ++ fa4 ++ fa5 ++ fa6
/-- what the head says -/
structure Ok (K : PySem.W.Frag) (mg : Str → Option Value) : Prop where
  c : He.SaysD fa fn K
  ne : (He.cT K ("first_knowledge", none)).2 ≠ (He.cT K ("_law_first_known", none)).2
  h : ∃ h : Heap, K.In h ∧ h.Ns mainGlobals mg
theorem Ok.glo {K : PySem.W.Frag} {mg : Str → Option Value} (Y : Ok K mg) (i : Nat) {x : Str} (e : fa[i]? = some (.glo x) := by rfl) : mg x = some (.ref (He.ga K x)) := by
  obtain ⟨h, X, N⟩ := Y.h
  exact He.glo_ok X N (Y.c.fact i e)
theorem Ok.free {K : PySem.W.Frag} {mg : Str → Option Value} (Y : Ok K mg) (i : Nat) {x : Str} (e : fa[i]? = some (.free x) := by rfl) : mg x = none := by
  obtain ⟨h, X, N⟩ := Y.h
  exact He.free_ok X N (Y.c.fact i e)
/-- room, and no text of a thing is being made -/
structure RmG (k : Nat) (A : Around) : Prop where
  r : Room k A
  g : A.guards = some []
theorem RmG.mono {j k : Nat} {A : Around} (h : RmG k A) (le : j ≤ k) : RmG j A := ⟨h.r.mono le, h.g⟩
theorem RmG.deeper {k : Nat} {A : Around} (h : RmG (k + 1) A) (env : Env) : RmG k (A.deeper env) := ⟨h.r.deeper env, h.g⟩
/-- a def that keeps its promise where no text is being made -/
structure FnG (P : Program) (w : World) (K : PySem.W.Frag) (mg : Str → Option Value) (base : Heap) (k : Nat) (f : Addr) (fd : FuncData) (ps : List Str) (sp : Sp) : Prop where
  len : ∀ vs H Q E, sp vs H Q E → vs.length = ps.length
  go : ∀ (A : Around) (outer : List Env) (s : Shared) (H : Hp) (args : Args) (us : List Value) (vs : List V) (Q : VK) (E : XK), RmG k A → Env0 P w K mg base A outer s H → BindsTo s fd args (ps.zip us) → Vals vs us → sp vs H Q E →
    codeAny (model P w) A (.call (.ref f) args) (CR CX0 outer P w H s Q E) s
theorem fn_g {P : Program} {w : World} {K : PySem.W.Frag} {mg : Str → Option Value} {base : Heap} {k : Nat} {f : Addr} {name qual : Str} {params : Arguments} {body : List Stmt} {scope : Scope} {dV kV doc pm cdv ct oc : Value} {an od : Option Addr} {osl : Array (Option Value)} {N ps : List Str} {sp : Sp}
    (lk : K.lookup f = some ⟨oc, od, .func (PySem.W.fnOf name qual params body scope dV kV doc pm an cdv ct), osl⟩) (code : PySem.W.codeIn K cdv qual = true) (S : FnScope N ps scope) (len : ∀ vs H Q E, sp vs H Q E → vs.length = ps.length)
    (bodyOk : ∀ (A : Around) (outer : List Env) (s : Shared) (H : Hp) (vs : List V) (Q : VK) (E : XK), RmG k (A.deeper (envOfC qual scope s.heap.objs.size f cdv)) → sp vs H Q E →
      ∃ t, PSs (cxOf CX0 P w K mg base N qual scope f cdv A outer s H E) body t ∧ t { nx := fun _ H' => Q .non H', rt := Q } (start N vs) H) : FnG P w K mg base (k + 1) f (PySem.W.fnOf name qual params body scope dV kV doc pm an cdv ct) ps sp := by
  refine ⟨len, fun A outer s H args us vs Q E room e0 binds rel want => ?_⟩
  have nargs := len _ _ _ _ want
  have inK : K.In s.heap := e0.mod.kin.keeps fun b o e => (e0.bs b o e).1
  have noLim : s.heap.NoLimit := e0.mod.nolimit.keeps fun b o e => (e0.bs b o e).1
  have kinds : ∀ y ∈ ps.zip us, scope.names.lookup y.1 = some .local ∨ (scope.names.lookup y.1 = some .cell ∧ ((cellsFrom (s.heap.objs.size + 1) scope.names []).lookup y.1).isSome = true) := fun ⟨n, v⟩ hy =>
    (S.par n (List.of_mem_zip hy).1).imp id fun q => ⟨q, PySem.W.cellsFrom_some _ _ _ (.inl q)⟩
  refine codeAny_call_function room.r.depth (inK _ _ lk) rfl S.co S.gen rfl (PySem.W.codeRec_of inK code) (binds _ _ _ _ (wpAny_newFunctionEnv_cells S.kind kinds fun env henv s1 made => ?_))
  subst henv
  refine ⟨noLim.keeps made.toInCall.keep, codeAny_func ?_⟩
  obtain ⟨t, walk, start_⟩ := bodyOk A outer s H vs Q E (room.deeper _) want
  have I0 : Inv (cxOf CX0 P w K mg base N qual scope f cdv A outer s H E) [] (start N vs) H s1 := inv_start S room.r.hd e0 nargs rel made
  refine wpAny_mono (walk.run [] s1 (start N vs) H _ I0 start_) (fun flow s2 got => ?_) fun _ _ got => got
  match flow, got with
  | .ret u, ⟨v, _, H2, J, rv, q⟩ => exact ⟨v, H2, J.os, J.bare, J.base, J.hok, rv, q⟩
  | .next, ⟨_, H2, J, q⟩ => exact ⟨V.non, H2, J.os, J.bare, J.base, J.hok, rfl, q⟩
  | .brk, ⟨_, _, _, q⟩ => exact False.elim q
  | .cont, ⟨_, _, _, q⟩ => exact False.elim q
theorem call_g {X : Cx} {k : Nat} {f : Addr} {fd : FuncData} {ps : List Str} {sp : Sp} {pins : List (Addr × Obj)} {σ : L2.St} {H : Hp} {s : Shared} {Q : VK} {us : List Value} {vs : List V} (F : FnG X.prog X.w X.K X.mg X.base k f fd ps sp) (room : RmG k X.A) (b : Binds X.K fd ps [])
    (I : Inv X pins σ H s) (rel : Vals vs us) (want : sp vs H Q E0) : wpAny (model X.prog X.w) X.A (call (.ref f) us) (EP X pins σ Q) X.xe s := by
  have n : us.length = ps.length := by rw [← rel.length]; exact F.len _ _ _ _ want
  have bb := b s us I.kIn (by rw [List.append_nil]; exact n)
  rw [List.append_nil] at bb
  refine wpAny_call (codeAny_mono (F.go X.A X.stack s H ⟨us, []⟩ us vs Q E0 room I.env0 bb rel want) fun res s2 got => ?_)
  match res, got with
  | .ok (.ret u), got => exact I.after got
  | .ok .next, got => exact False.elim got
  | .ok .brk, got => exact False.elim got
  | .ok .cont, got => exact False.elim got
  | .error e, got => exact False.elim got
/-- a def that keeps a promise, ready to be called -/
structure OkF (P : Program) (w : World) (K : PySem.W.Frag) (mg : Str → Option Value) (base : Heap) (k : Nat) (x : Str) (ps : List Str) (sp : Sp) : Prop where
  ex : ∃ fd, FnG P w K mg base k (He.ga K x) fd ps sp ∧ Binds K fd ps []
  kp : PySem.W.keepIn K (.ref (He.ga K x)) = true
  g : mg x = some (.ref (He.ga K x))
theorem pe_f {X : Cx} {x : Str} {k : Nat} {ps : List Str} {sp : Sp} {e : Expr} {es : List Expr} {t : TA} {p pos : Pos} (F : OkF X.prog X.w X.K X.mg X.base k x ps sp) (hr : RmG k X.A) (hg : Gl X x) (ha : PA X (e :: es) t) (hdb : (x == ("__debug__" : Str)) = false := by decide)
    (he : starEach (e :: es) X.env = (false, eval e X.env) :: starEach es X.env := by rfl) (hpl : (backTo pos (starEach es X.env)).any (·.1) = false := by rfl) : PE X (.Call (.Name x p) (e :: es) [] pos) (tCall sp [] E0 t) := by
  obtain ⟨fd, h, b⟩ := F.ex
  refine ⟨fun pins s σ H Q I q => ?_⟩
  refine wpAny_Call_Name_kw (ld_glob I hg F.g ?_ hdb)
  refine PySem.W.callWith_K (h₀ := X.base) I.ok.mod.kin F.kp (thn (ha.run pos pins s σ H _ I q) fun us s1 ⟨vs, H1, I1, r, q1⟩ => ⟨I1.kIn, ?_⟩) he hpl
  have q2 : sp (vs ++ []) H1 Q E0 := q1
  rw [List.append_nil] at q2
  exact call_g h hr b I1 r q2
/-- a def by its body -/
theorem mkF {P : Program} {w : World} {K : PySem.W.Frag} {mg : Str → Option Value} {base : Heap} {x : Str} {i j : Nat} {k : Nat} {N ps : List Str} {sp : Sp} (Y : Ok K mg) (hd : fn[i]? = some (mkD x j)) (hf : fa[i]? = some (.glo x)) (S : FnScope N ps (defScope (top j)))
    (hb : ∀ (kV doc pm : Value) (an : Option Addr) (cdv ct : Value) (us : List Value), us.length = ps.length → bindArgs (PySem.W.fnOf x x (defArgs (top j)) (defBody (top j)) (defScope (top j)) .none kV doc pm an cdv ct) ⟨us, []⟩ = pure (ps.zip us))
    (len : ∀ vs H Q E, sp vs H Q E → vs.length = ps.length)
    (hbody : ∀ (cdv : Value) (A : Around) (outer : List Env) (s : Shared) (H : Hp) (vs : List V) (Q : VK) (E : XK), RmG k (A.deeper (envOfC x (defScope (top j)) s.heap.objs.size (He.ga K x) cdv)) → sp vs H Q E →
      ∃ t, PSs (cxOf CX0 P w K mg base N x (defScope (top j)) (He.ga K x) cdv A outer s H E).nox (defBody (top j)) t ∧ t { nx := fun _ H' => Q .non H', rt := Q } (start N vs) H) : OkF P w K mg base (k + 1) x ps sp := by
  obtain ⟨fd, F⟩ := Y.c.def_ i (d := mkD x j) hd
  have F : FunD K x x (defArgs (top j)) (defBody (top j)) (defScope (top j)) [] [] (He.ga K x) fd := F
  obtain ⟨oc, od, dV, kV, doc, pm, an, cdv, ct, osl, e, lk, hcd, _, _⟩ := F.ex
  subst e
  exact ⟨⟨_, fn_g lk hcd S len fun A outer s H vs Q E hr h => (hbody cdv A outer s H vs Q E hr h).imp fun t q => ⟨q.1.nox, q.2⟩, F.bindsN hb⟩, F.kp, Y.glo i hf⟩
/-- the same; told: its code object -/
theorem mkFT {P : Program} {w : World} {K : PySem.W.Frag} {mg : Str → Option Value} {base : Heap} {x : Str} {i j : Nat} {k : Nat} {N ps : List Str} {sp : Sp} (Y : Ok K mg) (hd : fn[i]? = some (mkD x j)) (hf : fa[i]? = some (.glo x)) (S : FnScope N ps (defScope (top j)))
    (hb : ∀ (kV doc pm : Value) (an : Option Addr) (cdv ct : Value) (us : List Value), us.length = ps.length → bindArgs (PySem.W.fnOf x x (defArgs (top j)) (defBody (top j)) (defScope (top j)) .none kV doc pm an cdv ct) ⟨us, []⟩ = pure (ps.zip us))
    (len : ∀ vs H Q E, sp vs H Q E → vs.length = ps.length)
    (hbody : ∀ (cdv : Value), cdv = .ref (He.codeOf K (x, none)) → ∀ (A : Around) (outer : List Env) (s : Shared) (H : Hp) (vs : List V) (Q : VK) (E : XK), RmG k (A.deeper (envOfC x (defScope (top j)) s.heap.objs.size (He.ga K x) cdv)) → sp vs H Q E →
      ∃ t, PSs (cxOf CX0 P w K mg base N x (defScope (top j)) (He.ga K x) cdv A outer s H E).nox (defBody (top j)) t ∧ t { nx := fun _ H' => Q .non H', rt := Q } (start N vs) H) : OkF P w K mg base (k + 1) x ps sp := by
  obtain ⟨fd, F⟩ := Y.c.def_ i (d := mkD x j) hd
  have F : FunD K x x (defArgs (top j)) (defBody (top j)) (defScope (top j)) [] [] (He.ga K x) fd := F
  obtain ⟨oc, od, dV, kV, doc, pm, an, cdv, ct, osl, e, lk, hcd, _, _⟩ := F.ex
  subst e
  obtain ⟨c, hc⟩ := He.codeIn_ref hcd
  have he : cdv = .ref (He.codeOf K (x, none)) := by
    rw [hc, He.codeOf_eq (K := K) (p := (x, none)) lk hc]
  exact ⟨⟨_, fn_g lk hcd S len fun A outer s H vs Q E hr h => (hbody cdv he A outer s H vs Q E hr h).imp fun t q => ⟨q.1.nox, q.2⟩, F.bindsN hb⟩, F.kp, Y.glo i hf⟩
/-- the defs that make a lambda -/
def tf : List He.Defn := [("first_knowledge", none), ("_law_first_known", none)]
abbrev TBs (K : PySem.W.Frag) (mg : Str → Option Value) (base : Heap) : Prop := ∀ p ∈ tf, LamX.TabB base mg (He.cT K p).1 (He.cT K p).2
end Hd
/-! rules that read two kinds of things -/
namespace FW
open PySem PySem.Spec PyProof.Rows L2
def rAddU (K : PySem.W.Frag) : R2 := fun x y H Q => rI0 (fun i j => .int (i + j)) x y H Q ∨ (rCat x y H Q ∨ rCatN K x y H Q)
theorem op_addU {X : Cx} : OpR X (binaryOp .Add) (rAddU X.K) := OpR.or op_add (OpR.or op_cat op_catN)
def rMulU (K : PySem.W.Frag) : R2 := fun x y H Q => rI CMul (fun i j => .int (i * j)) x y H Q ∨ (rRep x y H Q ∨ rRepN K x y H Q)
theorem op_mulU {X : Cx} : OpR X (binaryOp .Mult) (rMulU X.K) := OpR.or op_mul (OpR.or op_rep op_repN)
def rEqU (K : PySem.W.Frag) : R2 := fun x y H Q => rEq x y H Q ∨ rEqD K x y H Q
theorem op_eqU {X : Cx} (hu : X.A.units + 64 < cLine) : OpR X (compareOp .Eq) (rEqU X.K) := OpR.or op_eq (op_eqD hu)
def rNeU (K : PySem.W.Frag) : R2 := fun x y H Q => rNe x y H Q ∨ rNeD K x y H Q
theorem op_neU {X : Cx} (hu : X.A.units + 64 < cLine) : OpR X (compareOp .NotEq) (rNeU X.K) := OpR.or op_ne (op_neD hu)
def rSlU (K : PySem.W.Frag) : V → Option Int → Option Int → Hp → VK → Prop := fun x lo hi H Q => rSlL K x lo hi H Q ∨ rSlN K x lo hi H Q
theorem sl_U {X : Cx} : SlR X (rSlU X.K) := SlR.or sl_list sl_tupN
theorem enter {K : PySem.W.Frag} {B : Option Addr} {F H : Hp} {vs : List V} {ss : List Sl} {N : List Str} {t : TS} {D : Ends} (k : Nat) (e : Same F H) (tab : TabK K F H) (hv : SlsOk K F vs ss) (hN : N.length = ss.length + k) (hb : ∀ b, B = some b → BagOk K F H b)
    (tr : Tr ⟨K, B, F, H, F⟩ (ss ++ List.replicate k .un) [] t D) : t D (L2.start N vs) H := by
  have len : ∀ {vs : List V} {ss : List Sl}, SlsOk K F vs ss → vs.length = ss.length := fun {vs ss} o => by
    induction o with
    | nil => rfl
    | cons _ _ ih => rw [List.length_cons, List.length_cons, ih]
  have get : ∀ {vs : List V} {ss : List Sl}, SlsOk K F vs ss → ∀ (i : Nat) (s : Sl), ss[i]? = some s → ∃ v, vs[i]? = some v ∧ SlOk K F v s := fun {vs ss} o => by
    induction o with
    | nil => intro i s e; simp at e
    | cons h _ ih =>
      intro i s e
      cases i with
      | zero => obtain rfl := Option.some.inj e; exact ⟨_, rfl, h⟩
      | succ i => exact ih i s (by simpa using e)
  have hl := len hv
  refine tr _ _ ⟨F, ⟨e, ?_, fun i s q => ?_, fun p hp => by simp at hp, by simp, hb, tab⟩, Go.refl e, fun p hp => by simp at hp, Same.refl F, e, hb⟩
  · unfold L2.start
    rw [List.length_append, List.length_append, List.length_map, List.length_replicate, List.length_replicate]
    omega
  · by_cases hi : i < ss.length
    · rw [List.getElem?_append_left hi] at q
      obtain ⟨v, e1, e2⟩ := get hv i s q
      refine .inr ⟨v, ?_, e2⟩
      unfold L2.start
      rw [List.getElem?_append_left (by rw [List.length_map]; omega), List.getElem?_map, e1]; rfl
    · rw [List.getElem?_append_right (by omega)] at q
      left
      exact List.eq_of_mem_replicate (List.mem_of_getElem? q)
section
variable {P : Program} {w : World} {K : PySem.W.Frag} {mg : Str → Option Value} {base : Heap} {x : Str} {i j : Nat} {k : Nat} {N ps : List Str} {α : Type} {A : α → List PD} {pre : α → Prop}
abbrev HB (x : Str) (j : Nat) (ps : List Str) : Prop := ∀ (kV doc pm : Value) (an : Option Addr) (cdv ct : Value) (us : List Value), us.length = ps.length → bindArgs (PySem.W.fnOf x x (defArgs (Hd.top j)) (defBody (Hd.top j)) (defScope (Hd.top j)) .none kV doc pm an cdv ct) ⟨us, []⟩ = pure (ps.zip us)
abbrev CX (P : Program) (w : World) (K : PySem.W.Frag) (mg : Str → Option Value) (base : Heap) (N : List Str) (x : Str) (j : Nat) (cdv : Value) (A : Around) (outer : List Env) (s : Shared) (H : Hp) (E : XK) : Cx := (cxOf CX0 P w K mg base N x (defScope (Hd.top j)) (He.ga K x) cdv A outer s H E).nox
theorem mkPr {R : α → PD} (Y : Hd.Ok K mg) (hd : Hd.fn[i]? = some (Hd.mkD x j)) (hf : Hd.fa[i]? = some (.glo x)) (S : FnScope N ps (defScope (Hd.top j))) (hb : HB x j ps) (n : Nat) (hn : N.length = ps.length + n) (hA : ∀ a, (A a).length = ps.length)
    (body : ∀ (cdv : Value) (A' : Around) (outer : List Env) (s : Shared) (H : Hp) (E : XK), Hd.RmG k (A'.deeper (envOfC x (defScope (Hd.top j)) s.heap.objs.size (He.ga K x) cdv)) → ∃ t, PSs (CX P w K mg base N x j cdv A' outer s H E) (defBody (Hd.top j)) t ∧
      ∀ (a : α) (F H : Hp) (Q : VK), pre a → (∀ v F' H', Go ⟨K, none, F, H, F⟩ F H F' H' → Dp K F' v (R a) → Q v H') → Tr ⟨K, none, F, H, F⟩ ((A a).map Sl.dat ++ List.replicate n .un) [] t { nx := fun _ H' => Q .non H', rt := Q }) : Hd.OkF P w K mg base (k + 1) x ps (Pr K A pre R) := by
  refine Hd.mkF Y hd hf S hb (fun vs H Q E ⟨a, F, e, _, h, _⟩ => by rw [dps_len h, hA a]) fun cdv A' outer s H vs Q E hr ⟨a, F, e, tab, h, hp, hQ⟩ => ?_
  obtain ⟨t, h1, h2⟩ := body cdv A' outer s H E hr
  exact ⟨t, h1, enter n e tab (.of_dps h) (by rw [List.length_map, hA a]; exact hn) (fun _ e => by cases e) (h2 a F H Q hp hQ)⟩
theorem mkPrT {R : α → PD} (Y : Hd.Ok K mg) (hd : Hd.fn[i]? = some (Hd.mkD x j)) (hf : Hd.fa[i]? = some (.glo x)) (S : FnScope N ps (defScope (Hd.top j))) (hb : HB x j ps) (n : Nat) (hn : N.length = ps.length + n) (hA : ∀ a, (A a).length = ps.length)
    (body : ∀ (cdv : Value), cdv = .ref (He.codeOf K (x, none)) → ∀ (A' : Around) (outer : List Env) (s : Shared) (H : Hp) (E : XK), Hd.RmG k (A'.deeper (envOfC x (defScope (Hd.top j)) s.heap.objs.size (He.ga K x) cdv)) → ∃ t, PSs (CX P w K mg base N x j cdv A' outer s H E) (defBody (Hd.top j)) t ∧
      ∀ (a : α) (F H : Hp) (Q : VK), pre a → (∀ v F' H', Go ⟨K, none, F, H, F⟩ F H F' H' → Dp K F' v (R a) → Q v H') → Tr ⟨K, none, F, H, F⟩ ((A a).map Sl.dat ++ List.replicate n .un) [] t { nx := fun _ H' => Q .non H', rt := Q }) : Hd.OkF P w K mg base (k + 1) x ps (Pr K A pre R) := by
  refine Hd.mkFT Y hd hf S hb (fun vs H Q E ⟨a, F, e, _, h, _⟩ => by rw [dps_len h, hA a]) fun cdv he A' outer s H vs Q E hr ⟨a, F, e, tab, h, hp, hQ⟩ => ?_
  obtain ⟨t, h1, h2⟩ := body cdv he A' outer s H E hr
  exact ⟨t, h1, enter n e tab (.of_dps h) (by rw [List.length_map, hA a]; exact hn) (fun _ e => by cases e) (h2 a F H Q hp hQ)⟩
theorem mkPrL {R : α → List PD} (Y : Hd.Ok K mg) (hd : Hd.fn[i]? = some (Hd.mkD x j)) (hf : Hd.fa[i]? = some (.glo x)) (S : FnScope N ps (defScope (Hd.top j))) (hb : HB x j ps) (n : Nat) (hn : N.length = ps.length + n) (hA : ∀ a, (A a).length = ps.length)
    (body : ∀ (cdv : Value) (A' : Around) (outer : List Env) (s : Shared) (H : Hp) (E : XK), Hd.RmG k (A'.deeper (envOfC x (defScope (Hd.top j)) s.heap.objs.size (He.ga K x) cdv)) → ∃ t, PSs (CX P w K mg base N x j cdv A' outer s H E) (defBody (Hd.top j)) t ∧
      ∀ (a : α) (F H : Hp) (Q : VK), pre a → (∀ p us F' H', H p = none → Go ⟨K, none, F, H, F⟩ F H F' H' → F' p = none → H' p = some (.lst us) → DpAll K F' us (R a) → Q (.ref p) H') → Tr ⟨K, none, F, H, F⟩ ((A a).map Sl.dat ++ List.replicate n .un) [] t { nx := fun _ H' => Q .non H', rt := Q }) : Hd.OkF P w K mg base (k + 1) x ps (PrL K A pre R) := by
  refine Hd.mkF Y hd hf S hb (fun vs H Q E ⟨a, F, e, _, h, _⟩ => by rw [dps_len h, hA a]) fun cdv A' outer s H vs Q E hr ⟨a, F, e, tab, h, hp, hQ⟩ => ?_
  obtain ⟨t, h1, h2⟩ := body cdv A' outer s H E hr
  exact ⟨t, h1, enter n e tab (.of_dps h) (by rw [List.length_map, hA a]; exact hn) (fun _ e => by cases e) (h2 a F H Q hp hQ)⟩
theorem mkPrB {R : α → PD → Prop} (Y : Hd.Ok K mg) (hd : Hd.fn[i]? = some (Hd.mkD x j)) (hf : Hd.fa[i]? = some (.glo x)) (S : FnScope N ps (defScope (Hd.top j))) (hb : HB x j ps) (n : Nat) (hn : N.length = ps.length + n) (hA : ∀ a, (A a).length + 1 = ps.length)
    (body : ∀ (cdv : Value) (A' : Around) (outer : List Env) (s : Shared) (H : Hp) (E : XK), Hd.RmG k (A'.deeper (envOfC x (defScope (Hd.top j)) s.heap.objs.size (He.ga K x) cdv)) → ∃ t, PSs (CX P w K mg base N x j cdv A' outer s H E) (defBody (Hd.top j)) t ∧
      ∀ (a : α) (F H : Hp) (b : Addr) (Q : VK), pre a → (∀ v F' H' d, Go ⟨K, some b, F, H, F⟩ F H F' H' → R a d → Dp K F' v d → Q v H') → Tr ⟨K, some b, F, H, F⟩ (.ml b :: (A a).map Sl.dat ++ List.replicate n .un) [] t { nx := fun _ H' => Q .non H', rt := Q }) : Hd.OkF P w K mg base (k + 1) x ps (PrB K A pre R) := by
  refine Hd.mkF Y hd hf S hb (fun vs H Q E ⟨a, F, b, us, e0, e, _, _, h, _⟩ => by rw [e0, List.length_cons, dps_len h, hA a]) fun cdv A' outer s H vs Q E hr ⟨a, F, b, us, e0, e, tab, hbag, h, hp, hQ⟩ => ?_
  obtain ⟨t, h1, h2⟩ := body cdv A' outer s H E hr
  subst e0
  exact ⟨t, h1, enter (ss := .ml b :: (A a).map Sl.dat) n e tab (.cons rfl (.of_dps h)) (by rw [List.length_cons, List.length_map, hA a]; exact hn) (fun _ e => by cases e; exact hbag) (h2 a F H b Q hp hQ)⟩
theorem mkPrBL {R : α → List PD → Prop} (Y : Hd.Ok K mg) (hd : Hd.fn[i]? = some (Hd.mkD x j)) (hf : Hd.fa[i]? = some (.glo x)) (S : FnScope N ps (defScope (Hd.top j))) (hb : HB x j ps) (n : Nat) (hn : N.length = ps.length + n) (hA : ∀ a, (A a).length + 1 = ps.length)
    (body : ∀ (cdv : Value) (A' : Around) (outer : List Env) (s : Shared) (H : Hp) (E : XK), Hd.RmG k (A'.deeper (envOfC x (defScope (Hd.top j)) s.heap.objs.size (He.ga K x) cdv)) → ∃ t, PSs (CX P w K mg base N x j cdv A' outer s H E) (defBody (Hd.top j)) t ∧
      ∀ (a : α) (F H : Hp) (b : Addr) (Q : VK), pre a → (∀ p ws F' H' ds, H p = none → Go ⟨K, some b, F, H, F⟩ F H F' H' → F' p = none → H' p = some (.lst ws) → R a ds → DpAll K F' ws ds → Q (.ref p) H') → Tr ⟨K, some b, F, H, F⟩ (.ml b :: (A a).map Sl.dat ++ List.replicate n .un) [] t { nx := fun _ H' => Q .non H', rt := Q }) : Hd.OkF P w K mg base (k + 1) x ps (PrBL K A pre R) := by
  refine Hd.mkF Y hd hf S hb (fun vs H Q E ⟨a, F, b, us, e0, e, _, _, h, _⟩ => by rw [e0, List.length_cons, dps_len h, hA a]) fun cdv A' outer s H vs Q E hr ⟨a, F, b, us, e0, e, tab, hbag, h, hp, hQ⟩ => ?_
  obtain ⟨t, h1, h2⟩ := body cdv A' outer s H E hr
  subst e0
  exact ⟨t, h1, enter (ss := .ml b :: (A a).map Sl.dat) n e tab (.cons rfl (.of_dps h)) (by rw [List.length_cons, List.length_map, hA a]; exact hn) (fun _ e => by cases e; exact hbag) (h2 a F H b Q hp hQ)⟩
end
theorem hu64 {A : Around} {k : Nat} (hr : Hd.RmG k A) : A.units + 64 < cLine := hr.r.units
end FW
end
section
set_option linter.all false
set_option maxRecDepth 100000
set_option maxHeartbeats 4000000
/-! enumerate and zip over lists and tuples in any mix. -/
namespace FW
open PySem PySem.Spec PyProof.Rows L2
/-- kind: true a tuple, false a list -/
def SqQ (k : Bool) (K : PySem.W.Frag) (H : Hp) (a : Addr) (xs : List V) : Prop := match k with
  | true => SqT K H a xs
  | false => SqL K H a xs
def hIs (k : Bool) (h : Heap) (a : Addr) (its : Array Value) : Prop := match k with
  | true => h.IsTuple a its
  | false => h.IsList a its
def hIt (k : Bool) (h : Heap) (it a : Addr) (i : Nat) : Prop := match k with
  | true => h.IsTupleIter it a i
  | false => h.IsListIter it a i
def itO (k : Bool) (a : Addr) : Obj := match k with
  | true => { cls := .type "tuple_iterator", data := .fields #[.ref a, .int 0 0] }
  | false => { cls := .type "list_iterator", data := .fields #[.ref a, .int 0 0] }
theorem hIt_at {k : Bool} {h h' : Heap} {it a : Addr} {i : Nat} (s : hIt k h it a i) (q : ∀ o, h.get? it = some o → h'.get? it = some o) : hIt k h' it a i := by
  cases k with
  | true => exact Heap.IsTupleIter.at s q
  | false => exact Heap.IsListIter.at s q
theorem hIs_at {k : Bool} {h h' : Heap} {a : Addr} {its : Array Value} (s : hIs k h a its) (q : ∀ o, h.get? a = some o → h'.get? a = some o) : hIs k h' a its := by
  cases k with
  | true => exact Heap.IsTuple.at s q
  | false => exact Heap.IsList.at s q
theorem hIt_obj {k : Bool} {h : Heap} {it a : Addr} {i : Nat} (s : hIt k h it a i) : ∃ o, h.get? it = some o ∧ (∀ v, o.data ≠ .cell v) ∧ ∃ vs, o.data = .fields vs := by
  cases k with
  | true => obtain ⟨o, e, _, d⟩ := s; exact ⟨o, e, (fun v q => by rw [d] at q; cases q), _, d⟩
  | false => obtain ⟨o, e, _, d⟩ := s; exact ⟨o, e, (fun v q => by rw [d] at q; cases q), _, d⟩
theorem hIs_obj {k : Bool} {h : Heap} {a : Addr} {its : Array Value} (s : hIs k h a its) : ∃ o n, h.get? a = some o ∧ o.data = .seq its n := by
  cases k with
  | true => obtain ⟨o, e, _, n, d⟩ := s; exact ⟨o, n, e, d⟩
  | false => obtain ⟨o, e, _, n, d⟩ := s; exact ⟨o, n, e, d⟩
theorem hI_ne {k k' : Bool} {h : Heap} {it a b : Addr} {i : Nat} {its : Array Value} (s : hIt k h it b i) (t : hIs k' h a its) : a ≠ it := fun e => by
  obtain ⟨o, e1, _, vs, d1⟩ := hIt_obj s
  obtain ⟨o2, n, e2, d2⟩ := hIs_obj t
  rw [e, e1] at e2; cases e2
  rw [d1] at d2; cases d2
theorem drawsQ {prog : Program} {w : World} {A : Around} (k : Bool) (hh : A.handled = none) (it a : Addr) (hne : a ≠ it) (its : Array Value) : Draws prog w A it [it, a] its.size (fun i v => its[i]? = some v) (fun i h => hIt k h it a i ∧ hIs k h a its) := by
  cases k with
  | true => exact Draws.tuple hh it a hne its
  | false => exact Draws.list hh it a hne its
theorem beginsQ (k : Bool) (a : Addr) (its : Array Value) : Begins (.ref a) (itO k a) fun h => hIs k h a its := by
  cases k with
  | true => exact begins_tuple a its
  | false => exact begins_list a its
theorem hIt_new {k : Bool} {h : Heap} {it a : Addr} (e : h.get? it = some (itO k a)) : hIt k h it a 0 := by
  cases k with
  | true => exact ⟨_, e, rfl, rfl⟩
  | false => exact ⟨_, e, rfl, rfl⟩
section
variable {X : Cx} {pins : List (Addr × Obj)} {σ : L2.St} {H : Hp} {s : Shared} {k : Bool} {a : Addr} {xs ys : List V}
theorem invQ (IV : Inv X pins σ H s) (h : SqQ k X.K H a xs) : ∃ its : List Value, Vals xs its ∧ hIs k s.heap a its.toArray ∧ xs.length ≤ sizeLine := by
  cases k with
  | true => obtain ⟨its, r, p, z⟩ := IV.tuple h; exact ⟨its, r, p, z⟩
  | false => obtain ⟨its, r, p, z⟩ := IV.list h; exact ⟨its, r, p.isList, z⟩
theorem invQ_inj (IV : Inv X pins σ H s) (h : SqQ k X.K H a xs) (h' : SqQ k X.K H a ys) : xs = ys := by
  cases k with
  | true => exact IV.tuple_inj h h'
  | false => exact IV.list_inj h h'
end
set_option maxHeartbeats 4000000 in
theorem enumNew {v : Value} {o : Obj} {HH : Heap → Prop} (B : Begins v o HH) : Meets (Builtin.«enumerate.__new__» ⟨[.type "enumerate", v], []⟩) (fun _ RR ss => HH ss.heap ∧
    RR (.ok (.ret (.ref (ss.heap.push o).objs.size))) { ss with heap := (ss.heap.push o).push { cls := .type "enumerate", data := .fields #[.none, .bool false, .ref ss.heap.objs.size, rawInt 0, .none, .none] } }) := by
  refine .of_wp fun prog w A RR ss hh => ?_
  obtain ⟨hp, gg, dd, tk, os⟩ := ss
  obtain ⟨hh1, hh⟩ := hh
  have hsub := sub_enumerate
  have fresh : ∀ {A2 : Around} {E2 : Value → Shared → Prop} {Q2 : Value → Shared → Prop}, Q2 (.ref hp.objs.size) ⟨hp.push o, gg, dd, tk, os⟩ → wpAny (model prog w) A2 (pyIter v) Q2 E2 ⟨hp, gg, dd, tk, os⟩ := fun q2 => B.iter prog w _ _ ⟨hp, gg, dd, tk, os⟩ _ hh1 q2
  wp_walk using fresh
  refine wpAny_stack_any fun st => wpAny_pure ?_
  split
  · rename_i c _ _ _ _ _
    cases (c == Value.type "enumerate") <;> (wp_walk using fresh; exact ⟨_, rfl, hh⟩)
  · wp_walk using fresh
    exact ⟨_, rfl, hh⟩
theorem callEnum {prog : Program} {w : World} {A : Around} {E : Value → Shared → Prop} {s : Shared} {v : Value} {o : Obj} {HH : Heap → Prop} {Q : Value → Shared → Prop} (B : Begins v o HH) (h1 : HH s.heap)
    (h : ∀ h', IsEnum h' (s.heap.objs.size + 1) s.heap.objs.size 0 .none → h'.get? s.heap.objs.size = some o → (∀ b u, s.heap.get? b = some u → h'.get? b = some u) → Q (.ref (s.heap.objs.size + 1)) { s with heap := h' }) :
    wpAny (model prog w) A (call (.type "enumerate") [v]) Q E s := by
  refine callType_new F.called_enumerate (by decide) (F.typeCall_enumerate_1 _) (F.newCall_enumerate_1 _) (fun ob => F.args_object_init_2 ob _) F.entry_enumerate_new (enumNew B) ⟨h1, ?_⟩
  have z1 : (s.heap.push o).objs.size = s.heap.objs.size + 1 := Heap.size_push ..
  have en : IsEnum ((s.heap.push o).push { cls := .type "enumerate", data := .fields #[.none, .bool false, .ref s.heap.objs.size, rawInt 0, .none, .none] }) (s.heap.objs.size + 1) s.heap.objs.size 0 .none := by
    have q := Heap.get?_push_size (s.heap.push o) (o := { cls := .type "enumerate", data := .fields #[.none, .bool false, .ref s.heap.objs.size, rawInt 0, .none, .none] }) rfl
    rw [z1] at q
    exact q
  rw [z1]
  exact ⟨⟨_, en, rfl⟩, h _ en (Heap.get?_push_of_some _ (Heap.get?_push_size _ B.free)) fun b u q => Heap.get?_push_of_some _ (Heap.get?_push_of_some _ q)⟩
/-- the sequence at a by turns, each item in a new pair with its number -/
def IeQ (k : Bool) (K : PySem.W.Frag) (a : Addr) : It where
  go := fun i H => ∃ (xs : List V) (x : V), SqQ k K H a xs ∧ xs[i]? = some x
  yld := fun i H v H' => ∃ T x, v = .ref T ∧ H T = none ∧ (∃ o : Obj, o.dict = none ∧ H' = upd H T (.frz o (.tup [.int (i : Nat), x]))) ∧ ∀ xs, SqQ k K H a xs → xs[i]? = some x
  stop := fun i H => ∃ xs : List V, SqQ k K H a xs ∧ xs.length = i
theorem turnE {P : Program} {w : World} {K : PySem.W.Frag} {elts : List Expr} {kk : Nat} {tpos : Pos} (k : Bool) (a e it : Addr) :
    Turn P w K (.Tuple elts kk tpos) (IeQ k K a) [e, it] e (fun i h => (∃ old, IsEnum h e it ((i : Nat) : Int) old) ∧ hIt k h it a i ∧ e ≠ it) where
  mem := List.mem_cons_self ..
  obj := fun i h st b hb => by
    obtain ⟨⟨old, he⟩, hi, _⟩ := st
    have eb : b = e ∨ b = it := by simpa using hb
    rcases eb with rfl | rfl
    · exact ⟨_, he, fun v q => nomatch q⟩
    · obtain ⟨o, e1, e2, _⟩ := hIt_obj hi; exact ⟨o, e1, e2⟩
  keep := fun i h h' st kp => by
    obtain ⟨⟨old, he⟩, hi, ne⟩ := st
    exact ⟨⟨old, kp e (by simp) _ he⟩, hIt_at hi fun o q => kp it (by simp) o q, ne⟩
  item := by
    intro X hP hw hK hc i pins s σ H E IV hf st hg
    subst hP hw hK
    obtain ⟨⟨old, he⟩, hit, hne⟩ := st
    obtain ⟨xs, x, hq, hx⟩ := hg
    obtain ⟨its, rv, p, hz⟩ := invQ IV hq
    have hai : a ≠ it := hI_ne hit p
    have hea : e ≠ a := fun z => by
      obtain ⟨o, n, e1, d⟩ := hIs_obj p
      rw [← z, show s.heap.get? e = _ from he] at e1; cases e1; cases d
    have hlt : i < its.toArray.size := by
      have h1 := rv.length
      have h2 := (List.getElem?_eq_some_iff.mp hx).1
      simpa using (by omega : i < its.length)
    have hel : e < s.heap.objs.size := Heap.lt_size he
    refine wpAny_pyNext_enum_itemD (drawsQ (A := X.A.in1) k (IV.ok.hd hc) it a hai its.toArray) he ⟨hit, p⟩ hlt hne (by simp [hne, hea]) fun u h' tk hu ho hit' hT hsz hk => ?_
    refine ⟨_, rfl, wpAny_letOwnedTupleGo_enum (s := { s with heap := h', toks := tk + 1 }) ho fun h2 he' sb => ?_⟩
    obtain ⟨u', hu', ru⟩ := rv.get hx
    have eu : u' = u := by
      have hu2 : its[i]? = some u := by simpa using hu
      rw [hu'] at hu2; exact Option.some.inj hu2
    subst eu
    have hT2 : h2.get? s.heap.objs.size = some { cls := .type "tuple", data := .seq #[.int i tk, u'] } := (sb.2 _ (Nat.ne_of_gt hel)).trans hT
    have nw : ObjOk X.prog X.w (upd H s.heap.objs.size (.frz (tObj #[.int i tk, u']) (.tup [.int (i : Nat), x]))) h2 s.heap.objs.size (.frz (tObj #[.int i tk, u']) (.tup [.int (i : Nat), x])) := ⟨hT2, by show 2 ≤ sizeLine; decide, [.int i tk, u'], .cons ⟨_, rfl⟩ (.cons ru .nil), ⟨_, hT2, rfl, _, rfl⟩⟩
    have I1 : Inv X pins σ (upd H s.heap.objs.size (.frz (tObj #[.int i tk, u']) (.tup [.int (i : Nat), x]))) { s with heap := h2, toks := tk + 1 } :=
      IV.turnedNew (ch := [e, it]) (fun b ob hb q => (sb.2 b fun z => hb (by simp [z])).trans (hk b ob (fun z => hb (by simp [z])) (fun z => hb (by simp [z])) q)) hf (Nat.le_refl _) nw
    refine ⟨.ref s.heap.objs.size, _, I1, rfl, ⟨_, x, rfl, IV.hok.fresh (Nat.le_refl _), ⟨_, rfl, rfl⟩, fun ys hy => by rw [invQ_inj IV hy hq]; exact hx⟩, ⟨⟨u', ?_⟩, hIt_at hit'.1 fun o q => (sb.2 it (Ne.symm hne)).trans q, hne⟩, fun b hb => ?_⟩
    · have e1 : ((i + 1 : Nat) : Int) = (i : Int) + 1 := by omega
      rw [e1]; exact he'
    · have eb : b = e ∨ b = it := by simpa using hb
      have hb2 : b < s.heap.objs.size := by
        rcases eb with rfl | rfl
        · exact hel
        · obtain ⟨o, e1, _⟩ := hIt_obj hit; exact Heap.lt_size e1
      rw [upd_ne (Nat.ne_of_lt hb2)]
      exact (hf b hb).1
  done := by
    intro X hP hw hK hc i pins s σ H E IV hf st hg
    subst hP hw hK
    obtain ⟨⟨old, he⟩, hit, hne⟩ := st
    obtain ⟨xs, hq, hx⟩ := hg
    obtain ⟨its, rv, p, hz⟩ := invQ IV hq
    have hlen : its.toArray.size = i := by have := rv.length; simp; omega
    obtain ⟨f0, f1, f2, f3, f4, f5⟩ := hf it (by simp)
    refine wpAny_pyNext_enum_endD (drawsQ (A := X.A.in1) k (IV.ok.hd hc) it a (hI_ne hit p) its.toArray) he (by rw [hlen]; exact ⟨hit, p⟩) fun h' eb => ⟨rfl, ?_⟩
    exact IV.turned (t' := s.toks) (fun b o hb q => eb b o hb q) f0 f1 f3 f4 f5
  self := fun A i s Q E st h => by
    obtain ⟨⟨_, he⟩, _⟩ := st
    exact wpAny_pyIter_enum he h
def iEnumU (K : PySem.W.Frag) (ta : TA) : TI := fun σ H R => ta σ H fun vs H1 => ∃ k a xs, vs = [.ref a] ∧ SqQ k K H1 a xs ∧ R (IeQ k K a) H1
theorem pi_enumU {X : Cx} {e : Expr} {ta : TA} {p pos tpos : Pos} {elts : List Expr} {kk : Nat} (hg : Gl X "enumerate") (hm : X.mg "enumerate" = none) (ha : PA X [e] ta) (hs : starEach [e] X.env = [(false, eval e X.env)] := by rfl) :
    PI X (.Tuple elts kk tpos) (.Call (.Name "enumerate" p) [e] [] pos) (iEnumU X.K ta) := by
  refine ⟨fun pins s σ H R IV h => ?_⟩
  refine Call_ (ld_blt IV hg hm boot_enumerate (PyProof.Rows.callWith_type1 (thn (ha.run pos pins s σ H _ IV h) fun us s1 ⟨vs, H1, I1, r1, q1⟩ => ?_) hs rfl))
  obtain ⟨k, a, xs, rfl, hq, q⟩ := q1
  obtain ⟨u1, rfl, r2⟩ := Vals.one r1
  obtain rfl : u1 = Value.ref a := r2
  obtain ⟨its, rv, p', hz⟩ := invQ I1 hq
  refine callEnum (beginsQ k a its.toArray) p' fun h' he hit hk => wpAny_pyIter_enum he ?_
  have I2 : Inv X pins σ H1 { s1 with heap := h' } := I1.kept (t' := s1.toks) hk
  refine ⟨s1.heap.objs.size + 1, [s1.heap.objs.size + 1, s1.heap.objs.size], _, _, H1, rfl, I2, turnE k a (s1.heap.objs.size + 1) s1.heap.objs.size, ⟨⟨.none, he⟩, hIt_new hit, Nat.succ_ne_self _⟩, fun b hb => ?_, q⟩
  have eb : b = s1.heap.objs.size + 1 ∨ b = s1.heap.objs.size := by simpa using hb
  have hle : s1.heap.objs.size ≤ b := by
    rcases eb with rfl | rfl
    · exact Nat.le_succ _
    · exact Nat.le_refl _
  exact I1.fpOk hle (I1.hok.fresh hle)
/-- two sequences by turns -/
def IzQ (k l : Bool) (K : PySem.W.Frag) (a b : Addr) : It where
  go := fun i H => ∃ (xs ys : List V) (x y : V), SqQ k K H a xs ∧ SqQ l K H b ys ∧ xs[i]? = some x ∧ ys[i]? = some y
  yld := fun i H v H' => ∃ T x y, v = .ref T ∧ H T = none ∧ (∃ o : Obj, o.dict = none ∧ H' = upd H T (.frz o (.tup [x, y]))) ∧ (∀ xs, SqQ k K H a xs → xs[i]? = some x) ∧ ∀ ys, SqQ l K H b ys → ys[i]? = some y
  stop := fun i H => ∃ xs ys : List V, SqQ k K H a xs ∧ SqQ l K H b ys ∧ i ≤ xs.length ∧ i ≤ ys.length ∧ (i = xs.length ∨ i = ys.length)
theorem turnZ {P : Program} {w : World} {K : PySem.W.Frag} {elts : List Expr} {kk : Nat} {tpos : Pos} (k l : Bool) {a b z TI TO i1 i2 : Addr} (D : ZipSep2 z TI TO i1 i2 [i1, a] [i2, b]) :
    Turn P w K (.Tuple elts kk tpos) (IzQ k l K a b) [z, TI, TO, i1, i2] z (fun i h => IsZip h z TI TO .none ∧ IsTupOf2 h TI (.ref i1) (.ref i2) ∧ (∃ x y, IsTupOf2 h TO x y) ∧ hIt k h i1 a i ∧ hIt l h i2 b i) where
  mem := List.mem_cons_self ..
  obj := fun i h st c hc => by
    obtain ⟨hz, hTI, ⟨x, y, hTO⟩, h1, h2⟩ := st
    have ec : c = z ∨ c = TI ∨ c = TO ∨ c = i1 ∨ c = i2 := by simpa using hc
    rcases ec with rfl | rfl | rfl | rfl | rfl
    · exact ⟨_, hz, fun v q => nomatch q⟩
    · exact ⟨_, hTI, fun v q => nomatch q⟩
    · exact ⟨_, hTO, fun v q => nomatch q⟩
    · obtain ⟨o, e1, e2, _⟩ := hIt_obj h1; exact ⟨o, e1, e2⟩
    · obtain ⟨o, e1, e2, _⟩ := hIt_obj h2; exact ⟨o, e1, e2⟩
  keep := fun i h h' st kp => by
    obtain ⟨hz, hTI, ⟨x, y, hTO⟩, h1, h2⟩ := st
    exact ⟨kp z (by simp) _ hz, kp TI (by simp) _ hTI, ⟨x, y, kp TO (by simp) _ hTO⟩, hIt_at h1 fun o q => kp i1 (by simp) o q, hIt_at h2 fun o q => kp i2 (by simp) o q⟩
  item := by
    intro X hP hw hK hc i pins s σ H E IV hf st hg
    subst hP hw hK
    obtain ⟨hz, hTI, ⟨x0, y0, hTO⟩, h1, h2⟩ := st
    obtain ⟨xs, ys, x, y, hqx, hqy, hx, hy⟩ := hg
    obtain ⟨its, rv, p, _⟩ := invQ IV hqx
    obtain ⟨its2, rv2, p2, _⟩ := invQ IV hqy
    obtain ⟨u, hu, ru⟩ := rv.get hx
    obtain ⟨u2, hu2, ru2⟩ := rv2.get hy
    have hzl : z < s.heap.objs.size := Heap.lt_size hz
    have l1 : i < its.toArray.size := by simpa using (List.getElem?_eq_some_iff.mp hu).1
    have l2 : i < its2.toArray.size := by simpa using (List.getElem?_eq_some_iff.mp hu2).1
    refine wpAny_pyNext_zipD2_item D (drawsQ (A := X.A.in1) k (IV.ok.hd hc) i1 a (hI_ne h1 p) its.toArray) (drawsQ (A := X.A.in1) l (IV.ok.hd hc) i2 b (hI_ne h2 p2) its2.toArray) hz hTI hTO ⟨h1, p⟩ ⟨h2, p2⟩ l1 l2 fun v v2 h' tk q1 q2 z' TO' s1' s2' hT hsz hk => ?_
    obtain rfl : u = v := by
      have q3 : its[i]? = some v := by simpa using q1
      rw [hu] at q3; exact Option.some.inj q3
    obtain rfl : u2 = v2 := by
      have q3 : its2[i]? = some v2 := by simpa using q2
      rw [hu2] at q3; exact Option.some.inj q3
    refine ⟨_, rfl, wpAny_letOwnedTupleGo_zip (s := { s with heap := h', toks := tk }) z' fun h3 z'' sb => ?_⟩
    have hT2 : h3.get? s.heap.objs.size = some { cls := .type "tuple", data := .seq #[u, u2] } := (sb.2 _ (Nat.ne_of_gt hzl)).trans hT
    have nw : ObjOk X.prog X.w (upd H s.heap.objs.size (.frz (tObj #[u, u2]) (.tup [x, y]))) h3 s.heap.objs.size (.frz (tObj #[u, u2]) (.tup [x, y])) := ⟨hT2, by show 2 ≤ sizeLine; decide, [u, u2], .cons ru (.cons ru2 .nil), ⟨_, hT2, rfl, _, rfl⟩⟩
    have I1 : Inv X pins σ (upd H s.heap.objs.size (.frz (tObj #[u, u2]) (.tup [x, y]))) { s with heap := h3, toks := tk } :=
      IV.turnedNew (t' := tk) (ch := [z, TI, TO, i1, i2]) (fun c o hb q => (sb.2 c fun e => hb (by simp [e])).trans (hk c o (fun e => hb (by simp [e])) (fun e => hb (by simp [e])) (fun e => hb (by simp [e])) (fun e => hb (by simp [e])) q)) hf (Nat.le_refl _) nw
    have z1 : i1 ≠ z := fun e => D.zf1 (by simp [e])
    have z2 : i2 ≠ z := fun e => D.zf2 (by simp [e])
    refine ⟨.ref s.heap.objs.size, _, I1, rfl, ⟨_, x, y, rfl, IV.hok.fresh (Nat.le_refl _), ⟨_, rfl, rfl⟩, fun c hc => by rw [invQ_inj IV hc hqx]; exact hx, fun c hc => by rw [invQ_inj IV hc hqy]; exact hy⟩, ⟨z'', ?_, ⟨u, u2, ?_⟩, ?_, ?_⟩, fun c hcm => ?_⟩
    · exact (sb.2 _ D.TIz).trans (hk _ _ D.TIz D.TITO D.TIi1 D.TIi2 hTI)
    · exact (sb.2 _ D.TOz).trans TO'
    · exact hIt_at s1'.1 fun o q => (sb.2 _ z1).trans q
    · exact hIt_at s2'.1 fun o q => (sb.2 _ z2).trans q
    · have hlt : c < s.heap.objs.size := by
        have ec : c = z ∨ c = TI ∨ c = TO ∨ c = i1 ∨ c = i2 := by simpa using hcm
        rcases ec with rfl | rfl | rfl | rfl | rfl
        · exact hzl
        · exact Heap.lt_size hTI
        · exact Heap.lt_size hTO
        · obtain ⟨_, e1, _⟩ := hIt_obj h1; exact Heap.lt_size e1
        · obtain ⟨_, e1, _⟩ := hIt_obj h2; exact Heap.lt_size e1
      rw [upd_ne (Nat.ne_of_lt hlt)]
      exact (hf c hcm).1
  done := by
    intro X hP hw hK hc i pins s σ H E IV hf st hg
    subst hP hw hK
    obtain ⟨hz, hTI, ⟨x0, y0, hTO⟩, h1, h2⟩ := st
    obtain ⟨xs, ys, hqx, hqy, e1, e2, e3⟩ := hg
    obtain ⟨its, rv, p, _⟩ := invQ IV hqx
    obtain ⟨its2, rv2, p2, _⟩ := invQ IV hqy
    have l1 := rv.length
    have l2 := rv2.length
    refine wpAny_pyNext_zipD2_end D (drawsQ (A := X.A.in1) k (IV.ok.hd hc) i1 a (hI_ne h1 p) its.toArray) (drawsQ (A := X.A.in1) l (IV.ok.hd hc) i2 b (hI_ne h2 p2) its2.toArray) hz hTI hTO ⟨h1, p⟩ ⟨h2, p2⟩ (by simp; omega) (by simp; omega) (by simp; omega) fun h' tk hk => ⟨rfl, ?_⟩
    exact IV.turnedL (t' := tk) (ch := [z, TI, TO, i1, i2]) (fun c o hb q => hk c o (fun e => hb (by simp [e])) (fun e => hb (by simp [e])) (fun e => hb (by simp [e])) (fun e => hb (by simp [e])) q) hf
  self := fun A i s Q E st h => wpAny_pyIter_zip st.1 h
def iZipU (K : PySem.W.Frag) (ta : TA) : TI := fun σ H R => ta σ H fun vs H1 => ∃ k l a b xs ys, vs = [.ref a, .ref b] ∧ SqQ k K H1 a xs ∧ SqQ l K H1 b ys ∧ R (IzQ k l K a b) H1
theorem pi_zipU {X : Cx} {e e2 : Expr} {ta : TA} {p pos tpos : Pos} {elts : List Expr} {kk : Nat} (hg : Gl X "zip") (hm : X.mg "zip" = none) (ha : PA X [e, e2] ta)
    (hs : starEach [e, e2] X.env = (false, eval e X.env) :: starEach [e2] X.env := by rfl) (hpl : (backTo pos (starEach [e2] X.env)).any (·.1) = false := by rfl) : PI X (.Tuple elts kk tpos) (.Call (.Name "zip" p) [e, e2] [] pos) (iZipU X.K ta) := by
  refine ⟨fun pins s σ H R IV h => ?_⟩
  refine Call_ (ld_blt IV hg hm PyProof.Rows.boot_zip (PyProof.Rows.callWith_type1 (thn (ha.run pos pins s σ H _ IV h) fun us s1 ⟨vs, H1, I1, r1, q1⟩ => ?_) hs hpl))
  obtain ⟨k, l, a, b, xs, ys, rfl, hqx, hqy, q⟩ := q1
  obtain ⟨u1, u2, rfl, r2, r3⟩ := Vals.two r1
  obtain rfl : u1 = Value.ref a := r2
  obtain rfl : u2 = Value.ref b := r3
  obtain ⟨its, rv, p1, _⟩ := invQ I1 hqx
  obtain ⟨its2, rv2, p2, _⟩ := invQ I1 hqy
  have la : a < s1.heap.objs.size := by obtain ⟨o, n, e1, _⟩ := hIs_obj p1; exact Heap.lt_size e1
  have lb : b < s1.heap.objs.size := by obtain ⟨o, n, e1, _⟩ := hIs_obj p2; exact Heap.lt_size e1
  refine zip_begins2 (beginsQ k a its.toArray) (beginsQ l b its2.toArray) p1 p2 fun h' hz hTI hTO h1 h2 hsz hk => wpAny_pyIter_zip hz ?_
  have I2 : Inv X pins σ H1 { s1 with heap := h' } := I1.kept (t' := s1.toks) hk
  refine ⟨s1.heap.objs.size + 4, [s1.heap.objs.size + 4, s1.heap.objs.size + 2, s1.heap.objs.size + 3, s1.heap.objs.size, s1.heap.objs.size + 1], _, _, H1, rfl, I2, turnZ k l (zip_sep2 (fp1 := [a]) (fp2 := [b]) (fun c hc => by rw [List.mem_singleton.mp hc]; exact la) (fun c hc => by rw [List.mem_singleton.mp hc]; exact lb)), ⟨hz, hTI, ⟨_, _, hTO⟩, hIt_new h1, hIt_new h2⟩, fun c hcm => ?_, q⟩
  have ec : c = s1.heap.objs.size + 4 ∨ c = s1.heap.objs.size + 2 ∨ c = s1.heap.objs.size + 3 ∨ c = s1.heap.objs.size ∨ c = s1.heap.objs.size + 1 := by simpa using hcm
  have hle : s1.heap.objs.size ≤ c := by
    rcases ec with rfl | rfl | rfl | rfl | rfl
    · exact Nat.le_add_right _ _
    · exact Nat.le_add_right _ _
    · exact Nat.le_add_right _ _
    · exact Nat.le_refl _
    · exact Nat.le_add_right _ _
  exact I1.fpOk hle (I1.hok.fresh hle)

/-! ### as sources of data -/
section
variable {C : Cn} {G : List Sl} {ms : Ms} {te ta tb : TE} {tr : TA}
/-- a list or a tuple of data -/
inductive SeqD : Sl → List PD → Prop
  | l (ds : List PD) : SeqD (.dat (.list ds)) ds
  | t (ds : List PD) : SeqD (.dat (.tuple ds)) ds
theorem SeqD.stands {s : Sl} {ds : List PD} {K : PySem.W.Frag} {F : Hp} {v : V} (h : SeqD s ds) (o : SlOk K F v s) : ∃ k a xs, v = .ref a ∧ SqQ k K F a xs ∧ DpAll K F xs ds := by
  cases h with
  | l => obtain ⟨a, xs, e, h1, h2⟩ := dp_list o; exact ⟨false, a, xs, e, h1, h2⟩
  | t => obtain ⟨a, xs, e, h1, h2⟩ := dp_tup o; exact ⟨true, a, xs, e, h1, h2⟩
theorem same_q {k : Bool} {K : PySem.W.Frag} {A B : Hp} {a : Addr} {xs : List V} (e : Same A B) (h : SqQ k K A a xs) : SqQ k K B a xs := by
  cases k with
  | true => exact same_t e h
  | false => exact same_l e h
theorem walk_e {F0 : Hp} {k : Bool} {a : Addr} {xs : List V} {ds : List PD} (h1 : SqQ k C.K F0 a xs) (h2 : DpAll C.K F0 xs ds) : WalkD C (IeQ k C.K a) F0 [] (ds.zipIdx.map fun p => PyData.tuple [.int p.2, p.1]) := fun F H e1 e2 _ => by
  have hs := same_q e2 (same_q e1 h1)
  have hl := dps_len h2
  rw [List.length_map, List.length_zipIdx]
  refine ⟨fun i hi => ⟨xs, xs[i], hs, by simp [hl, hi]⟩, ⟨xs, hs, hl⟩, fun i x H' hi y => ?_⟩
  obtain ⟨T, z, rfl, hn, ⟨ob, hob, rfl⟩, y⟩ := y
  obtain ⟨v, h3, h4⟩ := dps_get h2 (List.getElem?_eq_getElem hi)
  have := y xs hs
  rw [h3] at this
  have hvz : v = z := Option.some.inj this
  subst hvz
  have g : Go C F H (upd F T (.frz ob (.tup [.int (i : Nat), v]))) (upd H T (.frz ob (.tup [.int (i : Nat), v]))) := Go.new e2 hn
  refine ⟨_, .tuple [.int (i : Nat), ds[i]], g, by simp [hi], .tup ⟨ob, upd_same, hob⟩ (.cons (.int _) (.cons (dp_mono (Same.trans e1 g.fx) _ _ h4) .nil))⟩
theorem walk_z {F0 : Hp} {k l : Bool} {a b : Addr} {xs ys : List V} {ds es : List PD} (h1 : SqQ k C.K F0 a xs) (h2 : DpAll C.K F0 xs ds) (h3 : SqQ l C.K F0 b ys) (h4 : DpAll C.K F0 ys es) : WalkD C (IzQ k l C.K a b) F0 [] ((ds.zip es).map fun p => PyData.tuple [p.1, p.2]) := fun F H e1 e2 _ => by
  have hs := same_q e2 (same_q e1 h1)
  have hs2 := same_q e2 (same_q e1 h3)
  have hl := dps_len h2
  have hl2 := dps_len h4
  rw [List.length_map, List.length_zip]
  refine ⟨fun i hi => ⟨xs, ys, xs[i], ys[i], hs, hs2, by simp, by simp⟩, ⟨xs, ys, hs, hs2, by omega, by omega, by omega⟩, fun i x H' hi y => ?_⟩
  obtain ⟨T, z, z2, rfl, hn, ⟨ob, hob, rfl⟩, y, y2⟩ := y
  have hi1 : i < ds.length := by omega
  have hi2 : i < es.length := by omega
  obtain ⟨v, h5, h6⟩ := dps_get h2 (List.getElem?_eq_getElem hi1)
  obtain ⟨v2, h7, h8⟩ := dps_get h4 (List.getElem?_eq_getElem hi2)
  have q1 := y xs hs
  have q2 := y2 ys hs2
  rw [h5] at q1
  rw [h7] at q2
  have hvz : v = z := Option.some.inj q1
  have hvz2 : v2 = z2 := Option.some.inj q2
  subst hvz
  subst hvz2
  have g : Go C F H (upd F T (.frz ob (.tup [v, v2]))) (upd H T (.frz ob (.tup [v, v2]))) := Go.new e2 hn
  refine ⟨_, .tuple [ds[i], es[i]], g, ?_, .tup ⟨ob, upd_same, hob⟩ (.cons (dp_mono (Same.trans e1 g.fx) _ _ h6) (.cons (dp_mono (Same.trans e1 g.fx) _ _ h8) .nil))⟩
  have hz : (ds.zip es)[i]? = some (ds[i], es[i]) := List.getElem?_zip_eq_some.mpr ⟨List.getElem?_eq_getElem hi1, List.getElem?_eq_getElem hi2⟩
  rw [List.getElem?_map, hz]
  rfl
theorem src_enum {s : Sl} {ds : List PD} (h : EvA C tr G ms [s]) (hd : SeqD s ds) : Src C (iEnumU C.K tr) G ms [] (ds.zipIdx.map fun p => PyData.tuple [.int p.2, p.1]) := fun F H σ S R q =>
  h F H σ S _ fun ss vs F1 H1 e g k => by
    subst e
    obtain ⟨v, rfl, k1⟩ := sls1 k
    obtain ⟨kk, a, xs, rfl, h1, h2⟩ := hd.stands k1
    exact ⟨kk, a, xs, rfl, same_q g.ex h1, q _ F1 H1 g (walk_e h1 h2)⟩
theorem src_zip {s t : Sl} {ds es : List PD} (h : EvA C tr G ms [s, t]) (hd : SeqD s ds) (he : SeqD t es) : Src C (iZipU C.K tr) G ms [] ((ds.zip es).map fun p => PyData.tuple [p.1, p.2]) := fun F H σ S R q =>
  h F H σ S _ fun ss vs F1 H1 e g k => by
    subst e
    obtain ⟨v, u, rfl, k1, k2⟩ := sls2 k
    obtain ⟨kk, a, xs, rfl, h1, h2⟩ := hd.stands k1
    obtain ⟨ll, b, ys, rfl, h3, h4⟩ := he.stands k2
    exact ⟨kk, ll, a, b, xs, ys, rfl, same_q g.ex h1, same_q g.ex h3, q _ F1 H1 g (walk_z h1 h2 h3 h4)⟩
/-- enumerate of a list that may change, not while it is walked -/
theorem src_enumM {l : Addr} {ds : List PD} (h : EvA C tr G ms [.ml l]) (hm : (l, ds) ∈ ms) : Src C (iEnumU C.K tr) G ms [(l, ds)] (ds.zipIdx.map fun p => PyData.tuple [.int p.2, p.1]) := fun F H σ S R q =>
  h F H σ S _ fun ss vs F1 H1 e g k => by
    subst e
    obtain ⟨v, rfl, k1⟩ := sls1 k
    obtain rfl := (k1 : v = V.ref l)
    obtain ⟨_, _, us, h1, h2⟩ := (S.go g).cells _ hm
    refine ⟨false, l, us, rfl, .inl (.inl h1), q _ F1 H1 g fun F2 H2 e1 e2 c => ?_⟩
    obtain ⟨_, _, ws, h3, h4⟩ := c _ (List.mem_singleton.mpr rfl)
    have hl := dps_len h4
    have hs : SqQ false C.K H2 l ws := .inl (.inl h3)
    rw [List.length_map, List.length_zipIdx]
    refine ⟨fun i hi => ⟨ws, ws[i], hs, by simp [hl, hi]⟩, ⟨ws, hs, hl⟩, fun i x H' hi y => ?_⟩
    obtain ⟨T, z, rfl, hn, ⟨ob, hob, rfl⟩, y⟩ := y
    obtain ⟨v, h5, h6⟩ := dps_get h4 (List.getElem?_eq_getElem hi)
    have := y ws hs
    rw [h5] at this
    have hvz : v = z := Option.some.inj this
    subst hvz
    have g : Go C F2 H2 (upd F2 T (.frz ob (.tup [.int (i : Nat), v]))) (upd H2 T (.frz ob (.tup [.int (i : Nat), v]))) := Go.new e2 hn
    exact ⟨_, .tuple [.int (i : Nat), ds[i]], g, by simp [hi], .tup ⟨ob, upd_same, hob⟩ (.cons (.int _) (.cons (dp_mono g.fx _ _ h6) .nil))⟩
end
end FW
end
section
set_option linter.all false
set_option maxRecDepth 100000
set_option maxHeartbeats 4000000
/-! More rules, and what they give over data. -/
namespace FW
open PySem PySem.Spec PyProof.Rows L2
theorem bt_abs : bootBuiltins "abs" = some (.builtin "abs") := by decide +kernel
theorem bt_all : bootBuiltins "all" = some (.builtin "all") := by decide +kernel
theorem bt_any : bootBuiltins "any" = some (.builtin "any") := by decide +kernel
theorem bt_len : bootBuiltins "len" = some (.builtin "len") := by decide +kernel
theorem bt_max : bootBuiltins "max" = some (.builtin "max") := by decide +kernel
theorem bt_min : bootBuiltins "min" = some (.builtin "min") := by decide +kernel
theorem bt_sum : bootBuiltins "sum" = some (.builtin "sum") := by decide +kernel
theorem bt_repr : bootBuiltins "repr" = some (.builtin "repr") := by decide +kernel
theorem bt_sorted : bootBuiltins "sorted" = some (.builtin "sorted") := by decide +kernel
theorem bt_isinstance : bootBuiltins "isinstance" = some (.builtin "isinstance") := by decide +kernel
theorem bt_bool : bootBuiltins "bool" = some (.type "bool") := by decide +kernel
theorem bt_int : bootBuiltins "int" = some (.type "int") := by decide +kernel
theorem bt_list : bootBuiltins "list" = some (.type "list") := by decide +kernel
theorem bt_tuple : bootBuiltins "tuple" = some (.type "tuple") := by decide +kernel
theorem bt_dict : bootBuiltins "dict" = some (.type "dict") := by decide +kernel

/-! ### xs[i] of a list, for xs[i] += e -/
def rGetM : V → V → Hp → VK → Prop := fun o i H Q => ∃ p xs k j v, o = .ref p ∧ i = .int k ∧ H p = some (.lst xs) ∧ ixN xs.length k = some j ∧ xs[j]? = some v ∧ Q v H
theorem gt_list {X : Cx} : PGet X rGetM := by
  intro pins s σ H o i ov iv Q I ro ri h
  obtain ⟨p, xs, k, j, v, rfl, rfl, hp, hj, hv, q⟩ := h
  cases ro
  obtain ⟨t, rfl⟩ := ri
  obtain ⟨its, n, r, ho, hz⟩ := I.lst hp
  obtain ⟨w, hw, rw_⟩ := r.get hv
  obtain ⟨h1, h2, h3, h4⟩ := ixN_seq hj
  have hl := r.length
  have fin : EP X pins σ Q w s := ⟨v, H, I, rw_, q⟩
  have pl : s.heap.IsList p its.toArray := ⟨_, ho, rfl, n, rfl⟩
  have hn := line63
  by_cases h0 : 0 ≤ k
  · have hk : k.toNat = j := by
      rw [seqIndex_of h0 h4] at h1
      exact Option.some.inj h1
    exact wpAny_getItem_list (Q := fun r s' => EP X pins σ Q r s') pl h0 (by omega) (by rw [hk]; simpa using hw) fin
  · have hk : (k + (its.toArray.size : Int)).toNat = j := by
      rw [seqIndex_neg (by omega) h3] at h1
      have := Option.some.inj h1
      rw [List.size_toArray, ← hl]
      omega
    exact wpAny_getItem_list_neg (Q := fun r s' => EP X pins σ Q r s') pl (by omega) (by rw [List.size_toArray] <;> omega) (by omega) (by rw [hk]; simpa using hw) fin

/-! ### index, count in a tuple of ints -/
theorem ints_hit {k : Int} : ∀ {us : List Value} {ns : List Int}, IntsAre us ns → ∀ (i : Nat) (n : Int), ns[i]? = some n → ∃ u, us[i]? = some u ∧ eqk k u = (n == k) := fun {us ns} h i n e => by
  obtain ⟨t, ht⟩ := h.get i n e
  exact ⟨_, ht, rfl⟩
def rTIx (K : PySem.W.Frag) : V → List V → Hp → VK → Prop := fun x xs H Q => ∃ (p : Addr) (ys : List Int) (z : Int) (j : Nat), x = .ref p ∧ xs = [.int z] ∧ SqT K H p (ys.map V.int) ∧ ys[j]? = some z ∧ (∀ m, m < j → ys[m]? ≠ some z) ∧ Q (.int (j : Nat)) H
theorem mt_tindex {X : Cx} : MtR X "tuple.index" (rTIx X.K) := by
  intro pins s σ H x xs v us Q I rx rs h
  obtain ⟨p, ys, z, j, rfl, rfl, hq, hy, hno, q⟩ := h
  cases rx
  obtain ⟨u, rfl, t, rfl⟩ := vals1 rs
  obtain ⟨its, r, pl, hz⟩ := I.tuple hq
  obtain ⟨⟨cls, dd, dt, sl⟩, ho, hc, n, hd⟩ := pl
  simp only at hc hd
  subst hc
  subst hd
  have hi := ints_of_vals r
  have hl : its.toArray.size = ys.length := by rw [List.size_toArray, ← r.length, List.length_map]
  have hj : j < its.toArray.size := by rw [hl]; exact (List.getElem?_eq_some_iff.mp hy).1
  refine call_meets PySem.F.slot_tuple_index ⟨_, ho, rfl⟩ PySem.F.entry_tuple_index (PySem.F.args_tuple_index_2 _ _) (_root_.TI.tuple_indexAt p its.toArray n dd sl (.int z t) (eqk z) j hj ?_ ?_)
    ⟨ho, fun y hy => (eqk_gives hi y (by simpa using hy)).at _ _, ⟨.int (j : Nat), H, I.tok _, ⟨_, rfl⟩, q⟩⟩
  · obtain ⟨w, h1, h2⟩ := ints_hit (k := z) hi j z hy
    obtain ⟨_, e⟩ := List.getElem?_eq_some_iff.mp h1
    have e2 : its.toArray[j] = w := by simpa using e
    rw [e2, h2]
    exact beq_self_eq_true z
  · intro m hm hmj
    have hm' : m < ys.length := by rw [← hl]; exact hm
    obtain ⟨w, h1, h2⟩ := ints_hit (k := z) hi m _ (List.getElem?_eq_getElem hm')
    obtain ⟨_, e⟩ := List.getElem?_eq_some_iff.mp h1
    have e2 : its.toArray[m] = w := by simpa using e
    rw [e2, h2]
    exact beq_eq_false_iff_ne.mpr fun e => hno m hmj (by rw [List.getElem?_eq_getElem hm', e])
def rTCnt (K : PySem.W.Frag) : V → List V → Hp → VK → Prop := fun x xs H Q => ∃ (p : Addr) (ns : List Int) (k : Int), x = .ref p ∧ xs = [.int k] ∧ SqT K H p (ns.map V.int) ∧ Q (.int (ns.count k : Nat)) H
theorem mt_tcount {X : Cx} : MtR X "tuple.count" (rTCnt X.K) := by
  intro pins s σ H x xs v us Q I rx rs h
  obtain ⟨p, ns, k, rfl, rfl, hq, q⟩ := h
  cases rx
  obtain ⟨u, rfl, t, rfl⟩ := vals1 rs
  obtain ⟨its, r, pl, hz⟩ := I.tuple hq
  obtain ⟨⟨cls, dd, dt, sl⟩, ho, hc, n, hd⟩ := pl
  simp only at hc hd
  subst hc
  subst hd
  have hi := ints_of_vals r
  refine call_meets PySem.F.slot_tuple_count ⟨_, ho, rfl⟩ PySem.F.entry_tuple_count (PySem.F.args_tuple_count_2 _ _) (SeqAt.tuple_countAt p its.toArray n dd sl (.int k t) (eqk k)) ⟨ho, fun y hy => (eqk_gives hi y (by simpa using hy)).at _ _, ?_⟩
  have ec : its.toArray.toList.countP (eqk k) = ns.count k := eqk_count hi
  refine ⟨.int (ns.count k : Nat), H, I.tok _, ⟨s.toks, ?_⟩, q⟩
  show Value.int ((its.toArray.toList.countP (eqk k) : Nat) : Int) s.toks = Value.int ((ns.count k : Nat) : Int) s.toks
  rw [ec]

end FW
end
section
set_option linter.all false
set_option maxRecDepth 100000
set_option maxHeartbeats 4000000
/-! sum, repr, a call of what a name holds; readings over data. -/
namespace FW
open PySem PySem.Spec PyProof.Rows L2
/-! ### sum of a list or a tuple -/
theorem sum_rawT {prog : Program} {w : World} {A : Around} {E : Value → Shared → Prop} {s : Shared} {l : Addr} {its : List Value} {ns : List Int} {Q : Value → Shared → Prop} (calm : A.handled = none) (tup : s.heap.IsTuple l its.toArray) (hints : IntsAre its ns)
    (then_ : ∀ h' tk t', (∀ b o, s.heap.get? b = some o → h'.get? b = some o) → Q (.int ns.sum t') { s with heap := h', toks := tk }) : wpAny (model prog w) A (call (.builtin "sum") [.ref l]) Q E s := by
  obtain ⟨xs, e⟩ := hints.allInts.items
  have nums : numsOf (intItems xs).toList = ns := by rw [← e]; exact hints.numsOf
  rw [nums_intItems] at nums
  rw [e] at tup
  refine PySem.W.ktm_sumG calm tup fun h' tk t' keeps => ?_
  have := then_ h' tk t' keeps
  rw [preSum_eq, List.take_of_length_le (by simp), nums]; exact this
def rSumU (K : PySem.W.Frag) : List V → Hp → VK → Prop := fun vs H Q => ∃ (a : Addr) (ns : List Int), vs = [V.ref a] ∧ (SqL K H a (ns.map V.int) ∨ SqT K H a (ns.map V.int)) ∧ Q (.int ns.sum) H
theorem cr_sumU {X : Cx} (calm : X.calm = true) : CallR X (.builtin "sum") (rSumU X.K) := by
  intro pins s σ H vs us Q I r h
  obtain ⟨a, ns, rfl, hs | hs, q⟩ := h
  · exact cr_sum calm pins s σ H _ us Q I r ⟨a, ns, rfl, hs, q⟩
  · obtain ⟨its, rv, pl, _⟩ := I.tuple hs
    rw [Vals.ref1 r]
    exact sum_rawT (I.ok.hd calm) pl (ints_of_vals rv) fun h' tk t' keeps => ⟨.int _, H, I.kept keeps, ⟨_, rfl⟩, q⟩
/-! ### repr of nested data -/
def rRepr (K : PySem.W.Frag) : List V → Hp → VK → Prop := fun vs H Q => ∃ (a : Addr) (d : PyData), vs = [V.ref a] ∧ Dp K H (.ref a) d ∧ d.showable = true ∧ d.hasDict = false ∧ d.depth ≤ 60 ∧ d.shown.length ≤ 1000000 ∧ Q (.str d.shown) H
theorem cr_repr {X : Cx} {k : Nat} (room : Hd.RmG k X.A) : CallR X (.builtin "repr") (rRepr X.K) := by
  intro pins s σ H vs us Q I r h
  obtain ⟨a, d, rfl, hd, h1, h2, h3, h4, q⟩ := h
  obtain ⟨u, rfl, e⟩ := vals1 r
  obtain rfl : u = Value.ref a := e
  obtain ⟨as, rd⟩ := Dp.reads I d _ _ hd.old rfl
  have un := room.r.units
  exact PySem.repr_of_reads' rd h1 (PyData.noDict_hsm h2) room.g (by omega) (fun _ _ z => z) (fun h' u tk keeps => ⟨.str _, H, I.kept keeps, ⟨_, rfl⟩, q⟩) (Nat.le_trans h4 (by rw [sizeLine_eq]; decide))
/-! ### a call of what the i-th slot holds -/
/-- what may be held: a def that keeps the promise -/
structure HeldG (P : Program) (w : World) (K : PySem.W.Frag) (mg : Str → Option Value) (base : Heap) (k : Nat) (f : Addr) (sp : Sp) : Prop where
  ex : ∃ (fd : FuncData) (ps : List Str), Hd.FnG P w K mg base k f fd ps sp ∧ Binds K fd ps []
  kp : PySem.W.keepIn K (.ref f) = true
theorem pe_held {X : Cx} {k i : Nat} {S : Addr → Option Sp} {x : Str} {p pos : Pos} {e : Expr} {es : List Expr} {t : TA} (A : ∀ f sp, S f = some sp → HeldG X.prog X.w X.K X.mg X.base k f sp) (room : Hd.RmG k X.A) (at_ : X.N[i]? = some x) (vis : Vis X.env.scope x) (args : PA X (e :: es) t)
    (n1 : (x == ("__debug__" : Str)) = false := by decide) (n2 : (x == ("__classdict__" : Str)) = false := by decide)
    (he : starEach (e :: es) X.env = (false, eval e X.env) :: starEach es X.env := by rfl) (hpl : (backTo pos (starEach es X.env)).any (·.1) = false := by rfl) : PE X (.Call (.Name x p) (e :: es) [] pos) (tCallA i S t) := by
  refine ⟨fun pins s σ H Q I h => ?_⟩
  obtain ⟨f, sp, slot, is_, run⟩ := h
  have B := A f sp is_
  obtain ⟨fd, ps, F, b⟩ := B.ex
  refine wpAny_Call_Name_kw (thn ((pe_var (pos := p) at_ vis n1 n2).run pins s σ H (fun v H1 => v = .ref f ∧ H1 = H) I ⟨.ref f, slot, rfl, rfl⟩) fun u s1 ⟨v, H1, I1, r1, q1⟩ => ?_)
  obtain ⟨rfl, rfl⟩ := q1
  cases r1
  refine PySem.W.callWith_K (h₀ := X.base) I.ok.mod.kin B.kp (thn (args.run pos pins s1 σ _ _ I1 run) fun us s2 ⟨vs, H2, I2, r, q⟩ => ⟨I2.kIn, ?_⟩) he hpl
  exact Hd.call_g F room b I2 r q
end FW
end
section
set_option linter.all false
set_option maxRecDepth 100000
set_option maxHeartbeats 4000000
/-! Readings of operations and calls, over data. -/
namespace FW
open PySem PySem.Spec PyProof.Rows L2
section
variable {C : Cn} {G : List Sl} {ms : Ms} {te ta tb tc : TE} {tr : TA} {s x y z : Sl} {r r' : R2}
/-! ### a list that stands now -/
def EvM (C : Cn) (te : TE) (G : List Sl) (ms : Ms) (ds : List PD) : Prop := ∀ F H σ, Sat C F H σ G ms → ∀ Q : VK, (∀ p vs F' H', Go C F H F' H' → C.B ≠ some p → H' p = some (.lst vs) → DpAll C.K F' vs ds → Q (.ref p) H') → te σ H Q
theorem em_l {ds : List PD} (h : EvL C te G ms ds) : EvM C te G ms ds := fun F H σ S Q q => h F H σ S Q fun ds' p vs F' H' e hn g hf hh hd => by
  subst e
  refine q p vs F' H' g (fun e => ?_) hh hd
  obtain ⟨_, _, _, _, _, _, w, _⟩ := S.bag p e
  rw [w] at hn; cases hn
theorem em_v {l : Addr} {ds : List PD} (h : Ev C te G ms (.ml l)) (hm : (l, ds) ∈ ms) : EvM C te G ms ds := fun F H σ S Q q => h F H σ S Q fun s v F' H' e g o => by
  subst e
  obtain rfl := (o : v = V.ref l)
  obtain ⟨a, b, vs, c, d⟩ := (S.go g).cells _ hm
  exact q l vs F' H' g b c d
theorem em_d {ds : List PD} (h : Ev C te G ms (.dat (.list ds))) : EvM C te G ms ds := fun F H σ S Q q => h F H σ S Q fun s v F' H' e g o => by
  subst e
  obtain ⟨a, xs, rfl, h1, h2⟩ := dp_listN o
  have S' := S.go g
  refine q a xs F' H' g (fun e => ?_) (S'.fh a _ h1) h2
  obtain ⟨z, _⟩ := S'.bag a e
  rw [z] at h1; cases h1
theorem el_catG {ds es : List PD} (ha : EvM C ta G ms ds) (hb : EvM C tb G ms es) (hl : ds.length + es.length ≤ 100000) (hr : ∀ x y H Q, rCat x y H Q → r x y H Q) : EvL C (tOp r ta tb) G ms (ds ++ es) := fun F H σ S Q q =>
  ha F H σ S _ fun p vs F1 H1 g1 b1 h1 d1 => hb F1 H1 σ (S.go g1) _ fun p2 us F2 H2 g2 b2 h2 d2 => by
    have k1 := g2.hh g1.ex h1 b1 nofun
    have d1' := dps_mono g2.fx _ _ d1
    refine hr _ _ _ _ ⟨p, p2, vs, us, rfl, rfl, k1, h2, by rw [dps_len d1', dps_len d2]; exact sz_ok hl, fun n hn => ?_⟩
    obtain ⟨g3, hf⟩ := Go.newM (C := C) (o := .lst (vs ++ us)) g2.ex hn
    have gg := (g1.trans g2).trans g3
    exact q _ _ _ _ _ rfl (back_none S (g1.trans g2) hn) gg hf upd_same (dps_app d1' d2)
theorem el_cat {ds es : List PD} (ha : EvM C ta G ms ds) (hb : EvM C tb G ms es) (hl : ds.length + es.length ≤ 100000) : EvL C (tOp (rAddU C.K) ta tb) G ms (ds ++ es) := el_catG ha hb hl fun _ _ _ _ h => .inr (.inl h)
theorem dps_rep {K : PySem.W.Frag} {F : Hp} {vs : List V} {ds : List PD} (h : DpAll K F vs ds) : ∀ n : Nat, DpAll K F (List.replicate n vs).flatten (List.replicate n ds).flatten
  | 0 => .nil
  | n + 1 => by
    rw [List.replicate_succ, List.replicate_succ, List.flatten_cons, List.flatten_cons]
    exact dps_app h (dps_rep h n)
theorem rep1 {α : Type} (d : α) : ∀ n : Nat, (List.replicate n [d]).flatten = List.replicate n d
  | 0 => rfl
  | n + 1 => by rw [List.replicate_succ, List.replicate_succ, List.flatten_cons, rep1 d n]; rfl
/-- [d] * k -/
theorem el_mul {d : PD} {k : Int} (ha : EvM C ta G ms [d]) (hb : Ev C tb G ms (dI k)) (hk : -100000 ≤ k ∧ k ≤ 100000) : EvL C (tOp (rMulU C.K) ta tb) G ms (List.replicate k.toNat d) := fun F H σ S Q q =>
  ha F H σ S _ fun p vs F1 H1 g1 b1 h1 d1 => hb F1 H1 σ (S.go g1) _ fun s v F2 H2 e g2 k2 => by
    subst e
    obtain rfl := dp_int k2
    have k1 := g2.hh g1.ex h1 b1 nofun
    have d1' := dps_mono g2.fx _ _ d1
    refine .inr (.inl ⟨p, k, vs, rfl, rfl, k1, by omega, by omega, by rw [dps_len d1']; exact sz_ok (by show 1 * k.toNat ≤ 100000; omega), fun n hn => ?_⟩)
    obtain ⟨g3, hf⟩ := Go.newM (C := C) (o := .lst (List.replicate k.toNat vs).flatten) g2.ex hn
    have gg := (g1.trans g2).trans g3
    refine q _ _ _ _ _ rfl (back_none S (g1.trans g2) hn) gg hf upd_same ?_
    rw [← rep1 d]
    exact dps_rep d1' _
/-- (d,) * k -/
theorem ev_mulT {d : PD} {k : Int} (ha : Ev C ta G ms (.dat (.tuple [d]))) (hb : Ev C tb G ms (dI k)) (hk : 0 ≤ k ∧ k ≤ 1000) : Ev C (tOp (rMulU C.K) ta tb) G ms (.dat (.tuple (List.replicate k.toNat d))) := ev_op ha hb fun F H σ vx vy S hx hy Q q => by
  obtain ⟨a, xs, rfl, h1, h2⟩ := dp_tup hx
  have hl := dps_len h2
  refine .inr (.inr ⟨a, k, xs, rfl, dp_int hy, same_t S.fh h1, (fun e => by rw [e] at hl; cases hl), hk.1, hk.2, (by rw [hl]; show 1 ≤ 1000; decide), fun e => ?_, fun _ p o hn ho => ?_⟩)
  · subst e
    exact q _ _ F H rfl (Go.refl S.fh) (show Dp C.K F (.ref a) (.tuple [d]) from hx)
  · have g3 : Go C F H (upd F p (.frz o (.tup (List.replicate k.toNat xs).flatten))) (upd H p (.frz o (.tup (List.replicate k.toNat xs).flatten))) := Go.new S.fh hn
    refine q _ _ _ _ rfl g3 (.tup ⟨o, upd_same, ho⟩ (dps_mono g3.fx _ _ ?_))
    rw [← rep1 d]
    exact dps_rep h2 _
theorem rv_addI {i j : Int} : Rv C (rAddU C.K) (dI i) (dI j) G ms (dI (i + j)) := fun F H σ vx vy S hx hy Q q => .inl (rv_i (C := C) (G := G) (ms := ms) (g := fun a b => a + b) F H σ vx vy S hx hy Q q)
theorem rv_addT {ds es : List PD} (hl : ds.length + es.length ≤ 100000) : Rv C (rAddU C.K) (.dat (.tuple ds)) (.dat (.tuple es)) G ms (.dat (.tuple (ds ++ es))) := fun F H σ vx vy S hx hy Q q => by
  obtain ⟨a, xs, rfl, h1, h2⟩ := dp_tup hx
  obtain ⟨b, ys, rfl, h3, h4⟩ := dp_tup hy
  refine .inr (.inr ⟨a, b, xs, ys, rfl, rfl, same_t S.fh h1, same_t S.fh h3, by rw [dps_len h2, dps_len h4]; exact sz_ok hl, fun e => ?_, fun _ e => ?_, fun _ _ p o hn ho => ?_⟩)
  · subst e; cases h2; exact q _ _ F H rfl (Go.refl S.fh) hy
  · subst e; cases h4; rw [List.append_nil] at q; exact q _ _ F H rfl (Go.refl S.fh) hx
  · have g3 : Go C F H (upd F p (.frz o (.tup (xs ++ ys)))) (upd H p (.frz o (.tup (xs ++ ys)))) := Go.new S.fh hn
    exact q _ _ _ _ rfl g3 (.tup ⟨o, upd_same, ho⟩ (dps_mono g3.fx _ _ (dps_app h2 h4)))
theorem rv_mulI {i j : Int} (h : CMul i j) : Rv C (rMulU C.K) (dI i) (dI j) G ms (dI (i * j)) := fun F H σ vx vy S hx hy Q q => .inl (rv_iC (C := C) (G := G) (ms := ms) (g := fun a b => a * b) h F H σ vx vy S hx hy Q q)
/-! ### == -/
theorem rv_eqUI {i j : Int} : Rv C (rEqU C.K) (dI i) (dI j) G ms (dB (decide (i = j))) := fun F H σ vx vy S hx hy Q q => .inl (rv_eqI (C := C) (G := G) (ms := ms) F H σ vx vy S hx hy Q q)
theorem rv_eqUS {i j : Str} : Rv C (rEqU C.K) (.dat (.str i)) (.dat (.str j)) G ms (dB (decide (i = j))) := fun F H σ vx vy S hx hy Q q => .inl (rv_eqS (C := C) (G := G) (ms := ms) F H σ vx vy S hx hy Q q)
theorem rv_eqUD {d e : PD} (h1 : SeqAt.shaped d = true) (h2 : SeqAt.shaped e = true) : Rv C (rEqU C.K) (.dat d) (.dat e) G ms (dB (PyData.eqv d e)) := fun F H σ vx vy S hx hy Q q => .inr (rv_eqD (C := C) (G := G) (ms := ms) h1 h2 F H σ vx vy S hx hy Q q)
theorem rv_neUI {i j : Int} : Rv C (rNeU C.K) (dI i) (dI j) G ms (dB (!decide (i = j))) := fun F H σ vx vy S hx hy Q q => .inl (rv_neI (C := C) (G := G) (ms := ms) F H σ vx vy S hx hy Q q)
theorem rv_neUD {d e : PD} (h1 : SeqAt.shaped d = true) (h2 : SeqAt.shaped e = true) : Rv C (rNeU C.K) (.dat d) (.dat e) G ms (dB (!PyData.eqv d e)) := fun F H σ vx vy S hx hy Q q => .inr (rv_neD (C := C) (G := G) (ms := ms) h1 h2 F H σ vx vy S hx hy Q q)
theorem rv_neUM {l : Addr} {ds : List PD} {e : PD} (hm : (l, ds) ∈ ms) (h1 : SeqAt.shaped (.list ds) = true) (h2 : SeqAt.shaped e = true) : Rv C (rNeU C.K) (.ml l) (.dat e) G ms (dB (!PyData.eqv (.list ds) e)) := fun F H σ vx vy S hx hy Q q => by
  obtain rfl : vx = .ref l := hx
  obtain ⟨_, _, xs, k1, k2⟩ := S.cells _ hm
  exact .inr ⟨.list ds, e, Dp.old _ (.lst k1 (dps_mono S.fh _ _ k2)), (dp_mono S.fh _ _ hy).old, h1, h2, q _ _ F H rfl (Go.refl S.fh) (.bl _)⟩
/-! ### unary, chains -/
theorem ev_neg {i : Int} (h : Ev C te G ms (dI i)) : Ev C (tUn (rU fun i => .int (-i)) te) G ms (dI (-i)) := ev_un h fun F H σ vx S hx Q q => ⟨i, dp_int hx, q _ _ F H rfl (Go.refl S.fh) (.int _)⟩
theorem ev_chain {a b : Bool} (h1 : Ev C ta G ms x) (h2 : Ev C tb G ms y) (hr : Rv C r x y G ms (dB a)) (h3 : a = true → Ev C tc G ms z) (hr2 : a = true → Rv C r' y z G ms (dB b)) : Ev C (tChain r r' ta tb tc) G ms (dB (a && b)) := fun F H σ S Q q =>
  h1 F H σ S _ fun s1 v1 F1 H1 e1 g1 k1 => h2 F1 H1 σ (S.go g1) _ fun s2 v2 F2 H2 e2 g2 k2 => by
    subst e1 e2
    refine hr F2 H2 σ v1 v2 ((S.go g1).go g2) (k1.mono g2.fx) k2 _ fun s3 v3 F3 H3 e3 g3 k3 => ?_
    subst e3
    obtain rfl := dp_bl k3
    refine ⟨a, rfl, ?_⟩
    have gg := (g1.trans g2).trans g3
    cases a with
    | false => exact q _ _ F3 H3 rfl gg (.bl _)
    | true =>
      exact h3 rfl F3 H3 σ (S.go gg) _ fun s4 v4 F4 H4 e4 g4 k4 => by
        subst e4
        exact hr2 rfl F4 H4 σ v2 v4 ((S.go gg).go g4) ((k2.mono g3.fx).mono g4.fx) k4 Q fun s5 v5 F5 H5 e5 g5 k5 => q s5 v5 F5 H5 (by rw [e5]; rfl) ((gg.trans g4).trans g5) k5
/-! ### slices -/
def cutD (ds : List PD) (lo hi : Option Int) : List PD := (ds.drop (HT.sIx ds.length 0 lo)).take (HT.sIx ds.length ds.length hi - HT.sIx ds.length 0 lo)
theorem cutD_to (ds : List PD) (k : Nat) : cutD ds none (some (k : Int)) = ds.take k := by
  unfold cutD
  rw [HT.sIx_none, HT.sIx_nat ds.length, List.drop_zero, Nat.sub_zero, List.take_eq_take_iff]
  omega
theorem cutD_from (ds : List PD) (k : Nat) : cutD ds (some (k : Int)) none = ds.drop k := by
  unfold cutD
  rw [HT.sIx_none, HT.sIx_nat]
  by_cases h : k ≤ ds.length
  · rw [Nat.min_eq_left h, List.take_of_length_le (by rw [List.length_drop]; omega)]
  · rw [Nat.min_eq_right (by omega), Nat.sub_self, List.take_zero, List.drop_eq_nil_of_le (by omega)]
theorem cutD_last (ds : List PD) : cutD ds (some (-1)) none = ds.drop (ds.length - 1) := by
  unfold cutD
  rw [HT.sIx_none]
  have e : HT.sIx ds.length 0 (some (-1)) = ds.length - 1 := by
    show (if (-1 : Int) < 0 then ((-1 : Int) + (ds.length : Int)).toNat else min (-1 : Int).toNat ds.length) = ds.length - 1
    rw [if_pos (by decide)]
    omega
  rw [e, List.take_of_length_le (by rw [List.length_drop]; omega)]
theorem dps_cut {K : PySem.W.Frag} {F : Hp} {vs : List V} {ds : List PD} (lo hi : Option Int) (h : DpAll K F vs ds) : DpAll K F (cutV vs lo hi) (cutD ds lo hi) := by
  unfold cutV cutD
  rw [dps_len h]
  exact dps_take _ (dps_drop _ h)
def EvO (C : Cn) (t : TO) (G : List Sl) (ms : Ms) (o : Option Int) : Prop := ∀ F H σ, Sat C F H σ G ms → ∀ Q : Option Int → Hp → Prop, (∀ F' H', Go C F H F' H' → Q o H') → t σ H Q
theorem eo_none : EvO C tNoPart G ms none := fun F H σ S Q q => q F H (Go.refl S.fh)
theorem eo_some {i : Int} (h : Ev C te G ms (dI i)) : EvO C (tPart te) G ms (some i) := fun F H σ S Q q => h F H σ S _ fun s v F' H' e g k => by
  subst e
  exact ⟨i, dp_int k, q F' H' g⟩
theorem ev_slT {tl th : TO} {ds : List PD} {lo hi : Option Int} (h : Ev C te G ms (.dat (.tuple ds))) (hl : EvO C tl G ms lo) (hh : EvO C th G ms hi) : Ev C (tSl (rSlU C.K) te tl th) G ms (.dat (.tuple (cutD ds lo hi))) := fun F H σ S Q q =>
  h F H σ S _ fun s v F1 H1 e g1 k1 => hl F1 H1 σ (S.go g1) _ fun F2 H2 g2 => hh F2 H2 σ ((S.go g1).go g2) _ fun F3 H3 g3 => by
    subst e
    have gg := (g1.trans g2).trans g3
    have k3 := dp_mono (g2.trans g3).fx _ _ k1
    obtain ⟨a, xs, rfl, h1, h2⟩ := dp_tup k3
    refine .inr ⟨a, xs, rfl, same_t gg.ex h1, fun w => ?_, fun _ p o hn ho => ?_⟩
    · have e : cutD ds lo hi = ds := by
        unfold cutD
        rw [dps_len h2] at w
        rw [w.1, w.2, List.drop_zero, Nat.sub_zero, List.take_length]
      rw [e] at q
      exact q _ _ F3 H3 rfl gg k3
    · have g4 : Go C F3 H3 (upd F3 p (.frz o (.tup (cutV xs lo hi)))) (upd H3 p (.frz o (.tup (cutV xs lo hi)))) := Go.new gg.ex hn
      exact q _ _ _ _ rfl (gg.trans g4) (.tup ⟨o, upd_same, ho⟩ (dps_mono g4.fx _ _ (dps_cut lo hi h2)))
theorem el_slL {tl th : TO} {ds : List PD} {lo hi : Option Int} (h : Ev C te G ms (.dat (.list ds))) (hl : EvO C tl G ms lo) (hh : EvO C th G ms hi) : EvL C (tSl (rSlU C.K) te tl th) G ms (cutD ds lo hi) := fun F H σ S Q q =>
  h F H σ S _ fun s v F1 H1 e g1 k1 => hl F1 H1 σ (S.go g1) _ fun F2 H2 g2 => hh F2 H2 σ ((S.go g1).go g2) _ fun F3 H3 g3 => by
    subst e
    have gg := (g1.trans g2).trans g3
    have k3 := dp_mono (g2.trans g3).fx _ _ k1
    obtain ⟨a, xs, rfl, h1, h2⟩ := dp_list k3
    refine .inl ⟨a, xs, rfl, same_l gg.ex h1, fun p hn => ?_⟩
    obtain ⟨g4, hf⟩ := Go.newM (C := C) (o := .lst (cutV xs lo hi)) gg.ex hn
    exact q _ _ _ _ _ rfl (back_none S gg hn) (gg.trans g4) hf upd_same (dps_cut lo hi h2)
theorem el_slM {tl th : TO} {l : Addr} {ds : List PD} {lo hi : Option Int} (h : Ev C te G ms (.ml l)) (hm : (l, ds) ∈ ms) (hl : EvO C tl G ms lo) (hh : EvO C th G ms hi) : EvL C (tSl (rSlU C.K) te tl th) G ms (cutD ds lo hi) := fun F H σ S Q q =>
  h F H σ S _ fun s v F1 H1 e g1 k1 => hl F1 H1 σ (S.go g1) _ fun F2 H2 g2 => hh F2 H2 σ ((S.go g1).go g2) _ fun F3 H3 g3 => by
    subst e
    obtain rfl := (k1 : v = V.ref l)
    have gg := (g1.trans g2).trans g3
    obtain ⟨_, _, xs, h1, h2⟩ := (S.go gg).cells _ hm
    refine .inl ⟨l, xs, rfl, .inl (.inl h1), fun p hn => ?_⟩
    obtain ⟨g4, hf⟩ := Go.newM (C := C) (o := .lst (cutV xs lo hi)) gg.ex hn
    exact q _ _ _ _ _ rfl (back_none S gg hn) (gg.trans g4) hf upd_same (dps_cut lo hi h2)
/-- xs[::-1] of a list that may change -/
theorem el_revM {l : Addr} {ds : List PD} (h : Ev C te G ms (.ml l)) (hm : (l, ds) ∈ ms) : EvL C (tRevL C.K te) G ms ds.reverse := fun F H σ S Q q =>
  h F H σ S _ fun s v F1 H1 e g1 k1 => by
    subst e
    obtain rfl := (k1 : v = V.ref l)
    obtain ⟨_, _, xs, h1, h2⟩ := (S.go g1).cells _ hm
    refine ⟨l, xs, rfl, .inl (.inl h1), fun p hn => ?_⟩
    obtain ⟨g4, hf⟩ := Go.newM (C := C) (o := .lst xs.reverse) g1.ex hn
    exact q _ _ _ _ _ rfl (back_none S g1 hn) (g1.trans g4) hf upd_same (dps_rev h2)
where
  dps_rev {K : PySem.W.Frag} {F : Hp} : ∀ {vs : List V} {ds : List PD}, DpAll K F vs ds → DpAll K F vs.reverse ds.reverse
    | _, _, .nil => .nil
    | _, _, .cons a t => by
      rw [List.reverse_cons, List.reverse_cons]
      exact dps_app (dps_rev t) (.cons a .nil)
/-! ### list(range(n)), tuple(range(n)) -/
theorem dps_rg {K : PySem.W.Frag} {F : Hp} (n : Nat) : DpAll K F (rgV 0 (n : Int)) ((List.range n).map fun k : Nat => PyData.int k) := by
  have e : rgV 0 (n : Int) = (((List.range n).map fun k : Nat => (k : Int)).map V.int) := by
    unfold rgV
    rw [List.map_map]
    have e0 : ((n : Int) - 0).toNat = n := by omega
    rw [e0]
    refine List.map_congr_left fun k _ => ?_
    show V.int (0 + (k : Int)) = V.int (k : Int)
    rw [Int.zero_add]
  have e2 : ((List.range n).map fun k : Nat => PyData.int k) = (((List.range n).map fun k : Nat => (k : Int)).map PyData.int) := by
    rw [List.map_map]; rfl
  rw [e, e2]
  exact dps_of_ints _
theorem el_listRg {n : Nat} (h : Ev C te G ms (dI n)) (hn : n ≤ 100000) : EvL C (tLstRg (tRg1 te)) G ms ((List.range n).map fun k : Nat => PyData.int k) := fun F H σ S Q q =>
  h F H σ S _ fun s v F1 H1 e g k => by
    subst e
    refine ⟨n, dp_int k, RgOk.of_le (Int.le_refl _) (by omega) (by omega) (by omega), fun p hn => ?_⟩
    obtain ⟨g4, hf⟩ := Go.newM (C := C) (o := .lst (rgV 0 (n : Int))) g.ex hn
    exact q _ _ _ _ _ rfl (back_none S g hn) (g.trans g4) hf upd_same (dps_rg n)
theorem ev_tupRg {n : Nat} (h : Ev C te G ms (dI n)) (hn : n ≤ 100000) : Ev C (tTupRgN (tRg1 te)) G ms (.dat (.tuple ((List.range n).map fun k : Nat => PyData.int k))) := fun F H σ S Q q =>
  h F H σ S _ fun s v F1 H1 e g k => by
    subst e
    refine ⟨n, dp_int k, RgOk.of_le (Int.le_refl _) (by omega) (by omega) (by omega), fun p o hn ho => ?_⟩
    have g4 : Go C F1 H1 (upd F1 p (.frz o (.tup (rgV 0 (n : Int))))) (upd H1 p (.frz o (.tup (rgV 0 (n : Int))))) := Go.new g.ex hn
    exact q _ _ _ _ rfl (g.trans g4) (.tup ⟨o, upd_same, ho⟩ (dps_rg n))
/-! ### methods -/
theorem dp_tupN {K : PySem.W.Frag} {F : Hp} {v : V} {ds : List PD} (h : Dp K F v (.tuple ds)) : ∃ a xs, v = .ref a ∧ TN F a xs ∧ DpAll K F xs ds := by cases h with | tup h1 h2 => exact ⟨_, _, rfl, h1, h2⟩
theorem ev_tm {rr : V → List V → Hp → VK → Prop} {ns : List Int} {i : Int} (ho : Ev C ta G ms (.dat (.tuple (ns.map PyData.int)))) (hi : Ev C tb G ms (dI i)) (hr : ∀ a H Q, SqT C.K H a (ns.map V.int) → (∀ v, SlOk C.K H v z → Q v H) → rr (.ref a) [.int i] H Q) (hz : ∀ (F H : Hp) (v : V), SlOk C.K H v z → SlOk C.K F v z) : Ev C (tTM rr ta (tCons tb tNil)) G ms z := fun F H σ S Q q =>
  ho F H σ S _ fun s v F1 H1 e g1 k1 => by
    subst e
    obtain ⟨a, xs, rfl, ⟨o, d1, d3⟩, d2⟩ := dp_tupN k1
    obtain rfl := dps_ints d2
    refine ⟨⟨a, o, _, rfl, g1.ex a _ d1, d3⟩, hi F1 H1 σ (S.go g1) _ fun s2 v2 F2 H2 e2 g2 k2 => ?_⟩
    subst e2
    obtain rfl := dp_int k2
    exact hr a H2 Q (.inl (.inr ⟨o, g2.ex a _ (g2.fx a _ d1)⟩)) fun v hv => q _ _ F2 H2 rfl (g1.trans g2) (hz F2 H2 v hv)
theorem int_any {K : PySem.W.Frag} {n : Int} (F H : Hp) (v : V) (h : SlOk K H v (dI n)) : SlOk K F v (dI n) := by
  obtain rfl := dp_int h
  exact Dp.int n
theorem ev_index {ns : List Int} {i : Int} {j : Nat} (ho : Ev C ta G ms (.dat (.tuple (ns.map PyData.int)))) (hi : Ev C tb G ms (dI i)) (h1 : ns[j]? = some i) (h2 : ∀ m, m < j → ns[m]? ≠ some i) : Ev C (tTM (rTIx C.K) ta (tCons tb tNil)) G ms (dI j) :=
  ev_tm ho hi (fun a H Q sq q => ⟨a, ns, i, j, rfl, rfl, sq, h1, h2, q _ (Dp.int _)⟩) int_any
theorem ev_tcount {ns : List Int} {i : Int} (ho : Ev C ta G ms (.dat (.tuple (ns.map PyData.int)))) (hi : Ev C tb G ms (dI i)) : Ev C (tTM (rTCnt C.K) ta (tCons tb tNil)) G ms (dI (ns.count i : Nat)) :=
  ev_tm ho hi (fun a H Q sq q => ⟨a, ns, i, rfl, rfl, sq, q _ (Dp.int _)⟩) int_any
theorem ev_lcount {l : Addr} {ns : List Int} {i : Int} (ho : Ev C ta G ms (.ml l)) (hm : (l, ns.map PyData.int) ∈ ms) (hi : Ev C tb G ms (dI i)) : Ev C (tBM C.K "list" (rCntI C.K) ta (tCons tb tNil)) G ms (dI (ns.count i : Nat)) := fun F H σ S Q q =>
  ho F H σ S _ fun s v F1 H1 e g1 k1 => by
    subst e
    obtain rfl := (k1 : v = V.ref l)
    obtain ⟨_, _, xs, h1, h2⟩ := (S.go g1).cells _ hm
    refine ⟨.inl ⟨rfl, xs, .inl (.inl h1)⟩, hi F1 H1 σ (S.go g1) _ fun s2 v2 F2 H2 e2 g2 k2 => ?_⟩
    subst e2
    obtain rfl := dp_int k2
    obtain ⟨_, _, ys, h3, h4⟩ := ((S.go g1).go g2).cells _ hm
    obtain rfl := dps_ints h4
    exact ⟨l, ns, i, rfl, rfl, .inl (.inl h3), q _ _ F2 H2 rfl (g1.trans g2) (.int _)⟩
/-! ### calls of built-ins -/
theorem rc_max3 {i j k : Int} : Rc C (rNuC3 nuMax3) [dI i, dI j, dI k] G ms (dI (max (max i j) k)) := fun F H σ vs S h Q q => by
  obtain ⟨a, b, c, rfl, k1, k2, k3⟩ := sls3 h
  obtain rfl := dp_int k1
  obtain rfl := dp_int k2
  obtain rfl := dp_int k3
  have e2 : ∀ a b : Int, nuMax2 (.int a) (.int b) = some (.int (max a b)) := fun a b => by
    show (nuLt (.int a) (.int b)).map _ = _
    have : nuLt (.int a) (.int b) = some (decide (a < b)) := rfl
    rw [this]
    show some (if decide (a < b) = true then V.int b else V.int a) = _
    by_cases h : a < b
    · rw [if_pos (decide_eq_true h)]
      congr 2
      omega
    · rw [if_neg (by simpa using h)]
      congr 2
      omega
  refine ⟨.int i, .int j, .int k, .int (max (max i j) k), rfl, ?_, q _ _ F H rfl (Go.refl S.fh) (.int _)⟩
  show (nuMax2 (.int i) (.int j)).bind _ = _
  rw [e2]
  exact e2 _ _
theorem rc_sumT {ns : List Int} : Rc C (rSumU C.K) [.dat (.tuple (ns.map PyData.int))] G ms (dI ns.sum) := fun F H σ vs S h Q q => by
  obtain ⟨v, rfl, k1⟩ := sls1 h
  obtain ⟨a, xs, rfl, h1, h2⟩ := dp_tup k1
  obtain rfl := dps_ints h2
  exact ⟨a, ns, rfl, .inr (same_t S.fh h1), q _ _ F H rfl (Go.refl S.fh) (.int _)⟩
theorem rc_repr {ds : List PD} (h1 : (PyData.tuple ds).showable = true) (h2 : (PyData.tuple ds).hasDict = false) (h3 : (PyData.tuple ds).depth ≤ 60) (h4 : (PyData.tuple ds).shown.length ≤ 1000000) : Rc C (rRepr C.K) [.dat (.tuple ds)] G ms (.dat (.str (PyData.tuple ds).shown)) := fun F H σ vs S h Q q => by
  obtain ⟨v, rfl, k1⟩ := sls1 h
  obtain ⟨a, xs, rfl, _, _⟩ := dp_tup k1
  exact ⟨a, .tuple ds, rfl, dp_mono S.fh _ _ k1, h1, h2, h3, h4, q _ _ F H rfl (Go.refl S.fh) (.str _)⟩
theorem rc_isT {ds : List PD} : Rc C (rIsi C.K) [.dat (.tuple ds), .val (.ty "tuple")] G ms (dB true) := fun F H σ vs S h Q q => by
  obtain ⟨v, u, rfl, k1, k2⟩ := sls2 h
  obtain rfl := (k2 : u = V.ty "tuple")
  obtain ⟨a, xs, rfl, ⟨o, h1, _⟩, _⟩ := dp_tupN k1
  exact ⟨.ref a, .ty "tuple", .type "tuple", .type "tuple", true, rfl, .ty _, .fTuple (S.fh a _ h1), kit_ty (by decide +kernel), q _ _ F H rfl (Go.refl S.fh) (.bl _)⟩
theorem rc_isI {i : Int} : Rc C (rIsi C.K) [dI i, .val (.ty "int")] G ms (dB true) := fun F H σ vs S h Q q => by
  obtain ⟨v, u, rfl, k1, k2⟩ := sls2 h
  obtain rfl := (k2 : u = V.ty "int")
  obtain rfl := dp_int k1
  exact ⟨.int i, .ty "int", .type "int", .type "int", true, rfl, .ty _, .base (.int i), kit_ty (by decide +kernel), q _ _ F H rfl (Go.refl S.fh) (.bl _)⟩
theorem rc_isB {i : Int} : Rc C (rIsi C.K) [dI i, .val (.ty "bool")] G ms (dB false) := fun F H σ vs S h Q q => by
  obtain ⟨v, u, rfl, k1, k2⟩ := sls2 h
  obtain rfl := (k2 : u = V.ty "bool")
  obtain rfl := dp_int k1
  exact ⟨.int i, .ty "bool", .type "int", .type "bool", false, rfl, .ty _, .base (.int i), kit_ty (by decide +kernel), q _ _ F H rfl (Go.refl S.fh) (.bl _)⟩
theorem rc_lstM {l : Addr} {ds : List PD} (hm : (l, ds) ∈ ms) : RcL C (rLstOf C.K) [.ml l] G ms ds := fun F H σ vs S k Q q => by
  obtain ⟨v, rfl, k1⟩ := sls1 k
  obtain rfl := (k1 : v = V.ref l)
  obtain ⟨_, _, xs, h1, h2⟩ := S.cells _ hm
  refine ⟨l, xs, rfl, .inl (.inl (.inl h1)), fun p hn => ?_⟩
  obtain ⟨g2, hf⟩ := Go.newM (C := C) (o := .lst xs) S.fh hn
  exact q _ _ _ _ _ rfl hn g2 hf upd_same h2
/-! ### statements on lists -/
variable {D : Ends} {to ti : TE}
/-- xs[j] op= e -/
theorem t_augS {k n : Nat} {l : Addr} {ds : List PD} {a b j : Int} {f : Int → Int → Int} (ho : Ev C to G ms (.ml l)) (hi : Ev C ti G ms (dI j)) (hm : ms[k]? = some (l, ds)) (hj : ixN ds.length j = some n) (hx : ds[n]? = some (.int a)) (h : Ev C te G ms (dI b)) (kk : ∀ σ H, Pst C G (ms.set k (l, ds.set n (.int (f a b)))) σ H → D.nx σ H) :
    Tr C G ms (tAugS to ti te rGetM (ipI f) rSetL) D := fun σ H ⟨F, S, gg, hf, fl, e0, hb⟩ =>
  ho F H σ S _ fun s v F1 H1 e g1 k1 => hi F1 H1 σ (S.go g1) _ fun s2 v2 F2 H2 e2 g2 k2 => by
    subst e e2
    obtain rfl := (k1 : v = V.ref l)
    obtain rfl := dp_int k2
    obtain ⟨_, _, us, h1, h2⟩ := ((S.go g1).go g2).cells _ (List.mem_of_getElem? hm)
    obtain ⟨w, w1, w2⟩ := dps_get h2 hx
    obtain rfl := dp_int w2
    refine ⟨l, us, j, n, .int a, rfl, rfl, h1, by rw [dps_len h2]; exact hj, w1, h F2 H2 σ ((S.go g1).go g2) _ fun s3 v3 F3 H3 e3 g3 k3 => ?_⟩
    subst e3
    obtain rfl := dp_int k3
    have gA := (g1.trans g2).trans g3
    have S3 := S.go gA
    obtain ⟨_, _, ws, h3, h4⟩ := S3.cells _ (List.mem_of_getElem? hm)
    exact ⟨a, b, rfl, rfl, l, ws, j, n, rfl, rfl, h3, by rw [dps_len h4]; exact hj, kk _ _ (Pst.cell S3 (gg.trans gA) hf (Same.trans fl gA.fx) e0 hb hm (dps_set (Dp.int _) n h4))⟩
/-- xs.insert(i, e) -/
theorem t_ins {k i : Nat} {l : Addr} {ds : List PD} {d : PD} (ho : Ev C to G ms (.ml l)) {Ps : List Sl → Prop} (h : EvAP C tr G ms Ps) (hp : ∀ ss, Ps ss → ∃ (i : Nat) (d : PD), ss = [dI i, .dat d] ∧ i ≤ 100000 ∧ ∀ σ H, Pst C G (ms.set k (l, ds.take i ++ [d] ++ ds.drop i)) σ H → D.nx σ H) (hm : ms[k]? = some (l, ds)) (hl : ds.length < 100000) :
    Tr C G ms (tDrop (tBM C.K "list" (fun x vs H Q => ∃ (l : Addr) (xs : List V) (i : Int) (y : V), x = .ref l ∧ vs = [.int i, y] ∧ H l = some (.lst xs) ∧ xs.length < sizeLine ∧ 0 ≤ i ∧ i < 2 ^ 63 ∧ Q .non (upd H l (.lst (xs.take i.toNat ++ [y] ++ xs.drop i.toNat)))) to tr)) D := fun σ H ⟨F, S, gg, hf, fl, e0, hb⟩ =>
  ho F H σ S _ fun s v F1 H1 e g1 k1 => by
    subst e
    obtain rfl := (k1 : v = V.ref l)
    obtain ⟨_, _, us, h1, _⟩ := (S.go g1).cells _ (List.mem_of_getElem? hm)
    refine ⟨.inl ⟨rfl, us, .inl (.inl h1)⟩, h F1 H1 σ (S.go g1) _ fun ss vs F2 H2 e2 g2 k2 => ?_⟩
    obtain ⟨i, d, rfl, hi, kk⟩ := hp ss e2
    obtain ⟨v2, v3, rfl, o1, o2⟩ := sls2 k2
    obtain rfl := dp_int o1
    have gA := g1.trans g2
    have S2 := S.go gA
    obtain ⟨_, _, ws, h3, h4⟩ := S2.cells _ (List.mem_of_getElem? hm)
    refine ⟨l, ws, i, v3, rfl, rfl, h3, by rw [dps_len h4]; exact Nat.lt_of_lt_of_le hl (by decide), by omega, by omega, kk _ _ (Pst.cell S2 (gg.trans gA) hf (Same.trans fl gA.fx) e0 hb hm ?_)⟩
    rw [Int.toNat_natCast]
    exact dps_app (dps_app (dps_take i h4) (.cons o2 .nil)) (dps_drop i h4)
/-- xs.extend(ys), ys a list that is data: what it takes is a list of the heap -/
theorem t_ext {k : Nat} {l : Addr} {ds es : List PD} (ho : Ev C to G ms (.ml l)) (h : EvM C te G ms es) (hm : ms[k]? = some (l, ds)) (hl : ds.length + es.length ≤ 100000) (kk : ∀ σ H, Pst C G (ms.set k (l, ds ++ es)) σ H → D.nx σ H) :
    Tr C G ms (tDrop (tBM C.K "list" rExtend to (tCons te tNil))) D := fun σ H ⟨F, S, gg, hf, fl, e0, hb⟩ =>
  ho F H σ S _ fun s v F1 H1 e g1 k1 => by
    subst e
    obtain rfl := (k1 : v = V.ref l)
    obtain ⟨_, _, us, h1, _⟩ := (S.go g1).cells _ (List.mem_of_getElem? hm)
    refine ⟨.inl ⟨rfl, us, .inl (.inl h1)⟩, h F1 H1 σ (S.go g1) _ fun p zs F2 H2 g2 b2 h2 d2 => ?_⟩
    have gA := g1.trans g2
    have S2 := S.go gA
    obtain ⟨_, _, ws, h3, h4⟩ := S2.cells _ (List.mem_of_getElem? hm)
    exact ⟨l, p, ws, zs, rfl, rfl, h3, h2, by rw [dps_len h4, dps_len d2]; exact sz_ok hl, kk _ _ (Pst.cell S2 (gg.trans gA) hf (Same.trans fl gA.fx) e0 hb hm (dps_app h4 d2))⟩
end
end FW
end
section
set_option linter.all false
set_option maxRecDepth 100000
set_option maxHeartbeats 4000000
/-! The rules with the written part told ahead, for use within comprehensions. -/
namespace FW
open PySem PySem.Spec PyProof.Rows L2
section
variable {X : Cx} {K : PySem.W.Frag}
theorem kc_len (e : X.K = K) : CallR X (.builtin "len") (rLenQ K) := by subst e; exact call_len_seq
theorem kc_any (e : X.K = K) (c : X.calm = true) : CallR X (.builtin "any") (rAny K) := by subst e; exact cr_any c
theorem kc_all (e : X.K = K) (c : X.calm = true) : CallR X (.builtin "all") (rAll K) := by subst e; exact cr_all c
theorem kc_sum (e : X.K = K) (c : X.calm = true) : CallR X (.builtin "sum") (rSumU K) := by subst e; exact cr_sumU c
theorem kc_repr {k : Nat} (e : X.K = K) (hr : Hd.RmG k X.A) : CallR X (.builtin "repr") (rRepr K) := by subst e; exact cr_repr hr
theorem kc_isi (e : X.K = K) : CallR X (.builtin "isinstance") (rIsi K) := by subst e; exact call_isi
theorem kc_tup (e : X.K = K) : CallR X (.type "tuple") (rTupOf K) := by subst e; exact call_tupN
theorem kc_list (e : X.K = K) : CallR X (.type "list") (rLstOf K) := by subst e; exact call_list_of
theorem ko_add (e : X.K = K) : OpR X (binaryOp .Add) (rAddU K) := by subst e; exact op_addU
theorem ko_mul (e : X.K = K) : OpR X (binaryOp .Mult) (rMulU K) := by subst e; exact op_mulU
theorem ko_eq {k : Nat} (e : X.K = K) (hr : Hd.RmG k X.A) : OpR X (compareOp .Eq) (rEqU K) := by subst e; exact op_eqU (hu64 hr)
theorem ko_ne {k : Nat} (e : X.K = K) (hr : Hd.RmG k X.A) : OpR X (compareOp .NotEq) (rNeU K) := by subst e; exact op_neU (hu64 hr)
theorem ko_in (e : X.K = K) : OpR X (compareOp .In) (rIn K false) := by subst e; exact op_in_seq
theorem ko_notIn (e : X.K = K) : OpR X (compareOp .NotIn) (rIn K true) := by subst e; exact op_notIn_seq
theorem ki_seq (e : X.K = K) : IxR X (rIx K) := by subst e; exact ix_seq
theorem ks_U (e : X.K = K) : SlR X (rSlU K) := by subst e; exact sl_U
theorem km_tindex (e : X.K = K) : MtR X "tuple.index" (rTIx K) := by subst e; exact mt_tindex
theorem km_tcount (e : X.K = K) : MtR X "tuple.count" (rTCnt K) := by subst e; exact mt_tcount
theorem km_lcount (e : X.K = K) : MtR X "list.count" (rCntI K) := by subst e; exact mt_lcount
theorem kg_tup {es : List Expr} {k : Nat} {t : TGs} {n : Nat} {pos : Pos} (e : X.K = K) (c : X.calm = true) (h : PGs X es t) (hn : (assignEach es X.env).length = n := by rfl) (hst : (assignEach es X.env).findIdx? (·.1) = none := by rfl) : PG X (.Tuple es k pos) (gTup K n t) := by subst e; exact pg_tup c h hn hst
theorem kp_seq {tg l : Expr} {tl : TE} (e : X.K = K) (hl : PE X l tl) : PI X tg l (iSeq K tl) := by subst e; exact pi_seq hl
theorem kp_enum {e : Expr} {ta : TA} {p pos tpos : Pos} {elts : List Expr} {kk : Nat} (eK : X.K = K) (hg : Gl X "enumerate") (hm : X.mg "enumerate" = none) (ha : PA X [e] ta) (hs : starEach [e] X.env = [(false, eval e X.env)] := by rfl) :
    PI X (.Tuple elts kk tpos) (.Call (.Name "enumerate" p) [e] [] pos) (iEnumU K ta) := by subst eK; exact pi_enumU hg hm ha hs
theorem kp_zip {e e2 : Expr} {ta : TA} {p pos tpos : Pos} {elts : List Expr} {kk : Nat} (eK : X.K = K) (hg : Gl X "zip") (hm : X.mg "zip" = none) (ha : PA X [e, e2] ta)
    (hs : starEach [e, e2] X.env = (false, eval e X.env) :: starEach [e2] X.env := by rfl) (hpl : (backTo pos (starEach [e2] X.env)).any (·.1) = false := by rfl) : PI X (.Tuple elts kk tpos) (.Call (.Name "zip" p) [e, e2] [] pos) (iZipU K ta) := by subst eK; exact pi_zipU hg hm ha hs hpl
theorem ka_star {e : Expr} {es : List Expr} {te : TE} {t : TA} {p : Pos} (eK : X.K = K) (he : PE X e te) (hr : PA X es t) (hs : starEach (.Starred e p :: es) X.env = (true, eval e X.env) :: starEach es X.env := by rfl) : PA X (.Starred e p :: es) (StX.tStar K te t) := by subst eK; exact StX.pa_star he hr hs
theorem ke_rev {e : Expr} {te : TE} {k : Nat} {p1 p2 p3 pos : Pos} (eK : X.K = K) (he : PE X e te) : PE X (.Subscript e (.Slice none none (some (.UnaryOp .USub (.Constant (.int 1) k p1) p2)) p3) pos) (tRevL K te) := by subst eK; exact pe_revL he
theorem ke_bm {T : String} {name : Str} {id : String} {o e : Expr} {es : List Expr} {apos cpos : Pos} {r : V → List V → Hp → VK → Prop} {to : TE} {t : TA} (eK : X.K = K) (pa : PlainAttrs T) (slot : Slot T name id) (kind : typeOf (.builtin id) = pure (.type "method_descriptor")) (hm : MtR X id r) (ho : PE X o to) (ha : PA X (e :: es) t)
    (b1 : attributeBase o name X.env (eval o X.env) = eval o X.env := by rfl)
    (b2 : ((backTo cpos (starEach (e :: es) X.env)).all (fun x => !x.1) && (backToKw cpos (keywordEach [] X.env)).all (fun x => x.1.isSome) && decide ((e :: es).length + ([] : List Keyword).length + (if ([] : List Keyword).isEmpty then 0 else 1) < 30)) = true := by rfl)
    (b3 : (apos.endLine == cpos.line) = true := by rfl) (b4 : starEach (e :: es) X.env = (false, eval e X.env) :: starEach es X.env := by rfl) (b5 : (backTo cpos (starEach es X.env)).any (·.1) = false := by rfl) :
    PE X (.Call (.Attribute o name apos) (e :: es) [] cpos) (tBM K T r to t) := by subst eK; exact pe_bm pa slot kind hm ho ha b1 b2 b3 b4 b5
end
end FW
end
section
set_option linter.all false
set_option maxRecDepth 100000
set_option maxHeartbeats 4000000
/-! Rows told by a function of the place; what is walked, told so. -/
namespace FW
open PySem PySem.Spec PyProof.Rows L2
section
variable {α : Type}
abbrev tab (n : Nat) (f : Nat → α) : List α := (List.range n).map f
theorem tab_len {n : Nat} {f : Nat → α} : (tab n f).length = n := by simp
theorem tab_get {n i : Nat} {f : Nat → α} (h : i < n) : (tab n f)[i]? = some (f i) := by simp [h]
theorem ixN_nat {n i : Nat} (h : i < n) : ixN n (i : Int) = some i := by
  unfold ixN
  rw [if_pos (by omega), if_pos (by omega), Int.toNat_natCast]
theorem ixN_int {n : Nat} {i : Int} {k : Nat} (e : i = k) (h : k < n) : ixN n i = some k := by rw [e]; exact ixN_nat h
theorem ixN_neg {n : Nat} (h : 0 < n) : ixN n (-1) = some (n - 1) := by
  unfold ixN
  rw [if_neg (by omega), if_pos (by omega)]
  congr 1
  omega
theorem at_of {xs : List α} {i : Int} {k : Nat} {x : α} (e : i = k) (h : xs[k]? = some x) : atI xs i = some x := by
  unfold atI
  rw [ixN_int e (List.getElem?_eq_some_iff.mp h).1]
  exact h
theorem at_tab {n : Nat} {f : Nat → α} {i : Int} (k : Nat) (h : k < n) (e : i = k) : atI (tab n f) i = some (f k) := at_of e (tab_get h)
theorem at_last {n : Nat} {f : Nat → α} : atI (tab (n + 1) f) (-1) = some (f n) := by
  unfold atI
  rw [tab_len, ixN_neg (by omega)]
  show (tab (n + 1) f)[n + 1 - 1]? = _
  rw [Nat.add_sub_cancel]
  exact tab_get (by omega)
theorem at_lastL {xs : List α} {x : α} (h : xs[xs.length - 1]? = some x) : atI xs (-1) = some x := by
  unfold atI
  have := (List.getElem?_eq_some_iff.mp h).1
  rw [ixN_neg (by omega)]
  exact h
theorem at_snoc {xs : List α} {x : α} : atI (xs ++ [x]) (-1) = some x := at_lastL (by simp)
theorem tab_congr {n : Nat} {f g : Nat → α} (h : ∀ i, i < n → f i = g i) : tab n f = tab n g := List.map_congr_left fun i hi => h i (List.mem_range.mp hi)
theorem tab_ext {n : Nat} {f : Nat → α} {xs : List α} (hl : xs.length = n) (h : ∀ i, i < n → xs[i]? = some (f i)) : xs = tab n f := by
  refine List.ext_getElem? fun i => ?_
  by_cases hi : i < n
  · rw [h i hi, tab_get hi]
  · rw [List.getElem?_eq_none (by omega), List.getElem?_eq_none (by rw [tab_len]; omega)]
theorem tab_snoc {n : Nat} {f : Nat → α} : tab n f ++ [f n] = tab (n + 1) f := by
  unfold tab
  rw [List.range_succ, List.map_append]; rfl
theorem tab_take {n k : Nat} {f : Nat → α} (h : k ≤ n) : (tab n f).take k = tab k f := tab_ext (by rw [List.length_take, tab_len]; omega) fun i hi => by
  rw [List.getElem?_take_of_lt hi]; exact tab_get (by omega)
theorem tab_drop {n k : Nat} {f : Nat → α} : (tab n f).drop k = tab (n - k) fun i => f (k + i) := tab_ext (by rw [List.length_drop, tab_len]) fun i hi => by
  rw [List.getElem?_drop]; exact tab_get (by omega)
theorem tab_set {n i : Nat} {f : Nat → α} {v : α} : (tab n f).set i v = tab n fun j => if j = i then v else f j := tab_ext (by rw [List.length_set, tab_len]) fun j hj => by
  by_cases e : j = i
  · subst e
    rw [List.getElem?_set_self (by rw [tab_len]; exact hj), if_pos rfl]
  · rw [List.getElem?_set_ne (Ne.symm e), if_neg e]; exact tab_get hj
theorem tab_app {a b : Nat} {f g : Nat → α} : tab a f ++ tab b g = tab (a + b) fun i => if i < a then f i else g (i - a) := tab_ext (by simp) fun i hi => by
  by_cases h : i < a
  · rw [List.getElem?_append_left (by rw [tab_len]; exact h), if_pos h]; exact tab_get h
  · rw [List.getElem?_append_right (by rw [tab_len]; omega), if_neg h, tab_len]; exact tab_get (by omega)
theorem tab_cons {n : Nat} {x : α} {f : Nat → α} : x :: tab n f = tab (n + 1) fun i => match i with | 0 => x | i + 1 => f i := tab_ext (by simp) fun i hi => by
  cases i with
  | zero => rfl
  | succ i => rw [List.getElem?_cons_succ]; exact tab_get (by omega)
theorem tab_rev {n : Nat} {f : Nat → α} : (tab n f).reverse = tab n fun i => f (n - 1 - i) := tab_ext (by rw [List.length_reverse, tab_len]) fun i hi => by
  rw [List.getElem?_reverse (by rw [tab_len]; exact hi), tab_len]; exact tab_get (by omega)
theorem tab_rep {n : Nat} {x : α} : List.replicate n x = tab n fun _ => x := tab_ext (by simp) fun i hi => by simp [hi]
theorem tab_of {xs : List α} (d : α) : xs = tab xs.length fun i => xs.getD i d := tab_ext rfl fun i hi => by
  rw [List.getD_eq_getElem?_getD, List.getElem?_eq_getElem hi]; rfl
theorem tab_map {β : Type} {n : Nat} {f : Nat → α} {g : α → β} : (tab n f).map g = tab n fun i => g (f i) := by
  unfold tab
  rw [List.map_map]; rfl
theorem tab_mem {n : Nat} {f : Nat → α} {x : α} : x ∈ tab n f ↔ ∃ i, i < n ∧ f i = x := by simp
theorem tab_zip {β : Type} {n : Nat} {f : Nat → α} {g : Nat → β} : (tab n f).zip (tab n g) = tab n fun i => (f i, g i) := tab_ext (by simp) fun i hi => List.getElem?_zip_eq_some.mpr ⟨tab_get hi, tab_get hi⟩
theorem tab_zipIdx {n : Nat} {f : Nat → α} : (tab n f).zipIdx = tab n fun i => (f i, i) := tab_ext (by simp) fun i hi => by
  rw [List.getElem?_zipIdx, tab_get hi]; simp
theorem zipIdx_map {β : Type} (f : α → β) (xs : List α) : (xs.map f).zipIdx = xs.zipIdx.map fun p => (f p.1, p.2) := by
  refine List.ext_getElem? fun i => ?_
  rw [List.getElem?_zipIdx, List.getElem?_map, List.getElem?_map, List.getElem?_zipIdx]
  cases xs[i]? <;> rfl
theorem rg_get {n i a : Nat} (h : (List.range n)[i]? = some a) : i < n ∧ i = a := by
  obtain ⟨h1, h2⟩ := List.getElem?_eq_some_iff.mp h
  rw [List.getElem_range] at h2
  exact ⟨by simpa using h1, h2⟩
theorem cellEq {β : Type} {p : β} {a b : α} {r : List (β × α)} (h : a = b) : (p, a) :: r = (p, b) :: r := by rw [h]
theorem mem0 {x : α} {xs : List α} : x ∈ x :: xs := List.mem_cons_self
theorem mem1 {x y : α} {xs : List α} : x ∈ y :: x :: xs := List.mem_cons_of_mem _ List.mem_cons_self
theorem mem2 {x y z : α} {xs : List α} : x ∈ y :: z :: x :: xs := List.mem_cons_of_mem _ mem1
end
/-! ### data -/
abbrev dN (x : Nat) : PD := .int (x : Int)
abbrev dNs (l : List Nat) : List PD := l.map dN
theorem dNs_ints (l : List Nat) : dNs l = (l.map fun x : Nat => (x : Int)).map PyData.int := by rw [List.map_map]; rfl
/-- a house of n things, m floors of r j rooms -/
abbrev dHouse (n m : Nat) (r : Nat → Nat) : PD := .tuple [dN n, .tuple (tab m fun j => dN (r j))]
abbrev dRow (n : Nat) (f : Nat → Int) : PD := .tuple (tab n fun d => .int (f d))
abbrev dWs (n m : Nat) (W : Nat → Nat → Int) : PD := .tuple (tab m fun j => dRow (n + 1) (W j))
abbrev dKn (n m : Nat) (K : FK.Kn) : PD := .tuple [.tuple (dNs K.order), dWs n m K.W]
abbrev dSt (n : Nat) (st : Nat → Nat) : PD := .tuple (tab n fun y => dN (st y))
abbrev dAsk (x i : Nat) : PD := .tuple [.str "ask", dN x, dN i]
section
variable {C : Cn} {G : List Sl} {ms : Ms} {te ta tb : TE} {tr : TA} {s t : Sl}
theorem ev_d {i : Nat} {d : PD} (h : G[i]? = some (.dat d)) : Ev C (tVar i) G ms (.dat d) := ev_var h nofun
theorem ev_m {i : Nat} {l : Addr} (h : G[i]? = some (.ml l)) : Ev C (tVar i) G ms (.ml l) := ev_var h nofun
theorem ev_w {i : Nat} {v : V} (h : G[i]? = some (.val v)) : Ev C (tVar i) G ms (.val v) := ev_var h nofun
theorem ev_tup0 : Ev C (tTupN tNil) G ms (.dat (.tuple [])) := ev_tup (ds := []) ea_nil (by simp)
theorem ev_tup1 {d1 : PD} (h : EvA C tr G ms [.dat d1]) : Ev C (tTupN tr) G ms (.dat (.tuple [d1])) := ev_tup (ds := [d1]) h (by simp)
theorem ev_tup2 {d1 d2 : PD} (h : EvA C tr G ms [.dat d1, .dat d2]) : Ev C (tTupN tr) G ms (.dat (.tuple [d1, d2])) := ev_tup (ds := [d1, d2]) h (by simp)
theorem ev_tup3 {d1 d2 d3 : PD} (h : EvA C tr G ms [.dat d1, .dat d2, .dat d3]) : Ev C (tTupN tr) G ms (.dat (.tuple [d1, d2, d3])) := ev_tup (ds := [d1, d2, d3]) h (by simp)
theorem el_nil : EvL C (tLst tNil) G ms [] := el_lst (ds := []) ea_nil (by simp)
theorem el_one {d1 : PD} (h : EvA C tr G ms [.dat d1]) : EvL C (tLst tr) G ms [d1] := el_lst (ds := [d1]) h (by simp)
theorem Pst.go {σ : L2.St} {H : Hp} {u : TS} {D : Ends} (h : Pst C G ms σ H) (k : Tr C G ms u D) : u D σ H := k σ H h
/-! parts of a row -/
theorem cut_fromX {α : Type} {xs : List α} {f : α → PD} {k : Nat} : cutD (xs.map f) (some (k : Int)) none = (xs.drop k).map f := by rw [cutD_from, List.map_drop]
theorem cut_toX {α : Type} {xs : List α} {f : α → PD} {k : Nat} : cutD (xs.map f) none (some (k : Int)) = (xs.take k).map f := by rw [cutD_to, List.map_take]
theorem cut_from {n k : Nat} {f : Nat → PD} : cutD (tab n f) (some (k : Int)) none = tab (n - k) fun i => f (k + i) := by rw [cutD_from, tab_drop]
theorem cut_to {n k : Nat} {f : Nat → PD} (h : k ≤ n) : cutD (tab n f) none (some (k : Int)) = tab k f := by rw [cutD_to, tab_take h]
theorem ev_slFromX {α : Type} {xs : List α} {f : α → PD} {k : Nat} (h : Ev C te G ms (.dat (.tuple (xs.map f)))) (hk : Ev C ta G ms (dI k)) : Ev C (tSl (rSlU C.K) te (tPart ta) tNoPart) G ms (.dat (.tuple ((xs.drop k).map f))) := (ev_slT h (eo_some hk) eo_none).is (by rw [cut_fromX])
theorem ev_slToX {α : Type} {xs : List α} {f : α → PD} {k : Nat} (h : Ev C te G ms (.dat (.tuple (xs.map f)))) (hk : Ev C ta G ms (dI k)) : Ev C (tSl (rSlU C.K) te tNoPart (tPart ta)) G ms (.dat (.tuple ((xs.take k).map f))) := (ev_slT h eo_none (eo_some hk)).is (by rw [cut_toX])
theorem ev_slFrom {n k : Nat} {f : Nat → PD} (h : Ev C te G ms (.dat (.tuple (tab n f)))) (hk : Ev C ta G ms (dI k)) : Ev C (tSl (rSlU C.K) te (tPart ta) tNoPart) G ms (.dat (.tuple (tab (n - k) fun i => f (k + i)))) := (ev_slT h (eo_some hk) eo_none).is (by rw [cut_from])
theorem ev_slTo {n k : Nat} {f : Nat → PD} (h : Ev C te G ms (.dat (.tuple (tab n f)))) (hk : Ev C ta G ms (dI k)) (hn : k ≤ n) : Ev C (tSl (rSlU C.K) te tNoPart (tPart ta)) G ms (.dat (.tuple (tab k f))) := (ev_slT h eo_none (eo_some hk)).is (by rw [cut_to hn])
theorem ev_slG {tl th : TO} {ds es : List PD} {lo hi : Option Int} (h : Ev C te G ms (.dat (.tuple ds))) (hl : EvO C tl G ms lo) (hh : EvO C th G ms hi) (e : cutD ds lo hi = es) : Ev C (tSl (rSlU C.K) te tl th) G ms (.dat (.tuple es)) := e ▸ ev_slT h hl hh
theorem el_slLFromX {α : Type} {xs : List α} {f : α → PD} {k : Nat} (h : Ev C te G ms (.dat (.list (xs.map f)))) (hk : Ev C ta G ms (dI k)) : EvL C (tSl (rSlU C.K) te (tPart ta) tNoPart) G ms ((xs.drop k).map f) := (el_slL h (eo_some hk) eo_none).is cut_fromX
theorem el_slLToX {α : Type} {xs : List α} {f : α → PD} {k : Nat} (h : Ev C te G ms (.dat (.list (xs.map f)))) (hk : Ev C ta G ms (dI k)) : EvL C (tSl (rSlU C.K) te tNoPart (tPart ta)) G ms ((xs.take k).map f) := (el_slL h eo_none (eo_some hk)).is cut_toX
theorem el_slLFrom {n k : Nat} {f : Nat → PD} (h : Ev C te G ms (.dat (.list (tab n f)))) (hk : Ev C ta G ms (dI k)) : EvL C (tSl (rSlU C.K) te (tPart ta) tNoPart) G ms (tab (n - k) fun i => f (k + i)) := (el_slL h (eo_some hk) eo_none).is cut_from
theorem el_slMFrom {n k : Nat} {l : Addr} {f : Nat → PD} (h : Ev C te G ms (.ml l)) (hm : (l, tab n f) ∈ ms) (hk : Ev C ta G ms (dI k)) : EvL C (tSl (rSlU C.K) te (tPart ta) tNoPart) G ms (tab (n - k) fun i => f (k + i)) := (el_slM h hm (eo_some hk) eo_none).is cut_from
theorem rc_lenTT {n : Nat} {f : Nat → PD} : Rc C (rLenQ C.K) [.dat (.tuple (tab n f))] G ms (dI n) := by
  have := rc_lenT (C := C) (G := G) (ms := ms) (ds := tab n f)
  rw [tab_len] at this
  exact this
theorem rc_lenLT {n : Nat} {f : Nat → PD} : Rc C (rLenQ C.K) [.dat (.list (tab n f))] G ms (dI n) := by
  have := rc_lenL (C := C) (G := G) (ms := ms) (ds := tab n f)
  rw [tab_len] at this
  exact this
/-- .. of a row -/
theorem src_enumT {n : Nat} {f : Nat → PD} (h : EvA C tr G ms [s]) (hd : SeqD s (tab n f)) : Src C (iEnumU C.K tr) G ms [] (tab n fun k => PyData.tuple [dN k, f k]) := by
  have := src_enum h hd
  rw [tab_zipIdx, tab_map] at this
  exact this
theorem src_enumX {α : Type} {xs : List α} {f : α → PD} (h : EvA C tr G ms [s]) (hd : SeqD s (xs.map f)) : Src C (iEnumU C.K tr) G ms [] (xs.zipIdx.map fun p => PyData.tuple [dN p.2, f p.1]) := by
  have := src_enum h hd
  rw [zipIdx_map, List.map_map] at this
  exact this
theorem src_zipT {n : Nat} {f g : Nat → PD} (h : EvA C tr G ms [s, t]) (hs : SeqD s (tab n f)) (ht : SeqD t (tab n g)) : Src C (iZipU C.K tr) G ms [] (tab n fun k => PyData.tuple [f k, g k]) := by
  have := src_zip h hs ht
  rw [tab_zip, tab_map] at this
  exact this
theorem src_zipX {α β : Type} {xs : List α} {ys : List β} {f : α → PD} {g : β → PD} (h : EvA C tr G ms [s, t]) (hs : SeqD s (xs.map f)) (ht : SeqD t (ys.map g)) : Src C (iZipU C.K tr) G ms [] ((xs.zip ys).map fun p => PyData.tuple [f p.1, g p.2]) := by
  have := src_zip h hs ht
  rw [List.zip_map, List.map_map] at this
  exact this
theorem src_range {n : Nat} (h : EvA C tr G ms [dN n |> Sl.dat]) (hn : n ≤ 100000) : Src C (iRng1 tr) G ms [] (tab n dN) := src_range1 (n := n) h (by omega)
theorem src_r2 {a b : Nat} (h : EvA C tr G ms [dI a, dI b]) (hn : a ≤ 100000 ∧ b ≤ 100000) : Src C (iRng2 tr) G ms [] (tab (b - a) fun k => dN (a + k)) := by
  have := src_range2 (C := C) h (by omega)
  have e : ((b : Int) - (a : Int)).toNat = b - a := by omega
  rw [e] at this
  refine (congrArg (fun z => Src C (iRng2 tr) G ms [] z) ?_).mp this
  exact tab_congr fun k _ => by show PyData.int _ = PyData.int _; congr 1
theorem src_dn {n : Nat} (h : EvA C tr G ms [dI ((n : Int) - 1), dI (-1), dI (-1)]) (hn : n ≤ 100000) : Src C (iRng3 tr) G ms [] (tab n fun k => dN (n - 1 - k)) := by
  have := src_down h hn
  refine (congrArg (fun z => Src C (iRng3 tr) G ms [] z) ?_).mp this
  exact tab_congr fun k hk => by show PyData.int _ = PyData.int _; congr 1; omega
theorem src_zipM {n m : Nat} {f g : Nat → PD} (h : EvA C tr G ms [s, t]) (hs : SeqD s (tab m f)) (ht : SeqD t (tab n g)) (hn : n ≤ m) : Src C (iZipU C.K tr) G ms [] (tab n fun k => PyData.tuple [f k, g k]) := by
  have := src_zip h hs ht
  have e : (tab m f).zip (tab n g) = tab n fun k => (f k, g k) := tab_ext (by simp; omega) fun i hi => List.getElem?_zip_eq_some.mpr ⟨tab_get (by omega), tab_get hi⟩
  rw [e, tab_map] at this
  exact this
end
section
variable {K : PySem.W.Frag} {B : Option Addr} {F0 H0 Fl : Hp} {G : List Sl} {ms : Ms} {wi : TI} {g : TG} {tb : TS} {D : Ends}
/-- for over a row: the word Inv by the turn -/
theorem t_forT {n : Nat} {enc : Nat → PD} (hs : Src ⟨K, B, F0, H0, Fl⟩ wi G ms [] (tab n enc)) (Inv : Nat → List Sl → Ms → Prop) (h0 : Inv 0 G ms)
    (turn : ∀ i, i < n → ∀ Fl' G ms, Inv i G ms → TgT ⟨K, B, F0, H0, Fl'⟩ g (.dat (enc i)) G ms fun σ H => tb { D with nx := Pinv ⟨K, B, F0, H0, Fl'⟩ (Inv (i + 1)), ct := Pinv ⟨K, B, F0, H0, Fl'⟩ (Inv (i + 1)), bk := D.nx } σ H)
    (done : ∀ G ms, Inv n G ms → ∀ σ H, Pst ⟨K, B, F0, H0, Fl⟩ G ms σ H → D.nx σ H) : Tr ⟨K, B, F0, H0, Fl⟩ G ms (tFor wi g tb) D :=
  t_for hs Inv h0 (fun i a hi => by obtain ⟨h1, rfl⟩ := rg_get hi; exact turn i h1) (by rw [List.length_range]; exact done)
end
end FW
end
section
set_option linter.all false
set_option maxRecDepth 100000
set_option maxHeartbeats 4000000
/-! Plain nested data: its form, its depth, its text. -/
namespace FW
open PySem PySem.Spec PyProof.Rows L2
structure Sh (k : Nat) (d : PD) : Prop where
  lay : d.canLay0 = true
  dep : d.depth ≤ k
theorem sh_all : ∀ {ds : List PD} {k : Nat}, (∀ d ∈ ds, Sh k d) → PyData.canLayAll0 ds = true ∧ PyData.depthAll ds ≤ k
  | [], k, _ => ⟨by simp [PyData.canLayAll0], by simp [PyData.depthAll]⟩
  | d :: ds, k, h => by
    have h1 := h d (by simp)
    have h2 := sh_all (ds := ds) (k := k) fun e he => h e (by simp [he])
    refine ⟨by simp [PyData.canLayAll0, h1.lay, h2.1], ?_⟩
    have := h1.dep
    have := h2.2
    simp only [PyData.depthAll]
    omega
theorem sh_tup {ds : List PD} {k : Nat} (h : ∀ d ∈ ds, Sh k d) : Sh (k + 1) (.tuple ds) := by
  have := sh_all h
  exact ⟨by simp [PyData.canLay0, this.1], by simp only [PyData.depth]; omega⟩
theorem sh_lst {ds : List PD} {k : Nat} (h : ∀ d ∈ ds, Sh k d) : Sh (k + 1) (.list ds) := by
  have := sh_all h
  exact ⟨by simp [PyData.canLay0, this.1], by simp only [PyData.depth]; omega⟩
theorem sh_int {k : Nat} (i : Int) : Sh k (.int i) := ⟨by simp [PyData.canLay0], by simp [PyData.depth]⟩
theorem Sh.ok {k : Nat} {d : PD} (h : Sh k d) (hk : k ≤ 64) : SeqAt.shaped d = true := by
  unfold SeqAt.shaped
  rw [h.lay, decide_eq_true (Nat.le_trans h.dep hk)]; rfl
theorem Sh.refl {k : Nat} {d : PD} (h : Sh k d) : PyData.eqv d d = true := SeqAt.eqv_refl d h.lay
theorem sh_tab {n k : Nat} {f : Nat → PD} (h : ∀ i, i < n → Sh k (f i)) : ∀ d ∈ tab n f, Sh k d := fun d hd => by
  obtain ⟨i, hi, rfl⟩ := tab_mem.mp hd
  exact h i hi
theorem sh_map {α : Type} {k : Nat} {f : α → PD} {xs : List α} (h : ∀ a ∈ xs, Sh k (f a)) : ∀ d ∈ xs.map f, Sh k d := fun d hd => by
  obtain ⟨a, ha, rfl⟩ := List.mem_map.mp hd
  exact h a ha
theorem sh_row {n : Nat} {f : Nat → Int} : Sh 1 (dRow n f) := sh_tup (sh_tab fun i _ => sh_int _)
theorem sh_st {n : Nat} {f : Nat → Nat} : Sh 1 (dSt n f) := sh_tup (sh_tab fun i _ => sh_int _)
theorem sh_ns {l : List Nat} : Sh 1 (.tuple (dNs l)) := sh_tup (sh_map fun i _ => sh_int _)
theorem sh_nil {k : Nat} : Sh (k + 1) (.list []) := sh_lst fun d hd => by simp at hd
theorem sh_nilT {k : Nat} : Sh (k + 1) (.tuple []) := sh_tup fun d hd => by simp at hd
section
variable {C : Cn} {G : List Sl} {ms : Ms}
theorem rc_lenN {ds : List PD} {n : Nat} (h : ds.length = n) : Rc C (rLenQ C.K) [.dat (.tuple ds)] G ms (dI n) := h ▸ rc_lenT
theorem rc_lenNL {ds : List PD} {n : Nat} (h : ds.length = n) : Rc C (rLenQ C.K) [.dat (.list ds)] G ms (dI n) := h ▸ rc_lenL
theorem Pst.mse {ms' : Ms} {σ : L2.St} {H : Hp} (h : Pst C G ms σ H) (e : ms = ms') : Pst C G ms' σ H := e ▸ h
theorem Pst.gse {G' : List Sl} {σ : L2.St} {H : Hp} (h : Pst C G ms σ H) (e : G = G') : Pst C G' ms σ H := e ▸ h
theorem hw0 {ms : Ms} : ∀ q ∈ ([] : Ms), q ∈ ms := fun q h => by simp at h
theorem rv_inG {l : List Nat} {x : Nat} {neg : Bool} : Rv C (rIn C.K neg) (dI x) (.dat (.list (dNs l))) G ms (dB (if neg then !l.contains x else l.contains x)) := by
  have := rv_inL (C := C) (G := G) (ms := ms) (neg := neg) (ns := l.map fun x : Nat => (x : Int)) (i := x)
  rw [← dNs_ints] at this
  have e : decide ((x : Int) ∈ l.map fun x : Nat => (x : Int)) = l.contains x := by
    rw [Bool.eq_iff_iff, decide_eq_true_iff, List.contains_iff_mem, List.mem_map]
    exact ⟨fun ⟨y, hy, e⟩ => by obtain rfl : y = x := by omega
                                exact hy, fun h => ⟨x, h, rfl⟩⟩
  rw [e] at this
  exact this
theorem rv_inN {l : List Nat} {x : Nat} : Rv C (rIn C.K false) (dI x) (.dat (.list (dNs l))) G ms (dB (l.contains x)) := rv_inG
theorem rv_notInN {l : List Nat} {x : Nat} : Rv C (rIn C.K true) (dI x) (.dat (.list (dNs l))) G ms (dB (!l.contains x)) := rv_inG
end
end FW
end
section
set_option linter.all false
set_option maxRecDepth 100000
set_option maxHeartbeats 4000000
/-! The text of plain nested data is short. -/
namespace FW
open PySem PySem.Spec PyProof.Rows L2
structure Sm (L : Nat) (d : PD) : Prop where
  s : d.showable = true
  n : d.hasDict = false
  l : d.shown.length ≤ L
theorem sm_all : ∀ {ds : List PD} {L : Nat}, (∀ d ∈ ds, Sm L d) → PyData.showableAll ds = true ∧ PyData.hasDictAll ds = false ∧ piled (PyData.shownAll ds) ≤ ds.length * (L + 2)
  | [], L, _ => ⟨by simp [PyData.showableAll], by simp [PyData.hasDictAll], by simp [PyData.shownAll, piled]⟩
  | d :: ds, L, h => by
    have h1 := h d (by simp)
    have h2 := sm_all (ds := ds) (L := L) fun e he => h e (by simp [he])
    refine ⟨by simp [PyData.showableAll, h1.s, h2.1], by simp [PyData.hasDictAll, h1.n, h2.2.1], ?_⟩
    have a1 := h1.l
    have a2 := h2.2.2
    rw [List.length_cons, Nat.succ_mul]
    show piled (PyData.shown d :: PyData.shownAll ds) ≤ _
    rw [piled_cons]
    omega
theorem sm_tup {ds : List PD} {L M : Nat} (h : ∀ d ∈ ds, Sm L d) (hM : ds.length * (L + 2) + 4 ≤ M) : Sm M (.tuple ds) := by
  obtain ⟨h1, h2, h3⟩ := sm_all h
  refine ⟨by simp [PyData.showable, h1], by simp [PyData.hasDict, h2], ?_⟩
  simp only [PyData.shown]
  refine Nat.le_trans ?_ hM
  unfold tupleText
  have e1 : (Str.join ", " (PyData.shownAll ds)).length ≤ piled (PyData.shownAll ds) := by
    by_cases e : PyData.shownAll ds = []
    · rw [e]; exact Nat.zero_le _
    · have := join_length_add (PyData.shownAll ds) e
      omega
  have e2 : ((if (PyData.shownAll ds).length == 1 then ",)" else ")" : String) : Str).length ≤ 2 := by
    split <;> decide
  rw [strLen_append, strLen_append]
  have e3 : ("(" : Str).length = 1 := rfl
  omega
theorem sm_nat : ∀ {x : Nat}, x ≤ 200 → Sm 20 (dN x) := by
  have h : ∀ x : Fin 201, PyData.showable (dN x.1) = true ∧ (dN x.1).shown.length ≤ 20 := by decide +kernel
  intro x hx
  obtain ⟨h1, h2⟩ := h ⟨x, by omega⟩
  exact ⟨h1, by simp [PyData.hasDict], h2⟩
theorem sm_ask : Sm 20 (.str "ask") := ⟨by simp [PyData.showable], by simp [PyData.hasDict], by decide +kernel⟩
theorem sh_ask {k : Nat} : Sh k (.str "ask") := ⟨by decide +kernel, by simp [PyData.depth]⟩
theorem sm_mono {L M : Nat} {d : PD} (h : Sm L d) (e : L ≤ M) : Sm M d := ⟨h.s, h.n, Nat.le_trans h.l e⟩
end FW
end
section
set_option linter.all false
set_option maxRecDepth 100000
set_option maxHeartbeats 4000000
/-! The defs of the program, one behind another. -/
namespace FW
open PySem PySem.Spec PyProof.Rows L2
section
variable {P : Program} {w : World} {K : PySem.W.Frag} {mg : Str → Option Value} {base : Heap}
abbrev N_rooms_within : List Str := ["house", "found", "rooms", "more"]
abbrev P_rooms_within : List Str := ["house"]
theorem sc_rooms_within : FnScope N_rooms_within P_rooms_within (defScope (Hd.top 5)) := ⟨rfl, rfl, rfl, by decide +kernel, rfl, by decide +kernel, by decide +kernel⟩
abbrev Ok_rooms_within (P : Program) (w : World) (K : PySem.W.Frag) (mg : Str → Option Value) (base : Heap) : Prop := Hd.OkF P w K mg base 1 "rooms_within" P_rooms_within (Pr K (α := Nat × Nat × (Nat → Nat)) (fun a => [dHouse a.1 a.2.1 a.2.2]) (fun a => a.2.1 ≤ 100) (fun a => dRow a.2.1 (FK.RW a.2.2)))
theorem ok_rooms_within (Y : Hd.Ok K mg) : Ok_rooms_within P w K mg base := by
  refine mkPr (i := 0) (j := 5) (k := 0) Y rfl rfl sc_rooms_within (fun _ _ _ _ _ _ us hl => match us, hl with | [_], _ => rfl) 3 rfl (fun _ => rfl) fun cdv A' outer s H E hr => ⟨_, (pss_cons (ps_par (i := 1) (j := 2) rfl sc_rooms_within.nd rfl rfl (by decide) rfl rfl (pa_cons (pe_lst pa_nil) (pa_cons pe_int pa_nil)) (by rfl)) (pss_cons (ps_for PassesOwn.never rfl (kp_seq (K := K) rfl (pe_ix (ki_seq (K := K) rfl) (pv 0) pe_int (fun _ _ => rfl))) (pg_name (i := 3) sc_rooms_within.nd rfl (Or.inl rfl)) (pss_cons (ps_aug (i := 2) sc_rooms_within.nd rfl (Or.inl rfl) (pv 3) ip_add) (pss_one (ps_expr (ke_bm (K := K) rfl PySem.F.plainAttrs_list PySem.F.slot_list_append PySem.F.type_list_append mt_append (pv 1) (pa_cons (pv 2) pa_nil)))))) (pss_one (ps_ret (pe_callTy (kc_tup (K := K) rfl) (by rfl) (Y.free 80) bt_tuple (pa_cons (pv 1) pa_nil)))))), fun ⟨n, m, r⟩ F0 H0 Q hp hQ => ?_⟩
  have hm : m ≤ 100 := hp
  refine t_seq (t_par (ees_cons (ee_l el_nil) (ees_cons (ee_d ev_int) ees_nil)) fun p => ⟨_, _, rfl, fun σ H h => h.go ?_⟩)
  refine t_seq (t_forT (src_t (ev_op (ev_d rfl) ev_int (rv_ixT (at_of (k := 1) rfl rfl)))) (fun i G ms => G = [.dat (dHouse n m r), .ml p, dI (if i = 0 then 0 else FK.RW r (i - 1)), .un] ∧ ms = [(p, tab i fun j => PyData.int (FK.RW r j))]) ⟨rfl, rfl⟩ ?_ ?_)
  · rintro i hi Fl G ms ⟨rfl, rfl⟩
    refine tg_name fun σ H h => h.go ?_
    refine t_seq (t_aug rfl (ev_d rfl) fun σ H h => h.go ?_)
    have e : (if i = 0 then 0 else FK.RW r (i - 1)) + (r i : Int) = FK.RW r i := by
      cases i with
      | zero => simp [FK.RW]
      | succ i => simp [FK.RW]
    rw [e]
    refine t_appD (ev_m rfl) (ev_d rfl) (k := 0) rfl (by simp; omega) fun σ H h => ?_
    exact (h.forget (.keep _ (.keep _ (.keep _ (.drop _ .nil))))).inv ⟨by simp, by rw [← tab_snoc]; rfl⟩
  · rintro G ms ⟨rfl, rfl⟩ σ H h
    refine h.go (t_retD (ev_cb (ea_cons (ev_m rfl) ea_nil) (rc_tupM mem0)) hQ)
end
end FW
end
section
set_option linter.all false
set_option maxRecDepth 100000
set_option maxHeartbeats 4000000
namespace FW
open PySem PySem.Spec PyProof.Rows L2
section
variable {P : Program} {w : World} {K : PySem.W.Frag} {mg : Str → Option Value} {base : Heap}
abbrev N_things_within : List Str := ["house", "state", "floor", "thing", "place"]
abbrev P_things_within : List Str := ["house", "state", "floor"]
theorem sc_things_within : FnScope N_things_within P_things_within (defScope (Hd.top 7)) := ⟨rfl, rfl, rfl, by decide +kernel, rfl, by decide +kernel, by decide +kernel⟩
abbrev Ok_things_within (P : Program) (w : World) (K : PySem.W.Frag) (mg : Str → Option Value) (base : Heap) : Prop := Hd.OkF P w K mg base 1 "things_within" P_things_within (Pr K (α := Nat × Nat × (Nat → Nat) × (Nat → Nat) × Nat) (fun a => [dHouse a.1 a.2.1 a.2.2.1, dSt a.1 a.2.2.2.1, dN a.2.2.2.2]) (fun a => a.1 ≤ 1000) (fun a => .tuple (((List.range a.1).filter fun y => decide ((a.2.2.2.1 y : Int) ≤ (a.2.2.2.2 : Int))).map dN)))
theorem ok_things_within (Y : Hd.Ok K mg) : Ok_things_within P w K mg base := by
  refine mkPr (i := 2) (j := 7) (k := 0) Y rfl rfl sc_things_within (fun _ _ _ _ _ _ us hl => match us, hl with | [_, _, _], _ => rfl) 2 rfl (fun _ => rfl) fun cdv A' outer s H E hr => ⟨_, (pss_one (ps_ret (pe_callTy (kc_tup (K := K) rfl) (by rfl) (Y.free 80) bt_tuple (pa_cons (pe_lc (own := [("thing", 3), ("place", 4)]) rfl sc_things_within.nd (kp_enum (K := K) rfl (by rfl) (Y.free 68) (pa_cons (pv 1) pa_nil)) (blkOk_by (by first | (change blkC N_things_within (defScope (Hd.top 7)) _ _ = true; decide +kernel) | rfl)) (fun _ _ _ _ _ => (kg_tup (K := K) (n := 2) rfl rfl (pgs_cons (pg_name (i := 3) sc_things_within.nd rfl (Or.inl rfl)) (pgs_cons (pg_name (i := 4) sc_things_within.nd rfl (Or.inl rfl)) pgs_nil)))) (fun _ _ _ _ _ => (pts_one (pt_cmpR op_le (pv 4) (pv 2) (nomark _)))) (fun _ _ _ _ _ => (pv 3))) pa_nil)))), fun ⟨n, m, r, st, j⟩ F0 H0 Q hp hQ => ?_⟩
  change Tr ⟨K, none, F0, H0, F0⟩ [.dat (dHouse n m r), .dat (dSt n st), .dat (dN j), .un, .un] [] _ _
  have hn : n ≤ 1000 := hp
  exact t_retD (ev_cb (ea_cons (EvL.data (el_lc (fun a => decide ((st a : Int) ≤ (j : Int))) dN (src_enumT (ea_cons (ev_d rfl) ea_nil) (.t _)) (by simp) (by simp; omega) (fun a ha => tgc_2 (by simp) (by simp)) (fun a ha => (et_test (ev_op (ev_d rfl) (ev_d rfl) rv_b))) (fun a ha hp => (ev_d rfl)))) ea_nil) rc_tupL) hQ
abbrev N_sizes_of : List Str := ["house", "state", "floor"]
abbrev P_sizes_of : List Str := ["house", "state"]
theorem sc_sizes_of : FnScope N_sizes_of P_sizes_of (defScope (Hd.top 6)) := ⟨rfl, rfl, rfl, by decide +kernel, rfl, by decide +kernel, by decide +kernel⟩
abbrev Ok_sizes_of (P : Program) (w : World) (K : PySem.W.Frag) (mg : Str → Option Value) (base : Heap) : Prop := Hd.OkF P w K mg base 2 "sizes_of" P_sizes_of (Pr K (α := Nat × Nat × (Nat → Nat) × (Nat → Nat)) (fun a => [dHouse a.1 a.2.1 a.2.2.1, dSt a.1 a.2.2.2]) (fun a => a.1 ≤ 1000 ∧ a.2.1 ≤ 100) (fun a => dRow a.2.1 (FK.cw a.1 a.2.2.2)))
theorem ok_sizes_of (Y : Hd.Ok K mg) (D_things_within : Ok_things_within P w K mg base) : Ok_sizes_of P w K mg base := by
  refine mkPr (i := 1) (j := 6) (k := 1) Y rfl rfl sc_sizes_of (fun _ _ _ _ _ _ us hl => match us, hl with | [_, _], _ => rfl) 1 rfl (fun _ => rfl) fun cdv A' outer s H E hr => ⟨_, (pss_one (ps_ret (pe_callTy (kc_tup (K := K) rfl) (by rfl) (Y.free 80) bt_tuple (pa_cons (pe_lc (own := [("floor", 2)]) rfl sc_sizes_of.nd (pi_range1 (by rfl) (Y.free 75) (pa_cons (pe_callB (kc_len (K := K) rfl) (by rfl) (Y.free 71) bt_len (pa_cons (pe_ix (ki_seq (K := K) rfl) (pv 0) pe_int (fun _ _ => rfl)) pa_nil)) pa_nil)) (blkOk_by (by first | (change blkC N_sizes_of (defScope (Hd.top 6)) _ _ = true; decide +kernel) | rfl)) (fun _ _ _ _ _ => (pg_name (i := 2) sc_sizes_of.nd rfl (Or.inl rfl))) (fun _ _ _ _ _ => pts_nil) (fun _ _ _ _ _ => (pe_callB (kc_len (K := K) rfl) (by rfl) (Y.free 71) bt_len (pa_cons (Hd.pe_f D_things_within (hr.mono (by decide)) (by rfl) (pa_cons (pv 0) (pa_cons (pv 1) (pa_cons (pv 2) pa_nil)))) pa_nil)))) pa_nil)))), fun ⟨n, m, r, st⟩ F0 H0 Q hp hQ => ?_⟩
  change Tr ⟨K, none, F0, H0, F0⟩ [.dat (dHouse n m r), .dat (dSt n st), .un] [] _ _
  have hn : n ≤ 1000 := hp.1
  have hm : m ≤ 100 := hp.2
  refine t_retD (Ev.is (ev_cb (ea_cons (EvL.data (el_map _ (src_range (ea_cons (ev_cb (ea_cons (ev_op (ev_d rfl) ev_int (rv_ixT (at_of (k := 1) rfl rfl))) ea_nil) rc_lenTT) ea_nil) (by omega)) (by simp) (by simp; omega) (fun a ha => tgc_name (by simp)) (fun a ha => (ev_cb (ea_cons (ev_call ((n, m, r, st, a)) (EvA.is (ea_cons (ev_d rfl) (ea_cons (ev_d rfl) (ea_cons (ev_d rfl) ea_nil))) rfl) hn) ea_nil) rc_lenT)))) ea_nil) rc_tupL) ?_) hQ
  congr 2
  refine tab_congr fun j hj => ?_
  unfold FK.cw
  rw [List.length_map, ← List.countP_eq_length_filter]
  congr 3
  funext y
  exact decide_eq_decide.mpr (by simp)
abbrev N_known_sizes : List Str := ["knowledge", "word"]
abbrev P_known_sizes : List Str := ["knowledge"]
theorem sc_known_sizes : FnScope N_known_sizes P_known_sizes (defScope (Hd.top 9)) := ⟨rfl, rfl, rfl, by decide +kernel, rfl, by decide +kernel, by decide +kernel⟩
abbrev Ok_known_sizes (P : Program) (w : World) (K : PySem.W.Frag) (mg : Str → Option Value) (base : Heap) : Prop := Hd.OkF P w K mg base 1 "known_sizes" P_known_sizes (Pr K (α := Nat × Nat × FK.Kn) (fun a => [dKn a.1 a.2.1 a.2.2]) (fun a => a.2.1 ≤ 100) (fun a => dRow a.2.1 fun j => a.2.2.W j a.1))
theorem ok_known_sizes (Y : Hd.Ok K mg) : Ok_known_sizes P w K mg base := by
  refine mkPr (i := 3) (j := 9) (k := 0) Y rfl rfl sc_known_sizes (fun _ _ _ _ _ _ us hl => match us, hl with | [_], _ => rfl) 1 rfl (fun _ => rfl) fun cdv A' outer s H E hr => ⟨_, (pss_one (ps_ret (pe_callTy (kc_tup (K := K) rfl) (by rfl) (Y.free 80) bt_tuple (pa_cons (pe_lc (own := [("word", 1)]) rfl sc_known_sizes.nd (kp_seq (K := K) rfl (pe_ix (ki_seq (K := K) rfl) (pv 0) pe_int (fun _ _ => rfl))) (blkOk_by (by first | (change blkC N_known_sizes (defScope (Hd.top 9)) _ _ = true; decide +kernel) | rfl)) (fun _ _ _ _ _ => (pg_name (i := 1) sc_known_sizes.nd rfl (Or.inl rfl))) (fun _ _ _ _ _ => pts_nil) (fun _ _ _ _ _ => (pe_ix (ki_seq (K := K) rfl) (pv 1) (pe_un un_neg pe_int) (fun _ _ => rfl)))) pa_nil)))), fun ⟨n, m, k⟩ F0 H0 Q hp hQ => ?_⟩
  change Tr ⟨K, none, F0, H0, F0⟩ [.dat (dKn n m k), .un] [] _ _
  have hm : m ≤ 100 := hp
  exact t_retD (ev_cb (ea_cons (EvL.data (el_map _ (src_t (ev_op (ev_d rfl) ev_int (rv_ixT (at_of (k := 1) rfl rfl)))) (by simp) (by simp; omega) (fun a ha => tgc_name (by simp)) (fun a ha => (ev_op (ev_d rfl) (ev_neg ev_int) (rv_ixT at_last))))) ea_nil) rc_tupL) hQ
abbrev N_are_sizes : List Str := ["sizes", "many", "one", "other"]
abbrev P_are_sizes : List Str := ["sizes", "many"]
theorem sc_are_sizes : FnScope N_are_sizes P_are_sizes (defScope (Hd.top 10)) := ⟨rfl, rfl, rfl, by decide +kernel, rfl, by decide +kernel, by decide +kernel⟩
abbrev Ok_are_sizes (P : Program) (w : World) (K : PySem.W.Frag) (mg : Str → Option Value) (base : Heap) : Prop := Hd.OkF P w K mg base 1 "are_sizes" P_are_sizes (Pr K (α := Nat × (Nat → Int) × Int) (fun a => [dRow a.1 a.2.1, .int a.2.2]) (fun a => 0 < a.1 ∧ a.1 ≤ 100 ∧ 0 ≤ a.2.1 0 ∧ a.2.1 (a.1 - 1) ≤ a.2.2 ∧ ∀ j, j + 1 < a.1 → a.2.1 j ≤ a.2.1 (j + 1)) (fun a => .bool true))
theorem ok_are_sizes (Y : Hd.Ok K mg) : Ok_are_sizes P w K mg base := by
  refine mkPr (i := 4) (j := 10) (k := 0) Y rfl rfl sc_are_sizes (fun _ _ _ _ _ _ us hl => match us, hl with | [_, _], _ => rfl) 2 rfl (fun _ => rfl) fun cdv A' outer s H E hr => ⟨_, (pss_cons (ps_if (PW.pt (pw_or (pt_cmpR op_lt (pe_ix (ki_seq (K := K) rfl) (pv 0) pe_int (fun _ _ => rfl)) pe_int (nomark _)) (pw_or1 (pt_cmpR op_gt (pe_ix (ki_seq (K := K) rfl) (pv 0) (pe_un un_neg pe_int) (fun _ _ => rfl)) (pv 1) (nomark _))))) (pss_one (ps_ret pe_bl)) pss_nil) (pss_one (ps_ret (pe_callB (kc_all (K := K) rfl rfl) (by rfl) (Y.free 64) bt_all (pa_cons (pe_lc (own := [("one", 2), ("other", 3)]) rfl sc_are_sizes.nd (kp_zip (K := K) rfl (by rfl) (Y.free 81) (pa_cons (pv 0) (pa_cons (pe_slice (ks_U (K := K) rfl) (pv 0) (po_some pe_int) po_none) pa_nil))) (blkOk_by (by first | (change blkC N_are_sizes (defScope (Hd.top 10)) _ _ = true; decide +kernel) | rfl)) (fun _ _ _ _ _ => (kg_tup (K := K) (n := 2) rfl rfl (pgs_cons (pg_name (i := 2) sc_are_sizes.nd rfl (Or.inl rfl)) (pgs_cons (pg_name (i := 3) sc_are_sizes.nd rfl (Or.inl rfl)) pgs_nil)))) (fun _ _ _ _ _ => pts_nil) (fun _ _ _ _ _ => (pe_cmpR op_le (pv 2) (pv 3) (nomark _)))) pa_nil))))), fun ⟨m, s, N⟩ F0 H0 Q hp hQ => ?_⟩
  change Tr ⟨K, none, F0, H0, F0⟩ [.dat (dRow m s), .dat (.int N), .un, .un] [] _ _
  obtain ⟨h0, hm, h1, h2, h3⟩ : 0 < m ∧ m ≤ 100 ∧ 0 ≤ s 0 ∧ s (m - 1) ≤ N ∧ ∀ j, j + 1 < m → s j ≤ s (j + 1) := hp
  obtain ⟨m, rfl⟩ : ∃ k, m = k + 1 := ⟨m - 1, by omega⟩
  rw [Nat.add_sub_cancel] at h2
  refine t_seq (t_ifD (b := false) (EvT.is (et_or (et_test (ev_op (ev_op (ev_d rfl) ev_int (rv_ixT (at_tab 0 (by omega) rfl))) ev_int rv_b)) fun hb => (et_test (ev_op (ev_op (ev_d rfl) (ev_neg ev_int) (rv_ixT at_last)) (ev_d rfl) rv_b))) ?_) (fun e => nomatch e) fun _ => t_next fun σ H h => h.go ?_)
  · rw [decide_eq_false (by omega), decide_eq_false (by omega)]; rfl
  refine t_retD (Ev.is (ev_cb (ea_cons (EvL.data (EvL.is (el_map _ (src_zipM (ea_cons (ev_d rfl) (ea_cons (ev_slFrom (k := 1) (ev_d rfl) (Ev.is ev_int rfl)) ea_nil)) (.t _) (.t _) (by omega)) (by simp) (by simp; omega) (fun a ha => tgc_2 (by simp) (by simp)) (fun a ha => (ev_op (ev_d rfl) (ev_d rfl) rv_b))) tab_map.symm)) ea_nil) (rc_all (bs := (tab m fun k => decide (s k ≤ s (1 + k)))))) ?_) hQ
  congr 2
  refine List.all_eq_true.mpr fun b hb => ?_
  obtain ⟨i, hi, rfl⟩ := tab_mem.mp hb
  have := h3 i (by omega)
  rw [Nat.add_comm 1 i]
  exact decide_eq_true this
end
end FW
end
section
set_option linter.all false
set_option maxRecDepth 100000
set_option maxHeartbeats 4000000
namespace FW
open PySem PySem.Spec PyProof.Rows L2
section
variable {P : Program} {w : World} {K : PySem.W.Frag} {mg : Str → Option Value} {base : Heap}
def fz (F : Nat → Int) : Nat → Int
  | 0 => 0
  | j + 1 => F j
theorem fz_step {N : Nat} {row F G : Nat → Int} {s : Int} (h : FK.Stp N row s F G) {i : Nat} (hi : i < N + 1) : max (max (fz F i) (row i)) (s - ((N + 1 : Nat) - 1 : Int) + (i : Int)) = fz F (i + 1) := by
  cases i with
  | zero =>
    have := h.f0
    show max (max 0 (row 0)) _ = F 0
    omega
  | succ i =>
    have := h.fs i (by omega)
    show max (max (F i) (row (i + 1))) _ = F (i + 1)
    omega
abbrev N_stepped : List Str := ["row", "size", "many", "found", "place", "item"]
abbrev P_stepped : List Str := ["row", "size"]
theorem sc_stepped : FnScope N_stepped P_stepped (defScope (Hd.top 11)) := ⟨rfl, rfl, rfl, by decide +kernel, rfl, by decide +kernel, by decide +kernel⟩
abbrev Ok_stepped (P : Program) (w : World) (K : PySem.W.Frag) (mg : Str → Option Value) (base : Heap) : Prop := Hd.OkF P w K mg base 1 "stepped" P_stepped (PrL K (α := Nat × (Nat → Int) × Int × (Nat → Int) × (Nat → Int)) (fun a => [dRow (a.1 + 1) a.2.1, .int a.2.2.1]) (fun a => a.1 ≤ 1000 ∧ FK.Stp a.1 a.2.1 a.2.2.1 a.2.2.2.1 a.2.2.2.2) (fun a => tab (a.1 + 1) fun d => PyData.int (a.2.2.2.2 d)))
theorem ok_stepped (Y : Hd.Ok K mg) : Ok_stepped P w K mg base := by
  refine mkPrL (i := 5) (j := 11) (k := 0) Y rfl rfl sc_stepped (fun _ _ _ _ _ _ us hl => match us, hl with | [_, _], _ => rfl) 4 rfl (fun _ => rfl) fun cdv A' outer s H E hr => ⟨_, (pss_cons (ps_par (i := 2) (j := 3) rfl sc_stepped.nd rfl rfl (by decide) rfl rfl (pa_cons (pe_op op_sub (pe_callB (kc_len (K := K) rfl) (by rfl) (Y.free 71) bt_len (pa_cons (pv 0) pa_nil)) pe_int) (pa_cons (pe_lst (pa_cons pe_int pa_nil)) pa_nil)) (by rfl)) (pss_cons (ps_for PassesOwn.never rfl (kp_enum (K := K) rfl (by rfl) (Y.free 68) (pa_cons (pv 0) pa_nil)) (kg_tup (K := K) (n := 2) rfl rfl (pgs_cons (pg_name (i := 4) sc_stepped.nd rfl (Or.inl rfl)) (pgs_cons (pg_name (i := 5) sc_stepped.nd rfl (Or.inl rfl)) pgs_nil))) (pss_one (ps_expr (ke_bm (K := K) rfl PySem.F.plainAttrs_list PySem.F.slot_list_append PySem.F.type_list_append mt_append (pv 3) (pa_cons (pe_callB (call_max3Nu rfl) (by rfl) (Y.free 73) bt_max (pa_cons (pe_ix (ki_seq (K := K) rfl) (pv 3) (pe_un un_neg pe_int) (fun _ _ => rfl)) (pa_cons (pv 5) (pa_cons (pe_op (ko_add (K := K) rfl) (pe_op op_sub (pv 1) (pv 2)) (pv 4)) pa_nil)))) pa_nil))))) (pss_cons (ps_set (i := 3) sc_stepped.nd rfl (Or.inl rfl) (pe_slice (ks_U (K := K) rfl) (pv 3) (po_some pe_int) po_none)) (pss_cons (ps_for PassesOwn.never rfl (pi_range3 (by rfl) (Y.free 75) (pa_cons (pe_op op_sub (pv 2) pe_int) (pa_cons (pe_un un_neg pe_int) (pa_cons (pe_un un_neg pe_int) pa_nil)))) (pg_name (i := 4) sc_stepped.nd rfl (Or.inl rfl)) (pss_one (ps_asg (pe_callB (call_max2 rfl) (by rfl) (Y.free 73) bt_max (pa_cons (pe_ix (ki_seq (K := K) rfl) (pv 3) (pv 4) (fun _ _ => rfl)) (pa_cons (pe_op op_sub (pe_ix (ki_seq (K := K) rfl) (pv 3) (pe_op (ko_add (K := K) rfl) (pv 4) pe_int) (fun _ _ => rfl)) pe_int) pa_nil))) (pg_sub (pv 3) (pv 4) set_list)))) (pss_one (ps_ret (pv 3))))))), fun ⟨N, row, s, f, g⟩ F0 H0 Q hp hQ => ?_⟩
  change Tr ⟨K, none, F0, H0, F0⟩ [.dat (dRow (N + 1) row), .dat (.int s), .un, .un, .un, .un] [] _ _
  obtain ⟨hN, S⟩ : N ≤ 1000 ∧ FK.Stp N row s f g := hp
  refine t_seq (t_par (ees_cons (ee_d (ev_op (ev_cb (ea_cons (ev_d rfl) ea_nil) rc_lenTT) ev_int rv_i)) (ees_cons (ee_l (el_one (ea_cons ev_int ea_nil))) ees_nil)) fun p => ⟨_, _, rfl, fun σ H h => h.go ?_⟩)
  refine t_seq (t_forT (src_enumT (ea_cons (ev_d rfl) ea_nil) (.t _)) (fun i G ms => G = [.dat (dRow (N + 1) row), .dat (.int s), dI ((N + 1 : Nat) - 1 : Int), .ml p, .un, .un] ∧ ms = [(p, tab (i + 1) fun j => PyData.int (fz f j))]) ⟨rfl, rfl⟩ ?_ ?_)
  · rintro i hi Fl G ms ⟨rfl, rfl⟩
    refine tg_tup rfl (tgs_name (tgs_name (tgs_nil fun σ H h => h.go ?_)))
    refine t_appD (ev_m rfl) (ev_cb (ea_cons (ev_op (ev_m rfl) (ev_neg ev_int) (rv_ixM mem0 at_last)) (ea_cons (ev_d rfl) (ea_cons (ev_op (ev_op (ev_d rfl) (ev_d rfl) rv_i) (ev_d rfl) rv_addI) ea_nil))) rc_max3) (k := 0) rfl (by simp; omega) fun σ H h => ?_
    exact (h.forget (.keep _ (.keep _ (.keep _ (.keep _ (.drop _ (.drop _ .nil))))))).inv ⟨rfl, by rw [fz_step S hi, ← tab_snoc (n := i + 1)]; rfl⟩
  · rintro G ms ⟨rfl, rfl⟩ σ H h
    refine h.go (t_seq (t_set (ee_l (EvL.is (ds' := tab (N + 1) fun j => PyData.int (f j)) (el_slMFrom (k := 1) (ev_m rfl) mem0 (Ev.is ev_int rfl)) ?_)) fun p2 σ H h => h.go ?_))
    · exact tab_congr fun j _ => by rw [Nat.add_comm 1 j]; rfl
    refine t_seq (t_forT (src_dn (n := N) (EvA.is (ea_cons (ev_op (ev_d rfl) ev_int rv_i) (ea_cons (ev_neg ev_int) (ea_cons (ev_neg ev_int) ea_nil))) ((by simp))) (by omega)) (fun k G ms => G = [.dat (dRow (N + 1) row), .dat (.int s), dI ((N + 1 : Nat) - 1 : Int), .ml p2, .un, .un] ∧ ms = [(p2, tab (N + 1) fun j => PyData.int (if N - k ≤ j then g j else f j)), (p, tab (N + 1 + 1) fun j => PyData.int (fz f j))]) ⟨rfl, ?_⟩ ?_ ?_)
    · refine cellEq (tab_congr fun j hj => ?_)
      by_cases e : N - 0 ≤ j
      · obtain rfl : j = N := by omega
        rw [if_pos e, S.gN]
      · rw [if_neg e]
    · rintro k hk Fl G ms ⟨rfl, rfl⟩
      refine tg_name fun σ H h => h.go ?_
      refine t_setitem (ev_cb (ea_cons (ev_op (ev_m rfl) (ev_d rfl) (rv_ixM mem0 (at_tab (N - 1 - k) (by omega) rfl))) (ea_cons (ev_op (ev_op (ev_m rfl) (ev_op (ev_d rfl) ev_int rv_addI) (rv_ixM mem0 (at_tab (N - 1 - k + 1) (by omega) rfl))) ev_int rv_i) ea_nil)) rc_max2) (ev_m rfl) (ev_d rfl) (k := 0) rfl (ixN_nat (by simp; omega)) fun σ H h => ?_
      refine (h.forget (.keep _ (.keep _ (.keep _ (.keep _ (.drop _ (.drop _ .nil))))))).inv ⟨rfl, ?_⟩
      refine cellEq (tab_set.trans (tab_congr fun j hj => ?_))
      have e := S.gs (N - 1 - k) (by omega)
      by_cases e1 : j = N - 1 - k
      · rw [if_pos e1, if_neg (by omega), if_pos (by omega), if_pos (by omega), e1, e]
      · rw [if_neg e1]
        by_cases e2 : N - k ≤ j
        · rw [if_pos e2, if_pos (by omega)]
        · rw [if_neg e2, if_neg (by omega)]
    · rintro G ms ⟨rfl, rfl⟩ σ H h
      refine h.go (t_retM (ev_m rfl) mem0 fun q us F' H' a b c d e => hQ q us F' H' a b c d ?_)
      have e2 : (tab (N + 1) fun j => PyData.int (if N - N ≤ j then g j else f j)) = tab (N + 1) fun d => PyData.int (g d) := tab_congr fun j _ => by rw [if_pos (by omega)]
      rw [e2] at e
      exact e
end
end FW
end
section
set_option linter.all false
set_option maxRecDepth 100000
set_option maxHeartbeats 4000000
namespace FW
open PySem PySem.Spec PyProof.Rows L2
section
variable {P : Program} {w : World} {K : PySem.W.Frag} {mg : Str → Option Value} {base : Heap}
theorem max_up {a b : Int} (h : a ≤ b) : max a b = b := by omega
theorem max_gap {a b c : Int} (h : b - c ≤ a) : max a (b - c) = a := by omega
theorem st2 {xs ys : List PD} : xs.map Sl.dat ++ (ys.map Sl.dat ++ []) = (xs ++ ys).map Sl.dat := by simp
abbrev N_tightened : List Str := ["rows", "sizes", "size", "words", "floor", "gap", "word", "row", "one", "other", "place", "item"]
abbrev P_tightened : List Str := ["rows", "sizes"]
theorem sc_tightened : FnScope N_tightened P_tightened (defScope (Hd.top 12)) := ⟨rfl, rfl, rfl, by decide +kernel, rfl, by decide +kernel, by decide +kernel⟩
abbrev Ok_tightened (P : Program) (w : World) (K : PySem.W.Frag) (mg : Str → Option Value) (base : Heap) : Prop := Hd.OkF P w K mg base 2 "tightened" P_tightened (Pr K (α := Nat × Nat × (Nat → Nat → Int) × (Nat → Int) × (Nat → Nat → Int) × (Nat → Nat → Int)) (fun a => [.list (tab a.1 fun j => dRow (a.2.1 + 1) (a.2.2.1 j)), dRow a.1 a.2.2.2.1]) (fun a => 0 < a.1 ∧ a.1 ≤ 100 ∧ a.2.1 ≤ 1000 ∧ (∀ j, j < a.1 → FK.Stp a.2.1 (a.2.2.1 j) (a.2.2.2.1 j) (a.2.2.2.2.1 j) (a.2.2.2.2.2 j)) ∧ FK.Tight a.1 a.2.1 a.2.2.2.1 a.2.2.2.2.2) (fun a => dWs a.2.1 a.1 a.2.2.2.2.2))
theorem ok_tightened (Y : Hd.Ok K mg) (D_are_sizes : Ok_are_sizes P w K mg base) (D_stepped : Ok_stepped P w K mg base) : Ok_tightened P w K mg base := by
  refine mkPr (i := 6) (j := 12) (k := 1) Y rfl rfl sc_tightened (fun _ _ _ _ _ _ us hl => match us, hl with | [_, _], _ => rfl) 10 rfl (fun _ => rfl) fun cdv A' outer s H E hr => ⟨_, (pss_cons (ps_if (pt_not (pt_val (Hd.pe_f D_are_sizes (hr.mono (by decide)) (by rfl) (pa_cons (pv 1) (pa_cons (pe_op op_sub (pe_callB (kc_len (K := K) rfl) (by rfl) (Y.free 71) bt_len (pa_cons (pe_ix (ki_seq (K := K) rfl) (pv 0) pe_int (fun _ _ => rfl)) pa_nil)) pe_int) pa_nil))))) (pss_one (ps_ret pe_non)) pss_nil) (pss_cons (ps_setLc (i := 3) (own := [("row", 7), ("size", 2)]) rfl sc_tightened.nd rfl rfl (sw_true rfl rfl rfl (by decide +kernel)) (kp_zip (K := K) rfl (by rfl) (Y.free 81) (pa_cons (pv 0) (pa_cons (pv 1) pa_nil))) (blkOk_by (by first | (change blkC N_tightened (defScope (Hd.top 12)) _ _ = true; decide +kernel) | rfl)) (fun _ _ _ _ _ => (kg_tup (K := K) (n := 2) rfl rfl (pgs_cons (pg_name (i := 7) sc_tightened.nd rfl (Or.inl rfl)) (pgs_cons (pg_name (i := 2) sc_tightened.nd rfl (Or.inl rfl)) pgs_nil)))) (fun _ _ _ _ _ => pts_nil) (fun _ _ _ _ _ => (Hd.pe_f D_stepped (hr.mono (by decide)) (by rfl) (pa_cons (pv 7) (pa_cons (pv 2) pa_nil))))) (pss_cons (ps_for PassesOwn.never rfl (pi_range2 (by rfl) (Y.free 75) (pa_cons pe_int (pa_cons (pe_callB (kc_len (K := K) rfl) (by rfl) (Y.free 71) bt_len (pa_cons (pv 3) pa_nil)) pa_nil))) (pg_name (i := 4) sc_tightened.nd rfl (Or.inl rfl)) (pss_one (ps_asg (pe_lc (own := [("one", 8), ("other", 9)]) rfl sc_tightened.nd (kp_zip (K := K) rfl (by rfl) (Y.free 81) (pa_cons (pe_ix (ki_seq (K := K) rfl) (pv 3) (pe_op op_sub (pv 4) pe_int) (fun _ _ => rfl)) (pa_cons (pe_ix (ki_seq (K := K) rfl) (pv 3) (pv 4) (fun _ _ => rfl)) pa_nil))) (blkOk_by (by first | (change blkC N_tightened (defScope (Hd.top 12)) _ _ = true; decide +kernel) | rfl)) (fun _ _ _ _ _ => (kg_tup (K := K) (n := 2) rfl rfl (pgs_cons (pg_name (i := 8) sc_tightened.nd rfl (Or.inl rfl)) (pgs_cons (pg_name (i := 9) sc_tightened.nd rfl (Or.inl rfl)) pgs_nil)))) (fun _ _ _ _ _ => pts_nil) (fun _ _ _ _ _ => (pe_callB (call_max2 rfl) (by rfl) (Y.free 73) bt_max (pa_cons (pv 8) (pa_cons (pv 9) pa_nil))))) (pg_sub (pv 3) (pv 4) set_list)))) (pss_cons (ps_for PassesOwn.never rfl (pi_range3 (by rfl) (Y.free 75) (pa_cons (pe_op op_sub (pe_callB (kc_len (K := K) rfl) (by rfl) (Y.free 71) bt_len (pa_cons (pv 3) pa_nil)) pe_int) (pa_cons (pe_un un_neg pe_int) (pa_cons (pe_un un_neg pe_int) pa_nil)))) (pg_name (i := 4) sc_tightened.nd rfl (Or.inl rfl)) (pss_cons (ps_set (i := 5) sc_tightened.nd rfl (Or.inr rfl) (pe_op op_sub (pe_ix (ki_seq (K := K) rfl) (pv 1) (pe_op (ko_add (K := K) rfl) (pv 4) pe_int) (fun _ _ => rfl)) (pe_ix (ki_seq (K := K) rfl) (pv 1) (pv 4) (fun _ _ => rfl)))) (pss_one (ps_asg (pe_lc (own := [("one", 8), ("other", 9)]) rfl sc_tightened.nd (kp_zip (K := K) rfl (by rfl) (Y.free 81) (pa_cons (pe_ix (ki_seq (K := K) rfl) (pv 3) (pv 4) (fun _ _ => rfl)) (pa_cons (pe_ix (ki_seq (K := K) rfl) (pv 3) (pe_op (ko_add (K := K) rfl) (pv 4) pe_int) (fun _ _ => rfl)) pa_nil))) (blkOk_by (by first | (change blkC N_tightened (defScope (Hd.top 12)) _ _ = true; decide +kernel) | rfl)) (fun _ _ _ _ _ => (kg_tup (K := K) (n := 2) rfl rfl (pgs_cons (pg_name (i := 8) sc_tightened.nd rfl (Or.inl rfl)) (pgs_cons (pg_name (i := 9) sc_tightened.nd rfl (Or.inl rfl)) pgs_nil)))) (fun _ _ _ _ _ => pts_nil) (fun _ _ _ _ _ => (pe_callB (call_max2 rfl) (by rfl) (Y.free 73) bt_max (pa_cons (pv 8) (pa_cons (pe_op op_sub (pv 9) (pv 5)) pa_nil))))) (pg_sub (pv 3) (pv 4) set_list))))) (pss_cons (ps_for PassesOwn.never rfl (kp_zip (K := K) rfl (by rfl) (Y.free 81) (pa_cons (pv 3) (pa_cons (pv 1) pa_nil))) (kg_tup (K := K) (n := 2) rfl rfl (pgs_cons (pg_name (i := 6) sc_tightened.nd rfl (Or.inl rfl)) (pgs_cons (pg_name (i := 2) sc_tightened.nd rfl (Or.inr rfl)) pgs_nil))) (pss_one (ps_if (pt_val (pe_callB (kc_any (K := K) rfl rfl) (by rfl) (Y.free 65) bt_any (pa_cons (pe_lc (own := [("place", 10), ("item", 11)]) rfl sc_tightened.nd (kp_enum (K := K) rfl (by rfl) (Y.free 68) (pa_cons (pv 6) pa_nil)) (blkOk_by (by first | (change blkC N_tightened (defScope (Hd.top 12)) _ _ = true; decide +kernel) | rfl)) (fun _ _ _ _ _ => (kg_tup (K := K) (n := 2) rfl rfl (pgs_cons (pg_name (i := 10) sc_tightened.nd rfl (Or.inl rfl)) (pgs_cons (pg_name (i := 11) sc_tightened.nd rfl (Or.inl rfl)) pgs_nil)))) (fun _ _ _ _ _ => pts_nil) (fun _ _ _ _ _ => (pe_cmpR op_gt (pv 11) (pe_callB (call_min2 rfl) (by rfl) (Y.free 74) bt_min (pa_cons (pv 10) (pa_cons (pv 2) pa_nil))) (nomark _)))) pa_nil))) (pss_one (ps_ret pe_non)) pss_nil))) (pss_one (ps_ret (pe_callTy (kc_tup (K := K) rfl) (by rfl) (Y.free 80) bt_tuple (pa_cons (pe_lc (own := [("word", 6)]) rfl sc_tightened.nd (kp_seq (K := K) rfl (pv 3)) (blkOk_by (by first | (change blkC N_tightened (defScope (Hd.top 12)) _ _ = true; decide +kernel) | rfl)) (fun _ _ _ _ _ => (pg_name (i := 6) sc_tightened.nd rfl (Or.inl rfl))) (fun _ _ _ _ _ => pts_nil) (fun _ _ _ _ _ => (pe_callTy (kc_tup (K := K) rfl) (by rfl) (Y.free 80) bt_tuple (pa_cons (pv 6) pa_nil)))) pa_nil))))))))), fun ⟨m, N, rows, s, f, g⟩ F0 H0 Q hp hQ => ?_⟩
  change Tr ⟨K, none, F0, H0, F0⟩ [.dat (.list (tab m fun j => dRow (N + 1) (rows j))), .dat (dRow m s), .un, .un, .un, .un, .un, .un, .un, .un, .un, .un] [] _ _
  obtain ⟨h0, hm, hN, S, T⟩ : 0 < m ∧ m ≤ 100 ∧ N ≤ 1000 ∧ (∀ j, j < m → FK.Stp N (rows j) (s j) (f j) (g j)) ∧ FK.Tight m N s g := hp
  refine t_seq (t_ifD (b := false) (EvT.is (et_not (et_B (Ev.is (s' := dB true) (ev_call ((m, s, (N : Int))) (EvA.is (ea_cons (ev_d rfl) (ea_cons (ev_op (ev_cb (ea_cons (ev_op (ev_d rfl) ev_int (rv_ixL (at_tab 0 h0 rfl))) ea_nil) rc_lenTT) ev_int rv_i) ea_nil)) ((by simp))) (by exact ⟨h0, hm, T.s0, T.sm (m - 1) (by omega), T.up⟩)) rfl))) rfl) (fun e => nomatch e) fun _ => t_next fun σ H h => h.go ?_)
  refine t_seq (t_set (ee_l (el_map _ (src_zipT (ea_cons (ev_d rfl) (ea_cons (ev_d rfl) ea_nil)) (.l _) (.t _)) (by simp) (by simp; omega) (fun a ha => tgc_2 (by simp) (by simp)) (fun a ha => (EvL.data (el_call ((N, rows a, s a, f a, g a)) (EvA.is (ea_cons (ev_d rfl) (ea_cons (ev_d rfl) ea_nil)) rfl) (by exact ⟨hN, S a (List.mem_range.mp ha)⟩)))))) fun p σ H h => h.go ?_)
  refine t_seq (t_forT (src_r2 (a := 1) (b := m) (EvA.is (ea_cons ev_int (ea_cons (ev_cb (ea_cons (ev_m rfl) ea_nil) (rc_lenM mem0)) ea_nil)) ((by simp))) (by omega)) (fun i G ms => G = [.dat (.list (tab m fun j => dRow (N + 1) (rows j))), .dat (dRow m s), .un, .ml p, .un, .un, .un, .un, .un, .un, .un, .un] ∧ ms = [(p, tab m fun j => PyData.list (tab (N + 1) fun d => PyData.int (g j d)))]) ⟨rfl, rfl⟩ ?_ ?_)
  · rintro i hi Fl G ms ⟨rfl, rfl⟩
    refine tg_name fun σ H h => h.go ?_
    refine t_setitem (EvL.data (el_map _ (src_zipT (ea_cons (ev_op (ev_m rfl) (ev_op (ev_d rfl) ev_int rv_i) (rv_ixM mem0 (at_tab i (by omega) (by simp; omega)))) (ea_cons (ev_op (ev_m rfl) (ev_d rfl) (rv_ixM mem0 (at_tab (1 + i) (by omega) rfl))) ea_nil)) (.l _) (.l _)) (by simp) (by simp; omega) (fun a ha => tgc_2 (by simp) (by simp)) (fun a ha => (ev_cb (ea_cons (ev_d rfl) (ea_cons (ev_d rfl) ea_nil)) rc_max2)))) (ev_m rfl) (ev_d rfl) (k := 0) rfl (ixN_nat (by simp; omega)) fun σ H h => ?_
    refine (h.forget (.keep _ (.keep _ (.keep _ (.keep _ (.drop _ (Fg.refl _))))))).inv ⟨rfl, cellEq (tab_set.trans (tab_congr fun j hj => ?_))⟩
    by_cases e : j = 1 + i
    · rw [if_pos e, e]
      congr 1
      refine tab_congr fun d hd => ?_
      rw [max_up]
      rw [Nat.add_comm]
      exact T.mono i d (by omega) (by omega)
    · rw [if_neg e]
  · rintro G ms ⟨rfl, rfl⟩ σ H h
    refine h.go (t_seq (t_forT (src_dn (n := (m - 1)) (EvA.is (ea_cons (ev_op (ev_cb (ea_cons (ev_m rfl) ea_nil) (rc_lenM mem0)) ev_int rv_i) (ea_cons (ev_neg ev_int) (ea_cons (ev_neg ev_int) ea_nil))) ((by simp; omega))) (by omega)) (fun i G ms => G = [.dat (.list (tab m fun j => dRow (N + 1) (rows j))), .dat (dRow m s), .un, .ml p, .un, .un, .un, .un, .un, .un, .un, .un] ∧ ms = [(p, tab m fun j => PyData.list (tab (N + 1) fun d => PyData.int (g j d)))]) ⟨rfl, rfl⟩ ?_ ?_))
    · rintro i hi Fl G ms ⟨rfl, rfl⟩
      refine tg_name fun σ H h => h.go ?_
      refine t_seq (t_set (ee_d (ev_op (ev_op (ev_d rfl) (ev_op (ev_d rfl) ev_int rv_addI) (rv_ixT (at_tab (m - 1 - 1 - i + 1) (by omega) rfl))) (ev_op (ev_d rfl) (ev_d rfl) (rv_ixT (at_tab (m - 1 - 1 - i) (by omega) rfl))) rv_i)) fun σ H h => h.go ?_)
      refine t_setitem (EvL.data (el_map _ (src_zipT (ea_cons (ev_op (ev_m rfl) (ev_d rfl) (rv_ixM mem0 (at_tab (m - 1 - 1 - i) (by omega) rfl))) (ea_cons (ev_op (ev_m rfl) (ev_op (ev_d rfl) ev_int rv_addI) (rv_ixM mem0 (at_tab (m - 1 - 1 - i + 1) (by omega) rfl))) ea_nil)) (.l _) (.l _)) (by simp) (by simp; omega) (fun a ha => tgc_2 (by simp) (by simp)) (fun a ha => (ev_cb (ea_cons (ev_d rfl) (ea_cons (ev_op (ev_d rfl) (ev_d rfl) rv_i) ea_nil)) rc_max2)))) (ev_m rfl) (ev_d rfl) (k := 0) rfl (ixN_nat (by simp; omega)) fun σ H h => ?_
      refine (h.forget (.keep _ (.keep _ (.keep _ (.keep _ (.drop _ (.drop _ (Fg.refl _)))))))).inv ⟨rfl, cellEq (tab_set.trans (tab_congr fun j hj => ?_))⟩
      by_cases e : j = m - 1 - 1 - i
      · rw [if_pos e, e]
        congr 1
        refine tab_congr fun d hd => ?_
        rw [max_gap]
        exact T.gap _ d (by omega) (by omega)
      · rw [if_neg e]
    · rintro G ms ⟨rfl, rfl⟩ σ H h
      have h := Pst.freeze (ms1 := []) (i := 3) h rfl
      refine h.go (t_seq (t_forT (src_zipT (ea_cons (ev_d rfl) (ea_cons (ev_d rfl) ea_nil)) (.l _) (.t _)) (fun i G ms => G = [.dat (.list (tab m fun j => dRow (N + 1) (rows j))), .dat (dRow m s), .un, .dat (.list (tab m fun j => PyData.list (tab (N + 1) fun d => PyData.int (g j d)))), .un, .un, .un, .un, .un, .un, .un, .un] ∧ ms = []) ⟨rfl, rfl⟩ ?_ ?_))
      · rintro i hi Fl G ms ⟨rfl, rfl⟩
        refine tg_tup rfl (tgs_name (tgs_name (tgs_nil fun σ H h => h.go ?_)))
        refine t_ifD (b := false) (EvT.is (et_B (ev_cb (ea_cons (EvL.data (EvL.is (el_map _ (src_enumT (ea_cons (ev_d rfl) ea_nil) (.l _)) (by simp) (by simp; omega) (fun a ha => tgc_2 (by simp) (by simp)) (fun a ha => (ev_op (ev_d rfl) (ev_cb (ea_cons (ev_d rfl) (ea_cons (ev_d rfl) ea_nil)) rc_min2) rv_b))) tab_map.symm)) ea_nil) (rc_any (bs := (tab (N + 1) fun d => decide (g i d > min (d : Int) (s i))))))) ?_) (fun e => nomatch e) fun _ => t_next fun σ H h => ?_
        · refine List.any_eq_false.mpr fun b hb => ?_
          obtain ⟨d, hd, rfl⟩ := tab_mem.mp hb
          have h1 := T.pl i d hi (by omega)
          have h2 := T.sz i d hi (by omega)
          simp only [id]
          rw [decide_eq_false (by omega)]
          exact Bool.false_ne_true
        · exact (h.forget (.keep _ (.keep _ (.drop _ (.keep _ (.keep _ (.keep _ (.drop _ (Fg.refl _))))))))).inv ⟨rfl, rfl⟩
      · rintro G ms ⟨rfl, rfl⟩ σ H h
        exact h.go (t_retD (ev_cb (ea_cons (EvL.data (el_map _ (src_l (ev_d rfl)) (by simp) (by simp; omega) (fun a ha => tgc_name (by simp)) (fun a ha => (ev_cb (ea_cons (ev_d rfl) ea_nil) rc_tupL)))) ea_nil) rc_tupL) hQ)
abbrev N_lost_one : List Str := ["word", "item"]
abbrev P_lost_one : List Str := ["word"]
theorem sc_lost_one : FnScope N_lost_one P_lost_one (defScope (Hd.top 17)) := ⟨rfl, rfl, rfl, by decide +kernel, rfl, by decide +kernel, by decide +kernel⟩
abbrev Ok_lost_one (P : Program) (w : World) (K : PySem.W.Frag) (mg : Str → Option Value) (base : Heap) : Prop := Hd.OkF P w K mg base 1 "lost_one" P_lost_one (Pr K (α := Nat × (Nat → Int)) (fun a => [dRow a.1 a.2]) (fun a => a.1 ≤ 1001) (fun a => dRow a.1 (FK.lost a.2)))
theorem ok_lost_one (Y : Hd.Ok K mg) : Ok_lost_one P w K mg base := by
  refine mkPr (i := 10) (j := 17) (k := 0) Y rfl rfl sc_lost_one (fun _ _ _ _ _ _ us hl => match us, hl with | [_], _ => rfl) 1 rfl (fun _ => rfl) fun cdv A' outer s H E hr => ⟨_, (pss_one (ps_ret (pe_callTy (kc_tup (K := K) rfl) (by rfl) (Y.free 80) bt_tuple (pa_cons (pe_lc (own := [("item", 1)]) rfl sc_lost_one.nd (kp_seq (K := K) rfl (pv 0)) (blkOk_by (by first | (change blkC N_lost_one (defScope (Hd.top 17)) _ _ = true; decide +kernel) | rfl)) (fun _ _ _ _ _ => (pg_name (i := 1) sc_lost_one.nd rfl (Or.inl rfl))) (fun _ _ _ _ _ => pts_nil) (fun _ _ _ _ _ => (pe_callB (call_max2 rfl) (by rfl) (Y.free 73) bt_max (pa_cons pe_int (pa_cons (pe_op op_sub (pv 1) pe_int) pa_nil))))) pa_nil)))), fun ⟨n, f⟩ F0 H0 Q hp hQ => ?_⟩
  change Tr ⟨K, none, F0, H0, F0⟩ [.dat (dRow n f), .un] [] _ _
  have hn : n ≤ 1001 := hp
  exact t_retD (ev_cb (ea_cons (EvL.data (el_map _ (src_t (ev_d rfl)) (by simp) (by simp; omega) (fun a ha => tgc_name (by simp)) (fun a ha => (ev_cb (ea_cons ev_int (ea_cons (ev_op (ev_d rfl) ev_int rv_i) ea_nil)) rc_max2)))) ea_nil) rc_tupL) hQ
abbrev N_taken_out : List Str := ["word", "place", "is_within", "item"]
abbrev P_taken_out : List Str := ["word", "place", "is_within"]
theorem sc_taken_out : FnScope N_taken_out P_taken_out (defScope (Hd.top 15)) := ⟨rfl, rfl, rfl, by decide +kernel, rfl, by decide +kernel, by decide +kernel⟩
abbrev Ok_taken_out (P : Program) (w : World) (K : PySem.W.Frag) (mg : Str → Option Value) (base : Heap) : Prop := Hd.OkF P w K mg base 1 "taken_out" P_taken_out (Pr K (α := Nat × (Nat → Int) × Nat × Bool) (fun a => [dRow (a.1 + 2) a.2.1, dN a.2.2.1, .bool a.2.2.2]) (fun a => a.1 ≤ 1000 ∧ a.2.2.1 ≤ a.1) (fun a => dRow (a.1 + 1) (if a.2.2.2 then FK.rowHit a.2.1 a.2.2.1 else FK.rowMiss a.2.1 a.2.2.1)))
theorem ok_taken_out (Y : Hd.Ok K mg) : Ok_taken_out P w K mg base := by
  refine mkPr (i := 8) (j := 15) (k := 0) Y rfl rfl sc_taken_out (fun _ _ _ _ _ _ us hl => match us, hl with | [_, _, _], _ => rfl) 1 rfl (fun _ => rfl) fun cdv A' outer s H E hr => ⟨_, (pss_cons (ps_if (pt_not (pt_val (pv 2))) (pss_one (ps_ret (pe_tupN (ka_star (K := K) rfl (pe_slice (ks_U (K := K) rfl) (pv 0) po_none (po_some (pv 1))) (ka_star (K := K) rfl (pe_slice (ks_U (K := K) rfl) (pv 0) (po_some (pe_op (ko_add (K := K) rfl) (pv 1) pe_int)) po_none) pa_nil))))) pss_nil) (pss_one (ps_ret (pe_tupN (ka_star (K := K) rfl (pe_slice (ks_U (K := K) rfl) (pv 0) po_none (po_some (pe_op (ko_add (K := K) rfl) (pv 1) pe_int))) (ka_star (K := K) rfl (pe_lc (own := [("item", 3)]) rfl sc_taken_out.nd (kp_seq (K := K) rfl (pe_slice (ks_U (K := K) rfl) (pv 0) (po_some (pe_op (ko_add (K := K) rfl) (pv 1) pe_int)) po_none)) (blkOk_by (by first | (change blkC N_taken_out (defScope (Hd.top 15)) _ _ = true; decide +kernel) | rfl)) (fun _ _ _ _ _ => (pg_name (i := 3) sc_taken_out.nd rfl (Or.inl rfl))) (fun _ _ _ _ _ => pts_nil) (fun _ _ _ _ _ => (pe_op op_sub (pv 3) pe_int))) pa_nil)))))), fun ⟨n, f, e, b⟩ F0 H0 Q hp hQ => ?_⟩
  change Tr ⟨K, none, F0, H0, F0⟩ [.dat (dRow (n + 2) f), .dat (dN e), .dat (.bool b), .un] [] _ _
  obtain ⟨hn, he⟩ : n ≤ 1000 ∧ e ≤ n := hp
  refine t_seq (t_ifD (et_not (et_B (ev_d rfl))) (fun hb => ?_) fun hb => t_next fun σ H h => h.go ?_)
  · obtain rfl : b = false := by simpa using hb
    refine t_retD (Ev.is (ev_tup (EvA.is (ea_starT (ev_slTo (k := e) (ev_d rfl) (Ev.is (ev_d rfl) rfl) (by omega)) (ea_starT (ev_slFrom (k := (e + 1)) (ev_d rfl) (Ev.is (ev_op (ev_d rfl) ev_int rv_addI) ((by simp)))) ea_nil)) st2) ((by simp; omega))) ?_) hQ
    congr 2
    refine tab_app.trans ?_
    rw [show e + (n + 2 - (e + 1)) = n + 1 by omega]
    refine tab_congr fun d hd => ?_
    show _ = PyData.int (FK.rowMiss f e d)
    unfold FK.rowMiss
    by_cases h : d < e
    · rw [if_pos h, if_pos h]
    · rw [if_neg h, if_neg h]; congr 2; omega
  · obtain rfl : b = true := by simpa using hb
    refine t_retD (Ev.is (ev_tup (EvA.is (ea_starT (ev_slTo (k := (e + 1)) (ev_d rfl) (Ev.is (ev_op (ev_d rfl) ev_int rv_addI) ((by simp))) (by omega)) (ea_starL (EvL.data (el_map _ (src_t (ev_slFrom (k := (e + 2)) (ev_d rfl) (Ev.is (ev_op (ev_d rfl) ev_int rv_addI) ((by simp))))) (by simp) (by simp; omega) (fun a ha => tgc_name (by simp)) (fun a ha => (ev_op (ev_d rfl) ev_int rv_i)))) ea_nil)) st2) ((by simp; omega))) ?_) hQ
    congr 2
    refine tab_app.trans ?_
    rw [show e + 1 + (n + 2 - (e + 2)) = n + 1 by omega]
    refine tab_congr fun d hd => ?_
    show _ = PyData.int (FK.rowHit f e d)
    unfold FK.rowHit
    by_cases h : d < e + 1
    · rw [if_pos h, if_pos (by omega)]
    · rw [if_neg h, if_neg (by omega)]; congr 3; omega
end
end FW
end
section
set_option linter.all false
set_option maxRecDepth 100000
set_option maxHeartbeats 4000000
namespace FW
open PySem PySem.Spec PyProof.Rows L2
section
variable {P : Program} {w : World} {K : PySem.W.Frag} {mg : Str → Option Value} {base : Heap}
theorem t_asgD {C : Cn} {G : List Sl} {ms : Ms} {te : TE} {g : TG} {D : Ends} {s : Sl} (h : Ev C te G ms s) (k : TgT C g s G ms D.nx) : Tr C G ms (tAsg te g) D := t_asg h fun s' e => by subst e; exact k
theorem idx_at {l : List Nat} {x : Nat} (hx : x ∈ l) : (l.map fun x : Nat => (x : Int))[l.idxOf x]? = some (x : Int) := by
  have h := List.idxOf_lt_length_of_mem hx
  rw [List.getElem?_map, List.getElem?_eq_getElem h, List.getElem_idxOf h]; rfl
theorem idx_no {l : List Nat} {x m : Nat} (hm : m < l.idxOf x) : (l.map fun x : Nat => (x : Int))[m]? ≠ some (x : Int) := by
  rw [List.getElem?_map]
  intro e
  cases h : l[m]? with
  | none => rw [h] at e; cases e
  | some y =>
    rw [h] at e
    have e2 : (y : Int) = (x : Int) := Option.some.inj e
    obtain rfl : y = x := by omega
    obtain ⟨h1, h2⟩ := List.getElem?_eq_some_iff.mp h
    have := List.not_of_lt_findIdx (p := fun z => z == y) (xs := l) hm
    rw [h2] at this
    simp at this
theorem erase_cut {l : List Nat} {x : Nat} (nd : l.Nodup) (hx : x ∈ l) : dNs (l.take (l.idxOf x)) ++ dNs (l.drop (l.idxOf x + 1)) = dNs (l.erase x) := by
  obtain ⟨a, b, e1, e2, e3, _⟩ := FK.order_split nd hx
  rw [e2, e3]
  unfold dNs
  rw [← List.map_append]
  congr 1
  rw [e1]
  simp
abbrev N_amid : List Str := ["knowledge", "entry", "order", "words", "word", "thing", "found", "place", "rows", "sizes", "floor", "row", "size"]
abbrev P_amid : List Str := ["knowledge", "entry"]
theorem sc_amid : FnScope N_amid P_amid (defScope (Hd.top 16)) := ⟨rfl, rfl, rfl, by decide +kernel, rfl, by decide +kernel, by decide +kernel⟩
abbrev Ok_amid (P : Program) (w : World) (K : PySem.W.Frag) (mg : Str → Option Value) (base : Heap) : Prop := Hd.OkF P w K mg base 3 "amid" P_amid (Pr K (α := Nat × Nat × (Nat → Nat) × FK.Kn × Nat × Nat) (fun a => [dKn (a.1 + 1) a.2.1 a.2.2.2.1, dAsk a.2.2.2.2.1 a.2.2.2.2.2]) (fun a => a.1 ≤ 100 ∧ a.2.1 ≤ 100 ∧ FK.KOk (a.1 + 1) a.2.1 a.2.2.1 a.2.2.2.1 ∧ a.2.2.2.2.1 < a.1 + 1 ∧ FK.Can (a.1 + 1) a.2.1 a.2.2.2.1 (FK.placeOf a.2.2.2.1 a.2.2.2.2.1) a.2.2.2.2.2) (fun a => .tuple [.tuple (dNs (a.2.2.2.1.order.erase a.2.2.2.2.1)), dWs a.1 a.2.1 (FK.Wt a.2.2.2.1 (FK.placeOf a.2.2.2.1 a.2.2.2.2.1) a.2.2.2.2.2), dRow a.2.1 (FK.sz a.2.2.2.1 (a.1 + 1) a.2.2.2.2.2)]))
theorem ok_amid (Y : Hd.Ok K mg) (D_known_sizes : Ok_known_sizes P w K mg base) (D_taken_out : Ok_taken_out P w K mg base) (D_tightened : Ok_tightened P w K mg base) : Ok_amid P w K mg base := by
  refine mkPr (i := 9) (j := 16) (k := 2) Y rfl rfl sc_amid (fun _ _ _ _ _ _ us hl => match us, hl with | [_, _], _ => rfl) 11 rfl (fun _ => rfl) fun cdv A' outer s H E hr => ⟨_, (pss_cons (ps_asg (pv 0) (kg_tup (K := K) (n := 2) rfl rfl (pgs_cons (pg_name (i := 2) sc_amid.nd rfl (Or.inl rfl)) (pgs_cons (pg_name (i := 3) sc_amid.nd rfl (Or.inl rfl)) pgs_nil)))) (pss_cons (ps_asg (pv 1) (kg_tup (K := K) (n := 3) rfl rfl (pgs_cons (pg_name (i := 4) sc_amid.nd rfl (Or.inl rfl)) (pgs_cons (pg_name (i := 5) sc_amid.nd rfl (Or.inl rfl)) (pgs_cons (pg_name (i := 6) sc_amid.nd rfl (Or.inr rfl)) pgs_nil))))) (pss_cons (ps_set (i := 7) sc_amid.nd rfl (Or.inr rfl) (pe_tm PySem.F.slot_tuple_index PySem.F.type_tuple_index (km_tindex (K := K) rfl) (pv 2) (pa_cons (pv 5) pa_nil))) (pss_cons (ps_setLc (i := 8) (own := [("floor", 10), ("row", 11)]) rfl sc_amid.nd rfl rfl (sw_true rfl rfl rfl (by decide +kernel)) (kp_enum (K := K) rfl (by rfl) (Y.free 68) (pa_cons (pv 3) pa_nil)) (blkOk_by (by first | (change blkC N_amid (defScope (Hd.top 16)) _ _ = true; decide +kernel) | rfl)) (fun _ _ _ _ _ => (kg_tup (K := K) (n := 2) rfl rfl (pgs_cons (pg_name (i := 10) sc_amid.nd rfl (Or.inl rfl)) (pgs_cons (pg_name (i := 11) sc_amid.nd rfl (Or.inl rfl)) pgs_nil)))) (fun _ _ _ _ _ => pts_nil) (fun _ _ _ _ _ => (Hd.pe_f D_taken_out (hr.mono (by decide)) (by rfl) (pa_cons (pv 11) (pa_cons (pv 7) (pa_cons (pe_cmpR op_le (pv 6) (pv 10) (nomark _)) pa_nil)))))) (pss_cons (ps_set (i := 9) sc_amid.nd rfl (Or.inl rfl) (pe_callTy (kc_tup (K := K) rfl) (by rfl) (Y.free 80) bt_tuple (pa_cons (pe_lc (own := [("floor", 10), ("size", 12)]) rfl sc_amid.nd (kp_enum (K := K) rfl (by rfl) (Y.free 68) (pa_cons (Hd.pe_f D_known_sizes (hr.mono (by decide)) (by rfl) (pa_cons (pv 0) pa_nil)) pa_nil)) (blkOk_by (by first | (change blkC N_amid (defScope (Hd.top 16)) _ _ = true; decide +kernel) | rfl)) (fun _ _ _ _ _ => (kg_tup (K := K) (n := 2) rfl rfl (pgs_cons (pg_name (i := 10) sc_amid.nd rfl (Or.inl rfl)) (pgs_cons (pg_name (i := 12) sc_amid.nd rfl (Or.inl rfl)) pgs_nil)))) (fun _ _ _ _ _ => pts_nil) (fun _ _ _ _ _ => (pe_op op_sub (pv 12) (pe_callTy call_int1 (by rfl) (Y.free 69) bt_int (pa_cons (pe_cmpR op_le (pv 6) (pv 10) (nomark _)) pa_nil))))) pa_nil))) (pss_one (ps_ret (pe_tupN (pa_cons (pe_tupN (ka_star (K := K) rfl (pe_slice (ks_U (K := K) rfl) (pv 2) po_none (po_some (pv 7))) (ka_star (K := K) rfl (pe_slice (ks_U (K := K) rfl) (pv 2) (po_some (pe_op (ko_add (K := K) rfl) (pv 7) pe_int)) po_none) pa_nil))) (pa_cons (Hd.pe_f D_tightened (hr.mono (by decide)) (by rfl) (pa_cons (pv 8) (pa_cons (pv 9) pa_nil))) (pa_cons (pv 9) pa_nil))))))))))), fun ⟨n, m, r, k, x, i⟩ F0 H0 Q hp hQ => ?_⟩
  change Tr ⟨K, none, F0, H0, F0⟩ [.dat (dKn (n + 1) m k), .dat (dAsk x i), .un, .un, .un, .un, .un, .un, .un, .un, .un, .un, .un] [] _ _
  obtain ⟨hn, hm, ok, hx, can⟩ : n ≤ 100 ∧ m ≤ 100 ∧ FK.KOk (n + 1) m r k ∧ x < n + 1 ∧ FK.Can (n + 1) m k (FK.placeOf k x) i := hp
  have hxo : x ∈ k.order := ok.mem.mpr hx
  have he : FK.placeOf k x ≤ n := FK.place_lt ok hx
  refine t_seq (t_asgD (ev_d rfl) (tg_tup rfl (tgs_name (tgs_name (tgs_nil fun σ H h => h.go ?_)))))
  refine t_seq (t_asgD (ev_d rfl) (tg_tup rfl (tgs_name (tgs_name (tgs_name (tgs_nil fun σ H h => h.go ?_))))))
  refine t_seq (t_set (ee_d (ev_index (ns := _) (Ev.is (ev_d rfl) ((by rw [dNs_ints]))) (ev_d rfl) (idx_at hxo) (fun m hm => idx_no hm))) fun σ H h => h.go ?_)
  refine t_seq (t_set (ee_l (EvL.is (ds' := tab m fun j => dRow (n + 1) (FK.rowT k (FK.placeOf k x) i j)) (el_map _ (src_enumT (ea_cons (ev_d rfl) ea_nil) (.t _)) (by simp) (by simp; omega) (fun a ha => tgc_2 (by simp) (by simp)) (fun a ha => (ev_call ((n, k.W a, FK.placeOf k x, decide ((i : Int) ≤ (a : Int)))) (EvA.is (ea_cons (ev_d rfl) (ea_cons (ev_d rfl) (ea_cons (ev_op (ev_d rfl) (ev_d rfl) rv_b) ea_nil))) rfl) (by exact ⟨by omega, he⟩)))) ?_)) fun p σ H h => ?_)
  · refine tab_congr fun j hj => ?_
    unfold FK.rowT
    by_cases e : i ≤ j
    · rw [if_pos e]; show dRow (n + 1) (if decide ((i : Int) ≤ (j : Int)) = true then _ else _) = _; rw [if_pos (decide_eq_true (by omega))]
    · rw [if_neg e]; show dRow (n + 1) (if decide ((i : Int) ≤ (j : Int)) = true then _ else _) = _; rw [if_neg (by simpa using e)]
  have h := Pst.freeze (ms1 := []) (i := 8) h rfl
  refine h.go (t_seq (t_set (ee_d (Ev.is (s' := .dat (dRow m (FK.sz k (n + 1) i))) (ev_cb (ea_cons (EvL.data (el_map _ (src_enumT (ea_cons (ev_call ((n + 1, m, k)) (EvA.is (ea_cons (ev_d rfl) ea_nil) rfl) hm) ea_nil) (.t _)) (by simp) (by simp; omega) (fun a ha => tgc_2 (by simp) (by simp)) (fun a ha => (ev_op (ev_d rfl) (ev_cb (ea_cons (ev_op (ev_d rfl) (ev_d rfl) rv_b) ea_nil) rc_intB) rv_i)))) ea_nil) rc_tupL) ?_)) fun σ H h => h.go ?_))
  · congr 2
    refine tab_congr fun j hj => ?_
    show PyData.int _ = PyData.int (FK.sz k (n + 1) i j)
    unfold FK.sz
    by_cases e : i ≤ j
    · rw [if_pos e, if_pos (decide_eq_true (by omega))]
    · rw [if_neg e, if_neg (by simpa using e)]; congr 1; show k.W j (n + 1) - 0 = k.W j (n + 1); omega
  refine t_retD (Ev.is (ev_tup3 (ea_cons (ev_tup (EvA.is (ea_starT (ev_slToX (k := (FK.placeOf k x)) (ev_d rfl) (Ev.is (ev_d rfl) rfl) ) (ea_starT (ev_slFromX (k := (FK.placeOf k x + 1)) (ev_d rfl) (Ev.is (ev_op (ev_d rfl) ev_int rv_addI) ((by simp [FK.placeOf])))) ea_nil)) st2) ?_) (ea_cons (ev_call ((m, n, FK.rowT k (FK.placeOf k x) i, FK.sz k (n + 1) i, FK.fT k n (FK.placeOf k x) i, FK.Wt k (FK.placeOf k x) i)) (EvA.is (ea_cons (ev_d rfl) (ea_cons (ev_d rfl) ea_nil)) rfl) (by exact ⟨ok.mpos, hm, Nat.le_trans hn (by decide), fun j hj => FK.stp_T ok he can hj, FK.tight_T ok he can⟩)) (ea_cons (ev_d rfl) ea_nil)))) ?_) hQ
  · have := ok.len
    simp
    omega
  · show Sl.dat (.tuple [.tuple (dNs _ ++ dNs _), _, _]) = _
    rw [show FK.placeOf k x = k.order.idxOf x from rfl, erase_cut ok.nodup hxo]
end
end FW
end
section
set_option linter.all false
set_option maxRecDepth 100000
set_option maxHeartbeats 4000000
namespace FW
open PySem PySem.Spec PyProof.Rows L2
section
variable {P : Program} {w : World} {K : PySem.W.Frag} {mg : Str → Option Value} {base : Heap}
theorem st1 {x : PD} {xs : List PD} : Sl.dat x :: (xs.map Sl.dat ++ []) = (x :: xs).map Sl.dat := by simp
/-- if test: x = e -/
theorem t_ifset {C : Cn} {G : List Sl} {ms : Ms} {te : TE} {tt : TT} {D : Ends} {i : Nat} {b : Bool} {d1 d2 d3 : PD} (hi : G[i]? = some (.dat d2)) (h : EvT C tt G ms b) (h1 : b = true → Ev C te G ms (.dat d1)) (e : (if b = true then d1 else d2) = d3) (k : ∀ σ H, Pst C (G.set i (.dat d3)) ms σ H → D.nx σ H) :
    Tr C G ms (tIfS tt (tAsg te (gName i)) tNext) D := by
  refine t_ifD h (fun hb => ?_) fun hb => ?_
  · rw [if_pos hb] at e
    subst e
    exact t_set (ee_d (h1 hb)) fun σ H h => k σ H h
  · rw [if_neg (by rw [hb]; exact Bool.false_ne_true)] at e
    subst e
    refine t_next fun σ H h => k σ H ?_
    have e2 : G.set i (.dat d2) = G := by
      refine List.ext_getElem? fun j => ?_
      by_cases hj : i = j
      · subst hj
        rw [List.getElem?_set_self (List.getElem?_eq_some_iff.mp hi).1, hi]
      · rw [List.getElem?_set_ne hj]
    rw [e2]
    exact h
abbrev N_led : List Str := ["house", "knowledge", "entry", "order", "words", "sizes", "word", "thing", "found", "row", "rows", "rooms", "floor", "item"]
abbrev P_led : List Str := ["house", "knowledge", "entry"]
theorem sc_led : FnScope N_led P_led (defScope (Hd.top 18)) := ⟨rfl, rfl, rfl, by decide +kernel, rfl, by decide +kernel, by decide +kernel⟩
abbrev Ok_led (P : Program) (w : World) (K : PySem.W.Frag) (mg : Str → Option Value) (base : Heap) : Prop := Hd.OkF P w K mg base 4 "led" P_led (Pr K (α := Nat × Nat × (Nat → Nat) × FK.Kn × Nat × Nat) (fun a => [dHouse (a.1 + 1) a.2.1 a.2.2.1, dKn (a.1 + 1) a.2.1 a.2.2.2.1, dAsk a.2.2.2.2.1 a.2.2.2.2.2]) (fun a => a.1 ≤ 100 ∧ a.2.1 ≤ 100 ∧ FK.KOk (a.1 + 1) a.2.1 a.2.2.1 a.2.2.2.1 ∧ a.2.2.2.2.1 < a.1 + 1 ∧ FK.Can (a.1 + 1) a.2.1 a.2.2.2.1 (FK.placeOf a.2.2.2.1 a.2.2.2.2.1) a.2.2.2.2.2) (fun a => dKn (a.1 + 1) a.2.1 (FK.ledK (a.1 + 1) a.2.2.1 a.2.2.2.1 a.2.2.2.2.1 a.2.2.2.2.2)))
theorem ok_led (Y : Hd.Ok K mg) (D_amid : Ok_amid P w K mg base) (D_lost_one : Ok_lost_one P w K mg base) (D_rooms_within : Ok_rooms_within P w K mg base) : Ok_led P w K mg base := by
  refine mkPr (i := 11) (j := 18) (k := 3) Y rfl rfl sc_led (fun _ _ _ _ _ _ us hl => match us, hl with | [_, _, _], _ => rfl) 11 rfl (fun _ => rfl) fun cdv A' outer s H E hr => ⟨_, (pss_cons (ps_asg (Hd.pe_f D_amid (hr.mono (by decide)) (by rfl) (pa_cons (pv 1) (pa_cons (pv 2) pa_nil))) (kg_tup (K := K) (n := 3) rfl rfl (pgs_cons (pg_name (i := 3) sc_led.nd rfl (Or.inl rfl)) (pgs_cons (pg_name (i := 4) sc_led.nd rfl (Or.inl rfl)) (pgs_cons (pg_name (i := 5) sc_led.nd rfl (Or.inl rfl)) pgs_nil))))) (pss_cons (ps_if (pt_cmp (pc_isN (pv 4))) (pss_one ps_never) pss_nil) (pss_cons (ps_asg (pv 2) (kg_tup (K := K) (n := 3) rfl rfl (pgs_cons (pg_name (i := 6) sc_led.nd rfl (Or.inl rfl)) (pgs_cons (pg_name (i := 7) sc_led.nd rfl (Or.inl rfl)) (pgs_cons (pg_name (i := 8) sc_led.nd rfl (Or.inl rfl)) pgs_nil))))) (pss_cons (ps_if (pt_cmpR (ko_eq (K := K) rfl hr) (pv 6) pe_str (nomark _)) (pss_one (ps_ret (pe_tupN (pa_cons (pe_tupN (ka_star (K := K) rfl (pv 3) (pa_cons (pv 7) pa_nil))) (pa_cons (pe_callTy (kc_tup (K := K) rfl) (by rfl) (Y.free 80) bt_tuple (pa_cons (pe_lc (own := [("row", 9)]) rfl sc_led.nd (kp_seq (K := K) rfl (pv 4)) (blkOk_by (by first | (change blkC N_led (defScope (Hd.top 18)) _ _ = true; decide +kernel) | rfl)) (fun _ _ _ _ _ => (pg_name (i := 9) sc_led.nd rfl (Or.inl rfl))) (fun _ _ _ _ _ => pts_nil) (fun _ _ _ _ _ => (pe_tupN (ka_star (K := K) rfl (pv 9) (pa_cons (pe_ix (ki_seq (K := K) rfl) (pv 9) (pe_un un_neg pe_int) (fun _ _ => rfl)) pa_nil))))) pa_nil)) pa_nil))))) pss_nil) (pss_cons (ps_par (i := 10) (j := 11) rfl sc_led.nd rfl rfl (by decide) rfl rfl (pa_cons (pe_lst pa_nil) (pa_cons (Hd.pe_f D_rooms_within (hr.mono (by decide)) (by rfl) (pa_cons (pv 0) pa_nil)) pa_nil)) (by rfl)) (pss_cons (ps_for PassesOwn.never rfl (kp_enum (K := K) rfl (by rfl) (Y.free 68) (pa_cons (pv 4) pa_nil)) (kg_tup (K := K) (n := 2) rfl rfl (pgs_cons (pg_name (i := 12) sc_led.nd rfl (Or.inl rfl)) (pgs_cons (pg_name (i := 9) sc_led.nd rfl (Or.inl rfl)) pgs_nil))) (pss_cons (ps_if (PW.pt (pw_and (pt_cmpR op_lt (pv 12) (pv 8) (nomark _)) (pw_and1 (pt_cmpR (ko_eq (K := K) rfl hr) (pe_ix (ki_seq (K := K) rfl) (pv 5) (pv 12) (fun _ _ => rfl)) (pe_ix (ki_seq (K := K) rfl) (pv 11) (pv 12) (fun _ _ => rfl)) (nomark _))))) (pss_one (ps_set (i := 9) sc_led.nd rfl (Or.inl rfl) (Hd.pe_f D_lost_one (hr.mono (by decide)) (by rfl) (pa_cons (pv 9) pa_nil)))) pss_nil) (pss_one (ps_expr (ke_bm (K := K) rfl PySem.F.plainAttrs_list PySem.F.slot_list_append PySem.F.type_list_append mt_append (pv 10) (pa_cons (pe_tupN (pa_cons pe_int (ka_star (K := K) rfl (pe_lc (own := [("item", 13)]) rfl sc_led.nd (kp_seq (K := K) rfl (pv 9)) (blkOk_by (by first | (change blkC N_led (defScope (Hd.top 18)) _ _ = true; decide +kernel) | rfl)) (fun _ _ _ _ _ => (pg_name (i := 13) sc_led.nd rfl (Or.inl rfl))) (fun _ _ _ _ _ => pts_nil) (fun _ _ _ _ _ => (pe_op (ko_add (K := K) rfl) (pv 13) pe_int))) pa_nil))) pa_nil)))))) (pss_one (ps_ret (pe_tupN (pa_cons (pe_tupN (pa_cons (pv 7) (ka_star (K := K) rfl (pv 3) pa_nil))) (pa_cons (pe_callTy (kc_tup (K := K) rfl) (by rfl) (Y.free 80) bt_tuple (pa_cons (pv 10) pa_nil)) pa_nil))))))))))), fun ⟨n, m, r, k, x, i⟩ F0 H0 Q hp hQ => ?_⟩
  change Tr ⟨K, none, F0, H0, F0⟩ [.dat (dHouse (n + 1) m r), .dat (dKn (n + 1) m k), .dat (dAsk x i), .un, .un, .un, .un, .un, .un, .un, .un, .un, .un, .un] [] _ _
  obtain ⟨hn, hm, ok, hx, can⟩ : n ≤ 100 ∧ m ≤ 100 ∧ FK.KOk (n + 1) m r k ∧ x < n + 1 ∧ FK.Can (n + 1) m k (FK.placeOf k x) i := hp
  have len : (k.order.erase x).length ≤ 200 := by
    have := List.length_erase_le (a := x) (l := k.order)
    rw [ok.len] at this
    omega
  refine t_seq (t_asgD (ev_call ((n, m, r, k, x, i)) (EvA.is (ea_cons (ev_d rfl) (ea_cons (ev_d rfl) ea_nil)) rfl) (by exact ⟨hn, hm, ok, hx, can⟩)) (tg_tup rfl (tgs_name (tgs_name (tgs_name (tgs_nil fun σ H h => h.go ?_))))))
  refine t_seq (t_ifD (b := false) (EvT.is (et_B (ev_isN (ev_d rfl))) rfl) (fun e => nomatch e) fun _ => t_next fun σ H h => h.go ?_)
  refine t_seq (t_asgD (ev_d rfl) (tg_tup rfl (tgs_name (tgs_name (tgs_name (tgs_nil fun σ H h => h.go ?_))))))
  refine t_seq (t_ifD (b := false) (EvT.is (et_test (ev_op (ev_d rfl) ev_str rv_eqUS)) (by decide)) (fun e => nomatch e) fun _ => t_next fun σ H h => h.go ?_)
  refine t_seq (t_par (ees_cons (ee_l el_nil) (ees_cons (ee_d (ev_call ((n + 1, m, r)) (EvA.is (ea_cons (ev_d rfl) ea_nil) rfl) hm)) ees_nil)) fun p => ⟨_, _, rfl, fun σ H h => h.go ?_⟩)
  refine t_seq (t_forT (src_enumT (ea_cons (ev_d rfl) ea_nil) (.t _)) (fun c G ms => G = [.dat (dHouse (n + 1) m r), .dat (dKn (n + 1) m k), .dat (dAsk x i), .dat (.tuple (dNs (k.order.erase x))), .dat (dWs n m (FK.Wt k (FK.placeOf k x) i)), .dat (dRow m (FK.sz k (n + 1) i)), .dat (.str "ask"), .dat (dN x), .dat (dN i), .un, .ml p, .dat (dRow m (FK.RW r)), .un, .un] ∧ ms = [(p, tab c fun j => dRow (n + 1 + 1) (FK.Wn k (n + 1) r (FK.placeOf k x) i j))]) ⟨rfl, rfl⟩ ?_ ?_)
  · rintro j hj Fl G ms ⟨rfl, rfl⟩
    have hj : j < m := hj
    refine tg_tup rfl (tgs_name (tgs_name (tgs_nil fun σ H h => h.go ?_)))
    refine t_seq (t_ifset rfl (d3 := dRow (n + 1) (if FK.full k (n + 1) r i j then FK.lost (FK.Wt k (FK.placeOf k x) i j) else FK.Wt k (FK.placeOf k x) i j)) (et_and (et_test (ev_op (ev_d rfl) (ev_d rfl) rv_b)) fun hb => (et_test (ev_op (ev_op (ev_d rfl) (ev_d rfl) (rv_ixT (at_tab j hj rfl))) (ev_op (ev_d rfl) (ev_d rfl) (rv_ixT (at_tab j hj rfl))) rv_eqUI))) (fun hb => (ev_call ((n + 1, FK.Wt k (FK.placeOf k x) i j)) (EvA.is (ea_cons (ev_d rfl) ea_nil) rfl) (show n + 1 ≤ 1001 by omega))) ?_ fun σ H h => h.go ?_)
    · by_cases e : FK.full k (n + 1) r i j
      · rw [if_pos e]
        have e2 := e.2
        have e1 := e.1
        have hz : FK.sz k (n + 1) i j = FK.RW r j := by unfold FK.sz; rw [if_neg (by omega)]; exact e2
        rw [if_pos (by rw [hz, decide_eq_true (by omega : (j : Int) < (i : Int)), decide_eq_true rfl]; rfl)]
      · rw [if_neg e]
        refine if_neg fun z => e ?_
        rw [Bool.and_eq_true] at z
        have z1 := of_decide_eq_true z.1
        have z2 := of_decide_eq_true z.2
        have hz : FK.sz k (n + 1) i j = k.W j (n + 1) := by unfold FK.sz; rw [if_neg (by omega)]
        exact ⟨by omega, by rw [← hz]; exact z2⟩
    · refine t_appD (ev_m rfl) (Ev.is (s' := .dat (dRow (n + 1 + 1) (FK.Wn k (n + 1) r (FK.placeOf k x) i j))) (ev_tup (EvA.is (ea_cons ev_int (ea_starL (EvL.data (el_map _ (src_t (ev_d rfl)) (by simp) (by simp; omega) (fun a ha => tgc_name (by simp)) (fun a ha => (ev_op (ev_d rfl) ev_int rv_addI)))) ea_nil)) st1) ((by simp; omega))) ?_) (k := 0) rfl (by simp; omega) fun σ H h => ?_
      · congr 2
        refine tab_cons.trans (tab_congr fun d hd => ?_)
        cases d <;> rfl
      · exact (h.forget (.keep _ (.keep _ (.keep _ (.keep _ (.keep _ (.keep _ (.keep _ (.keep _ (.keep _ (.drop _ (.keep _ (.keep _ (.drop _ (Fg.refl _))))))))))))))).inv ⟨rfl, by rw [← tab_snoc]; rfl⟩
  · rintro G ms ⟨rfl, rfl⟩ σ H h
    refine h.go (t_retD (ev_tup2 (ea_cons (ev_tup (EvA.is (ea_cons (ev_d rfl) (ea_starT (ev_d rfl) ea_nil)) st1) ((by simp; omega))) (ea_cons (ev_cb (ea_cons (ev_m rfl) ea_nil) (rc_tupM mem0)) ea_nil))) hQ)
abbrev N_surely_within : List Str := ["knowledge", "thing", "floor", "place"]
abbrev P_surely_within : List Str := ["knowledge", "thing", "floor"]
theorem sc_surely_within : FnScope N_surely_within P_surely_within (defScope (Hd.top 23)) := ⟨rfl, rfl, rfl, by decide +kernel, rfl, by decide +kernel, by decide +kernel⟩
abbrev Ok_surely_within (P : Program) (w : World) (K : PySem.W.Frag) (mg : Str → Option Value) (base : Heap) : Prop := Hd.OkF P w K mg base 1 "surely_within" P_surely_within (Pr K (α := Nat × Nat × (Nat → Nat) × FK.Kn × Nat × Nat) (fun a => [dKn (a.1 + 1) a.2.1 a.2.2.2.1, dN a.2.2.2.2.1, dN a.2.2.2.2.2]) (fun a => FK.KOk (a.1 + 1) a.2.1 a.2.2.1 a.2.2.2.1 ∧ a.2.2.2.2.1 < a.1 + 1 ∧ a.2.2.2.2.2 < a.2.1) (fun a => .bool (FK.sureJ a.2.2.2.1 (FK.placeOf a.2.2.2.1 a.2.2.2.2.1) a.2.2.2.2.2)))
theorem ok_surely_within (Y : Hd.Ok K mg) : Ok_surely_within P w K mg base := by
  refine mkPr (i := 15) (j := 23) (k := 0) Y rfl rfl sc_surely_within (fun _ _ _ _ _ _ us hl => match us, hl with | [_, _, _], _ => rfl) 1 rfl (fun _ => rfl) fun cdv A' outer s H E hr => ⟨_, (pss_cons (ps_set (i := 3) sc_surely_within.nd rfl (Or.inl rfl) (pe_tm PySem.F.slot_tuple_index PySem.F.type_tuple_index (km_tindex (K := K) rfl) (pe_ix (ki_seq (K := K) rfl) (pv 0) pe_int (fun _ _ => rfl)) (pa_cons (pv 1) pa_nil))) (pss_one (ps_ret (pe_cmpR (ko_eq (K := K) rfl hr) (pe_ix (ki_seq (K := K) rfl) (pe_ix (ki_seq (K := K) rfl) (pe_ix (ki_seq (K := K) rfl) (pv 0) pe_int (fun _ _ => rfl)) (pv 2) (fun _ _ => rfl)) (pe_op (ko_add (K := K) rfl) (pv 3) pe_int) (fun _ _ => rfl)) (pe_op (ko_add (K := K) rfl) (pv 3) pe_int) (nomark _))))), fun ⟨n, m, r, k, x, j⟩ F0 H0 Q hp hQ => ?_⟩
  change Tr ⟨K, none, F0, H0, F0⟩ [.dat (dKn (n + 1) m k), .dat (dN x), .dat (dN j), .un] [] _ _
  obtain ⟨ok, hx, hj⟩ : FK.KOk (n + 1) m r k ∧ x < n + 1 ∧ j < m := hp
  have hxo : x ∈ k.order := ok.mem.mpr hx
  have he : FK.placeOf k x ≤ n := FK.place_lt ok hx
  refine t_seq (t_set (ee_d (ev_index (ns := _) (Ev.is (ev_op (ev_d rfl) ev_int (rv_ixT (at_of (k := 0) rfl rfl))) ((by rw [dNs_ints]))) (ev_d rfl) (idx_at hxo) (fun m hm => idx_no hm))) fun σ H h => h.go ?_)
  exact t_retD (ev_op (ev_op (ev_op (ev_op (ev_d rfl) ev_int (rv_ixT (at_of (k := 1) rfl rfl))) (ev_d rfl) (rv_ixT (at_tab j hj rfl))) (ev_op (ev_d rfl) ev_int rv_addI) (rv_ixT (at_tab (FK.placeOf k x + 1) (by omega) rfl))) (ev_op (ev_d rfl) ev_int rv_addI) rv_eqUI) hQ
abbrev N_may_be_within : List Str := ["knowledge", "thing", "floor", "word"]
abbrev P_may_be_within : List Str := ["knowledge", "thing", "floor"]
theorem sc_may_be_within : FnScope N_may_be_within P_may_be_within (defScope (Hd.top 24)) := ⟨rfl, rfl, rfl, by decide +kernel, rfl, by decide +kernel, by decide +kernel⟩
abbrev Ok_may_be_within (P : Program) (w : World) (K : PySem.W.Frag) (mg : Str → Option Value) (base : Heap) : Prop := Hd.OkF P w K mg base 1 "may_be_within" P_may_be_within (Pr K (α := Nat × Nat × (Nat → Nat) × FK.Kn × Nat × Nat) (fun a => [dKn (a.1 + 1) a.2.1 a.2.2.2.1, dN a.2.2.2.2.1, dN a.2.2.2.2.2]) (fun a => FK.KOk (a.1 + 1) a.2.1 a.2.2.1 a.2.2.2.1 ∧ a.2.2.2.2.1 < a.1 + 1 ∧ a.2.2.2.2.2 < a.2.1) (fun a => .bool (FK.mayJ a.2.2.2.1 (a.1 + 1) (FK.placeOf a.2.2.2.1 a.2.2.2.2.1) a.2.2.2.2.2)))
theorem ok_may_be_within (Y : Hd.Ok K mg) : Ok_may_be_within P w K mg base := by
  refine mkPr (i := 16) (j := 24) (k := 0) Y rfl rfl sc_may_be_within (fun _ _ _ _ _ _ us hl => match us, hl with | [_, _, _], _ => rfl) 1 rfl (fun _ => rfl) fun cdv A' outer s H E hr => ⟨_, (pss_cons (ps_set (i := 3) sc_may_be_within.nd rfl (Or.inl rfl) (pe_ix (ki_seq (K := K) rfl) (pe_ix (ki_seq (K := K) rfl) (pv 0) pe_int (fun _ _ => rfl)) (pv 2) (fun _ _ => rfl))) (pss_one (ps_ret (pe_cmpR op_lt (pe_ix (ki_seq (K := K) rfl) (pv 3) (pe_tm PySem.F.slot_tuple_index PySem.F.type_tuple_index (km_tindex (K := K) rfl) (pe_ix (ki_seq (K := K) rfl) (pv 0) pe_int (fun _ _ => rfl)) (pa_cons (pv 1) pa_nil)) (fun _ _ => rfl)) (pe_ix (ki_seq (K := K) rfl) (pv 3) (pe_un un_neg pe_int) (fun _ _ => rfl)) (nomark _))))), fun ⟨n, m, r, k, x, j⟩ F0 H0 Q hp hQ => ?_⟩
  change Tr ⟨K, none, F0, H0, F0⟩ [.dat (dKn (n + 1) m k), .dat (dN x), .dat (dN j), .un] [] _ _
  obtain ⟨ok, hx, hj⟩ : FK.KOk (n + 1) m r k ∧ x < n + 1 ∧ j < m := hp
  have hxo : x ∈ k.order := ok.mem.mpr hx
  have he : FK.placeOf k x ≤ n := FK.place_lt ok hx
  refine t_seq (t_set (ee_d (ev_op (ev_op (ev_d rfl) ev_int (rv_ixT (at_of (k := 1) rfl rfl))) (ev_d rfl) (rv_ixT (at_tab j hj rfl)))) fun σ H h => h.go ?_)
  exact t_retD (ev_op (ev_op (ev_d rfl) (ev_index (ns := _) (Ev.is (ev_op (ev_d rfl) ev_int (rv_ixT (at_of (k := 0) rfl rfl))) ((by rw [dNs_ints]))) (ev_d rfl) (idx_at hxo) (fun m hm => idx_no hm)) (rv_ixT (at_tab (FK.placeOf k x) (by omega) rfl))) (ev_op (ev_d rfl) (ev_neg ev_int) (rv_ixT at_last)) rv_b) hQ
end
end FW
end
section
set_option linter.all false
set_option maxRecDepth 100000
set_option maxHeartbeats 4000000
namespace FW
open PySem PySem.Spec PyProof.Rows L2
section
variable {P : Program} {w : World} {K : PySem.W.Frag} {mg : Str → Option Value} {base : Heap}
theorem sizeA_get {n m : Nat} {k : FK.Kn} {j : Nat} (hj : j < m) : (PyData.int 0 :: tab m fun j => PyData.int (k.W j n))[j]? = some (.int (FK.sizeA k n j)) := by
  cases j with
  | zero => rfl
  | succ j => rw [List.getElem?_cons_succ]; exact tab_get (by omega)
theorem map_get {α β : Type} {f : α → β} {xs : List α} {i : Nat} {x : α} (h : xs[i]? = some x) : (xs.map f)[i]? = some (f x) := by rw [List.getElem?_map, h]; rfl
theorem first_at {l : List Nat} (h : l ≠ []) : atI (dNs l) 0 = some (dN (l.headD 0)) := by
  cases l with
  | nil => exact absurd rfl h
  | cons a l => exact at_of (k := 0) rfl rfl
theorem dNs_app {a b : List Nat} : dNs (a ++ b) = dNs a ++ dNs b := List.map_append
theorem dNs_snoc {a : List Nat} {b : Nat} : dNs (a ++ [b]) = dNs a ++ [dN b] := List.map_append
theorem last_at {l : List Nat} (h : l ≠ []) : atI (dNs l) (-1) = some (dN (l.getLastD 0)) := by
  refine at_lastL ?_
  rw [List.length_map]
  refine map_get ?_
  rw [List.getLastD_eq_getLast?, List.getLast?_eq_getElem?]
  have : l.length ≠ 0 := fun e => h (List.eq_nil_of_length_eq_zero e)
  rw [List.getElem?_eq_getElem (by omega)]; rfl
abbrev N_floors_of : List Str := ["house", "knowledge", "thing", "sizes", "found", "floor", "size", "beyond"]
abbrev P_floors_of : List Str := ["house", "knowledge", "thing"]
theorem sc_floors_of : FnScope N_floors_of P_floors_of (defScope (Hd.top 25)) := ⟨rfl, rfl, rfl, by decide +kernel, rfl, by decide +kernel, by decide +kernel⟩
abbrev Ok_floors_of (P : Program) (w : World) (K : PySem.W.Frag) (mg : Str → Option Value) (base : Heap) : Prop := Hd.OkF P w K mg base 2 "floors_of" P_floors_of (Pr K (α := Nat × Nat × (Nat → Nat) × FK.Kn × Nat) (fun a => [dHouse (a.1 + 1) a.2.1 a.2.2.1, dKn (a.1 + 1) a.2.1 a.2.2.2.1, dN a.2.2.2.2]) (fun a => a.1 ≤ 100 ∧ a.2.1 ≤ 100 ∧ FK.KOk (a.1 + 1) a.2.1 a.2.2.1 a.2.2.2.1 ∧ a.2.2.2.2 < a.1 + 1) (fun a => .tuple (dNs (FK.floorsL a.2.1 (a.1 + 1) a.2.2.2.1 (FK.placeOf a.2.2.2.1 a.2.2.2.2)))))
theorem ok_floors_of (Y : Hd.Ok K mg) (D_known_sizes : Ok_known_sizes P w K mg base) (D_may_be_within : Ok_may_be_within P w K mg base) (D_surely_within : Ok_surely_within P w K mg base) : Ok_floors_of P w K mg base := by
  refine mkPr (i := 17) (j := 25) (k := 1) Y rfl rfl sc_floors_of (fun _ _ _ _ _ _ us hl => match us, hl with | [_, _, _], _ => rfl) 5 rfl (fun _ => rfl) fun cdv A' outer s H E hr => ⟨_, (pss_cons (ps_par (i := 3) (j := 4) rfl sc_floors_of.nd rfl rfl (by decide) rfl rfl (pa_cons (Hd.pe_f D_known_sizes (hr.mono (by decide)) (by rfl) (pa_cons (pv 1) pa_nil)) (pa_cons (pe_lst pa_nil) pa_nil)) (by rfl)) (pss_cons (ps_for PassesOwn.never rfl (kp_enum (K := K) rfl (by rfl) (Y.free 68) (pa_cons (pv 3) pa_nil)) (kg_tup (K := K) (n := 2) rfl rfl (pgs_cons (pg_name (i := 5) sc_floors_of.nd rfl (Or.inl rfl)) (pgs_cons (pg_name (i := 6) sc_floors_of.nd rfl (Or.inl rfl)) pgs_nil))) (pss_cons (ps_set (i := 7) sc_floors_of.nd rfl (Or.inl rfl) (pe_or (pe_cmpR (ko_eq (K := K) rfl hr) (pv 5) pe_int (nomark _)) (pe_one (pe_not (Hd.pe_f D_surely_within (hr.mono (by decide)) (by rfl) (pa_cons (pv 1) (pa_cons (pv 2) (pa_cons (pe_op op_sub (pv 5) pe_int) pa_nil)))))))) (pss_one (ps_if (PW.pt (pw_and (pt_val (pv 7)) (pw_and (pt_cmpR op_gt (pv 6) (pe_ix (ki_seq (K := K) rfl) (pe_tupN (pa_cons pe_int (ka_star (K := K) rfl (pv 3) pa_nil))) (pv 5) (fun _ _ => rfl)) (nomark _)) (pw_and1 (pt_val (Hd.pe_f D_may_be_within (hr.mono (by decide)) (by rfl) (pa_cons (pv 1) (pa_cons (pv 2) (pa_cons (pv 5) pa_nil))))))))) (pss_one (ps_expr (ke_bm (K := K) rfl PySem.F.plainAttrs_list PySem.F.slot_list_append PySem.F.type_list_append mt_append (pv 4) (pa_cons (pv 5) pa_nil)))) pss_nil)))) (pss_cons (ps_if (pt_not (pt_val (Hd.pe_f D_surely_within (hr.mono (by decide)) (by rfl) (pa_cons (pv 1) (pa_cons (pv 2) (pa_cons (pe_op op_sub (pe_callB (kc_len (K := K) rfl) (by rfl) (Y.free 71) bt_len (pa_cons (pv 3) pa_nil)) pe_int) pa_nil)))))) (pss_one (ps_expr (ke_bm (K := K) rfl PySem.F.plainAttrs_list PySem.F.slot_list_append PySem.F.type_list_append mt_append (pv 4) (pa_cons (pe_callB (kc_len (K := K) rfl) (by rfl) (Y.free 71) bt_len (pa_cons (pe_ix (ki_seq (K := K) rfl) (pv 0) pe_int (fun _ _ => rfl)) pa_nil)) pa_nil)))) pss_nil) (pss_one (ps_ret (pe_callTy (kc_tup (K := K) rfl) (by rfl) (Y.free 80) bt_tuple (pa_cons (pv 4) pa_nil))))))), fun ⟨n, m, r, k, x⟩ F0 H0 Q hp hQ => ?_⟩
  change Tr ⟨K, none, F0, H0, F0⟩ [.dat (dHouse (n + 1) m r), .dat (dKn (n + 1) m k), .dat (dN x), .un, .un, .un, .un, .un] [] _ _
  obtain ⟨hn, hm, ok, hx⟩ : n ≤ 100 ∧ m ≤ 100 ∧ FK.KOk (n + 1) m r k ∧ x < n + 1 := hp
  have mpos := ok.mpos
  refine t_seq (t_par (ees_cons (ee_d (ev_call ((n + 1, m, k)) (EvA.is (ea_cons (ev_d rfl) ea_nil) rfl) hm)) (ees_cons (ee_l el_nil) ees_nil)) fun p => ⟨_, _, rfl, fun σ H h => h.go ?_⟩)
  refine t_seq (t_forT (src_enumT (ea_cons (ev_d rfl) ea_nil) (.t _)) (fun c G ms => (∃ b : Sl, G = [.dat (dHouse (n + 1) m r), .dat (dKn (n + 1) m k), .dat (dN x), .dat (dRow m fun j => k.W j (n + 1)), .ml p, .un, .un, b]) ∧ ms = [(p, dNs ((List.range c).filter (fun j => !FK.sureA k (FK.placeOf k x) j && (decide (FK.sizeA k (n + 1) j < k.W j (n + 1)) && FK.mayJ k (n + 1) (FK.placeOf k x) j))))]) ⟨⟨_, rfl⟩, rfl⟩ ?_ ?_)
  · rintro j hj Fl G ms ⟨⟨b, rfl⟩, rfl⟩
    have hj : j < m := hj
    have few : ((List.range j).filter (fun j => !FK.sureA k (FK.placeOf k x) j && (decide (FK.sizeA k (n + 1) j < k.W j (n + 1)) && FK.mayJ k (n + 1) (FK.placeOf k x) j))).length ≤ j := Nat.le_trans (List.length_filter_le _ _) (by simp)
    refine tg_tup rfl (tgs_name (tgs_name (tgs_nil fun σ H h => h.go ?_)))
    refine t_seq (t_set (ee_d (Ev.is (s' := dB (!FK.sureA k (FK.placeOf k x) j)) (ev_orV (ev_op (ev_d rfl) ev_int rv_eqUI) fun hb => (ev_notV (Ev.is (s' := dB (FK.sureJ k (FK.placeOf k x) (j - 1))) (ev_call ((n, m, r, k, x, j - 1)) (EvA.is (ea_cons (ev_d rfl) (ea_cons (ev_d rfl) (ea_cons (ev_op (ev_d rfl) ev_int rv_i) ea_nil))) ?_) (by exact ⟨ok, hx, show j - 1 < m by omega⟩)) rfl))) ?_)) fun σ H h => h.go ?_)
    · have := of_decide_eq_false hb
      show [_, _, Sl.dat (.int ((j : Int) - 1))] = [_, _, Sl.dat (.int ((j - 1 : Nat) : Int))]
      congr 5
      omega
    · congr 1
      cases j with
      | zero => rfl
      | succ j =>
        rw [decide_eq_false (by omega)]
        rfl
    refine t_ifD (et_and (et_B (ev_d rfl)) fun hb => (et_and (et_test (ev_op (ev_d rfl) (ev_op (ev_tup (EvA.is (ea_cons ev_int (ea_starT (ev_d rfl) ea_nil)) st1) ((by simp; omega))) (ev_d rfl) (rv_ixT (at_of (k := j) rfl (sizeA_get hj)))) rv_b)) fun hb => (et_B (Ev.is (s' := dB (FK.mayJ k (n + 1) (FK.placeOf k x) j)) (ev_call ((n, m, r, k, x, j)) (EvA.is (ea_cons (ev_d rfl) (ea_cons (ev_d rfl) (ea_cons (ev_d rfl) ea_nil))) rfl) (by exact ⟨ok, hx, hj⟩)) rfl)))) (fun hb => ?_) fun hb => ?_
    · refine t_appD (ev_m rfl) (ev_d rfl) (k := 0) rfl (by simp; omega) fun σ H h => ?_
      refine (h.forget (.keep _ (.keep _ (.keep _ (.keep _ (.keep _ (.drop _ (.drop _ (Fg.refl _))))))))).inv ⟨⟨_, rfl⟩, cellEq ?_⟩
      rw [List.range_succ, List.filter_append, List.filter_cons_of_pos (by exact hb), dNs_app]; rfl
    · refine t_next fun σ H h => ?_
      refine (h.forget (.keep _ (.keep _ (.keep _ (.keep _ (.keep _ (.drop _ (.drop _ (Fg.refl _))))))))).inv ⟨⟨_, rfl⟩, cellEq ?_⟩
      rw [List.range_succ, List.filter_append, List.filter_cons_of_neg (by rw [show _ = false from hb]; exact Bool.false_ne_true)]
      simp
  · rintro G ms ⟨⟨b, rfl⟩, rfl⟩ σ H h
    have few : ((List.range m).filter (fun j => !FK.sureA k (FK.placeOf k x) j && (decide (FK.sizeA k (n + 1) j < k.W j (n + 1)) && FK.mayJ k (n + 1) (FK.placeOf k x) j))).length ≤ m := Nat.le_trans (List.length_filter_le _ _) (by simp)
    have hs : FK.sureA k (FK.placeOf k x) m = FK.sureJ k (FK.placeOf k x) (m - 1) := by
      obtain ⟨m', rfl⟩ : ∃ c, m = c + 1 := ⟨m - 1, by omega⟩
      rfl
    refine h.go (t_seq (t_ifD (et_not (et_B (Ev.is (s' := dB (FK.sureJ k (FK.placeOf k x) (m - 1))) (ev_call ((n, m, r, k, x, m - 1)) (EvA.is (ea_cons (ev_d rfl) (ea_cons (ev_d rfl) (ea_cons (ev_op (ev_cb (ea_cons (ev_d rfl) ea_nil) rc_lenTT) ev_int rv_i) ea_nil))) ?_) (by exact ⟨ok, hx, show m - 1 < m by omega⟩)) rfl))) (fun hb => ?_) fun hb => ?_))
    · show [_, _, Sl.dat (.int ((m : Int) - 1))] = [_, _, Sl.dat (.int ((m - 1 : Nat) : Int))]
      congr 5
      omega
    · refine t_appD (ev_m rfl) (ev_cb (ea_cons (ev_op (ev_d rfl) ev_int (rv_ixT (at_of (k := 1) rfl rfl))) ea_nil) rc_lenTT) (k := 0) rfl (by simp; omega) fun σ H h => h.go (t_retD (Ev.is (ev_cb (ea_cons (ev_m rfl) ea_nil) (rc_tupM mem0)) ?_) hQ)
      congr 2
      show dNs _ ++ [dN m] = dNs (FK.floorsL _ _ _ _)
      unfold FK.floorsL
      rw [hs, if_neg (by simpa using hb)]
      exact dNs_snoc.symm
    · refine t_next fun σ H h => h.go (t_retD (Ev.is (ev_cb (ea_cons (ev_m rfl) ea_nil) (rc_tupM mem0)) ?_) hQ)
      congr 2
      show dNs _ = dNs (FK.floorsL _ _ _ _)
      unfold FK.floorsL
      rw [hs, if_pos (by simpa using hb), List.append_nil]
abbrev N_followed : List Str := ["house", "knowledge", "row", "many", "found", "index", "thing", "floors"]
abbrev P_followed : List Str := ["house", "knowledge", "row", "many"]
theorem sc_followed : FnScope N_followed P_followed (defScope (Hd.top 33)) := ⟨rfl, rfl, rfl, by decide +kernel, rfl, by decide +kernel, by decide +kernel⟩
abbrev Ok_followed (P : Program) (w : World) (K : PySem.W.Frag) (mg : Str → Option Value) (base : Heap) : Prop := Hd.OkF P w K mg base 5 "followed" P_followed (Pr K (α := Bool × Nat × Nat × (Nat → Nat) × FK.Kn × List Nat) (fun a => [dHouse a.2.1 a.2.2.1 a.2.2.2.1, dKn a.2.1 a.2.2.1 a.2.2.2.2.1, .tuple (dNs a.2.2.2.2.2), dN (if a.1 then a.2.2.2.2.2.length else 0)]) (fun a => a.2.1 ≤ 101 ∧ a.2.2.1 ≤ 100 ∧ a.2.2.2.2.2.length ≤ 1000 ∧ FK.KOk a.2.1 a.2.2.1 a.2.2.2.1 a.2.2.2.2.1 ∧ ∀ x ∈ a.2.2.2.2.2, x < a.2.1) (fun a => .tuple (dNs (FK.follow a.1 a.2.1 a.2.2.1 a.2.2.2.1 a.2.2.2.2.1 a.2.2.2.2.2))))
theorem ok_followed (Y : Hd.Ok K mg) (D_floors_of : Ok_floors_of P w K mg base) (D_led : Ok_led P w K mg base) : Ok_followed P w K mg base := by
  refine mkPr (i := 23) (j := 33) (k := 4) Y rfl rfl sc_followed (fun _ _ _ _ _ _ us hl => match us, hl with | [_, _, _, _], _ => rfl) 4 rfl (fun _ => rfl) fun cdv A' outer s H E hr => ⟨_, (pss_cons (ps_set (i := 4) sc_followed.nd rfl (Or.inl rfl) (pe_lst pa_nil)) (pss_cons (ps_for PassesOwn.never rfl (kp_enum (K := K) rfl (by rfl) (Y.free 68) (pa_cons (pv 2) pa_nil)) (kg_tup (K := K) (n := 2) rfl rfl (pgs_cons (pg_name (i := 5) sc_followed.nd rfl (Or.inl rfl)) (pgs_cons (pg_name (i := 6) sc_followed.nd rfl (Or.inl rfl)) pgs_nil))) (pss_cons (ps_set (i := 7) sc_followed.nd rfl (Or.inl rfl) (Hd.pe_f D_floors_of (hr.mono (by decide)) (by rfl) (pa_cons (pv 0) (pa_cons (pv 1) (pa_cons (pv 6) pa_nil))))) (pss_cons (ps_expr (ke_bm (K := K) rfl PySem.F.plainAttrs_list PySem.F.slot_list_append PySem.F.type_list_append mt_append (pv 4) (pa_cons (pe_ifExp (pt_cmpR op_lt (pv 5) (pv 3) (nomark _)) (pe_ix (ki_seq (K := K) rfl) (pv 7) (pe_un un_neg pe_int) (fun _ _ => rfl)) (pe_ix (ki_seq (K := K) rfl) (pv 7) pe_int (fun _ _ => rfl))) pa_nil))) (pss_one (ps_set (i := 1) sc_followed.nd rfl (Or.inl rfl) (Hd.pe_f D_led (hr.mono (by decide)) (by rfl) (pa_cons (pv 0) (pa_cons (pv 1) (pa_cons (pe_tupN (pa_cons pe_str (pa_cons (pv 6) (pa_cons (pe_ix (ki_seq (K := K) rfl) (pv 4) (pe_un un_neg pe_int) (fun _ _ => rfl)) pa_nil)))) pa_nil))))))))) (pss_one (ps_ret (pe_callTy (kc_tup (K := K) rfl) (by rfl) (Y.free 80) bt_tuple (pa_cons (pv 4) pa_nil)))))), fun ⟨g, n, m, r, k, row⟩ F0 H0 Q hp hQ => ?_⟩
  change Tr ⟨K, none, F0, H0, F0⟩ [.dat (dHouse n m r), .dat (dKn n m k), .dat (.tuple (dNs row)), .dat (dN (if g then row.length else 0)), .un, .un, .un, .un] [] _ _
  obtain ⟨hn, hm, hl, ok, hr⟩ : n ≤ 101 ∧ m ≤ 100 ∧ row.length ≤ 1000 ∧ FK.KOk n m r k ∧ ∀ x ∈ row, x < n := hp
  refine t_seq (t_set (ee_l el_nil) fun p σ H h => h.go ?_)
  refine t_seq (t_for (src_enumX (ea_cons (ev_d rfl) ea_nil) (.t _)) (fun c G ms => (∃ fl : Sl, G = [.dat (dHouse n m r), .dat (dKn n m (FK.ledAll g n m r k (row.take c))), .dat (.tuple (dNs row)), .dat (dN (if g then row.length else 0)), .ml p, .un, .un, fl]) ∧ ms = [(p, dNs ((FK.follow g n m r k row).take c))]) ⟨⟨_, rfl⟩, rfl⟩ ?_ ?_)
  · rintro c ⟨x, c'⟩ hi Fl G ms ⟨⟨fl, rfl⟩, rfl⟩
    obtain ⟨rfl, hx⟩ : c' = c ∧ row[c]? = some x := by
      rw [List.getElem?_zipIdx] at hi
      cases e : row[c]? with
      | none => rw [e] at hi; cases hi
      | some y => rw [e] at hi; cases hi; exact ⟨by simp, rfl⟩
    have hc : c' < row.length := (List.getElem?_eq_some_iff.mp hx).1
    obtain ⟨h1, h2, h3, h4⟩ := FK.follow_at g ok hr c' x hx
    have h5 : (FK.follow g n m r k row).take (c' + 1) = (FK.follow g n m r k row).take c' ++ [FK.pick g m n (FK.ledAll g n m r k (row.take c')) (FK.placeOf (FK.ledAll g n m r k (row.take c')) x)] := by
      rw [List.take_succ, h3]; rfl
    have h6 := FK.pick_canN g h2 h1
    have few : ((FK.follow g n m r k row).take c').length ≤ 1000 := by rw [List.length_take, FK.follow_len]; omega
    rw [h4, h5]
    generalize FK.ledAll g n m r k (row.take c') = k1 at h2 h3 h6 ⊢
    obtain ⟨n, rfl⟩ : ∃ z, n = z + 1 := ⟨n - 1, by omega⟩
    obtain ⟨q1, q2, q3⟩ := FK.floorsL_head h2 (FK.place_lt h2 h1)
    refine tg_tup rfl (tgs_name (tgs_name (tgs_nil fun σ H h => h.go ?_)))
    refine t_seq (t_set (ee_d (ev_call ((n, m, r, k1, x)) (EvA.is (ea_cons (ev_d rfl) (ea_cons (ev_d rfl) (ea_cons (ev_d rfl) ea_nil))) rfl) (by exact ⟨by omega, hm, h2, h1⟩))) fun σ H h => h.go ?_)
    refine t_seq (t_appD (ev_m rfl) (Ev.is (s' := .dat (dN (FK.pick g m (n + 1) k1 (FK.placeOf k1 x)))) (ev_if (b := g) (EvT.is (et_test (ev_op (ev_d rfl) (ev_d rfl) rv_b)) ?_) (fun hb => (Ev.is (ev_op (ev_d rfl) (ev_neg ev_int) (rv_ixT (last_at q1))) ?_)) (fun hb => (Ev.is (ev_op (ev_d rfl) ev_int (rv_ixT (first_at q1))) ?_))) rfl) (k := 0) rfl (by simp; omega) fun σ H h => h.go ?_)
    · cases g with
      | true => exact decide_eq_true (by show (c' : Int) < ((row.length : Nat) : Int); omega)
      | false => exact decide_eq_false (by show ¬ (c' : Int) < ((0 : Nat) : Int); omega)
    · rw [hb]
      show Sl.dat (dN _) = Sl.dat (dN (FK.greatF m k1 (FK.placeOf k1 x)))
      rw [q3]
    · rw [hb]
      show Sl.dat (dN _) = Sl.dat (dN (FK.leastF m (n + 1) k1 (FK.placeOf k1 x)))
      rw [q2]
    refine t_set (ee_d (ev_call ((n, m, r, k1, x, FK.pick g m (n + 1) k1 (FK.placeOf k1 x))) (EvA.is (ea_cons (ev_d rfl) (ea_cons (ev_d rfl) (ea_cons (ev_tup3 (ea_cons ev_str (ea_cons (ev_d rfl) (ea_cons (ev_op (ev_m rfl) (ev_neg ev_int) (rv_ixM mem0 at_snoc)) ea_nil)))) ea_nil))) rfl) (by exact ⟨by omega, hm, h2, h1, h6⟩))) fun σ H h => ?_
    exact (h.forget (.keep _ (.keep _ (.keep _ (.keep _ (.keep _ (.drop _ (.drop _ (Fg.refl _))))))))).inv ⟨⟨_, rfl⟩, cellEq dNs_snoc.symm⟩
  · rintro G ms ⟨⟨fl, rfl⟩, rfl⟩ σ H h
    refine h.go (t_retD (Ev.is (ev_cb (ea_cons (ev_m rfl) ea_nil) (rc_tupM mem0)) ?_) hQ)
    congr 2
    rw [List.length_zipIdx, ← FK.follow_len g (n := n) (m := m) (r := r) (K := k), List.take_length]
abbrev N_least_pattern : List Str := ["house", "knowledge", "row"]
abbrev P_least_pattern : List Str := ["house", "knowledge", "row"]
theorem sc_least_pattern : FnScope N_least_pattern P_least_pattern (defScope (Hd.top 34)) := ⟨rfl, rfl, rfl, by decide +kernel, rfl, by decide +kernel, by decide +kernel⟩
abbrev Ok_least_pattern (P : Program) (w : World) (K : PySem.W.Frag) (mg : Str → Option Value) (base : Heap) : Prop := Hd.OkF P w K mg base 6 "least_pattern" P_least_pattern (Pr K (α := Nat × Nat × (Nat → Nat) × FK.Kn × List Nat) (fun a => [dHouse a.1 a.2.1 a.2.2.1, dKn a.1 a.2.1 a.2.2.2.1, .tuple (dNs a.2.2.2.2)]) (fun a => a.1 ≤ 101 ∧ a.2.1 ≤ 100 ∧ a.2.2.2.2.length ≤ 1000 ∧ FK.KOk a.1 a.2.1 a.2.2.1 a.2.2.2.1 ∧ ∀ x ∈ a.2.2.2.2, x < a.1) (fun a => .tuple (dNs (FK.follow false a.1 a.2.1 a.2.2.1 a.2.2.2.1 a.2.2.2.2))))
theorem ok_least_pattern (Y : Hd.Ok K mg) (D_followed : Ok_followed P w K mg base) : Ok_least_pattern P w K mg base := by
  refine mkPr (i := 24) (j := 34) (k := 5) Y rfl rfl sc_least_pattern (fun _ _ _ _ _ _ us hl => match us, hl with | [_, _, _], _ => rfl) 0 rfl (fun _ => rfl) fun cdv A' outer s H E hr => ⟨_, (pss_one (ps_ret (Hd.pe_f D_followed (hr.mono (by decide)) (by rfl) (pa_cons (pv 0) (pa_cons (pv 1) (pa_cons (pv 2) (pa_cons pe_int pa_nil))))))), fun ⟨n, m, r, k, row⟩ F0 H0 Q hp hQ => ?_⟩
  change Tr ⟨K, none, F0, H0, F0⟩ [.dat (dHouse n m r), .dat (dKn n m k), .dat (.tuple (dNs row))] [] _ _
  exact t_retD (ev_call ((false, n, m, r, k, row)) (EvA.is (ea_cons (ev_d rfl) (ea_cons (ev_d rfl) (ea_cons (ev_d rfl) (ea_cons ev_int ea_nil)))) rfl) hp) hQ
abbrev N_greatest_pattern : List Str := ["house", "knowledge", "row"]
abbrev P_greatest_pattern : List Str := ["house", "knowledge", "row"]
theorem sc_greatest_pattern : FnScope N_greatest_pattern P_greatest_pattern (defScope (Hd.top 35)) := ⟨rfl, rfl, rfl, by decide +kernel, rfl, by decide +kernel, by decide +kernel⟩
abbrev Ok_greatest_pattern (P : Program) (w : World) (K : PySem.W.Frag) (mg : Str → Option Value) (base : Heap) : Prop := Hd.OkF P w K mg base 6 "greatest_pattern" P_greatest_pattern (Pr K (α := Nat × Nat × (Nat → Nat) × FK.Kn × List Nat) (fun a => [dHouse a.1 a.2.1 a.2.2.1, dKn a.1 a.2.1 a.2.2.2.1, .tuple (dNs a.2.2.2.2)]) (fun a => a.1 ≤ 101 ∧ a.2.1 ≤ 100 ∧ a.2.2.2.2.length ≤ 1000 ∧ FK.KOk a.1 a.2.1 a.2.2.1 a.2.2.2.1 ∧ ∀ x ∈ a.2.2.2.2, x < a.1) (fun a => .tuple (dNs (FK.follow true a.1 a.2.1 a.2.2.1 a.2.2.2.1 a.2.2.2.2))))
theorem ok_greatest_pattern (Y : Hd.Ok K mg) (D_followed : Ok_followed P w K mg base) : Ok_greatest_pattern P w K mg base := by
  refine mkPr (i := 25) (j := 35) (k := 5) Y rfl rfl sc_greatest_pattern (fun _ _ _ _ _ _ us hl => match us, hl with | [_, _, _], _ => rfl) 0 rfl (fun _ => rfl) fun cdv A' outer s H E hr => ⟨_, (pss_one (ps_ret (Hd.pe_f D_followed (hr.mono (by decide)) (by rfl) (pa_cons (pv 0) (pa_cons (pv 1) (pa_cons (pv 2) (pa_cons (pe_callB (kc_len (K := K) rfl) (by rfl) (Y.free 71) bt_len (pa_cons (pv 2) pa_nil)) pa_nil))))))), fun ⟨n, m, r, k, row⟩ F0 H0 Q hp hQ => ?_⟩
  change Tr ⟨K, none, F0, H0, F0⟩ [.dat (dHouse n m r), .dat (dKn n m k), .dat (.tuple (dNs row))] [] _ _
  exact t_retD (ev_call ((true, n, m, r, k, row)) (EvA.is (ea_cons (ev_d rfl) (ea_cons (ev_d rfl) (ea_cons (ev_d rfl) (ea_cons (ev_cb (ea_cons (ev_d rfl) ea_nil) rc_lenT) ea_nil)))) ((by simp))) hp) hQ
abbrev N_as_log : List Str := ["row", "floors", "thing", "floor"]
abbrev P_as_log : List Str := ["row", "floors"]
theorem sc_as_log : FnScope N_as_log P_as_log (defScope (Hd.top 32)) := ⟨rfl, rfl, rfl, by decide +kernel, rfl, by decide +kernel, by decide +kernel⟩
abbrev Ok_as_log (P : Program) (w : World) (K : PySem.W.Frag) (mg : Str → Option Value) (base : Heap) : Prop := Hd.OkF P w K mg base 1 "as_log" P_as_log (Pr K (α := List Nat × List Nat) (fun a => [.tuple (dNs a.1), .tuple (dNs a.2)]) (fun a => a.1.length ≤ 1000) (fun a => .tuple ((a.1.zip a.2).map fun p => dAsk p.1 p.2)))
theorem ok_as_log (Y : Hd.Ok K mg) : Ok_as_log P w K mg base := by
  refine mkPr (i := 22) (j := 32) (k := 0) Y rfl rfl sc_as_log (fun _ _ _ _ _ _ us hl => match us, hl with | [_, _], _ => rfl) 2 rfl (fun _ => rfl) fun cdv A' outer s H E hr => ⟨_, (pss_one (ps_ret (pe_callTy (kc_tup (K := K) rfl) (by rfl) (Y.free 80) bt_tuple (pa_cons (pe_lc (own := [("thing", 2), ("floor", 3)]) rfl sc_as_log.nd (kp_zip (K := K) rfl (by rfl) (Y.free 81) (pa_cons (pv 0) (pa_cons (pv 1) pa_nil))) (blkOk_by (by first | (change blkC N_as_log (defScope (Hd.top 32)) _ _ = true; decide +kernel) | rfl)) (fun _ _ _ _ _ => (kg_tup (K := K) (n := 2) rfl rfl (pgs_cons (pg_name (i := 2) sc_as_log.nd rfl (Or.inl rfl)) (pgs_cons (pg_name (i := 3) sc_as_log.nd rfl (Or.inl rfl)) pgs_nil)))) (fun _ _ _ _ _ => pts_nil) (fun _ _ _ _ _ => (pe_tupN (pa_cons pe_str (pa_cons (pv 2) (pa_cons (pv 3) pa_nil)))))) pa_nil)))), fun ⟨row, fl⟩ F0 H0 Q hp hQ => ?_⟩
  change Tr ⟨K, none, F0, H0, F0⟩ [.dat (.tuple (dNs row)), .dat (.tuple (dNs fl)), .un, .un] [] _ _
  have hl : row.length ≤ 1000 := hp
  exact t_retD (ev_cb (ea_cons (EvL.data (el_map _ (src_zipX (ea_cons (ev_d rfl) (ea_cons (ev_d rfl) ea_nil)) (.t _) (.t _)) (by simp) (by simp; omega) (fun a ha => tgc_2 (by simp) (by simp)) (fun a ha => (ev_tup3 (ea_cons ev_str (ea_cons (ev_d rfl) (ea_cons (ev_d rfl) ea_nil))))))) ea_nil) rc_tupL) hQ
end
end FW
end
section
set_option linter.all false
set_option maxRecDepth 100000
set_option maxHeartbeats 4000000
namespace FW
open PySem PySem.Spec PyProof.Rows L2
section
variable {P : Program} {w : World} {K : PySem.W.Frag} {mg : Str → Option Value} {base : Heap}
def dStart (n : Nat) : Option (Nat → Nat) → PD
  | none => .none
  | some st => dSt n st
abbrev dLog (log : List (Nat × Nat)) : PD := .tuple (log.map fun p => dAsk p.1 p.2)
abbrev N_first_knowledge : List Str := ["house", "start", "many", "places", "words", "order", "size", "place"]
abbrev P_first_knowledge : List Str := ["house", "start"]
theorem sc_first_knowledge : FnScope N_first_knowledge P_first_knowledge (defScope (Hd.top 14)) := ⟨rfl, rfl, rfl, by decide +kernel, rfl, by decide +kernel, by decide +kernel⟩
abbrev Ok_first_knowledge (P : Program) (w : World) (K : PySem.W.Frag) (mg : Str → Option Value) (base : Heap) : Prop := Hd.OkF P w K mg base 3 "first_knowledge" P_first_knowledge (Pr K (α := Nat × Nat × (Nat → Nat) × Option (Nat → Nat)) (fun a => [dHouse a.1 a.2.1 a.2.2.1, dStart a.1 a.2.2.2]) (fun a => a.1 ≤ 101 ∧ 0 < a.2.1 ∧ a.2.1 ≤ 100 ∧ ∀ st, a.2.2.2 = some st → ∀ y, y < a.1 → st y ≤ a.2.1) (fun a => dKn a.1 a.2.1 (FK.firstK a.1 a.2.2.1 a.2.2.2)))
abbrev N_led_by : List Str := ["house", "knowledge", "log", "index", "entry"]
abbrev P_led_by : List Str := ["house", "knowledge", "log"]
theorem sc_led_by : FnScope N_led_by P_led_by (defScope (Hd.top 19)) := ⟨rfl, rfl, rfl, by decide +kernel, rfl, by decide +kernel, by decide +kernel⟩
abbrev Ok_led_by (P : Program) (w : World) (K : PySem.W.Frag) (mg : Str → Option Value) (base : Heap) : Prop := Hd.OkF P w K mg base 5 "led_by" P_led_by (Pr K (α := Nat × Nat × (Nat → Nat) × FK.Kn × List (Nat × Nat)) (fun a => [dHouse a.1 a.2.1 a.2.2.1, dKn a.1 a.2.1 a.2.2.2.1, dLog a.2.2.2.2]) (fun a => a.1 ≤ 101 ∧ a.2.1 ≤ 100 ∧ FK.KOk a.1 a.2.1 a.2.2.1 a.2.2.2.1 ∧ FK.LogOk a.1 a.2.1 a.2.2.1 a.2.2.2.1 a.2.2.2.2) (fun a => dKn a.1 a.2.1 (FK.logK a.1 a.2.2.1 a.2.2.2.1 a.2.2.2.2)))
theorem ok_led_by (Y : Hd.Ok K mg) (D_led : Ok_led P w K mg base) : Ok_led_by P w K mg base := by
  refine mkPr (i := 12) (j := 19) (k := 4) Y rfl rfl sc_led_by (fun _ _ _ _ _ _ us hl => match us, hl with | [_, _, _], _ => rfl) 2 rfl (fun _ => rfl) fun cdv A' outer s H E hr => ⟨_, (pss_cons (ps_for PassesOwn.never rfl (kp_enum (K := K) rfl (by rfl) (Y.free 68) (pa_cons (pv 2) pa_nil)) (kg_tup (K := K) (n := 2) rfl rfl (pgs_cons (pg_name (i := 3) sc_led_by.nd rfl (Or.inl rfl)) (pgs_cons (pg_name (i := 4) sc_led_by.nd rfl (Or.inl rfl)) pgs_nil))) (pss_one (ps_try_thru0 (pss_one (ps_set (i := 1) sc_led_by.nd rfl (Or.inl rfl) (Hd.pe_f D_led (hr.mono (by decide)) (by rfl) (pa_cons (pv 0) (pa_cons (pv 1) (pa_cons (pv 4) pa_nil))))))))) (pss_one (ps_ret (pv 1)))), fun ⟨n, m, r, k, log⟩ F0 H0 Q hp hQ => ?_⟩
  change Tr ⟨K, none, F0, H0, F0⟩ [.dat (dHouse n m r), .dat (dKn n m k), .dat (dLog log), .un, .un] [] _ _
  obtain ⟨hn, hm, ok, lo⟩ : n ≤ 101 ∧ m ≤ 100 ∧ FK.KOk n m r k ∧ FK.LogOk n m r k log := hp
  refine t_seq (t_for (src_enumX (ea_cons (ev_d rfl) ea_nil) (.t _)) (fun c G ms => G = [.dat (dHouse n m r), .dat (dKn n m (FK.logK n r k (log.take c))), .dat (dLog log), .un, .un] ∧ ms = []) ⟨rfl, rfl⟩ ?_ ?_)
  · rintro c ⟨⟨x, i⟩, c'⟩ hi Fl G ms ⟨rfl, rfl⟩
    obtain ⟨rfl, hx⟩ : c' = c ∧ log[c]? = some (x, i) := by
      rw [List.getElem?_zipIdx] at hi
      cases e : log[c]? with
      | none => rw [e] at hi; cases hi
      | some y => rw [e] at hi; cases hi; exact ⟨by simp, rfl⟩
    obtain ⟨h1, h2, h3, h4⟩ := FK.log_at ok lo c' _ hx
    rw [h4]
    generalize FK.logK n r k (log.take c') = k1 at h2 h3 ⊢
    obtain ⟨n, rfl⟩ : ∃ z, n = z + 1 := ⟨n - 1, by have : x < n := h1; omega⟩
    refine tg_tup rfl (tgs_name (tgs_name (tgs_nil fun σ H h => h.go ?_)))
    refine t_set (ee_d (ev_call ((n, m, r, k1, x, i)) (EvA.is (ea_cons (ev_d rfl) (ea_cons (ev_d rfl) (ea_cons (ev_d rfl) ea_nil))) rfl) (by exact ⟨by omega, hm, h2, h1, h3⟩))) fun σ H h => ?_
    exact (h.forget (.keep _ (.keep _ (.keep _ (.drop _ (.drop _ .nil)))))).inv ⟨rfl, rfl⟩
  · rintro G ms ⟨rfl, rfl⟩ σ H h
    refine h.go (t_retD (Ev.is (ev_d rfl) ?_) hQ)
    rw [List.length_zipIdx, List.take_length]
abbrev N_knowledge_behind : List Str := ["house", "start", "log"]
abbrev P_knowledge_behind : List Str := ["house", "start", "log"]
theorem sc_knowledge_behind : FnScope N_knowledge_behind P_knowledge_behind (defScope (Hd.top 20)) := ⟨rfl, rfl, rfl, by decide +kernel, rfl, by decide +kernel, by decide +kernel⟩
abbrev Ok_knowledge_behind (P : Program) (w : World) (K : PySem.W.Frag) (mg : Str → Option Value) (base : Heap) : Prop := Hd.OkF P w K mg base 6 "knowledge_behind" P_knowledge_behind (Pr K (α := Nat × Nat × (Nat → Nat) × Option (Nat → Nat) × List (Nat × Nat)) (fun a => [dHouse a.1 a.2.1 a.2.2.1, dStart a.1 a.2.2.2.1, dLog a.2.2.2.2]) (fun a => a.1 ≤ 101 ∧ 0 < a.2.1 ∧ a.2.1 ≤ 100 ∧ (∀ st, a.2.2.2.1 = some st → ∀ y, y < a.1 → st y ≤ a.2.1) ∧ FK.KOk a.1 a.2.1 a.2.2.1 (FK.firstK a.1 a.2.2.1 a.2.2.2.1) ∧ FK.LogOk a.1 a.2.1 a.2.2.1 (FK.firstK a.1 a.2.2.1 a.2.2.2.1) a.2.2.2.2) (fun a => dKn a.1 a.2.1 (FK.logK a.1 a.2.2.1 (FK.firstK a.1 a.2.2.1 a.2.2.2.1) a.2.2.2.2)))
theorem ok_knowledge_behind (Y : Hd.Ok K mg) (D_first_knowledge : Ok_first_knowledge P w K mg base) (D_led_by : Ok_led_by P w K mg base) : Ok_knowledge_behind P w K mg base := by
  refine mkPr (i := 13) (j := 20) (k := 5) Y rfl rfl sc_knowledge_behind (fun _ _ _ _ _ _ us hl => match us, hl with | [_, _, _], _ => rfl) 0 rfl (fun _ => rfl) fun cdv A' outer s H E hr => ⟨_, (pss_one (ps_ret (Hd.pe_f D_led_by (hr.mono (by decide)) (by rfl) (pa_cons (pv 0) (pa_cons (Hd.pe_f D_first_knowledge (hr.mono (by decide)) (by rfl) (pa_cons (pv 0) (pa_cons (pv 1) pa_nil))) (pa_cons (pv 2) pa_nil)))))), fun ⟨n, m, r, s, log⟩ F0 H0 Q hp hQ => ?_⟩
  change Tr ⟨K, none, F0, H0, F0⟩ [.dat (dHouse n m r), .dat (dStart n s), .dat (dLog log)] [] _ _
  obtain ⟨hn, h0, hm, hs, ok, lo⟩ : n ≤ 101 ∧ 0 < m ∧ m ≤ 100 ∧ (∀ st, s = some st → ∀ y, y < n → st y ≤ m) ∧ FK.KOk n m r (FK.firstK n r s) ∧ FK.LogOk n m r (FK.firstK n r s) log := hp
  exact t_retD (ev_call ((n, m, r, FK.firstK n r s, log)) (EvA.is (ea_cons (ev_d rfl) (ea_cons (ev_call ((n, m, r, s)) (EvA.is (ea_cons (ev_d rfl) (ea_cons (ev_d rfl) ea_nil)) rfl) (by exact ⟨hn, h0, hm, hs⟩)) (ea_cons (ev_d rfl) ea_nil))) rfl) (by exact ⟨hn, hm, ok, lo⟩)) hQ
abbrev N_words_through : List Str := ["house", "start", "log", "found", "entry"]
abbrev P_words_through : List Str := ["house", "start", "log"]
theorem sc_words_through : FnScope N_words_through P_words_through (defScope (Hd.top 21)) := ⟨rfl, rfl, rfl, by decide +kernel, rfl, by decide +kernel, by decide +kernel⟩
abbrev Ok_words_through (P : Program) (w : World) (K : PySem.W.Frag) (mg : Str → Option Value) (base : Heap) : Prop := Hd.OkF P w K mg base 5 "words_through" P_words_through (PrL K (α := Nat × Nat × (Nat → Nat) × Option (Nat → Nat) × List (Nat × Nat)) (fun a => [dHouse a.1 a.2.1 a.2.2.1, dStart a.1 a.2.2.2.1, dLog a.2.2.2.2]) (fun a => a.1 ≤ 101 ∧ 0 < a.2.1 ∧ a.2.1 ≤ 100 ∧ (∀ st, a.2.2.2.1 = some st → ∀ y, y < a.1 → st y ≤ a.2.1) ∧ FK.KOk a.1 a.2.1 a.2.2.1 (FK.firstK a.1 a.2.2.1 a.2.2.2.1) ∧ FK.LogOk a.1 a.2.1 a.2.2.1 (FK.firstK a.1 a.2.2.1 a.2.2.2.1) a.2.2.2.2 ∧ a.2.2.2.2.length ≤ 1000) (fun a => tab (a.2.2.2.2.length + 1) fun c => dKn a.1 a.2.1 (FK.logK a.1 a.2.2.1 (FK.firstK a.1 a.2.2.1 a.2.2.2.1) (a.2.2.2.2.take c))))
theorem ok_words_through (Y : Hd.Ok K mg) (D_first_knowledge : Ok_first_knowledge P w K mg base) (D_led : Ok_led P w K mg base) : Ok_words_through P w K mg base := by
  refine mkPrL (i := 14) (j := 21) (k := 4) Y rfl rfl sc_words_through (fun _ _ _ _ _ _ us hl => match us, hl with | [_, _, _], _ => rfl) 2 rfl (fun _ => rfl) fun cdv A' outer s H E hr => ⟨_, (pss_cons (ps_set (i := 3) sc_words_through.nd rfl (Or.inl rfl) (pe_lst (pa_cons (Hd.pe_f D_first_knowledge (hr.mono (by decide)) (by rfl) (pa_cons (pv 0) (pa_cons (pv 1) pa_nil))) pa_nil))) (pss_cons (ps_for PassesOwn.never rfl (kp_seq (K := K) rfl (pv 2)) (pg_name (i := 4) sc_words_through.nd rfl (Or.inl rfl)) (pss_one (ps_try_thru0 (pss_one (ps_expr (ke_bm (K := K) rfl PySem.F.plainAttrs_list PySem.F.slot_list_append PySem.F.type_list_append mt_append (pv 3) (pa_cons (Hd.pe_f D_led (hr.mono (by decide)) (by rfl) (pa_cons (pv 0) (pa_cons (pe_ix (ki_seq (K := K) rfl) (pv 3) (pe_un un_neg pe_int) (fun _ _ => rfl)) (pa_cons (pv 4) pa_nil)))) pa_nil))))))) (pss_one (ps_ret (pv 3))))), fun ⟨n, m, r, s, log⟩ F0 H0 Q hp hQ => ?_⟩
  change Tr ⟨K, none, F0, H0, F0⟩ [.dat (dHouse n m r), .dat (dStart n s), .dat (dLog log), .un, .un] [] _ _
  obtain ⟨hn, h0, hm, hs, ok, lo, few⟩ : n ≤ 101 ∧ 0 < m ∧ m ≤ 100 ∧ (∀ st, s = some st → ∀ y, y < n → st y ≤ m) ∧ FK.KOk n m r (FK.firstK n r s) ∧ FK.LogOk n m r (FK.firstK n r s) log ∧ log.length ≤ 1000 := hp
  refine t_seq (t_set (ee_l (el_one (ea_cons (ev_call ((n, m, r, s)) (EvA.is (ea_cons (ev_d rfl) (ea_cons (ev_d rfl) ea_nil)) rfl) (by exact ⟨hn, h0, hm, hs⟩)) ea_nil))) fun p σ H h => h.go ?_)
  refine t_seq (t_for (src_t (ev_d rfl)) (fun c G ms => G = [.dat (dHouse n m r), .dat (dStart n s), .dat (dLog log), .ml p, .un] ∧ ms = [(p, tab (c + 1) fun c => dKn n m (FK.logK n r (FK.firstK n r s) (log.take c)))]) ⟨rfl, rfl⟩ ?_ ?_)
  · rintro c ⟨x, i⟩ hx Fl G ms ⟨rfl, rfl⟩
    have hc : c < log.length := (List.getElem?_eq_some_iff.mp hx).1
    obtain ⟨h1, h2, h3, h4⟩ := FK.log_at ok lo c _ hx
    obtain ⟨n, rfl⟩ : ∃ z, n = z + 1 := ⟨n - 1, by have : x < n := h1; omega⟩
    refine tg_name fun σ H h => h.go ?_
    refine t_appD (ev_m rfl) (ev_call ((n, m, r, FK.logK (n + 1) r (FK.firstK (n + 1) r s) (log.take c), x, i)) (EvA.is (ea_cons (ev_d rfl) (ea_cons (ev_op (ev_m rfl) (ev_neg ev_int) (rv_ixM mem0 at_last)) (ea_cons (ev_d rfl) ea_nil))) rfl) (by exact ⟨by omega, hm, h2, h1, h3⟩)) (k := 0) rfl (by simp; omega) fun σ H h => ?_
    refine (h.forget (.keep _ (.keep _ (.keep _ (.keep _ (.drop _ .nil)))))).inv ⟨rfl, ?_⟩
    rw [← tab_snoc (n := c + 1), h4]; rfl
  · rintro G ms ⟨rfl, rfl⟩ σ H h
    exact h.go (t_retM (ev_m rfl) mem0 hQ)
abbrev N_first_above : List Str := ["sizes", "number", "floor", "size"]
abbrev P_first_above : List Str := ["sizes", "number"]
theorem sc_first_above : FnScope N_first_above P_first_above (defScope (Hd.top 29)) := ⟨rfl, rfl, rfl, by decide +kernel, rfl, by decide +kernel, by decide +kernel⟩
abbrev Ok_first_above (P : Program) (w : World) (K : PySem.W.Frag) (mg : Str → Option Value) (base : Heap) : Prop := Hd.OkF P w K mg base 1 "first_above" P_first_above (Pr K (α := Nat × (Nat → Int) × Int) (fun a => [dRow a.1 a.2.1, .int a.2.2]) (fun a => a.1 ≤ 1000) (fun a => dN (FK.ff (fun j => decide (a.2.2 < a.2.1 j)) a.1)))
theorem ok_first_above (Y : Hd.Ok K mg) : Ok_first_above P w K mg base := by
  refine mkPr (i := 20) (j := 29) (k := 0) Y rfl rfl sc_first_above (fun _ _ _ _ _ _ us hl => match us, hl with | [_, _], _ => rfl) 2 rfl (fun _ => rfl) fun cdv A' outer s H E hr => ⟨_, (pss_cons (ps_for PassesOwn.never rfl (kp_enum (K := K) rfl (by rfl) (Y.free 68) (pa_cons (pv 0) pa_nil)) (kg_tup (K := K) (n := 2) rfl rfl (pgs_cons (pg_name (i := 2) sc_first_above.nd rfl (Or.inl rfl)) (pgs_cons (pg_name (i := 3) sc_first_above.nd rfl (Or.inl rfl)) pgs_nil))) (pss_one (ps_if (pt_cmpR op_gt (pv 3) (pv 1) (nomark _)) (pss_one (ps_ret (pv 2))) pss_nil))) (pss_one (ps_ret (pe_callB (kc_len (K := K) rfl) (by rfl) (Y.free 71) bt_len (pa_cons (pv 0) pa_nil))))), fun ⟨m, s, c⟩ F0 H0 Q hp hQ => ?_⟩
  change Tr ⟨K, none, F0, H0, F0⟩ [.dat (dRow m s), .dat (.int c), .un, .un] [] _ _
  have hm : m ≤ 1000 := hp
  refine t_seq (t_forT (src_enumT (ea_cons (ev_d rfl) ea_nil) (.t _)) (fun i G ms => G = [.dat (dRow m s), .dat (.int c), .un, .un] ∧ ms = [] ∧ ∀ j, j < i → decide (c < s j) = false) ⟨rfl, rfl, fun j hj => by omega⟩ ?_ ?_)
  · rintro i hi Fl G ms ⟨rfl, rfl, no⟩
    refine tg_tup rfl (tgs_name (tgs_name (tgs_nil fun σ H h => h.go ?_)))
    refine t_ifD (et_test (ev_op (ev_d rfl) (ev_d rfl) rv_b)) (fun hb => ?_) fun hb => t_next fun σ H h => ?_
    · refine t_retD (Ev.is (ev_d rfl) ?_) fun v F' H' g o => hQ v F' H' g.sw o
      have := FK.ff_eq (m := m) (p := fun j => decide (c < s j)) (Nat.le_of_lt hi) no fun _ => by
        have := of_decide_eq_true hb
        exact decide_eq_true (by omega)
      show Sl.dat (dN i) = Sl.dat (dN (FK.ff (fun j => decide (c < s j)) m))
      rw [this]
    · refine (h.forget (.keep _ (.keep _ (.drop _ (.drop _ .nil))))).inv ⟨rfl, rfl, fun j hj => ?_⟩
      by_cases e : j < i
      · exact no j e
      · obtain rfl : j = i := by omega
        have := of_decide_eq_false hb
        exact decide_eq_false (by omega)
  · rintro G ms ⟨rfl, rfl, no⟩ σ H h
    refine h.go (t_retD (Ev.is (ev_cb (ea_cons (ev_d rfl) ea_nil) rc_lenTT) ?_) hQ)
    have := FK.ff_eq (m := m) (p := fun j => decide (c < s j)) (Nat.le_refl m) no fun h => by omega
    show Sl.dat (dN m) = Sl.dat (dN (FK.ff (fun j => decide (c < s j)) m))
    rw [this]
abbrev N_by_things : List Str := ["order", "floors", "found", "thing"]
abbrev P_by_things : List Str := ["order", "floors"]
theorem sc_by_things : FnScope N_by_things P_by_things (defScope (Hd.top 28)) := ⟨rfl, rfl, rfl, by decide +kernel, rfl, by decide +kernel, by decide +kernel⟩
abbrev Ok_by_things (P : Program) (w : World) (K : PySem.W.Frag) (mg : Str → Option Value) (base : Heap) : Prop := Hd.OkF P w K mg base 1 "by_things" P_by_things (Pr K (α := Nat × List Nat × (Nat → Nat)) (fun a => [.tuple (dNs a.2.1), .list (tab a.1 fun p => dN (a.2.2 p))]) (fun a => a.1 ≤ 101 ∧ a.2.1.Perm (List.range a.1)) (fun a => dSt a.1 fun y => a.2.2 (a.2.1.idxOf y)))
abbrev N_front_state : List Str := ["house", "knowledge", "sizes", "place"]
abbrev P_front_state : List Str := ["house", "knowledge"]
theorem sc_front_state : FnScope N_front_state P_front_state (defScope (Hd.top 30)) := ⟨rfl, rfl, rfl, by decide +kernel, rfl, by decide +kernel, by decide +kernel⟩
abbrev Ok_front_state (P : Program) (w : World) (K : PySem.W.Frag) (mg : Str → Option Value) (base : Heap) : Prop := Hd.OkF P w K mg base 2 "front_state" P_front_state (Pr K (α := Nat × Nat × (Nat → Nat) × FK.Kn) (fun a => [dHouse a.1 a.2.1 a.2.2.1, dKn a.1 a.2.1 a.2.2.2]) (fun a => a.1 ≤ 101 ∧ a.2.1 ≤ 100 ∧ FK.KOk a.1 a.2.1 a.2.2.1 a.2.2.2) (fun a => dSt a.1 (FK.frontK a.1 a.2.1 a.2.2.2)))
theorem ok_front_state (Y : Hd.Ok K mg) (D_by_things : Ok_by_things P w K mg base) (D_first_above : Ok_first_above P w K mg base) (D_known_sizes : Ok_known_sizes P w K mg base) : Ok_front_state P w K mg base := by
  refine mkPr (i := 21) (j := 30) (k := 1) Y rfl rfl sc_front_state (fun _ _ _ _ _ _ us hl => match us, hl with | [_, _], _ => rfl) 2 rfl (fun _ => rfl) fun cdv A' outer s H E hr => ⟨_, (pss_cons (ps_set (i := 2) sc_front_state.nd rfl (Or.inr rfl) (Hd.pe_f D_known_sizes (hr.mono (by decide)) (by rfl) (pa_cons (pv 1) pa_nil))) (pss_one (ps_ret (Hd.pe_f D_by_things (hr.mono (by decide)) (by rfl) (pa_cons (pe_ix (ki_seq (K := K) rfl) (pv 1) pe_int (fun _ _ => rfl)) (pa_cons (pe_lc (own := [("place", 3)]) rfl sc_front_state.nd (pi_range1 (by rfl) (Y.free 75) (pa_cons (pe_callB (kc_len (K := K) rfl) (by rfl) (Y.free 71) bt_len (pa_cons (pe_ix (ki_seq (K := K) rfl) (pv 1) pe_int (fun _ _ => rfl)) pa_nil)) pa_nil)) (blkOk_by (by first | (change blkC N_front_state (defScope (Hd.top 30)) _ _ = true; decide +kernel) | rfl)) (fun _ _ _ _ _ => (pg_name (i := 3) sc_front_state.nd rfl (Or.inl rfl))) (fun _ _ _ _ _ => pts_nil) (fun _ _ _ _ _ => (Hd.pe_f D_first_above (hr.mono (by decide)) (by rfl) (pa_cons (pv 2) (pa_cons (pv 3) pa_nil))))) pa_nil)))))), fun ⟨n, m, r, k⟩ F0 H0 Q hp hQ => ?_⟩
  change Tr ⟨K, none, F0, H0, F0⟩ [.dat (dHouse n m r), .dat (dKn n m k), .un, .un] [] _ _
  obtain ⟨hn, hm, ok⟩ : n ≤ 101 ∧ m ≤ 100 ∧ FK.KOk n m r k := hp
  refine t_seq (t_set (ee_d (ev_call ((n, m, k)) (EvA.is (ea_cons (ev_d rfl) ea_nil) rfl) hm)) fun σ H h => h.go ?_)
  exact t_retD (ev_call ((n, k.order, fun p : Nat => FK.ff (fun j => decide ((p : Int) < k.W j n)) m)) (EvA.is (ea_cons (ev_op (ev_d rfl) ev_int (rv_ixT (at_of (k := 0) rfl rfl))) (ea_cons (EvL.data (el_map _ (src_range (ea_cons (ev_cb (ea_cons (ev_op (ev_d rfl) ev_int (rv_ixT (at_of (k := 0) rfl rfl))) ea_nil) (rc_lenN (ds := dNs k.order) (n := n) (by rw [List.length_map, ok.len]))) ea_nil) (by omega)) (by simp) (by simp; omega) (fun a ha => tgc_name (by simp)) (fun a ha => (ev_call ((m, (fun j => k.W j n), (a : Int))) (EvA.is (ea_cons (ev_d rfl) (ea_cons (ev_d rfl) ea_nil)) rfl) (show m ≤ 1000 by omega))))) ea_nil)) rfl) (by exact ⟨hn, ok.perm⟩)) hQ
end
end FW
end
section
set_option linter.all false
set_option maxRecDepth 100000
set_option maxHeartbeats 4000000
namespace FW
open PySem PySem.Spec PyProof.Rows L2
section
variable {P : Program} {w : World} {K : PySem.W.Frag} {mg : Str → Option Value} {base : Heap}
abbrev N_fits : List Str := ["house", "knowledge", "state", "order", "words", "counts", "place", "thing", "floor", "word"]
abbrev P_fits : List Str := ["house", "knowledge", "state"]
theorem sc_fits : FnScope N_fits P_fits (defScope (Hd.top 27)) := ⟨rfl, rfl, rfl, by decide +kernel, rfl, by decide +kernel, by decide +kernel⟩
abbrev Ok_fits (P : Program) (w : World) (K : PySem.W.Frag) (mg : Str → Option Value) (base : Heap) : Prop := Hd.OkF P w K mg base 3 "fits" P_fits (Pr K (α := Nat × Nat × (Nat → Nat) × FK.Kn × (Nat → Nat)) (fun a => [dHouse a.1 a.2.1 a.2.2.1, dKn a.1 a.2.1 a.2.2.2.1, dSt a.1 a.2.2.2.2]) (fun a => a.1 ≤ 101 ∧ a.2.1 ≤ 100 ∧ FK.KOk a.1 a.2.1 a.2.2.1 a.2.2.2.1 ∧ FK.FitS a.1 a.2.1 a.2.2.2.1 a.2.2.2.2) (fun _ => .bool true))
theorem ok_fits (Y : Hd.Ok K mg) (D_known_sizes : Ok_known_sizes P w K mg base) (D_sizes_of : Ok_sizes_of P w K mg base) : Ok_fits P w K mg base := by
  refine mkPr (i := 18) (j := 27) (k := 2) Y rfl rfl sc_fits (fun _ _ _ _ _ _ us hl => match us, hl with | [_, _, _], _ => rfl) 7 rfl (fun _ => rfl) fun cdv A' outer s H E hr => ⟨_, (pss_cons (ps_asg (pv 1) (kg_tup (K := K) (n := 2) rfl rfl (pgs_cons (pg_name (i := 3) sc_fits.nd rfl (Or.inl rfl)) (pgs_cons (pg_name (i := 4) sc_fits.nd rfl (Or.inl rfl)) pgs_nil)))) (pss_cons (ps_if (pt_cmpR (ko_ne (K := K) rfl hr) (Hd.pe_f D_sizes_of (hr.mono (by decide)) (by rfl) (pa_cons (pv 0) (pa_cons (pv 2) pa_nil))) (Hd.pe_f D_known_sizes (hr.mono (by decide)) (by rfl) (pa_cons (pv 1) pa_nil)) (nomark _)) (pss_one (ps_ret pe_bl)) pss_nil) (pss_cons (ps_set (i := 5) sc_fits.nd rfl (Or.inl rfl) (pe_op (ko_mul (K := K) rfl) (pe_lst (pa_cons pe_int pa_nil)) (pe_callB (kc_len (K := K) rfl) (by rfl) (Y.free 71) bt_len (pa_cons (pv 4) pa_nil)))) (pss_cons (ps_for PassesOwn.never rfl (kp_enum (K := K) rfl (by rfl) (Y.free 68) (pa_cons (pv 3) pa_nil)) (kg_tup (K := K) (n := 2) rfl rfl (pgs_cons (pg_name (i := 6) sc_fits.nd rfl (Or.inl rfl)) (pgs_cons (pg_name (i := 7) sc_fits.nd rfl (Or.inl rfl)) pgs_nil))) (pss_one (ps_for PassesOwn.never rfl (kp_enum (K := K) rfl (by rfl) (Y.free 68) (pa_cons (pv 4) pa_nil)) (kg_tup (K := K) (n := 2) rfl rfl (pgs_cons (pg_name (i := 8) sc_fits.nd rfl (Or.inl rfl)) (pgs_cons (pg_name (i := 9) sc_fits.nd rfl (Or.inl rfl)) pgs_nil))) (pss_cons (ps_augS (pv 5) (pv 8) gt_list (pe_callTy call_int1 (by rfl) (Y.free 69) bt_int (pa_cons (pe_cmpR op_le (pe_ix (ki_seq (K := K) rfl) (pv 2) (pv 7) (fun _ _ => rfl)) (pv 8) (nomark _)) pa_nil)) ip_add set_list) (pss_one (ps_if (pt_cmpR op_lt (pe_ix (ki_seq (K := K) rfl) (pv 5) (pv 8) (fun _ _ => rfl)) (pe_ix (ki_seq (K := K) rfl) (pv 9) (pe_op (ko_add (K := K) rfl) (pv 6) pe_int) (fun _ _ => rfl)) (nomark _)) (pss_one (ps_ret pe_bl)) pss_nil)))))) (pss_one (ps_ret pe_bl)))))), fun ⟨n, m, r, k, st⟩ F0 H0 Q hp hQ => ?_⟩
  change Tr ⟨K, none, F0, H0, F0⟩ [.dat (dHouse n m r), .dat (dKn n m k), .dat (dSt n st), .un, .un, .un, .un, .un, .un, .un] [] _ _
  obtain ⟨hn, hm, ok, fit⟩ : n ≤ 101 ∧ m ≤ 100 ∧ FK.KOk n m r k ∧ FK.FitS n m k st := hp
  have e0 : dRow m (FK.cw n st) = dRow m fun j => k.W j n := by
    exact congrArg PyData.tuple (tab_congr fun j hj => by rw [fit.cw ok hj])
  refine t_seq (t_asgD (ev_d rfl) (tg_tup rfl (tgs_name (tgs_name (tgs_nil fun σ H h => h.go ?_)))))
  refine t_seq (t_ifD (b := false) (EvT.is (et_test (ev_op (ev_call ((n, m, r, st)) (EvA.is (ea_cons (ev_d rfl) (ea_cons (ev_d rfl) ea_nil)) rfl) (by exact ⟨by omega, hm⟩)) (ev_call ((n, m, k)) (EvA.is (ea_cons (ev_d rfl) ea_nil) rfl) hm) (rv_neUD (sh_row.ok (by decide)) (sh_row.ok (by decide))))) ?_) (fun e => nomatch e) fun _ => t_next fun σ H h => h.go ?_)
  · show (!PyData.eqv (dRow m (FK.cw n st)) (dRow m fun j => k.W j n)) = false
    rw [e0, sh_row.refl]; rfl
  refine t_seq (t_set (ee_l (EvL.is (ds' := tab m fun j => PyData.int (FK.cp (FK.inJ st j) k.order 0)) (el_mul (em_l (el_one (ea_cons ev_int ea_nil))) (ev_cb (ea_cons (ev_d rfl) ea_nil) rc_lenTT) (by omega)) ?_)) fun p σ H h => h.go ?_)
  · rw [Int.toNat_natCast, tab_rep]
    exact tab_congr fun j hj => by rw [FK.cp_zero]
  refine t_seq (t_for (src_enumX (ea_cons (ev_d rfl) ea_nil) (.t _)) (fun c G ms => G = [.dat (dHouse n m r), .dat (dKn n m k), .dat (dSt n st), .dat (.tuple (dNs k.order)), .dat (dWs n m k.W), .ml p, .un, .un, .un, .un] ∧ ms = [(p, tab m fun j => PyData.int (FK.cp (FK.inJ st j) k.order c))]) ⟨rfl, rfl⟩ ?_ ?_)
  · rintro c ⟨x, c'⟩ hi Fl G ms ⟨rfl, rfl⟩
    obtain ⟨rfl, hx⟩ : c' = c ∧ k.order[c]? = some x := by
      rw [List.getElem?_zipIdx] at hi
      cases e : k.order[c]? with
      | none => rw [e] at hi; cases hi
      | some y => rw [e] at hi; cases hi; exact ⟨by simp, rfl⟩
    obtain ⟨hc, hxe⟩ := List.getElem?_eq_some_iff.mp hx
    have hcn : c' < n := by rw [← ok.len]; exact hc
    have hxn : x < n := ok.mem.mp (by rw [← hxe]; exact List.getElem_mem hc)
    have step : ∀ j, FK.cp (FK.inJ st j) k.order c' + (if decide ((st x : Int) ≤ (j : Int)) = true then 1 else 0) = FK.cp (FK.inJ st j) k.order (c' + 1) := fun j => by
      rw [FK.cp_at hc, hxe]
      have e : decide ((st x : Int) ≤ (j : Int)) = FK.inJ st j x := decide_eq_decide.mpr (by omega)
      rw [e]
    refine tg_tup rfl (tgs_name (tgs_name (tgs_nil fun σ H h => h.go ?_)))
    refine t_forT (src_enumT (ea_cons (ev_d rfl) ea_nil) (.t _)) (fun f G ms => G = [.dat (dHouse n m r), .dat (dKn n m k), .dat (dSt n st), .dat (.tuple (dNs k.order)), .dat (dWs n m k.W), .ml p, .dat (dN c'), .dat (dN x), .un, .un] ∧ ms = [(p, tab m fun j => PyData.int (if j < f then FK.cp (FK.inJ st j) k.order (c' + 1) else FK.cp (FK.inJ st j) k.order c'))]) ⟨rfl, rfl⟩ ?_ ?_
    · rintro f hf Fl2 G ms ⟨rfl, rfl⟩
      refine tg_tup rfl (tgs_name (tgs_name (tgs_nil fun σ H h => h.go ?_)))
      refine t_seq (t_augS (ev_m rfl) (ev_d rfl) (k := 0) rfl (ixN_nat (by simp; omega)) (tab_get hf) (ev_cb (ea_cons (ev_op (ev_op (ev_d rfl) (ev_d rfl) (rv_ixT (at_tab x hxn rfl))) (ev_d rfl) rv_b) ea_nil) rc_intB) fun σ H h => ?_)
      have h : Pst _ _ [(p, tab m fun j => PyData.int (if j < f + 1 then FK.cp (FK.inJ st j) k.order (c' + 1) else FK.cp (FK.inJ st j) k.order c'))] σ H := h.mse (by
        refine cellEq (tab_set.trans (tab_congr fun j hj => ?_))
        by_cases e : j = f
        · subst e
          rw [if_pos rfl, if_neg (Nat.lt_irrefl j), if_pos (Nat.lt_succ_self j), step j]
        · rw [if_neg e]
          by_cases e2 : j < f
          · rw [if_pos e2, if_pos (by omega)]
          · rw [if_neg e2, if_neg (by omega)])
      refine h.go (t_ifD (b := false) (EvT.is (et_test (ev_op (ev_op (ev_m rfl) (ev_d rfl) (rv_ixM mem0 (at_tab f hf rfl))) (ev_op (ev_d rfl) (ev_op (ev_d rfl) ev_int rv_addI) (rv_ixT (at_tab (c' + 1) (by omega) rfl))) rv_b)) ?_) (fun e => nomatch e) fun _ => t_next fun σ H h => ?_)
      · rw [if_pos (Nat.lt_succ_self f)]
        have := fit.lo f (c' + 1) hf (by omega)
        exact decide_eq_false (by omega)
      · exact (h.forget (.keep _ (.keep _ (.keep _ (.keep _ (.keep _ (.keep _ (.keep _ (.keep _ (.drop _ (.drop _ .nil))))))))))).inv ⟨rfl, rfl⟩
    · rintro G ms ⟨rfl, rfl⟩ σ H h
      refine (h.forget (.keep _ (.keep _ (.keep _ (.keep _ (.keep _ (.keep _ (.drop _ (.drop _ (.drop _ (.drop _ .nil))))))))))).inv ⟨rfl, cellEq (tab_congr fun j hj => ?_)⟩
      rw [if_pos hj]
  · rintro G ms ⟨rfl, rfl⟩ σ H h
    exact Pst.go (u := tRet _) (D := { nx := fun _ H' => Q .non H', rt := Q }) h (t_retD ev_bl hQ)
end
end FW
end
section
set_option linter.all false
set_option maxRecDepth 100000
set_option maxHeartbeats 4000000
namespace FW
open PySem PySem.Spec PyProof.Rows L2
section
variable {P : Program} {w : World} {K : PySem.W.Frag} {mg : Str → Option Value} {base : Heap}
theorem stS {x : PD} {xs : List PD} : xs.map Sl.dat ++ [Sl.dat x] = (xs ++ [x]).map Sl.dat := by simp
theorem range_down (m : Nat) : List.range m = (tab m fun i => m - 1 - i).reverse := by
  rw [tab_rev]
  exact (List.map_id _).symm.trans (tab_congr fun i hi => by show i = _; omega)
theorem downs_rev {m : Nat} {fl : Nat → Bool} {z : Nat → Nat} : (((List.range m).filter (fun c => fl (m - 1 - c))).map (fun c => z (m - 1 - c))).reverse = ((List.range m).filter fl).map z := by
  conv => rhs; rw [range_down m]
  rw [List.filter_reverse, List.map_reverse, List.filter_map, List.map_map]; rfl
abbrev N_put_back : List Str := ["rest", "lots", "filled", "found", "downs", "beyond", "floor", "lot", "down", "thing"]
abbrev P_put_back : List Str := ["rest", "lots", "filled"]
theorem sc_put_back : FnScope N_put_back P_put_back (defScope (Hd.top 37)) := ⟨rfl, rfl, rfl, by decide +kernel, rfl, by decide +kernel, by decide +kernel⟩
abbrev Ok_put_back (P : Program) (w : World) (K : PySem.W.Frag) (mg : Str → Option Value) (base : Heap) : Prop := Hd.OkF P w K mg base 1 "put_back" P_put_back (Pr K (α := Nat × List Nat × (Nat → List Nat) × (Nat → Bool)) (fun a => [.list (dNs a.2.1), .list (tab a.1 fun j => .list (dNs (a.2.2.1 j))), .list (tab a.1 fun j => .bool (a.2.2.2 j))]) (fun a => a.1 ≤ 100 ∧ a.2.1.length ≤ 101 ∧ (∀ j, j < a.1 → (a.2.2.1 j).length ≤ 101) ∧ FK.Back a.1 a.2.1 a.2.2.1 a.2.2.2 (FK.bfF a.1 a.2.1 a.2.2.1 a.2.2.2) (FK.zF a.1 a.2.1 a.2.2.1 a.2.2.2)) (fun a => .tuple [.list (tab a.1 fun j => .list (dNs (FK.bfF a.1 a.2.1 a.2.2.1 a.2.2.2 j))), .tuple (dNs (((List.range a.1).filter a.2.2.2).map (FK.zF a.1 a.2.1 a.2.2.1 a.2.2.2)))]))
theorem ok_put_back (Y : Hd.Ok K mg) : Ok_put_back P w K mg base := by
  refine mkPr (i := 26) (j := 37) (k := 0) Y rfl rfl sc_put_back (fun _ _ _ _ _ _ us hl => match us, hl with | [_, _, _], _ => rfl) 7 rfl (fun _ => rfl) fun cdv A' outer s H E hr => ⟨_, (pss_cons (ps_asg (pe_tupN (pa_cons (pe_lst pa_nil) (pa_cons (pe_lst pa_nil) (pa_cons (pv 0) pa_nil)))) (kg_tup (K := K) (n := 3) rfl rfl (pgs_cons (pg_name (i := 3) sc_put_back.nd rfl (Or.inl rfl)) (pgs_cons (pg_name (i := 4) sc_put_back.nd rfl (Or.inl rfl)) (pgs_cons (pg_name (i := 5) sc_put_back.nd rfl (Or.inr rfl)) pgs_nil))))) (pss_cons (ps_for PassesOwn.never rfl (pi_range3 (by rfl) (Y.free 75) (pa_cons (pe_op op_sub (pe_callB (kc_len (K := K) rfl) (by rfl) (Y.free 71) bt_len (pa_cons (pv 1) pa_nil)) pe_int) (pa_cons (pe_un un_neg pe_int) (pa_cons (pe_un un_neg pe_int) pa_nil)))) (pg_name (i := 6) sc_put_back.nd rfl (Or.inl rfl)) (pss_cons (ps_set (i := 7) sc_put_back.nd rfl (Or.inr rfl) (pe_ix (ki_seq (K := K) rfl) (pv 1) (pv 6) (fun _ _ => rfl))) (pss_cons (ps_if (pt_val (pe_ix (ki_seq (K := K) rfl) (pv 2) (pv 6) (fun _ _ => rfl))) (pss_cons (ps_set (i := 8) sc_put_back.nd rfl (Or.inl rfl) (pe_ix (ki_seq (K := K) rfl) (pe_lc (own := [("thing", 9)]) rfl sc_put_back.nd (kp_seq (K := K) rfl (pv 0)) (blkOk_by (by first | (change blkC N_put_back (defScope (Hd.top 37)) _ _ = true; decide +kernel) | rfl)) (fun _ _ _ _ _ => (pg_name (i := 9) sc_put_back.nd rfl (Or.inl rfl))) (fun _ _ _ _ _ => (pts_one (PW.pt (pw_and (pt_cmpR (ko_in (K := K) rfl) (pv 9) (pv 5) (by rfl)) (pw_and1 (pt_cmpR (ko_notIn (K := K) rfl) (pv 9) (pv 7) (by rfl))))))) (fun _ _ _ _ _ => (pv 9))) pe_int (fun _ _ => rfl))) (pss_cons (ps_set (i := 7) sc_put_back.nd rfl (Or.inr rfl) (pe_lst (ka_star (K := K) rfl (pv 7) (pa_cons (pv 8) pa_nil)))) (pss_one (ps_expr (ke_bm (K := K) rfl PySem.F.plainAttrs_list PySem.F.slot_list_append PySem.F.type_list_append mt_append (pv 4) (pa_cons (pv 8) pa_nil)))))) pss_nil) (pss_cons (ps_expr (ke_bm (K := K) rfl PySem.F.plainAttrs_list PySem.F.slot_list_append PySem.F.type_list_append mt_append (pv 3) (pa_cons (pv 7) pa_nil))) (pss_one (ps_set (i := 5) sc_put_back.nd rfl (Or.inr rfl) (pv 7))))))) (pss_one (ps_ret (pe_tupN (pa_cons (ke_rev (K := K) rfl (pv 3)) (pa_cons (pe_callTy (kc_tup (K := K) rfl) (by rfl) (Y.free 80) bt_tuple (pa_cons (ke_rev (K := K) rfl (pv 4)) pa_nil)) pa_nil))))))), fun ⟨m, rest, lots, fl⟩ F0 H0 Q hp hQ => ?_⟩
  change Tr ⟨K, none, F0, H0, F0⟩ [.dat (.list (dNs rest)), .dat (.list (tab m fun j => .list (dNs (lots j)))), .dat (.list (tab m fun j => .bool (fl j))), .un, .un, .un, .un, .un, .un, .un] [] _ _
  obtain ⟨hm, hr, hl, bk⟩ : m ≤ 100 ∧ rest.length ≤ 101 ∧ (∀ j, j < m → (lots j).length ≤ 101) ∧ FK.Back m rest lots fl (FK.bfF m rest lots fl) (FK.zF m rest lots fl) := hp
  have hQ : ∀ v F' H', Go ⟨K, none, F0, H0, F0⟩ F0 H0 F' H' → Dp K F' v (.tuple [.list (tab m fun j => .list (dNs (FK.bfF m rest lots fl j))), .tuple (dNs (((List.range m).filter fl).map (FK.zF m rest lots fl)))]) → Q v H' := hQ
  generalize FK.bfF m rest lots fl = bf at bk hQ
  generalize FK.zF m rest lots fl = z at bk hQ
  refine t_seq (t_tup (ees_cons (ee_l el_nil) (ees_cons (ee_l el_nil) (ees_cons (ee_d (ev_d rfl)) ees_nil))) rfl (by decide) fun p q => ⟨rfl, tgs_name (tgs_name (tgs_name (tgs_nil fun σ H h => h.go ?_)))⟩)
  refine t_seq (t_forT (src_dn (n := m) (EvA.is (ea_cons (ev_op (ev_cb (ea_cons (ev_d rfl) ea_nil) rc_lenLT) ev_int rv_i) (ea_cons (ev_neg ev_int) (ea_cons (ev_neg ev_int) ea_nil))) ((by simp))) (by omega)) (fun k G ms => (∃ s1 s2 : Sl, G = [.dat (.list (dNs rest)), .dat (.list (tab m fun j => .list (dNs (lots j)))), .dat (.list (tab m fun j => .bool (fl j))), .ml p, .ml q, .dat (.list (dNs (bf (m - k)))), .un, s1, s2, .un]) ∧ ms = [(p, tab k fun c => PyData.list (dNs (bf (m - 1 - c)))), (q, dNs (((List.range k).filter (fun c => fl (m - 1 - c))).map (fun c => z (m - 1 - c))))]) ⟨⟨_, _, by rw [Nat.sub_zero, bk.top]; rfl⟩, rfl⟩ ?_ ?_)
  · rintro k hk Fl G ms ⟨⟨s1, s2, rfl⟩, rfl⟩
    have e : m - k = m - 1 - k + 1 := by omega
    have e3 : m - (k + 1) = m - 1 - k := by omega
    have hj : m - 1 - k < m := by omega
    have few : (((List.range k).filter (fun c => fl (m - 1 - c))).map (fun c => z (m - 1 - c))).length ≤ k := by
      rw [List.length_map]
      exact Nat.le_trans (List.length_filter_le _ _) (by simp)
    rw [e, e3]
    refine tg_name fun σ H h => h.go ?_
    refine t_seq (t_set (ee_d (ev_op (ev_d rfl) (ev_d rfl) (rv_ixL (at_tab (m - 1 - k) hj rfl)))) fun σ H h => h.go ?_)
    refine t_seq (t_ifD (et_B (ev_op (ev_d rfl) (ev_d rfl) (rv_ixL (at_tab (m - 1 - k) hj rfl)))) (fun hb => ?_) fun hb => ?_)
    · obtain ⟨⟨t, ht⟩, hbf⟩ := bk.on _ hj hb
      refine t_seq (t_set (ee_d (ev_op (EvL.data (el_lc (fun y => (bf (m - 1 - k + 1)).contains y && !(lots (m - 1 - k)).contains y) dN (src_l (ev_d rfl)) hw0 (by first | omega | (simp; omega)) (fun a ha => tgc_name (by simp)) (fun a ha => (et_and (et_test (ev_op (ev_d rfl) (ev_d rfl) rv_inN)) fun hb => (et_test (ev_op (ev_d rfl) (ev_d rfl) rv_notInN)))) (fun a ha hp => (ev_d rfl)))) ev_int (rv_ixL (at_of (k := 0) (x := dN (z (m - 1 - k))) rfl (by rw [ht]; rfl))))) fun σ H h => h.go ?_)
      refine t_seq (t_set (ee_d (EvL.data (EvL.is (ds' := dNs (bf (m - 1 - k))) (el_lst (ds := (dNs (lots (m - 1 - k)) ++ [dN (z (m - 1 - k))])) (EvA.is (ea_starL (ev_d rfl) (ea_cons (ev_d rfl) ea_nil)) stS) ((by have := hl _ hj; simp; omega))) (by rw [hbf, dNs_snoc])))) fun σ H h => h.go ?_)
      refine t_appD (ev_m rfl) (ev_d rfl) (k := 1) rfl (by rw [List.length_map]; omega) fun σ H h => h.go ?_
      refine t_seq (t_appD (ev_m rfl) (ev_d rfl) (k := 0) rfl (by simp; omega) fun σ H h => h.go ?_)
      refine t_set (ee_d (ev_d rfl)) fun σ H h => ?_
      refine (h.forget (.keep _ (.keep _ (.keep _ (.keep _ (.keep _ (.keep _ (.drop _ (.keep _ (.keep _ (Fg.refl _))))))))))).inv ⟨⟨_, _, rfl⟩, ?_⟩
      rw [List.range_succ, List.filter_append, List.filter_cons_of_pos (by exact hb), ← tab_snoc, List.map_append, dNs_app]; rfl
    · refine t_next fun σ H h => h.go ?_
      have hbf := bk.off _ hj hb
      refine t_seq (t_appD (ev_m rfl) (ev_d rfl) (k := 0) rfl (by simp; omega) fun σ H h => h.go ?_)
      refine t_set (ee_d (ev_d rfl)) fun σ H h => ?_
      refine (h.forget (.keep _ (.keep _ (.keep _ (.keep _ (.keep _ (.keep _ (.drop _ (.keep _ (.keep _ (Fg.refl _))))))))))).inv ⟨⟨_, _, by rw [hbf]⟩, ?_⟩
      rw [List.range_succ, List.filter_append, List.filter_cons_of_neg (by rw [show _ = false from hb]; exact Bool.false_ne_true), ← tab_snoc, hbf]
      simp
  · rintro G ms ⟨⟨s1, s2, rfl⟩, rfl⟩ σ H h
    refine Pst.go (u := tRet _) (D := { nx := fun _ H' => Q .non H', rt := Q }) h (t_retD (Ev.is (ev_tup2 (ea_cons (EvL.data (el_revM (ev_m rfl) mem0)) (ea_cons (ev_cb (ea_cons (EvL.data (el_revM (ev_m rfl) mem1)) ea_nil) rc_tupL) ea_nil))) ?_) hQ)
    show Sl.dat (.tuple [.list _, .tuple _]) = _
    rw [tab_rev]
    congr 4
    · exact tab_congr fun i hi => by rw [show m - 1 - (m - 1 - i) = i by omega]
    · unfold dNs
      rw [← List.map_reverse, downs_rev]
abbrev N_state_of : List Str := ["many", "lots", "thing", "state", "floor"]
abbrev P_state_of : List Str := ["many", "lots"]
theorem sc_state_of : FnScope N_state_of P_state_of (defScope (Hd.top 38)) := ⟨rfl, rfl, rfl, by decide +kernel, rfl, by decide +kernel, by decide +kernel⟩
abbrev Ok_state_of (P : Program) (w : World) (K : PySem.W.Frag) (mg : Str → Option Value) (base : Heap) : Prop := Hd.OkF P w K mg base 1 "state_of" P_state_of (PrL K (α := Nat × Nat × (Nat → List Nat)) (fun a => [dN a.1, .list (tab a.2.1 fun j => .list (dNs (a.2.2 j)))]) (fun a => a.1 ≤ 101 ∧ a.2.1 ≤ 100 ∧ ∀ j, j < a.2.1 → ∀ y ∈ a.2.2 j, y < a.1) (fun a => tab a.1 fun y => dN (FK.ff (fun j => (a.2.2 j).contains y) a.2.1)))
theorem ok_state_of (Y : Hd.Ok K mg) : Ok_state_of P w K mg base := by
  refine mkPrL (i := 27) (j := 38) (k := 0) Y rfl rfl sc_state_of (fun _ _ _ _ _ _ us hl => match us, hl with | [_, _], _ => rfl) 3 rfl (fun _ => rfl) fun cdv A' outer s H E hr => ⟨_, (pss_cons (ps_setLc (i := 3) (own := [("thing", 2)]) rfl sc_state_of.nd rfl rfl (sw_true rfl rfl rfl (by decide +kernel)) (pi_range1 (by rfl) (Y.free 75) (pa_cons (pv 0) pa_nil)) (blkOk_by (by first | (change blkC N_state_of (defScope (Hd.top 38)) _ _ = true; decide +kernel) | rfl)) (fun _ _ _ _ _ => (pg_name (i := 2) sc_state_of.nd rfl (Or.inl rfl))) (fun _ _ _ _ _ => pts_nil) (fun _ _ _ _ _ => (pe_callB (kc_len (K := K) rfl) (by rfl) (Y.free 71) bt_len (pa_cons (pv 1) pa_nil)))) (pss_cons (ps_for PassesOwn.never rfl (pi_range3 (by rfl) (Y.free 75) (pa_cons (pe_op op_sub (pe_callB (kc_len (K := K) rfl) (by rfl) (Y.free 71) bt_len (pa_cons (pv 1) pa_nil)) pe_int) (pa_cons (pe_un un_neg pe_int) (pa_cons (pe_un un_neg pe_int) pa_nil)))) (pg_name (i := 4) sc_state_of.nd rfl (Or.inl rfl)) (pss_one (ps_for PassesOwn.never rfl (kp_seq (K := K) rfl (pe_ix (ki_seq (K := K) rfl) (pv 1) (pv 4) (fun _ _ => rfl))) (pg_name (i := 2) sc_state_of.nd rfl (Or.inl rfl)) (pss_one (ps_asg (pv 4) (pg_sub (pv 3) (pv 2) set_list)))))) (pss_one (ps_ret (pv 3))))), fun ⟨n, m, lots⟩ F0 H0 Q hp hQ => ?_⟩
  change Tr ⟨K, none, F0, H0, F0⟩ [.dat (dN n), .dat (.list (tab m fun j => .list (dNs (lots j)))), .un, .un, .un] [] _ _
  obtain ⟨hn, hm, hl⟩ : n ≤ 101 ∧ m ≤ 100 ∧ ∀ j, j < m → ∀ y ∈ lots j, y < n := hp
  refine t_seq (t_set (ee_l (el_map _ (src_range (ea_cons (ev_d rfl) ea_nil) (by omega)) hw0 (by first | omega | (simp; omega)) (fun a ha => tgc_name (by simp)) (fun a ha => (ev_cb (ea_cons (ev_d rfl) ea_nil) rc_lenLT)))) fun p σ H h => h.go ?_)
  refine t_seq (t_forT (src_dn (n := m) (EvA.is (ea_cons (ev_op (ev_cb (ea_cons (ev_d rfl) ea_nil) rc_lenLT) ev_int rv_i) (ea_cons (ev_neg ev_int) (ea_cons (ev_neg ev_int) ea_nil))) ((by simp))) (by omega)) (fun k G ms => (∃ s1 : Sl, G = [.dat (dN n), .dat (.list (tab m fun j => .list (dNs (lots j)))), s1, .ml p, .un]) ∧ ms = [(p, tab n fun y => dN (m - k + FK.ff (fun j => (lots (m - k + j)).contains y) k))]) ⟨⟨_, rfl⟩, rfl⟩ ?_ ?_)
  · rintro k hk Fl G ms ⟨⟨s1, rfl⟩, rfl⟩
    have hj : m - 1 - k < m := by omega
    refine tg_name fun σ H h => h.go ?_
    refine t_for (src_l (ev_op (ev_d rfl) (ev_d rfl) (rv_ixL (at_tab (m - 1 - k) hj rfl)))) (fun c G ms => (∃ s1 : Sl, G = [.dat (dN n), .dat (.list (tab m fun j => .list (dNs (lots j)))), s1, .ml p, .dat (dN (m - 1 - k))]) ∧ ms = [(p, tab n fun y => dN (if ((lots (m - 1 - k)).take c).contains y = true then m - 1 - k else m - k + FK.ff (fun j => (lots (m - k + j)).contains y) k))]) ⟨⟨_, rfl⟩, rfl⟩ ?_ ?_
    · rintro c y hy Fl2 G ms ⟨⟨s1, rfl⟩, rfl⟩
      have hyl : y ∈ lots (m - 1 - k) := List.mem_of_getElem? hy
      refine tg_name fun σ H h => h.go ?_
      refine t_setitem (ev_d rfl) (ev_m rfl) (ev_d rfl) (k := 0) rfl (ixN_nat (by simpa using hl _ hj y hyl)) fun σ H h => ?_
      refine h.inv ⟨⟨_, rfl⟩, cellEq (tab_set.trans (tab_congr fun z hz => ?_))⟩
      rw [List.take_succ, hy]
      by_cases e : z = y
      · subst e
        rw [if_pos rfl, if_pos (by simp)]
      · rw [if_neg e]
        have : ((lots (m - 1 - k)).take c ++ (some y).toList).contains z = ((lots (m - 1 - k)).take c).contains z := by
          simp [e]
        rw [this]
    · rintro G ms ⟨⟨s1, rfl⟩, rfl⟩ σ H h
      refine (h.forget (.keep _ (.keep _ (.keep _ (.keep _ (.drop _ .nil)))))).inv ⟨⟨_, rfl⟩, cellEq (tab_congr fun y hy => ?_)⟩
      rw [List.take_length]
      have e : m - (k + 1) = m - 1 - k := by omega
      rw [e]
      have e2 : FK.ff (fun j => (lots (m - 1 - k + j)).contains y) (k + 1) = if (lots (m - 1 - k)).contains y = true then 0 else FK.ff (fun j => (lots (m - k + j)).contains y) k + 1 := by
        show (if (lots (m - 1 - k + 0)).contains y = true then 0 else FK.ff (fun j => (lots (m - 1 - k + (j + 1))).contains y) k + 1) = _
        rw [Nat.add_zero]
        have e3 : (fun j => (lots (m - 1 - k + (j + 1))).contains y) = fun j => (lots (m - k + j)).contains y := by
          funext j
          rw [show m - 1 - k + (j + 1) = m - k + j by omega]
        rw [e3]
      rw [e2]
      by_cases q : (lots (m - 1 - k)).contains y = true
      · rw [if_pos q, if_pos q]; rfl
      · rw [if_neg q, if_neg q]
        show dN _ = dN _
        rw [show m - 1 - k + (FK.ff (fun j => (lots (m - k + j)).contains y) k + 1) = m - k + FK.ff (fun j => (lots (m - k + j)).contains y) k by omega]
  · rintro G ms ⟨⟨s1, rfl⟩, rfl⟩ σ H h
    have h : Pst _ _ [(p, tab n fun y => dN (FK.ff (fun j => (lots j).contains y) m))] σ H := h.mse (cellEq (tab_congr fun y _ => by
      have e3 : (fun j => (lots (m - m + j)).contains y) = fun j => (lots j).contains y := by
        funext j
        rw [Nat.sub_self, Nat.zero_add]
      rw [e3, Nat.sub_self, Nat.zero_add]))
    exact Pst.go (u := tRet _) (D := { nx := fun _ H' => Q .non H', rt := Q }) h (t_retM (ev_m rfl) mem0 hQ)
end
end FW
end
section
set_option linter.all false
set_option maxRecDepth 100000
set_option maxHeartbeats 4000000
namespace FW
open PySem PySem.Spec PyProof.Rows L2
section
variable {P : Program} {w : World} {K : PySem.W.Frag} {mg : Str → Option Value} {base : Heap}
abbrev dMove (x : Nat) (ds : List Nat) : PD := .tuple [.str "ask", dN x, .tuple (dNs ds)]
abbrev N_ahead : List Str := ["house", "knowledge", "entry", "state", "word", "thing", "floor", "found", "downs", "rooms", "sizes", "rest", "filled", "lots", "before", "other", "index"]
abbrev P_ahead : List Str := ["house", "knowledge", "entry", "state"]
theorem sc_ahead : FnScope N_ahead P_ahead (defScope (Hd.top 39)) := ⟨rfl, rfl, rfl, by decide +kernel, rfl, by decide +kernel, by decide +kernel⟩
abbrev Ok_ahead (P : Program) (w : World) (K : PySem.W.Frag) (mg : Str → Option Value) (base : Heap) : Prop := Hd.OkF P w K mg base 5 "ahead" P_ahead (Pr K (α := Nat × Nat × (Nat → Nat) × FK.Kn × Nat × Nat × (Nat → Nat)) (fun a => [dHouse (a.1 + 1) a.2.1 a.2.2.1, dKn (a.1 + 1) a.2.1 a.2.2.2.1, dAsk a.2.2.2.2.1 a.2.2.2.2.2.1, dSt (a.1 + 1) a.2.2.2.2.2.2]) (fun a => a.1 ≤ 100 ∧ a.2.1 ≤ 100 ∧ FK.KOk (a.1 + 1) a.2.1 a.2.2.1 a.2.2.2.1 ∧ a.2.2.2.2.1 < a.1 + 1 ∧ FK.Can (a.1 + 1) a.2.1 a.2.2.2.1 (FK.placeOf a.2.2.2.1 a.2.2.2.2.1) a.2.2.2.2.2.1 ∧ FK.FitS (a.1 + 1) a.2.1 (FK.ledK (a.1 + 1) a.2.2.1 a.2.2.2.1 a.2.2.2.2.1 a.2.2.2.2.2.1) a.2.2.2.2.2.2) (fun a => .tuple [dSt (a.1 + 1) (FK.stK (a.1 + 1) a.2.1 a.2.2.1 a.2.2.2.1 a.2.2.2.2.1 a.2.2.2.2.2.1 a.2.2.2.2.2.2), dMove a.2.2.2.2.1 (FK.downsK (a.1 + 1) a.2.1 a.2.2.1 a.2.2.2.1 a.2.2.2.2.1 a.2.2.2.2.2.1 a.2.2.2.2.2.2)]))
theorem ok_ahead (Y : Hd.Ok K mg) (D_fits : Ok_fits P w K mg base) (D_known_sizes : Ok_known_sizes P w K mg base) (D_led : Ok_led P w K mg base) (D_put_back : Ok_put_back P w K mg base) (D_rooms_within : Ok_rooms_within P w K mg base) (D_state_of : Ok_state_of P w K mg base) : Ok_ahead P w K mg base := by
  refine mkPr (i := 28) (j := 39) (k := 4) Y rfl rfl sc_ahead (fun _ _ _ _ _ _ us hl => match us, hl with | [_, _, _, _], _ => rfl) 13 rfl (fun _ => rfl) fun cdv A' outer s H E hr => ⟨_, (pss_cons (ps_asg (pv 2) (kg_tup (K := K) (n := 3) rfl rfl (pgs_cons (pg_name (i := 4) sc_ahead.nd rfl (Or.inl rfl)) (pgs_cons (pg_name (i := 5) sc_ahead.nd rfl (Or.inr rfl)) (pgs_cons (pg_name (i := 6) sc_ahead.nd rfl (Or.inr rfl)) pgs_nil))))) (pss_cons (ps_if (pt_not (pt_val (Hd.pe_f D_fits (hr.mono (by decide)) (by rfl) (pa_cons (pv 0) (pa_cons (Hd.pe_f D_led (hr.mono (by decide)) (by rfl) (pa_cons (pv 0) (pa_cons (pv 1) (pa_cons (pv 2) pa_nil)))) (pa_cons (pv 3) pa_nil)))))) (pss_one ps_never) pss_nil) (pss_cons (ps_if (pt_cmpR (ko_eq (K := K) rfl hr) (pv 4) pe_str (nomark _)) (pss_one (ps_par (i := 7) (j := 8) rfl sc_ahead.nd rfl rfl (by decide) rfl rfl (pa_cons (pe_callTy (kc_list (K := K) rfl) (by rfl) (Y.free 72) bt_list (pa_cons (pv 3) pa_nil)) (pa_cons (pe_tupN pa_nil) pa_nil)) (by rfl))) (pss_cons (ps_asg (pe_tupN (pa_cons (Hd.pe_f D_rooms_within (hr.mono (by decide)) (by rfl) (pa_cons (pv 0) pa_nil)) (pa_cons (Hd.pe_f D_known_sizes (hr.mono (by decide)) (by rfl) (pa_cons (pv 1) pa_nil)) pa_nil))) (kg_tup (K := K) (n := 2) rfl rfl (pgs_cons (pg_name (i := 9) sc_ahead.nd rfl (Or.inr rfl)) (pgs_cons (pg_name (i := 10) sc_ahead.nd rfl (Or.inr rfl)) pgs_nil)))) (pss_cons (ps_set (i := 11) sc_ahead.nd rfl (Or.inr rfl) (pe_lc (own := [("other", 15)]) rfl sc_ahead.nd (kp_seq (K := K) rfl (pe_ix (ki_seq (K := K) rfl) (pv 1) pe_int (fun _ _ => rfl))) (blkOk_by (by first | (change blkC N_ahead (defScope (Hd.top 39)) _ _ = true; decide +kernel) | rfl)) (fun _ _ _ _ _ => (pg_name (i := 15) sc_ahead.nd rfl (Or.inl rfl))) (fun _ _ _ _ _ => (pts_one (pt_cmpR (ko_ne (K := K) rfl hr) (pv 15) (pv 5) (nomark _)))) (fun _ _ _ _ _ => (pv 15)))) (pss_cons (ps_setLc (i := 12) (own := [("index", 16)]) rfl sc_ahead.nd rfl rfl (sw_true rfl rfl rfl (by decide +kernel)) (pi_range1 (by rfl) (Y.free 75) (pa_cons (pe_callB (kc_len (K := K) rfl) (by rfl) (Y.free 71) bt_len (pa_cons (pv 9) pa_nil)) pa_nil)) (blkOk_by (by first | (change blkC N_ahead (defScope (Hd.top 39)) _ _ = true; decide +kernel) | rfl)) (fun _ _ _ _ _ => (pg_name (i := 16) sc_ahead.nd rfl (Or.inl rfl))) (fun _ _ _ _ _ => pts_nil) (fun _ _ _ _ _ => (pe_and (pe_cmpR op_lt (pv 16) (pv 6) (nomark _)) (pe_one (pe_cmpR (ko_eq (K := K) rfl hr) (pe_ix (ki_seq (K := K) rfl) (pv 10) (pv 16) (fun _ _ => rfl)) (pe_ix (ki_seq (K := K) rfl) (pv 9) (pv 16) (fun _ _ => rfl)) (nomark _)))))) (pss_cons (ps_setLc (i := 13) (own := [("index", 16)]) rfl sc_ahead.nd rfl rfl (sw_true rfl rfl rfl (by decide +kernel)) (pi_range1 (by rfl) (Y.free 75) (pa_cons (pe_callB (kc_len (K := K) rfl) (by rfl) (Y.free 71) bt_len (pa_cons (pv 9) pa_nil)) pa_nil)) (blkOk_by (by first | (change blkC N_ahead (defScope (Hd.top 39)) _ _ = true; decide +kernel) | rfl)) (fun _ _ _ _ _ => (pg_name (i := 16) sc_ahead.nd rfl (Or.inr rfl))) (fun _ _ _ _ _ => pts_nil) (fun _ _ _ _ _ => (pe_lc (own := [("other", 15)]) rfl sc_ahead.nd (kp_seq (K := K) rfl (pv 11)) (blkOk_by (by first | (change blkC N_ahead (defScope (Hd.top 39)) _ _ = true; decide +kernel) | rfl)) (fun _ _ _ _ _ => (pg_name (i := 15) sc_ahead.nd rfl (Or.inl rfl))) (fun _ _ _ _ _ => (pts_one (pt_cmpR op_le (pe_ix (ki_seq (K := K) rfl) (pv 3) (pv 15) (fun _ _ => rfl)) (pv 16) (nomark _)))) (fun _ _ _ _ _ => (pv 15))))) (pss_cons (ps_asg (Hd.pe_f D_put_back (hr.mono (by decide)) (by rfl) (pa_cons (pv 11) (pa_cons (pv 13) (pa_cons (pv 12) pa_nil)))) (kg_tup (K := K) (n := 2) rfl rfl (pgs_cons (pg_name (i := 14) sc_ahead.nd rfl (Or.inl rfl)) (pgs_cons (pg_name (i := 8) sc_ahead.nd rfl (Or.inl rfl)) pgs_nil)))) (pss_one (ps_set (i := 7) sc_ahead.nd rfl (Or.inl rfl) (Hd.pe_f D_state_of (hr.mono (by decide)) (by rfl) (pa_cons (pe_ix (ki_seq (K := K) rfl) (pv 0) pe_int (fun _ _ => rfl)) (pa_cons (pv 14) pa_nil))))))))))) (pss_cons (ps_asg (pv 6) (pg_sub (pv 7) (pv 5) set_list)) (pss_one (ps_ret (pe_tupN (pa_cons (pe_callTy (kc_tup (K := K) rfl) (by rfl) (Y.free 80) bt_tuple (pa_cons (pv 7) pa_nil)) (pa_cons (pe_tupN (pa_cons (pv 4) (pa_cons (pv 5) (pa_cons (pv 8) pa_nil)))) pa_nil))))))))), fun ⟨n, m, r, k, x, i, st'⟩ F0 H0 Q hp hQ => ?_⟩
  change Tr ⟨K, none, F0, H0, F0⟩ [.dat (dHouse (n + 1) m r), .dat (dKn (n + 1) m k), .dat (dAsk x i), .dat (dSt (n + 1) st'), .un, .un, .un, .un, .un, .un, .un, .un, .un, .un, .un, .un, .un] [] _ _
  obtain ⟨hn, hm, ok, hx, can, fit⟩ : n ≤ 100 ∧ m ≤ 100 ∧ FK.KOk (n + 1) m r k ∧ x < n + 1 ∧ FK.Can (n + 1) m k (FK.placeOf k x) i ∧ FK.FitS (n + 1) m (FK.ledK (n + 1) r k x i) st' := hp
  obtain ⟨b0, b1, b2⟩ := FK.back_all ok hx can fit
  have ok' := FK.led_okN ok hx can
  have rl : (FK.restK k x).length = n := FK.filter_len ok hx
  have rm : ∀ y ∈ FK.restK k x, y < n + 1 := fun y hy => ok.mem.mp (List.mem_of_mem_erase hy)
  refine t_seq (t_asgD (ev_d rfl) (tg_tup rfl (tgs_name (tgs_name (tgs_name (tgs_nil fun σ H h => h.go ?_))))))
  refine t_seq (t_ifD (b := false) (EvT.is (et_not (et_B (Ev.is (s' := dB true) (ev_call ((n + 1, m, r, FK.ledK (n + 1) r k x i, st')) (EvA.is (ea_cons (ev_d rfl) (ea_cons (ev_call ((n, m, r, k, x, i)) (EvA.is (ea_cons (ev_d rfl) (ea_cons (ev_d rfl) (ea_cons (ev_d rfl) ea_nil))) rfl) (by exact ⟨hn, hm, ok, hx, can⟩)) (ea_cons (ev_d rfl) ea_nil))) rfl) (by exact ⟨by omega, hm, ok', fit⟩)) rfl))) rfl) (fun e => nomatch e) fun _ => t_next fun σ H h => h.go ?_)
  refine t_seq (t_ifD (b := false) (EvT.is (et_test (ev_op (ev_d rfl) ev_str rv_eqUS)) (by decide)) (fun e => nomatch e) fun _ => ?_)
  refine t_seq (t_tup (ees_cons (ee_d (ev_call ((n + 1, m, r)) (EvA.is (ea_cons (ev_d rfl) ea_nil) rfl) hm)) (ees_cons (ee_d (ev_call ((n + 1, m, k)) (EvA.is (ea_cons (ev_d rfl) ea_nil) rfl) hm)) ees_nil)) rfl (by decide) ⟨rfl, tgs_name (tgs_name (tgs_nil fun σ H h => h.go ?_))⟩)
  refine t_seq (t_set (ee_d (EvL.data (EvL.is (ds' := dNs (FK.restK k x)) (el_lc (fun y : Nat => !decide ((y : Int) = (x : Int))) dN (src_t (ev_op (ev_d rfl) ev_int (rv_ixT (at_of (k := 0) rfl rfl)))) hw0 (show k.order.length ≤ 100000 by rw [ok.len]; omega) (fun a ha => tgc_name (by simp)) (fun a ha => (et_test (ev_op (ev_d rfl) (ev_d rfl) rv_neUI))) (fun a ha hp => (ev_d rfl))) ?_))) fun σ H h => h.go ?_)
  · unfold FK.restK
    rw [ok.nodup.erase_eq_filter]
    congr 1
    refine List.filter_congr fun y _ => ?_
    rw [Bool.eq_iff_iff]
    simp
    omega
  refine t_seq (t_set (ee_d (EvL.data (EvL.is (ds' := tab m fun j => PyData.bool (FK.flK (n + 1) r k i j)) (el_map _ (src_range (ea_cons (ev_cb (ea_cons (ev_d rfl) ea_nil) (rc_lenTT (n := m))) ea_nil) (by omega)) hw0 (by first | omega | (simp; omega)) (fun a ha => tgc_name (by simp)) (fun a ha => (ev_andV (ev_op (ev_d rfl) (ev_d rfl) rv_b) fun hb => (ev_op (ev_op (ev_d rfl) (ev_d rfl) (rv_ixT (at_tab a (List.mem_range.mp ha) rfl))) (ev_op (ev_d rfl) (ev_d rfl) (rv_ixT (at_tab a (List.mem_range.mp ha) rfl))) rv_eqUI)))) ?_))) fun σ H h => h.go ?_)
  · refine tab_congr fun j hj => ?_
    show PyData.bool _ = PyData.bool (FK.flK (n + 1) r k i j)
    congr 1
    refine Bool.eq_iff_iff.mpr ⟨fun q => ?_, fun q => ?_⟩
    · rw [Bool.and_eq_true] at q
      exact decide_eq_true ⟨by have := of_decide_eq_true q.1; omega, of_decide_eq_true q.2⟩
    · have e : FK.full k (n + 1) r i j := of_decide_eq_true q
      rw [Bool.and_eq_true]
      exact ⟨decide_eq_true (by have := e.1; omega), decide_eq_true e.2⟩
  refine t_seq (t_set (ee_d (EvL.data (EvL.is (ds' := tab m fun j => PyData.list (dNs (FK.lotsK k x st' j))) (el_map _ (src_range (ea_cons (ev_cb (ea_cons (ev_d rfl) ea_nil) (rc_lenTT (n := m))) ea_nil) (by omega)) hw0 (by first | omega | (simp; omega)) (fun a ha => tgc_name (by simp)) (fun a ha => (EvL.data (el_lc (fun y : Nat => decide ((st' y : Int) ≤ (a : Int))) dN (src_l (ev_d rfl)) hw0 (show (FK.restK k x).length ≤ 100000 by rw [rl]; omega) (fun a1 ha1 => tgc_name (by simp)) (fun a1 ha1 => (et_test (ev_op (ev_op (ev_d rfl) (ev_d rfl) (rv_ixT (at_tab a1 (rm a1 ha1) rfl))) (ev_d rfl) rv_b))) (fun a1 ha1 hp => (ev_d rfl)))))) ?_))) fun σ H h => h.go ?_)
  · refine tab_congr fun j hj => ?_
    show PyData.list _ = PyData.list (dNs (FK.lotsK k x st' j))
    congr 2
    unfold FK.lotsK
    exact List.filter_congr fun y _ => decide_eq_decide.mpr (by omega)
  refine t_seq (t_asgD (ev_call ((m, FK.restK k x, FK.lotsK k x st', FK.flK (n + 1) r k i)) (EvA.is (ea_cons (ev_d rfl) (ea_cons (ev_d rfl) (ea_cons (ev_d rfl) ea_nil))) rfl) (by exact ⟨hm, by rw [rl]; omega, fun j hj => Nat.le_trans (List.length_filter_le _ _) (by rw [rl]; omega), b2⟩)) (tg_tup rfl (tgs_name (tgs_name (tgs_nil fun σ H h => h.go ?_)))))
  refine t_set (ee_l (el_call ((n + 1, m, FK.bfF m (FK.restK k x) (FK.lotsK k x st') (FK.flK (n + 1) r k i))) (EvA.is (ea_cons (ev_op (ev_d rfl) ev_int (rv_ixT (at_of (k := 0) rfl rfl))) (ea_cons (ev_d rfl) ea_nil)) rfl) (by exact ⟨by omega, hm, fun j hj y hy => rm y ((b1 j (Nat.le_of_lt hj)).sub y hy)⟩))) fun p σ H h => ?_
  refine Pst.go (u := tSeq _ _) (D := { nx := fun _ H' => Q .non H', rt := Q }) h (t_seq (t_setitem (ev_d rfl) (ev_m rfl) (ev_d rfl) (k := 0) rfl (ixN_nat (by simpa using hx)) fun σ H h => h.go ?_))
  refine t_retD (Ev.is (ev_tup2 (ea_cons (ev_cb (ea_cons (ev_m rfl) ea_nil) (rc_tupM mem0)) (ea_cons (ev_tup3 (ea_cons (ev_d rfl) (ea_cons (ev_d rfl) (ea_cons (ev_d rfl) ea_nil)))) ea_nil))) ?_) hQ
  show Sl.dat (.tuple [.tuple _, _]) = Sl.dat (.tuple [.tuple _, _])
  congr 4
  refine tab_set.trans (tab_congr fun y hy => ?_)
  unfold FK.stK
  by_cases e : y = x
  · rw [if_pos e, if_pos e]
  · rw [if_neg e, if_neg e]
end
end FW
end
section
set_option linter.all false
set_option maxRecDepth 100000
set_option maxHeartbeats 4000000
namespace FW
open PySem PySem.Spec PyProof.Rows L2
section
variable {P : Program} {w : World} {K : PySem.W.Frag} {mg : Str → Option Value} {base : Heap}
abbrev encM (p : Nat × List Nat) : PD := dMove p.1 p.2
structure StepOk (n m : Nat) (r : Nat → Nat) (s : Option (Nat → Nat)) (log : List (Nat × Nat)) : Prop where
  cn : n ≤ 101
  c0 : 0 < m
  cm : m ≤ 100
  cs : ∀ st, s = some st → ∀ y, y < n → st y ≤ m
  ok : FK.KOk n m r (FK.firstK n r s)
  lo : FK.LogOk n m r (FK.firstK n r s) log
  len : log.length ≤ 1000
abbrev N_showing_to : List Str := ["house", "start", "log", "state", "line", "run", "index", "move"]
abbrev P_showing_to : List Str := ["house", "start", "log", "state"]
theorem sc_showing_to : FnScope N_showing_to P_showing_to (defScope (Hd.top 41)) := ⟨rfl, rfl, rfl, by decide +kernel, rfl, by decide +kernel, by decide +kernel⟩
abbrev Ok_showing_to (P : Program) (w : World) (K : PySem.W.Frag) (mg : Str → Option Value) (base : Heap) : Prop := Hd.OkF P w K mg base 7 "showing_to" P_showing_to (Pr K (α := Nat × Nat × (Nat → Nat) × Option (Nat → Nat) × List (Nat × Nat) × (Nat → Nat)) (fun a => [dHouse a.1 a.2.1 a.2.2.1, dStart a.1 a.2.2.2.1, dLog a.2.2.2.2.1, dSt a.1 a.2.2.2.2.2]) (fun a => StepOk a.1 a.2.1 a.2.2.1 a.2.2.2.1 a.2.2.2.2.1 ∧ FK.FitS a.1 a.2.1 (FK.logK a.1 a.2.2.1 (FK.firstK a.1 a.2.2.1 a.2.2.2.1) a.2.2.2.2.1) a.2.2.2.2.2) (fun a => .tuple [dSt a.1 (FK.bkS a.1 a.2.1 a.2.2.1 a.2.2.2.2.2 (FK.firstK a.1 a.2.2.1 a.2.2.2.1) a.2.2.2.2.1), .tuple ((FK.bkM a.1 a.2.1 a.2.2.1 a.2.2.2.2.2 (FK.firstK a.1 a.2.2.1 a.2.2.2.1) a.2.2.2.2.1).map encM)]))
theorem ok_showing_to (Y : Hd.Ok K mg) (D_ahead : Ok_ahead P w K mg base) (D_fits : Ok_fits P w K mg base) (D_knowledge_behind : Ok_knowledge_behind P w K mg base) (D_words_through : Ok_words_through P w K mg base) : Ok_showing_to P w K mg base := by
  refine mkPr (i := 29) (j := 41) (k := 6) Y rfl rfl sc_showing_to (fun _ _ _ _ _ _ us hl => match us, hl with | [_, _, _, _], _ => rfl) 4 rfl (fun _ => rfl) fun cdv A' outer s H E hr => ⟨_, (pss_cons (ps_if (pt_not (pt_val (Hd.pe_f D_fits (hr.mono (by decide)) (by rfl) (pa_cons (pv 0) (pa_cons (Hd.pe_f D_knowledge_behind (hr.mono (by decide)) (by rfl) (pa_cons (pv 0) (pa_cons (pv 1) (pa_cons (pv 2) pa_nil)))) (pa_cons (pv 3) pa_nil)))))) (pss_one ps_never) pss_nil) (pss_cons (ps_par (i := 4) (j := 5) rfl sc_showing_to.nd rfl rfl (by decide) rfl rfl (pa_cons (Hd.pe_f D_words_through (hr.mono (by decide)) (by rfl) (pa_cons (pv 0) (pa_cons (pv 1) (pa_cons (pv 2) pa_nil)))) (pa_cons (pe_lst pa_nil) pa_nil)) (by rfl)) (pss_cons (ps_for PassesOwn.never rfl (pi_range3 (by rfl) (Y.free 75) (pa_cons (pe_op op_sub (pe_callB (kc_len (K := K) rfl) (by rfl) (Y.free 71) bt_len (pa_cons (pv 2) pa_nil)) pe_int) (pa_cons (pe_un un_neg pe_int) (pa_cons (pe_un un_neg pe_int) pa_nil)))) (pg_name (i := 6) sc_showing_to.nd rfl (Or.inl rfl)) (pss_cons (ps_asg (Hd.pe_f D_ahead (hr.mono (by decide)) (by rfl) (pa_cons (pv 0) (pa_cons (pe_ix (ki_seq (K := K) rfl) (pv 4) (pv 6) (fun _ _ => rfl)) (pa_cons (pe_ix (ki_seq (K := K) rfl) (pv 2) (pv 6) (fun _ _ => rfl)) (pa_cons (pv 3) pa_nil))))) (kg_tup (K := K) (n := 2) rfl rfl (pgs_cons (pg_name (i := 3) sc_showing_to.nd rfl (Or.inl rfl)) (pgs_cons (pg_name (i := 7) sc_showing_to.nd rfl (Or.inl rfl)) pgs_nil)))) (pss_one (ps_expr (ke_bm (K := K) rfl PySem.F.plainAttrs_list PySem.F.slot_list_append PySem.F.type_list_append mt_append (pv 5) (pa_cons (pv 7) pa_nil)))))) (pss_one (ps_ret (pe_tupN (pa_cons (pv 3) (pa_cons (pe_callTy (kc_tup (K := K) rfl) (by rfl) (Y.free 80) bt_tuple (pa_cons (ke_rev (K := K) rfl (pv 5)) pa_nil)) pa_nil)))))))), fun ⟨n, m, r, s, log, st⟩ F0 H0 Q hp hQ => ?_⟩
  change Tr ⟨K, none, F0, H0, F0⟩ [.dat (dHouse n m r), .dat (dStart n s), .dat (dLog log), .dat (dSt n st), .un, .un, .un, .un] [] _ _
  obtain ⟨so, fit⟩ : StepOk n m r s log ∧ FK.FitS n m (FK.logK n r (FK.firstK n r s) log) st := hp
  obtain ⟨hn, h0, hm, hs, ok, lo, few⟩ := so
  refine t_seq (t_ifD (b := false) (EvT.is (et_not (et_B (Ev.is (s' := dB true) (ev_call ((n, m, r, FK.logK n r (FK.firstK n r s) log, st)) (EvA.is (ea_cons (ev_d rfl) (ea_cons (ev_call ((n, m, r, s, log)) (EvA.is (ea_cons (ev_d rfl) (ea_cons (ev_d rfl) (ea_cons (ev_d rfl) ea_nil))) rfl) (by exact ⟨hn, h0, hm, hs, ok, lo⟩)) (ea_cons (ev_d rfl) ea_nil))) rfl) (by exact ⟨hn, hm, FK.logK_ok ok lo, fit⟩)) rfl))) rfl) (fun e => nomatch e) fun _ => t_next fun σ H h => h.go ?_)
  refine t_seq (t_par (ees_cons (ee_d (EvL.data (el_call ((n, m, r, s, log)) (EvA.is (ea_cons (ev_d rfl) (ea_cons (ev_d rfl) (ea_cons (ev_d rfl) ea_nil))) rfl) (by exact ⟨hn, h0, hm, hs, ok, lo, few⟩)))) (ees_cons (ee_l el_nil) ees_nil)) fun p => ⟨_, _, rfl, fun σ H h => h.go ?_⟩)
  refine t_seq (t_forT (src_dn (n := log.length) (EvA.is (ea_cons (ev_op (ev_cb (ea_cons (ev_d rfl) ea_nil) (rc_lenN (n := log.length) (by simp))) ev_int rv_i) (ea_cons (ev_neg ev_int) (ea_cons (ev_neg ev_int) ea_nil))) ((by simp))) (by omega)) (fun k G ms => (∃ mv : Sl, G = [.dat (dHouse n m r), .dat (dStart n s), .dat (dLog log), .dat (dSt n (FK.bkS n m r st (FK.logK n r (FK.firstK n r s) (log.take (log.length - k))) (log.drop (log.length - k)))), .dat (.list (tab (log.length + 1) fun c => dKn n m (FK.logK n r (FK.firstK n r s) (log.take c)))), .ml p, .un, mv]) ∧ ms = [(p, (((FK.bkM n m r st (FK.firstK n r s) log).drop (log.length - k)).reverse).map encM)]) ⟨⟨.un, ?_⟩, ?_⟩ ?_ ?_)
  · rw [Nat.sub_zero, List.drop_length, List.take_length]; rfl
  · rw [Nat.sub_zero, List.drop_eq_nil_of_le (by rw [FK.bk_len]; exact Nat.le_refl _)]; rfl
  · rintro k hk Fl G ms ⟨⟨mv, rfl⟩, rfl⟩
    have hc : log.length - 1 - k < log.length := by omega
    have e1 : log.length - k = log.length - 1 - k + 1 := by omega
    have e2 : log.length - (k + 1) = log.length - 1 - k := by omega
    rw [e1, e2]
    obtain ⟨⟨x, i⟩, hx⟩ : ∃ p, log[log.length - 1 - k]? = some p := ⟨_, List.getElem?_eq_getElem hc⟩
    generalize log.length - 1 - k = c at hc hx ⊢
    obtain ⟨a1, a2, a3, a4⟩ := FK.log_at ok lo c _ hx
    obtain ⟨b1, b2⟩ := FK.bk_at (m := m) (r := r) (st := st) (K := FK.firstK n r s) (n := n) c _ hx
    have fit' := FK.bk_fit_at ok lo fit (c + 1) (by omega)
    have hlen : (FK.bkM n m r st (FK.firstK n r s) log).length = log.length := FK.bk_len
    have b3 : (FK.bkM n m r st (FK.firstK n r s) log).drop c = (x, FK.downsK n m r (FK.logK n r (FK.firstK n r s) (log.take c)) x i (FK.bkS n m r st (FK.logK n r (FK.firstK n r s) (log.take (c + 1))) (log.drop (c + 1)))) :: (FK.bkM n m r st (FK.firstK n r s) log).drop (c + 1) := by
      obtain ⟨q1, q2⟩ := List.getElem?_eq_some_iff.mp b2
      rw [List.drop_eq_getElem_cons q1, q2]
    have few2 : ((FK.bkM n m r st (FK.firstK n r s) log).drop (c + 1)).length ≤ 1000 := by rw [List.length_drop, hlen]; omega
    rw [b1, b3, a4]
    rw [a4] at fit'
    generalize FK.bkS n m r st (FK.ledK n r (FK.logK n r (FK.firstK n r s) (log.take c)) x i) (log.drop (c + 1)) = st1 at fit' ⊢
    obtain ⟨n, rfl⟩ : ∃ z, n = z + 1 := ⟨n - 1, by have : x < n := a1; omega⟩
    refine tg_name fun σ H h => h.go ?_
    refine t_seq (t_asgD (ev_call ((n, m, r, FK.logK (n + 1) r (FK.firstK (n + 1) r s) (log.take c), x, i, st1)) (EvA.is (ea_cons (ev_d rfl) (ea_cons (ev_op (ev_d rfl) (ev_d rfl) (rv_ixL (at_tab c (by omega) rfl))) (ea_cons (ev_op (ev_d rfl) (ev_d rfl) (rv_ixT (at_of (k := c) rfl (map_get hx)))) (ea_cons (ev_d rfl) ea_nil)))) rfl) (by exact ⟨by omega, hm, a2, a1, a3, fit'⟩)) (tg_tup rfl (tgs_name (tgs_name (tgs_nil fun σ H h => h.go ?_)))))
    refine t_appD (ev_m rfl) (ev_d rfl) (k := 0) rfl (by simp; omega) fun σ H h => ?_
    refine (h.forget (.keep _ (.keep _ (.keep _ (.keep _ (.keep _ (.keep _ (.drop _ (.keep _ .nil))))))))).inv ⟨⟨_, rfl⟩, cellEq ?_⟩
    rw [List.reverse_cons, List.map_append]; rfl
  · rintro G ms ⟨⟨mv, rfl⟩, rfl⟩ σ H h
    refine Pst.go (u := tRet _) (D := { nx := fun _ H' => Q .non H', rt := Q }) h (t_retD (Ev.is (ev_tup2 (ea_cons (ev_d rfl) (ea_cons (ev_cb (ea_cons (EvL.data (el_revM (ev_m rfl) mem0)) ea_nil) rc_tupL) ea_nil))) ?_) hQ)
    rw [Nat.sub_self, List.take_zero, List.drop_zero, List.drop_zero, ← List.map_reverse, List.reverse_reverse]; rfl
abbrev N_showing : List Str := ["house", "start", "log"]
abbrev P_showing : List Str := ["house", "start", "log"]
theorem sc_showing : FnScope N_showing P_showing (defScope (Hd.top 42)) := ⟨rfl, rfl, rfl, by decide +kernel, rfl, by decide +kernel, by decide +kernel⟩
abbrev Ok_showing (P : Program) (w : World) (K : PySem.W.Frag) (mg : Str → Option Value) (base : Heap) : Prop := Hd.OkF P w K mg base 8 "showing" P_showing (Pr K (α := Nat × Nat × (Nat → Nat) × Option (Nat → Nat) × List (Nat × Nat)) (fun a => [dHouse a.1 a.2.1 a.2.2.1, dStart a.1 a.2.2.2.1, dLog a.2.2.2.2]) (fun a => StepOk a.1 a.2.1 a.2.2.1 a.2.2.2.1 a.2.2.2.2) (fun a => .tuple [dSt a.1 (FK.bkS a.1 a.2.1 a.2.2.1 (FK.frontK a.1 a.2.1 (FK.logK a.1 a.2.2.1 (FK.firstK a.1 a.2.2.1 a.2.2.2.1) a.2.2.2.2)) (FK.firstK a.1 a.2.2.1 a.2.2.2.1) a.2.2.2.2), .tuple ((FK.bkM a.1 a.2.1 a.2.2.1 (FK.frontK a.1 a.2.1 (FK.logK a.1 a.2.2.1 (FK.firstK a.1 a.2.2.1 a.2.2.2.1) a.2.2.2.2)) (FK.firstK a.1 a.2.2.1 a.2.2.2.1) a.2.2.2.2).map encM)]))
theorem ok_showing (Y : Hd.Ok K mg) (D_front_state : Ok_front_state P w K mg base) (D_knowledge_behind : Ok_knowledge_behind P w K mg base) (D_showing_to : Ok_showing_to P w K mg base) : Ok_showing P w K mg base := by
  refine mkPr (i := 30) (j := 42) (k := 7) Y rfl rfl sc_showing (fun _ _ _ _ _ _ us hl => match us, hl with | [_, _, _], _ => rfl) 0 rfl (fun _ => rfl) fun cdv A' outer s H E hr => ⟨_, (pss_one (ps_ret (Hd.pe_f D_showing_to (hr.mono (by decide)) (by rfl) (pa_cons (pv 0) (pa_cons (pv 1) (pa_cons (pv 2) (pa_cons (Hd.pe_f D_front_state (hr.mono (by decide)) (by rfl) (pa_cons (pv 0) (pa_cons (Hd.pe_f D_knowledge_behind (hr.mono (by decide)) (by rfl) (pa_cons (pv 0) (pa_cons (pv 1) (pa_cons (pv 2) pa_nil)))) pa_nil))) pa_nil))))))), fun ⟨n, m, r, s, log⟩ F0 H0 Q hp hQ => ?_⟩
  change Tr ⟨K, none, F0, H0, F0⟩ [.dat (dHouse n m r), .dat (dStart n s), .dat (dLog log)] [] _ _
  have so : StepOk n m r s log := hp
  have okE := FK.logK_ok so.ok so.lo
  exact t_retD (ev_call ((n, m, r, s, log, FK.frontK n m (FK.logK n r (FK.firstK n r s) log))) (EvA.is (ea_cons (ev_d rfl) (ea_cons (ev_d rfl) (ea_cons (ev_d rfl) (ea_cons (ev_call ((n, m, r, FK.logK n r (FK.firstK n r s) log)) (EvA.is (ea_cons (ev_d rfl) (ea_cons (ev_call ((n, m, r, s, log)) (EvA.is (ea_cons (ev_d rfl) (ea_cons (ev_d rfl) (ea_cons (ev_d rfl) ea_nil))) rfl) (by exact ⟨so.cn, so.c0, so.cm, so.cs, so.ok, so.lo⟩)) ea_nil)) rfl) (by exact ⟨so.cn, so.cm, okE⟩)) ea_nil)))) rfl) (by exact ⟨so, FK.front_fit okE⟩)) hQ
/-- what a run of the keepers for a pattern begins from, and does -/
def runS (g : Bool) (n m : Nat) (r : Nat → Nat) (s : Option (Nat → Nat)) (row : List Nat) : Nat → Nat := FK.bkS n m r (FK.frontK n m (FK.logK n r (FK.firstK n r s) (FK.logOf g n m r (FK.firstK n r s) row))) (FK.firstK n r s) (FK.logOf g n m r (FK.firstK n r s) row)
def runM (g : Bool) (n m : Nat) (r : Nat → Nat) (s : Option (Nat → Nat)) (row : List Nat) : List (Nat × List Nat) := FK.bkM n m r (FK.frontK n m (FK.logK n r (FK.firstK n r s) (FK.logOf g n m r (FK.firstK n r s) row))) (FK.firstK n r s) (FK.logOf g n m r (FK.firstK n r s) row)
structure RowOk (n m : Nat) (r : Nat → Nat) (s : Option (Nat → Nat)) (row : List Nat) : Prop where
  cn : n ≤ 101
  c0 : 0 < m
  cm : m ≤ 100
  cs : ∀ st, s = some st → ∀ y, y < n → st y ≤ m
  ok : FK.KOk n m r (FK.firstK n r s)
  crow : ∀ x ∈ row, x < n
  len : row.length ≤ 1000
theorem RowOk.step {n m : Nat} {r : Nat → Nat} {s : Option (Nat → Nat)} {row : List Nat} (h : RowOk n m r s row) (g : Bool) : StepOk n m r s (FK.logOf g n m r (FK.firstK n r s) row) :=
  ⟨h.cn, h.c0, h.cm, h.cs, h.ok, (FK.logOf_ok g h.ok h.crow).1, by unfold FK.logOf; rw [List.length_zip]; have := h.len; omega⟩
abbrev N_best_run : List Str := ["house", "start", "row"]
abbrev P_best_run : List Str := ["house", "start", "row"]
theorem sc_best_run : FnScope N_best_run P_best_run (defScope (Hd.top 44)) := ⟨rfl, rfl, rfl, by decide +kernel, rfl, by decide +kernel, by decide +kernel⟩
abbrev Ok_best_run (P : Program) (w : World) (K : PySem.W.Frag) (mg : Str → Option Value) (base : Heap) : Prop := Hd.OkF P w K mg base 9 "best_run" P_best_run (Pr K (α := Nat × Nat × (Nat → Nat) × Option (Nat → Nat) × List Nat) (fun a => [dHouse a.1 a.2.1 a.2.2.1, dStart a.1 a.2.2.2.1, .tuple (dNs a.2.2.2.2)]) (fun a => RowOk a.1 a.2.1 a.2.2.1 a.2.2.2.1 a.2.2.2.2) (fun a => .tuple [dSt a.1 (runS false a.1 a.2.1 a.2.2.1 a.2.2.2.1 a.2.2.2.2), .tuple ((runM false a.1 a.2.1 a.2.2.1 a.2.2.2.1 a.2.2.2.2).map encM)]))
theorem ok_best_run (Y : Hd.Ok K mg) (D_as_log : Ok_as_log P w K mg base) (D_first_knowledge : Ok_first_knowledge P w K mg base) (D_least_pattern : Ok_least_pattern P w K mg base) (D_showing : Ok_showing P w K mg base) : Ok_best_run P w K mg base := by
  refine mkPr (i := 31) (j := 44) (k := 8) Y rfl rfl sc_best_run (fun _ _ _ _ _ _ us hl => match us, hl with | [_, _, _], _ => rfl) 0 rfl (fun _ => rfl) fun cdv A' outer s H E hr => ⟨_, (pss_one (ps_ret (Hd.pe_f D_showing (hr.mono (by decide)) (by rfl) (pa_cons (pv 0) (pa_cons (pv 1) (pa_cons (Hd.pe_f D_as_log (hr.mono (by decide)) (by rfl) (pa_cons (pv 2) (pa_cons (Hd.pe_f D_least_pattern (hr.mono (by decide)) (by rfl) (pa_cons (pv 0) (pa_cons (Hd.pe_f D_first_knowledge (hr.mono (by decide)) (by rfl) (pa_cons (pv 0) (pa_cons (pv 1) pa_nil))) (pa_cons (pv 2) pa_nil)))) pa_nil))) pa_nil)))))), fun ⟨n, m, r, s, row⟩ F0 H0 Q hp hQ => ?_⟩
  change Tr ⟨K, none, F0, H0, F0⟩ [.dat (dHouse n m r), .dat (dStart n s), .dat (.tuple (dNs row))] [] _ _
  have ro : RowOk n m r s row := hp
  exact t_retD (ev_call ((n, m, r, s, FK.logOf false n m r (FK.firstK n r s) row)) (EvA.is (ea_cons (ev_d rfl) (ea_cons (ev_d rfl) (ea_cons (ev_call ((row, FK.follow false n m r (FK.firstK n r s) row)) (EvA.is (ea_cons (ev_d rfl) (ea_cons (ev_call ((n, m, r, FK.firstK n r s, row)) (EvA.is (ea_cons (ev_d rfl) (ea_cons (ev_call ((n, m, r, s)) (EvA.is (ea_cons (ev_d rfl) (ea_cons (ev_d rfl) ea_nil)) rfl) (by exact ⟨ro.cn, ro.c0, ro.cm, ro.cs⟩)) (ea_cons (ev_d rfl) ea_nil))) rfl) (by exact ⟨ro.cn, ro.cm, ro.len, ro.ok, ro.crow⟩)) ea_nil)) rfl) ro.len) ea_nil))) rfl) (ro.step false)) hQ
abbrev N_worst_run : List Str := ["house", "start", "row"]
abbrev P_worst_run : List Str := ["house", "start", "row"]
theorem sc_worst_run : FnScope N_worst_run P_worst_run (defScope (Hd.top 45)) := ⟨rfl, rfl, rfl, by decide +kernel, rfl, by decide +kernel, by decide +kernel⟩
abbrev Ok_worst_run (P : Program) (w : World) (K : PySem.W.Frag) (mg : Str → Option Value) (base : Heap) : Prop := Hd.OkF P w K mg base 9 "worst_run" P_worst_run (Pr K (α := Nat × Nat × (Nat → Nat) × Option (Nat → Nat) × List Nat) (fun a => [dHouse a.1 a.2.1 a.2.2.1, dStart a.1 a.2.2.2.1, .tuple (dNs a.2.2.2.2)]) (fun a => RowOk a.1 a.2.1 a.2.2.1 a.2.2.2.1 a.2.2.2.2) (fun a => .tuple [dSt a.1 (runS true a.1 a.2.1 a.2.2.1 a.2.2.2.1 a.2.2.2.2), .tuple ((runM true a.1 a.2.1 a.2.2.1 a.2.2.2.1 a.2.2.2.2).map encM)]))
theorem ok_worst_run (Y : Hd.Ok K mg) (D_as_log : Ok_as_log P w K mg base) (D_first_knowledge : Ok_first_knowledge P w K mg base) (D_greatest_pattern : Ok_greatest_pattern P w K mg base) (D_showing : Ok_showing P w K mg base) : Ok_worst_run P w K mg base := by
  refine mkPr (i := 32) (j := 45) (k := 8) Y rfl rfl sc_worst_run (fun _ _ _ _ _ _ us hl => match us, hl with | [_, _, _], _ => rfl) 0 rfl (fun _ => rfl) fun cdv A' outer s H E hr => ⟨_, (pss_one (ps_ret (Hd.pe_f D_showing (hr.mono (by decide)) (by rfl) (pa_cons (pv 0) (pa_cons (pv 1) (pa_cons (Hd.pe_f D_as_log (hr.mono (by decide)) (by rfl) (pa_cons (pv 2) (pa_cons (Hd.pe_f D_greatest_pattern (hr.mono (by decide)) (by rfl) (pa_cons (pv 0) (pa_cons (Hd.pe_f D_first_knowledge (hr.mono (by decide)) (by rfl) (pa_cons (pv 0) (pa_cons (pv 1) pa_nil))) (pa_cons (pv 2) pa_nil)))) pa_nil))) pa_nil)))))), fun ⟨n, m, r, s, row⟩ F0 H0 Q hp hQ => ?_⟩
  change Tr ⟨K, none, F0, H0, F0⟩ [.dat (dHouse n m r), .dat (dStart n s), .dat (.tuple (dNs row))] [] _ _
  have ro : RowOk n m r s row := hp
  exact t_retD (ev_call ((n, m, r, s, FK.logOf true n m r (FK.firstK n r s) row)) (EvA.is (ea_cons (ev_d rfl) (ea_cons (ev_d rfl) (ea_cons (ev_call ((row, FK.follow true n m r (FK.firstK n r s) row)) (EvA.is (ea_cons (ev_d rfl) (ea_cons (ev_call ((n, m, r, FK.firstK n r s, row)) (EvA.is (ea_cons (ev_d rfl) (ea_cons (ev_call ((n, m, r, s)) (EvA.is (ea_cons (ev_d rfl) (ea_cons (ev_d rfl) ea_nil)) rfl) (by exact ⟨ro.cn, ro.c0, ro.cm, ro.cs⟩)) (ea_cons (ev_d rfl) ea_nil))) rfl) (by exact ⟨ro.cn, ro.cm, ro.len, ro.ok, ro.crow⟩)) ea_nil)) rfl) ro.len) ea_nil))) rfl) (ro.step true)) hQ
end
end FW
end
section
set_option linter.all false
set_option maxRecDepth 100000
set_option maxHeartbeats 4000000
namespace FW
open PySem PySem.Spec PyProof.Rows L2
section
variable {P : Program} {w : World} {K : PySem.W.Frag} {mg : Str → Option Value} {base : Heap}
abbrev N__law_known_sizes : List Str := ["_law_known", "_law_word"]
abbrev P__law_known_sizes : List Str := ["_law_known"]
theorem sc__law_known_sizes : FnScope N__law_known_sizes P__law_known_sizes (defScope (Hd.top 66)) := ⟨rfl, rfl, rfl, by decide +kernel, rfl, by decide +kernel, by decide +kernel⟩
abbrev Ok__law_known_sizes (P : Program) (w : World) (K : PySem.W.Frag) (mg : Str → Option Value) (base : Heap) : Prop := Hd.OkF P w K mg base 1 "_law_known_sizes" P__law_known_sizes (Pr K (α := Nat × Nat × FK.Kn) (fun a => [dKn a.1 a.2.1 a.2.2]) (fun a => a.2.1 ≤ 100) (fun a => dRow a.2.1 fun j => a.2.2.W j a.1))
theorem ok__law_known_sizes (Y : Hd.Ok K mg) : Ok__law_known_sizes P w K mg base := by
  refine mkPr (i := 52) (j := 66) (k := 0) Y rfl rfl sc__law_known_sizes (fun _ _ _ _ _ _ us hl => match us, hl with | [_], _ => rfl) 1 rfl (fun _ => rfl) fun cdv A' outer s H E hr => ⟨_, (pss_one (ps_ret (pe_callTy (kc_tup (K := K) rfl) (by rfl) (Y.free 80) bt_tuple (pa_cons (pe_lc (own := [("_law_word", 1)]) rfl sc__law_known_sizes.nd (kp_seq (K := K) rfl (pe_ix (ki_seq (K := K) rfl) (pv 0) pe_int (fun _ _ => rfl))) (blkOk_by (by first | (change blkC N__law_known_sizes (defScope (Hd.top 66)) _ _ = true; decide +kernel) | rfl)) (fun _ _ _ _ _ => (pg_name (i := 1) sc__law_known_sizes.nd rfl (Or.inl rfl))) (fun _ _ _ _ _ => pts_nil) (fun _ _ _ _ _ => (pe_ix (ki_seq (K := K) rfl) (pv 1) (pe_un un_neg pe_int) (fun _ _ => rfl)))) pa_nil)))), fun ⟨n, m, k⟩ F0 H0 Q hp hQ => ?_⟩
  change Tr ⟨K, none, F0, H0, F0⟩ [.dat (dKn n m k), .un] [] _ _
  have hm : m ≤ 100 := hp
  exact t_retD (ev_cb (ea_cons (EvL.data (el_map _ (src_t (ev_op (ev_d rfl) ev_int (rv_ixT (at_of (k := 1) rfl rfl)))) hw0 (by first | omega | (simp; omega)) (fun a ha => tgc_name (by simp)) (fun a ha => (ev_op (ev_d rfl) (ev_neg ev_int) (rv_ixT at_last))))) ea_nil) rc_tupL) hQ
abbrev N__law_behind : List Str := ["_law_floors", "_law_floor", "_law_one_here"]
abbrev P__law_behind : List Str := ["_law_floors", "_law_floor"]
theorem sc__law_behind : FnScope N__law_behind P__law_behind (defScope (Hd.top 70)) := ⟨rfl, rfl, rfl, by decide +kernel, rfl, by decide +kernel, by decide +kernel⟩
abbrev Ok__law_behind (P : Program) (w : World) (K : PySem.W.Frag) (mg : Str → Option Value) (base : Heap) : Prop := Hd.OkF P w K mg base 1 "_law_behind" P__law_behind (Pr K (α := List Nat × Nat) (fun a => [.tuple (dNs a.1), dN a.2]) (fun a => a.1.length ≤ 1000) (fun a => .int (FK.behind a.1 a.2)))
theorem ok__law_behind (Y : Hd.Ok K mg) : Ok__law_behind P w K mg base := by
  refine mkPr (i := 56) (j := 70) (k := 0) Y rfl rfl sc__law_behind (fun _ _ _ _ _ _ us hl => match us, hl with | [_, _], _ => rfl) 1 rfl (fun _ => rfl) fun cdv A' outer s H E hr => ⟨_, (pss_one (ps_ret (pe_callB (kc_len (K := K) rfl) (by rfl) (Y.free 71) bt_len (pa_cons (pe_lc (own := [("_law_one_here", 2)]) rfl sc__law_behind.nd (kp_seq (K := K) rfl (pv 0)) (blkOk_by (by first | (change blkC N__law_behind (defScope (Hd.top 70)) _ _ = true; decide +kernel) | rfl)) (fun _ _ _ _ _ => (pg_name (i := 2) sc__law_behind.nd rfl (Or.inl rfl))) (fun _ _ _ _ _ => (pts_one (pt_cmpR op_gt (pv 2) (pv 1) (nomark _)))) (fun _ _ _ _ _ => (pv 2))) pa_nil)))), fun ⟨l, j⟩ F0 H0 Q hp hQ => ?_⟩
  change Tr ⟨K, none, F0, H0, F0⟩ [.dat (.tuple (dNs l)), .dat (dN j), .un] [] _ _
  have hl : l.length ≤ 1000 := hp
  refine t_retD (Ev.is (ev_cb (ea_cons (EvL.data (el_lc (fun y : Nat => decide ((y : Int) > (j : Int))) dN (src_t (ev_d rfl)) hw0 (by first | omega | (simp; omega)) (fun a ha => tgc_name (by simp)) (fun a ha => (et_test (ev_op (ev_d rfl) (ev_d rfl) rv_b))) (fun a ha hp => (ev_d rfl)))) ea_nil) rc_lenL) ?_) hQ
  rw [List.length_map, ← List.countP_eq_length_filter]
  show dI _ = dI (FK.behind l j)
  unfold FK.behind
  congr 4
  funext y
  exact decide_eq_decide.mpr (by omega)
theorem sum_rooms {r : Nat → Nat} : ∀ j, (tab (j + 1) fun i => (r i : Int)).sum = FK.RW r j
  | 0 => by show [(r 0 : Int)].sum = FK.RW r 0; simp [FK.RW]
  | j + 1 => by
    rw [← tab_snoc, List.sum_append, sum_rooms j]
    simp [FK.RW]
abbrev N__law_rooms_within : List Str := ["_law_house_here", "_law_floor"]
abbrev P__law_rooms_within : List Str := ["_law_house_here"]
theorem sc__law_rooms_within : FnScope N__law_rooms_within P__law_rooms_within (defScope (Hd.top 55)) := ⟨rfl, rfl, rfl, by decide +kernel, rfl, by decide +kernel, by decide +kernel⟩
abbrev Ok__law_rooms_within (P : Program) (w : World) (K : PySem.W.Frag) (mg : Str → Option Value) (base : Heap) : Prop := Hd.OkF P w K mg base 1 "_law_rooms_within" P__law_rooms_within (PrL K (α := Nat × Nat × (Nat → Nat)) (fun a => [dHouse a.1 a.2.1 a.2.2]) (fun a => a.2.1 ≤ 100) (fun a => tab a.2.1 fun j => PyData.int (FK.RW a.2.2 j)))
theorem ok__law_rooms_within (Y : Hd.Ok K mg) : Ok__law_rooms_within P w K mg base := by
  refine mkPrL (i := 41) (j := 55) (k := 0) Y rfl rfl sc__law_rooms_within (fun _ _ _ _ _ _ us hl => match us, hl with | [_], _ => rfl) 1 rfl (fun _ => rfl) fun cdv A' outer s H E hr => ⟨_, (pss_one (ps_ret (pe_lc (own := [("_law_floor", 1)]) rfl sc__law_rooms_within.nd (pi_range1 (by rfl) (Y.free 75) (pa_cons (pe_callB (kc_len (K := K) rfl) (by rfl) (Y.free 71) bt_len (pa_cons (pe_ix (ki_seq (K := K) rfl) (pv 0) pe_int (fun _ _ => rfl)) pa_nil)) pa_nil)) (blkOk_by (by first | (change blkC N__law_rooms_within (defScope (Hd.top 55)) _ _ = true; decide +kernel) | rfl)) (fun _ _ _ _ _ => (pg_name (i := 1) sc__law_rooms_within.nd rfl (Or.inl rfl))) (fun _ _ _ _ _ => pts_nil) (fun _ _ _ _ _ => (pe_callB (kc_sum (K := K) rfl rfl) (by rfl) (Y.free 78) bt_sum (pa_cons (pe_slice (ks_U (K := K) rfl) (pe_ix (ki_seq (K := K) rfl) (pv 0) pe_int (fun _ _ => rfl)) po_none (po_some (pe_op (ko_add (K := K) rfl) (pv 1) pe_int))) pa_nil)))))), fun ⟨n, m, r⟩ F0 H0 Q hp hQ => ?_⟩
  change Tr ⟨K, none, F0, H0, F0⟩ [.dat (dHouse n m r), .un] [] _ _
  have hm : m ≤ 100 := hp
  refine t_retL (EvL.is (ds' := tab m fun j => PyData.int (FK.RW r j)) (el_map _ (src_range (ea_cons (ev_cb (ea_cons (ev_op (ev_d rfl) ev_int (rv_ixT (at_of (k := 1) rfl rfl))) ea_nil) rc_lenTT) ea_nil) (by omega)) hw0 (by first | omega | (simp; omega)) (fun a ha => tgc_name (by simp)) (fun a ha => (ev_cb (ea_cons (Ev.is (ev_slTo (k := (a + 1)) (ev_op (ev_d rfl) ev_int (rv_ixT (at_of (k := 1) rfl rfl))) (Ev.is (ev_op (ev_d rfl) ev_int rv_addI) ((by simp))) (by have := List.mem_range.mp ha; omega)) (by rw [tab_map])) ea_nil) (rc_sumT (ns := (tab (a + 1) fun j => (r j : Int))))))) ?_) fun ds p vs F' H' e a b c d f => by subst e; exact hQ p vs F' H' a b c d f
  exact tab_congr fun j _ => by rw [sum_rooms]
abbrev N__law_within : List Str := ["_law_house_here", "_law_state_here", "_law_floor", "_law_thing"]
abbrev P__law_within : List Str := ["_law_house_here", "_law_state_here", "_law_floor"]
theorem sc__law_within : FnScope N__law_within P__law_within (defScope (Hd.top 56)) := ⟨rfl, rfl, rfl, by decide +kernel, rfl, by decide +kernel, by decide +kernel⟩
abbrev Ok__law_within (P : Program) (w : World) (K : PySem.W.Frag) (mg : Str → Option Value) (base : Heap) : Prop := Hd.OkF P w K mg base 1 "_law_within" P__law_within (PrL K (α := Nat × Nat × (Nat → Nat) × (Nat → Nat) × Nat) (fun a => [dHouse a.1 a.2.1 a.2.2.1, dSt a.1 a.2.2.2.1, dN a.2.2.2.2]) (fun a => a.1 ≤ 1000) (fun a => ((List.range a.1).filter fun y => decide ((a.2.2.2.1 y : Int) ≤ (a.2.2.2.2 : Int))).map dN))
theorem ok__law_within (Y : Hd.Ok K mg) : Ok__law_within P w K mg base := by
  refine mkPrL (i := 42) (j := 56) (k := 0) Y rfl rfl sc__law_within (fun _ _ _ _ _ _ us hl => match us, hl with | [_, _, _], _ => rfl) 1 rfl (fun _ => rfl) fun cdv A' outer s H E hr => ⟨_, (pss_one (ps_ret (pe_lc (own := [("_law_thing", 3)]) rfl sc__law_within.nd (pi_range1 (by rfl) (Y.free 75) (pa_cons (pe_ix (ki_seq (K := K) rfl) (pv 0) pe_int (fun _ _ => rfl)) pa_nil)) (blkOk_by (by first | (change blkC N__law_within (defScope (Hd.top 56)) _ _ = true; decide +kernel) | rfl)) (fun _ _ _ _ _ => (pg_name (i := 3) sc__law_within.nd rfl (Or.inl rfl))) (fun _ _ _ _ _ => (pts_one (pt_cmpR op_le (pe_ix (ki_seq (K := K) rfl) (pv 1) (pv 3) (fun _ _ => rfl)) (pv 2) (nomark _)))) (fun _ _ _ _ _ => (pv 3))))), fun ⟨n, m, r, st, j⟩ F0 H0 Q hp hQ => ?_⟩
  change Tr ⟨K, none, F0, H0, F0⟩ [.dat (dHouse n m r), .dat (dSt n st), .dat (dN j), .un] [] _ _
  have hn : n ≤ 1000 := hp
  exact t_retL (el_lc (fun a : Nat => decide ((st a : Int) ≤ (j : Int))) dN (src_range (ea_cons (ev_op (ev_d rfl) ev_int (rv_ixT (at_of (k := 0) rfl rfl))) ea_nil) (by omega)) hw0 (by first | omega | (simp; omega)) (fun a ha => tgc_name (by simp)) (fun a ha => (et_test (ev_op (ev_op (ev_d rfl) (ev_d rfl) (rv_ixT (at_tab a (List.mem_range.mp ha) rfl))) (ev_d rfl) rv_b))) (fun a ha hp => (ev_d rfl))) fun ds p vs F' H' e a b c d f => by subst e; exact hQ p vs F' H' a b c d f
abbrev N__law_sizes : List Str := ["_law_house_here", "_law_state_here", "_law_floor"]
abbrev P__law_sizes : List Str := ["_law_house_here", "_law_state_here"]
theorem sc__law_sizes : FnScope N__law_sizes P__law_sizes (defScope (Hd.top 57)) := ⟨rfl, rfl, rfl, by decide +kernel, rfl, by decide +kernel, by decide +kernel⟩
abbrev Ok__law_sizes (P : Program) (w : World) (K : PySem.W.Frag) (mg : Str → Option Value) (base : Heap) : Prop := Hd.OkF P w K mg base 2 "_law_sizes" P__law_sizes (Pr K (α := Nat × Nat × (Nat → Nat) × (Nat → Nat)) (fun a => [dHouse a.1 a.2.1 a.2.2.1, dSt a.1 a.2.2.2]) (fun a => a.1 ≤ 1000 ∧ a.2.1 ≤ 100) (fun a => dRow a.2.1 (FK.cw a.1 a.2.2.2)))
theorem ok__law_sizes (Y : Hd.Ok K mg) (D__law_within : Ok__law_within P w K mg base) : Ok__law_sizes P w K mg base := by
  refine mkPr (i := 43) (j := 57) (k := 1) Y rfl rfl sc__law_sizes (fun _ _ _ _ _ _ us hl => match us, hl with | [_, _], _ => rfl) 1 rfl (fun _ => rfl) fun cdv A' outer s H E hr => ⟨_, (pss_one (ps_ret (pe_callTy (kc_tup (K := K) rfl) (by rfl) (Y.free 80) bt_tuple (pa_cons (pe_lc (own := [("_law_floor", 2)]) rfl sc__law_sizes.nd (pi_range1 (by rfl) (Y.free 75) (pa_cons (pe_callB (kc_len (K := K) rfl) (by rfl) (Y.free 71) bt_len (pa_cons (pe_ix (ki_seq (K := K) rfl) (pv 0) pe_int (fun _ _ => rfl)) pa_nil)) pa_nil)) (blkOk_by (by first | (change blkC N__law_sizes (defScope (Hd.top 57)) _ _ = true; decide +kernel) | rfl)) (fun _ _ _ _ _ => (pg_name (i := 2) sc__law_sizes.nd rfl (Or.inl rfl))) (fun _ _ _ _ _ => pts_nil) (fun _ _ _ _ _ => (pe_callB (kc_len (K := K) rfl) (by rfl) (Y.free 71) bt_len (pa_cons (Hd.pe_f D__law_within (hr.mono (by decide)) (by rfl) (pa_cons (pv 0) (pa_cons (pv 1) (pa_cons (pv 2) pa_nil)))) pa_nil)))) pa_nil)))), fun ⟨n, m, r, st⟩ F0 H0 Q hp hQ => ?_⟩
  change Tr ⟨K, none, F0, H0, F0⟩ [.dat (dHouse n m r), .dat (dSt n st), .un] [] _ _
  have hn : n ≤ 1000 := hp.1
  have hm : m ≤ 100 := hp.2
  refine t_retD (Ev.is (ev_cb (ea_cons (EvL.data (el_map _ (src_range (ea_cons (ev_cb (ea_cons (ev_op (ev_d rfl) ev_int (rv_ixT (at_of (k := 1) rfl rfl))) ea_nil) rc_lenTT) ea_nil) (by omega)) hw0 (by first | omega | (simp; omega)) (fun a ha => tgc_name (by simp)) (fun a ha => (ev_cb (ea_cons (EvL.data (el_call ((n, m, r, st, a)) (EvA.is (ea_cons (ev_d rfl) (ea_cons (ev_d rfl) (ea_cons (ev_d rfl) ea_nil))) rfl) hn)) ea_nil) rc_lenL)))) ea_nil) rc_tupL) ?_) hQ
  congr 2
  refine tab_congr fun j hj => ?_
  unfold FK.cw
  rw [List.length_map, ← List.countP_eq_length_filter]
  congr 3
  funext y
  exact decide_eq_decide.mpr (by simp)
abbrev N__law_integer : List Str := ["_law_thing"]
abbrev P__law_integer : List Str := ["_law_thing"]
theorem sc__law_integer : FnScope N__law_integer P__law_integer (defScope (Hd.top 53)) := ⟨rfl, rfl, rfl, by decide +kernel, rfl, by decide +kernel, by decide +kernel⟩
abbrev Ok__law_integer (P : Program) (w : World) (K : PySem.W.Frag) (mg : Str → Option Value) (base : Heap) : Prop := Hd.OkF P w K mg base 1 "_law_integer" P__law_integer (Pr K (α := Int) (fun a => [.int a]) (fun _ => True) (fun _ => .bool true))
theorem ok__law_integer (Y : Hd.Ok K mg) : Ok__law_integer P w K mg base := by
  refine mkPr (i := 39) (j := 53) (k := 0) Y rfl rfl sc__law_integer (fun _ _ _ _ _ _ us hl => match us, hl with | [_], _ => rfl) 0 rfl (fun _ => rfl) fun cdv A' outer s H E hr => ⟨_, (pss_one (ps_ret (pe_and (pe_callB (kc_isi (K := K) rfl) (by rfl) (Y.free 70) bt_isinstance (pa_cons (pv 0) (pa_cons (pe_bltn (v := .ty "int") (by rfl) (Y.free 69) bt_int rfl) pa_nil))) (pe_one (pe_not (pe_callB (kc_isi (K := K) rfl) (by rfl) (Y.free 70) bt_isinstance (pa_cons (pv 0) (pa_cons (pe_bltn (v := .ty "bool") (by rfl) (Y.free 66) bt_bool rfl) pa_nil)))))))), fun i F0 H0 Q hp hQ => ?_⟩
  change Tr ⟨K, none, F0, H0, F0⟩ [.dat (.int i)] [] _ _
  exact t_retD (ev_andV (ev_cb (ea_cons (ev_d rfl) (ea_cons ev_val ea_nil)) rc_isI) fun hb => (ev_notV (ev_cb (ea_cons (ev_d rfl) (ea_cons ev_val ea_nil)) rc_isB))) hQ
abbrev N__law_alike : List Str := ["_law_found", "_law_due"]
abbrev P__law_alike : List Str := ["_law_found", "_law_due"]
theorem sc__law_alike : FnScope N__law_alike P__law_alike (defScope (Hd.top 51)) := ⟨rfl, rfl, rfl, by decide +kernel, rfl, by decide +kernel, by decide +kernel⟩
abbrev Ok__law_alike (P : Program) (w : World) (K : PySem.W.Frag) (mg : Str → Option Value) (base : Heap) : Prop := Hd.OkF P w K mg base 1 "_law_alike" P__law_alike (Pr K (α := List PD) (fun a => [.tuple a, .tuple a]) (fun a => Sh 60 (.tuple a) ∧ Sm 1000000 (.tuple a)) (fun _ => .bool true))
theorem ok__law_alike (Y : Hd.Ok K mg) : Ok__law_alike P w K mg base := by
  refine mkPr (i := 37) (j := 51) (k := 0) Y rfl rfl sc__law_alike (fun _ _ _ _ _ _ us hl => match us, hl with | [_, _], _ => rfl) 0 rfl (fun _ => rfl) fun cdv A' outer s H E hr => ⟨_, (pss_one (ps_ret (pe_and (pe_cmpR (ko_eq (K := K) rfl hr) (pv 0) (pv 1) (nomark _)) (pe_one (pe_cmpR (ko_eq (K := K) rfl hr) (pe_callB (kc_repr (K := K) rfl hr) (by rfl) (Y.free 76) bt_repr (pa_cons (pv 0) pa_nil)) (pe_callB (kc_repr (K := K) rfl hr) (by rfl) (Y.free 76) bt_repr (pa_cons (pv 1) pa_nil)) (nomark _)))))), fun ds F0 H0 Q hp hQ => ?_⟩
  change Tr ⟨K, none, F0, H0, F0⟩ [.dat (.tuple ds), .dat (.tuple ds)] [] _ _
  obtain ⟨h1, h2⟩ : Sh 60 (.tuple ds) ∧ Sm 1000000 (.tuple ds) := hp
  refine t_retD (Ev.is (ev_andV (ev_op (ev_d rfl) (ev_d rfl) (rv_eqUD (h1.ok (by decide)) (h1.ok (by decide)))) fun hb => (ev_op (ev_cb (ea_cons (ev_d rfl) ea_nil) (rc_repr h2.s h2.n h1.dep h2.l)) (ev_cb (ea_cons (ev_d rfl) ea_nil) (rc_repr h2.s h2.n h1.dep h2.l)) rv_eqUS)) ?_) hQ
  rw [h1.refl]
  simp
abbrev N__law_flat : List Str := ["_law_rows", "_law_found", "_law_row_here"]
abbrev P__law_flat : List Str := ["_law_rows"]
theorem sc__law_flat : FnScope N__law_flat P__law_flat (defScope (Hd.top 52)) := ⟨rfl, rfl, rfl, by decide +kernel, rfl, by decide +kernel, by decide +kernel⟩
abbrev Ok__law_flat (P : Program) (w : World) (K : PySem.W.Frag) (mg : Str → Option Value) (base : Heap) : Prop := Hd.OkF P w K mg base 1 "_law_flat" P__law_flat (PrL K (α := List (List Nat)) (fun a => [.list (a.map fun l => .list (dNs l))]) (fun a => a.length ≤ 1000 ∧ a.flatten.length ≤ 1000) (fun a => dNs a.flatten))
theorem ok__law_flat (Y : Hd.Ok K mg) : Ok__law_flat P w K mg base := by
  refine mkPrL (i := 38) (j := 52) (k := 0) Y rfl rfl sc__law_flat (fun _ _ _ _ _ _ us hl => match us, hl with | [_], _ => rfl) 2 rfl (fun _ => rfl) fun cdv A' outer s H E hr => ⟨_, (pss_cons (ps_set (i := 1) sc__law_flat.nd rfl (Or.inl rfl) (pe_lst pa_nil)) (pss_cons (ps_for PassesOwn.never rfl (kp_seq (K := K) rfl (pv 0)) (pg_name (i := 2) sc__law_flat.nd rfl (Or.inl rfl)) (pss_one (ps_expr (ke_bm (K := K) rfl PySem.F.plainAttrs_list PySem.F.slot_list_extend PySem.F.type_list_extend mt_extend (pv 1) (pa_cons (pv 2) pa_nil))))) (pss_one (ps_ret (pv 1))))), fun ls F0 H0 Q hp hQ => ?_⟩
  change Tr ⟨K, none, F0, H0, F0⟩ [.dat (.list (ls.map fun l => .list (dNs l))), .un, .un] [] _ _
  obtain ⟨h1, h2⟩ : ls.length ≤ 1000 ∧ ls.flatten.length ≤ 1000 := hp
  refine t_seq (t_set (ee_l el_nil) fun p σ H h => h.go ?_)
  refine t_seq (t_for (src_l (ev_d rfl)) (fun c G ms => G = [.dat (.list (ls.map fun l => .list (dNs l))), .ml p, .un] ∧ ms = [(p, dNs (ls.take c).flatten)]) ⟨rfl, rfl⟩ ?_ ?_)
  · rintro c l hl Fl G ms ⟨rfl, rfl⟩
    have e : (ls.take (c + 1)).flatten = (ls.take c).flatten ++ l := by
      rw [List.take_succ, hl]; simp
    have e2 : ls.flatten = (ls.take (c + 1)).flatten ++ (ls.drop (c + 1)).flatten := by rw [← List.flatten_append, List.take_append_drop]
    have e3 : ((ls.take c).flatten ++ l).length ≤ 1000 := by
      rw [← e]
      have := congrArg List.length e2
      rw [List.length_append] at this
      omega
    rw [e]
    refine tg_name fun σ H h => h.go ?_
    refine t_ext (ev_m rfl) (em_d (ev_d rfl)) (k := 0) rfl (by rw [List.length_append] at e3; rw [List.length_map, List.length_map]; omega) fun σ H h => ?_
    exact (h.forget (.keep _ (.keep _ (.drop _ .nil)))).inv ⟨rfl, cellEq dNs_app.symm⟩
  · rintro G ms ⟨rfl, rfl⟩ σ H h
    refine Pst.go (u := tRet _) (D := { nx := fun _ H' => Q .non H', rt := Q }) h (t_retM (ev_m rfl) mem0 ?_)
    rw [List.take_length]
    exact hQ
theorem cnt_st {n : Nat} {st : Nat → Nat} {j : Nat} : (tab n fun y => (st y : Int)).count (j : Int) = FK.cOn n st j := by
  unfold FK.cOn tab
  rw [List.count, List.countP_map]
  refine List.countP_congr fun y _ => ?_
  simp only [Function.comp, beq_iff_eq, decide_eq_true_iff]
  omega
abbrev N__law_is_state : List Str := ["_law_house_here", "_law_thing", "_law_floor", "_law_rooms"]
abbrev P__law_is_state : List Str := ["_law_house_here", "_law_thing"]
theorem sc__law_is_state : FnScope N__law_is_state P__law_is_state (defScope (Hd.top 61)) := ⟨rfl, rfl, rfl, by decide +kernel, rfl, by decide +kernel, by decide +kernel⟩
abbrev Ok__law_is_state (P : Program) (w : World) (K : PySem.W.Frag) (mg : Str → Option Value) (base : Heap) : Prop := Hd.OkF P w K mg base 2 "_law_is_state" P__law_is_state (Pr K (α := Nat × Nat × (Nat → Nat) × (Nat → Nat)) (fun a => [dHouse a.1 a.2.1 a.2.2.1, dSt a.1 a.2.2.2]) (fun a => a.1 ≤ 101 ∧ a.2.1 ≤ 100 ∧ FK.StOk a.1 a.2.1 a.2.2.1 a.2.2.2) (fun _ => .bool true))
theorem ok__law_is_state (Y : Hd.Ok K mg) (D__law_integer : Ok__law_integer P w K mg base) : Ok__law_is_state P w K mg base := by
  refine mkPr (i := 47) (j := 61) (k := 1) Y rfl rfl sc__law_is_state (fun _ _ _ _ _ _ us hl => match us, hl with | [_, _], _ => rfl) 2 rfl (fun _ => rfl) fun cdv A' outer s H E hr => ⟨_, (pss_cons (ps_if (PW.pt (pw_or (pt_not (pt_val (pe_callB (kc_isi (K := K) rfl) (by rfl) (Y.free 70) bt_isinstance (pa_cons (pv 1) (pa_cons (pe_bltn (v := .ty "tuple") (by rfl) (Y.free 80) bt_tuple rfl) pa_nil))))) (pw_or1 (pt_cmpR (ko_ne (K := K) rfl hr) (pe_callB (kc_len (K := K) rfl) (by rfl) (Y.free 71) bt_len (pa_cons (pv 1) pa_nil)) (pe_ix (ki_seq (K := K) rfl) (pv 0) pe_int (fun _ _ => rfl)) (nomark _))))) (pss_one (ps_ret pe_bl)) pss_nil) (pss_cons (ps_if (pt_cmpR (ko_ne (K := K) rfl hr) (pe_lc (own := [("_law_floor", 2)]) rfl sc__law_is_state.nd (kp_seq (K := K) rfl (pv 1)) (blkOk_by (by first | (change blkC N__law_is_state (defScope (Hd.top 61)) _ _ = true; decide +kernel) | rfl)) (fun _ _ _ _ _ => (pg_name (i := 2) sc__law_is_state.nd rfl (Or.inl rfl))) (fun _ _ _ _ _ => (pts_one (PW.pt (pw_or (pt_not (pt_val (Hd.pe_f D__law_integer (hr.mono (by decide)) (by rfl) (pa_cons (pv 2) pa_nil)))) (pw_or1 (pt_not (pt_chain op_le op_le pe_int (pv 2) (pe_callB (kc_len (K := K) rfl) (by rfl) (Y.free 71) bt_len (pa_cons (pe_ix (ki_seq (K := K) rfl) (pv 0) pe_int (fun _ _ => rfl)) pa_nil))))))))) (fun _ _ _ _ _ => (pv 2))) (pe_lst pa_nil) (nomark _)) (pss_one (ps_ret pe_bl)) pss_nil) (pss_one (ps_ret (pe_cmpR (ko_eq (K := K) rfl hr) (pe_lc (own := [("_law_floor", 2), ("_law_rooms", 3)]) rfl sc__law_is_state.nd (kp_enum (K := K) rfl (by rfl) (Y.free 68) (pa_cons (pe_ix (ki_seq (K := K) rfl) (pv 0) pe_int (fun _ _ => rfl)) pa_nil)) (blkOk_by (by first | (change blkC N__law_is_state (defScope (Hd.top 61)) _ _ = true; decide +kernel) | rfl)) (fun _ _ _ _ _ => (kg_tup (K := K) (n := 2) rfl rfl (pgs_cons (pg_name (i := 2) sc__law_is_state.nd rfl (Or.inl rfl)) (pgs_cons (pg_name (i := 3) sc__law_is_state.nd rfl (Or.inl rfl)) pgs_nil)))) (fun _ _ _ _ _ => (pts_one (pt_cmpR op_gt (pe_tm PySem.F.slot_tuple_count PySem.F.type_tuple_count (km_tcount (K := K) rfl) (pv 1) (pa_cons (pv 2) pa_nil)) (pv 3) (nomark _)))) (fun _ _ _ _ _ => (pv 2))) (pe_lst pa_nil) (nomark _)))))), fun ⟨n, m, r, st⟩ F0 H0 Q hp hQ => ?_⟩
  change Tr ⟨K, none, F0, H0, F0⟩ [.dat (dHouse n m r), .dat (dSt n st), .un, .un] [] _ _
  obtain ⟨hn, hm, ok⟩ : n ≤ 101 ∧ m ≤ 100 ∧ FK.StOk n m r st := hp
  refine t_seq (t_ifD (b := false) (EvT.is (et_or (et_not (et_B (ev_cb (ea_cons (ev_d rfl) (ea_cons ev_val ea_nil)) rc_isT))) fun hb => (et_test (ev_op (ev_cb (ea_cons (ev_d rfl) ea_nil) rc_lenTT) (ev_op (ev_d rfl) ev_int (rv_ixT (at_of (k := 0) rfl rfl))) rv_neUI))) ?_) (fun e => nomatch e) fun _ => t_next fun σ H h => h.go ?_)
  · rw [decide_eq_true rfl]; rfl
  refine t_seq (t_ifD (b := false) (EvT.is (et_test (ev_op (EvL.data (el_lc (fun a : Nat => (!true || !(decide ((0 : Int) ≤ (st a : Int)) && decide ((st a : Int) ≤ (m : Int))))) (fun a : Nat => dN (st a)) (src_t (ev_d rfl)) hw0 (by first | omega | (simp; omega)) (fun a ha => tgc_name (by simp)) (fun a ha => (et_or (et_not (et_B (Ev.is (s' := dB true) (ev_call ((st a : Int)) (EvA.is (ea_cons (ev_d rfl) ea_nil) rfl) trivial) rfl))) fun hb => (et_not (et_test (ev_chain ev_int (ev_d rfl) rv_b (fun hb => (ev_cb (ea_cons (ev_op (ev_d rfl) ev_int (rv_ixT (at_of (k := 1) rfl rfl))) ea_nil) rc_lenTT)) (fun hb => rv_b)))))) (fun a ha hp => (ev_d rfl)))) (EvL.data el_nil) (rv_neUD ((sh_lst (k := 0) (sh_map fun a _ => sh_int _)).ok (by decide)) ((sh_nil (k := 0)).ok (by decide))))) ?_) (fun e => nomatch e) fun _ => t_next fun σ H h => h.go ?_)
  · rw [List.filter_eq_nil_iff.mpr fun y hy => ?_]
    · rfl
    · have := ok.le y (List.mem_range.mp hy)
      rw [decide_eq_true (by omega), decide_eq_true (by omega)]
      exact Bool.false_ne_true
  refine t_retD (Ev.is (ev_op (EvL.data (el_lc (fun j : Nat => decide ((((tab n fun y => (st y : Int)).count (j : Int) : Nat) : Int) > (r j : Int))) dN (src_enumT (ea_cons (ev_op (ev_d rfl) ev_int (rv_ixT (at_of (k := 1) rfl rfl))) ea_nil) (.t _)) hw0 (by first | omega | (simp; omega)) (fun a ha => tgc_2 (by simp) (by simp)) (fun a ha => (et_test (ev_op (ev_tcount (ns := (tab n fun y => (st y : Int))) (Ev.is (ev_d rfl) (by rw [tab_map])) (ev_d rfl)) (ev_d rfl) rv_b))) (fun a ha hp => (ev_d rfl)))) (EvL.data el_nil) (rv_eqUD ((sh_lst (k := 0) (sh_map fun a _ => sh_int _)).ok (by decide)) ((sh_nil (k := 0)).ok (by decide)))) ?_) hQ
  rw [List.filter_eq_nil_iff.mpr fun j hj => ?_]
  · rfl
  · have := ok.room j (List.mem_range.mp hj)
    rw [cnt_st, decide_eq_false (by omega)]
    exact Bool.false_ne_true
end
end FW
end
section
set_option linter.all false
set_option maxRecDepth 100000
set_option maxHeartbeats 4000000
namespace FW
open PySem PySem.Spec PyProof.Rows L2
section
variable {P : Program} {w : World} {K : PySem.W.Frag} {mg : Str → Option Value} {base : Heap}
theorem max_up' {a b : Int} (h : a ≤ b) : max b a = b := by omega
abbrev N__law_tightened : List Str := ["_law_rows", "_law_sizes_here", "_law_floors", "_law_many", "_law_words", "_law_one_here", "_law_row_here", "_law_size", "_law_word", "_law_ahead", "_law_count", "_law_floor", "_law_more", "_law_other"]
abbrev P__law_tightened : List Str := ["_law_rows", "_law_sizes_here"]
theorem sc__law_tightened : FnScope N__law_tightened P__law_tightened (defScope (Hd.top 65)) := ⟨rfl, rfl, rfl, by decide +kernel, rfl, by decide +kernel, by decide +kernel⟩
abbrev Ok__law_tightened (P : Program) (w : World) (K : PySem.W.Frag) (mg : Str → Option Value) (base : Heap) : Prop := Hd.OkF P w K mg base 1 "_law_tightened" P__law_tightened (Pr K (α := Nat × Nat × (Nat → Nat → Int) × (Nat → Int) × (Nat → Nat → Int) × (Nat → Nat → Int)) (fun a => [dWs a.2.1 a.1 a.2.2.1, dRow a.1 a.2.2.2.1]) (fun a => 0 < a.1 ∧ a.1 ≤ 100 ∧ a.2.1 ≤ 1000 ∧ (∀ j, j < a.1 → FK.Stp a.2.1 (a.2.2.1 j) (a.2.2.2.1 j) (a.2.2.2.2.1 j) (a.2.2.2.2.2 j)) ∧ FK.Tight a.1 a.2.1 a.2.2.2.1 a.2.2.2.2.2) (fun a => dWs a.2.1 a.1 a.2.2.2.2.2))
theorem ok__law_tightened (Y : Hd.Ok K mg) : Ok__law_tightened P w K mg base := by
  refine mkPr (i := 51) (j := 65) (k := 0) Y rfl rfl sc__law_tightened (fun _ _ _ _ _ _ us hl => match us, hl with | [_, _], _ => rfl) 12 rfl (fun _ => rfl) fun cdv A' outer s H E hr => ⟨_, (pss_cons (ps_par3 (i := 2) (j := 3) (l := 4) rfl sc__law_tightened.nd rfl rfl rfl (by decide) (by decide) (by decide) rfl rfl rfl (pa_cons (pe_callB (kc_len (K := K) rfl) (by rfl) (Y.free 71) bt_len (pa_cons (pv 0) pa_nil)) (pa_cons (pe_op op_sub (pe_callB (kc_len (K := K) rfl) (by rfl) (Y.free 71) bt_len (pa_cons (pe_ix (ki_seq (K := K) rfl) (pv 0) pe_int (fun _ _ => rfl)) pa_nil)) pe_int) (pa_cons (pe_lst pa_nil) pa_nil))) (by rfl)) (pss_cons (ps_if (pt_cmpR (ko_ne (K := K) rfl hr) (pe_lc (own := [("_law_one_here", 5), ("_law_other", 13)]) rfl sc__law_tightened.nd (kp_zip (K := K) rfl (by rfl) (Y.free 81) (pa_cons (pe_op (ko_add (K := K) rfl) (pe_tupN (pa_cons pe_int pa_nil)) (pv 1)) (pa_cons (pv 1) pa_nil))) (blkOk_by (by first | (change blkC N__law_tightened (defScope (Hd.top 65)) _ _ = true; decide +kernel) | rfl)) (fun _ _ _ _ _ => (kg_tup (K := K) (n := 2) rfl rfl (pgs_cons (pg_name (i := 5) sc__law_tightened.nd rfl (Or.inl rfl)) (pgs_cons (pg_name (i := 13) sc__law_tightened.nd rfl (Or.inl rfl)) pgs_nil)))) (fun _ _ _ _ _ => (pts_one (pt_cmpR op_lt (pv 13) (pv 5) (nomark _)))) (fun _ _ _ _ _ => pe_int)) (pe_lst pa_nil) (nomark _)) (pss_one (ps_ret pe_non)) pss_nil) (pss_cons (ps_for PassesOwn.never rfl (kp_zip (K := K) rfl (by rfl) (Y.free 81) (pa_cons (pv 0) (pa_cons (pv 1) pa_nil))) (kg_tup (K := K) (n := 2) rfl rfl (pgs_cons (pg_name (i := 6) sc__law_tightened.nd rfl (Or.inl rfl)) (pgs_cons (pg_name (i := 7) sc__law_tightened.nd rfl (Or.inr rfl)) pgs_nil))) (pss_cons (ps_par (i := 8) (j := 9) rfl sc__law_tightened.nd rfl rfl (by decide) rfl rfl (pa_cons (pe_lst pa_nil) (pa_cons pe_int pa_nil)) (by rfl)) (pss_cons (ps_for PassesOwn.never rfl (kp_enum (K := K) rfl (by rfl) (Y.free 68) (pa_cons (pv 6) pa_nil)) (kg_tup (K := K) (n := 2) rfl rfl (pgs_cons (pg_name (i := 10) sc__law_tightened.nd rfl (Or.inl rfl)) (pgs_cons (pg_name (i := 5) sc__law_tightened.nd rfl (Or.inl rfl)) pgs_nil))) (pss_cons (ps_set (i := 9) sc__law_tightened.nd rfl (Or.inl rfl) (pe_callB (call_max3Nu rfl) (by rfl) (Y.free 73) bt_max (pa_cons (pv 9) (pa_cons (pv 5) (pa_cons (pe_op (ko_add (K := K) rfl) (pe_op op_sub (pv 7) (pv 3)) (pv 10)) pa_nil))))) (pss_one (ps_expr (ke_bm (K := K) rfl PySem.F.plainAttrs_list PySem.F.slot_list_append PySem.F.type_list_append mt_append (pv 8) (pa_cons (pv 9) pa_nil)))))) (pss_cons (ps_for PassesOwn.never rfl (pi_range3 (by rfl) (Y.free 75) (pa_cons (pe_op op_sub (pv 3) pe_int) (pa_cons (pe_un un_neg pe_int) (pa_cons (pe_un un_neg pe_int) pa_nil)))) (pg_name (i := 10) sc__law_tightened.nd rfl (Or.inl rfl)) (pss_one (ps_asg (pe_callB (call_max2 rfl) (by rfl) (Y.free 73) bt_max (pa_cons (pe_ix (ki_seq (K := K) rfl) (pv 8) (pv 10) (fun _ _ => rfl)) (pa_cons (pe_op op_sub (pe_ix (ki_seq (K := K) rfl) (pv 8) (pe_op (ko_add (K := K) rfl) (pv 10) pe_int) (fun _ _ => rfl)) pe_int) pa_nil))) (pg_sub (pv 8) (pv 10) set_list)))) (pss_one (ps_expr (ke_bm (K := K) rfl PySem.F.plainAttrs_list PySem.F.slot_list_append PySem.F.type_list_append mt_append (pv 4) (pa_cons (pv 8) pa_nil)))))))) (pss_cons (ps_for PassesOwn.never rfl (pi_range2 (by rfl) (Y.free 75) (pa_cons pe_int (pa_cons (pv 2) pa_nil))) (pg_name (i := 11) sc__law_tightened.nd rfl (Or.inl rfl)) (pss_one (ps_asg (pe_lc (own := [("_law_one_here", 5), ("_law_other", 13)]) rfl sc__law_tightened.nd (kp_zip (K := K) rfl (by rfl) (Y.free 81) (pa_cons (pe_ix (ki_seq (K := K) rfl) (pv 4) (pv 11) (fun _ _ => rfl)) (pa_cons (pe_ix (ki_seq (K := K) rfl) (pv 4) (pe_op op_sub (pv 11) pe_int) (fun _ _ => rfl)) pa_nil))) (blkOk_by (by first | (change blkC N__law_tightened (defScope (Hd.top 65)) _ _ = true; decide +kernel) | rfl)) (fun _ _ _ _ _ => (kg_tup (K := K) (n := 2) rfl rfl (pgs_cons (pg_name (i := 5) sc__law_tightened.nd rfl (Or.inl rfl)) (pgs_cons (pg_name (i := 13) sc__law_tightened.nd rfl (Or.inl rfl)) pgs_nil)))) (fun _ _ _ _ _ => pts_nil) (fun _ _ _ _ _ => (pe_callB (call_max2 rfl) (by rfl) (Y.free 73) bt_max (pa_cons (pv 5) (pa_cons (pv 13) pa_nil))))) (pg_sub (pv 4) (pv 11) set_list)))) (pss_cons (ps_for PassesOwn.never rfl (pi_range3 (by rfl) (Y.free 75) (pa_cons (pe_op op_sub (pv 2) pe_int) (pa_cons (pe_un un_neg pe_int) (pa_cons (pe_un un_neg pe_int) pa_nil)))) (pg_name (i := 11) sc__law_tightened.nd rfl (Or.inl rfl)) (pss_cons (ps_set (i := 12) sc__law_tightened.nd rfl (Or.inr rfl) (pe_op op_sub (pe_ix (ki_seq (K := K) rfl) (pv 1) (pe_op (ko_add (K := K) rfl) (pv 11) pe_int) (fun _ _ => rfl)) (pe_ix (ki_seq (K := K) rfl) (pv 1) (pv 11) (fun _ _ => rfl)))) (pss_one (ps_asg (pe_lc (own := [("_law_one_here", 5), ("_law_other", 13)]) rfl sc__law_tightened.nd (kp_zip (K := K) rfl (by rfl) (Y.free 81) (pa_cons (pe_ix (ki_seq (K := K) rfl) (pv 4) (pv 11) (fun _ _ => rfl)) (pa_cons (pe_ix (ki_seq (K := K) rfl) (pv 4) (pe_op (ko_add (K := K) rfl) (pv 11) pe_int) (fun _ _ => rfl)) pa_nil))) (blkOk_by (by first | (change blkC N__law_tightened (defScope (Hd.top 65)) _ _ = true; decide +kernel) | rfl)) (fun _ _ _ _ _ => (kg_tup (K := K) (n := 2) rfl rfl (pgs_cons (pg_name (i := 5) sc__law_tightened.nd rfl (Or.inl rfl)) (pgs_cons (pg_name (i := 13) sc__law_tightened.nd rfl (Or.inl rfl)) pgs_nil)))) (fun _ _ _ _ _ => pts_nil) (fun _ _ _ _ _ => (pe_callB (call_max2 rfl) (by rfl) (Y.free 73) bt_max (pa_cons (pv 5) (pa_cons (pe_op op_sub (pv 13) (pv 12)) pa_nil))))) (pg_sub (pv 4) (pv 11) set_list))))) (pss_cons (ps_for PassesOwn.never rfl (kp_zip (K := K) rfl (by rfl) (Y.free 81) (pa_cons (pv 4) (pa_cons (pv 1) pa_nil))) (kg_tup (K := K) (n := 2) rfl rfl (pgs_cons (pg_name (i := 8) sc__law_tightened.nd rfl (Or.inl rfl)) (pgs_cons (pg_name (i := 7) sc__law_tightened.nd rfl (Or.inr rfl)) pgs_nil))) (pss_one (ps_if (pt_cmpR (ko_ne (K := K) rfl hr) (pe_lc (own := [("_law_count", 10), ("_law_one_here", 5)]) rfl sc__law_tightened.nd (kp_enum (K := K) rfl (by rfl) (Y.free 68) (pa_cons (pv 8) pa_nil)) (blkOk_by (by first | (change blkC N__law_tightened (defScope (Hd.top 65)) _ _ = true; decide +kernel) | rfl)) (fun _ _ _ _ _ => (kg_tup (K := K) (n := 2) rfl rfl (pgs_cons (pg_name (i := 10) sc__law_tightened.nd rfl (Or.inl rfl)) (pgs_cons (pg_name (i := 5) sc__law_tightened.nd rfl (Or.inl rfl)) pgs_nil)))) (fun _ _ _ _ _ => (pts_one (pt_cmpR op_gt (pv 5) (pe_callB (call_min2 rfl) (by rfl) (Y.free 74) bt_min (pa_cons (pv 10) (pa_cons (pv 7) pa_nil))) (nomark _)))) (fun _ _ _ _ _ => pe_int)) (pe_lst pa_nil) (nomark _)) (pss_one (ps_ret pe_non)) pss_nil))) (pss_one (ps_ret (pe_callTy (kc_tup (K := K) rfl) (by rfl) (Y.free 80) bt_tuple (pa_cons (pe_lc (own := [("_law_word", 8)]) rfl sc__law_tightened.nd (kp_seq (K := K) rfl (pv 4)) (blkOk_by (by first | (change blkC N__law_tightened (defScope (Hd.top 65)) _ _ = true; decide +kernel) | rfl)) (fun _ _ _ _ _ => (pg_name (i := 8) sc__law_tightened.nd rfl (Or.inl rfl))) (fun _ _ _ _ _ => pts_nil) (fun _ _ _ _ _ => (pe_callTy (kc_tup (K := K) rfl) (by rfl) (Y.free 80) bt_tuple (pa_cons (pv 8) pa_nil)))) pa_nil)))))))))), fun ⟨m, N, rows, s, f, g⟩ F0 H0 Q hp hQ => ?_⟩
  change Tr ⟨K, none, F0, H0, F0⟩ [.dat (dWs N m rows), .dat (dRow m s), .un, .un, .un, .un, .un, .un, .un, .un, .un, .un, .un, .un] [] _ _
  obtain ⟨h0, hm, hN, S, T⟩ : 0 < m ∧ m ≤ 100 ∧ N ≤ 1000 ∧ (∀ j, j < m → FK.Stp N (rows j) (s j) (f j) (g j)) ∧ FK.Tight m N s g := hp
  have hfz : ∀ k, k < m → fz s k ≤ s k := fun k hk => by
    cases k with
    | zero => exact T.s0
    | succ k => exact T.up k hk
  refine t_seq (t_par3 (ees_cons (ee_d (ev_cb (ea_cons (ev_d rfl) ea_nil) rc_lenTT)) (ees_cons (ee_d (ev_op (ev_cb (ea_cons (ev_op (ev_d rfl) ev_int (rv_ixT (at_tab 0 h0 rfl))) ea_nil) rc_lenTT) ev_int rv_i)) (ees_cons (ee_l el_nil) ees_nil))) fun p => ⟨_, _, _, rfl, fun σ H h => h.go ?_⟩)
  refine t_seq (t_ifD (b := false) (EvT.is (et_test (ev_op (EvL.data (el_lc (fun k : Nat => decide (s k < fz s k)) (fun _ => .int 1) (src_zipM (ea_cons (Ev.is (ev_op (ev_tup1 (ea_cons ev_int ea_nil)) (ev_d rfl) (rv_addT (by simp; omega))) (show _ = Sl.dat (.tuple (tab (m + 1) fun k => PyData.int (fz s k))) from ?_)) (ea_cons (ev_d rfl) ea_nil)) (.t _) (.t _) (by omega)) hw0 (by first | omega | (simp; omega)) (fun a ha => tgc_2 (by simp) (by simp)) (fun a ha => (et_test (ev_op (ev_d rfl) (ev_d rfl) rv_b))) (fun a ha hp => ev_int))) (EvL.data el_nil) (rv_neUD ((sh_lst (k := 0) (sh_map fun a _ => sh_int _)).ok (by decide)) ((sh_nil (k := 0)).ok (by decide))))) ?_) (fun e => nomatch e) fun _ => t_next fun σ H h => h.go ?_)
  · refine congrArg (fun z => Sl.dat (.tuple z)) ?_
    refine tab_cons.trans (tab_congr fun k _ => ?_)
    cases k <;> rfl
  · rw [List.filter_eq_nil_iff.mpr fun k hk => ?_]
    · rfl
    · have := hfz k (List.mem_range.mp hk)
      rw [decide_eq_false (by omega)]
      exact Bool.false_ne_true
  refine t_seq (t_forT (src_zipT (ea_cons (ev_d rfl) (ea_cons (ev_d rfl) ea_nil)) (.t _) (.t _)) (fun c G ms => (∃ b0 b1 b2 b3 b4 b5 : Sl, G = [.dat (dWs N m rows), .dat (dRow m s), .dat (dN m), dI ((N + 1 : Nat) - 1 : Int), .ml p, b0, b1, b2, b3, b4, b5, .un, .un, .un]) ∧ ms = [(p, tab c fun j => PyData.list (tab (N + 1) fun d => PyData.int (g j d)))]) ⟨⟨_, _, _, _, _, _, rfl⟩, rfl⟩ ?_ ?_)
  · rintro c hc Fl G ms ⟨⟨b0, b1, b2, b3, b4, b5, rfl⟩, rfl⟩
    have hc : c < m := hc
    have SS := S c hc
    refine tg_tup rfl (tgs_name (tgs_name (tgs_nil fun σ H h => h.go ?_)))
    refine t_seq (t_par (ees_cons (ee_l el_nil) (ees_cons (ee_d ev_int) ees_nil)) fun q => ⟨_, _, rfl, fun σ H h => h.go ?_⟩)
    refine t_seq (t_forT (src_enumT (ea_cons (ev_d rfl) ea_nil) (.t _)) (fun i G ms => (∃ b0 b5 : Sl, G = [.dat (dWs N m rows), .dat (dRow m s), .dat (dN m), dI ((N + 1 : Nat) - 1 : Int), .ml p, b0, .dat (dRow (N + 1) (rows c)), dI (s c), .ml q, dI (fz (f c) i), b5, .un, .un, .un]) ∧ ms = [(q, tab i fun d => PyData.int (f c d)), (p, tab c fun j => PyData.list (tab (N + 1) fun d => PyData.int (g j d)))]) ⟨⟨_, _, rfl⟩, rfl⟩ ?_ ?_)
    · rintro i hi Fl2 G ms ⟨⟨b0, b5, rfl⟩, rfl⟩
      refine tg_tup rfl (tgs_name (tgs_name (tgs_nil fun σ H h => h.go ?_)))
      refine t_seq (t_set (ee_d (ev_cb (ea_cons (ev_d rfl) (ea_cons (ev_d rfl) (ea_cons (ev_op (ev_op (ev_d rfl) (ev_d rfl) rv_i) (ev_d rfl) rv_addI) ea_nil))) rc_max3)) fun σ H h => h.go ?_)
      have e := fz_step SS hi
      refine t_appD (ev_m rfl) (ev_d rfl) (k := 0) rfl (by simp; omega) fun σ H h => ?_
      refine (h.gse (G' := [.dat (dWs N m rows), .dat (dRow m s), .dat (dN m), dI ((N + 1 : Nat) - 1 : Int), .ml p, dI (rows c i), .dat (dRow (N + 1) (rows c)), dI (s c), .ml q, dI (fz (f c) (i + 1)), .dat (dN i), .un, .un, .un]) (by rw [← e]; rfl)).inv ⟨⟨_, _, rfl⟩, ?_⟩
      rw [← tab_snoc (n := i)]
      show (q, _) :: _ = (q, _) :: _
      refine cellEq ?_
      rw [e]; rfl
    · rintro G ms ⟨⟨b0, b5, rfl⟩, rfl⟩ σ H h
      refine Pst.go (u := tSeq _ _) (D := { nx := _, ct := _, bk := _, rt := Q }) h ?_
      refine t_seq (t_forT (src_dn (n := N) (EvA.is (ea_cons (ev_op (ev_d rfl) ev_int rv_i) (ea_cons (ev_neg ev_int) (ea_cons (ev_neg ev_int) ea_nil))) ((by simp))) (by omega)) (fun k G ms => (∃ b0 b5 : Sl, G = [.dat (dWs N m rows), .dat (dRow m s), .dat (dN m), dI ((N + 1 : Nat) - 1 : Int), .ml p, b0, .dat (dRow (N + 1) (rows c)), dI (s c), .ml q, dI (fz (f c) (N + 1)), b5, .un, .un, .un]) ∧ ms = [(q, tab (N + 1) fun j => PyData.int (if N - k ≤ j then g c j else f c j)), (p, tab c fun j => PyData.list (tab (N + 1) fun d => PyData.int (g j d)))]) ⟨⟨_, _, rfl⟩, ?_⟩ ?_ ?_)
      · refine cellEq (tab_congr fun j hj => ?_)
        by_cases e : N - 0 ≤ j
        · obtain rfl : j = N := by omega
          rw [if_pos e, SS.gN]
        · rw [if_neg e]
      · rintro k hk Fl2 G ms ⟨⟨b0, b5, rfl⟩, rfl⟩
        refine tg_name fun σ H h => h.go ?_
        refine t_setitem (ev_cb (ea_cons (ev_op (ev_m rfl) (ev_d rfl) (rv_ixM mem0 (at_tab (N - 1 - k) (by omega) rfl))) (ea_cons (ev_op (ev_op (ev_m rfl) (ev_op (ev_d rfl) ev_int rv_addI) (rv_ixM mem0 (at_tab (N - 1 - k + 1) (by omega) rfl))) ev_int rv_i) ea_nil)) rc_max2) (ev_m rfl) (ev_d rfl) (k := 0) rfl (ixN_nat (by simp; omega)) fun σ H h => ?_
        refine h.inv ⟨⟨_, _, rfl⟩, cellEq (tab_set.trans (tab_congr fun j hj => ?_))⟩
        have e := SS.gs (N - 1 - k) (by omega)
        by_cases e1 : j = N - 1 - k
        · rw [if_pos e1, if_neg (by omega), if_pos (by omega), if_pos (by omega), e1, e]
        · rw [if_neg e1]
          by_cases e2 : N - k ≤ j
          · rw [if_pos e2, if_pos (by omega)]
          · rw [if_neg e2, if_neg (by omega)]
      · rintro G ms ⟨⟨b0, b5, rfl⟩, rfl⟩ σ H h
        have h := Pst.freeze (ms1 := []) (i := 8) h rfl
        dsimp only
        refine h.go ?_
        refine t_appD (ev_m rfl) (ev_d rfl) (k := 0) rfl (by simp; omega) fun σ H h => ?_
        refine h.inv ⟨⟨_, _, _, _, _, _, rfl⟩, ?_⟩
        rw [← tab_snoc (n := c)]
        refine cellEq ?_
        congr 2
        exact congrArg PyData.list (tab_congr fun j hj => by rw [if_pos (by omega)])
  · rintro G ms ⟨⟨b0, b1, b2, b3, b4, b5, rfl⟩, rfl⟩ σ H h
    have h : Pst _ [.dat (dWs N m rows), .dat (dRow m s), .dat (dN m), dI ((N + 1 : Nat) - 1 : Int), .ml p, .un, .un, .un, .un, .un, .un, .un, .un, .un] _ σ H := h.forget (.keep _ (.keep _ (.keep _ (.keep _ (.keep _ (.drop _ (.drop _ (.drop _ (.drop _ (.drop _ (.drop _ (Fg.refl _))))))))))))
    refine Pst.go (u := tSeq _ _) (D := { nx := fun _ H' => Q .non H', rt := Q }) h ?_
    refine t_seq (t_forT (src_r2 (a := 1) (b := m) (EvA.is (ea_cons ev_int (ea_cons (ev_d rfl) ea_nil)) rfl) (by omega)) (fun i G ms => G = [.dat (dWs N m rows), .dat (dRow m s), .dat (dN m), dI ((N + 1 : Nat) - 1 : Int), .ml p, .un, .un, .un, .un, .un, .un, .un, .un, .un] ∧ ms = [(p, tab m fun j => PyData.list (tab (N + 1) fun d => PyData.int (g j d)))]) ⟨rfl, rfl⟩ ?_ ?_)
    · rintro i hi Fl G ms ⟨rfl, rfl⟩
      refine tg_name fun σ H h => h.go ?_
      refine t_setitem (EvL.data (el_map _ (src_zipT (ea_cons (ev_op (ev_m rfl) (ev_d rfl) (rv_ixM mem0 (at_tab (1 + i) (by omega) rfl))) (ea_cons (ev_op (ev_m rfl) (ev_op (ev_d rfl) ev_int rv_i) (rv_ixM mem0 (at_tab i (by omega) (by simp; omega)))) ea_nil)) (.l _) (.l _)) hw0 (by first | omega | (simp; omega)) (fun a ha => tgc_2 (by simp) (by simp)) (fun a ha => (ev_cb (ea_cons (ev_d rfl) (ea_cons (ev_d rfl) ea_nil)) rc_max2)))) (ev_m rfl) (ev_d rfl) (k := 0) rfl (ixN_nat (by simp; omega)) fun σ H h => ?_
      refine (h.forget (.keep _ (.keep _ (.keep _ (.keep _ (.keep _ (.keep _ (.keep _ (.keep _ (.keep _ (.keep _ (.keep _ (.drop _ (Fg.refl _)))))))))))))).inv ⟨rfl, cellEq (tab_set.trans (tab_congr fun j hj => ?_))⟩
      by_cases e : j = 1 + i
      · rw [if_pos e, e]
        congr 1
        refine tab_congr fun d hd => ?_
        rw [max_up']
        rw [Nat.add_comm]
        exact T.mono i d (by omega) (by omega)
      · rw [if_neg e]
    · rintro G ms ⟨rfl, rfl⟩ σ H h
      refine Pst.go (u := tSeq _ _) (D := { nx := fun _ H' => Q .non H', rt := Q }) h ?_
      refine t_seq (t_forT (src_dn (n := (m - 1)) (EvA.is (ea_cons (ev_op (ev_d rfl) ev_int rv_i) (ea_cons (ev_neg ev_int) (ea_cons (ev_neg ev_int) ea_nil))) (by simp; omega)) (by omega)) (fun i G ms => G = [.dat (dWs N m rows), .dat (dRow m s), .dat (dN m), dI ((N + 1 : Nat) - 1 : Int), .ml p, .un, .un, .un, .un, .un, .un, .un, .un, .un] ∧ ms = [(p, tab m fun j => PyData.list (tab (N + 1) fun d => PyData.int (g j d)))]) ⟨rfl, rfl⟩ ?_ ?_)
      · rintro i hi Fl G ms ⟨rfl, rfl⟩
        refine tg_name fun σ H h => h.go ?_
        refine t_seq (t_set (ee_d (ev_op (ev_op (ev_d rfl) (ev_op (ev_d rfl) ev_int rv_addI) (rv_ixT (at_tab (m - 1 - 1 - i + 1) (by omega) rfl))) (ev_op (ev_d rfl) (ev_d rfl) (rv_ixT (at_tab (m - 1 - 1 - i) (by omega) rfl))) rv_i)) fun σ H h => h.go ?_)
        refine t_setitem (EvL.data (el_map _ (src_zipT (ea_cons (ev_op (ev_m rfl) (ev_d rfl) (rv_ixM mem0 (at_tab (m - 1 - 1 - i) (by omega) rfl))) (ea_cons (ev_op (ev_m rfl) (ev_op (ev_d rfl) ev_int rv_addI) (rv_ixM mem0 (at_tab (m - 1 - 1 - i + 1) (by omega) rfl))) ea_nil)) (.l _) (.l _)) hw0 (by first | omega | (simp; omega)) (fun a ha => tgc_2 (by simp) (by simp)) (fun a ha => (ev_cb (ea_cons (ev_d rfl) (ea_cons (ev_op (ev_d rfl) (ev_d rfl) rv_i) ea_nil)) rc_max2)))) (ev_m rfl) (ev_d rfl) (k := 0) rfl (ixN_nat (by simp; omega)) fun σ H h => ?_
        refine (h.forget (.keep _ (.keep _ (.keep _ (.keep _ (.keep _ (.keep _ (.keep _ (.keep _ (.keep _ (.keep _ (.keep _ (.drop _ (.drop _ (Fg.refl _))))))))))))))).inv ⟨rfl, cellEq (tab_set.trans (tab_congr fun j hj => ?_))⟩
        by_cases e : j = m - 1 - 1 - i
        · rw [if_pos e, e]
          congr 1
          refine tab_congr fun d hd => ?_
          rw [max_gap]
          exact T.gap _ d (by omega) (by omega)
        · rw [if_neg e]
      · rintro G ms ⟨rfl, rfl⟩ σ H h
        have h := Pst.freeze (ms1 := []) (i := 4) h rfl
        refine Pst.go (u := tSeq _ _) (D := { nx := fun _ H' => Q .non H', rt := Q }) h ?_
        refine t_seq (t_forT (src_zipT (ea_cons (ev_d rfl) (ea_cons (ev_d rfl) ea_nil)) (.l _) (.t _)) (fun i G ms => (∃ b7 b8 : Sl, G = [.dat (dWs N m rows), .dat (dRow m s), .dat (dN m), dI ((N + 1 : Nat) - 1 : Int), .dat (.list (tab m fun j => PyData.list (tab (N + 1) fun d => PyData.int (g j d)))), .un, .un, b7, b8, .un, .un, .un, .un, .un]) ∧ ms = []) ⟨⟨_, _, rfl⟩, rfl⟩ ?_ ?_)
        · rintro i hi Fl G ms ⟨⟨b7, b8, rfl⟩, rfl⟩
          refine tg_tup rfl (tgs_name (tgs_name (tgs_nil fun σ H h => h.go ?_)))
          refine t_ifD (b := false) (EvT.is (et_test (ev_op (EvL.data (el_lc (fun d : Nat => decide (g i d > min (d : Int) (s i))) (fun _ => .int 1) (src_enumT (ea_cons (ev_d rfl) ea_nil) (.l _)) hw0 (by first | omega | (simp; omega)) (fun a ha => tgc_2 (by simp) (by simp)) (fun a ha => (et_test (ev_op (ev_d rfl) (ev_cb (ea_cons (ev_d rfl) (ea_cons (ev_d rfl) ea_nil)) rc_min2) rv_b))) (fun a ha hp => ev_int))) (EvL.data el_nil) (rv_neUD ((sh_lst (k := 0) (sh_map fun a _ => sh_int _)).ok (by decide)) ((sh_nil (k := 0)).ok (by decide))))) ?_) (fun e => nomatch e) fun _ => t_next fun σ H h => ?_
          · rw [List.filter_eq_nil_iff.mpr fun d hd => ?_]
            · rfl
            · have hd := List.mem_range.mp hd
              have h1 := T.pl i d hi (by omega)
              have h2 := T.sz i d hi (by omega)
              rw [decide_eq_false (by omega)]
              exact Bool.false_ne_true
          · exact h.inv ⟨⟨_, _, rfl⟩, rfl⟩
        · rintro G ms ⟨⟨b7, b8, rfl⟩, rfl⟩ σ H h
          exact Pst.go (u := tRet _) (D := { nx := fun _ H' => Q .non H', rt := Q }) h (t_retD (ev_cb (ea_cons (EvL.data (el_map _ (src_l (ev_d rfl)) hw0 (by first | omega | (simp; omega)) (fun a ha => tgc_name (by simp)) (fun a ha => (ev_cb (ea_cons (ev_d rfl) ea_nil) rc_tupL)))) ea_nil) rc_tupL) hQ)
end
end FW
end
section
set_option linter.all false
set_option maxRecDepth 100000
set_option maxHeartbeats 4000000
namespace FW
open PySem PySem.Spec PyProof.Rows L2
section
variable {P : Program} {w : World} {K : PySem.W.Frag} {mg : Str → Option Value} {base : Heap}
theorem row3 {n e : Nat} {f g : Nat → PD} {x : PD} (he : e ≤ n) : tab e f ++ [x] ++ tab (n + 2 - (e + 1) - 1) g = tab (n + 1) fun d => if d < e then f d else if d = e then x else g (d - (e + 1)) := by
  have e1 : [x] = tab 1 fun _ => x := rfl
  rw [e1, tab_app, tab_app, show e + 1 + (n + 2 - (e + 1) - 1) = n + 1 by omega]
  refine tab_congr fun d hd => ?_
  by_cases h1 : d < e
  · rw [if_pos (by omega), if_pos h1, if_pos h1]
  · rw [if_neg h1]
    by_cases h2 : d = e
    · rw [if_pos (by omega), if_neg h1, if_pos h2]
    · rw [if_neg (by omega), if_neg h1, if_neg h2]
abbrev N__law_led : List Str := ["_law_house_here", "_law_known", "_law_entry", "_law_order", "_law_words", "_law_word", "_law_thing", "_law_found", "_law_place", "_law_sizes_here", "_law_rows", "_law_floor", "_law_row_here", "_law_less", "_law_later", "_law_tight", "_law_rest", "_law_made", "_law_is_less", "_law_one_here"]
abbrev P__law_led : List Str := ["_law_house_here", "_law_known", "_law_entry"]
theorem sc__law_led : FnScope N__law_led P__law_led (defScope (Hd.top 67)) := ⟨rfl, rfl, rfl, by decide +kernel, rfl, by decide +kernel, by decide +kernel⟩
abbrev Ok__law_led (P : Program) (w : World) (K : PySem.W.Frag) (mg : Str → Option Value) (base : Heap) : Prop := Hd.OkF P w K mg base 2 "_law_led" P__law_led (Pr K (α := Nat × Nat × (Nat → Nat) × FK.Kn × Nat × Nat) (fun a => [dHouse (a.1 + 1) a.2.1 a.2.2.1, dKn (a.1 + 1) a.2.1 a.2.2.2.1, dAsk a.2.2.2.2.1 a.2.2.2.2.2]) (fun a => a.1 ≤ 100 ∧ a.2.1 ≤ 100 ∧ FK.KOk (a.1 + 1) a.2.1 a.2.2.1 a.2.2.2.1 ∧ a.2.2.2.2.1 < a.1 + 1 ∧ FK.Can (a.1 + 1) a.2.1 a.2.2.2.1 (FK.placeOf a.2.2.2.1 a.2.2.2.2.1) a.2.2.2.2.2) (fun a => dKn (a.1 + 1) a.2.1 (FK.ledK (a.1 + 1) a.2.2.1 a.2.2.2.1 a.2.2.2.2.1 a.2.2.2.2.2)))
theorem ok__law_led (Y : Hd.Ok K mg) (D__law_known_sizes : Ok__law_known_sizes P w K mg base) (D__law_tightened : Ok__law_tightened P w K mg base) : Ok__law_led P w K mg base := by
  refine mkPr (i := 53) (j := 67) (k := 1) Y rfl rfl sc__law_led (fun _ _ _ _ _ _ us hl => match us, hl with | [_, _, _], _ => rfl) 17 rfl (fun _ => rfl) fun cdv A' outer s H E hr => ⟨_, (pss_cons (ps_asg (pv 1) (kg_tup (K := K) (n := 2) rfl rfl (pgs_cons (pg_name (i := 3) sc__law_led.nd rfl (Or.inl rfl)) (pgs_cons (pg_name (i := 4) sc__law_led.nd rfl (Or.inl rfl)) pgs_nil)))) (pss_cons (ps_asg (pv 2) (kg_tup (K := K) (n := 3) rfl rfl (pgs_cons (pg_name (i := 5) sc__law_led.nd rfl (Or.inl rfl)) (pgs_cons (pg_name (i := 6) sc__law_led.nd rfl (Or.inl rfl)) (pgs_cons (pg_name (i := 7) sc__law_led.nd rfl (Or.inl rfl)) pgs_nil))))) (pss_cons (ps_par3 (i := 8) (j := 9) (l := 10) rfl sc__law_led.nd rfl rfl rfl (by decide) (by decide) (by decide) rfl rfl rfl (pa_cons (pe_tm PySem.F.slot_tuple_index PySem.F.type_tuple_index (km_tindex (K := K) rfl) (pv 3) (pa_cons (pv 6) pa_nil)) (pa_cons (pe_callTy (kc_list (K := K) rfl) (by rfl) (Y.free 72) bt_list (pa_cons (Hd.pe_f D__law_known_sizes (hr.mono (by decide)) (by rfl) (pa_cons (pv 1) pa_nil)) pa_nil)) (pa_cons (pe_lst pa_nil) pa_nil))) (by rfl)) (pss_cons (ps_for PassesOwn.never rfl (kp_enum (K := K) rfl (by rfl) (Y.free 68) (pa_cons (pv 4) pa_nil)) (kg_tup (K := K) (n := 2) rfl rfl (pgs_cons (pg_name (i := 11) sc__law_led.nd rfl (Or.inl rfl)) (pgs_cons (pg_name (i := 12) sc__law_led.nd rfl (Or.inl rfl)) pgs_nil))) (pss_cons (ps_set (i := 13) sc__law_led.nd rfl (Or.inr rfl) (pe_callTy call_int1 (by rfl) (Y.free 69) bt_int (pa_cons (pe_cmpR op_ge (pv 11) (pv 7) (nomark _)) pa_nil))) (pss_cons (ps_setLc (i := 14) (own := [("_law_one_here", 19)]) rfl sc__law_led.nd rfl rfl (sw_true rfl rfl rfl (by decide +kernel)) (kp_seq (K := K) rfl (pe_slice (ks_U (K := K) rfl) (pv 12) (po_some (pe_op (ko_add (K := K) rfl) (pv 8) pe_int)) po_none)) (blkOk_by (by first | (change blkC N__law_led (defScope (Hd.top 67)) _ _ = true; decide +kernel) | rfl)) (fun _ _ _ _ _ => (pg_name (i := 19) sc__law_led.nd rfl (Or.inl rfl))) (fun _ _ _ _ _ => pts_nil) (fun _ _ _ _ _ => (pe_op op_sub (pv 19) (pv 13)))) (pss_cons (ps_expr (ke_bm (K := K) rfl PySem.F.plainAttrs_list PySem.F.slot_list_append PySem.F.type_list_append mt_append (pv 10) (pa_cons (pe_callTy (kc_tup (K := K) rfl) (by rfl) (Y.free 80) bt_tuple (pa_cons (pe_op (ko_add (K := K) rfl) (pe_op (ko_add (K := K) rfl) (pe_callTy (kc_list (K := K) rfl) (by rfl) (Y.free 72) bt_list (pa_cons (pe_slice (ks_U (K := K) rfl) (pv 12) po_none (po_some (pv 8))) pa_nil)) (pe_lst (pa_cons (pe_callB (call_max2 rfl) (by rfl) (Y.free 73) bt_max (pa_cons (pe_ix (ki_seq (K := K) rfl) (pv 12) (pv 8) (fun _ _ => rfl)) (pa_cons (pe_ix (ki_seq (K := K) rfl) (pv 14) pe_int (fun _ _ => rfl)) pa_nil))) pa_nil))) (pe_slice (ks_U (K := K) rfl) (pv 14) (po_some pe_int) po_none)) pa_nil)) pa_nil))) (pss_one (ps_augS (pv 9) (pv 11) gt_list (pv 13) ip_sub set_list)))))) (pss_cons (ps_set (i := 15) sc__law_led.nd rfl (Or.inl rfl) (Hd.pe_f D__law_tightened (hr.mono (by decide)) (by rfl) (pa_cons (pe_callTy (kc_tup (K := K) rfl) (by rfl) (Y.free 80) bt_tuple (pa_cons (pv 10) pa_nil)) (pa_cons (pe_callTy (kc_tup (K := K) rfl) (by rfl) (Y.free 80) bt_tuple (pa_cons (pv 9) pa_nil)) pa_nil)))) (pss_cons (ps_if (pt_cmp (pc_isN (pv 15))) (pss_one (ps_ret pe_non)) pss_nil) (pss_cons (ps_set (i := 16) sc__law_led.nd rfl (Or.inl rfl) (pe_op (ko_add (K := K) rfl) (pe_slice (ks_U (K := K) rfl) (pv 3) po_none (po_some (pv 8))) (pe_slice (ks_U (K := K) rfl) (pv 3) (po_some (pe_op (ko_add (K := K) rfl) (pv 8) pe_int)) po_none))) (pss_cons (ps_if (pt_cmpR (ko_eq (K := K) rfl hr) (pv 5) pe_str (nomark _)) (pss_one (ps_ret (pe_tupN (pa_cons (pe_op (ko_add (K := K) rfl) (pv 16) (pe_tupN (pa_cons (pv 6) pa_nil))) (pa_cons (pe_callTy (kc_tup (K := K) rfl) (by rfl) (Y.free 80) bt_tuple (pa_cons (pe_lc (own := [("_law_row_here", 12)]) rfl sc__law_led.nd (kp_seq (K := K) rfl (pv 15)) (blkOk_by (by first | (change blkC N__law_led (defScope (Hd.top 67)) _ _ = true; decide +kernel) | rfl)) (fun _ _ _ _ _ => (pg_name (i := 12) sc__law_led.nd rfl (Or.inl rfl))) (fun _ _ _ _ _ => pts_nil) (fun _ _ _ _ _ => (pe_op (ko_add (K := K) rfl) (pv 12) (pe_slice (ks_U (K := K) rfl) (pv 12) (po_some (pe_un un_neg pe_int)) po_none)))) pa_nil)) pa_nil))))) pss_nil) (pss_cons (ps_set (i := 17) sc__law_led.nd rfl (Or.inl rfl) (pe_lst pa_nil)) (pss_cons (ps_for PassesOwn.never rfl (kp_enum (K := K) rfl (by rfl) (Y.free 68) (pa_cons (pv 15) pa_nil)) (kg_tup (K := K) (n := 2) rfl rfl (pgs_cons (pg_name (i := 11) sc__law_led.nd rfl (Or.inl rfl)) (pgs_cons (pg_name (i := 12) sc__law_led.nd rfl (Or.inl rfl)) pgs_nil))) (pss_cons (ps_set (i := 18) sc__law_led.nd rfl (Or.inr rfl) (pe_and (pe_cmpR op_lt (pv 11) (pv 7) (nomark _)) (pe_one (pe_cmpR (ko_eq (K := K) rfl hr) (pe_ix (ki_seq (K := K) rfl) (pv 9) (pv 11) (fun _ _ => rfl)) (pe_callB (kc_sum (K := K) rfl rfl) (by rfl) (Y.free 78) bt_sum (pa_cons (pe_slice (ks_U (K := K) rfl) (pe_ix (ki_seq (K := K) rfl) (pv 0) pe_int (fun _ _ => rfl)) po_none (po_some (pe_op (ko_add (K := K) rfl) (pv 11) pe_int))) pa_nil)) (nomark _))))) (pss_one (ps_expr (ke_bm (K := K) rfl PySem.F.plainAttrs_list PySem.F.slot_list_append PySem.F.type_list_append mt_append (pv 17) (pa_cons (pe_op (ko_add (K := K) rfl) (pe_tupN (pa_cons pe_int pa_nil)) (pe_callTy (kc_tup (K := K) rfl) (by rfl) (Y.free 80) bt_tuple (pa_cons (pe_lc (own := [("_law_one_here", 19)]) rfl sc__law_led.nd (kp_seq (K := K) rfl (pv 12)) (blkOk_by (by first | (change blkC N__law_led (defScope (Hd.top 67)) _ _ = true; decide +kernel) | rfl)) (fun _ _ _ _ _ => (pg_name (i := 19) sc__law_led.nd rfl (Or.inl rfl))) (fun _ _ _ _ _ => pts_nil) (fun _ _ _ _ _ => (pe_op (ko_add (K := K) rfl) (pe_callB (call_max2 rfl) (by rfl) (Y.free 73) bt_max (pa_cons pe_int (pa_cons (pe_op op_sub (pv 19) (pe_callTy call_int1 (by rfl) (Y.free 69) bt_int (pa_cons (pv 18) pa_nil))) pa_nil))) pe_int))) pa_nil))) pa_nil)))))) (pss_one (ps_ret (pe_tupN (pa_cons (pe_op (ko_add (K := K) rfl) (pe_tupN (pa_cons (pv 6) pa_nil)) (pv 16)) (pa_cons (pe_callTy (kc_tup (K := K) rfl) (by rfl) (Y.free 80) bt_tuple (pa_cons (pv 17) pa_nil)) pa_nil))))))))))))))), fun ⟨n, m, r, k, x, i⟩ F0 H0 Q hp hQ => ?_⟩
  change Tr ⟨K, none, F0, H0, F0⟩ [.dat (dHouse (n + 1) m r), .dat (dKn (n + 1) m k), .dat (dAsk x i), .un, .un, .un, .un, .un, .un, .un, .un, .un, .un, .un, .un, .un, .un, .un, .un, .un] [] _ _
  obtain ⟨hn, hm, ok, hx, can⟩ : n ≤ 100 ∧ m ≤ 100 ∧ FK.KOk (n + 1) m r k ∧ x < n + 1 ∧ FK.Can (n + 1) m k (FK.placeOf k x) i := hp
  have hxo : x ∈ k.order := ok.mem.mpr hx
  have he : FK.placeOf k x ≤ n := FK.place_lt ok hx
  have hQ : ∀ v F' H', Go ⟨K, none, F0, H0, F0⟩ F0 H0 F' H' → Dp K F' v (dKn (n + 1) m (FK.ledK (n + 1) r k x i)) → Q v H' := hQ
  have hdef : FK.placeOf k x = k.order.idxOf x := rfl
  have elen : (k.order.erase x).length ≤ 200 := by
    have := List.length_erase_le (a := x) (l := k.order)
    rw [ok.len] at this
    omega
  have rowEq : ∀ c, c < m → (tab (n + 1) fun d => if d < FK.placeOf k x then PyData.int (k.W c d) else if d = FK.placeOf k x then PyData.int (max (k.W c (FK.placeOf k x)) (k.W c (FK.placeOf k x + 1 + 0) - (if decide ((c : Int) ≥ (i : Int)) = true then 1 else 0))) else PyData.int (k.W c (FK.placeOf k x + 1 + (1 + (d - (FK.placeOf k x + 1)))) - (if decide ((c : Int) ≥ (i : Int)) = true then 1 else 0))) = tab (n + 1) fun d => PyData.int (FK.rowT k (FK.placeOf k x) i c d) := fun c hc => by
    refine tab_congr fun d hd => ?_
    have wd := (ok.word c hc).2 (FK.placeOf k x) (by omega)
    unfold FK.rowT
    by_cases hi : i ≤ c
    · rw [decide_eq_true (by omega), if_pos rfl, if_pos hi]
      unfold FK.rowHit
      by_cases h1 : d < FK.placeOf k x
      · rw [if_pos h1, if_pos (by omega)]
      · rw [if_neg h1]
        by_cases h2 : d = FK.placeOf k x
        · rw [if_pos h2, if_pos (by omega), h2]
          congr 1
          rw [Nat.add_zero]
          omega
        · rw [if_neg h2, if_neg (by omega), show FK.placeOf k x + 1 + (1 + (d - (FK.placeOf k x + 1))) = d + 1 by omega]
    · rw [decide_eq_false (by omega), if_neg Bool.false_ne_true, if_neg hi]
      unfold FK.rowMiss
      by_cases h1 : d < FK.placeOf k x
      · rw [if_pos h1, if_pos h1]
      · rw [if_neg h1, if_neg h1]
        by_cases h2 : d = FK.placeOf k x
        · rw [if_pos h2, h2]
          congr 1
          rw [Nat.add_zero]
          omega
        · rw [if_neg h2, show FK.placeOf k x + 1 + (1 + (d - (FK.placeOf k x + 1))) = d + 1 by omega]
          congr 1
          omega
  have erase_eq := erase_cut ok.nodup hxo
  rw [← hdef] at erase_eq
  have hplace := idx_at hxo
  have hplace2 : ∀ q, q < k.order.idxOf x → (k.order.map fun x : Nat => (x : Int))[q]? ≠ some (x : Int) := fun q hq => idx_no hq
  rw [← hdef] at hplace hplace2
  generalize hE : FK.placeOf k x = e at *
  refine t_seq (t_asgD (ev_d rfl) (tg_tup rfl (tgs_name (tgs_name (tgs_nil fun σ H h => h.go ?_)))))
  refine t_seq (t_asgD (ev_d rfl) (tg_tup rfl (tgs_name (tgs_name (tgs_name (tgs_nil fun σ H h => h.go ?_))))))
  refine t_seq (t_par3 (ees_cons (ee_d (ev_index (ns := _) (Ev.is (ev_d rfl) (by rw [dNs_ints])) (ev_d rfl) hplace hplace2)) (ees_cons (ee_l (el_cb (ea_cons (ev_call ((n + 1, m, k)) (EvA.is (ea_cons (ev_d rfl) ea_nil) rfl) hm) ea_nil) rc_lstT)) (ees_cons (ee_l el_nil) ees_nil))) fun p1 p2 => ⟨_, _, _, rfl, fun σ H h => h.go ?_⟩)
  refine t_seq (t_forT (src_enumT (ea_cons (ev_d rfl) ea_nil) (.t _)) (fun c G ms => (∃ b1 b2 b3 b4 : Sl, G = [.dat (dHouse (n + 1) m r), .dat (dKn (n + 1) m k), .dat (dAsk x i), .dat (.tuple (dNs k.order)), .dat (dWs (n + 1) m k.W), .dat (.str "ask"), .dat (dN x), .dat (dN i), .dat (dN e), .ml p1, .ml p2, b1, b2, b3, b4, .un, .un, .un, .un, .un]) ∧ ms = [(p1, tab m fun j => PyData.int (if j < c then FK.sz k (n + 1) i j else k.W j (n + 1))), (p2, tab c fun j => dRow (n + 1) (FK.rowT k e i j))]) ⟨⟨_, _, _, _, rfl⟩, rfl⟩ ?_ ?_)
  · rintro c hc Fl G ms ⟨⟨b1, b2, b3, b4, rfl⟩, rfl⟩
    have hc : c < m := hc
    refine tg_tup rfl (tgs_name (tgs_name (tgs_nil fun σ H h => h.go ?_)))
    refine t_seq (t_set (ee_d (ev_cb (ea_cons (ev_op (ev_d rfl) (ev_d rfl) rv_b) ea_nil) rc_intB)) fun σ H h => h.go ?_)
    refine t_seq (t_set (ee_d (EvL.data (el_map _ (src_t (ev_slFrom (k := (e + 1)) (ev_d rfl) (Ev.is (ev_op (ev_d rfl) ev_int rv_addI) ((by simp))))) hw0 (by first | omega | (simp; omega)) (fun a ha => tgc_name (by simp)) (fun a ha => (ev_op (ev_d rfl) (ev_d rfl) rv_i))))) fun σ H h => h.go ?_)
    refine t_seq (t_appD (ev_m rfl) (Ev.is (s' := .dat (dRow (n + 1) (FK.rowT k e i c))) (ev_cb (ea_cons (EvL.data (el_cat (em_l (el_cat (em_l (el_cb (ea_cons (ev_slTo (k := e) (ev_d rfl) (Ev.is (ev_d rfl) rfl) (by omega)) ea_nil) rc_lstT)) (em_l (el_one (ea_cons (ev_cb (ea_cons (ev_op (ev_d rfl) (ev_d rfl) (rv_ixT (at_tab e (by omega) rfl))) (ea_cons (ev_op (ev_d rfl) ev_int (rv_ixL (at_tab 0 (by omega) rfl))) ea_nil)) rc_max2) ea_nil))) ((by simp; omega)))) (em_l (el_slLFrom (k := 1) (ev_d rfl) (Ev.is ev_int rfl))) ((by simp; omega)))) ea_nil) rc_tupL) ?_) (k := 1) rfl (by simp; omega) fun σ H h => h.go ?_)
    · exact congrArg (fun z => Sl.dat (.tuple z)) ((row3 he).trans (rowEq c hc))
    refine t_augS (ev_m rfl) (ev_d rfl) (k := 0) rfl (ixN_nat (by simp; omega)) (tab_get hc) (ev_d rfl) fun σ H h => ?_
    refine h.inv ⟨⟨_, _, _, _, rfl⟩, ?_⟩
    rw [← tab_snoc (n := c)]
    refine cellEq (tab_set.trans (tab_congr fun j hj => ?_))
    by_cases e1 : j = c
    · subst e1
      rw [if_pos rfl, if_neg (Nat.lt_irrefl j), if_pos (Nat.lt_succ_self j)]
      unfold FK.sz
      by_cases hi : i ≤ j
      · rw [decide_eq_true (by omega), if_pos rfl, if_pos hi]
      · rw [decide_eq_false (by omega), if_neg Bool.false_ne_true, if_neg hi]
        congr 1
        omega
    · rw [if_neg e1]
      by_cases e2 : j < c
      · rw [if_pos e2, if_pos (by omega)]
      · rw [if_neg e2, if_neg (by omega)]
  · rintro G ms ⟨⟨b1, b2, b3, b4, rfl⟩, rfl⟩ σ H h
    have h := Pst.freeze (ms1 := []) (i := 9) h rfl
    have h := Pst.freeze (ms1 := []) (i := 10) h rfl
    refine Pst.go (u := tSeq _ _) (D := { nx := fun _ H' => Q .non H', rt := Q }) h ?_
    refine t_seq (t_set (ee_d (ev_call ((m, n, FK.rowT k e i, FK.sz k (n + 1) i, FK.fT k n e i, FK.Wt k e i)) (EvA.is (ea_cons (ev_cb (ea_cons (ev_d rfl) ea_nil) rc_tupL) (ea_cons (ev_cb (ea_cons (ev_d rfl) ea_nil) rc_tupL) ea_nil)) ?_) (by exact ⟨ok.mpos, hm, Nat.le_trans hn (by decide), fun j hj => FK.stp_T ok he can hj, FK.tight_T ok he can⟩))) fun σ H h => h.go ?_)
    · refine congrArg (fun z => [Sl.dat (dWs n m (FK.rowT k e i)), Sl.dat (.tuple z)]) (tab_congr fun j hj => ?_)
      rw [if_pos hj]
    refine t_seq (t_ifD (b := false) (EvT.is (et_B (ev_isN (ev_d rfl))) rfl) (fun e => nomatch e) fun _ => t_next fun σ H h => h.go ?_)
    refine t_seq (t_set (ee_d (Ev.is (s' := .dat (.tuple (dNs (k.order.erase x)))) (Ev.is (ev_op (ev_slToX (k := e) (ev_d rfl) (Ev.is (ev_d rfl) rfl) ) (ev_slFromX (k := (e + 1)) (ev_d rfl) (Ev.is (ev_op (ev_d rfl) ev_int rv_addI) ((by simp)))) (rv_addT ((by have := ok.len; simp; omega)))) rfl) ?_)) fun σ H h => h.go ?_)
    · rw [erase_eq]
    refine t_seq (t_ifD (b := false) (EvT.is (et_test (ev_op (ev_d rfl) ev_str rv_eqUS)) (by decide)) (fun e => nomatch e) fun _ => t_next fun σ H h => h.go ?_)
    refine t_seq (t_set (ee_l el_nil) fun p3 σ H h => h.go ?_)
    refine t_seq (t_forT (src_enumT (ea_cons (ev_d rfl) ea_nil) (.t _)) (fun c G ms => (∃ b1 b2 b3 b4 b5 : Sl, G = [.dat (dHouse (n + 1) m r), .dat (dKn (n + 1) m k), .dat (dAsk x i), .dat (.tuple (dNs k.order)), .dat (dWs (n + 1) m k.W), .dat (.str "ask"), .dat (dN x), .dat (dN i), .dat (dN e), .dat (.list (tab m fun j => PyData.int (if j < m then FK.sz k (n + 1) i j else k.W j (n + 1)))), .dat (.list (tab m fun j => dRow (n + 1) (FK.rowT k e i j))), b1, b2, b3, b4, .dat (dWs n m (FK.Wt k e i)), .dat (.tuple (dNs (k.order.erase x))), .ml p3, b5, .un]) ∧ ms = [(p3, tab c fun j => dRow (n + 1 + 1) (FK.Wn k (n + 1) r e i j))]) ⟨⟨_, _, _, _, _, rfl⟩, rfl⟩ ?_ ?_)
    · rintro j hj Fl G ms ⟨⟨b1, b2, b3, b4, b5, rfl⟩, rfl⟩
      have hj : j < m := hj
      have wt := (FK.wt_word ok he can hj).1
      refine tg_tup rfl (tgs_name (tgs_name (tgs_nil fun σ H h => h.go ?_)))
      refine t_seq (t_set (ee_d (Ev.is (s' := dB (decide (FK.full k (n + 1) r i j))) (ev_andV (ev_op (ev_d rfl) (ev_d rfl) rv_b) fun hb => (ev_op (ev_op (ev_d rfl) (ev_d rfl) (rv_ixL (at_tab j hj rfl))) (ev_cb (ea_cons (Ev.is (ev_slTo (k := (j + 1)) (ev_op (ev_d rfl) ev_int (rv_ixT (at_of (k := 1) rfl rfl))) (Ev.is (ev_op (ev_d rfl) ev_int rv_addI) ((by simp))) (by omega)) (by rw [tab_map])) ea_nil) (rc_sumT (ns := (tab (j + 1) fun i => (r i : Int))))) rv_eqUI)) ?_)) fun σ H h => h.go ?_)
      · rw [sum_rooms, if_pos hj]
        refine congrArg dB (Bool.eq_iff_iff.mpr ⟨fun q => ?_, fun q => ?_⟩)
        · rw [Bool.and_eq_true] at q
          have q1 := of_decide_eq_true q.1
          have q2 := of_decide_eq_true q.2
          unfold FK.sz at q2
          rw [if_neg (by omega)] at q2
          exact decide_eq_true ⟨by omega, q2⟩
        · have q : FK.full k (n + 1) r i j := of_decide_eq_true q
          have q1 := q.1
          rw [Bool.and_eq_true]
          refine ⟨decide_eq_true (by omega), decide_eq_true ?_⟩
          unfold FK.sz
          rw [if_neg (by omega)]
          exact q.2
      · refine t_appD (ev_m rfl) (Ev.is (s' := .dat (dRow (n + 1 + 1) (FK.Wn k (n + 1) r e i j))) (Ev.is (ev_op (ev_tup1 (ea_cons ev_int ea_nil)) (ev_cb (ea_cons (EvL.data (el_map _ (src_t (ev_d rfl)) hw0 (by first | omega | (simp; omega)) (fun a ha => tgc_name (by simp)) (fun a ha => (ev_op (ev_cb (ea_cons ev_int (ea_cons (ev_op (ev_d rfl) (ev_cb (ea_cons (ev_d rfl) ea_nil) rc_intB) rv_i) ea_nil)) rc_max2) ev_int rv_addI)))) ea_nil) rc_tupL) (rv_addT ((by simp; omega)))) rfl) ?_) (k := 0) rfl (by simp; omega) fun σ H h => ?_
        · refine congrArg (fun z => Sl.dat (.tuple z)) (tab_cons.trans (tab_congr fun d hd => ?_))
          cases d with
          | zero => rfl
          | succ d =>
            have hd : d + 1 < n + 1 + 1 := hd
            have w0 := wt.lo (d := d) (by omega)
            show PyData.int (max 0 (FK.Wt k e i j d - (if decide (FK.full k (n + 1) r i j) = true then 1 else 0)) + 1) = PyData.int ((if FK.full k (n + 1) r i j then FK.lost (FK.Wt k e i j) else FK.Wt k e i j) d + 1)
            by_cases q : FK.full k (n + 1) r i j
            · rw [decide_eq_true q, if_pos rfl, if_pos q]; rfl
            · rw [decide_eq_false q, if_neg Bool.false_ne_true, if_neg q]
              congr 2
              omega
        · exact h.inv ⟨⟨_, _, _, _, _, rfl⟩, by rw [← tab_snoc]; rfl⟩
    · rintro G ms ⟨⟨b1, b2, b3, b4, b5, rfl⟩, rfl⟩ σ H h
      refine Pst.go (u := tRet _) (D := { nx := fun _ H' => Q .non H', rt := Q }) h (t_retD (Ev.is (ev_tup2 (ea_cons (Ev.is (ev_op (ev_tup1 (ea_cons (ev_d rfl) ea_nil)) (ev_d rfl) (rv_addT ((by simp; omega)))) rfl) (ea_cons (ev_cb (ea_cons (ev_m rfl) ea_nil) (rc_tupM mem0)) ea_nil))) ?_) hQ)
      show Sl.dat (.tuple [.tuple ([dN x] ++ dNs (k.order.erase x)), _]) = Sl.dat (dKn (n + 1) m ⟨x :: k.order.erase x, FK.Wn k (n + 1) r (FK.placeOf k x) i⟩)
      rw [hE]; rfl
end
end FW
end
section
set_option linter.all false
set_option maxRecDepth 100000
set_option maxHeartbeats 4000000
namespace FW
open PySem PySem.Spec PyProof.Rows L2
section
variable {P : Program} {w : World} {K : PySem.W.Frag} {mg : Str → Option Value} {base : Heap}
theorem first_may {p : Nat → Bool} {m : Nat} : (dNs ((List.range m).filter p) ++ [dN m])[0]? = some (dN (FK.ff p m)) := by
  have := FK.head_ff (p := p) m 0
  rw [← List.range_eq_range', Nat.zero_add, Nat.zero_add] at this
  have e : (fun j => p (0 + j)) = p := by funext j; rw [Nat.zero_add]
  rw [e] at this
  rw [← this, ← dNs_snoc]
  generalize hl : (List.range m).filter p ++ [m] = l
  cases l with
  | nil => simp at hl
  | cons a l => rfl
abbrev N__law_floors_of : List Str := ["_law_known", "_law_thing", "_law_sizes_here", "_law_words", "_law_place", "_law_floor", "_law_may", "_law_found", "_law_is_sure", "_law_is_bare"]
abbrev P__law_floors_of : List Str := ["_law_known", "_law_thing"]
theorem sc__law_floors_of : FnScope N__law_floors_of P__law_floors_of (defScope (Hd.top 68)) := ⟨rfl, rfl, rfl, by decide +kernel, rfl, by decide +kernel, by decide +kernel⟩
abbrev Ok__law_floors_of (P : Program) (w : World) (K : PySem.W.Frag) (mg : Str → Option Value) (base : Heap) : Prop := Hd.OkF P w K mg base 2 "_law_floors_of" P__law_floors_of (PrL K (α := Nat × Nat × (Nat → Nat) × FK.Kn × Nat) (fun a => [dKn (a.1 + 1) a.2.1 a.2.2.2.1, dN a.2.2.2.2]) (fun a => a.1 ≤ 100 ∧ a.2.1 ≤ 100 ∧ FK.KOk (a.1 + 1) a.2.1 a.2.2.1 a.2.2.2.1 ∧ a.2.2.2.2 < a.1 + 1) (fun a => dNs (FK.floorsW a.2.1 (a.1 + 1) a.2.2.2.1 (FK.placeOf a.2.2.2.1 a.2.2.2.2))))
theorem ok__law_floors_of (Y : Hd.Ok K mg) (D__law_known_sizes : Ok__law_known_sizes P w K mg base) : Ok__law_floors_of P w K mg base := by
  refine mkPrL (i := 54) (j := 68) (k := 1) Y rfl rfl sc__law_floors_of (fun _ _ _ _ _ _ us hl => match us, hl with | [_, _], _ => rfl) 8 rfl (fun _ => rfl) fun cdv A' outer s H E hr => ⟨_, (pss_cons (ps_asg (pe_tupN (pa_cons (Hd.pe_f D__law_known_sizes (hr.mono (by decide)) (by rfl) (pa_cons (pv 0) pa_nil)) (pa_cons (pe_ix (ki_seq (K := K) rfl) (pv 0) pe_int (fun _ _ => rfl)) (pa_cons (pe_tm PySem.F.slot_tuple_index PySem.F.type_tuple_index (km_tindex (K := K) rfl) (pe_ix (ki_seq (K := K) rfl) (pv 0) pe_int (fun _ _ => rfl)) (pa_cons (pv 1) pa_nil)) pa_nil)))) (kg_tup (K := K) (n := 3) rfl rfl (pgs_cons (pg_name (i := 2) sc__law_floors_of.nd rfl (Or.inr rfl)) (pgs_cons (pg_name (i := 3) sc__law_floors_of.nd rfl (Or.inr rfl)) (pgs_cons (pg_name (i := 4) sc__law_floors_of.nd rfl (Or.inr rfl)) pgs_nil))))) (pss_cons (ps_set (i := 6) sc__law_floors_of.nd rfl (Or.inl rfl) (pe_op (ko_add (K := K) rfl) (pe_lc (own := [("_law_floor", 5)]) rfl sc__law_floors_of.nd (pi_range1 (by rfl) (Y.free 75) (pa_cons (pe_callB (kc_len (K := K) rfl) (by rfl) (Y.free 71) bt_len (pa_cons (pv 3) pa_nil)) pa_nil)) (blkOk_by (by first | (change blkC N__law_floors_of (defScope (Hd.top 68)) _ _ = true; decide +kernel) | rfl)) (fun _ _ _ _ _ => (pg_name (i := 5) sc__law_floors_of.nd rfl (Or.inl rfl))) (fun _ _ _ _ _ => (pts_one (pt_cmpR op_lt (pe_ix (ki_seq (K := K) rfl) (pe_ix (ki_seq (K := K) rfl) (pv 3) (pv 5) (fun _ _ => rfl)) (pv 4) (fun _ _ => rfl)) (pe_ix (ki_seq (K := K) rfl) (pv 2) (pv 5) (fun _ _ => rfl)) (nomark _)))) (fun _ _ _ _ _ => (pv 5))) (pe_lst (pa_cons (pe_callB (kc_len (K := K) rfl) (by rfl) (Y.free 71) bt_len (pa_cons (pv 3) pa_nil)) pa_nil)))) (pss_cons (ps_set (i := 7) sc__law_floors_of.nd rfl (Or.inl rfl) (pe_lst pa_nil)) (pss_cons (ps_for PassesOwn.never rfl (pi_range2 (by rfl) (Y.free 75) (pa_cons (pe_ix (ki_seq (K := K) rfl) (pv 6) pe_int (fun _ _ => rfl)) (pa_cons (pe_op (ko_add (K := K) rfl) (pe_callB (kc_len (K := K) rfl) (by rfl) (Y.free 71) bt_len (pa_cons (pv 3) pa_nil)) pe_int) pa_nil))) (pg_name (i := 5) sc__law_floors_of.nd rfl (Or.inl rfl)) (pss_cons (ps_set (i := 8) sc__law_floors_of.nd rfl (Or.inl rfl) (pe_and (pe_cmpR op_gt (pv 5) pe_int (nomark _)) (pe_one (pe_cmpR (ko_eq (K := K) rfl hr) (pe_ix (ki_seq (K := K) rfl) (pe_ix (ki_seq (K := K) rfl) (pv 3) (pe_op op_sub (pv 5) pe_int) (fun _ _ => rfl)) (pe_op (ko_add (K := K) rfl) (pv 4) pe_int) (fun _ _ => rfl)) (pe_op (ko_add (K := K) rfl) (pv 4) pe_int) (nomark _))))) (pss_cons (ps_set (i := 9) sc__law_floors_of.nd rfl (Or.inl rfl) (pe_and (pe_cmpR op_lt (pv 5) (pe_callB (kc_len (K := K) rfl) (by rfl) (Y.free 71) bt_len (pa_cons (pv 3) pa_nil)) (nomark _)) (pe_one (pe_cmpR (ko_eq (K := K) rfl hr) (pe_ix (ki_seq (K := K) rfl) (pv 2) (pv 5) (fun _ _ => rfl)) (pe_ix (ki_seq (K := K) rfl) (pe_op (ko_add (K := K) rfl) (pe_tupN (pa_cons pe_int pa_nil)) (pv 2)) (pv 5) (fun _ _ => rfl)) (nomark _))))) (pss_one (ps_if (PW.pt (pw_and (pt_not (pt_val (pv 8))) (pw_and1 (pt_not (pt_val (pv 9)))))) (pss_one (ps_expr (ke_bm (K := K) rfl PySem.F.plainAttrs_list PySem.F.slot_list_append PySem.F.type_list_append mt_append (pv 7) (pa_cons (pv 5) pa_nil)))) pss_nil))))) (pss_one (ps_ret (pv 7))))))), fun ⟨n, m, r, k, x⟩ F0 H0 Q hp hQ => ?_⟩
  change Tr ⟨K, none, F0, H0, F0⟩ [.dat (dKn (n + 1) m k), .dat (dN x), .un, .un, .un, .un, .un, .un, .un, .un] [] _ _
  obtain ⟨hn, hm, ok, hx⟩ : n ≤ 100 ∧ m ≤ 100 ∧ FK.KOk (n + 1) m r k ∧ x < n + 1 := hp
  have mpos := ok.mpos
  have he := FK.place_lt ok hx
  have hxo : x ∈ k.order := ok.mem.mpr hx
  have hle : FK.leastF m (n + 1) k (FK.placeOf k x) ≤ m := FK.ff_le _ _
  refine t_seq (t_tup (n := 3) (ees_cons (ee_d (ev_call ((n + 1, m, k)) (EvA.is (ea_cons (ev_d rfl) ea_nil) rfl) hm)) (ees_cons (ee_d (ev_op (ev_d rfl) ev_int (rv_ixT (at_of (k := 1) rfl rfl)))) (ees_cons (ee_d (ev_index (ns := _) (Ev.is (ev_op (ev_d rfl) ev_int (rv_ixT (at_of (k := 0) rfl rfl))) (by rw [dNs_ints])) (ev_d rfl) (idx_at hxo) (fun m hm => idx_no hm))) ees_nil))) rfl (by decide) ⟨rfl, tgs_name (tgs_name (tgs_name (tgs_nil fun σ H h => h.go ?_)))⟩)
  refine t_seq (t_set (ee_d (EvL.data (el_cat (em_l (el_lc (fun j : Nat => decide (k.W j (FK.placeOf k x) < k.W j (n + 1))) dN (src_range (ea_cons (ev_cb (ea_cons (ev_d rfl) ea_nil) (rc_lenTT (n := m))) ea_nil) (by omega)) hw0 (by first | omega | (simp; omega)) (fun a ha => tgc_name (by simp)) (fun a ha => (et_test (ev_op (ev_op (ev_op (ev_d rfl) (ev_d rfl) (rv_ixT (at_tab a (List.mem_range.mp ha) rfl))) (ev_d rfl) (rv_ixT (at_tab (FK.placeOf k x) (by omega) rfl))) (ev_op (ev_d rfl) (ev_d rfl) (rv_ixT (at_tab a (List.mem_range.mp ha) rfl))) rv_b))) (fun a ha hp => (ev_d rfl)))) (em_l (el_one (ea_cons (ev_cb (ea_cons (ev_d rfl) ea_nil) (rc_lenTT (n := m))) ea_nil))) ?_))) fun σ H h => h.go ?_)
  · have := List.length_filter_le (fun j : Nat => decide (k.W j (FK.placeOf k x) < k.W j (n + 1))) (List.range m)
    simp at this ⊢
    omega
  refine t_seq (t_set (ee_l el_nil) fun p σ H h => h.go ?_)
  refine t_seq (t_forT (src_r2 (a := (FK.leastF m (n + 1) k (FK.placeOf k x))) (b := (m + 1)) (EvA.is (ea_cons (ev_op (ev_d rfl) ev_int (rv_ixL (at_of (k := 0) rfl first_may))) (ea_cons (ev_op (ev_cb (ea_cons (ev_d rfl) ea_nil) rc_lenTT) ev_int rv_addI) ea_nil)) rfl) (by exact ⟨Nat.le_trans hle (by omega), by omega⟩)) (fun c G ms => (∃ b5 b8 b9 : Sl, G = [.dat (dKn (n + 1) m k), .dat (dN x), .dat (dRow m fun j => k.W j (n + 1)), .dat (dWs (n + 1) m k.W), .dat (dN (FK.placeOf k x)), b5, .dat (.list (dNs ((List.range m).filter fun j : Nat => decide (k.W j (FK.placeOf k x) < k.W j (n + 1))) ++ [dN m])), .ml p, b8, b9]) ∧ ms = [(p, dNs ((List.range' (FK.leastF m (n + 1) k (FK.placeOf k x)) c).filter (fun j => !FK.sureA k (FK.placeOf k x) j && !(decide (j < m) && decide (k.W j (n + 1) = FK.sizeA k (n + 1) j)))))]) ⟨⟨_, _, _, rfl⟩, rfl⟩ ?_ ?_)
  · rintro c hc Fl G ms ⟨⟨b5, b8, b9, rfl⟩, rfl⟩
    have hc : c < m + 1 - FK.leastF m (n + 1) k (FK.placeOf k x) := hc
    have few : ((List.range' (FK.leastF m (n + 1) k (FK.placeOf k x)) c).filter (fun j => !FK.sureA k (FK.placeOf k x) j && !(decide (j < m) && decide (k.W j (n + 1) = FK.sizeA k (n + 1) j)))).length ≤ c := Nat.le_trans (List.length_filter_le _ _) (by simp)
    have hr' : List.range' (FK.leastF m (n + 1) k (FK.placeOf k x)) (c + 1) = List.range' (FK.leastF m (n + 1) k (FK.placeOf k x)) c ++ [FK.leastF m (n + 1) k (FK.placeOf k x) + c] := List.range'_1_concat
    rw [hr']
    generalize hj : FK.leastF m (n + 1) k (FK.placeOf k x) + c = j
    refine tg_name fun σ H h => h.go ?_
    refine t_seq (t_set (ee_d (Ev.is (s' := dB (FK.sureA k (FK.placeOf k x) j)) (ev_andV (ev_op (ev_d rfl) ev_int rv_b) fun hb => (ev_op (ev_op (ev_op (ev_d rfl) (ev_op (ev_d rfl) ev_int rv_i) (rv_ixT (at_tab (j - 1) (by omega) (by have := of_decide_eq_true hb; omega)))) (ev_op (ev_d rfl) ev_int rv_addI) (rv_ixT (at_tab (FK.placeOf k x + 1) (by omega) rfl))) (ev_op (ev_d rfl) ev_int rv_addI) rv_eqUI)) ?_)) fun σ H h => h.go ?_)
    · refine congrArg dB ?_
      cases j with
      | zero => rfl
      | succ j =>
        rw [decide_eq_true (by omega)]; rfl
    refine t_seq (t_set (ee_d (Ev.is (s' := dB (decide (j < m) && decide (k.W j (n + 1) = FK.sizeA k (n + 1) j))) (ev_andV (ev_op (ev_d rfl) (ev_cb (ea_cons (ev_d rfl) ea_nil) (rc_lenTT (n := m))) rv_b) fun hb => (ev_op (ev_op (ev_d rfl) (ev_d rfl) (rv_ixT (at_tab j (by have := of_decide_eq_true hb; omega) rfl))) (ev_op (Ev.is (ev_op (ev_tup1 (ea_cons ev_int ea_nil)) (ev_d rfl) (rv_addT ((by simp; omega)))) rfl) (ev_d rfl) (rv_ixT (at_of (k := j) rfl (sizeA_get (by have := of_decide_eq_true hb; omega))))) rv_eqUI)) ?_)) fun σ H h => h.go ?_)
    · refine congrArg dB ?_
      rw [show decide ((j : Int) < (m : Int)) = decide (j < m) from decide_eq_decide.mpr (by omega)]
    refine t_ifD (et_and (et_not (et_B (ev_d rfl))) fun hb => (et_not (et_B (ev_d rfl)))) (fun hb => ?_) fun hb => ?_
    · refine t_appD (ev_m rfl) (ev_d rfl) (k := 0) rfl (by simp at few ⊢; omega) fun σ H h => ?_
      refine h.inv ⟨⟨_, _, _, rfl⟩, cellEq ?_⟩
      rw [List.filter_append, List.filter_cons_of_pos (by exact hb), dNs_app]; rfl
    · refine t_next fun σ H h => ?_
      refine h.inv ⟨⟨_, _, _, rfl⟩, cellEq ?_⟩
      rw [List.filter_append, List.filter_cons_of_neg (by rw [show _ = false from hb]; exact Bool.false_ne_true)]
      simp
  · rintro G ms ⟨⟨b5, b8, b9, rfl⟩, rfl⟩ σ H h
    exact Pst.go (u := tRet _) (D := { nx := fun _ H' => Q .non H', rt := Q }) h (t_retM (ev_m rfl) mem0 hQ)
abbrev N__law_pattern : List Str := ["_law_house_here", "_law_known", "_law_row_here", "_law_greatest", "_law_found", "_law_at", "_law_thing", "_law_floors"]
abbrev P__law_pattern : List Str := ["_law_house_here", "_law_known", "_law_row_here", "_law_greatest"]
theorem sc__law_pattern : FnScope N__law_pattern P__law_pattern (defScope (Hd.top 69)) := ⟨rfl, rfl, rfl, by decide +kernel, rfl, by decide +kernel, by decide +kernel⟩
abbrev Ok__law_pattern (P : Program) (w : World) (K : PySem.W.Frag) (mg : Str → Option Value) (base : Heap) : Prop := Hd.OkF P w K mg base 3 "_law_pattern" P__law_pattern (Pr K (α := Bool × Nat × Nat × (Nat → Nat) × FK.Kn × List Nat) (fun a => [dHouse a.2.1 a.2.2.1 a.2.2.2.1, dKn a.2.1 a.2.2.1 a.2.2.2.2.1, .tuple (dNs a.2.2.2.2.2), dN (if a.1 then a.2.2.2.2.2.length else 0)]) (fun a => a.2.1 ≤ 101 ∧ a.2.2.1 ≤ 100 ∧ a.2.2.2.2.2.length ≤ 1000 ∧ FK.KOk a.2.1 a.2.2.1 a.2.2.2.1 a.2.2.2.2.1 ∧ ∀ x ∈ a.2.2.2.2.2, x < a.2.1) (fun a => .tuple [.tuple (dNs (FK.follow a.1 a.2.1 a.2.2.1 a.2.2.2.1 a.2.2.2.2.1 a.2.2.2.2.2)), dKn a.2.1 a.2.2.1 (FK.ledAll a.1 a.2.1 a.2.2.1 a.2.2.2.1 a.2.2.2.2.1 a.2.2.2.2.2)]))
theorem ok__law_pattern (Y : Hd.Ok K mg) (D__law_floors_of : Ok__law_floors_of P w K mg base) (D__law_led : Ok__law_led P w K mg base) : Ok__law_pattern P w K mg base := by
  refine mkPr (i := 55) (j := 69) (k := 2) Y rfl rfl sc__law_pattern (fun _ _ _ _ _ _ us hl => match us, hl with | [_, _, _, _], _ => rfl) 4 rfl (fun _ => rfl) fun cdv A' outer s H E hr => ⟨_, (pss_cons (ps_set (i := 4) sc__law_pattern.nd rfl (Or.inl rfl) (pe_lst pa_nil)) (pss_cons (ps_for PassesOwn.never rfl (kp_enum (K := K) rfl (by rfl) (Y.free 68) (pa_cons (pv 2) pa_nil)) (kg_tup (K := K) (n := 2) rfl rfl (pgs_cons (pg_name (i := 5) sc__law_pattern.nd rfl (Or.inl rfl)) (pgs_cons (pg_name (i := 6) sc__law_pattern.nd rfl (Or.inl rfl)) pgs_nil))) (pss_cons (ps_set (i := 7) sc__law_pattern.nd rfl (Or.inl rfl) (Hd.pe_f D__law_floors_of (hr.mono (by decide)) (by rfl) (pa_cons (pv 1) (pa_cons (pv 6) pa_nil)))) (pss_cons (ps_expr (ke_bm (K := K) rfl PySem.F.plainAttrs_list PySem.F.slot_list_append PySem.F.type_list_append mt_append (pv 4) (pa_cons (pe_ifExp (pt_cmpR op_lt (pv 5) (pv 3) (nomark _)) (pe_ix (ki_seq (K := K) rfl) (pv 7) (pe_un un_neg pe_int) (fun _ _ => rfl)) (pe_ix (ki_seq (K := K) rfl) (pv 7) pe_int (fun _ _ => rfl))) pa_nil))) (pss_one (ps_set (i := 1) sc__law_pattern.nd rfl (Or.inl rfl) (Hd.pe_f D__law_led (hr.mono (by decide)) (by rfl) (pa_cons (pv 0) (pa_cons (pv 1) (pa_cons (pe_tupN (pa_cons pe_str (pa_cons (pv 6) (pa_cons (pe_ix (ki_seq (K := K) rfl) (pv 4) (pe_un un_neg pe_int) (fun _ _ => rfl)) pa_nil)))) pa_nil))))))))) (pss_one (ps_ret (pe_tupN (pa_cons (pe_callTy (kc_tup (K := K) rfl) (by rfl) (Y.free 80) bt_tuple (pa_cons (pv 4) pa_nil)) (pa_cons (pv 1) pa_nil))))))), fun ⟨g, n, m, r, k, row⟩ F0 H0 Q hp hQ => ?_⟩
  change Tr ⟨K, none, F0, H0, F0⟩ [.dat (dHouse n m r), .dat (dKn n m k), .dat (.tuple (dNs row)), .dat (dN (if g then row.length else 0)), .un, .un, .un, .un] [] _ _
  obtain ⟨hn, hm, hl, ok, hr⟩ : n ≤ 101 ∧ m ≤ 100 ∧ row.length ≤ 1000 ∧ FK.KOk n m r k ∧ ∀ x ∈ row, x < n := hp
  refine t_seq (t_set (ee_l el_nil) fun p σ H h => h.go ?_)
  refine t_seq (t_for (src_enumX (ea_cons (ev_d rfl) ea_nil) (.t _)) (fun c G ms => (∃ b5 b6 fl : Sl, G = [.dat (dHouse n m r), .dat (dKn n m (FK.ledAll g n m r k (row.take c))), .dat (.tuple (dNs row)), .dat (dN (if g then row.length else 0)), .ml p, b5, b6, fl]) ∧ ms = [(p, dNs ((FK.follow g n m r k row).take c))]) ⟨⟨_, _, _, rfl⟩, rfl⟩ ?_ ?_)
  · rintro c ⟨x, c'⟩ hi Fl G ms ⟨⟨b5, b6, fl, rfl⟩, rfl⟩
    obtain ⟨rfl, hx⟩ : c' = c ∧ row[c]? = some x := by
      rw [List.getElem?_zipIdx] at hi
      cases e : row[c]? with
      | none => rw [e] at hi; cases hi
      | some y => rw [e] at hi; cases hi; exact ⟨by simp, rfl⟩
    have hc : c' < row.length := (List.getElem?_eq_some_iff.mp hx).1
    obtain ⟨h1, h2, h3, h4⟩ := FK.follow_at g ok hr c' x hx
    have h5 : (FK.follow g n m r k row).take (c' + 1) = (FK.follow g n m r k row).take c' ++ [FK.pick g m n (FK.ledAll g n m r k (row.take c')) (FK.placeOf (FK.ledAll g n m r k (row.take c')) x)] := by
      rw [List.take_succ, h3]; rfl
    have h6 := FK.pick_canN g h2 h1
    have few : ((FK.follow g n m r k row).take c').length ≤ 1000 := by rw [List.length_take, FK.follow_len]; omega
    rw [h4, h5]
    generalize FK.ledAll g n m r k (row.take c') = k1 at h2 h3 h6 ⊢
    obtain ⟨n, rfl⟩ : ∃ z, n = z + 1 := ⟨n - 1, by omega⟩
    obtain ⟨q1, q2, q3⟩ := FK.floorsW_head h2 (FK.place_lt h2 h1)
    refine tg_tup rfl (tgs_name (tgs_name (tgs_nil fun σ H h => h.go ?_)))
    refine t_seq (t_set (ee_d (EvL.data (el_call ((n, m, r, k1, x)) (EvA.is (ea_cons (ev_d rfl) (ea_cons (ev_d rfl) ea_nil)) rfl) (by exact ⟨by omega, hm, h2, h1⟩)))) fun σ H h => h.go ?_)
    refine t_seq (t_appD (ev_m rfl) (Ev.is (s' := .dat (dN (FK.pick g m (n + 1) k1 (FK.placeOf k1 x)))) (ev_if (b := g) (EvT.is (et_test (ev_op (ev_d rfl) (ev_d rfl) rv_b)) ?_) (fun hb => (Ev.is (ev_op (ev_d rfl) (ev_neg ev_int) (rv_ixL (last_at q1))) ?_)) (fun hb => (Ev.is (ev_op (ev_d rfl) ev_int (rv_ixL (first_at q1))) ?_))) rfl) (k := 0) rfl (by simp; omega) fun σ H h => h.go ?_)
    · cases g with
      | true => exact decide_eq_true (by show (c' : Int) < ((row.length : Nat) : Int); omega)
      | false => exact decide_eq_false (by show ¬ (c' : Int) < ((0 : Nat) : Int); omega)
    · rw [hb]
      show Sl.dat (dN _) = Sl.dat (dN (FK.greatF m k1 (FK.placeOf k1 x)))
      rw [q3]
    · rw [hb]
      show Sl.dat (dN _) = Sl.dat (dN (FK.leastF m (n + 1) k1 (FK.placeOf k1 x)))
      rw [q2]
    refine t_set (ee_d (ev_call ((n, m, r, k1, x, FK.pick g m (n + 1) k1 (FK.placeOf k1 x))) (EvA.is (ea_cons (ev_d rfl) (ea_cons (ev_d rfl) (ea_cons (ev_tup3 (ea_cons ev_str (ea_cons (ev_d rfl) (ea_cons (ev_op (ev_m rfl) (ev_neg ev_int) (rv_ixM mem0 at_snoc)) ea_nil)))) ea_nil))) rfl) (by exact ⟨by omega, hm, h2, h1, h6⟩))) fun σ H h => ?_
    exact h.inv ⟨⟨_, _, _, rfl⟩, cellEq dNs_snoc.symm⟩
  · rintro G ms ⟨⟨b5, b6, fl, rfl⟩, rfl⟩ σ H h
    refine h.go (t_retD (Ev.is (ev_tup2 (ea_cons (ev_cb (ea_cons (ev_m rfl) ea_nil) (rc_tupM mem0)) (ea_cons (ev_d rfl) ea_nil))) ?_) hQ)
    rw [List.length_zipIdx, List.take_length]
    have e : (FK.follow g n m r k row).take row.length = FK.follow g n m r k row := by rw [← FK.follow_len g (n := n) (m := m) (r := r) (K := k), List.take_length]
    rw [e]
end
end FW
end
section
set_option linter.all false
set_option maxRecDepth 100000
set_option maxHeartbeats 4000000
namespace FW
open PySem PySem.Spec PyProof.Rows L2
section
variable {P : Program} {w : World} {K : PySem.W.Frag} {mg : Str → Option Value} {base : Heap}
theorem upd_tab {n x v : Nat} {st : Nat → Nat} : (tab n fun y => dN (st y)).set x (dN v) = tab n fun y => dN (FK.upd st x v y) := tab_set.trans (tab_congr fun y _ => by
  unfold FK.upd
  by_cases e : y = x
  · rw [if_pos e, if_pos e]
  · rw [if_neg e, if_neg e])
abbrev N__law_done : List Str := ["_law_house_here", "_law_state_here", "_law_move", "_law_word", "_law_thing", "_law_downs", "_law_floors", "_law_now", "_law_at", "_law_down", "_law_last"]
abbrev P__law_done : List Str := ["_law_house_here", "_law_state_here", "_law_move"]
theorem sc__law_done : FnScope N__law_done P__law_done (defScope (Hd.top 62)) := ⟨rfl, rfl, rfl, by decide +kernel, rfl, by decide +kernel, by decide +kernel⟩
abbrev Ok__law_done (P : Program) (w : World) (K : PySem.W.Frag) (mg : Str → Option Value) (base : Heap) : Prop := Hd.OkF P w K mg base 1 "_law_done" P__law_done (Pr K (α := Nat × Nat × (Nat → Nat) × (Nat → Nat) × Nat × List Nat × (Nat → Nat)) (fun a => [dHouse a.1 a.2.1 a.2.2.1, dSt a.1 a.2.2.2.1, dMove a.2.2.2.2.1 a.2.2.2.2.2.1]) (fun a => a.1 ≤ 101 ∧ a.2.1 ≤ 100 ∧ a.2.2.2.2.1 < a.1 ∧ FK.PD a.1 a.2.1 a.2.2.1 a.2.2.2.2.1 0 (FK.upd a.2.2.2.1 a.2.2.2.2.1 0) a.2.2.2.2.2.1 a.2.2.2.2.2.2) (fun a => dSt a.1 a.2.2.2.2.2.2))
theorem ok__law_done (Y : Hd.Ok K mg) : Ok__law_done P w K mg base := by
  refine mkPr (i := 48) (j := 62) (k := 0) Y rfl rfl sc__law_done (fun _ _ _ _ _ _ us hl => match us, hl with | [_, _, _], _ => rfl) 8 rfl (fun _ => rfl) fun cdv A' outer s H E hr => ⟨_, (pss_cons (ps_asg (pv 2) (kg_tup (K := K) (n := 3) rfl rfl (pgs_cons (pg_name (i := 3) sc__law_done.nd rfl (Or.inl rfl)) (pgs_cons (pg_name (i := 4) sc__law_done.nd rfl (Or.inl rfl)) (pgs_cons (pg_name (i := 5) sc__law_done.nd rfl (Or.inl rfl)) pgs_nil))))) (pss_cons (ps_par (i := 6) (j := 7) rfl sc__law_done.nd rfl rfl (by decide) rfl rfl (pa_cons (pe_callB (kc_len (K := K) rfl) (by rfl) (Y.free 71) bt_len (pa_cons (pe_ix (ki_seq (K := K) rfl) (pv 0) pe_int (fun _ _ => rfl)) pa_nil)) (pa_cons (pe_callTy (kc_list (K := K) rfl) (by rfl) (Y.free 72) bt_list (pa_cons (pv 1) pa_nil)) pa_nil)) (by rfl)) (pss_cons (ps_if (pt_cmpR (ko_eq (K := K) rfl hr) (pv 3) pe_str (nomark _)) (pss_cons (ps_asg (pv 6) (pg_sub (pv 7) (pv 4) set_list)) (pss_one (ps_ret (pe_ifExp (pt_cmpR (ko_eq (K := K) rfl hr) (pv 5) (pe_tupN pa_nil) (nomark _)) (pe_callTy (kc_tup (K := K) rfl) (by rfl) (Y.free 80) bt_tuple (pa_cons (pv 7) pa_nil)) pe_non)))) pss_nil) (pss_cons (ps_asg pe_int (pg_sub (pv 7) (pv 4) set_list)) (pss_cons (ps_for PassesOwn.never rfl (kp_enum (K := K) rfl (by rfl) (Y.free 68) (pa_cons (pv 5) pa_nil)) (kg_tup (K := K) (n := 2) rfl rfl (pgs_cons (pg_name (i := 8) sc__law_done.nd rfl (Or.inl rfl)) (pgs_cons (pg_name (i := 9) sc__law_done.nd rfl (Or.inl rfl)) pgs_nil))) (pss_cons (ps_if (PW.pt (pw_or (pt_cmpR op_ge (pv 8) (pv 6) (nomark _)) (pw_or (pt_cmpR op_le (ke_bm (K := K) rfl PySem.F.plainAttrs_list PySem.F.slot_list_count PySem.F.type_list_count (km_lcount (K := K) rfl) (pv 7) (pa_cons (pv 8) pa_nil)) (pe_ix (ki_seq (K := K) rfl) (pe_ix (ki_seq (K := K) rfl) (pv 0) pe_int (fun _ _ => rfl)) (pv 8) (fun _ _ => rfl)) (nomark _)) (pw_or (pt_cmpR (ko_ne (K := K) rfl hr) (pe_ix (ki_seq (K := K) rfl) (pv 7) (pv 9) (fun _ _ => rfl)) (pv 8) (nomark _)) (pw_or1 (PW.pt (pw_and (pt_cmpR (ko_eq (K := K) rfl hr) (pv 8) pe_int (nomark _)) (pw_and1 (pt_cmpR (ko_eq (K := K) rfl hr) (pv 9) (pv 4) (nomark _)))))))))) (pss_one (ps_ret pe_non)) pss_nil) (pss_one (ps_asg (pe_op (ko_add (K := K) rfl) (pv 8) pe_int) (pg_sub (pv 7) (pv 9) set_list))))) (pss_cons (ps_set (i := 10) sc__law_done.nd rfl (Or.inl rfl) (pe_callB (kc_len (K := K) rfl) (by rfl) (Y.free 71) bt_len (pa_cons (pv 5) pa_nil))) (pss_one (ps_ret (pe_ifExp (PW.pt (pw_or (pt_cmpR op_ge (pv 10) (pv 6) (nomark _)) (pw_or1 (pt_cmpR op_le (ke_bm (K := K) rfl PySem.F.plainAttrs_list PySem.F.slot_list_count PySem.F.type_list_count (km_lcount (K := K) rfl) (pv 7) (pa_cons (pv 10) pa_nil)) (pe_ix (ki_seq (K := K) rfl) (pe_ix (ki_seq (K := K) rfl) (pv 0) pe_int (fun _ _ => rfl)) (pv 10) (fun _ _ => rfl)) (nomark _))))) (pe_callTy (kc_tup (K := K) rfl) (by rfl) (Y.free 80) bt_tuple (pa_cons (pv 7) pa_nil)) pe_non))))))))), fun ⟨n, m, r, st, x, ds, fin⟩ F0 H0 Q hp hQ => ?_⟩
  change Tr ⟨K, none, F0, H0, F0⟩ [.dat (dHouse n m r), .dat (dSt n st), .dat (dMove x ds), .un, .un, .un, .un, .un, .un, .un, .un] [] _ _
  obtain ⟨hn, hm, hx, pd⟩ : n ≤ 101 ∧ m ≤ 100 ∧ x < n ∧ FK.PD n m r x 0 (FK.upd st x 0) ds fin := hp
  have hQ : ∀ v F' H', Go ⟨K, none, F0, H0, F0⟩ F0 H0 F' H' → Dp K F' v (dSt n fin) → Q v H' := hQ
  have dl := pd.len (Nat.zero_le m)
  refine t_seq (t_asgD (ev_d rfl) (tg_tup rfl (tgs_name (tgs_name (tgs_name (tgs_nil fun σ H h => h.go ?_))))))
  refine t_seq (t_par (ees_cons (ee_d (ev_cb (ea_cons (ev_op (ev_d rfl) ev_int (rv_ixT (at_of (k := 1) rfl rfl))) ea_nil) rc_lenTT)) (ees_cons (ee_l (el_cb (ea_cons (ev_d rfl) ea_nil) rc_lstT)) ees_nil)) fun p => ⟨_, _, rfl, fun σ H h => h.go ?_⟩)
  refine t_seq (t_ifD (b := false) (EvT.is (et_test (ev_op (ev_d rfl) ev_str rv_eqUS)) (by decide)) (fun e => nomatch e) fun _ => t_next fun σ H h => h.go ?_)
  refine t_seq (t_setitem (d := dN 0) ev_int (ev_m rfl) (ev_d rfl) (k := 0) rfl (ixN_nat (by simpa using hx)) fun σ H h => ?_)
  have h : Pst _ _ [(p, tab n fun y => dN (FK.upd st x 0 y))] σ H := h.mse (cellEq upd_tab)
  refine h.go (t_seq (t_for (src_enumX (ea_cons (ev_d rfl) ea_nil) (.t _)) (fun c G ms => (∃ b8 b9 : Sl, G = [.dat (dHouse n m r), .dat (dSt n st), .dat (dMove x ds), .dat (.str "ask"), .dat (dN x), .dat (.tuple (dNs ds)), .dat (dN m), .ml p, b8, b9, .un]) ∧ ∃ now, FK.PD n m r x c now (ds.drop c) fin ∧ ms = [(p, tab n fun y => dN (now y))]) ⟨⟨_, _, rfl⟩, _, pd, rfl⟩ ?_ ?_))
  · rintro c ⟨z, c'⟩ hi Fl G ms ⟨⟨b8, b9, rfl⟩, now, pc, rfl⟩
    obtain ⟨rfl, hz⟩ : c' = c ∧ ds[c]? = some z := by
      rw [List.getElem?_zipIdx] at hi
      cases e : ds[c]? with
      | none => rw [e] at hi; cases hi
      | some y => rw [e] at hi; cases hi; exact ⟨by simp, rfl⟩
    obtain ⟨q1, q2⟩ := List.getElem?_eq_some_iff.mp hz
    rw [List.drop_eq_getElem_cons q1, q2] at pc
    cases pc with
    | step _ _ _ _ _ k1 k2 k3 k4 k5 k6 =>
      refine tg_tup rfl (tgs_name (tgs_name (tgs_nil fun σ H h => h.go ?_)))
      refine t_seq (t_ifD (b := false) (EvT.is (et_or (et_test (ev_op (ev_d rfl) (ev_d rfl) rv_b)) fun hb => (et_or (et_test (ev_op (ev_lcount (ns := (tab n fun y => (now y : Int))) (ev_m rfl) (by rw [tab_map]; exact mem0) (ev_d rfl)) (ev_op (ev_op (ev_d rfl) ev_int (rv_ixT (at_of (k := 1) rfl rfl))) (ev_d rfl) (rv_ixT (at_tab c' k1 rfl))) rv_b)) fun hb => (et_or (et_test (ev_op (ev_op (ev_m rfl) (ev_d rfl) (rv_ixM mem0 (at_tab z k3 rfl))) (ev_d rfl) rv_neUI)) fun hb => (et_and (et_test (ev_op (ev_d rfl) ev_int rv_eqUI)) fun hb => (et_test (ev_op (ev_d rfl) (ev_d rfl) rv_eqUI)))))) ?_) (fun e => nomatch e) fun _ => t_next fun σ H h => h.go ?_)
      · rw [cnt_st, k4, decide_eq_false (by omega : ¬ (c' : Int) ≥ (m : Int)), decide_eq_false (by omega : ¬ ((FK.cOn n now c' : Nat) : Int) ≤ ((r c' : Nat) : Int)), decide_eq_true rfl]
        simp
        omega
      refine t_setitem (d := dN (c' + 1)) (ev_op (ev_d rfl) ev_int rv_addI) (ev_m rfl) (ev_d rfl) (k := 0) rfl (ixN_nat (by simpa using k3)) fun σ H h => ?_
      exact h.inv ⟨⟨_, _, rfl⟩, _, k6, cellEq upd_tab⟩
  · rintro G ms ⟨⟨b8, b9, rfl⟩, now, pc, rfl⟩ σ H h
    rw [List.length_zipIdx, List.drop_length] at pc
    cases pc with
    | stop _ _ k1 =>
      refine Pst.go (u := tSeq _ _) (D := { nx := fun _ H' => Q .non H', rt := Q }) h (t_seq (t_set (ee_d (ev_cb (ea_cons (ev_d rfl) ea_nil) (rc_lenN (n := ds.length) (by simp)))) fun σ H h => h.go ?_))
      refine t_retD (ev_if (b := true) (EvT.is (et_or (et_test (ev_op (ev_d rfl) (ev_d rfl) rv_b)) fun hb => (et_test (ev_op (ev_lcount (ns := tab n fun y => (fin y : Int)) (ev_m rfl) (by rw [tab_map]; exact mem0) (ev_d rfl)) (ev_op (ev_op (ev_d rfl) ev_int (rv_ixT (at_of (k := 1) rfl rfl))) (ev_d rfl) (rv_ixT (at_tab ds.length (by have := of_decide_eq_false hb; omega) rfl))) rv_b))) ?_) (fun hb => (ev_cb (ea_cons (ev_m rfl) ea_nil) (rc_tupM mem0))) (fun hb => nomatch hb)) hQ
      rw [cnt_st]
      by_cases e : ds.length < m
      · have := k1 e
        rw [decide_eq_true (by omega : ((FK.cOn n fin ds.length : Nat) : Int) ≤ ((r ds.length : Nat) : Int)), Bool.or_true]
      · rw [decide_eq_true (by omega : (ds.length : Int) ≥ (m : Int))]; rfl
theorem zip_fst : ∀ {mv : List (Nat × List Nat)}, ((mv.map encM).zip (dNs (mv.map (·.1)))).map (fun p => PyData.tuple [p.1, p.2]) = mv.map fun q => PyData.tuple [encM q, dN q.1]
  | [] => rfl
  | q :: l => by
    have ih := zip_fst (mv := l)
    simp only [List.map_cons, List.zip_cons_cons] at ih ⊢
    rw [ih]
theorem src_zipF {C : Cn} {G : List Sl} {ms : Ms} {tr : TA} {mv : List (Nat × List Nat)} (h : EvA C tr G ms [.dat (.tuple (mv.map encM)), .dat (.tuple (dNs (mv.map (·.1))))]) : Src C (iZipU C.K tr) G ms [] (mv.map fun q => PyData.tuple [encM q, dN q.1]) := by
  have := src_zip h (.t _) (.t _)
  rw [zip_fst] at this
  exact this
theorem pair_all {α : Type} {p : α → Prop} {a b : α} (h1 : p a) (h2 : p b) : ∀ d ∈ [a, b], p d := fun d hd => by
  rcases List.mem_cons.mp hd with e | hd
  · rw [e]; exact h1
  · rw [List.mem_singleton.mp hd]; exact h2
abbrev N__law_floors_by : List Str := ["_law_house_here", "_law_state_here", "_law_run", "_law_row_here", "_law_found", "_law_move", "_law_thing", "_law_down"]
abbrev P__law_floors_by : List Str := ["_law_house_here", "_law_state_here", "_law_run", "_law_row_here"]
theorem sc__law_floors_by : FnScope N__law_floors_by P__law_floors_by (defScope (Hd.top 73)) := ⟨rfl, rfl, rfl, by decide +kernel, rfl, by decide +kernel, by decide +kernel⟩
abbrev Ok__law_floors_by (P : Program) (w : World) (K : PySem.W.Frag) (mg : Str → Option Value) (base : Heap) : Prop := Hd.OkF P w K mg base 2 "_law_floors_by" P__law_floors_by (Pr K (α := Nat × Nat × (Nat → Nat) × (Nat → Nat) × List (Nat × List Nat) × List Nat) (fun a => [dHouse a.1 a.2.1 a.2.2.1, dSt a.1 a.2.2.2.1, .tuple (a.2.2.2.2.1.map encM), .tuple (dNs (a.2.2.2.2.1.map (·.1)))]) (fun a => a.1 ≤ 101 ∧ a.2.1 ≤ 100 ∧ a.2.2.2.2.1.length ≤ 1000 ∧ FK.Run a.1 a.2.1 a.2.2.1 a.2.2.2.1 a.2.2.2.2.1 a.2.2.2.2.2) (fun a => .tuple (dNs a.2.2.2.2.2)))
theorem ok__law_floors_by (Y : Hd.Ok K mg) (D__law_alike : Ok__law_alike P w K mg base) (D__law_done : Ok__law_done P w K mg base) (D__law_integer : Ok__law_integer P w K mg base) : Ok__law_floors_by P w K mg base := by
  refine mkPr (i := 59) (j := 73) (k := 1) Y rfl rfl sc__law_floors_by (fun _ _ _ _ _ _ us hl => match us, hl with | [_, _, _, _], _ => rfl) 4 rfl (fun _ => rfl) fun cdv A' outer s H E hr => ⟨_, (pss_cons (ps_if (PW.pt (pw_or (pt_not (pt_val (pe_callB (kc_isi (K := K) rfl) (by rfl) (Y.free 70) bt_isinstance (pa_cons (pv 2) (pa_cons (pe_bltn (v := .ty "tuple") (by rfl) (Y.free 80) bt_tuple rfl) pa_nil))))) (pw_or1 (pt_cmpR (ko_ne (K := K) rfl hr) (pe_callB (kc_len (K := K) rfl) (by rfl) (Y.free 71) bt_len (pa_cons (pv 2) pa_nil)) (pe_callB (kc_len (K := K) rfl) (by rfl) (Y.free 71) bt_len (pa_cons (pv 3) pa_nil)) (nomark _))))) (pss_one (ps_ret pe_non)) pss_nil) (pss_cons (ps_set (i := 4) sc__law_floors_by.nd rfl (Or.inl rfl) (pe_lst pa_nil)) (pss_cons (ps_for PassesOwn.never rfl (kp_zip (K := K) rfl (by rfl) (Y.free 81) (pa_cons (pv 2) (pa_cons (pv 3) pa_nil))) (kg_tup (K := K) (n := 2) rfl rfl (pgs_cons (pg_name (i := 5) sc__law_floors_by.nd rfl (Or.inl rfl)) (pgs_cons (pg_name (i := 6) sc__law_floors_by.nd rfl (Or.inl rfl)) pgs_nil))) (pss_cons (ps_if (PW.pt (pw_or (pt_not (pt_val (pe_callB (kc_isi (K := K) rfl) (by rfl) (Y.free 70) bt_isinstance (pa_cons (pv 5) (pa_cons (pe_bltn (v := .ty "tuple") (by rfl) (Y.free 80) bt_tuple rfl) pa_nil))))) (pw_or (pt_cmpR (ko_ne (K := K) rfl hr) (pe_callB (kc_len (K := K) rfl) (by rfl) (Y.free 71) bt_len (pa_cons (pv 5) pa_nil)) pe_int (nomark _)) (pw_or (pt_not (pt_val (Hd.pe_f D__law_alike (hr.mono (by decide)) (by rfl) (pa_cons (pe_slice (ks_U (K := K) rfl) (pv 5) po_none (po_some pe_int)) (pa_cons (pe_tupN (pa_cons pe_str (pa_cons (pv 6) pa_nil))) pa_nil))))) (pw_or1 (pt_not (pt_val (pe_callB (kc_isi (K := K) rfl) (by rfl) (Y.free 70) bt_isinstance (pa_cons (pe_ix (ki_seq (K := K) rfl) (pv 5) pe_int (fun _ _ => rfl)) (pa_cons (pe_bltn (v := .ty "tuple") (by rfl) (Y.free 80) bt_tuple rfl) pa_nil)))))))))) (pss_one (ps_ret pe_non)) pss_nil) (pss_cons (ps_if (pt_cmpR (ko_ne (K := K) rfl hr) (pe_lc (own := [("_law_down", 7)]) rfl sc__law_floors_by.nd (kp_seq (K := K) rfl (pe_ix (ki_seq (K := K) rfl) (pv 5) pe_int (fun _ _ => rfl))) (blkOk_by (by first | (change blkC N__law_floors_by (defScope (Hd.top 73)) _ _ = true; decide +kernel) | rfl)) (fun _ _ _ _ _ => (pg_name (i := 7) sc__law_floors_by.nd rfl (Or.inl rfl))) (fun _ _ _ _ _ => (pts_one (PW.pt (pw_or (pt_not (pt_val (Hd.pe_f D__law_integer (hr.mono (by decide)) (by rfl) (pa_cons (pv 7) pa_nil)))) (pw_or1 (pt_not (pt_chain op_le op_lt pe_int (pv 7) (pe_ix (ki_seq (K := K) rfl) (pv 0) pe_int (fun _ _ => rfl))))))))) (fun _ _ _ _ _ => (pv 7))) (pe_lst pa_nil) (nomark _)) (pss_one (ps_ret pe_non)) pss_nil) (pss_cons (ps_expr (ke_bm (K := K) rfl PySem.F.plainAttrs_list PySem.F.slot_list_append PySem.F.type_list_append mt_append (pv 4) (pa_cons (pe_ix (ki_seq (K := K) rfl) (pv 1) (pv 6) (fun _ _ => rfl)) pa_nil))) (pss_cons (ps_set (i := 1) sc__law_floors_by.nd rfl (Or.inl rfl) (Hd.pe_f D__law_done (hr.mono (by decide)) (by rfl) (pa_cons (pv 0) (pa_cons (pv 1) (pa_cons (pv 5) pa_nil))))) (pss_one (ps_if (pt_cmp (pc_isN (pv 1))) (pss_one (ps_ret pe_non)) pss_nil))))))) (pss_one (ps_ret (pe_callTy (kc_tup (K := K) rfl) (by rfl) (Y.free 80) bt_tuple (pa_cons (pv 4) pa_nil))))))), fun ⟨n, m, r, st, mv, fl⟩ F0 H0 Q hp hQ => ?_⟩
  change Tr ⟨K, none, F0, H0, F0⟩ [.dat (dHouse n m r), .dat (dSt n st), .dat (.tuple (mv.map encM)), .dat (.tuple (dNs (mv.map (·.1)))), .un, .un, .un, .un] [] _ _
  obtain ⟨hn, hm, hl, run⟩ : n ≤ 101 ∧ m ≤ 100 ∧ mv.length ≤ 1000 ∧ FK.Run n m r st mv fl := hp
  have hQ : ∀ v F' H', Go ⟨K, none, F0, H0, F0⟩ F0 H0 F' H' → Dp K F' v (.tuple (dNs fl)) → Q v H' := hQ
  have flen := FK.run_len run
  refine t_seq (t_ifD (b := false) (EvT.is (et_or (et_not (et_B (ev_cb (ea_cons (ev_d rfl) (ea_cons ev_val ea_nil)) rc_isT))) fun hb => (et_test (ev_op (ev_cb (ea_cons (ev_d rfl) ea_nil) rc_lenT) (ev_cb (ea_cons (ev_d rfl) ea_nil) rc_lenT) rv_neUI))) ?_) (fun e => nomatch e) fun _ => t_next fun σ H h => h.go ?_)
  · rw [List.length_map, List.length_map, List.length_map, decide_eq_true rfl]; rfl
  refine t_seq (t_set (ee_l el_nil) fun p σ H h => h.go ?_)
  refine t_seq (t_for (src_zipF (ea_cons (ev_d rfl) (ea_cons (ev_d rfl) ea_nil))) (fun c G ms => (∃ st' b5 b6 : _, FK.Run n m r st' (mv.drop c) (fl.drop c) ∧ G = [.dat (dHouse n m r), .dat (dSt n st'), .dat (.tuple (mv.map encM)), .dat (.tuple (dNs (mv.map (·.1)))), .ml p, b5, b6, .un]) ∧ ms = [(p, dNs (fl.take c))]) ⟨⟨st, _, _, run, rfl⟩, rfl⟩ ?_ ?_)
  · rintro c ⟨x, ds⟩ hx Fl G ms ⟨⟨st', b5, b6, rn, rfl⟩, rfl⟩
    obtain ⟨q1, q2⟩ := List.getElem?_eq_some_iff.mp hx
    rw [List.drop_eq_getElem_cons q1, q2] at rn
    generalize hfl : fl.drop c = f0 at rn
    cases rn with
    | cons _ fin st2 _ _ _ fl2 k1 k2 k3 k4 =>
      have e1 : fl.drop (c + 1) = fl2 := by
        have := congrArg (List.drop 1) hfl
        rw [List.drop_drop] at this
        simpa using this
      have e2 : fl.take (c + 1) = fl.take c ++ [st' x] := by
        have : fl[c]? = some (st' x) := by
          have := congrArg (fun l => l[0]?) hfl
          simpa using this
        rw [List.take_succ, this]; rfl
      have few : (fl.take c).length ≤ 1000 := by rw [List.length_take]; omega
      rw [e1, e2]
      refine tg_tup rfl (tgs_name (tgs_name (tgs_nil fun σ H h => h.go ?_)))
      refine t_seq (t_ifD (b := false) (EvT.is (et_or (et_not (et_B (ev_cb (ea_cons (ev_d rfl) (ea_cons ev_val ea_nil)) rc_isT))) fun hb => (et_or (et_test (ev_op (ev_cb (ea_cons (ev_d rfl) ea_nil) rc_lenT) ev_int rv_neUI)) fun hb => (et_or (et_not (et_B (Ev.is (s' := dB true) (ev_call ([.str "ask", dN x]) (EvA.is (ea_cons (ev_slG (ev_d rfl) eo_none (eo_some ev_int) (cutD_to _ 2)) (ea_cons (ev_tup2 (ea_cons ev_str (ea_cons (ev_d rfl) ea_nil))) ea_nil)) rfl) (by exact ⟨(sh_tup (k := 59) (pair_all sh_ask (sh_int _))), sm_tup (L := 20) (pair_all sm_ask (sm_nat (by omega))) (by simp)⟩)) rfl))) fun hb => (et_not (et_B (ev_cb (ea_cons (ev_op (ev_d rfl) ev_int (rv_ixT (at_of (k := 2) rfl rfl))) (ea_cons ev_val ea_nil)) rc_isT)))))) ?_) (fun e => nomatch e) fun _ => t_next fun σ H h => h.go ?_)
      · simp
      refine t_seq (t_ifD (b := false) (EvT.is (et_test (ev_op (EvL.data (el_lc (fun a : Nat => (!true || !(decide ((0 : Int) ≤ (a : Int)) && decide ((a : Int) < (n : Int))))) dN (src_t (ev_op (ev_d rfl) ev_int (rv_ixT (at_of (k := 2) rfl rfl)))) hw0 (show ds.length ≤ 100000 by have := k2.len (Nat.zero_le m); omega) (fun a ha => tgc_name (by simp)) (fun a ha => (et_or (et_not (et_B (Ev.is (s' := dB true) (ev_call ((a : Int)) (EvA.is (ea_cons (ev_d rfl) ea_nil) rfl) trivial) rfl))) fun hb => (et_not (et_test (ev_chain ev_int (ev_d rfl) rv_b (fun hb => (ev_op (ev_d rfl) ev_int (rv_ixT (at_of (k := 0) rfl rfl)))) (fun hb => rv_b)))))) (fun a ha hp => (ev_d rfl)))) (EvL.data el_nil) (rv_neUD ((sh_lst (k := 0) (sh_map fun a _ => sh_int _)).ok (by decide)) ((sh_nil (k := 0)).ok (by decide))))) ?_) (fun e => nomatch e) fun _ => t_next fun σ H h => h.go ?_)
      · rw [List.filter_eq_nil_iff.mpr fun y hy => ?_]
        · rfl
        · have := k2.all_lt y hy
          rw [decide_eq_true (by omega), decide_eq_true (by omega)]
          exact Bool.false_ne_true
      refine t_seq (t_appD (ev_m rfl) (ev_op (ev_d rfl) (ev_d rfl) (rv_ixT (at_tab x k1 rfl))) (k := 0) rfl (by simp; omega) fun σ H h => h.go ?_)
      refine t_seq (t_set (ee_d (Ev.is (s' := .dat (dSt n st2)) (ev_call ((n, m, r, st', x, ds, fin)) (EvA.is (ea_cons (ev_d rfl) (ea_cons (ev_d rfl) (ea_cons (ev_d rfl) ea_nil))) rfl) (by exact ⟨hn, hm, k1, k2⟩)) ?_)) fun σ H h => h.go ?_)
      · exact congrArg (fun z => Sl.dat (.tuple z)) (tab_congr fun y hy => by show dN (fin y) = _; rw [k3 y hy])
      refine t_ifD (b := false) (EvT.is (et_B (ev_isN (ev_d rfl))) rfl) (fun e => nomatch e) fun _ => t_next fun σ H h => ?_
      exact h.inv ⟨⟨st2, _, _, k4, rfl⟩, cellEq dNs_snoc.symm⟩
  · rintro G ms ⟨⟨st', b5, b6, rn, rfl⟩, rfl⟩ σ H h
    refine Pst.go (u := tRet _) (D := { nx := fun _ H' => Q .non H', rt := Q }) h (t_retD (Ev.is (ev_cb (ea_cons (ev_m rfl) ea_nil) (rc_tupM mem0)) ?_) hQ)
    rw [flen, List.take_length]
abbrev N__law_is_begin : List Str := ["_law_house_here", "_law_start_here", "_law_state_here"]
abbrev P__law_is_begin : List Str := ["_law_house_here", "_law_start_here", "_law_state_here"]
theorem sc__law_is_begin : FnScope N__law_is_begin P__law_is_begin (defScope (Hd.top 74)) := ⟨rfl, rfl, rfl, by decide +kernel, rfl, by decide +kernel, by decide +kernel⟩
abbrev Ok__law_is_begin (P : Program) (w : World) (K : PySem.W.Frag) (mg : Str → Option Value) (base : Heap) : Prop := Hd.OkF P w K mg base 3 "_law_is_begin" P__law_is_begin (Pr K (α := Nat × Nat × (Nat → Nat) × Option (Nat → Nat) × (Nat → Nat)) (fun a => [dHouse a.1 a.2.1 a.2.2.1, dStart a.1 a.2.2.2.1, dSt a.1 a.2.2.2.2]) (fun a => a.1 ≤ 101 ∧ a.2.1 ≤ 100 ∧ FK.StOk a.1 a.2.1 a.2.2.1 a.2.2.2.2 ∧ (a.2.2.2.1 = none → ∀ j, j < a.2.1 → FK.cw a.1 a.2.2.2.2 j = FK.RW a.2.2.1 j) ∧ ∀ st, a.2.2.2.1 = some st → ∀ y, y < a.1 → a.2.2.2.2 y = st y) (fun _ => .bool true))
theorem ok__law_is_begin (Y : Hd.Ok K mg) (D__law_alike : Ok__law_alike P w K mg base) (D__law_is_state : Ok__law_is_state P w K mg base) (D__law_rooms_within : Ok__law_rooms_within P w K mg base) (D__law_sizes : Ok__law_sizes P w K mg base) : Ok__law_is_begin P w K mg base := by
  refine mkPr (i := 60) (j := 74) (k := 2) Y rfl rfl sc__law_is_begin (fun _ _ _ _ _ _ us hl => match us, hl with | [_, _, _], _ => rfl) 0 rfl (fun _ => rfl) fun cdv A' outer s H E hr => ⟨_, (pss_cons (ps_if (pt_not (pt_val (Hd.pe_f D__law_is_state (hr.mono (by decide)) (by rfl) (pa_cons (pv 0) (pa_cons (pv 2) pa_nil))))) (pss_one (ps_ret pe_bl)) pss_nil) (pss_one (ps_ret (pe_ifExp (pt_cmp (pc_isN (pv 1))) (pe_cmpR (ko_eq (K := K) rfl hr) (Hd.pe_f D__law_sizes (hr.mono (by decide)) (by rfl) (pa_cons (pv 0) (pa_cons (pv 2) pa_nil))) (pe_callTy (kc_tup (K := K) rfl) (by rfl) (Y.free 80) bt_tuple (pa_cons (Hd.pe_f D__law_rooms_within (hr.mono (by decide)) (by rfl) (pa_cons (pv 0) pa_nil)) pa_nil)) (nomark _)) (Hd.pe_f D__law_alike (hr.mono (by decide)) (by rfl) (pa_cons (pv 2) (pa_cons (pv 1) pa_nil))))))), fun ⟨n, m, r, s, st⟩ F0 H0 Q hp hQ => ?_⟩
  change Tr ⟨K, none, F0, H0, F0⟩ [.dat (dHouse n m r), .dat (dStart n s), .dat (dSt n st)] [] _ _
  obtain ⟨hn, hm, ok, b1, b2⟩ : n ≤ 101 ∧ m ≤ 100 ∧ FK.StOk n m r st ∧ (s = none → ∀ j, j < m → FK.cw n st j = FK.RW r j) ∧ ∀ st', s = some st' → ∀ y, y < n → st y = st' y := hp
  refine t_seq (t_ifD (b := false) (EvT.is (et_not (et_B (Ev.is (s' := dB true) (ev_call ((n, m, r, st)) (EvA.is (ea_cons (ev_d rfl) (ea_cons (ev_d rfl) ea_nil)) rfl) (by exact ⟨hn, hm, ok⟩)) rfl))) rfl) (fun e => nomatch e) fun _ => t_next fun σ H h => h.go ?_)
  cases s with
  | none =>
    refine t_retD (ev_if (b := true) (EvT.is (et_B (ev_isN (ev_d rfl))) rfl) (fun hb => Ev.is (ev_op (ev_call (n, m, r, st) (EvA.is (ea_cons (ev_d rfl) (ea_cons (ev_d rfl) ea_nil)) rfl) (by exact ⟨by omega, hm⟩)) (ev_cb (ea_cons (EvL.data (el_call (n, m, r) (EvA.is (ea_cons (ev_d rfl) ea_nil) rfl) hm)) ea_nil) rc_tupL) (rv_eqUD (sh_row.ok (by decide)) (sh_row.ok (by decide)))) ?_) (fun hb => nomatch hb)) hQ
    have e : dRow m (FK.cw n st) = dRow m (FK.RW r) := congrArg PyData.tuple (tab_congr fun j hj => by rw [b1 rfl j hj])
    show Sl.dat (.bool (PyData.eqv (dRow m (FK.cw n st)) (dRow m (FK.RW r)))) = _
    rw [e, sh_row.refl]
  | some st0 =>
    have e : dSt n st = dSt n st0 := congrArg PyData.tuple (tab_congr fun y hy => by rw [b2 st0 rfl y hy])
    have sm : Sm 1000000 (dSt n st) := sm_tup (L := 20) (fun d hd => by
      obtain ⟨y, hy, rfl⟩ := tab_mem.mp hd
      exact sm_nat (by have := ok.le y hy; omega)) (by rw [tab_len]; omega)
    refine t_retD (ev_if (b := false) (EvT.is (et_B (ev_isN (ev_d rfl))) rfl) (fun hb => nomatch hb) (fun hb => Ev.is (s' := dB true) (ev_call (tab n fun y => dN (st y)) (EvA.is (ea_cons (ev_d rfl) (ea_cons (ev_d rfl) ea_nil)) ?_) (by exact ⟨sh_tup (k := 59) (sh_tab fun i _ => sh_int _), sm⟩)) rfl)) hQ
    show [Sl.dat (dSt n st), Sl.dat (dSt n st0)] = [Sl.dat (dSt n st), Sl.dat (dSt n st)]
    rw [e]
end
end FW
end
section
set_option linter.all false
set_option maxRecDepth 100000
set_option maxHeartbeats 4000000
/-! The bag as a list that changes; draws. -/
namespace FW
open PySem PySem.Spec PyProof.Rows L2
def without (H : Hp) (b : Addr) : Hp := fun a => if a = b then none else H a
theorem without_ne {H : Hp} {a b : Addr} (h : a ≠ b) : without H b a = H a := if_neg h
theorem without_self {H : Hp} {b : Addr} : without H b b = none := if_pos rfl
/-- the bag's content -/
def bagD (a s i : Int) (cs : List Int) : List PD := [.int a, .int s, .int i, .list (cs.map PyData.int)]
structure BagN (a s i : Int) (cs : List Int) : Prop where
  a0 : 0 ≤ a
  s0 : 0 ≤ s
  s1 : s < 2147483647
  i0 : 0 ≤ i
  c0 : ∀ z ∈ cs, 0 ≤ z
  cl : cs.length ≤ 63
section
variable {K : PySem.W.Frag} {b : Addr} {F0 H0 Fl : Hp} {G : List Sl} {t : TS} {D : Ends}
theorem without_tab {F : Hp} (t : TabK K F (without H0 b)) : TabK K F H0 := t.keep (fun a o q _ => by
  by_cases z : a = b
  · subst z; rw [without_self] at q; cases q
  · rw [without_ne z] at q; exact q) fun _ _ _ f => f
theorem tab_without {F : Hp} (hb : BagOk K F H0 b) (t : TabK K F H0) : TabK K F (without H0 b) := t.keep (fun a o q n => by
  obtain ⟨_, _, _, _, _, _, w, _⟩ := hb
  rw [without_ne fun z => ?_]
  · exact q
  · subst z; rw [w] at q; cases q; exact n _ rfl) fun _ _ _ f => f
theorem enter_bag (hK : BagOk K F0 H0 b → ∀ a s i cs, BagN a s i cs → Tr ⟨K, none, F0, without H0 b, Fl⟩ G [(b, bagD a s i cs)] t D) : Tr ⟨K, some b, F0, H0, Fl⟩ G [] t D := fun σ H ⟨F, S, g, hf, fl, e0, hb⟩ => by
  obtain ⟨f0, a, s, i, c, cs, e, h1, h2, h3, h4, h5, h6, h7⟩ := S.bag b rfl
  obtain ⟨z0, _⟩ := hb b rfl
  refine hK (hb b rfl) a s i cs ⟨h1, h2, h3, h4, h6, h7⟩ σ H ⟨F, ⟨S.fh, S.len, S.env, fun p hp => ?_, by simp, fun x hx => (by cases hx), S.tab⟩, ⟨g.fx, g.ex, fun x o q f _ nt => ?_, fun x ps q => ?_, fun t => g.tb (without_tab t), fun x hx => by cases hx⟩, fun p hp => ?_, fl, fun x o q => ?_, fun x hx => by cases hx⟩
  · rw [List.mem_singleton.mp hp]
    exact ⟨f0, (fun q => by cases q), _, e, .cons (.int _) (.cons (.int _) (.cons (.int _) (.cons h5 .nil)))⟩
  · have hx : x ≠ b := fun z => by
      subst z
      have q2 : without H0 x x = some o := q
      rw [without_self] at q2
      cases q2
    exact g.kp x o ((without_ne hx).symm.trans q) f (fun z => hx (Option.some.inj z).symm) nt
  · have hx : x ≠ b := fun z => by
      subst z
      have q2 : without H0 x x = some (.tbl ps) := q
      rw [without_self] at q2
      cases q2
    exact g.tk x ps ((without_ne hx).symm.trans q)
  · rw [List.mem_singleton.mp hp]; exact without_self
  · have hx : x ≠ b := fun z => by rw [z, z0] at q; cases q
    show without H0 b x = some o
    rw [without_ne hx]; exact e0 x o q
/-- the end of a def over the bag -/
theorem ret_bag {te : TE} {P : Sl → Prop} {a s i : Int} {cs : List Int} (n : BagN a s i cs) (hb : BagOk K F0 H0 b) (h : EvP ⟨K, none, F0, without H0 b, Fl⟩ te G [(b, bagD a s i cs)] P) (k : ∀ s v F' H', P s → Go ⟨K, some b, F0, H0, F0⟩ F0 H0 F' H' → SlOk K F' v s → D.rt v H') :
    Tr ⟨K, none, F0, without H0 b, Fl⟩ G [(b, bagD a s i cs)] (tRet te) D := fun σ H ⟨F, S, gg, hf, fl, e0, hb0⟩ =>
  h F H σ S _ fun s' v F' H' q g o => by
    have g' := gg.trans g
    obtain ⟨f0, _, vs, c1, c2⟩ := (S.go g).cells _ (List.mem_singleton.mpr rfl)
    refine k s' v F' H' q ⟨g'.fx, g'.ex, fun x u q1 f nb nt => ?_, fun x ps q1 => ?_, fun t => g'.tb (tab_without hb t), fun x hx _ => ?_⟩ o
    · have hx : x ≠ b := fun z => nb (by rw [z])
      exact g'.kp x u (by show without H0 b x = _; rw [without_ne hx]; exact q1) f (fun z => by cases z) nt
    · have hx : x ≠ b := fun z => by
        obtain ⟨_, _, _, _, _, _, w, _⟩ := hb
        subst z
        rw [w] at q1
        cases q1
      exact g'.tk x ps (by show without H0 b x = _; rw [without_ne hx]; exact q1)
    · cases hx
      cases c2 with
      | cons d1 c2 =>
        cases c2 with
        | cons d2 c2 =>
          cases c2 with
          | cons d3 c2 =>
            cases c2 with
            | cons d4 c2 =>
              cases c2
              obtain rfl := dp_int d1
              obtain rfl := dp_int d2
              obtain rfl := dp_int d3
              obtain ⟨c, xs, rfl, _, _⟩ := dp_listN d4
              exact ⟨f0, a, s, i, c, cs, c1, n.a0, n.s0, n.s1, n.i0, d4, n.c0, n.cl⟩
end
section
variable {C : Cn} {G : List Sl} {ms : Ms} {te to ti : TE} {tt : TT} {D : Ends}
theorem t_ifsetI {k n : Nat} {l : Addr} {ds : List PD} {d1 d2 d3 : PD} {j : Int} {b : Bool} (h : EvT C tt G ms b) (h1 : b = true → Ev C te G ms (.dat d1)) (ho : Ev C to G ms (.ml l)) (hi : Ev C ti G ms (dI j)) (hm : ms[k]? = some (l, ds)) (hj : ixN ds.length j = some n) (h2 : ds[n]? = some d2) (e : (if b = true then d1 else d2) = d3)
    (kk : ∀ σ H, Pst C G (ms.set k (l, ds.set n d3)) σ H → D.nx σ H) : Tr C G ms (tIfS tt (tAsg te (gSub to ti rSetL)) tNext) D := by
  refine t_ifD h (fun hb => ?_) fun hb => ?_
  · rw [if_pos hb] at e
    subst e
    exact t_setitem (h1 hb) ho hi hm hj kk
  · rw [if_neg (by rw [hb]; exact Bool.false_ne_true)] at e
    subst e
    refine t_next fun σ H h => kk σ H ?_
    have e1 : ds.set n d2 = ds := by
      refine List.ext_getElem? fun i => ?_
      by_cases hn : n = i
      · subst hn; rw [List.getElem?_set_self (List.getElem?_eq_some_iff.mp h2).1, h2]
      · rw [List.getElem?_set_ne hn]
    have e2 : ms.set k (l, ds) = ms := by
      refine List.ext_getElem? fun i => ?_
      by_cases hn : k = i
      · subst hn; rw [List.getElem?_set_self (List.getElem?_eq_some_iff.mp hm).1, hm]
      · rw [List.getElem?_set_ne hn]
    rw [e1, e2]
    exact h
theorem fmod_pos {a c : Int} (hc : 0 < c) : 0 ≤ a.fmod c ∧ a.fmod c < c := by
  rw [Int.fmod_eq_emod_of_nonneg a (Int.le_of_lt hc)]
  exact ⟨Int.emod_nonneg a (by omega), Int.emod_lt_of_pos a hc⟩
theorem fdiv_pos {a c : Int} (ha : 0 ≤ a) (hc : 0 < c) : 0 ≤ a.fdiv c := by
  rw [Int.fdiv_eq_ediv_of_nonneg a (Int.le_of_lt hc)]
  exact Int.ediv_nonneg ha (Int.le_of_lt hc)
end
end FW
end
section
set_option linter.all false
set_option maxRecDepth 100000
set_option maxHeartbeats 4000000
namespace FW
open PySem PySem.Spec PyProof.Rows L2
section
variable {P : Program} {w : World} {K : PySem.W.Frag} {mg : Str → Option Value} {base : Heap}
theorem cell_at {cs : List Int} {k : Nat} (h : ∀ z ∈ cs, 0 ≤ z) : ∃ z : Int, 0 ≤ z ∧ ((cs.drop k).map PyData.int ++ [PyData.int 0])[0]? = some (.int z) := by
  cases e : cs.drop k with
  | nil => exact ⟨0, Int.le_refl 0, rfl⟩
  | cons a l => exact ⟨a, h a (List.mem_of_mem_drop (by rw [e]; exact List.mem_cons_self)), rfl⟩
abbrev N__law_take : List Str := ["_law_bag_here", "_law_many", "_law_cell", "_law_stirred", "_law_value", "_law_begin", "_law_second"]
abbrev P__law_take : List Str := ["_law_bag_here", "_law_many"]
theorem sc__law_take : FnScope N__law_take P__law_take (defScope (Hd.top 48)) := ⟨rfl, rfl, rfl, by decide +kernel, rfl, by decide +kernel, by decide +kernel⟩
abbrev Ok__law_take (P : Program) (w : World) (K : PySem.W.Frag) (mg : Str → Option Value) (base : Heap) : Prop := Hd.OkF P w K mg base 1 "_law_take" P__law_take (PrB K (α := Nat) (fun a => [dN a]) (fun a => 1 ≤ a ∧ a ≤ 100000) (fun a d => ∃ v : Nat, v < a ∧ d = dN v))
theorem ok__law_take (Y : Hd.Ok K mg) : Ok__law_take P w K mg base := by
  refine mkPrB (i := 34) (j := 48) (k := 0) Y rfl rfl sc__law_take (fun _ _ _ _ _ _ us hl => match us, hl with | [_, _], _ => rfl) 5 rfl (fun _ => rfl) fun cdv A' outer s H E hr => ⟨_, (pss_cons (ps_if (pt_cmpR (ko_eq (K := K) rfl hr) (pe_ix (ki_seq (K := K) rfl) (pv 0) pe_int (fun _ _ => rfl)) pe_int (nomark _)) (pss_cons (ps_set (i := 2) sc__law_take.nd rfl (Or.inl rfl) (pe_ix (ki_seq (K := K) rfl) (pe_op (ko_add (K := K) rfl) (pe_slice (ks_U (K := K) rfl) (pe_ix (ki_seq (K := K) rfl) (pv 0) pe_int (fun _ _ => rfl)) (po_some (pe_ix (ki_seq (K := K) rfl) (pv 0) pe_int (fun _ _ => rfl))) po_none) (pe_lst (pa_cons pe_int pa_nil))) pe_int (fun _ _ => rfl))) (pss_cons (ps_augS (pv 0) pe_int gt_list pe_int ip_add set_list) (pss_cons (ps_if (pt_cmpR op_ge (pv 2) (pe_op op_pow pe_int pe_int) (nomark _)) (pss_one (ps_asg (pv 2) (pg_sub (pv 0) pe_int set_list))) pss_nil) (pss_cons (ps_set (i := 3) sc__law_take.nd rfl (Or.inl rfl) (pe_op (ko_add (K := K) rfl) (pe_op (ko_add (K := K) rfl) (pe_op (ko_mul (K := K) rfl) (pe_ix (ki_seq (K := K) rfl) (pv 0) pe_int (fun _ _ => rfl)) pe_int) (pe_op op_modN (pe_callTy call_int1 (by rfl) (Y.free 69) bt_int (pa_cons (pv 2) pa_nil)) pe_int)) (pe_op (ko_mul (K := K) rfl) pe_int (pe_ix (ki_seq (K := K) rfl) (pv 0) pe_int (fun _ _ => rfl))))) (pss_one (ps_asg (pe_op op_modN (pe_callTy call_int1 (by rfl) (Y.free 69) bt_int (pa_cons (pv 3) pa_nil)) pe_int) (pg_sub (pv 0) pe_int set_list))))))) pss_nil) (pss_cons (ps_if (pt_cmpR op_gt (pe_ix (ki_seq (K := K) rfl) (pv 0) pe_int (fun _ _ => rfl)) pe_int (nomark _)) (pss_cons (ps_set (i := 4) sc__law_take.nd rfl (Or.inl rfl) (pe_op op_modN (pe_callTy call_int1 (by rfl) (Y.free 69) bt_int (pa_cons (pe_ix (ki_seq (K := K) rfl) (pv 0) pe_int (fun _ _ => rfl)) pa_nil)) (pv 1))) (pss_cons (ps_asg (pe_op op_fdivN (pe_callTy call_int1 (by rfl) (Y.free 69) bt_int (pa_cons (pe_ix (ki_seq (K := K) rfl) (pv 0) pe_int (fun _ _ => rfl)) pa_nil)) (pv 1)) (pg_sub (pv 0) pe_int set_list)) (pss_one (ps_ret (pv 4))))) pss_nil) (pss_cons (ps_set (i := 5) sc__law_take.nd rfl (Or.inl rfl) (pe_op op_modN (pe_callTy call_int1 (by rfl) (Y.free 69) bt_int (pa_cons (pe_op (ko_mul (K := K) rfl) (pe_op (ko_add (K := K) rfl) (pe_ix (ki_seq (K := K) rfl) (pv 0) pe_int (fun _ _ => rfl)) pe_int) pe_int) pa_nil)) pe_int)) (pss_cons (ps_set (i := 6) sc__law_take.nd rfl (Or.inl rfl) (pe_op op_modN (pe_callTy call_int1 (by rfl) (Y.free 69) bt_int (pa_cons (pe_op (ko_mul (K := K) rfl) (pe_op op_modN (pe_callTy call_int1 (by rfl) (Y.free 69) bt_int (pa_cons (pe_op (ko_mul (K := K) rfl) (pv 5) (pv 5)) pa_nil)) pe_int) pe_int) pa_nil)) pe_int)) (pss_one (ps_ret (pe_op op_modN (pe_callTy call_int1 (by rfl) (Y.free 69) bt_int (pa_cons (pe_op op_fdivN (pv 6) pe_int) pa_nil)) (pv 1)))))))), fun many F0 H0 b Q hp hQ => ?_⟩
  change Tr ⟨K, some b, F0, H0, F0⟩ [.ml b, .dat (dN many), .un, .un, .un, .un, .un] [] _ _
  obtain ⟨h1, h2⟩ : 1 ≤ many ∧ many ≤ 100000 := hp
  refine enter_bag fun hbag a s i cs N => ?_
  by_cases ha : a = 0
  · obtain ⟨z, z0, hz⟩ := cell_at (k := i.toNat) N.c0
    have few : ((cs.drop i.toNat).map PyData.int).length + 1 ≤ 100000 := by
      have := N.cl
      simp
      omega
    refine t_seq (t_ifD (b := true) (EvT.is (et_test (ev_op (ev_op (ev_m rfl) ev_int (rv_ixM mem0 (at_of (k := 0) rfl rfl))) ev_int rv_eqUI)) (decide_eq_true ha)) (fun _ => ?_) (fun e => nomatch e))
    refine t_seq (t_set (ee_d (ev_op (EvL.data (el_cat (em_l (el_slLFromX (k := i.toNat) (ev_op (ev_m rfl) ev_int (rv_ixM mem0 (at_of (k := 3) rfl rfl))) (Ev.is (ev_op (ev_m rfl) ev_int (rv_ixM mem0 (at_of (k := 2) rfl rfl))) (show dI i = dI ((i.toNat : Nat) : Int) by have := N.i0; congr 2; omega)))) (em_l (el_one (ea_cons ev_int ea_nil))) few)) ev_int (rv_ixL (at_of (k := 0) rfl hz)))) fun σ H h => h.go ?_)
    refine t_seq (t_augS (ev_m rfl) ev_int (k := 0) rfl (ixN_nat (i := 2) (by show 2 < 4; decide)) rfl ev_int fun σ H h => ?_)
    have h : Pst _ _ [(b, bagD a s (i + 1) cs)] σ H := h
    refine h.go (t_seq (t_ifsetI (et_test (ev_op (ev_d rfl) (ev_op ev_int ev_int (rv_iC (by exact ⟨by decide, by decide, by decide⟩))) rv_b)) (fun hb => (ev_d rfl)) (ev_m rfl) ev_int (k := 0) rfl (ixN_nat (i := 0) (by show 0 < 4; decide)) rfl (d3 := .int (if decide (z ≥ (10 : Int) ^ 18) = true then z else a)) ?_ fun σ H h => ?_))
    · show (if decide (z ≥ (10 : Int) ^ 18) = true then PyData.int z else PyData.int a) = _
      by_cases q : decide (z ≥ (10 : Int) ^ 18) = true
      · rw [if_pos q, if_pos q]
      · rw [if_neg q, if_neg q]
    have h : Pst _ _ [(b, bagD (if decide (z ≥ (10 : Int) ^ 18) = true then z else a) s (i + 1) cs)] σ H := h
    have na : 0 ≤ (if decide (z ≥ (10 : Int) ^ 18) = true then z else a) := by split <;> omega
    generalize (if decide (z ≥ (10 : Int) ^ 18) = true then z else a) = a2 at h na
    refine h.go (t_seq (t_set (ee_d (ev_op (ev_op (ev_op (ev_op (ev_m rfl) ev_int (rv_ixM mem0 (at_of (k := 1) rfl rfl))) ev_int (rv_mulI ((.inr ⟨by decide, by decide⟩)))) (ev_op (ev_cb (ea_cons (ev_d rfl) ea_nil) rc_int) ev_int (rv_iC (by show (_ : Int) ≠ 0; decide))) rv_addI) (ev_op ev_int (ev_op (ev_m rfl) ev_int (rv_ixM mem0 (at_of (k := 2) rfl rfl))) (rv_mulI ((.inl ⟨by decide, by decide⟩)))) rv_addI)) fun σ H h => h.go ?_))
    generalize s * 48271 + Int.fmod z 2147483647 + 7919 * (i + 1) = q at h ⊢
    refine t_setitem (ev_op (ev_cb (ea_cons (ev_d rfl) ea_nil) rc_int) ev_int (rv_iC (by show (_ : Int) ≠ 0; decide))) (ev_m rfl) ev_int (k := 0) rfl (ixN_nat (i := 1) (by show 1 < 4; decide)) fun σ H h => ?_
    have h : Pst _ _ [(b, bagD a2 (Int.fmod q 2147483647) (i + 1) cs)] σ H := h
    have q0 := fmod_pos (a := q) (c := 2147483647) (by decide)
    have N2 : BagN a2 (Int.fmod q 2147483647) (i + 1) cs := ⟨na, q0.1, q0.2, by have := N.i0; omega, N.c0, N.cl⟩
    generalize Int.fmod q 2147483647 = s2 at h N2
    refine Pst.go (u := tSeq _ _) (D := { nx := fun _ H' => Q .non H', rt := Q }) h ?_
    refine t_seq (t_ifD (et_test (ev_op (ev_op (ev_m rfl) ev_int (rv_ixM mem0 (at_of (k := 0) rfl rfl))) ev_int rv_b)) (fun hb => ?_) fun hb => t_next fun σ H h => h.go ?_)
    · have ha' := of_decide_eq_true hb
      refine t_seq (t_set (ee_d (Ev.is (s' := .dat (dN (Int.fmod a2 many).toNat)) (ev_op (ev_cb (ea_cons (ev_op (ev_m rfl) ev_int (rv_ixM mem0 (at_of (k := 0) rfl rfl))) ea_nil) rc_int) (ev_d rfl) (rv_iC (show (many : Int) ≠ 0 by omega))) ?_)) fun σ H h => h.go ?_)
      · show dI (Int.fmod a2 many) = dI ((Int.fmod a2 many).toNat : Int)
        have := (fmod_pos (a := a2) (c := (many : Int)) (by omega)).1
        congr 2
        omega
      refine t_seq (t_setitem (ev_op (ev_cb (ea_cons (ev_op (ev_m rfl) ev_int (rv_ixM mem0 (at_of (k := 0) rfl rfl))) ea_nil) rc_int) (ev_d rfl) (rv_iC (show (many : Int) ≠ 0 ∧ (many : Int).natAbs < 1073741824 from ⟨by omega, by omega⟩))) (ev_m rfl) ev_int (k := 0) rfl (ixN_nat (i := 0) (by show 0 < 4; decide)) fun σ H h => ?_)
      have h : Pst _ _ [(b, bagD (Int.fdiv a2 many) s2 (i + 1) cs)] σ H := h
      refine h.go (ret_bag (P := (· = .dat (dN (Int.fmod a2 many).toNat))) ⟨fdiv_pos (by omega) (by omega), N2.s0, N2.s1, N2.i0, N2.c0, N2.cl⟩ hbag (ev_d rfl) fun s v F' H' e g o => ?_)
      subst e
      have := fmod_pos (a := a2) (c := (many : Int)) (by omega)
      exact hQ v F' H' _ g ⟨_, by omega, rfl⟩ o
    · refine t_seq (t_set (ee_d (ev_op (ev_cb (ea_cons (ev_op (ev_op (ev_op (ev_m rfl) ev_int (rv_ixM mem0 (at_of (k := 1) rfl rfl))) ev_int rv_addI) ev_int (rv_mulI ((.inr ⟨by decide, by decide⟩)))) ea_nil) rc_int) ev_int (rv_iC (by show (_ : Int) ≠ 0; decide)))) fun σ H h => h.go ?_)
      have q1 := fmod_pos (a := (s2 + 1) * 39373) (c := 1000000007) (by decide)
      generalize Int.fmod ((s2 + 1) * 39373) 1000000007 = v1 at h q1 ⊢
      refine t_seq (t_set (ee_d (ev_op (ev_cb (ea_cons (ev_op (ev_op (ev_cb (ea_cons (ev_op (ev_d rfl) (ev_d rfl) (rv_mulI ((.inl ⟨by omega, by omega⟩)))) ea_nil) rc_int) ev_int (rv_iC (by show (_ : Int) ≠ 0; decide))) ev_int (rv_mulI ((.inr ⟨by decide, by decide⟩)))) ea_nil) rc_int) ev_int (rv_iC (by show (_ : Int) ≠ 0; decide)))) fun σ H h => h.go ?_)
      generalize Int.fmod (Int.fmod (v1 * v1) 998244353 * 30011) 998244353 = v2 at h ⊢
      refine ret_bag (P := (· = dI (Int.fmod (Int.fdiv v2 7) many))) N2 hbag (ev_op (ev_cb (ea_cons (ev_op (ev_d rfl) ev_int (rv_iC (by exact ⟨by decide, by decide⟩))) ea_nil) rc_int) (ev_d rfl) (rv_iC (show (many : Int) ≠ 0 by omega))) fun s v F' H' e g o => ?_
      have q3 := fmod_pos (a := Int.fdiv v2 7) (c := (many : Int)) (by omega)
      subst e
      refine hQ v F' H' (dN (Int.fmod (Int.fdiv v2 7) many).toNat) g ⟨_, by omega, rfl⟩ ?_
      have e2 : ((Int.fmod (Int.fdiv v2 7) many).toNat : Int) = Int.fmod (Int.fdiv v2 7) many := by omega
      show Dp K F' v (.int _)
      rw [e2]
      exact o
  · refine t_seq (t_ifD (b := false) (EvT.is (et_test (ev_op (ev_op (ev_m rfl) ev_int (rv_ixM mem0 (at_of (k := 0) rfl rfl))) ev_int rv_eqUI)) (decide_eq_false ha)) (fun e => nomatch e) fun _ => t_next fun σ H h => h.go ?_)
    refine t_seq (t_ifD (et_test (ev_op (ev_op (ev_m rfl) ev_int (rv_ixM mem0 (at_of (k := 0) rfl rfl))) ev_int rv_b)) (fun hb => ?_) fun hb => t_next fun σ H h => h.go ?_)
    · have ha' := of_decide_eq_true hb
      refine t_seq (t_set (ee_d (Ev.is (s' := .dat (dN (Int.fmod a many).toNat)) (ev_op (ev_cb (ea_cons (ev_op (ev_m rfl) ev_int (rv_ixM mem0 (at_of (k := 0) rfl rfl))) ea_nil) rc_int) (ev_d rfl) (rv_iC (show (many : Int) ≠ 0 by omega))) ?_)) fun σ H h => h.go ?_)
      · show dI (Int.fmod a many) = dI ((Int.fmod a many).toNat : Int)
        have := (fmod_pos (a := a) (c := (many : Int)) (by omega)).1
        congr 2
        omega
      refine t_seq (t_setitem (ev_op (ev_cb (ea_cons (ev_op (ev_m rfl) ev_int (rv_ixM mem0 (at_of (k := 0) rfl rfl))) ea_nil) rc_int) (ev_d rfl) (rv_iC (show (many : Int) ≠ 0 ∧ (many : Int).natAbs < 1073741824 from ⟨by omega, by omega⟩))) (ev_m rfl) ev_int (k := 0) rfl (ixN_nat (i := 0) (by show 0 < 4; decide)) fun σ H h => ?_)
      have h : Pst _ _ [(b, bagD (Int.fdiv a many) s i cs)] σ H := h
      refine h.go (ret_bag (P := (· = .dat (dN (Int.fmod a many).toNat))) ⟨fdiv_pos (by omega) (by omega), N.s0, N.s1, N.i0, N.c0, N.cl⟩ hbag (ev_d rfl) fun s v F' H' e g o => ?_)
      subst e
      have := fmod_pos (a := a) (c := (many : Int)) (by omega)
      exact hQ v F' H' _ g ⟨_, by omega, rfl⟩ o
    · refine t_seq (t_set (ee_d (ev_op (ev_cb (ea_cons (ev_op (ev_op (ev_op (ev_m rfl) ev_int (rv_ixM mem0 (at_of (k := 1) rfl rfl))) ev_int rv_addI) ev_int (rv_mulI ((.inr ⟨by decide, by decide⟩)))) ea_nil) rc_int) ev_int (rv_iC (by show (_ : Int) ≠ 0; decide)))) fun σ H h => h.go ?_)
      have q1 := fmod_pos (a := (s + 1) * 39373) (c := 1000000007) (by decide)
      generalize Int.fmod ((s + 1) * 39373) 1000000007 = v1 at h q1 ⊢
      refine t_seq (t_set (ee_d (ev_op (ev_cb (ea_cons (ev_op (ev_op (ev_cb (ea_cons (ev_op (ev_d rfl) (ev_d rfl) (rv_mulI ((.inl ⟨by omega, by omega⟩)))) ea_nil) rc_int) ev_int (rv_iC (by show (_ : Int) ≠ 0; decide))) ev_int (rv_mulI ((.inr ⟨by decide, by decide⟩)))) ea_nil) rc_int) ev_int (rv_iC (by show (_ : Int) ≠ 0; decide)))) fun σ H h => h.go ?_)
      generalize Int.fmod (Int.fmod (v1 * v1) 998244353 * 30011) 998244353 = v2 at h ⊢
      refine ret_bag (P := (· = dI (Int.fmod (Int.fdiv v2 7) many))) N hbag (ev_op (ev_cb (ea_cons (ev_op (ev_d rfl) ev_int (rv_iC (by exact ⟨by decide, by decide⟩))) ea_nil) rc_int) (ev_d rfl) (rv_iC (show (many : Int) ≠ 0 by omega))) fun s v F' H' e g o => ?_
      have q3 := fmod_pos (a := Int.fdiv v2 7) (c := (many : Int)) (by omega)
      subst e
      refine hQ v F' H' (dN (Int.fmod (Int.fdiv v2 7) many).toNat) g ⟨_, by omega, rfl⟩ ?_
      have e2 : ((Int.fmod (Int.fdiv v2 7) many).toNat : Int) = Int.fmod (Int.fdiv v2 7) many := by omega
      show Dp K F' v (.int _)
      rw [e2]
      exact o
end
end FW
end
section
set_option linter.all false
set_option maxRecDepth 100000
set_option maxHeartbeats 4000000
/-! Draws, while loops. -/
namespace FW
open PySem PySem.Spec PyProof.Rows L2
section
variable {C : Cn} {G : List Sl} {ms : Ms} {te ta tb : TE} {tt : TT} {tr : TA} {D : Ends} {E : XK} {b : Addr}
/-- a call that draws -/
theorem evp_b {α : Type} {A : α → List PD} {pre : α → Prop} {R : α → PD → Prop} {ss : List Sl} (a : α) (hB : C.B = some b) (h : EvA C tr G ms ss) (e : ss = .ml b :: (A a).map Sl.dat) (hp : pre a) : EvP C (tCall (PrB C.K A pre R) [] E tr) G ms (fun s => ∃ d, R a d ∧ s = .dat d) :=
  evp_callB hB h fun ss' e' => ⟨a, by rw [e', e], hp, fun d hd => ⟨d, hd, rfl⟩⟩
theorem evlp_b {α : Type} {A : α → List PD} {pre : α → Prop} {R : α → List PD → Prop} {ss : List Sl} (a : α) (hB : C.B = some b) (h : EvA C tr G ms ss) (e : ss = .ml b :: (A a).map Sl.dat) (hp : pre a) : EvLP C (tCall (PrBL C.K A pre R) [] E tr) G ms (R a) :=
  evlp_callB hB h fun ss' e' => ⟨a, by rw [e', e], hp, fun d hd => hd⟩
/-- arguments, the last of which are drawn: Pa tells them -/
theorem evp_bP {α : Type} {A : α → List PD} {pre : α → Prop} {R : α → PD → Prop} {Pa : List Sl → Prop} (Pr0 : α → Prop) (hB : C.B = some b) (h : EvAP C tr G ms Pa) (f : ∀ ss, Pa ss → ∃ a : α, ss = .ml b :: (A a).map Sl.dat ∧ pre a ∧ Pr0 a) : EvP C (tCall (PrB C.K A pre R) [] E tr) G ms (fun s => ∃ a d, Pr0 a ∧ R a d ∧ s = .dat d) :=
  evp_callB hB h fun ss' e' => by
    obtain ⟨a, e, hp, h0⟩ := f ss' e'
    exact ⟨a, e, hp, fun d hd => ⟨a, d, h0, hd, rfl⟩⟩
theorem Ev.p {s : Sl} (h : Ev C te G ms s) : EvP C te G ms (· = s) := h
theorem eap_c {P : Sl → Prop} {Ps : List Sl → Prop} (h : EvP C ta G ms P) (hr : EvAP C tr G ms Ps) : EvAP C (tCons ta tr) G ms (fun l => ∃ s ss, P s ∧ Ps ss ∧ l = s :: ss) := eap_cons h hr fun s ss h1 h2 => ⟨s, ss, h1, h2, rfl⟩
theorem rvp_of {r : R2} {x y z : Sl} {P : Sl → Prop} (h : Rv C r x y G ms z) (hz : P z) : RvP C r x y G ms P := fun F H σ vx vy S o1 o2 Q q => h F H σ vx vy S o1 o2 Q fun s v F' H' e => q s v F' H' (by subst e; exact hz)
theorem rcp_of {r : List V → Hp → VK → Prop} {ss : List Sl} {z : Sl} {P : Sl → Prop} (h : Rc C r ss G ms z) (hz : P z) : RcP C r ss G ms P := fun F H σ vs S o Q q => h F H σ vs S o Q fun s v F' H' e => q s v F' H' (by subst e; exact hz)
theorem src_lI {ds : List PD} (h : Ev C te G ms (.dat (.list ds))) : Src C (iSeq C.K te) G ms [] (ds.map fun d => d) := by rw [List.map_id']; exact src_l h
/-- while: the word Inv by the measure -/
theorem t_while {P : Nat → List Sl → Ms → Prop} {m0 : Nat} {tb : TS} (h0 : P m0 G ms)
    (turn : ∀ m G ms, P m G ms → ∃ b, EvT C tt G ms b ∧ (b = true → Tr C G ms tb { D with nx := fun σ H => ∃ m' G' ms', m' < m ∧ P m' G' ms' ∧ Pst C G' ms' σ H, ct := fun σ H => ∃ m' G' ms', m' < m ∧ P m' G' ms' ∧ Pst C G' ms' σ H, bk := D.nx }) ∧ (b = false → ∀ σ H, Pst C G ms σ H → D.nx σ H)) : Tr C G ms (tWhile tt tb) D := fun σ H h => by
  refine ⟨fun m σ H => ∃ G ms, P m G ms ∧ Pst C G ms σ H, ⟨m0, G, ms, h0, h⟩, ?_⟩
  rintro m σ H ⟨G1, ms1, p, F, S, g, hf, fl, e0, hb⟩
  obtain ⟨b, e, h1, h2⟩ := turn m G1 ms1 p
  refine e F H σ S _ fun b' F1 H1 e1 g1 => ?_
  subst e1
  have h3 : Pst C G1 ms1 σ H1 := ⟨F1, S.go g1, g.trans g1, hf, Same.trans fl g1.fx, e0, hb⟩
  cases b' with
  | true =>
    rw [if_pos rfl]
    exact ⟨_, fun σ' H' ⟨m', G', ms', lt, p', h'⟩ => ⟨m', lt, G', ms', p', h'⟩, h1 rfl σ H1 h3⟩
  | false =>
    rw [if_neg Bool.false_ne_true]
    exact h2 rfl σ H1 h3
end
end FW
end
section
set_option linter.all false
set_option maxRecDepth 100000
set_option maxHeartbeats 4000000
namespace FW
open PySem PySem.Spec PyProof.Rows L2
section
variable {P : Program} {w : World} {K : PySem.W.Frag} {mg : Str → Option Value} {base : Heap}
abbrev N__law_one : List Str := ["_law_bag_here", "_law_things"]
abbrev P__law_one : List Str := ["_law_bag_here", "_law_things"]
theorem sc__law_one : FnScope N__law_one P__law_one (defScope (Hd.top 49)) := ⟨rfl, rfl, rfl, by decide +kernel, rfl, by decide +kernel, by decide +kernel⟩
abbrev Ok__law_one (P : Program) (w : World) (K : PySem.W.Frag) (mg : Str → Option Value) (base : Heap) : Prop := Hd.OkF P w K mg base 2 "_law_one" P__law_one (PrB K (α := List PD) (fun a => [.list a]) (fun a => 1 ≤ a.length ∧ a.length ≤ 1000) (fun a d => d ∈ a))
theorem ok__law_one (Y : Hd.Ok K mg) (D__law_take : Ok__law_take P w K mg base) : Ok__law_one P w K mg base := by
  refine mkPrB (i := 35) (j := 49) (k := 1) Y rfl rfl sc__law_one (fun _ _ _ _ _ _ us hl => match us, hl with | [_, _], _ => rfl) 0 rfl (fun _ => rfl) fun cdv A' outer s H E hr => ⟨_, (pss_one (ps_ret (pe_ix (ki_seq (K := K) rfl) (pv 1) (Hd.pe_f D__law_take (hr.mono (by decide)) (by rfl) (pa_cons (pv 0) (pa_cons (pe_callB (kc_len (K := K) rfl) (by rfl) (Y.free 71) bt_len (pa_cons (pv 1) pa_nil)) pa_nil))) (fun _ _ => rfl)))), fun ds F0 H0 b Q hp hQ => ?_⟩
  change Tr ⟨K, some b, F0, H0, F0⟩ [.ml b, .dat (.list ds)] [] _ _
  obtain ⟨h1, h2⟩ : 1 ≤ ds.length ∧ ds.length ≤ 1000 := hp
  refine t_ret (P := fun s => ∃ d, d ∈ ds ∧ s = .dat d) (evp_op (Ev.p (ev_d rfl)) (evp_b (b := b) ds.length rfl (ea_cons (ev_m rfl) (ea_cons (ev_cb (ea_cons (ev_d rfl) ea_nil) rc_lenL) ea_nil)) rfl (by exact ⟨h1, by omega⟩)) fun x y hx hy => ?_) fun s v F' H' e g o => ?_
  · obtain ⟨d, ⟨v, hv, rfl⟩, rfl⟩ := hy
    subst hx
    exact rvp_of (rv_ixL (at_of (k := v) rfl (List.getElem?_eq_getElem hv))) ⟨_, List.getElem_mem hv, rfl⟩
  · obtain ⟨d, hd, rfl⟩ := e
    exact hQ v F' H' d g hd o
abbrev N__law_mixed : List Str := ["_law_bag_here", "_law_things", "_law_found", "_law_thing"]
abbrev P__law_mixed : List Str := ["_law_bag_here", "_law_things"]
theorem sc__law_mixed : FnScope N__law_mixed P__law_mixed (defScope (Hd.top 50)) := ⟨rfl, rfl, rfl, by decide +kernel, rfl, by decide +kernel, by decide +kernel⟩
abbrev Ok__law_mixed (P : Program) (w : World) (K : PySem.W.Frag) (mg : Str → Option Value) (base : Heap) : Prop := Hd.OkF P w K mg base 2 "_law_mixed" P__law_mixed (PrBL K (α := List PD) (fun a => [.list a]) (fun a => a.length ≤ 1000) (fun a ds => ds.Perm a))
theorem ok__law_mixed (Y : Hd.Ok K mg) (D__law_take : Ok__law_take P w K mg base) : Ok__law_mixed P w K mg base := by
  refine mkPrBL (i := 36) (j := 50) (k := 1) Y rfl rfl sc__law_mixed (fun _ _ _ _ _ _ us hl => match us, hl with | [_, _], _ => rfl) 2 rfl (fun _ => rfl) fun cdv A' outer s H E hr => ⟨_, (pss_cons (ps_set (i := 2) sc__law_mixed.nd rfl (Or.inl rfl) (pe_lst pa_nil)) (pss_cons (ps_for PassesOwn.never rfl (kp_seq (K := K) rfl (pv 1)) (pg_name (i := 3) sc__law_mixed.nd rfl (Or.inl rfl)) (pss_one (ps_expr (ke_bm (K := K) rfl PySem.F.plainAttrs_list PySem.F.slot_list_insert PySem.F.type_list_insert mt_insert (pv 2) (pa_cons (Hd.pe_f D__law_take (hr.mono (by decide)) (by rfl) (pa_cons (pv 0) (pa_cons (pe_op (ko_add (K := K) rfl) (pe_callB (kc_len (K := K) rfl) (by rfl) (Y.free 71) bt_len (pa_cons (pv 2) pa_nil)) pe_int) pa_nil))) (pa_cons (pv 3) pa_nil)))))) (pss_one (ps_ret (pv 2))))), fun ds F0 H0 b Q hp hQ => ?_⟩
  change Tr ⟨K, some b, F0, H0, F0⟩ [.ml b, .dat (.list ds), .un, .un] [] _ _
  have h1 : ds.length ≤ 1000 := hp
  refine t_seq (t_set (ee_l el_nil) fun p σ H h => h.go ?_)
  refine t_seq (t_for (src_lI (ev_d rfl)) (fun c G ms => (∃ b3 : Sl, G = [.ml b, .dat (.list ds), .ml p, b3]) ∧ ∃ l, l.Perm (ds.take c) ∧ ms = [(p, l)]) ⟨⟨_, rfl⟩, [], by simp, rfl⟩ ?_ ?_)
  · rintro c d hd Fl G ms ⟨⟨b3, rfl⟩, l, pl, rfl⟩
    have hl : l.length = c := by
      have := pl.length_eq
      have hc := (List.getElem?_eq_some_iff.mp hd).1
      rw [List.length_take] at this
      omega
    have hc := (List.getElem?_eq_some_iff.mp hd).1
    refine tg_name fun σ H h => h.go ?_
    refine t_ins (d := d) (i := 0) (ev_m rfl) (eap_c (evp_b (b := b) (l.length + 1) rfl (ea_cons (ev_m rfl) (ea_cons (ev_op (ev_cb (ea_cons (ev_m rfl) ea_nil) (rc_lenM mem0)) ev_int rv_addI) ea_nil)) rfl (by exact ⟨by omega, by omega⟩)) (eap_c (Ev.p (ev_d rfl)) ea_nil)) (fun ss hs => ?_) (k := 0) rfl (by omega)
    obtain ⟨s1, ss1, ⟨e, ⟨v, hv, rfl⟩, rfl⟩, ⟨s2, ss2, rfl, rfl, rfl⟩, rfl⟩ := hs
    refine ⟨v, d, rfl, by omega, fun σ H h => h.inv ⟨⟨_, rfl⟩, _, ?_, rfl⟩⟩
    rw [List.take_succ, hd]
    have e1 : (l.take v ++ [d] ++ l.drop v).Perm (d :: l) := by
      have e2 : (l.take v ++ d :: l.drop v).Perm (d :: (l.take v ++ l.drop v)) := List.perm_middle
      rw [List.take_append_drop] at e2
      rw [List.append_assoc]
      exact e2
    exact e1.trans ((List.perm_append_singleton d l).symm.trans (pl.append_right [d]))
  · rintro G ms ⟨⟨b3, rfl⟩, l, pl, rfl⟩ σ H h
    rw [List.take_length] at pl
    refine Pst.go (u := tRet _) (D := { nx := fun _ H' => Q .non H', rt := Q }) h (t_retM (ev_m rfl) mem0 fun q us F' H' a1 a2 a3 a4 a5 => hQ q us F' H' l a1 a2 a3 a4 pl a5)
end
end FW
end
section
set_option linter.all false
set_option maxRecDepth 100000
set_option maxHeartbeats 4000000
/-! Draws of numbers; walks over a drawn number of turns. -/
namespace FW
open PySem PySem.Spec PyProof.Rows L2
section
variable {C : Cn} {G : List Sl} {ms : Ms} {te ta tb : TE} {tt : TT} {tr : TA} {D : Ends} {E : XK} {b : Addr}
/-- a number of the kind P -/
def Num (P : Nat → Prop) (s : Sl) : Prop := ∃ v : Nat, P v ∧ s = .dat (dN v)
def Nums (P : Nat → Prop) (k : Nat) (ss : List Sl) : Prop := ∃ vs : List Nat, vs.length = k ∧ (∀ v ∈ vs, P v) ∧ ss = (vs.map dN).map Sl.dat
theorem en_d {P : Nat → Prop} {v : Nat} (h : Ev C te G ms (.dat (dN v))) (p : P v) : EvP C te G ms (Num P) := fun F H σ S Q q => h F H σ S Q fun s w F' H' e => q s w F' H' (by subst e; exact ⟨v, p, rfl⟩)
theorem en_w {P P' : Nat → Prop} (h : EvP C te G ms (Num P)) (f : ∀ v, P v → P' v) : EvP C te G ms (Num P') := fun F H σ S Q q => h F H σ S Q fun s w F' H' e => q s w F' H' (by obtain ⟨v, p, rfl⟩ := e; exact ⟨v, f v p, rfl⟩)
theorem en_add {P P' : Nat → Prop} {k : Nat} (ha : Ev C ta G ms (.dat (dN k))) (h : EvP C te G ms (Num P)) (f : ∀ v, P v → P' (k + v)) : EvP C (tOp (rAddU C.K) ta te) G ms (Num P') :=
  evp_op (Ev.p ha) h fun x y hx hy => by
    obtain ⟨v, p, rfl⟩ := hy
    subst hx
    exact rvp_of rv_addI ⟨k + v, f v p, by show dI _ = dI _; congr 1⟩
theorem ens_nil {P : Nat → Prop} : EvAP C tNil G ms (Nums P 0) := fun F H σ S Q q => ea_nil F H σ S Q fun ss vs F' H' e => q ss vs F' H' (by subst e; exact ⟨[], rfl, by simp, rfl⟩)
theorem ens_cons {P : Nat → Prop} {k : Nat} (h : EvP C te G ms (Num P)) (hr : EvAP C tr G ms (Nums P k)) : EvAP C (tCons te tr) G ms (Nums P (k + 1)) := eap_cons h hr fun s ss h1 h2 => by
  obtain ⟨v, p, rfl⟩ := h1
  obtain ⟨vs, l, a, rfl⟩ := h2
  exact ⟨v :: vs, by simp [l], by simpa using ⟨p, a⟩, rfl⟩
/-- a list of such numbers -/
theorem en_lst {P : Nat → Prop} {k : Nat} (h : EvAP C tr G ms (Nums P k)) (hk : k ≤ 1000) : EvP C (tLst tr) G ms (fun s => ∃ vs : List Nat, vs.length = k ∧ (∀ v ∈ vs, P v) ∧ s = .dat (.list (vs.map dN))) :=
  EvLP.data (P := fun ds => ∃ vs : List Nat, vs.length = k ∧ (∀ v ∈ vs, P v) ∧ ds = vs.map dN) (evlp_lst h fun ss ⟨vs, l, a, e⟩ => ⟨vs.map dN, e, by simp; omega, vs, l, a, rfl⟩) fun ds ⟨vs, l, a, e⟩ => ⟨vs, l, a, by rw [e]⟩
/-- a draw below many -/
theorem en_take {many : Nat} {P : Nat → Prop} (hB : C.B = some b) (hb : Ev C ta G ms (.ml b)) (h : Ev C te G ms (.dat (dN many))) (hp : 1 ≤ many ∧ many ≤ 100000) (f : ∀ v, v < many → P v) : EvP C (tCall (PrB C.K (α := Nat) (fun a => [dN a]) (fun a => 1 ≤ a ∧ a ≤ 100000) (fun a d => ∃ v : Nat, v < a ∧ d = dN v)) [] E (tCons ta (tCons te tNil))) G ms (Num P) := fun F H σ S Q q =>
  evp_b (b := b) many hB (ea_cons hb (ea_cons h ea_nil)) rfl hp F H σ S Q fun s w F' H' e => q s w F' H' (by obtain ⟨d, ⟨v, hv, rfl⟩, rfl⟩ := e; exact ⟨v, f v hv, rfl⟩)
/-- one of drawn numbers -/
theorem en_one {k : Nat} {P : Nat → Prop} (hB : C.B = some b) (hb : Ev C ta G ms (.ml b)) (h : EvAP C tr G ms (Nums P k)) (hk : 1 ≤ k ∧ k ≤ 1000) : EvP C (tCall (PrB C.K (α := List PD) (fun a => [.list a]) (fun a => 1 ≤ a.length ∧ a.length ≤ 1000) (fun a d => d ∈ a)) [] E (tCons ta (tCons (tLst tr) tNil))) G ms (Num P) :=
  evp_callB hB (eap_c (Ev.p hb) (eap_c (en_lst h hk.2) ea_nil)) fun ss e => by
    obtain ⟨s1, ss1, rfl, ⟨s2, ss2, ⟨vs, l, a, rfl⟩, rfl, rfl⟩, rfl⟩ := e
    refine ⟨vs.map dN, rfl, by simp only [List.length_map]; omega, fun d hd => ?_⟩
    obtain ⟨v, hv, rfl⟩ := List.mem_map.mp hd
    exact ⟨v, a v hv, rfl⟩
def SrcP (C : Cn) (wi : TI) (G : List Sl) (ms : Ms) (P : List PD → Prop) : Prop := ∀ F H σ, Sat C F H σ G ms → ∀ R : It → Hp → Prop, (∀ J F' H' ds, P ds → Go C F H F' H' → WalkD C J F' [] ds → R J H') → wi σ H R
theorem srcp_range {P : Nat → Prop} (h : EvP C te G ms (Num P)) (hn : ∀ v, P v → v ≤ 100000) : SrcP C (iRng1 (tCons te tNil)) G ms (fun ds => ∃ v, P v ∧ ds = tab v dN) := fun F H σ S R q =>
  h F H σ S _ fun s v0 F1 H1 e g k => by
    obtain ⟨v, p, rfl⟩ := e
    obtain rfl := dp_int k
    have hv := hn v p
    refine ⟨(v : Int), rfl, by omega, by omega, q _ F1 H1 _ ⟨v, p, rfl⟩ g fun F2 H2 e1 e2 _ => ?_⟩
    rw [tab_len]
    refine ⟨fun i hi => by show i < Int.toNat v; omega, by show Int.toNat v ≤ v; omega, fun i x H' hi y => ?_⟩
    obtain ⟨rfl, rfl⟩ := y
    refine ⟨F2, .int (i : Nat), Go.refl e2, tab_get hi, ?_⟩
    have : (0 : Int) + (i : Int) = (i : Nat) := by omega
    rw [this]
    exact .int _
end
section
variable {K : PySem.W.Frag} {B : Option Addr} {F0 H0 Fl : Hp} {G : List Sl} {ms : Ms} {wi : TI} {g : TG} {tb : TS} {D : Ends}
theorem t_forP {P : List PD → Prop} (hs : SrcP ⟨K, B, F0, H0, Fl⟩ wi G ms P) (Inv : List PD → Nat → List Sl → Ms → Prop) (h0 : ∀ ds, P ds → Inv ds 0 G ms)
    (turn : ∀ ds, P ds → ∀ i d, ds[i]? = some d → ∀ Fl' G ms, Inv ds i G ms → TgT ⟨K, B, F0, H0, Fl'⟩ g (.dat d) G ms fun σ H => tb { D with nx := Pinv ⟨K, B, F0, H0, Fl'⟩ (Inv ds (i + 1)), ct := Pinv ⟨K, B, F0, H0, Fl'⟩ (Inv ds (i + 1)), bk := D.nx } σ H)
    (done : ∀ ds, P ds → ∀ G ms, Inv ds ds.length G ms → ∀ σ H, Pst ⟨K, B, F0, H0, Fl⟩ G ms σ H → D.nx σ H) : Tr ⟨K, B, F0, H0, Fl⟩ G ms (tFor wi g tb) D := fun σ H ⟨F, S, gg, hf, fl, e0, hb⟩ => by
  refine hs F H σ S _ fun J F1 H1 xs px g1 wk => ?_
  refine ⟨fun i m σ' H' => m = xs.length - i ∧ i ≤ xs.length ∧ Pinv ⟨K, B, F0, H0, F1⟩ (Inv xs i) σ' H', ⟨xs.length, by simp, Nat.zero_le _, G, ms, h0 xs px, F1, (S.go g1).sw, (gg.trans g1).sw, hf, Same.refl _, e0, hb⟩, ?_⟩
  rintro i m σ' H' ⟨rfl, hi, G', ms', iv, F', S', g', hf', fl', _, _⟩
  obtain ⟨w1, w2, w3⟩ := wk F' H' fl' S'.fh (fun p hp => by simp at hp)
  by_cases hlt : i < xs.length
  · refine .inr ⟨w1 i hlt, Pinv ⟨K, B, F0, H0, F1⟩ (Inv xs (i + 1)), fun σ2 H2 p => ⟨xs.length - (i + 1), by omega, rfl, hlt, p⟩, fun x H2 y => ?_⟩
    obtain ⟨F2, d, g2, hd, hk⟩ := w3 i x H2 hlt y
    exact turn xs px i d hd F1 G' ms' iv F2 H2 σ' x (S'.go g2.sw) (g'.trans g2.sw) hf' (Same.trans fl' g2.fx) e0 hb hk
  · obtain rfl : i = xs.length := by omega
    exact .inl ⟨w2, done xs px G' ms' iv σ' H' ⟨F', S'.sw, g'.sw, hf', Same.trans fl (Same.trans g1.fx fl'), e0, hb⟩⟩
end
section
variable {C : Cn} {G : List Sl} {ms : Ms} {te : TE} {tr : TA}
theorem srcp_l {P : List PD → Prop} (h : EvLP C te G ms P) : SrcP C (iSeq C.K te) G ms P := fun F H σ S R q =>
  .inl (EvLP.data (P' := fun s => ∃ ds, P ds ∧ s = .dat (.list ds)) h (fun ds p => ⟨ds, p, rfl⟩) F H σ S _ fun s v F1 H1 e g k => by
    obtain ⟨ds, p, rfl⟩ := e
    obtain ⟨a, xs, rfl, h1, h2⟩ := dp_list k
    exact ⟨a, rfl, ⟨xs, same_l g.ex h1⟩, q _ F1 H1 ds p g (walk_l h1 h2)⟩)
theorem src_enumMT {l : Addr} {n : Nat} {f : Nat → PD} (h : EvA C tr G ms [.ml l]) (hm : (l, tab n f) ∈ ms) : Src C (iEnumU C.K tr) G ms [(l, tab n f)] (tab n fun k => PyData.tuple [dN k, f k]) := by
  have := src_enumM h hm
  rw [tab_zipIdx, tab_map] at this
  exact this
/-- what is drawn from numbers are numbers -/
theorem perm_nat {l : List Nat} {ds : List PD} (h : ds.Perm (l.map dN)) : ∃ ps : List Nat, ds = ps.map dN ∧ ps.Perm l := by
  refine ⟨ds.map fun d => match d with | .int i => i.toNat | _ => 0, ?_, ?_⟩
  · rw [List.map_map]
    refine (List.map_id' ds).symm.trans (List.map_congr_left fun d hd => ?_)
    obtain ⟨v, _, rfl⟩ := List.mem_map.mp (h.mem_iff.mp hd)
    show dN v = dN (Int.toNat v)
    rw [Int.toNat_natCast]
  · have := h.map fun d => match d with | PyData.int i => i.toNat | _ => 0
    rw [List.map_map] at this
    refine this.trans (List.Perm.of_eq ?_)
    refine (List.map_congr_left fun v _ => ?_).trans (List.map_id' l)
    show Int.toNat v = v
    exact Int.toNat_natCast v
end
end FW
end
section
set_option linter.all false
set_option maxRecDepth 100000
set_option maxHeartbeats 4000000
namespace FW
open PySem PySem.Spec PyProof.Rows L2
theorem tab_at {α : Type} {n c : Nat} {f : Nat → α} {d : α} (h : (tab n f)[c]? = some d) : c < n ∧ d = f c := by
  have hc : c < n := by
    have := (List.getElem?_eq_some_iff.mp h).1
    rwa [tab_len] at this
  rw [tab_get hc] at h
  exact ⟨hc, (Option.some.inj h).symm⟩
/-- the sum of the first k -/
def SM (r : Nat → Nat) : Nat → Nat
  | 0 => 0
  | k + 1 => SM r k + r k
theorem RW_SM (r : Nat → Nat) : ∀ j, FK.RW r j = SM r (j + 1)
  | 0 => by unfold FK.RW SM SM; simp
  | j + 1 => by
    have := RW_SM r j
    show FK.RW r j + _ = _
    rw [this]
    show _ = ((SM r (j + 1) + r (j + 1) : Nat) : Int)
    omega
theorem SM_upd {r : Nat → Nat} {v : Nat} : ∀ {k n : Nat}, k ≤ n → SM (FK.upd r n v) k = SM r k
  | 0, _, _ => rfl
  | k + 1, n, h => by
    show SM _ k + FK.upd r n v k = SM r k + r k
    rw [SM_upd (by omega), FK.upd_other (by omega)]
structure HouseOk (things floors rooms n m : Nat) (r : Nat → Nat) : Prop where
  hn : n ≤ things
  m1 : 1 ≤ m
  m2 : m ≤ floors
  r1 : ∀ j, j < m → 1 ≤ r j
  rs : SM r m ≤ rooms
section
variable {P : Program} {w : World} {K : PySem.W.Frag} {mg : Str → Option Value} {base : Heap}
abbrev N__law_house : List Str := ["_law_bag_here", "_law_things", "_law_floors", "_law_rooms", "_law_many", "_law_found", "_law_left", "_law_floor"]
abbrev P__law_house : List Str := ["_law_bag_here", "_law_things", "_law_floors", "_law_rooms"]
theorem sc__law_house : FnScope N__law_house P__law_house (defScope (Hd.top 54)) := ⟨rfl, rfl, rfl, by decide +kernel, rfl, by decide +kernel, by decide +kernel⟩
abbrev Ok__law_house (P : Program) (w : World) (K : PySem.W.Frag) (mg : Str → Option Value) (base : Heap) : Prop := Hd.OkF P w K mg base 3 "_law_house" P__law_house (PrB K (α := Nat × Nat × Nat) (fun a => [dN a.1, dN a.2.1, dN a.2.2]) (fun a => a.1 ≤ 1000 ∧ 1 ≤ a.2.1 ∧ a.2.1 ≤ 1000 ∧ 1 ≤ a.2.2 ∧ a.2.2 ≤ 1000) (fun a d => ∃ n m r, d = dHouse n m r ∧ HouseOk a.1 a.2.1 a.2.2 n m r))
theorem ok__law_house (Y : Hd.Ok K mg) (D__law_one : Ok__law_one P w K mg base) (D__law_take : Ok__law_take P w K mg base) : Ok__law_house P w K mg base := by
  refine mkPrB (i := 40) (j := 54) (k := 2) Y rfl rfl sc__law_house (fun _ _ _ _ _ _ us hl => match us, hl with | [_, _, _, _], _ => rfl) 4 rfl (fun _ => rfl) fun cdv A' outer s H E hr => ⟨_, (pss_cons (ps_set (i := 4) sc__law_house.nd rfl (Or.inl rfl) (Hd.pe_f D__law_one (hr.mono (by decide)) (by rfl) (pa_cons (pv 0) (pa_cons (pe_lst (pa_cons (pv 1) (pa_cons (pv 1) (pa_cons pe_int (pa_cons pe_int (pa_cons pe_int (pa_cons pe_int (pa_cons (Hd.pe_f D__law_take (hr.mono (by decide)) (by rfl) (pa_cons (pv 0) (pa_cons (pe_op (ko_add (K := K) rfl) (pv 1) pe_int) pa_nil))) pa_nil)))))))) pa_nil)))) (pss_cons (ps_par (i := 5) (j := 6) rfl sc__law_house.nd rfl rfl (by decide) rfl rfl (pa_cons (pe_lst pa_nil) (pa_cons (pv 3) pa_nil)) (by rfl)) (pss_cons (ps_for PassesOwn.never rfl (pi_range1 (by rfl) (Y.free 75) (pa_cons (Hd.pe_f D__law_one (hr.mono (by decide)) (by rfl) (pa_cons (pv 0) (pa_cons (pe_lst (pa_cons (pv 2) (pa_cons pe_int (pa_cons (pv 2) (pa_cons pe_int (pa_cons (pe_op (ko_add (K := K) rfl) pe_int (Hd.pe_f D__law_take (hr.mono (by decide)) (by rfl) (pa_cons (pv 0) (pa_cons (pv 2) pa_nil)))) pa_nil)))))) pa_nil))) pa_nil)) (pg_name (i := 7) sc__law_house.nd rfl (Or.inl rfl)) (pss_one (ps_if (PW.pt (pw_and (pt_cmpR op_gt (pv 6) pe_int (nomark _)) (pw_and1 (pt_cmpR op_lt (pv 7) (pv 2) (nomark _))))) (pss_cons (ps_expr (ke_bm (K := K) rfl PySem.F.plainAttrs_list PySem.F.slot_list_append PySem.F.type_list_append mt_append (pv 5) (pa_cons (pe_callB (call_min2 rfl) (by rfl) (Y.free 74) bt_min (pa_cons (pv 6) (pa_cons (Hd.pe_f D__law_one (hr.mono (by decide)) (by rfl) (pa_cons (pv 0) (pa_cons (pe_lst (pa_cons pe_int (pa_cons pe_int (pa_cons pe_int (pa_cons pe_int (pa_cons pe_int (pa_cons pe_int (pa_cons (pe_op (ko_add (K := K) rfl) pe_int (Hd.pe_f D__law_take (hr.mono (by decide)) (by rfl) (pa_cons (pv 0) (pa_cons (pv 3) pa_nil)))) pa_nil)))))))) pa_nil))) pa_nil))) pa_nil))) (pss_one (ps_aug (i := 6) sc__law_house.nd rfl (Or.inl rfl) (pe_ix (ki_seq (K := K) rfl) (pv 5) (pe_un un_neg pe_int) (fun _ _ => rfl)) ip_sub))) pss_nil))) (pss_one (ps_ret (pe_tupN (pa_cons (pe_callB (call_min2 rfl) (by rfl) (Y.free 74) bt_min (pa_cons (pv 4) (pa_cons (pv 1) pa_nil))) (pa_cons (pe_callTy (kc_tup (K := K) rfl) (by rfl) (Y.free 80) bt_tuple (pa_cons (pv 5) pa_nil)) pa_nil)))))))), fun ⟨things, floors, rooms⟩ F0 H0 b Q hp hQ => ?_⟩
  change Tr ⟨K, some b, F0, H0, F0⟩ [.ml b, .dat (dN things), .dat (dN floors), .dat (dN rooms), .un, .un, .un, .un] [] _ _
  obtain ⟨h1, h2, h3, h4, h5⟩ : things ≤ 1000 ∧ 1 ≤ floors ∧ floors ≤ 1000 ∧ 1 ≤ rooms ∧ rooms ≤ 1000 := hp
  refine t_seq (t_set (ee_r (P := Num fun v => v ≤ 100000) (en_one (b := b) (k := 7) rfl (ev_m rfl) (ens_cons (en_d (v := things) (ev_d rfl) (by omega)) (ens_cons (en_d (v := things) (ev_d rfl) (by omega)) (ens_cons (en_d (v := 3) ev_int (by omega)) (ens_cons (en_d (v := 2) ev_int (by omega)) (ens_cons (en_d (v := 1) ev_int (by omega)) (ens_cons (en_d (v := 0) ev_int (by omega)) (ens_cons (en_take (b := b) (many := things + 1) rfl (ev_m rfl) (ev_op (ev_d rfl) ev_int rv_addI) (by omega) (fun v hv => by omega)) ens_nil))))))) (by omega))) fun s hs => ?_)
  obtain ⟨many, hmany, rfl⟩ := hs
  refine fun σ H h => h.go ?_
  refine t_seq (t_par (ees_cons (ee_l el_nil) (ees_cons (ee_d (ev_d rfl)) ees_nil)) fun p => ⟨_, _, rfl, fun σ H h => h.go ?_⟩)
  refine t_seq (t_forP (srcp_range (P := fun v => 1 ≤ v ∧ v ≤ 1000) (en_one (b := b) (k := 5) rfl (ev_m rfl) (ens_cons (en_d (v := floors) (ev_d rfl) (by omega)) (ens_cons (en_d (v := 2) ev_int (by omega)) (ens_cons (en_d (v := floors) (ev_d rfl) (by omega)) (ens_cons (en_d (v := 1) ev_int (by omega)) (ens_cons (en_add (k := 1) ev_int (en_take (b := b) (many := floors) (P := fun v => v < floors) rfl (ev_m rfl) (ev_d rfl) (by omega) (fun v hv => hv)) (fun v hv => by omega)) ens_nil))))) (by omega)) (fun v hv => by omega)) (fun _ c G ms => ∃ m r b7, G = [.ml b, .dat (dN things), .dat (dN floors), .dat (dN rooms), .dat (dN many), .ml p, .dat (dN (rooms - SM r m)), b7] ∧ ms = [(p, tab m fun j => dN (r j))] ∧ SM r m ≤ rooms ∧ (∀ j, j < m → 1 ≤ r j) ∧ m ≤ c ∧ m ≤ floors ∧ (1 ≤ c → 1 ≤ m)) ?_ ?_ ?_)
  · exact fun ds _ => ⟨0, fun _ => 0, _, rfl, rfl, by show (0 : Nat) ≤ _; omega, fun j hj => by omega, by omega, by omega, by omega⟩
  · rintro _ ⟨turns, ht, rfl⟩ c d hd Fl G ms ⟨m, r, b7, rfl, rfl, q1, q2, q3, q4, q5⟩
    obtain ⟨hc, rfl⟩ := tab_at hd
    refine tg_name fun σ H h => h.go ?_
    by_cases hh : 0 < rooms - SM r m ∧ c < floors
    · refine t_ifD (b := true) (EvT.is (et_and (et_test (ev_op (ev_d rfl) ev_int rv_b)) fun hb => (et_test (ev_op (ev_d rfl) (ev_d rfl) rv_b))) ?_) (fun _ => ?_) (fun e => nomatch e)
      · simp
        omega
      refine t_seq (t_app (P := Num fun v => 1 ≤ v ∧ v ≤ rooms - SM r m) (ev_m rfl) (evp_cb (eap_c (Ev.p (ev_d rfl)) (eap_c (en_one (b := b) (k := 7) (P := fun v => 1 ≤ v ∧ v ≤ 100000) rfl (ev_m rfl) (ens_cons (en_d (v := 1) ev_int (by omega)) (ens_cons (en_d (v := 2) ev_int (by omega)) (ens_cons (en_d (v := 1) ev_int (by omega)) (ens_cons (en_d (v := 3) ev_int (by omega)) (ens_cons (en_d (v := 1) ev_int (by omega)) (ens_cons (en_d (v := 2) ev_int (by omega)) (ens_cons (en_add (k := 1) ev_int (en_take (b := b) (many := rooms) (P := fun v => v < rooms) rfl (ev_m rfl) (ev_d rfl) (by omega) (fun v hv => hv)) (fun v hv => by omega)) ens_nil))))))) (by omega)) ea_nil)) fun ss hs => ?_) (k := 0) rfl (by simp; omega) fun s hs => ?_)
      · obtain ⟨s1, ss1, rfl, ⟨s2, ss2, ⟨v, hv, rfl⟩, rfl, rfl⟩, rfl⟩ := hs
        refine rcp_of rc_min2 ⟨min (rooms - SM r m) v, by omega, ?_⟩
        show dI _ = dI _
        congr 1
        omega
      · obtain ⟨v, hv, rfl⟩ := hs
        refine ⟨_, rfl, fun σ H h => ?_⟩
        have e1 : tab m (fun j => dN (r j)) ++ [dN v] = tab (m + 1) fun j => dN (FK.upd r m v j) := by
          show _ = List.map _ _
          rw [List.range_succ, List.map_append]
          show _ = tab m _ ++ [dN (FK.upd r m v m)]
          rw [FK.upd_self, tab_congr (g := fun j => dN (FK.upd r m v j)) fun i hi => by rw [FK.upd_other (by omega)]]
        have h : Pst _ _ [(p, tab m (fun j => dN (r j)) ++ [dN v])] σ H := h
        rw [e1] at h
        refine h.go ?_
        refine t_aug (a := ((rooms - SM r m : Nat) : Int)) (b := (v : Int)) rfl (ev_op (ev_m rfl) (ev_neg ev_int) (rv_ixM mem0 ((at_last).trans (by rw [FK.upd_self])))) fun σ H h => h.inv ⟨m + 1, FK.upd r m v, .dat (dN c), ?_, rfl, ?_, ?_, by omega, by omega, by omega⟩
        · have e2 : SM (FK.upd r m v) (m + 1) = SM r m + v := by
            show SM _ m + FK.upd r m v m = _
            rw [SM_upd (Nat.le_refl _), FK.upd_self]
          rw [e2]
          have e3 : ((rooms - SM r m : Nat) : Int) - (v : Int) = ((rooms - (SM r m + v) : Nat) : Int) := by omega
          show [_, _, _, _, _, _, dI (((rooms - SM r m : Nat) : Int) - (v : Int)), _] = _
          rw [e3]
        · show SM _ m + FK.upd r m v m ≤ _
          rw [SM_upd (Nat.le_refl _), FK.upd_self]
          omega
        · intro j hj
          by_cases e : j = m
          · rw [e, FK.upd_self]
            exact hv.1
          · rw [FK.upd_other e]
            exact q2 j (by omega)
    · refine t_ifD (b := false) (EvT.is (et_and (et_test (ev_op (ev_d rfl) ev_int rv_b)) fun hb => (et_test (ev_op (ev_d rfl) (ev_d rfl) rv_b))) ?_) (fun e => nomatch e) fun _ => t_next fun σ H h => h.inv ⟨m, r, .dat (dN c), rfl, rfl, q1, q2, by omega, q4, fun _ => ?_⟩
      · simp
        omega
      · rcases Nat.eq_zero_or_pos c with e | e
        · rcases Nat.eq_zero_or_pos m with e2 | e2
          · subst e2
            have : SM r 0 = 0 := rfl
            omega
          · exact e2
        · exact q5 e
  · rintro _ ⟨turns, ht, rfl⟩ G ms ⟨m, r, b7, rfl, rfl, q1, q2, q3, q4, q5⟩ σ H h
    rw [tab_len] at q3 q5
    refine Pst.go (u := tRet _) (D := { nx := fun _ H' => Q .non H', rt := Q }) h (t_retD (d := dHouse (min many things) m r) (Ev.is (ev_tup2 (ea_cons (ev_cb (ea_cons (ev_d rfl) (ea_cons (ev_d rfl) ea_nil)) rc_min2) (ea_cons (ev_cb (ea_cons (ev_m rfl) ea_nil) (rc_tupM mem0)) ea_nil))) ?_) fun v F' H' g o => ?_)
    · show Sl.dat (.tuple [.int _, _]) = Sl.dat (.tuple [.int _, _])
      congr 4
      omega
    · exact hQ v F' H' _ g ⟨_, m, r, rfl, ⟨by show min many things ≤ things; omega, q5 (by omega), q4, q2, q1⟩⟩ o
end
end FW
end
section
set_option linter.all false
set_option maxRecDepth 100000
set_option maxHeartbeats 4000000
namespace FW
open PySem PySem.Spec PyProof.Rows L2
theorem cOn_more {n j : Nat} {st : Nat → Nat} : FK.cOn (n + 1) st j = FK.cOn n st j + if st n = j then 1 else 0 := by
  unfold FK.cOn
  rw [List.range_succ, List.countP_append, List.countP_cons, List.countP_nil]
  simp
theorem cOn_put {x v j : Nat} {st : Nat → Nat} (h : st x ≠ j) : ∀ {n : Nat}, FK.cOn n (FK.upd st x v) j = FK.cOn n st j + if x < n ∧ v = j then 1 else 0
  | 0 => by rw [if_neg (by omega)]; rfl
  | n + 1 => by
    rw [cOn_more, cOn_more, cOn_put h]
    by_cases e : n = x
    · subst e
      rw [FK.upd_self]
      repeat' split
      all_goals omega
    · rw [FK.upd_other e]
      repeat' split
      all_goals omega
theorem cOn_none {n m j : Nat} (h : m ≠ j) : FK.cOn n (fun _ => m) j = 0 := by
  unfold FK.cOn
  rw [List.countP_eq_zero]
  intro y _
  simp [h]
theorem rep_tab {α : Type} (d : α) : ∀ n : Nat, List.replicate n d = tab n fun _ => d
  | 0 => rfl
  | n + 1 => by
    rw [List.replicate_succ', rep_tab d n]
    show _ = List.map _ _
    rw [List.range_succ, List.map_append]
    rfl
section
variable {C : Cn} {G0 : List Sl} {ms0 : Ms} {t u : TS} {D : Ends}
theorem t_mid {α : Type} {Pa : α → Prop} {G : α → List Sl} {ms : α → Ms} (k : ∀ a, Pa a → Tr C (G a) (ms a) u D) (h : (∀ a, Pa a → ∀ σ H, Pst C (G a) (ms a) σ H → u D σ H) → Tr C G0 ms0 t { D with nx := u D }) : Tr C G0 ms0 (tSeq t u) D :=
  t_seq (h fun a p σ H q => k a p σ H q)
end
section
variable {C : Cn} {G : List Sl} {ms : Ms} {te : TE} {D : Ends}
theorem t_setitemP {Ps : Sl → Prop} {k n : Nat} {l : Addr} {ds : List PD} {j : Int} {to ti : TE} (h : EvP C te G ms Ps) (ho : Ev C to G ms (.ml l)) (hi : Ev C ti G ms (dI j)) (hm : ms[k]? = some (l, ds)) (hj : ixN ds.length j = some n) (kk : ∀ s, Ps s → ∃ d, s = .dat d ∧ ∀ σ H, Pst C G (ms.set k (l, ds.set n d)) σ H → D.nx σ H) :
    Tr C G ms (tAsg te (gSub to ti rSetL)) D := fun σ H ⟨F, S, gg, hf, fl, e0, hb⟩ =>
  h F H σ S _ fun s v F1 H1 e g1 k1 => ho F1 H1 σ (S.go g1) _ fun s2 v2 F2 H2 e2 g2 k2 => hi F2 H2 σ ((S.go g1).go g2) _ fun s3 v3 F3 H3 e3 g3 k3 => by
    subst e2 e3
    obtain ⟨d, rfl, kk⟩ := kk s e
    obtain rfl := (k2 : v2 = V.ref l)
    obtain rfl := dp_int k3
    have gA := (g1.trans g2).trans g3
    have S3 := S.go gA
    obtain ⟨_, _, us, h1, h2⟩ := S3.cells _ (List.mem_of_getElem? hm)
    exact ⟨l, us, j, n, rfl, rfl, h1, by rw [dps_len h2]; exact hj, kk _ _ (Pst.cell S3 (gg.trans gA) hf (Same.trans fl gA.fx) e0 hb hm (dps_set (dp_mono (g2.trans g3).fx _ _ k1) n h2))⟩
theorem eqv_nil : ∀ (ds : List PD), PyData.eqv (.list ds) (.list []) = ds.isEmpty
  | [] => rfl
  | _ :: _ => rfl
end
section
variable {P : Program} {w : World} {K : PySem.W.Frag} {mg : Str → Option Value} {base : Heap}
abbrev N__law_state : List Str := ["_law_bag_here", "_law_house_here", "_law_many", "_law_rooms", "_law_left", "_law_way", "_law_state_here", "_law_thing", "_law_open_floors", "_law_floor", "_law_free"]
abbrev P__law_state : List Str := ["_law_bag_here", "_law_house_here"]
theorem sc__law_state : FnScope N__law_state P__law_state (defScope (Hd.top 58)) := ⟨rfl, rfl, rfl, by decide +kernel, rfl, by decide +kernel, by decide +kernel⟩
abbrev Ok__law_state (P : Program) (w : World) (K : PySem.W.Frag) (mg : Str → Option Value) (base : Heap) : Prop := Hd.OkF P w K mg base 3 "_law_state" P__law_state (PrB K (α := Nat × Nat × (Nat → Nat)) (fun a => [dHouse a.1 a.2.1 a.2.2]) (fun a => a.1 ≤ 1000 ∧ a.2.1 ≤ 100) (fun a d => ∃ st, d = dSt a.1 st ∧ FK.StOk a.1 a.2.1 a.2.2 st))
theorem ok__law_state (Y : Hd.Ok K mg) (D__law_mixed : Ok__law_mixed P w K mg base) (D__law_one : Ok__law_one P w K mg base) (D__law_take : Ok__law_take P w K mg base) : Ok__law_state P w K mg base := by
  refine mkPrB (i := 44) (j := 58) (k := 2) Y rfl rfl sc__law_state (fun _ _ _ _ _ _ us hl => match us, hl with | [_, _], _ => rfl) 9 rfl (fun _ => rfl) fun cdv A' outer s H E hr => ⟨_, (pss_cons (ps_asg (pv 1) (kg_tup (K := K) (n := 2) rfl rfl (pgs_cons (pg_name (i := 2) sc__law_state.nd rfl (Or.inl rfl)) (pgs_cons (pg_name (i := 3) sc__law_state.nd rfl (Or.inl rfl)) pgs_nil)))) (pss_cons (ps_par3 (i := 4) (j := 5) (l := 6) rfl sc__law_state.nd rfl rfl rfl (by decide) (by decide) (by decide) rfl rfl rfl (pa_cons (pe_callTy (kc_list (K := K) rfl) (by rfl) (Y.free 72) bt_list (pa_cons (pv 3) pa_nil)) (pa_cons (Hd.pe_f D__law_take (hr.mono (by decide)) (by rfl) (pa_cons (pv 0) (pa_cons pe_int pa_nil))) (pa_cons (pe_op (ko_mul (K := K) rfl) (pe_lst (pa_cons (pe_callB (kc_len (K := K) rfl) (by rfl) (Y.free 71) bt_len (pa_cons (pv 3) pa_nil)) pa_nil)) (pv 2)) pa_nil))) (by rfl)) (pss_cons (ps_for PassesOwn.never rfl (kp_seq (K := K) rfl (Hd.pe_f D__law_mixed (hr.mono (by decide)) (by rfl) (pa_cons (pv 0) (pa_cons (pe_listRg rfl (by rfl) (Y.free 72) (prg_1 (by rfl) (Y.free 75) (pv 2))) pa_nil)))) (pg_name (i := 7) sc__law_state.nd rfl (Or.inl rfl)) (pss_cons (ps_setLc (i := 8) (own := [("_law_floor", 9), ("_law_free", 10)]) rfl sc__law_state.nd rfl rfl (sw_true rfl rfl rfl (by decide +kernel)) (kp_enum (K := K) rfl (by rfl) (Y.free 68) (pa_cons (pv 4) pa_nil)) (blkOk_by (by first | (change blkC N__law_state (defScope (Hd.top 58)) _ _ = true; decide +kernel) | rfl)) (fun _ _ _ _ _ => (kg_tup (K := K) (n := 2) rfl rfl (pgs_cons (pg_name (i := 9) sc__law_state.nd rfl (Or.inl rfl)) (pgs_cons (pg_name (i := 10) sc__law_state.nd rfl (Or.inl rfl)) pgs_nil)))) (fun _ _ _ _ _ => (pts_one (pt_cmpR op_gt (pv 10) pe_int (nomark _)))) (fun _ _ _ _ _ => (pv 9))) (pss_cons (ps_if (PW.pt (pw_and (pt_cmpR (ko_eq (K := K) rfl hr) (pv 5) pe_int (nomark _)) (pw_and1 (pt_cmpR (ko_ne (K := K) rfl hr) (pv 8) (pe_lst pa_nil) (nomark _))))) (pss_one (ps_asg (pe_ix (ki_seq (K := K) rfl) (pv 8) pe_int (fun _ _ => rfl)) (pg_sub (pv 6) (pv 7) set_list))) (pss_one (ps_if (PW.pt (pw_and (pt_cmpR op_gt (pv 5) pe_int (nomark _)) (pw_and1 (pt_cmpR (ko_ne (K := K) rfl hr) (pv 8) (pe_lst pa_nil) (nomark _))))) (pss_one (ps_asg (Hd.pe_f D__law_one (hr.mono (by decide)) (by rfl) (pa_cons (pv 0) (pa_cons (pe_op (ko_add (K := K) rfl) (pv 8) (pe_op (ko_mul (K := K) rfl) (pe_lst (pa_cons (pe_callB (kc_len (K := K) rfl) (by rfl) (Y.free 71) bt_len (pa_cons (pv 3) pa_nil)) pa_nil)) (pe_op op_sub (pv 5) pe_int))) pa_nil))) (pg_sub (pv 6) (pv 7) set_list))) pss_nil))) (pss_one (ps_if (pt_cmpR op_lt (pe_ix (ki_seq (K := K) rfl) (pv 6) (pv 7) (fun _ _ => rfl)) (pe_callB (kc_len (K := K) rfl) (by rfl) (Y.free 71) bt_len (pa_cons (pv 3) pa_nil)) (nomark _)) (pss_one (ps_augS (pv 4) (pe_ix (ki_seq (K := K) rfl) (pv 6) (pv 7) (fun _ _ => rfl)) gt_list pe_int ip_sub set_list)) pss_nil))))) (pss_one (ps_ret (pe_callTy (kc_tup (K := K) rfl) (by rfl) (Y.free 80) bt_tuple (pa_cons (pv 6) pa_nil))))))), fun ⟨n, m, r⟩ F0 H0 b Q hp hQ => ?_⟩
  change Tr ⟨K, some b, F0, H0, F0⟩ [.ml b, .dat (dHouse n m r), .un, .un, .un, .un, .un, .un, .un, .un, .un] [] _ _
  obtain ⟨h1, h2⟩ : n ≤ 1000 ∧ m ≤ 100 := hp
  refine t_seq (t_asgD (ev_d rfl) (tg_tup rfl (tgs_name (tgs_name (tgs_nil fun σ H h => h.go ?_)))))
  refine t_seq (t_par3 (ees_cons (ee_l (el_cb (ea_cons (ev_d rfl) ea_nil) rc_lstT)) (ees_cons (ee_r (P := Num fun v => v < 4) (en_take (b := b) (many := 4) rfl (ev_m rfl) ev_int (by omega) (fun v hv => hv))) (ees_cons (ee_l (ds := List.replicate (n : Int).toNat (dN m)) (el_mul (k := (n : Int)) (d := dN m) (em_l (el_one (ea_cons (ev_cb (ea_cons (ev_d rfl) ea_nil) rc_lenTT) ea_nil))) (ev_d rfl) ⟨by omega, by omega⟩)) ees_nil))) fun pl s hs ps => ⟨_, _, _, rfl, fun σ H h => h.go ?_⟩)
  obtain ⟨way, hway, rfl⟩ := hs
  refine t_seq (t_forP (srcp_l (evlp_b (b := b) (tab n dN) rfl (ea_cons (ev_m rfl) (ea_cons (EvL.data (el_listRg (ev_d rfl) (by omega))) ea_nil)) rfl (by rw [tab_len]; exact h1))) (fun ds c G ms => ∃ st b7 b8, G = [.ml b, .dat (dHouse n m r), .dat (dN n), .dat (.tuple (tab m fun j => dN (r j))), .ml pl, .dat (dN way), .ml ps, b7, b8, .un, .un] ∧ ms = [(pl, tab m fun j => dN (r j - FK.cOn n st j)), (ps, tab n fun y => dN (st y))] ∧ FK.StOk n m r st ∧ ∀ c', c ≤ c' → ∀ x, ds[c']? = some (dN x) → st x = m) ?_ ?_ ?_)
  · refine fun ds _ => ⟨fun _ => m, _, _, rfl, ?_, ⟨fun _ _ => Nat.le_refl _, fun j hj => ?_⟩, fun _ _ _ _ => rfl⟩
    · show [(pl, tab m fun j => dN (r j)), (ps, List.replicate (n : Int).toNat (dN m))] = _
      rw [Int.toNat_natCast, rep_tab, tab_congr (n := m) (f := fun j => dN (r j)) (g := fun j => dN (r j - FK.cOn n (fun _ => m) j)) fun j hj => by rw [cOn_none (by omega)]; rfl]
    · rw [cOn_none (by omega)]
      omega
  · rintro ds hds c d hd Fl G ms ⟨st, b7, b8, rfl, rfl, ok, fresh⟩
    obtain ⟨pp, rfl, hpp⟩ := perm_nat (l := List.range n) hds
    rw [List.getElem?_map] at hd
    obtain ⟨x, hx, rfl⟩ := Option.map_eq_some_iff.mp hd
    have hxn : x < n := List.mem_range.mp (hpp.mem_iff.mp (List.mem_of_getElem? hx))
    have hst : st x = m := fresh c (Nat.le_refl _) x (by rw [List.getElem?_map, hx]; rfl)
    refine tg_name fun σ H h => h.go ?_
    refine t_seq (t_set (ee_d (EvL.data (el_lc (fun j : Nat => decide (((r j - FK.cOn n st j : Nat) : Int) > 0)) dN (src_enumMT (ea_cons (ev_m rfl) ea_nil) mem0) (by simp) (by simp; omega) (fun a ha => tgc_2 (by simp) (by simp)) (fun a ha => (et_test (ev_op (ev_d rfl) ev_int rv_b))) (fun a ha hp => (ev_d rfl))))) fun σ H h => ?_)
    dsimp only
    refine h.go ?_
    generalize hop : (List.range m).filter (fun j : Nat => decide (((r j - FK.cOn n st j : Nat) : Int) > 0)) = op
    have opin : ∀ j, j ∈ op → j < m ∧ 0 < r j - FK.cOn n st j := fun j hj => by
      rw [← hop, List.mem_filter, List.mem_range, decide_eq_true_eq] at hj
      omega
    refine t_mid (α := Nat) (Pa := fun v => v ≤ m ∧ (v < m → 0 < r v - FK.cOn n st v)) (G := fun v => [.ml b, .dat (dHouse n m r), .dat (dN n), .dat (.tuple (tab m fun j => dN (r j))), .ml pl, .dat (dN way), .ml ps, .dat (dN x), .dat (.list (op.map dN)), .un, .un]) (ms := fun v => [(pl, tab m fun j => dN (r j - FK.cOn n st j)), (ps, tab n fun y => dN (FK.upd st x v y))]) (fun v hv => ?_) fun kk => ?_
    · obtain ⟨v1, v2⟩ := hv
      have ok2 : FK.StOk n m r (FK.upd st x v) := by
        refine ⟨fun y hy => ?_, fun j hj => ?_⟩
        · by_cases e : y = x
          · rw [e, FK.upd_self]; exact v1
          · rw [FK.upd_other e]; exact ok.le y hy
        · rw [cOn_put (by omega)]
          have := ok.room j hj
          by_cases e : x < n ∧ v = j
          · rw [if_pos e]
            have := v2 (by omega)
            rw [e.2] at this
            omega
          · rw [if_neg e]; omega
      have fr2 : ∀ c', c + 1 ≤ c' → ∀ x', (pp.map dN)[c']? = some (dN x') → FK.upd st x v x' = m := fun c' hc' x' hx' => by
        have e : x' ≠ x := by
          rintro rfl
          rw [List.getElem?_map] at hx'
          obtain ⟨x2, hx2, e2⟩ := Option.map_eq_some_iff.mp hx'
          have e3 : x2 = x' := by
            injection e2 with e4
            omega
          subst e3
          have nd : pp.Nodup := hpp.nodup_iff.mpr List.nodup_range
          have := (List.getElem?_inj (List.getElem?_eq_some_iff.mp hx).1 nd).mp (hx.trans hx2.symm)
          omega
        rw [FK.upd_other e]
        exact fresh c' (by omega) x' hx'
      have rd : atI (tab n fun y => dN (FK.upd st x v y)) (x : Int) = some (dN v) := (at_tab x hxn rfl).trans (by rw [FK.upd_self])
      by_cases e : v < m
      · refine t_ifD (b := true) (EvT.is (et_test (ev_op (ev_op (ev_m rfl) (ev_d rfl) (rv_ixM mem1 rd)) (ev_cb (ea_cons (ev_d rfl) ea_nil) rc_lenTT) rv_b)) ?_) (fun _ => ?_) (fun e => nomatch e)
        · show decide ((v : Int) < (m : Int)) = true
          exact decide_eq_true (by omega)
        refine t_augS (k := 0) (n := v) (a := ((r v - FK.cOn n st v : Nat) : Int)) (b := 1) (ev_m rfl) (ev_op (ev_m rfl) (ev_d rfl) (rv_ixM mem1 rd)) rfl (ixN_nat (by simp; omega)) (tab_get e) ev_int fun σ H h => ?_
        refine h.inv ⟨FK.upd st x v, _, _, rfl, ?_, ok2, fr2⟩
        show [(pl, (tab m fun j => dN (r j - FK.cOn n st j)).set v (.int (((r v - FK.cOn n st v : Nat) : Int) - 1))), _] = _
        have e5 : ((r v - FK.cOn n st v : Nat) : Int) - 1 = ((r v - (FK.cOn n st v + 1) : Nat) : Int) := by
          have := v2 e
          omega
        rw [e5, tab_set]
        congr 2
        exact tab_congr fun j hj => by
          by_cases ej : j = v
          · rw [if_pos ej, ej, cOn_put (by omega), if_pos ⟨hxn, rfl⟩]
          · rw [if_neg ej, cOn_put (by omega), if_neg (by omega)]; rfl
      · refine t_ifD (b := false) (EvT.is (et_test (ev_op (ev_op (ev_m rfl) (ev_d rfl) (rv_ixM mem1 rd)) (ev_cb (ea_cons (ev_d rfl) ea_nil) rc_lenTT) rv_b)) ?_) (fun e => nomatch e) fun _ => t_next fun σ H h => h.inv ⟨FK.upd st x v, _, _, rfl, ?_, ok2, fr2⟩
        · show decide ((v : Int) < (m : Int)) = false
          exact decide_eq_false (by omega)
        · rw [tab_congr (n := m) (f := fun j => dN (r j - FK.cOn n (FK.upd st x v) j)) (g := fun j => dN (r j - FK.cOn n st j)) fun j hj => by rw [cOn_put (by omega), if_neg (by omega)]; rfl]
    · have sho : SeqAt.shaped (.list (op.map dN)) = true := (sh_lst (k := 0) (sh_map fun a _ => sh_int _)).ok (by decide)
      have shn : SeqAt.shaped (.list []) = true := (sh_nil (k := 0)).ok (by decide)
      have same : ∀ σ H, Pst ⟨K, some b, F0, H0, Fl⟩ [.ml b, .dat (dHouse n m r), .dat (dN n), .dat (.tuple (tab m fun j => dN (r j))), .ml pl, .dat (dN way), .ml ps, .dat (dN x), .dat (.list (op.map dN)), .un, .un] [(pl, tab m fun j => dN (r j - FK.cOn n st j)), (ps, tab n fun y => dN (st y))] σ H → Pst ⟨K, some b, F0, H0, Fl⟩ [.ml b, .dat (dHouse n m r), .dat (dN n), .dat (.tuple (tab m fun j => dN (r j))), .ml pl, .dat (dN way), .ml ps, .dat (dN x), .dat (.list (op.map dN)), .un, .un] [(pl, tab m fun j => dN (r j - FK.cOn n st j)), (ps, tab n fun y => dN (FK.upd st x m y))] σ H := fun σ H h => by
        rw [tab_congr (n := n) (f := fun y => dN (FK.upd st x m y)) (g := fun y => dN (st y)) fun y _ => by
          by_cases e : y = x
          · rw [e, FK.upd_self, hst]
          · rw [FK.upd_other e]]
        exact h
      refine t_ifD (b := decide ((way : Int) = 1) && !op.isEmpty) (EvT.is (et_and (et_test (ev_op (ev_d rfl) ev_int rv_eqUI)) fun hb => (et_test (ev_op (ev_d rfl) (EvL.data el_nil) (rv_neUD sho shn)))) (by rw [eqv_nil, List.isEmpty_map])) (fun hb => ?_) fun _ => ?_
      · rw [Bool.and_eq_true] at hb
        cases op with
        | nil => exact absurd hb.2 (by decide)
        | cons z op' =>
          refine t_setitem (d := dN z) (k := 1) (ev_op (ev_d rfl) ev_int (rv_ixL (at_of (k := 0) rfl rfl))) (ev_m rfl) (ev_d rfl) rfl (ixN_nat (by simp; omega)) fun σ H h => kk z ⟨by have := opin z (by simp); omega, fun _ => (opin z (by simp)).2⟩ σ H ?_
          rw [upd_tab] at h
          exact h
      · refine t_ifD (b := decide ((way : Int) > 1) && !op.isEmpty) (EvT.is (et_and (et_test (ev_op (ev_d rfl) ev_int rv_b)) fun hb => (et_test (ev_op (ev_d rfl) (EvL.data el_nil) (rv_neUD sho shn)))) (by rw [eqv_nil, List.isEmpty_map])) (fun hb => ?_) fun _ => t_next fun σ H h => kk m ⟨Nat.le_refl _, fun e => absurd e (Nat.lt_irrefl _)⟩ σ H (same σ H h)
        rw [Bool.and_eq_true] at hb
        have hop0 : op.length ≤ m := by
          rw [← hop]
          exact Nat.le_trans (List.length_filter_le _ _) (by rw [List.length_range]; exact Nat.le_refl _)
        have hw2 := of_decide_eq_true hb.1
        refine t_setitemP (k := 1) (Ps := fun s => ∃ d, d ∈ op.map dN ++ List.replicate ((way : Int) - 2).toNat (dN m) ∧ s = .dat d) (evp_b (b := b) (op.map dN ++ List.replicate ((way : Int) - 2).toNat (dN m)) rfl (ea_cons (ev_m rfl) (ea_cons (EvL.data (el_cat (ds := op.map dN) (es := List.replicate ((way : Int) - 2).toNat (dN m)) (em_d (ev_d rfl)) (em_l (el_mul (d := dN m) (k := (way : Int) - 2) (em_l (el_one (ea_cons (ev_cb (ea_cons (ev_d rfl) ea_nil) rc_lenTT) ea_nil))) (ev_op (ev_d rfl) ev_int rv_i) (by omega))) (by rw [List.length_map, List.length_replicate]; omega))) ea_nil)) rfl ?_) (ev_m rfl) (ev_d rfl) rfl (ixN_nat (by simp; omega)) fun s hs => ?_
        · show 1 ≤ (op.map dN ++ List.replicate ((way : Int) - 2).toNat (dN m)).length ∧ (op.map dN ++ List.replicate ((way : Int) - 2).toNat (dN m)).length ≤ 1000
          rw [List.length_append, List.length_map, List.length_replicate]
          cases op with
          | nil => exact absurd hb.2 (by decide)
          | cons z op' => simp only [List.length_cons] at hop0 ⊢; omega
        · obtain ⟨d, hd, rfl⟩ := hs
          rw [List.mem_append, List.mem_map, List.mem_replicate] at hd
          have : ∃ v, d = dN v ∧ v ≤ m ∧ (v < m → 0 < r v - FK.cOn n st v) := by
            rcases hd with ⟨v, hv, rfl⟩ | ⟨_, rfl⟩
            · have := opin v hv
              exact ⟨v, rfl, by omega, fun _ => this.2⟩
            · exact ⟨m, rfl, Nat.le_refl _, fun e => absurd e (Nat.lt_irrefl _)⟩
          obtain ⟨v, rfl, hv⟩ := this
          refine ⟨_, rfl, fun σ H h => kk v hv σ H ?_⟩
          rw [upd_tab] at h
          exact h
  · rintro ds hds G ms ⟨st, b7, b8, rfl, rfl, ok, fresh⟩ σ H h
    refine Pst.go (u := tRet _) (D := { nx := fun _ H' => Q .non H', rt := Q }) h (t_retD (d := dSt n st) (ev_cb (ea_cons (ev_m rfl) ea_nil) (rc_tupM mem1)) fun v F' H' g o => hQ v F' H' _ g ⟨st, rfl, ok⟩ o)
end
end FW
end
section
set_option linter.all false
set_option maxRecDepth 100000
set_option maxHeartbeats 4000000
namespace FW
open PySem PySem.Spec PyProof.Rows L2
/-- every floor's number as often as it has rooms -/
def plc (r : Nat → Nat) (m : Nat) : List Nat := (tab m fun j => List.replicate (r j) j).flatten
theorem plc_succ {r : Nat → Nat} {m : Nat} : plc r (m + 1) = plc r m ++ List.replicate (r m) m := by
  unfold plc
  show (List.map _ _).flatten = _
  rw [List.range_succ, List.map_append, List.flatten_append]
  simp
theorem plc_len {r : Nat → Nat} : ∀ m, (plc r m).length = SM r m
  | 0 => rfl
  | m + 1 => by rw [plc_succ, List.length_append, plc_len m, List.length_replicate]; rfl
theorem plc_count {r : Nat → Nat} {j : Nat} : ∀ m, (plc r m).countP (fun y => decide (y = j)) = if j < m then r j else 0
  | 0 => rfl
  | m + 1 => by
    rw [plc_succ, List.countP_append, plc_count m, List.countP_replicate]
    by_cases e : m = j
    · subst e
      simp
    · simp only [decide_eq_true_eq]
      repeat' split
      all_goals omega
theorem full_of {n m : Nat} {r : Nat → Nat} {l : List Nat} (hs : SM r m ≤ n) (hp : l.Perm (plc r m ++ List.replicate (n - SM r m) m)) : ∃ st, l.map dN = (tab n fun y => dN (st y)) ∧ FK.StOk n m r st ∧ ∀ j, j < m → FK.cw n st j = FK.RW r j := by
  have hl : l.length = n := by
    rw [hp.length_eq, List.length_append, plc_len, List.length_replicate]
    omega
  have e1 : l = tab n fun y => l.getD y 0 := tab_ext hl fun i hi => by
    rw [List.getD_eq_getElem?_getD, List.getElem?_eq_getElem (by omega)]
    rfl
  have hc : ∀ j, FK.cOn n (fun y => l.getD y 0) j = (if j < m then r j else 0) + if m = j then n - SM r m else 0 := fun j => by
    have : FK.cOn n (fun y => l.getD y 0) j = l.countP (fun y => decide (y = j)) := by
      unfold FK.cOn
      conv => rhs; rw [e1]
      show _ = (List.map _ _).countP _
      rw [List.countP_map]
      rfl
    rw [this, hp.countP_eq, List.countP_append, plc_count, List.countP_replicate]
    congr 1
    by_cases e : m = j
    · simp [e]
    · simp [e]
  refine ⟨fun y => l.getD y 0, ?_, ⟨fun y hy => ?_, fun j hj => ?_⟩, ?_⟩
  · conv => lhs; rw [e1]
    rw [tab_map]
  · have : l.getD y 0 ∈ l := by
      rw [List.getD_eq_getElem?_getD, List.getElem?_eq_getElem (by omega)]
      exact List.getElem_mem _
    have := hp.mem_iff.mp this
    rw [List.mem_append, List.mem_replicate] at this
    rcases this with h | h
    · unfold plc at h
      rw [List.mem_flatten] at h
      obtain ⟨q, hq, hy2⟩ := h
      obtain ⟨j, hj, rfl⟩ := List.mem_map.mp hq
      have := List.mem_range.mp hj
      have := (List.mem_replicate.mp hy2).2
      omega
    · omega
  · rw [hc j, if_pos hj, if_neg (by omega)]
    omega
  · intro j
    induction j with
    | zero =>
      intro hj
      rw [FK.cw_zero, hc 0, if_pos hj, if_neg (by omega)]
      rfl
    | succ j ih =>
      intro hj
      have := ih (by omega)
      rw [FK.cw_succ, hc (j + 1), if_pos hj, if_neg (by omega)]
      show _ = FK.RW r j + (r (j + 1) : Int)
      omega
section
variable {P : Program} {w : World} {K : PySem.W.Frag} {mg : Str → Option Value} {base : Heap}
abbrev N__law_full_state : List Str := ["_law_bag_here", "_law_house_here", "_law_places", "_law_floor", "_law_rooms"]
abbrev P__law_full_state : List Str := ["_law_bag_here", "_law_house_here"]
theorem sc__law_full_state : FnScope N__law_full_state P__law_full_state (defScope (Hd.top 59)) := ⟨rfl, rfl, rfl, by decide +kernel, rfl, by decide +kernel, by decide +kernel⟩
abbrev Ok__law_full_state (P : Program) (w : World) (K : PySem.W.Frag) (mg : Str → Option Value) (base : Heap) : Prop := Hd.OkF P w K mg base 3 "_law_full_state" P__law_full_state (PrB K (α := Nat × Nat × (Nat → Nat)) (fun a => [dHouse a.1 a.2.1 a.2.2]) (fun a => a.1 ≤ 1000 ∧ a.2.1 ≤ 100 ∧ SM a.2.2 a.2.1 ≤ a.1) (fun a d => ∃ st, d = dSt a.1 st ∧ FK.StOk a.1 a.2.1 a.2.2 st ∧ ∀ j, j < a.2.1 → FK.cw a.1 st j = FK.RW a.2.2 j))
theorem ok__law_full_state (Y : Hd.Ok K mg) (D__law_flat : Ok__law_flat P w K mg base) (D__law_mixed : Ok__law_mixed P w K mg base) : Ok__law_full_state P w K mg base := by
  refine mkPrB (i := 45) (j := 59) (k := 2) Y rfl rfl sc__law_full_state (fun _ _ _ _ _ _ us hl => match us, hl with | [_, _], _ => rfl) 3 rfl (fun _ => rfl) fun cdv A' outer s H E hr => ⟨_, (pss_cons (ps_set (i := 2) sc__law_full_state.nd rfl (Or.inl rfl) (Hd.pe_f D__law_flat (hr.mono (by decide)) (by rfl) (pa_cons (pe_lc (own := [("_law_floor", 3), ("_law_rooms", 4)]) rfl sc__law_full_state.nd (kp_enum (K := K) rfl (by rfl) (Y.free 68) (pa_cons (pe_ix (ki_seq (K := K) rfl) (pv 1) pe_int (fun _ _ => rfl)) pa_nil)) (blkOk_by (by first | (change blkC N__law_full_state (defScope (Hd.top 59)) _ _ = true; decide +kernel) | rfl)) (fun _ _ _ _ _ => (kg_tup (K := K) (n := 2) rfl rfl (pgs_cons (pg_name (i := 3) sc__law_full_state.nd rfl (Or.inl rfl)) (pgs_cons (pg_name (i := 4) sc__law_full_state.nd rfl (Or.inl rfl)) pgs_nil)))) (fun _ _ _ _ _ => pts_nil) (fun _ _ _ _ _ => (pe_op (ko_mul (K := K) rfl) (pe_lst (pa_cons (pv 3) pa_nil)) (pv 4)))) pa_nil))) (pss_one (ps_ret (pe_callTy (kc_tup (K := K) rfl) (by rfl) (Y.free 80) bt_tuple (pa_cons (Hd.pe_f D__law_mixed (hr.mono (by decide)) (by rfl) (pa_cons (pv 0) (pa_cons (pe_op (ko_add (K := K) rfl) (pv 2) (pe_op (ko_mul (K := K) rfl) (pe_lst (pa_cons (pe_callB (kc_len (K := K) rfl) (by rfl) (Y.free 71) bt_len (pa_cons (pe_ix (ki_seq (K := K) rfl) (pv 1) pe_int (fun _ _ => rfl)) pa_nil)) pa_nil)) (pe_op op_sub (pe_ix (ki_seq (K := K) rfl) (pv 1) pe_int (fun _ _ => rfl)) (pe_callB (kc_len (K := K) rfl) (by rfl) (Y.free 71) bt_len (pa_cons (pv 2) pa_nil))))) pa_nil))) pa_nil))))), fun ⟨n, m, r⟩ F0 H0 b Q hp hQ => ?_⟩
  change Tr ⟨K, some b, F0, H0, F0⟩ [.ml b, .dat (dHouse n m r), .un, .un, .un] [] _ _
  obtain ⟨h1, h2, h3⟩ : n ≤ 1000 ∧ m ≤ 100 ∧ SM r m ≤ n := hp
  have hr : ∀ j, j < m → r j ≤ n := fun j hj => by
    have := plc_count (r := r) (j := j) m
    rw [if_pos hj] at this
    have q := List.countP_le_length (p := fun y => decide (y = j)) (l := plc r m)
    rw [plc_len] at q
    omega
  have el : ((tab m fun j => PyData.list (List.replicate ((r j : Nat) : Int).toNat (dN j))) : List PD) = (tab m fun j => List.replicate (r j) j).map fun l => PyData.list (dNs l) := by
    rw [tab_map]
    exact tab_congr fun j hj => by rw [Int.toNat_natCast]; show _ = PyData.list (List.map dN _); rw [List.map_replicate]
  refine t_seq (t_set (ee_d (s := .dat (.list ((plc r m).map dN))) (EvL.data (el_call (tab m fun j => List.replicate (r j) j) (EvA.is (ea_cons (EvL.data (el_map (fun j : Nat => PyData.list (List.replicate ((r j : Nat) : Int).toNat (dN j))) (src_enumT (ea_cons (ev_op (ev_d rfl) ev_int (rv_ixT (at_of (k := 1) rfl rfl))) ea_nil) (.t _)) hw0 (by simp; omega) (fun a ha => tgc_2 (by simp) (by simp)) (fun a ha => (EvL.data (el_mul (d := dN a) (k := (r a : Int)) (em_l (el_one (ea_cons (ev_d rfl) ea_nil))) (ev_d rfl) ⟨by omega, by have := hr a (List.mem_range.mp ha); omega⟩))))) ea_nil) (congrArg (fun z => [Sl.dat (.list z)]) el)) ?_))) fun σ H h => h.go ?_)
  · refine ⟨by show (tab m _).length ≤ 1000; rw [tab_len]; omega, ?_⟩
    show (plc r m).length ≤ 1000
    rw [plc_len]
    omega
  have pl2 : ((plc r m).map dN).length = SM r m := by rw [List.length_map, plc_len]
  have pl := plc_len (r := r) m
  refine t_ret (P := fun s => ∃ st, s = .dat (dSt n st) ∧ FK.StOk n m r st ∧ ∀ j, j < m → FK.cw n st j = FK.RW r j) (evp_cb (eap_c (EvLP.data (P' := fun s => ∃ ds, ds.Perm ((plc r m).map dN ++ List.replicate ((n : Int) - (SM r m : Nat)).toNat (dN m)) ∧ s = .dat (.list ds)) (evlp_b (b := b) ((plc r m).map dN ++ List.replicate ((n : Int) - (SM r m : Nat)).toNat (dN m)) rfl (ea_cons (ev_m rfl) (ea_cons (EvL.data (el_cat (ds := (plc r m).map dN) (es := List.replicate ((n : Int) - (SM r m : Nat)).toNat (dN m)) (em_d (ev_d rfl)) (em_l (el_mul (d := dN m) (k := (n : Int) - (SM r m : Nat)) (em_l (el_one (ea_cons (ev_cb (ea_cons (ev_op (ev_d rfl) ev_int (rv_ixT (at_of (k := 1) rfl rfl))) ea_nil) rc_lenTT) ea_nil))) (ev_op (ev_op (ev_d rfl) ev_int (rv_ixT (at_of (k := 0) rfl rfl))) (ev_cb (ea_cons (ev_d rfl) ea_nil) (rc_lenNL pl2)) rv_i) ⟨by omega, by omega⟩)) (by rw [List.length_map, List.length_replicate]; omega))) ea_nil)) rfl (by show (_ ++ _ : List PD).length ≤ 1000; rw [List.length_append, List.length_map, List.length_replicate]; omega)) fun ds h => ⟨ds, h, rfl⟩) ea_nil) fun ss hs => ?_) fun s v F' H' e g o => ?_
  · obtain ⟨s1, ss1, ⟨ds, hp, rfl⟩, rfl, rfl⟩ := hs
    have e3 : ((n : Int) - (SM r m : Nat)).toNat = n - SM r m := by omega
    rw [e3] at hp
    have e4 : (plc r m).map dN ++ List.replicate (n - SM r m) (dN m) = (plc r m ++ List.replicate (n - SM r m) m).map dN := by rw [List.map_append, List.map_replicate]
    rw [e4] at hp
    obtain ⟨ps, rfl, hps⟩ := perm_nat hp
    obtain ⟨st, e5, e6, e7⟩ := full_of h3 hps
    exact rcp_of rc_tupL ⟨st, by rw [e5], e6, e7⟩
  · obtain ⟨st, rfl, e1, e2⟩ := e
    exact hQ v F' H' _ g ⟨st, rfl, e1, e2⟩ o
end
end FW
end
section
set_option linter.all false
set_option maxRecDepth 100000
set_option maxHeartbeats 4000000
namespace FW
open PySem PySem.Spec PyProof.Rows L2
theorem SM_sum {r : Nat → Nat} : ∀ m, (tab m fun j => (r j : Int)).sum = SM r m
  | 0 => rfl
  | m + 1 => by
    show (List.map _ _).sum = _
    rw [List.range_succ, List.map_append, List.sum_append]
    have := SM_sum (r := r) m
    show (tab m fun j => (r j : Int)).sum + _ = _
    rw [this]
    show _ = ((SM r m + r m : Nat) : Int)
    simp
section
variable {P : Program} {w : World} {K : PySem.W.Frag} {mg : Str → Option Value} {base : Heap}
abbrev N__law_start : List Str := ["_law_bag_here", "_law_house_here", "_law_menu"]
abbrev P__law_start : List Str := ["_law_bag_here", "_law_house_here"]
theorem sc__law_start : FnScope N__law_start P__law_start (defScope (Hd.top 60)) := ⟨rfl, rfl, rfl, by decide +kernel, rfl, by decide +kernel, by decide +kernel⟩
abbrev Ok__law_start (P : Program) (w : World) (K : PySem.W.Frag) (mg : Str → Option Value) (base : Heap) : Prop := Hd.OkF P w K mg base 4 "_law_start" P__law_start (PrB K (α := Nat × Nat × (Nat → Nat)) (fun a => [dHouse a.1 a.2.1 a.2.2]) (fun a => a.1 ≤ 1000 ∧ 1 ≤ a.2.1 ∧ a.2.1 ≤ 100) (fun a d => ∃ s, d = dStart a.1 s ∧ FK.StartOk a.1 a.2.1 a.2.2 s))
theorem ok__law_start (Y : Hd.Ok K mg) (D__law_one : Ok__law_one P w K mg base) (D__law_state : Ok__law_state P w K mg base) : Ok__law_start P w K mg base := by
  refine mkPrB (i := 46) (j := 60) (k := 3) Y rfl rfl sc__law_start (fun _ _ _ _ _ _ us hl => match us, hl with | [_, _], _ => rfl) 1 rfl (fun _ => rfl) fun cdv A' outer s H E hr => ⟨_, (pss_cons (ps_set (i := 2) sc__law_start.nd rfl (Or.inl rfl) (pe_lst (pa_cons (pe_op (ko_mul (K := K) rfl) (pe_tupN (pa_cons (pe_callB (kc_len (K := K) rfl) (by rfl) (Y.free 71) bt_len (pa_cons (pe_ix (ki_seq (K := K) rfl) (pv 1) pe_int (fun _ _ => rfl)) pa_nil)) pa_nil)) (pe_ix (ki_seq (K := K) rfl) (pv 1) pe_int (fun _ _ => rfl))) (pa_cons (Hd.pe_f D__law_state (hr.mono (by decide)) (by rfl) (pa_cons (pv 0) (pa_cons (pv 1) pa_nil))) (pa_cons (Hd.pe_f D__law_state (hr.mono (by decide)) (by rfl) (pa_cons (pv 0) (pa_cons (pv 1) pa_nil))) pa_nil))))) (pss_one (ps_ret (Hd.pe_f D__law_one (hr.mono (by decide)) (by rfl) (pa_cons (pv 0) (pa_cons (pe_op (ko_add (K := K) rfl) (pv 2) (pe_op (ko_mul (K := K) rfl) (pe_lst (pa_cons pe_non pa_nil)) (pe_callTy call_int1 (by rfl) (Y.free 69) bt_int (pa_cons (pe_cmpR op_ge (pe_ix (ki_seq (K := K) rfl) (pv 1) pe_int (fun _ _ => rfl)) (pe_callB (kc_sum (K := K) rfl rfl) (by rfl) (Y.free 78) bt_sum (pa_cons (pe_ix (ki_seq (K := K) rfl) (pv 1) pe_int (fun _ _ => rfl)) pa_nil)) (nomark _)) pa_nil)))) pa_nil)))))), fun ⟨n, m, r⟩ F0 H0 b Q hp hQ => ?_⟩
  change Tr ⟨K, some b, F0, H0, F0⟩ [.ml b, .dat (dHouse n m r), .un] [] _ _
  obtain ⟨h1, h0, h2⟩ : n ≤ 1000 ∧ 1 ≤ m ∧ m ≤ 100 := hp
  have hz : FK.StOk n m r fun _ => m := ⟨fun _ _ => Nat.le_refl _, fun j hj => by rw [cOn_none (by omega)]; omega⟩
  have e0 : List.replicate ((n : Nat) : Int).toNat (dN m) = tab n fun _ => dN m := by rw [Int.toNat_natCast, rep_tab]
  refine t_seq (t_set (ee_r (P := fun s => ∃ ds, ds.length = 3 ∧ (∀ d ∈ ds, ∃ st, d = dSt n st ∧ FK.StOk n m r st) ∧ s = .dat (.list ds)) (EvLP.data (P := fun ds => ds.length = 3 ∧ ∀ d ∈ ds, ∃ st, d = dSt n st ∧ FK.StOk n m r st) (evlp_lst (eap_c (Ev.p (Ev.is (s' := .dat (dSt n fun _ => m)) (ev_mulT (d := dN m) (k := (n : Int)) (ev_tup1 (ea_cons (ev_cb (ea_cons (ev_op (ev_d rfl) ev_int (rv_ixT (at_of (k := 1) rfl rfl))) ea_nil) rc_lenTT) ea_nil)) (ev_op (ev_d rfl) ev_int (rv_ixT (at_of (k := 0) rfl rfl))) ⟨by omega, by omega⟩) (congrArg (fun z => Sl.dat (.tuple z)) e0))) (eap_c (evp_b (b := b) (n, m, r) rfl (ea_cons (ev_m rfl) (ea_cons (ev_d rfl) ea_nil)) rfl ⟨h1, h2⟩) (eap_c (evp_b (b := b) (n, m, r) rfl (ea_cons (ev_m rfl) (ea_cons (ev_d rfl) ea_nil)) rfl ⟨h1, h2⟩) ea_nil))) fun ss hs => ?_) fun ds h => ⟨ds, h.1, h.2, rfl⟩)) fun s hs => ?_)
  · obtain ⟨s1, ss1, rfl, ⟨s2, ss2, ⟨d2, ⟨st2, e2, k2⟩, rfl⟩, ⟨s3, ss3, ⟨d3, ⟨st3, e3, k3⟩, rfl⟩, rfl, rfl⟩, rfl⟩, rfl⟩ := hs
    refine ⟨[dSt n fun _ => m, d2, d3], rfl, by show 3 ≤ _; omega, rfl, fun d hd => ?_⟩
    simp only [List.mem_cons, List.not_mem_nil, or_false] at hd
    rcases hd with rfl | rfl | rfl
    · exact ⟨_, rfl, hz⟩
    · exact ⟨st2, e2, k2⟩
    · exact ⟨st3, e3, k3⟩
  obtain ⟨ds, hl, hd, rfl⟩ := hs
  refine fun σ H h => h.go ?_
  generalize hk : (if decide ((n : Int) ≥ (SM r m : Int)) = true then (1 : Int) else 0) = k
  have lk : k = 0 ∨ (k = 1 ∧ SM r m ≤ n) := by
    rw [← hk]
    split
    · rename_i h
      have := of_decide_eq_true h
      exact .inr ⟨rfl, by omega⟩
    · exact .inl rfl
  refine t_ret (P := fun s => ∃ d, d ∈ ds ++ List.replicate k.toNat PyData.none ∧ s = .dat d) (evp_b (b := b) (ds ++ List.replicate k.toNat PyData.none) rfl (ea_cons (ev_m rfl) (ea_cons (EvL.data (el_cat (ds := ds) (es := List.replicate k.toNat PyData.none) (em_d (ev_d rfl)) (em_l (el_mul (d := .none) (k := k) (em_l (el_one (ea_cons ev_non ea_nil))) (Ev.is (ev_cb (ea_cons (ev_op (ev_op (ev_d rfl) ev_int (rv_ixT (at_of (k := 0) rfl rfl))) (ev_cb (ea_cons (Ev.is (ev_op (ev_d rfl) ev_int (rv_ixT (at_of (k := 1) rfl rfl))) (by rw [← tab_map (f := fun j => (r j : Int))])) ea_nil) (rc_sumT (ns := tab m fun j => (r j : Int)))) rv_b) ea_nil) rc_intB) (by rw [SM_sum, hk])) (by omega))) (by rw [List.length_replicate]; omega))) ea_nil)) rfl (by show 1 ≤ (_ ++ _ : List PD).length ∧ (_ ++ _ : List PD).length ≤ 1000; rw [List.length_append, List.length_replicate]; omega)) fun s v F' H' e g o => ?_
  obtain ⟨d, hd2, rfl⟩ := e
  rw [List.mem_append, List.mem_replicate] at hd2
  rcases hd2 with h | ⟨h, rfl⟩
  · obtain ⟨st, rfl, e1⟩ := hd d h
    exact hQ v F' H' _ g ⟨some st, rfl, e1⟩ o
  · refine hQ v F' H' _ g ⟨none, rfl, ?_⟩ o
    show FK.RW r (m - 1) ≤ (n : Int)
    have := RW_SM r (m - 1)
    rw [this, show m - 1 + 1 = m by omega]
    omega
end
end FW
end
section
set_option linter.all false
set_option maxRecDepth 100000
set_option maxHeartbeats 4000000
namespace FW
open PySem PySem.Spec PyProof.Rows L2
/-- where more things stand than there are rooms, one stands that is not the asked one -/
theorem some_there {n k x : Nat} {now : Nat → Nat} {c : Nat} (h : c < FK.cOn n now k) (h0 : k = 0 → 1 ≤ c) : ∃ z, z ∈ (List.range n).filter (fun y : Nat => decide ((now y : Int) = (k : Int)) && (decide ((k : Int) > 0) || !decide ((y : Int) = (x : Int)))) := by
  false_or_by_contra
  rename_i q
  have no : ∀ y, y < n → now y = k → k = 0 ∧ y = x := fun y hy e => by
    false_or_by_contra
    rename_i q2
    refine q ⟨y, List.mem_filter.mpr ⟨List.mem_range.mpr hy, ?_⟩⟩
    rw [decide_eq_true (by omega : (now y : Int) = (k : Int)), Bool.true_and]
    by_cases e2 : k = 0
    · rw [decide_eq_false (by omega : ¬ (y : Int) = (x : Int))]; simp
    · rw [decide_eq_true (by omega : (k : Int) > 0)]; rfl
  by_cases e2 : k = 0
  · have : FK.cOn n now k ≤ 1 := by
      unfold FK.cOn
      have e3 : (List.range n).countP (fun y => decide (now y = k)) ≤ (List.range n).countP (fun y => y == x) := List.countP_mono_left fun y hy e => by
        have := no y (List.mem_range.mp hy) (of_decide_eq_true e)
        simp [this.2]
      have e4 : (List.range n).count x ≤ 1 := List.nodup_iff_count.mp List.nodup_range x
      exact Nat.le_trans e3 e4
    have := h0 e2
    omega
  · have : FK.cOn n now k = 0 := by
      unfold FK.cOn
      rw [List.countP_eq_zero]
      intro y hy e
      have := no y (List.mem_range.mp hy) (of_decide_eq_true e)
      omega
    omega
section
variable {P : Program} {w : World} {K : PySem.W.Frag} {mg : Str → Option Value} {base : Heap}
abbrev N__law_drawn_move : List Str := ["_law_bag_here", "_law_house_here", "_law_state_here", "_law_thing", "_law_way", "_law_downs", "_law_now", "_law_at", "_law_there", "_law_down", "_law_one_here"]
abbrev P__law_drawn_move : List Str := ["_law_bag_here", "_law_house_here", "_law_state_here", "_law_thing", "_law_way"]
theorem sc__law_drawn_move : FnScope N__law_drawn_move P__law_drawn_move (defScope (Hd.top 63)) := ⟨rfl, rfl, rfl, by decide +kernel, rfl, by decide +kernel, by decide +kernel⟩
abbrev Ok__law_drawn_move (P : Program) (w : World) (K : PySem.W.Frag) (mg : Str → Option Value) (base : Heap) : Prop := Hd.OkF P w K mg base 3 "_law_drawn_move" P__law_drawn_move (PrB K (α := Nat × Nat × (Nat → Nat) × (Nat → Nat) × Nat × Nat) (fun a => [dHouse a.1 a.2.1 a.2.2.1, dSt a.1 a.2.2.2.1, dN a.2.2.2.2.1, dN a.2.2.2.2.2]) (fun a => a.1 ≤ 1000 ∧ a.2.1 ≤ 100 ∧ a.2.2.2.2.1 < a.1 ∧ ∀ j, j < a.2.1 → 1 ≤ a.2.2.1 j) (fun a d => ∃ ds fin, d = dMove a.2.2.2.2.1 ds ∧ FK.PD a.1 a.2.1 a.2.2.1 a.2.2.2.2.1 0 (FK.upd a.2.2.2.1 a.2.2.2.2.1 0) ds fin))
theorem ok__law_drawn_move (Y : Hd.Ok K mg) (D__law_one : Ok__law_one P w K mg base) : Ok__law_drawn_move P w K mg base := by
  refine mkPrB (i := 49) (j := 63) (k := 2) Y rfl rfl sc__law_drawn_move (fun _ _ _ _ _ _ us hl => match us, hl with | [_, _, _, _, _], _ => rfl) 6 rfl (fun _ => rfl) fun cdv A' outer s H E hr => ⟨_, (pss_cons (ps_asg (pe_tupN (pa_cons (pe_tupN pa_nil) (pa_cons (pe_callTy (kc_list (K := K) rfl) (by rfl) (Y.free 72) bt_list (pa_cons (pv 2) pa_nil)) pa_nil))) (kg_tup (K := K) (n := 2) rfl rfl (pgs_cons (pg_name (i := 5) sc__law_drawn_move.nd rfl (Or.inl rfl)) (pgs_cons (pg_name (i := 6) sc__law_drawn_move.nd rfl (Or.inr rfl)) pgs_nil)))) (pss_cons (ps_asg pe_int (pg_sub (pv 6) (pv 3) set_list)) (pss_cons (ps_while PassesOwn.never (PW.pt (pw_and (pt_cmpR op_lt (pe_callB (kc_len (K := K) rfl) (by rfl) (Y.free 71) bt_len (pa_cons (pv 5) pa_nil)) (pe_callB (kc_len (K := K) rfl) (by rfl) (Y.free 71) bt_len (pa_cons (pe_ix (ki_seq (K := K) rfl) (pv 1) pe_int (fun _ _ => rfl)) pa_nil)) (nomark _)) (pw_and1 (pt_cmpR op_gt (ke_bm (K := K) rfl PySem.F.plainAttrs_list PySem.F.slot_list_count PySem.F.type_list_count (km_lcount (K := K) rfl) (pv 6) (pa_cons (pe_callB (kc_len (K := K) rfl) (by rfl) (Y.free 71) bt_len (pa_cons (pv 5) pa_nil)) pa_nil)) (pe_ix (ki_seq (K := K) rfl) (pe_ix (ki_seq (K := K) rfl) (pv 1) pe_int (fun _ _ => rfl)) (pe_callB (kc_len (K := K) rfl) (by rfl) (Y.free 71) bt_len (pa_cons (pv 5) pa_nil)) (fun _ _ => rfl)) (nomark _))))) (pss_cons (ps_set (i := 7) sc__law_drawn_move.nd rfl (Or.inr rfl) (pe_callB (kc_len (K := K) rfl) (by rfl) (Y.free 71) bt_len (pa_cons (pv 5) pa_nil))) (pss_cons (ps_setLc (i := 8) (own := [("_law_one_here", 10)]) rfl sc__law_drawn_move.nd rfl rfl (sw_true rfl rfl rfl (by decide +kernel)) (pi_range1 (by rfl) (Y.free 75) (pa_cons (pe_ix (ki_seq (K := K) rfl) (pv 1) pe_int (fun _ _ => rfl)) pa_nil)) (blkOk_by (by first | (change blkC N__law_drawn_move (defScope (Hd.top 63)) _ _ = true; decide +kernel) | rfl)) (fun _ _ _ _ _ => (pg_name (i := 10) sc__law_drawn_move.nd rfl (Or.inl rfl))) (fun _ _ _ _ _ => (pts_one (PW.pt (pw_and (pt_cmpR (ko_eq (K := K) rfl hr) (pe_ix (ki_seq (K := K) rfl) (pv 6) (pv 10) (fun _ _ => rfl)) (pv 7) (nomark _)) (pw_and1 (PW.pt (pw_or (pt_cmpR op_gt (pv 7) pe_int (nomark _)) (pw_or1 (pt_cmpR (ko_ne (K := K) rfl hr) (pv 10) (pv 3) (nomark _)))))))))) (fun _ _ _ _ _ => (pv 10))) (pss_cons (ps_set (i := 9) sc__law_drawn_move.nd rfl (Or.inl rfl) (pe_ifExp (pt_cmpR (ko_eq (K := K) rfl hr) (pv 4) pe_int (nomark _)) (pe_ix (ki_seq (K := K) rfl) (pv 8) (pe_un un_neg pe_int) (fun _ _ => rfl)) (pe_ifExp (PW.pt (pw_and (pt_cmpR (ko_eq (K := K) rfl hr) (pv 4) pe_int (nomark _)) (pw_and1 (pt_cmpR op_gt (pv 7) pe_int (nomark _))))) (pe_ix (ki_seq (K := K) rfl) (pv 5) (pe_un un_neg pe_int) (fun _ _ => rfl)) (Hd.pe_f D__law_one (hr.mono (by decide)) (by rfl) (pa_cons (pv 0) (pa_cons (pv 8) pa_nil)))))) (pss_one (ps_asg (pe_tupN (pa_cons (pe_op (ko_add (K := K) rfl) (pv 5) (pe_tupN (pa_cons (pv 9) pa_nil))) (pa_cons (pe_op (ko_add (K := K) rfl) (pv 7) pe_int) pa_nil))) (kg_tup (K := K) (n := 2) rfl rfl (pgs_cons (pg_name (i := 5) sc__law_drawn_move.nd rfl (Or.inl rfl)) (pgs_cons (pg_sub (pv 6) (pv 9) set_list) pgs_nil))))))))) (pss_one (ps_ret (pe_tupN (pa_cons pe_str (pa_cons (pv 3) (pa_cons (pv 5) pa_nil))))))))), fun ⟨n, m, r, st, x, way⟩ F0 H0 b Q hp hQ => ?_⟩
  change Tr ⟨K, some b, F0, H0, F0⟩ [.ml b, .dat (dHouse n m r), .dat (dSt n st), .dat (dN x), .dat (dN way), .un, .un, .un, .un, .un, .un] [] _ _
  obtain ⟨hn, hm, hx, hr1⟩ : n ≤ 1000 ∧ m ≤ 100 ∧ x < n ∧ ∀ j, j < m → 1 ≤ r j := hp
  refine t_seq (t_tup (ees_cons (ee_d ev_tup0) (ees_cons (ee_l (el_cb (ea_cons (ev_d rfl) ea_nil) rc_lstT)) ees_nil)) rfl (by decide) fun p => ⟨rfl, tgs_name (tgs_name (tgs_nil fun σ H h => h.go ?_))⟩)
  refine t_seq (t_setitem (d := dN 0) ev_int (ev_m rfl) (ev_d rfl) (k := 0) rfl (ixN_nat (by simpa using hx)) fun σ H h => ?_)
  have h : Pst _ _ [(p, tab n fun y => dN (FK.upd st x 0 y))] σ H := h.mse (cellEq upd_tab)
  refine h.go (t_seq (t_while (P := fun μ G ms => ∃ (ds : List Nat) (k : Nat) (now : Nat → Nat) (b7 b8 b9 : Sl), μ = m - k ∧ ds.length = k ∧ k ≤ m ∧ G = [.ml b, .dat (dHouse n m r), .dat (dSt n st), .dat (dN x), .dat (dN way), .dat (.tuple (dNs ds)), .ml p, b7, b8, b9, .un] ∧ ms = [(p, tab n fun y => dN (now y))] ∧ (∀ ds2 fin, FK.PD n m r x k now ds2 fin → FK.PD n m r x 0 (FK.upd st x 0) (ds ++ ds2) fin) ∧ (0 < k → ∃ z, ds[ds.length - 1]? = some z ∧ z < n ∧ now z = k)) (m0 := m) ⟨[], 0, FK.upd st x 0, _, _, _, by omega, rfl, by omega, rfl, rfl, fun ds2 fin q => q, fun q => by omega⟩ ?_))
  rintro μ G ms ⟨ds, k, now, b7, b8, b9, rfl, hkl, hkm, rfl, rfl, path, last⟩
  have hkl2 : (dNs ds).length = k := by rw [List.length_map, hkl]
  refine ⟨_, (et_and (et_test (ev_op (ev_cb (ea_cons (ev_d rfl) ea_nil) (rc_lenN (n := k) hkl2)) (ev_cb (ea_cons (ev_op (ev_d rfl) ev_int (rv_ixT (at_of (k := 1) rfl rfl))) ea_nil) rc_lenTT) rv_b)) fun hb => (et_test (ev_op (ev_lcount (ns := (tab n fun y => (now y : Int))) (ev_m rfl) (by rw [tab_map]; exact mem0) (ev_cb (ea_cons (ev_d rfl) ea_nil) (rc_lenN (n := k) hkl2))) (ev_op (ev_op (ev_d rfl) ev_int (rv_ixT (at_of (k := 1) rfl rfl))) (ev_cb (ea_cons (ev_d rfl) ea_nil) (rc_lenN (n := k) hkl2)) (rv_ixT (at_tab k (by have := of_decide_eq_true hb; omega) rfl))) rv_b))), fun hb => ?_, fun hb σ H h => ?_⟩
  · rw [Bool.and_eq_true, cnt_st] at hb
    have hk : k < m := by have := of_decide_eq_true hb.1; omega
    have hc : r k < FK.cOn n now k := by have := of_decide_eq_true hb.2; omega
    refine t_seq (t_set (ee_d (ev_cb (ea_cons (ev_d rfl) ea_nil) (rc_lenN (n := k) hkl2))) fun σ H h => ?_)
    dsimp only
    refine h.go (t_seq (t_set (ee_d (EvL.data (el_lc (fun y : Nat => decide ((now y : Int) = (k : Int)) && (decide ((k : Int) > 0) || !decide ((y : Int) = (x : Int)))) dN (src_range (ea_cons (ev_op (ev_d rfl) ev_int (rv_ixT (at_of (k := 0) rfl rfl))) ea_nil) (by omega)) hw0 (by first | omega | (simp; omega)) (fun a ha => tgc_name (by simp)) (fun a ha => (et_and (et_test (ev_op (ev_op (ev_m rfl) (ev_d rfl) (rv_ixM mem0 (at_tab a (List.mem_range.mp ha) rfl))) (ev_d rfl) rv_eqUI)) fun hb => (et_or (et_test (ev_op (ev_d rfl) ev_int rv_b)) fun hb => (et_test (ev_op (ev_d rfl) (ev_d rfl) rv_neUI))))) (fun a ha hp => (ev_d rfl))))) fun σ H h => ?_))
    dsimp only
    obtain ⟨z0, hz0⟩ := some_there (x := x) hc fun e => hr1 k hk
    generalize hL : (List.range n).filter (fun y : Nat => decide ((now y : Int) = (k : Int)) && (decide ((k : Int) > 0) || !decide ((y : Int) = (x : Int)))) = L at h hz0
    have inL : ∀ z, z ∈ L ↔ z < n ∧ now z = k ∧ ¬ (k = 0 ∧ z = x) := fun z => by
      rw [← hL, List.mem_filter, List.mem_range, Bool.and_eq_true, Bool.or_eq_true, decide_eq_true_eq, decide_eq_true_eq, Bool.not_eq_true', decide_eq_false_iff_not]
      omega
    have Ll : L.length ≤ n := by
      rw [← hL]
      exact Nat.le_trans (List.length_filter_le _ _) (by rw [List.length_range]; exact Nat.le_refl _)
    have L1 : 1 ≤ L.length := List.length_pos_of_mem hz0
    refine h.go (t_seq (t_set (ee_r (P := fun s => ∃ z, z ∈ L ∧ s = .dat (dN z)) (evp_if (Pb := (· = decide ((way : Int) = 1))) (et_test (ev_op (ev_d rfl) ev_int rv_eqUI)) (fun hb => EvP.of (s := .dat (dN (L[L.length - 1]'(by omega)))) (ev_op (ev_d rfl) (ev_neg ev_int) (rv_ixL (at_lastL (by rw [List.length_map, List.getElem?_map, List.getElem?_eq_getElem (by omega)]; rfl)))) ⟨_, List.getElem_mem _, rfl⟩) (fun hb => evp_if (Pb := (· = (decide ((way : Int) = 2) && decide ((k : Int) > 0)))) (et_and (et_test (ev_op (ev_d rfl) ev_int rv_eqUI)) fun hb => (et_test (ev_op (ev_d rfl) ev_int rv_b))) (fun hb => ?_) (fun hb => ?_)))) fun s hs => ?_))
    · have hk0 : 0 < k := by
        have h1 := (Bool.and_eq_true _ _ ▸ hb.symm : _ ∧ _).2
        have := of_decide_eq_true h1
        omega
      obtain ⟨z, hz1, hz2, hz3⟩ := last hk0
      exact EvP.of (s := .dat (dN z)) (ev_op (ev_d rfl) (ev_neg ev_int) (rv_ixT (at_lastL (by rw [List.length_map, List.getElem?_map, hz1]; rfl)))) ⟨z, (inL z).mpr ⟨hz2, hz3, by omega⟩, rfl⟩
    · refine (evp_b (b := b) (L.map dN) rfl (ea_cons (ev_m rfl) (ea_cons (ev_d rfl) ea_nil)) rfl (by rw [List.length_map]; omega)).imp fun s e => ?_
      obtain ⟨d, hd, rfl⟩ := e
      obtain ⟨z, hz, rfl⟩ := List.mem_map.mp hd
      exact ⟨z, hz, rfl⟩
    · obtain ⟨z, hz, rfl⟩ := hs
      obtain ⟨hzn, hzk, hzx⟩ := (inL z).mp hz
      refine fun σ H h => ?_
      dsimp only
      refine h.go (t_tup (ees_cons (ee_d (s := .dat (.tuple (dNs (ds ++ [z])))) (Ev.is (ev_op (ev_d rfl) (ev_tup1 (ea_cons (ev_d rfl) ea_nil)) (rv_addT (by simp; omega))) (by show _ = Sl.dat (.tuple (List.map dN (ds ++ [z]))); rw [List.map_append]; rfl))) (ees_cons (ee_d (s := .dat (dN (k + 1))) (ev_op (ev_d rfl) ev_int rv_addI)) ees_nil)) rfl (by decide) ⟨rfl, tgs_name (tgs_sub (k := 0) (n := z) (ev_m rfl) (ev_d rfl) rfl (ixN_nat (by simpa using hzn)) (tgs_nil fun σ H h => ?_))⟩)
      refine ⟨m - (k + 1), _, _, by omega, ⟨ds ++ [z], k + 1, FK.upd now z (k + 1), _, _, _, rfl, by rw [List.length_append, hkl]; rfl, hk, rfl, cellEq upd_tab, fun ds2 fin q => ?_, fun _ => ⟨z, by simp, hzn, FK.upd_self⟩⟩, h⟩
      rw [List.append_assoc]
      exact path _ _ (.step _ _ _ _ _ hk hc hzn hzk hzx q)
  · rw [cnt_st] at hb
    refine Pst.go (u := tRet _) (D := { nx := fun _ H' => Q .non H', rt := Q }) h (t_retD (d := dMove x ds) (ev_tup3 (ea_cons ev_str (ea_cons (ev_d rfl) (ea_cons (ev_d rfl) ea_nil)))) fun v F' H' g o => hQ v F' H' _ g ⟨ds, now, rfl, ?_⟩ o)
    have := path [] now (.stop _ _ fun hk => ?_)
    · rwa [List.append_nil] at this
    · rw [decide_eq_true (by omega : (k : Int) < (m : Int)), Bool.true_and] at hb
      have := of_decide_eq_false hb
      omega
end
end FW
end
section
set_option linter.all false
set_option maxRecDepth 100000
set_option maxHeartbeats 4000000
/-! Comprehensions over a drawn source, drawn slices, calls with drawn arguments. -/
namespace FW
open PySem PySem.Spec PyProof.Rows L2
section
variable {C : Cn} {G : List Sl} {ms : Ms} {te ta th : TE} {tt : TT} {tr : TA} {wi : TI} {g : TG} {vs : List Nat} {E : XK}
theorem elp_lcP {α : Type} {Px : List α → Prop} {enc : α → PD} {Gx : List α → α → List Sl} (Acc : List α → Nat → List PD → Prop) (hs : SrcP C wi G ms fun ds => ∃ xs, Px xs ∧ ds = xs.map enc) (hl : ∀ xs, Px xs → xs.length ≤ 100000) (a0 : ∀ xs, Px xs → Acc xs 0 []) (alen : ∀ xs i ds, Acc xs i ds → ds.length ≤ i)
    (hg : ∀ xs, Px xs → ∀ a, a ∈ xs → TgC C g (.dat (enc a)) vs (wipeG G vs) (Gx xs a) ms)
    (turn : ∀ xs, Px xs → ∀ i a, xs[i]? = some a → ∃ b, EvT C tt (Gx xs a) ms b ∧ (b = true → EvP C te (Gx xs a) ms fun s => ∃ d, s = .dat d ∧ ∀ ds, Acc xs i ds → Acc xs (i + 1) (ds ++ [d])) ∧ (b = false → ∀ ds, Acc xs i ds → Acc xs (i + 1) ds)) :
    EvLP C (tLc wi g tt te vs) G ms (fun ds => ∃ xs, Px xs ∧ Acc xs xs.length ds) := fun F H σ S Q q => by
  refine hs F H σ S _ fun J F1 H1 ds0 hx g1 wk => fun D hD => ?_
  obtain ⟨xs, px, rfl⟩ := hx
  have hl := hl xs px
  have S1 := S.go g1
  obtain ⟨gD, fD⟩ := Go.newM (C := C) (o := .lst []) g1.ex hD
  refine ⟨fun i m H' => m = xs.length - i ∧ i ≤ xs.length ∧ Cw C F1 H1 D (Acc xs i) H', ⟨xs.length, by simp, Nat.zero_le _, ⟨F1, [], [], gD, fD, upd_same, .nil, Nat.zero_le _, a0 xs px⟩⟩, ?_⟩
  rintro i m H' ⟨rfl, hi, ⟨F', us, ds, gF, hF, hH, hd, hdl, ha⟩⟩
  have S' := S1.go gF
  obtain ⟨w1, w2, w3⟩ := wk F' H' gF.fx gF.ex (fun p hp => by simp at hp)
  rw [List.length_map] at w1 w2 w3
  by_cases hlt : i < xs.length
  · refine .inr ⟨w1 i hlt, Cw C F1 H1 D (Acc xs (i + 1)), fun H2 p => ⟨xs.length - (i + 1), by omega, rfl, hlt, p⟩, fun x H2 y => ?_⟩
    obtain ⟨F2, d, g2, hd2, hk⟩ := w3 i x H2 hlt y
    rw [List.getElem?_map, List.getElem?_eq_getElem hlt] at hd2
    cases hd2
    have hBD : C.B ≠ some D := fun e => by
      obtain ⟨_, _, _, _, _, _, w, _⟩ := S1.bag D e
      rw [w] at hD; cases hD
    refine hg xs px xs[i] (List.getElem_mem hlt) F2 H2 (L2.wipe σ vs) _ x ((S'.go g2).wipe vs) (Out.refl _) hk _ fun ρ Sρ O => ⟨O.wipe, ?_⟩
    obtain ⟨b, hb, hb1, hb2⟩ := turn xs px i xs[i] (List.getElem?_eq_getElem hlt)
    refine hb F2 H2 ρ Sρ _ fun b' F3 H3 e3 g3 => ?_
    subst e3
    have g23 := g2.trans g3
    cases b' with
    | false =>
      rw [if_neg (by simp)]
      obtain ⟨p1, p2⟩ := g23.kp D _ hH hF hBD nofun
      exact ⟨F3, us, ds, gF.trans g23, p2, p1, dps_mono g23.fx _ _ hd, hdl, hb2 rfl ds ha⟩
    | true =>
      rw [if_pos rfl]
      refine hb1 rfl F3 H3 ρ (Sρ.go g3) _ fun s v F4 H4 e4 g4 k4 => ?_
      obtain ⟨d, rfl, acc⟩ := e4
      have gA := g23.trans g4
      obtain ⟨p1, p2⟩ := gA.kp D _ hH hF hBD nofun
      have al := alen _ _ _ ha
      refine ⟨us, p1, by rw [dps_len hd]; exact Nat.lt_of_lt_of_le (show ds.length < 100001 by omega) (by decide), ?_⟩
      refine ⟨F4, us ++ [v], ds ++ [d], ?_, p2, upd_same, dps_app (dps_mono gA.fx _ _ hd) (.cons k4 .nil), ?_, acc ds ha⟩
      · have gg := gF.trans gA
        have hx : H4 D = some (.lst us) := p1
        refine ⟨gg.fx, fun a u qa => ?_, fun a u qa f n nt => ?_, fun a ps qa => ?_, fun t => (gg.tb t).cell hx, fun b e z => ?_⟩
        · rw [upd_ne (fun e => by rw [e, p2] at qa; cases qa)]; exact gg.ex a u qa
        · rw [upd_ne (ne_of_none qa hD)]; exact gg.kp a u qa f n nt
        · obtain ⟨qs, q1⟩ := gg.tk a ps qa
          exact ⟨qs, by rw [upd_ne (ne_of_none qa hD)]; exact q1⟩
        · refine (gg.bg b e z).at (Same.refl _) fun u qu f _ => ⟨?_, f⟩
          rw [upd_ne (fun e2 : b = D => hBD (by rw [← e2]; exact e))]; exact qu
      · have := alen _ _ _ (acc ds ha); omega
  · obtain rfl : i = xs.length := by omega
    refine .inl ⟨w2, q ds D us F' H' ⟨xs, px, ha⟩ (back_none S g1 hD) (g1.trans gF) hF hH hd⟩
theorem elp_slTo {P : List PD → Prop} {R : Nat → Prop} (h : EvP C te G ms fun s => ∃ ds, P ds ∧ s = .dat (.list ds)) (hh : EvP C th G ms (Num R)) : EvLP C (tSl (rSlU C.K) te tNoPart (tPart th)) G ms (fun es => ∃ ds k, P ds ∧ R k ∧ es = ds.take k) := fun F H σ S Q q =>
  h F H σ S _ fun s v F1 H1 e g1 k1 => hh F1 H1 σ (S.go g1) _ fun s2 v2 F3 H3 e3 g3 k3 => by
    obtain ⟨ds, hp, rfl⟩ := e
    obtain ⟨k, hr, rfl⟩ := e3
    refine ⟨(k : Int), dp_int k3, ?_⟩
    have gg := g1.trans g3
    have k4 := dp_mono g3.fx _ _ k1
    obtain ⟨a, xs, rfl, h1, h2⟩ := dp_list k4
    refine .inl ⟨a, xs, rfl, same_l gg.ex h1, fun p hn => ?_⟩
    obtain ⟨g4, hf⟩ := Go.newM (C := C) (o := .lst (cutV xs none (some (k : Int)))) gg.ex hn
    exact q _ _ _ _ _ ⟨ds, k, hp, hr, rfl⟩ (back_none S gg hn) (gg.trans g4) hf upd_same (by rw [← cutD_to]; exact dps_cut none (some (k : Int)) h2)
/-- a call whose arguments are drawn -/
theorem evp_callP {α : Type} {A : α → List PD} {pre : α → Prop} {R : α → PD} {Pa : List Sl → Prop} {P : Sl → Prop} (h : EvAP C tr G ms Pa) (f : ∀ ss, Pa ss → ∃ a : α, ss = (A a).map Sl.dat ∧ pre a ∧ P (.dat (R a))) : EvP C (tCall (Pr C.K A pre R) [] E tr) G ms P := fun F H σ S Q q =>
  h F H σ S _ fun ss vs F1 H1 e g k => by
    obtain ⟨a, rfl, hp, hR⟩ := f ss e
    rw [List.append_nil]
    exact ⟨a, F1, g.ex, (S.go g).tab, k.dps, hp, fun v F2 H2 g2 k2 => q _ v F2 H2 hR (g.trans (Go.of_free rfl g2)) k2⟩
end
end FW
end
section
set_option linter.all false
set_option maxRecDepth 100000
set_option maxHeartbeats 4000000
namespace FW
open PySem PySem.Spec PyProof.Rows L2
section
variable {P : Program} {w : World} {K : PySem.W.Frag} {mg : Str → Option Value} {base : Heap}
abbrev N__law_row : List Str := ["_law_bag_here", "_law_house_here", "_law_most", "_law_few", "_law_turn"]
abbrev P__law_row : List Str := ["_law_bag_here", "_law_house_here", "_law_most"]
theorem sc__law_row : FnScope N__law_row P__law_row (defScope (Hd.top 71)) := ⟨rfl, rfl, rfl, by decide +kernel, rfl, by decide +kernel, by decide +kernel⟩
abbrev Ok__law_row (P : Program) (w : World) (K : PySem.W.Frag) (mg : Str → Option Value) (base : Heap) : Prop := Hd.OkF P w K mg base 3 "_law_row" P__law_row (PrB K (α := Nat × Nat × (Nat → Nat) × Nat) (fun a => [dHouse a.1 a.2.1 a.2.2.1, dN a.2.2.2]) (fun a => a.1 ≤ 1000 ∧ a.2.2.2 ≤ 1000) (fun a d => ∃ row : List Nat, d = .tuple (dNs row) ∧ (∀ x ∈ row, x < a.1) ∧ row.length ≤ a.2.2.2))
theorem ok__law_row (Y : Hd.Ok K mg) (D__law_mixed : Ok__law_mixed P w K mg base) (D__law_one : Ok__law_one P w K mg base) (D__law_take : Ok__law_take P w K mg base) : Ok__law_row P w K mg base := by
  refine mkPrB (i := 57) (j := 71) (k := 2) Y rfl rfl sc__law_row (fun _ _ _ _ _ _ us hl => match us, hl with | [_, _, _], _ => rfl) 2 rfl (fun _ => rfl) fun cdv A' outer s H E hr => ⟨_, (pss_cons (ps_if (pt_cmpR (ko_eq (K := K) rfl hr) (pe_ix (ki_seq (K := K) rfl) (pv 1) pe_int (fun _ _ => rfl)) pe_int (nomark _)) (pss_one (ps_ret (pe_tupN pa_nil))) pss_nil) (pss_cons (ps_set (i := 3) sc__law_row.nd rfl (Or.inr rfl) (pe_slice (ks_U (K := K) rfl) (Hd.pe_f D__law_mixed (hr.mono (by decide)) (by rfl) (pa_cons (pv 0) (pa_cons (pe_listRg rfl (by rfl) (Y.free 72) (prg_1 (by rfl) (Y.free 75) (pe_ix (ki_seq (K := K) rfl) (pv 1) pe_int (fun _ _ => rfl)))) pa_nil))) po_none (po_some (pe_op (ko_add (K := K) rfl) pe_int (Hd.pe_f D__law_take (hr.mono (by decide)) (by rfl) (pa_cons (pv 0) (pa_cons (pe_ix (ki_seq (K := K) rfl) (pv 1) pe_int (fun _ _ => rfl)) pa_nil))))))) (pss_one (ps_ret (pe_callTy (kc_tup (K := K) rfl) (by rfl) (Y.free 80) bt_tuple (pa_cons (pe_lc (own := [("_law_turn", 4)]) rfl sc__law_row.nd (pi_range1 (by rfl) (Y.free 75) (pa_cons (Hd.pe_f D__law_one (hr.mono (by decide)) (by rfl) (pa_cons (pv 0) (pa_cons (pe_lst (pa_cons (pv 2) (pa_cons (Hd.pe_f D__law_take (hr.mono (by decide)) (by rfl) (pa_cons (pv 0) (pa_cons (pe_op (ko_add (K := K) rfl) (pv 2) pe_int) pa_nil))) (pa_cons (pe_op op_fdivN (pv 2) pe_int) pa_nil)))) pa_nil))) pa_nil)) (blkOk_by (by first | (change blkC N__law_row (defScope (Hd.top 71)) _ _ = true; decide +kernel) | rfl)) (fun _ _ _ _ _ => (pg_name (i := 4) sc__law_row.nd rfl (Or.inl rfl))) (fun _ _ _ _ _ => pts_nil) (fun _ _ _ _ _ => (Hd.pe_f D__law_one (hr.mono (by decide)) (by rfl) (pa_cons (pv 0) (pa_cons (pv 3) pa_nil))))) pa_nil)))))), fun ⟨n, m, r, most⟩ F0 H0 b Q hp hQ => ?_⟩
  change Tr ⟨K, some b, F0, H0, F0⟩ [.ml b, .dat (dHouse n m r), .dat (dN most), .un, .un] [] _ _
  obtain ⟨h1, h2⟩ : n ≤ 1000 ∧ most ≤ 1000 := hp
  refine t_seq (t_ifD (b := decide ((n : Int) = 0)) (et_test (ev_op (ev_op (ev_d rfl) ev_int (rv_ixT (at_of (k := 0) rfl rfl))) ev_int rv_eqUI)) (fun hb => ?_) fun hb => t_next fun σ H h => h.go ?_)
  · exact t_retD (d := .tuple []) ev_tup0 fun v F' H' g o => hQ v F' H' _ g ⟨[], rfl, by simp, by simp⟩ o
  have n1 : 1 ≤ n := by have := of_decide_eq_false hb; omega
  refine t_seq (t_set (ee_r (P := fun s => ∃ l : List Nat, (1 ≤ l.length ∧ l.length ≤ 1000 ∧ ∀ x ∈ l, x < n) ∧ s = .dat (.list (dNs l))) ((elp_slTo (P := fun ds => ∃ l : List Nat, l.Perm (List.range n) ∧ ds = dNs l) (R := fun k => 1 ≤ k) (EvLP.data (evlp_b (b := b) (tab n dN) rfl (ea_cons (ev_m rfl) (ea_cons (EvL.data (el_listRg (ev_op (ev_d rfl) ev_int (rv_ixT (at_of (k := 0) rfl rfl))) (by omega))) ea_nil)) rfl (by rw [tab_len]; exact h1)) fun ds h => ⟨ds, ?_, rfl⟩) (en_add (k := 1) ev_int (en_take (b := b) (many := n) (P := fun v => v < n) rfl (ev_m rfl) (ev_op (ev_d rfl) ev_int (rv_ixT (at_of (k := 0) rfl rfl))) (by omega) (fun v hv => hv)) (fun v hv => by omega))).data fun es he => ?_)) fun s hs => ?_)
  · obtain ⟨l, e, hl⟩ := perm_nat (l := List.range n) h
    exact ⟨l, hl, e⟩
  · obtain ⟨ds, k, ⟨l, hl, rfl⟩, hk, rfl⟩ := he
    have ll : l.length = n := by rw [hl.length_eq, List.length_range]
    refine ⟨l.take k, ⟨by rw [List.length_take]; omega, by rw [List.length_take]; omega, fun x hx => List.mem_range.mp (hl.mem_iff.mp (List.mem_of_mem_take hx))⟩, ?_⟩
    show _ = Sl.dat (.list (List.map dN _))
    rw [List.map_take]
  obtain ⟨l, ⟨l1, l2, l3⟩, rfl⟩ := hs
  refine fun σ H h => h.go ?_
  refine t_ret (P := fun s => ∃ row : List Nat, s = .dat (.tuple (dNs row)) ∧ (∀ x ∈ row, x < n) ∧ row.length ≤ most) (evp_cb (eap_c (EvLP.data (P' := fun s => ∃ row : List Nat, s = .dat (.list (dNs row)) ∧ (∀ x ∈ row, x < n) ∧ row.length ≤ most) (elp_lcP (α := Nat) (Px := fun xs => ∃ v, v ≤ most ∧ xs = List.range v) (enc := dN) (Gx := fun _ a => [.ml b, .dat (dHouse n m r), .dat (dN most), .dat (.list (dNs l)), .dat (dN a)]) (fun xs i ds => ∃ row : List Nat, ds = dNs row ∧ (∀ x ∈ row, x < n) ∧ row.length = i) (fun F H σ S R q => srcp_range (P := fun v => v ≤ most) (en_one (b := b) (k := 3) rfl (ev_m rfl) (ens_cons (en_d (v := most) (ev_d rfl) (by omega)) (ens_cons (en_take (b := b) (many := most + 1) rfl (ev_m rfl) (ev_op (ev_d rfl) ev_int rv_addI) (by omega) (fun v hv => by omega)) (ens_cons (en_d (v := most / 2) (Ev.is (ev_op (ev_d rfl) ev_int (rv_iC (by exact ⟨by decide, by decide⟩))) ?_) (by omega)) ens_nil))) (by omega)) (fun v hv => by omega) F H σ S R fun J F' H' ds hd => q J F' H' ds ?_) ?_ ?_ ?_ ?_ ?_) fun ds h => ?_) ea_nil) fun ss hs => ?_) fun s v F' H' e g o => ?_
  · show dI (Int.fdiv (most : Int) 2) = dI ((most / 2 : Nat) : Int)
    rw [Int.fdiv_eq_ediv_of_nonneg _ (by omega)]
    congr 2
  · obtain ⟨v, hv, rfl⟩ := hd
    exact ⟨_, ⟨v, hv, rfl⟩, rfl⟩
  · rintro xs ⟨v, hv, rfl⟩
    rw [List.length_range]; omega
  · exact fun xs _ => ⟨[], rfl, by simp, rfl⟩
  · rintro xs i ds ⟨row, rfl, _, e⟩
    rw [List.length_map, e]; exact Nat.le_refl _
  · exact fun xs _ a ha => tgc_name (by simp)
  · rintro xs ⟨v, hv, rfl⟩ i a hi
    refine ⟨true, et_yes, fun _ => (evp_b (b := b) (dNs l) rfl (ea_cons (ev_m rfl) (ea_cons (ev_d rfl) ea_nil)) rfl (by show 1 ≤ (dNs l).length ∧ (dNs l).length ≤ 1000; rw [List.length_map]; omega)).imp fun s e => ?_, fun e => nomatch e⟩
    obtain ⟨d, hd, rfl⟩ := e
    obtain ⟨x, hx, rfl⟩ := List.mem_map.mp hd
    refine ⟨_, rfl, ?_⟩
    rintro ds ⟨row, rfl, q1, q2⟩
    refine ⟨row ++ [x], ?_, ?_, by rw [List.length_append, q2]; rfl⟩
    · show _ = List.map dN _
      rw [List.map_append]; rfl
    · intro y hy
      rcases List.mem_append.mp hy with h | h
      · exact q1 y h
      · rw [List.mem_singleton.mp h]; exact l3 x hx
  · obtain ⟨xs, ⟨v, hv, rfl⟩, row, rfl, q1, q2⟩ := h
    rw [List.length_range] at q2
    exact ⟨row, rfl, q1, by omega⟩
  · obtain ⟨s1, ss1, ⟨row, rfl, q1, q2⟩, rfl, rfl⟩ := hs
    exact rcp_of rc_tupL ⟨row, rfl, q1, q2⟩
  · obtain ⟨row, rfl, q1, q2⟩ := e
    exact hQ v F' H' _ g ⟨row, rfl, q1, q2⟩ o
end
end FW
end
section
set_option linter.all false
set_option maxRecDepth 100000
set_option maxHeartbeats 4000000
namespace FW
open PySem PySem.Spec PyProof.Rows L2
section
variable {P : Program} {w : World} {K : PySem.W.Frag} {mg : Str → Option Value} {base : Heap}
abbrev N__law_some_house : List Str := ["_law_bag_here", "_law_menu", "_law_things", "_law_house_here"]
abbrev P__law_some_house : List Str := ["_law_bag_here", "_law_menu"]
theorem sc__law_some_house : FnScope N__law_some_house P__law_some_house (defScope (Hd.top 72)) := ⟨rfl, rfl, rfl, by decide +kernel, rfl, by decide +kernel, by decide +kernel⟩
abbrev Ok__law_some_house (P : Program) (w : World) (K : PySem.W.Frag) (mg : Str → Option Value) (base : Heap) : Prop := Hd.OkF P w K mg base 4 "_law_some_house" P__law_some_house (PrB K (α := Unit) (fun _ => [.list (dNs [6, 16, 10])]) (fun _ => True) (fun _ d => ∃ n m r, d = dHouse n m r ∧ n ≤ 16 ∧ 1 ≤ m ∧ m ≤ 4 ∧ ∀ j, j < m → 1 ≤ r j))
theorem ok__law_some_house (Y : Hd.Ok K mg) (D__law_house : Ok__law_house P w K mg base) (D__law_one : Ok__law_one P w K mg base) (D__law_take : Ok__law_take P w K mg base) : Ok__law_some_house P w K mg base := by
  refine mkPrB (i := 58) (j := 72) (k := 3) Y rfl rfl sc__law_some_house (fun _ _ _ _ _ _ us hl => match us, hl with | [_, _], _ => rfl) 2 rfl (fun _ => rfl) fun cdv A' outer s H E hr => ⟨_, (pss_cons (ps_set (i := 2) sc__law_some_house.nd rfl (Or.inl rfl) (Hd.pe_f D__law_one (hr.mono (by decide)) (by rfl) (pa_cons (pv 0) (pa_cons (pv 1) pa_nil)))) (pss_cons (ps_set (i := 3) sc__law_some_house.nd rfl (Or.inl rfl) (pe_ifExp (pt_cmpR op_lt (pv 2) pe_int (nomark _)) (Hd.pe_f D__law_house (hr.mono (by decide)) (by rfl) (pa_cons (pv 0) (pa_cons (pv 2) (pa_cons pe_int (pa_cons pe_int pa_nil))))) (Hd.pe_f D__law_house (hr.mono (by decide)) (by rfl) (pa_cons (pv 0) (pa_cons (pv 2) (pa_cons pe_int (pa_cons pe_int pa_nil))))))) (pss_one (ps_ret (pe_ifExp (pt_cmpR op_gt (Hd.pe_f D__law_take (hr.mono (by decide)) (by rfl) (pa_cons (pv 0) (pa_cons pe_int pa_nil))) pe_int (nomark _)) (pe_tupN (pa_cons (pe_op op_sub (pv 2) (Hd.pe_f D__law_take (hr.mono (by decide)) (by rfl) (pa_cons (pv 0) (pa_cons pe_int pa_nil)))) (pa_cons (pe_ix (ki_seq (K := K) rfl) (pv 3) pe_int (fun _ _ => rfl)) pa_nil))) (pv 3)))))), fun ⟨⟩ F0 H0 b Q hp hQ => ?_⟩
  change Tr ⟨K, some b, F0, H0, F0⟩ [.ml b, .dat (.list (dNs [6, 16, 10])), .un, .un] [] _ _
  refine t_seq (t_set (ee_r (P := Num fun v => 6 ≤ v ∧ v ≤ 16) ((evp_b (b := b) (dNs [6, 16, 10]) rfl (ea_cons (ev_m rfl) (ea_cons (ev_d rfl) ea_nil)) rfl (by decide)).imp fun s e => ?_)) fun s hs => ?_)
  · obtain ⟨d, hd, rfl⟩ := e
    obtain ⟨v, hv, rfl⟩ := List.mem_map.mp hd
    refine ⟨v, ?_, rfl⟩
    simp only [List.mem_cons, List.not_mem_nil, or_false] at hv
    omega
  obtain ⟨t, ht, rfl⟩ := hs
  refine fun σ H h => h.go ?_
  refine t_seq (t_set (ee_r (P := fun s => ∃ n m r, s = .dat (dHouse n m r) ∧ n ≤ 16 ∧ 1 ≤ m ∧ m ≤ 4 ∧ ∀ j, j < m → 1 ≤ r j) (evp_if (Pb := (· = decide ((t : Int) < 7))) (et_test (ev_op (ev_d rfl) ev_int rv_b)) (fun hb => (evp_b (b := b) (t, 3, 5) rfl (ea_cons (ev_m rfl) (ea_cons (ev_d rfl) (ea_cons ev_int (ea_cons ev_int ea_nil)))) rfl (by refine ⟨?_, ?_, ?_, ?_, ?_⟩ <;> (dsimp only; omega))).imp fun s e => ?_) (fun hb => (evp_b (b := b) (t, 4, 12) rfl (ea_cons (ev_m rfl) (ea_cons (ev_d rfl) (ea_cons ev_int (ea_cons ev_int ea_nil)))) rfl (by refine ⟨?_, ?_, ?_, ?_, ?_⟩ <;> (dsimp only; omega))).imp fun s e => ?_))) fun s hs => ?_)
  · obtain ⟨d, ⟨n, m, r, rfl, q⟩, rfl⟩ := e
    exact ⟨n, m, r, rfl, by have := q.hn; show n ≤ 16; exact Nat.le_trans this ht.2, q.m1, Nat.le_trans q.m2 (by dsimp only; omega), q.r1⟩
  · obtain ⟨d, ⟨n, m, r, rfl, q⟩, rfl⟩ := e
    exact ⟨n, m, r, rfl, by have := q.hn; show n ≤ 16; exact Nat.le_trans this ht.2, q.m1, Nat.le_trans q.m2 (by dsimp only; omega), q.r1⟩
  obtain ⟨n, m, r, rfl, q1, q2, q3, q4⟩ := hs
  refine fun σ H h => h.go ?_
  refine t_ret (P := fun s => ∃ n m r, s = .dat (dHouse n m r) ∧ n ≤ 16 ∧ 1 ≤ m ∧ m ≤ 4 ∧ ∀ j, j < m → 1 ≤ r j) (evp_if (Pb := fun _ => True) (etp_test (P := fun _ => True) (evp_op (Py := (· = dI 0)) (en_take (b := b) (many := 6) (P := fun _ => True) rfl (ev_m rfl) ev_int (by omega) (fun v hv => trivial)) ev_int fun x y hx hy => ?_)) (fun _ => evp_tup (eap_c (evp_op (Px := (· = .dat (dN t))) (Pz := Num fun v => v ≤ 16) (ev_d rfl) (en_take (b := b) (many := 2) (P := fun v => v < 2) rfl (ev_m rfl) ev_int (by omega) (fun v hv => hv)) fun x y hx hy => ?_) (eap_c (Ev.p (ev_op (ev_d rfl) ev_int (rv_ixT (at_of (k := 1) rfl rfl)))) ea_nil)) fun ss hs => ?_) (fun _ => EvP.of (ev_d rfl) ⟨n, m, r, rfl, q1, q2, q3, q4⟩)) fun s v F' H' e g o => ?_
  · obtain ⟨v, _, rfl⟩ := hx
    subst hy
    exact rvp_of rv_b ⟨_, rfl, trivial⟩
  · obtain ⟨v, hv, rfl⟩ := hy
    subst hx
    refine rvp_of (z := dI ((t : Int) - (v : Int))) rv_i ⟨t - v, by omega, ?_⟩
    show dI _ = dI _
    congr 1
    omega
  · obtain ⟨s1, ss1, ⟨v, hv, rfl⟩, ⟨s2, ss2, rfl, rfl, rfl⟩, rfl⟩ := hs
    exact ⟨[dN v, .tuple (tab m fun j => dN (r j))], rfl, by simp, v, m, r, rfl, hv, q2, q3, q4⟩
  · obtain ⟨n', m', r', rfl, q⟩ := e
    exact hQ v F' H' _ g ⟨n', m', r', rfl, q⟩ o
abbrev N__law_drawn_floors : List Str := ["_law_bag_here", "_law_house_here", "_law_state_here", "_law_row_here", "_law_found", "_law_way", "_law_thing"]
abbrev P__law_drawn_floors : List Str := ["_law_bag_here", "_law_house_here", "_law_state_here", "_law_row_here"]
theorem sc__law_drawn_floors : FnScope N__law_drawn_floors P__law_drawn_floors (defScope (Hd.top 75)) := ⟨rfl, rfl, rfl, by decide +kernel, rfl, by decide +kernel, by decide +kernel⟩
abbrev Ok__law_drawn_floors (P : Program) (w : World) (K : PySem.W.Frag) (mg : Str → Option Value) (base : Heap) : Prop := Hd.OkF P w K mg base 4 "_law_drawn_floors" P__law_drawn_floors (PrB K (α := Nat × Nat × (Nat → Nat) × (Nat → Nat) × List Nat) (fun a => [dHouse a.1 a.2.1 a.2.2.1, dSt a.1 a.2.2.2.1, .tuple (dNs a.2.2.2.2)]) (fun a => a.1 ≤ 101 ∧ a.2.1 ≤ 100 ∧ (∀ j, j < a.2.1 → 1 ≤ a.2.2.1 j) ∧ FK.StOk a.1 a.2.1 a.2.2.1 a.2.2.2.1 ∧ (∀ x ∈ a.2.2.2.2, x < a.1) ∧ a.2.2.2.2.length ≤ 1000) (fun a d => ∃ fl, d = .tuple (dNs fl) ∧ FK.Tr a.1 a.2.1 a.2.2.1 a.2.2.2.1 a.2.2.2.2 fl))
theorem ok__law_drawn_floors (Y : Hd.Ok K mg) (D__law_done : Ok__law_done P w K mg base) (D__law_drawn_move : Ok__law_drawn_move P w K mg base) (D__law_one : Ok__law_one P w K mg base) : Ok__law_drawn_floors P w K mg base := by
  refine mkPrB (i := 61) (j := 75) (k := 3) Y rfl rfl sc__law_drawn_floors (fun _ _ _ _ _ _ us hl => match us, hl with | [_, _, _, _], _ => rfl) 3 rfl (fun _ => rfl) fun cdv A' outer s H E hr => ⟨_, (pss_cons (ps_par (i := 4) (j := 5) rfl sc__law_drawn_floors.nd rfl rfl (by decide) rfl rfl (pa_cons (pe_lst pa_nil) (pa_cons (Hd.pe_f D__law_one (hr.mono (by decide)) (by rfl) (pa_cons (pv 0) (pa_cons (pe_lst (pa_cons pe_int (pa_cons pe_int (pa_cons pe_int (pa_cons pe_int pa_nil))))) pa_nil))) pa_nil)) (by rfl)) (pss_cons (ps_for PassesOwn.never rfl (kp_seq (K := K) rfl (pv 3)) (pg_name (i := 6) sc__law_drawn_floors.nd rfl (Or.inl rfl)) (pss_cons (ps_expr (ke_bm (K := K) rfl PySem.F.plainAttrs_list PySem.F.slot_list_append PySem.F.type_list_append mt_append (pv 4) (pa_cons (pe_ix (ki_seq (K := K) rfl) (pv 2) (pv 6) (fun _ _ => rfl)) pa_nil))) (pss_one (ps_set (i := 2) sc__law_drawn_floors.nd rfl (Or.inl rfl) (Hd.pe_f D__law_done (hr.mono (by decide)) (by rfl) (pa_cons (pv 1) (pa_cons (pv 2) (pa_cons (Hd.pe_f D__law_drawn_move (hr.mono (by decide)) (by rfl) (pa_cons (pv 0) (pa_cons (pv 1) (pa_cons (pv 2) (pa_cons (pv 6) (pa_cons (pv 5) pa_nil)))))) pa_nil)))))))) (pss_one (ps_ret (pe_callTy (kc_tup (K := K) rfl) (by rfl) (Y.free 80) bt_tuple (pa_cons (pv 4) pa_nil)))))), fun ⟨n, m, r, st, row⟩ F0 H0 b Q hp hQ => ?_⟩
  change Tr ⟨K, some b, F0, H0, F0⟩ [.ml b, .dat (dHouse n m r), .dat (dSt n st), .dat (.tuple (dNs row)), .un, .un, .un] [] _ _
  obtain ⟨hn, hm, hr1, ok, hrow, few⟩ : n ≤ 101 ∧ m ≤ 100 ∧ (∀ j, j < m → 1 ≤ r j) ∧ FK.StOk n m r st ∧ (∀ x ∈ row, x < n) ∧ row.length ≤ 1000 := hp
  refine t_seq (t_par (ees_cons (ee_l el_nil) (ees_cons (ee_r (P := Num fun v => True) ((evp_b (b := b) (dNs [0, 0, 1, 2]) rfl (ea_cons (ev_m rfl) (ea_cons (EvL.data (el_lst (ds := dNs [0, 0, 1, 2]) (ea_cons ev_int (ea_cons ev_int (ea_cons ev_int (ea_cons ev_int ea_nil)))) (by simp))) ea_nil)) rfl (by decide)).imp fun s e => ?_)) ees_nil)) fun p s hs => ?_)
  · obtain ⟨d, hd, rfl⟩ := e
    obtain ⟨v, hv, rfl⟩ := List.mem_map.mp hd
    exact ⟨v, trivial, rfl⟩
  obtain ⟨way, _, rfl⟩ := hs
  refine ⟨_, _, rfl, fun σ H h => h.go ?_⟩
  refine t_seq (t_for (src_t (ev_d rfl)) (fun c G ms => ∃ (st' : Nat → Nat) (fl : List Nat) (b6 : Sl), G = [.ml b, .dat (dHouse n m r), .dat (dSt n st'), .dat (.tuple (dNs row)), .ml p, .dat (dN way), b6] ∧ ms = [(p, dNs fl)] ∧ fl.length = c ∧ FK.StOk n m r st' ∧ ∀ fl2, FK.Tr n m r st' (row.drop c) fl2 → FK.Tr n m r st row (fl ++ fl2)) ⟨st, [], _, rfl, rfl, rfl, ok, fun fl2 q => q⟩ ?_ ?_)
  · rintro c x hx Fl G ms ⟨st', fl, b6, rfl, rfl, hfl, ok', path⟩
    obtain ⟨q1, q2⟩ := List.getElem?_eq_some_iff.mp hx
    have hxn : x < n := hrow x (by rw [← q2]; exact List.getElem_mem q1)
    rw [List.drop_eq_getElem_cons q1, q2] at path
    refine tg_name fun σ H h => h.go ?_
    refine t_seq (t_appD (ev_m rfl) (ev_op (ev_d rfl) (ev_d rfl) (rv_ixT (at_tab x hxn rfl))) (k := 0) rfl (by simp; omega) fun σ H h => h.go ?_)
    refine t_set (ee_r (P := fun s => ∃ ds fin, s = .dat (dSt n fin) ∧ FK.PD n m r x 0 (FK.upd st' x 0) ds fin) (evp_callP (eap_c (Ev.p (ev_d rfl)) (eap_c (Ev.p (ev_d rfl)) (eap_c (evp_b (b := b) (n, m, r, st', x, way) rfl (ea_cons (ev_m rfl) (ea_cons (ev_d rfl) (ea_cons (ev_d rfl) (ea_cons (ev_d rfl) (ea_cons (ev_d rfl) ea_nil))))) rfl (by exact ⟨by omega, hm, hxn, hr1⟩)) ea_nil))) fun ss hs => ?_)) fun s hs => ?_
    · obtain ⟨s1, ss1, rfl, ⟨s2, ss2, rfl, ⟨s3, ss3, ⟨d, ⟨ds, fin, rfl, pd⟩, rfl⟩, rfl, rfl⟩, rfl⟩, rfl⟩ := hs
      exact ⟨(n, m, r, st', x, ds, fin), rfl, ⟨hn, hm, hxn, pd⟩, ds, fin, rfl, pd⟩
    · obtain ⟨ds, fin, rfl, pd⟩ := hs
      obtain ⟨a1, a2, a3⟩ := FK.ask_done ok' hxn pd
      refine fun σ H h => h.inv ⟨fin, fl ++ [st' x], _, rfl, cellEq ?_, by rw [List.length_append, hfl]; rfl, a1, fun fl2 q => ?_⟩
      · show _ = List.map dN _
        rw [List.map_append]; rfl
      · rw [List.append_assoc]
        exact path _ (.cons _ _ _ _ _ hxn a2 a3 q)
  · rintro G ms ⟨st', fl, b6, rfl, rfl, hfl, ok', path⟩ σ H h
    rw [List.drop_length] at path
    have := path [] (.nil _)
    rw [List.append_nil] at this
    refine Pst.go (u := tRet _) (D := { nx := fun _ H' => Q .non H', rt := Q }) h (t_retD (d := .tuple (dNs fl)) (ev_cb (ea_cons (ev_m rfl) ea_nil) (rc_tupM mem0)) fun v F' H' g o => hQ v F' H' _ g ⟨fl, rfl, this⟩ o)
end
end FW
end
section
set_option linter.all false
set_option maxRecDepth 100000
set_option maxHeartbeats 4000000
/-! A name that holds one of two defs; a walk over two written pairs; the bag made. -/
namespace FW
open PySem PySem.Spec PyProof.Rows L2
/-- the i-th slot holds one of two defs -/
def tHeld2 (i : Nat) (a1 a2 : Addr) (sp1 sp2 : Sp) (t : TA) : TE := fun σ H Q => (σ[i]? = some (some (.ref a1)) ∧ t σ H fun vs H1 => sp1 vs H1 Q fun _ _ _ => False) ∨ (σ[i]? = some (some (.ref a2)) ∧ t σ H fun vs H1 => sp2 vs H1 Q fun _ _ _ => False)
theorem pe_held2 {X : Cx} {k1 k2 i : Nat} {f1 f2 x : Str} {ps1 ps2 : List Str} {sp1 sp2 : Sp} {p pos : Pos} {e : Expr} {es : List Expr} {t : TA} (D1 : Hd.OkF X.prog X.w X.K X.mg X.base k1 f1 ps1 sp1) (D2 : Hd.OkF X.prog X.w X.K X.mg X.base k2 f2 ps2 sp2) (r1 : Hd.RmG k1 X.A) (r2 : Hd.RmG k2 X.A) (at_ : X.N[i]? = some x) (vis : Vis X.env.scope x) (args : PA X (e :: es) t)
    (n1 : (x == ("__debug__" : Str)) = false := by decide) (n2 : (x == ("__classdict__" : Str)) = false := by decide)
    (he : starEach (e :: es) X.env = (false, eval e X.env) :: starEach es X.env := by rfl) (hpl : (backTo pos (starEach es X.env)).any (·.1) = false := by rfl) : PE X (.Call (.Name x p) (e :: es) [] pos) (tHeld2 i (He.ga X.K f1) (He.ga X.K f2) sp1 sp2 t) := by
  refine ⟨fun pins s σ H Q I h => ?_⟩
  rcases h with ⟨slot, run⟩ | ⟨slot, run⟩
  · refine (pe_held (S := fun f => if f = He.ga X.K f1 then some sp1 else none) (k := k1) (fun f sp q => ?_) r1 at_ vis args n1 n2 he hpl).run pins s σ H Q I ⟨_, sp1, slot, if_pos rfl, run⟩
    by_cases z : f = He.ga X.K f1
    · obtain rfl := Option.some.inj ((if_pos z).symm.trans q)
      subst z
      obtain ⟨fd, h1, h2⟩ := D1.ex
      exact ⟨⟨fd, ps1, h1, h2⟩, D1.kp⟩
    · cases (if_neg z).symm.trans q
  · refine (pe_held (S := fun f => if f = He.ga X.K f2 then some sp2 else none) (k := k2) (fun f sp q => ?_) r2 at_ vis args n1 n2 he hpl).run pins s σ H Q I ⟨_, sp2, slot, if_pos rfl, run⟩
    by_cases z : f = He.ga X.K f2
    · obtain rfl := Option.some.inj ((if_pos z).symm.trans q)
      subst z
      obtain ⟨fd, h1, h2⟩ := D2.ex
      exact ⟨⟨fd, ps2, h1, h2⟩, D2.kp⟩
    · cases (if_neg z).symm.trans q
section
variable {C : Cn} {G : List Sl} {ms : Ms} {tr : TA}
theorem ev_held {i : Nat} {a1 a2 : Addr} {α : Type} {A : α → List PD} {pre : α → Prop} {R : Bool → α → PD} (g : Bool) (a : α) (hs : G[i]? = some (.val (.ref (if g then a2 else a1)))) (h : EvA C tr G ms ((A a).map Sl.dat)) (hp : pre a) :
    Ev C (tHeld2 i a1 a2 (Pr C.K A pre (R false)) (Pr C.K A pre (R true)) tr) G ms (.dat (R g a)) := fun F H σ S Q q => by
  rcases S.env i _ hs with e | ⟨v, e1, e2⟩
  · cases e
  · obtain rfl := (e2 : v = _)
    cases g with
    | false =>
      refine .inl ⟨e1, h F H σ S _ fun ss vs F1 H1 e g1 k => ?_⟩
      subst e
      exact ⟨a, F1, g1.ex, (S.go g1).tab, k.dps, hp, fun v F2 H2 g2 k2 => q _ v F2 H2 rfl (g1.trans (Go.of_free rfl g2)) k2⟩
    | true =>
      refine .inr ⟨e1, h F H σ S _ fun ss vs F1 H1 e g1 k => ?_⟩
      subst e
      exact ⟨a, F1, g1.ex, (S.go g1).tab, k.dps, hp, fun v F2 H2 g2 k2 => q _ v F2 H2 rfl (g1.trans (Go.of_free rfl g2)) k2⟩
end
section
variable {K : PySem.W.Frag} {B : Option Addr} {F0 H0 Fl : Hp} {G : List Sl} {ms : Ms} {tb : TS} {D : Ends}
theorem t_for22 {i j : Nat} {u v : Bool → V} (Inv : Bool → List Sl → Ms → Prop) (Fin : List Sl → Ms → Prop) (h0 : Inv false G ms)
    (turn : ∀ (g : Bool) Fl' G ms, Inv g G ms → Tr ⟨K, B, F0, H0, Fl'⟩ ((G.set i (.val (u g))).set j (.val (v g))) ms tb { D with nx := Pinv ⟨K, B, F0, H0, Fl'⟩ (if g then Fin else Inv true), ct := Pinv ⟨K, B, F0, H0, Fl'⟩ (if g then Fin else Inv true), bk := D.nx })
    (done : ∀ G ms, Fin G ms → ∀ σ H, Pst ⟨K, B, F0, H0, Fl⟩ G ms σ H → D.nx σ H) :
    Tr ⟨K, B, F0, H0, Fl⟩ G ms (tFor (iSeq K (tTupN (tCons (tTupN (tCons (tC (u false)) (tCons (tC (v false)) tNil))) (tCons (tTupN (tCons (tC (u true)) (tCons (tC (v true)) tNil))) tNil)))) (gTup K 2 (gCons (gName i) (gCons (gName j) gNil))) tb) D := fun σ H ⟨F, S, gg, hf, fl, e0, hb⟩ => by
  refine .inr ⟨show 2 ≤ sizeLine by decide, fun p1 o1 n1 d1 => ⟨show 2 ≤ sizeLine by decide, fun p2 o2 n2 d2 => ⟨show 2 ≤ sizeLine by decide, fun p3 o3 n3 d3 => ?_⟩⟩⟩
  have g1 : Go ⟨K, B, F0, H0, Fl⟩ F H (upd F p1 (.frz o1 (.tup [u false, v false]))) (upd H p1 (.frz o1 (.tup [u false, v false]))) := Go.new S.fh n1
  have g2 : Go ⟨K, B, F0, H0, Fl⟩ _ _ (upd (upd F p1 (.frz o1 (.tup [u false, v false]))) p2 (.frz o2 (.tup [u true, v true]))) (upd (upd H p1 (.frz o1 (.tup [u false, v false]))) p2 (.frz o2 (.tup [u true, v true]))) := Go.new g1.ex n2
  have g3 : Go ⟨K, B, F0, H0, Fl⟩ _ _ (upd (upd (upd F p1 (.frz o1 (.tup [u false, v false]))) p2 (.frz o2 (.tup [u true, v true]))) p3 (.frz o3 (.tup [.ref p1, .ref p2]))) (upd (upd (upd H p1 (.frz o1 (.tup [u false, v false]))) p2 (.frz o2 (.tup [u true, v true]))) p3 (.frz o3 (.tup [.ref p1, .ref p2]))) := Go.new g2.ex n3
  have gA := (g1.trans g2).trans g3
  have t3 : upd (upd (upd F p1 (.frz o1 (.tup [u false, v false]))) p2 (.frz o2 (.tup [u true, v true]))) p3 (.frz o3 (.tup [.ref p1, .ref p2])) p3 = some (.frz o3 (.tup [.ref p1, .ref p2])) := upd_same
  have t2 : upd (upd (upd F p1 (.frz o1 (.tup [u false, v false]))) p2 (.frz o2 (.tup [u true, v true]))) p3 (.frz o3 (.tup [.ref p1, .ref p2])) p2 = some (.frz o2 (.tup [u true, v true])) := g3.fx _ _ upd_same
  have t1 : upd (upd (upd F p1 (.frz o1 (.tup [u false, v false]))) p2 (.frz o2 (.tup [u true, v true]))) p3 (.frz o3 (.tup [.ref p1, .ref p2])) p1 = some (.frz o1 (.tup [u false, v false])) := g3.fx _ _ (g2.fx _ _ upd_same)
  generalize upd (upd (upd F p1 (.frz o1 (.tup [u false, v false]))) p2 (.frz o2 (.tup [u true, v true]))) p3 (.frz o3 (.tup [.ref p1, .ref p2])) = F1 at gA t1 t2 t3
  generalize upd (upd (upd H p1 (.frz o1 (.tup [u false, v false]))) p2 (.frz o2 (.tup [u true, v true]))) p3 (.frz o3 (.tup [.ref p1, .ref p2])) = H1 at gA
  have S1 := S.go gA
  refine ⟨p3, rfl, ⟨_, .inl (.inr ⟨o3, gA.ex _ _ t3⟩)⟩, ?_⟩
  refine ⟨fun i m σ' H' => m = 2 - i ∧ i ≤ 2 ∧ Pinv ⟨K, B, F0, H0, F1⟩ (if i = 0 then Inv false else if i = 1 then Inv true else Fin) σ' H', ⟨2, rfl, by omega, G, ms, h0, F1, S1.sw, (gg.trans gA).sw, hf, Same.refl _, e0, hb⟩, ?_⟩
  rintro i' m σ' H' ⟨rfl, hi, G', ms', iv, F', S', g', hf', fl', _, _⟩
  have hq : ∀ {p : Addr} {o : Obj} {xs : List V}, F1 p = some (.frz o (.tup xs)) → SqT K H' p xs := fun e => .inl (.inr ⟨_, S'.fh _ _ (fl' _ _ e)⟩)
  have inj : ∀ {p : Addr} {o : Obj} {xs ys : List V}, F1 p = some (.frz o (.tup xs)) → H' p = some (.frz o (.tup xs)) := fun e => S'.fh _ _ (fl' _ _ e)
  by_cases h2 : i' = 2
  · subst h2
    exact .inl ⟨⟨_, hq t3, by simp⟩, done G' ms' iv σ' H' ⟨F', S'.sw, g'.sw, hf', Same.trans fl (Same.trans gA.fx fl'), e0, hb⟩⟩
  · have step : ∀ (g : Bool) (pg : Addr) (og : Obj), i' = (if g then 1 else 0) → F1 pg = some (.frz og (.tup [u g, v g])) → ([V.ref p1, V.ref p2] : List V)[i']? = some (.ref pg) → (Itt K p3).go i' H' ∧ ∃ N : L2.St → Hp → Prop, (∀ σ2 H2, N σ2 H2 → ∃ m', m' < 2 - i' ∧ m' = 2 - (i' + 1) ∧ i' + 1 ≤ 2 ∧ Pinv ⟨K, B, F0, H0, F1⟩ (if i' + 1 = 0 then Inv false else if i' + 1 = 1 then Inv true else Fin) σ2 H2) ∧
        ∀ x H2, (Itt K p3).yld i' H' x H2 → gTup K 2 (gCons (gName i) (gCons (gName j) gNil)) x σ' H2 fun σ3 H3 => tb { D with nx := N, ct := N, bk := D.nx } σ3 H3 := by
      intro g pg og hg tg he
      refine ⟨⟨_, _, hq t3, he⟩, Pinv ⟨K, B, F0, H0, F1⟩ (if g then Fin else Inv true), fun σ2 H2 p => ⟨2 - (i' + 1), by cases g <;> simp at hg <;> omega, rfl, by cases g <;> simp at hg <;> omega, ?_⟩, fun x H2 y => ?_⟩
      · cases g with
        | false =>
          obtain rfl : i' = 0 := hg
          exact p
        | true =>
          obtain rfl : i' = 1 := hg
          exact p
      · obtain ⟨rfl, y⟩ := y
        have := y _ (hq t3)
        rw [he] at this
        cases this
        refine ⟨pg, [u g, v g], rfl, hq tg, rfl, ?_⟩
        have iv' : Inv g G' ms' := by
          cases g with
          | false =>
            obtain rfl : i' = 0 := hg
            exact iv
          | true =>
            obtain rfl : i' = 1 := hg
            exact iv
        exact tgs_name (s := .val (u g)) (tgs_name (s := .val (v g)) (tgs_nil fun σ3 H3 h => turn g F1 G' ms' iv' σ3 H3 h)) F' H2 σ' [u g, v g] S' g' hf' fl' e0 hb (.cons rfl (.cons rfl .nil))
    by_cases h1 : i' = 1
    · exact .inr (step true p2 o2 h1 t2 (by subst h1; rfl))
    · obtain rfl : i' = 0 := by omega
      exact .inr (step false p1 o1 rfl t1 rfl)
/-- the bag is made: from now on it is the bag -/
theorem t_newbag {b : Addr} {a s i : Int} {cs : List Int} {t : TS} (N : BagN a s i cs) (k : ∀ F1 H1, Go ⟨K, none, F0, H0, F0⟩ F0 H0 F1 H1 → H0 b = none → Tr ⟨K, some b, F1, H1, F1⟩ G [] t D) : Tr ⟨K, none, F0, H0, Fl⟩ G [(b, bagD a s i cs)] t D := fun σ H ⟨F, S, g, hf, fl, e0, hb⟩ => by
  obtain ⟨f0, _, vs, c1, c2⟩ := S.cells _ (List.mem_singleton.mpr rfl)
  have ok : BagOk K F H b := by
    cases c2 with
    | cons d1 c2 =>
      cases c2 with
      | cons d2 c2 =>
        cases c2 with
        | cons d3 c2 =>
          cases c2 with
          | cons d4 c2 =>
            cases c2
            obtain rfl := dp_int d1
            obtain rfl := dp_int d2
            obtain rfl := dp_int d3
            obtain ⟨c, xs, rfl, _, _⟩ := dp_listN d4
            exact ⟨f0, a, s, i, c, cs, c1, N.a0, N.s0, N.s1, N.i0, d4, N.c0, N.cl⟩
  refine k F H ⟨g.fx, g.ex, g.kp, g.tk, g.tb, g.bg⟩ (hf _ (List.mem_singleton.mpr rfl)) σ H ⟨F, ⟨S.fh, S.len, S.env, fun p hp => by simp at hp, by simp, fun x hx => ?_, S.tab⟩, Go.refl S.fh, fun p hp => by simp at hp, Same.refl F, S.fh, fun x hx => ?_⟩
  · cases hx; exact ok
  · cases hx; exact ok
theorem Go.join {b : Addr} {F1 H1 F2 H2 Fa Fb : Hp} (g : Go ⟨K, none, F0, H0, Fa⟩ F0 H0 F1 H1) (n : H0 b = none) (g2 : Go ⟨K, some b, F1, H1, Fb⟩ F1 H1 F2 H2) : Go ⟨K, none, F0, H0, Fa⟩ F0 H0 F2 H2 :=
  ⟨Same.trans g.fx g2.fx, g2.ex, fun a o e f _ nt => by
    obtain ⟨q1, q2⟩ := g.kp a o e f (fun z => nomatch z) nt
    exact g2.kp a o q1 q2 (fun z => by cases z; rw [n] at e; cases e) nt, fun a ps e => by
    obtain ⟨qs, q⟩ := g.tk a ps e
    exact g2.tk a qs q, fun t => g2.tb (g.tb t), fun x hx => nomatch hx⟩
end
end FW
end
section
set_option linter.all false
set_option maxRecDepth 100000
set_option maxHeartbeats 4000000
/-! Defs that take the script's own list. -/
namespace FW
open PySem PySem.Spec PyProof.Rows L2
def PrS (K : PySem.W.Frag) {α : Type} (A : α → List PD) (pre : α → Prop) (R : α → PD) : Sp := fun vs H Q _ =>
  ∃ (x : α) (F : Hp) (p : Addr) (xs : List V), vs = [.ref p] ∧ Same F H ∧ TabK K F H ∧ SqL K F p xs ∧ DpAll K F xs (A x) ∧ pre x ∧ ∀ v F' H', Go ⟨K, none, F, H, F⟩ F H F' H' → Dp K F' v (R x) → Q v H'
def PrLS (K : PySem.W.Frag) {α : Type} (A : α → List PD) (pre : α → Prop) (R : α → List PD) : Sp := fun vs H Q _ =>
  ∃ (x : α) (F : Hp) (p : Addr) (xs : List V), vs = [.ref p] ∧ Same F H ∧ TabK K F H ∧ SqL K F p xs ∧ DpAll K F xs (A x) ∧ pre x ∧ ∀ l us F' H', H l = none → Go ⟨K, none, F, H, F⟩ F H F' H' → F' l = none → H' l = some (.lst us) → DpAll K F' us (R x) → Q (.ref l) H'
section
variable {C : Cn} {G : List Sl} {ms : Ms} {te ta : TE} {E : XK}
theorem ev_ls {i : Nat} {ds : List PD} (h : G[i]? = some (.ls ds)) : Ev C (tVar i) G ms (.ls ds) := ev_var h nofun
theorem el_slLS {tl th : TO} {ds : List PD} {lo hi : Option Int} (h : Ev C te G ms (.ls ds)) (hl : EvO C tl G ms lo) (hh : EvO C th G ms hi) : EvL C (tSl (rSlU C.K) te tl th) G ms (cutD ds lo hi) := fun F H σ S Q q =>
  h F H σ S _ fun s v F1 H1 e g1 k1 => hl F1 H1 σ (S.go g1) _ fun F2 H2 g2 => hh F2 H2 σ ((S.go g1).go g2) _ fun F3 H3 g3 => by
    subst e
    have gg := (g1.trans g2).trans g3
    have k3 : SlOk C.K F3 v (.ls ds) := SlOk.mono (g2.trans g3).fx k1
    obtain ⟨a, xs, rfl, h1, h2⟩ := k3
    refine .inl ⟨a, xs, rfl, same_l gg.ex h1, fun p hn => ?_⟩
    obtain ⟨g4, hf⟩ := Go.newM (C := C) (o := .lst (cutV xs lo hi)) gg.ex hn
    exact q _ _ _ _ _ rfl (back_none S gg hn) (gg.trans g4) hf upd_same (dps_cut lo hi h2)
theorem el_slLSToX {α : Type} {xs : List α} {f : α → PD} {k : Nat} (h : Ev C te G ms (.ls (xs.map f))) (hk : Ev C ta G ms (dI k)) : EvL C (tSl (rSlU C.K) te tNoPart (tPart ta)) G ms ((xs.take k).map f) := (el_slLS h eo_none (eo_some hk)).is cut_toX
theorem el_callS {α : Type} {A : α → List PD} {pre : α → Prop} {R : α → List PD} (a : α) (h : Ev C te G ms (.ls (A a))) (hp : pre a) : EvL C (tCall (PrLS C.K A pre R) [] E (tCons te tNil)) G ms (R a) := fun F H σ S Q q =>
  h F H σ S _ fun s v F1 H1 e g k => by
    subst e
    obtain ⟨p, xs, rfl, h1, h2⟩ := (k : SlOk C.K F1 v (.ls (A a)))
    exact ⟨a, F1, p, xs, rfl, g.ex, (S.go g).tab, h1, h2, hp, fun l us F2 H2 hn g2 f2 hh hd => q _ _ _ _ _ rfl (back_none S g hn) (g.trans (Go.of_free rfl g2)) f2 hh hd⟩
end
section
variable {P : Program} {w : World} {K : PySem.W.Frag} {mg : Str → Option Value} {base : Heap} {x : Str} {i j k : Nat} {N ps : List Str} {α : Type} {A : α → List PD} {pre : α → Prop}
theorem mkPrS {R : α → PD} (Y : Hd.Ok K mg) (hd : Hd.fn[i]? = some (Hd.mkD x j)) (hf : Hd.fa[i]? = some (.glo x)) (S : FnScope N ps (defScope (Hd.top j))) (hb : HB x j ps) (n : Nat) (hn : N.length = ps.length + n) (hA : ∀ a : α, ps.length = 1)
    (body : ∀ (cdv : Value) (A' : Around) (outer : List Env) (s : Shared) (H : Hp) (E : XK), Hd.RmG k (A'.deeper (envOfC x (defScope (Hd.top j)) s.heap.objs.size (He.ga K x) cdv)) → ∃ t, PSs (CX P w K mg base N x j cdv A' outer s H E) (defBody (Hd.top j)) t ∧
      ∀ (a : α) (F H : Hp) (Q : VK), pre a → (∀ v F' H', Go ⟨K, none, F, H, F⟩ F H F' H' → Dp K F' v (R a) → Q v H') → Tr ⟨K, none, F, H, F⟩ (.ls (A a) :: List.replicate n .un) [] t { nx := fun _ H' => Q .non H', rt := Q }) : Hd.OkF P w K mg base (k + 1) x ps (PrS K A pre R) := by
  refine Hd.mkF Y hd hf S hb (fun vs H Q E ⟨a, F, p, xs, e0, _⟩ => by rw [e0, hA a]; rfl) fun cdv A' outer s H vs Q E hr ⟨a, F, p, xs, e0, e, tab, h1, h2, hp, hQ⟩ => ?_
  obtain ⟨t, h3, h4⟩ := body cdv A' outer s H E hr
  subst e0
  exact ⟨t, h3, enter (ss := [.ls (A a)]) n e tab (.cons ⟨p, xs, rfl, h1, h2⟩ .nil) (by rw [hn, hA a]; rfl) (fun _ e => by cases e) (h4 a F H Q hp hQ)⟩
theorem mkPrLS {R : α → List PD} (Y : Hd.Ok K mg) (hd : Hd.fn[i]? = some (Hd.mkD x j)) (hf : Hd.fa[i]? = some (.glo x)) (S : FnScope N ps (defScope (Hd.top j))) (hb : HB x j ps) (n : Nat) (hn : N.length = ps.length + n) (hA : ∀ a : α, ps.length = 1)
    (body : ∀ (cdv : Value) (A' : Around) (outer : List Env) (s : Shared) (H : Hp) (E : XK), Hd.RmG k (A'.deeper (envOfC x (defScope (Hd.top j)) s.heap.objs.size (He.ga K x) cdv)) → ∃ t, PSs (CX P w K mg base N x j cdv A' outer s H E) (defBody (Hd.top j)) t ∧
      ∀ (a : α) (F H : Hp) (Q : VK), pre a → (∀ p us F' H', H p = none → Go ⟨K, none, F, H, F⟩ F H F' H' → F' p = none → H' p = some (.lst us) → DpAll K F' us (R a) → Q (.ref p) H') → Tr ⟨K, none, F, H, F⟩ (.ls (A a) :: List.replicate n .un) [] t { nx := fun _ H' => Q .non H', rt := Q }) : Hd.OkF P w K mg base (k + 1) x ps (PrLS K A pre R) := by
  refine Hd.mkF Y hd hf S hb (fun vs H Q E ⟨a, F, p, xs, e0, _⟩ => by rw [e0, hA a]; rfl) fun cdv A' outer s H vs Q E hr ⟨a, F, p, xs, e0, e, tab, h1, h2, hp, hQ⟩ => ?_
  obtain ⟨t, h3, h4⟩ := body cdv A' outer s H E hr
  subst e0
  exact ⟨t, h3, enter (ss := [.ls (A a)]) n e tab (.cons ⟨p, xs, rfl, h1, h2⟩ .nil) (by rw [hn, hA a]; rfl) (fun _ e => by cases e) (h4 a F H Q hp hQ)⟩
end
end FW
end
section
set_option linter.all false
set_option maxRecDepth 100000
set_option maxHeartbeats 4000000
namespace FW
open PySem PySem.Spec PyProof.Rows L2
section
variable {P : Program} {w : World} {K : PySem.W.Frag} {mg : Str → Option Value} {base : Heap}
abbrev N__law_bag : List Str := ["_law_script", "_law_cell"]
abbrev P__law_bag : List Str := ["_law_script"]
theorem sc__law_bag : FnScope N__law_bag P__law_bag (defScope (Hd.top 47)) := ⟨rfl, rfl, rfl, by decide +kernel, rfl, by decide +kernel, by decide +kernel⟩
abbrev Ok__law_bag (P : Program) (w : World) (K : PySem.W.Frag) (mg : Str → Option Value) (base : Heap) : Prop := Hd.OkF P w K mg base 1 "_law_bag" P__law_bag (PrLS K (α := List Int) (fun a => a.map PyData.int) (fun a => a.length ≤ 63) (fun a => bagD 0 1234567891 0 (a.map fun z => (z.natAbs : Int))))
theorem ok__law_bag (Y : Hd.Ok K mg) : Ok__law_bag P w K mg base := by
  refine mkPrLS (i := 33) (j := 47) (k := 0) Y rfl rfl sc__law_bag (fun _ _ _ _ _ _ us hl => match us, hl with | [_], _ => rfl) 1 rfl (fun _ => rfl) fun cdv A' outer s H E hr => ⟨_, (pss_one (ps_ret (pe_lst (pa_cons pe_int (pa_cons pe_int (pa_cons pe_int (pa_cons (pe_lc (own := [("_law_cell", 1)]) rfl sc__law_bag.nd (kp_seq (K := K) rfl (pe_slice (ks_U (K := K) rfl) (pv 0) po_none (po_some pe_int))) (blkOk_by (by first | (change blkC N__law_bag (defScope (Hd.top 47)) _ _ = true; decide +kernel) | rfl)) (fun _ _ _ _ _ => (pg_name (i := 1) sc__law_bag.nd rfl (Or.inl rfl))) (fun _ _ _ _ _ => pts_nil) (fun _ _ _ _ _ => (pe_callB call_abs (by rfl) (Y.free 63) bt_abs (pa_cons (pv 1) pa_nil)))) pa_nil))))))), fun ns F0 H0 Q hp hQ => ?_⟩
  change Tr ⟨K, none, F0, H0, F0⟩ [.ls (ns.map PyData.int), .un] [] _ _
  have hl : ns.length ≤ 63 := hp
  refine t_retL (P := (· = bagD 0 1234567891 0 (ns.map fun z => (z.natAbs : Int)))) (el_lst (ds := bagD 0 1234567891 0 (ns.map fun z => (z.natAbs : Int))) (EvA.is (ea_cons ev_int (ea_cons ev_int (ea_cons ev_int (ea_cons (EvL.data (el_map (fun z : Int => PyData.int ((z.natAbs : Int))) (src_l (EvL.data (el_slLSToX (k := 63) (f := PyData.int) (xs := ns) (ev_ls rfl) ev_int))) hw0 (by rw [List.length_take]; omega) (fun a ha => tgc_name (by simp)) (fun a ha => (ev_cb (ea_cons (ev_d rfl) ea_nil) rc_abs)))) ea_nil)))) ?_) (by simp [bagD])) fun ds p vs F' H' e g => ?_
  · rw [List.take_of_length_le hl]
    show _ = List.map Sl.dat [_, _, _, PyData.list (List.map PyData.int (List.map _ ns))]
    rw [List.map_map]
    rfl
  · subst e
    exact hQ p vs F' H' g
end
end FW
end
section
set_option linter.all false
set_option maxRecDepth 100000
set_option maxHeartbeats 4000000
namespace FW
open PySem PySem.Spec PyProof.Rows L2
theorem tr_len {n m : Nat} {r : Nat → Nat} : ∀ {st : Nat → Nat} {row fl : List Nat}, FK.Tr n m r st row fl → fl.length = row.length
  | _, _, _, .nil _ => rfl
  | _, _, _, .cons _ _ _ _ _ _ _ _ t => by rw [List.length_cons, List.length_cons, tr_len t]
theorem sh_told {n : Nat} {st : Nat → Nat} {mv : List (Nat × List Nat)} : Sh 60 (.tuple [dSt n st, .tuple (mv.map encM)]) :=
  sh_tup (k := 59) (pair_all (sh_tup (k := 58) (sh_tab fun i _ => sh_int _)) (sh_tup (k := 58) (sh_map fun p _ => sh_tup (k := 57) fun d hd => by
    simp only [List.mem_cons, List.not_mem_nil, or_false] at hd
    rcases hd with rfl | rfl | rfl
    · exact sh_ask
    · exact sh_int _
    · exact sh_tup (k := 56) (sh_map fun i _ => sh_int _))))
theorem sm_told {n m : Nat} {st : Nat → Nat} {mv : List (Nat × List Nat)} (hn : n ≤ 16) (hm : m ≤ 4) (h1 : ∀ y, y < n → st y ≤ m) (h2 : ∀ p ∈ mv, p.1 < n ∧ (∀ z ∈ p.2, z < n) ∧ p.2.length ≤ m) (h3 : mv.length ≤ 20) : Sm 1000000 (.tuple [dSt n st, .tuple (mv.map encM)]) := by
  refine sm_tup (L := 10000) (pair_all (sm_tup (L := 20) (fun d hd => ?_) (by rw [tab_len]; omega)) (sm_tup (L := 300) (fun d hd => ?_) (by rw [List.length_map]; omega))) (by simp)
  · obtain ⟨y, hy, rfl⟩ := tab_mem.mp hd
    exact sm_nat (by have := h1 y hy; omega)
  · obtain ⟨p, hp, rfl⟩ := List.mem_map.mp hd
    obtain ⟨q1, q2, q3⟩ := h2 p hp
    refine sm_tup (L := 92) (fun d hd => ?_) (by simp)
    simp only [List.mem_cons, List.not_mem_nil, or_false] at hd
    rcases hd with rfl | rfl | rfl
    · exact sm_mono sm_ask (by omega)
    · exact sm_mono (sm_nat (by omega)) (by omega)
    · refine sm_tup (L := 20) (fun d hd => ?_) (by rw [List.length_map]; omega)
      obtain ⟨z, hz, rfl⟩ := List.mem_map.mp hd
      exact sm_nat (by have := q2 z hz; omega)
theorem sm_ns {l : List Nat} (h1 : ∀ i ∈ l, i ≤ 200) (h2 : l.length ≤ 1000) : Sm 1000000 (.tuple (dNs l)) := sm_tup (L := 20) (fun d hd => by
  obtain ⟨z, hz, rfl⟩ := List.mem_map.mp hd
  exact sm_nat (h1 z hz)) (by rw [List.length_map]; omega)
section
variable {P : Program} {w : World} {K : PySem.W.Frag} {mg : Str → Option Value} {base : Heap}
abbrev N__law_first_known : List Str := ["_law_house_here", "_law_start_here", "_law_many", "_law_words", "_law_rooms", "_law_order", "_law_size", "_law_count"]
abbrev P__law_first_known : List Str := ["_law_house_here", "_law_start_here"]
theorem sc__law_first_known : FnScope N__law_first_known P__law_first_known (defScope (Hd.top 64)) := ⟨rfl, rfl, rfl, by decide +kernel, rfl, by decide +kernel, by decide +kernel⟩
abbrev Ok__law_first_known (P : Program) (w : World) (K : PySem.W.Frag) (mg : Str → Option Value) (base : Heap) : Prop := Hd.OkF P w K mg base 3 "_law_first_known" P__law_first_known (Pr K (α := Nat × Nat × (Nat → Nat) × Option (Nat → Nat)) (fun a => [dHouse a.1 a.2.1 a.2.2.1, dStart a.1 a.2.2.2]) (fun a => a.1 ≤ 101 ∧ 0 < a.2.1 ∧ a.2.1 ≤ 100 ∧ ∀ st, a.2.2.2 = some st → ∀ y, y < a.1 → st y ≤ a.2.1) (fun a => dKn a.1 a.2.1 (FK.firstK a.1 a.2.2.1 a.2.2.2)))
def Slots (d : List PD) (b : Addr) (G : List Sl) : Prop := ∃ s2 s3 s4 s5 s6 s7 s8 s9 s10 s11 s12 s13 s14 s15 : Sl, G = [.ls d, .ml b, s2, s3, s4, s5, s6, s7, s8, s9, s10, s11, s12, s13, s14, s15]
abbrev N_law : List Str := ["_law_script", "_law_bag_here", "_law_turn", "_law_house_here", "_law_start_here", "_law_row_here", "_law_known", "_law_ends", "_law_act", "_law_due", "_law_told", "_law_floors", "_law_again", "_law_state_here", "_law_floor", "_law_many"]
abbrev P_law : List Str := ["_law_script"]
theorem sc_law : FnScope N_law P_law (defScope (Hd.top 76)) := ⟨rfl, rfl, rfl, by decide +kernel, rfl, by decide +kernel, by decide +kernel⟩
abbrev Ok_law (P : Program) (w : World) (K : PySem.W.Frag) (mg : Str → Option Value) (base : Heap) : Prop := Hd.OkF P w K mg base 10 "law" P_law (PrS K (α := List Int) (fun a => a.map PyData.int) (fun a => a.length ≤ 63) (fun _ => .bool true))
theorem ok_law (Y : Hd.Ok K mg) (D__law_alike : Ok__law_alike P w K mg base) (D__law_bag : Ok__law_bag P w K mg base) (D__law_behind : Ok__law_behind P w K mg base) (D__law_drawn_floors : Ok__law_drawn_floors P w K mg base) (D__law_first_known : Ok__law_first_known P w K mg base) (D__law_floors_by : Ok__law_floors_by P w K mg base) (D__law_full_state : Ok__law_full_state P w K mg base) (D__law_is_begin : Ok__law_is_begin P w K mg base) (D__law_one : Ok__law_one P w K mg base) (D__law_pattern : Ok__law_pattern P w K mg base) (D__law_row : Ok__law_row P w K mg base) (D__law_some_house : Ok__law_some_house P w K mg base) (D__law_start : Ok__law_start P w K mg base) (D_best_run : Ok_best_run P w K mg base) (D_first_knowledge : Ok_first_knowledge P w K mg base) (D_greatest_pattern : Ok_greatest_pattern P w K mg base) (D_least_pattern : Ok_least_pattern P w K mg base) (D_worst_run : Ok_worst_run P w K mg base) : Ok_law P w K mg base := by
  refine mkPrS (i := 62) (j := 76) (k := 9) Y rfl rfl sc_law (fun _ _ _ _ _ _ us hl => match us, hl with | [_], _ => rfl) 15 rfl (fun _ => rfl) fun cdv A' outer s H E hr => ⟨_, (pss_cons (ps_set (i := 1) sc_law.nd rfl (Or.inl rfl) (Hd.pe_f D__law_bag (hr.mono (by decide)) (by rfl) (pa_cons (pv 0) pa_nil))) (pss_cons (ps_for PassesOwn.never rfl (pi_range1 (by rfl) (Y.free 75) (pa_cons pe_int pa_nil)) (pg_name (i := 2) sc_law.nd rfl (Or.inl rfl)) (pss_cons (ps_set (i := 3) sc_law.nd rfl (Or.inr rfl) (Hd.pe_f D__law_some_house (hr.mono (by decide)) (by rfl) (pa_cons (pv 1) (pa_cons (pe_lst (pa_cons pe_int (pa_cons pe_int (pa_cons pe_int pa_nil)))) pa_nil)))) (pss_cons (ps_asg (pe_tupN (pa_cons (Hd.pe_f D__law_start (hr.mono (by decide)) (by rfl) (pa_cons (pv 1) (pa_cons (pv 3) pa_nil))) (pa_cons (Hd.pe_f D__law_row (hr.mono (by decide)) (by rfl) (pa_cons (pv 1) (pa_cons (pv 3) (pa_cons (Hd.pe_f D__law_one (hr.mono (by decide)) (by rfl) (pa_cons (pv 1) (pa_cons (pe_lst (pa_cons pe_int (pa_cons pe_int (pa_cons pe_int pa_nil)))) pa_nil))) pa_nil)))) pa_nil))) (kg_tup (K := K) (n := 2) rfl rfl (pgs_cons (pg_name (i := 4) sc_law.nd rfl (Or.inr rfl)) (pgs_cons (pg_name (i := 5) sc_law.nd rfl (Or.inr rfl)) pgs_nil)))) (pss_cons (ps_par (i := 6) (j := 7) rfl sc_law.nd rfl rfl (by decide) rfl rfl (pa_cons (Hd.pe_f D_first_knowledge (hr.mono (by decide)) (by rfl) (pa_cons (pv 3) (pa_cons (pv 4) pa_nil))) (pa_cons (pe_lst pa_nil) pa_nil)) (by rfl)) (pss_cons (ps_for PassesOwn.never rfl (kp_seq (K := K) rfl (pe_tupN (pa_cons (pe_tupN (pa_cons (pe_glob (v := .ref (He.ga K "best_run")) (by rfl) (Y.glo 31) rfl) (pa_cons (pe_glob (v := .ref (He.ga K "least_pattern")) (by rfl) (Y.glo 24) rfl) pa_nil))) (pa_cons (pe_tupN (pa_cons (pe_glob (v := .ref (He.ga K "worst_run")) (by rfl) (Y.glo 32) rfl) (pa_cons (pe_glob (v := .ref (He.ga K "greatest_pattern")) (by rfl) (Y.glo 25) rfl) pa_nil))) pa_nil)))) (kg_tup (K := K) (n := 2) rfl rfl (pgs_cons (pg_name (i := 8) sc_law.nd rfl (Or.inl rfl)) (pgs_cons (pg_name (i := 9) sc_law.nd rfl (Or.inl rfl)) pgs_nil))) (pss_cons (ps_set (i := 10) sc_law.nd rfl (Or.inl rfl) (pe_held2 (i := 8) D_best_run D_worst_run (hr.mono (by decide)) (hr.mono (by decide)) rfl (Or.inl rfl) (pa_cons (pv 3) (pa_cons (pv 4) (pa_cons (pv 5) pa_nil))))) (pss_cons (ps_if (PW.pt (pw_or (pt_not (pt_val (pe_callB (kc_isi (K := K) rfl) (by rfl) (Y.free 70) bt_isinstance (pa_cons (pv 10) (pa_cons (pe_bltn (v := .ty "tuple") (by rfl) (Y.free 80) bt_tuple rfl) pa_nil))))) (pw_or (pt_cmpR (ko_ne (K := K) rfl hr) (pe_callB (kc_len (K := K) rfl) (by rfl) (Y.free 71) bt_len (pa_cons (pv 10) pa_nil)) pe_int (nomark _)) (pw_or1 (pt_not (pt_val (Hd.pe_f D__law_alike (hr.mono (by decide)) (by rfl) (pa_cons (pe_held2 (i := 8) D_best_run D_worst_run (hr.mono (by decide)) (hr.mono (by decide)) rfl (Or.inl rfl) (pa_cons (pv 3) (pa_cons (pv 4) (pa_cons (pv 5) pa_nil)))) (pa_cons (pv 10) pa_nil))))))))) (pss_one (ps_ret pe_bl)) pss_nil) (pss_cons (ps_if (pt_not (pt_val (Hd.pe_f D__law_is_begin (hr.mono (by decide)) (by rfl) (pa_cons (pv 3) (pa_cons (pv 4) (pa_cons (pe_ix (ki_seq (K := K) rfl) (pv 10) pe_int (fun _ _ => rfl)) pa_nil)))))) (pss_one (ps_ret pe_bl)) pss_nil) (pss_cons (ps_set (i := 11) sc_law.nd rfl (Or.inl rfl) (Hd.pe_f D__law_floors_by (hr.mono (by decide)) (by rfl) (pa_cons (pv 3) (pa_cons (pe_ix (ki_seq (K := K) rfl) (pv 10) pe_int (fun _ _ => rfl)) (pa_cons (pe_ix (ki_seq (K := K) rfl) (pv 10) pe_int (fun _ _ => rfl)) (pa_cons (pv 5) pa_nil)))))) (pss_cons (ps_if (PW.pt (pw_or (pt_cmp (pc_isN (pv 11))) (pw_or1 (pt_not (pt_val (Hd.pe_f D__law_alike (hr.mono (by decide)) (by rfl) (pa_cons (pe_held2 (i := 9) D_least_pattern D_greatest_pattern (hr.mono (by decide)) (hr.mono (by decide)) rfl (Or.inl rfl) (pa_cons (pv 3) (pa_cons (pv 6) (pa_cons (pv 5) pa_nil)))) (pa_cons (pv 11) pa_nil)))))))) (pss_one (ps_ret pe_bl)) pss_nil) (pss_one (ps_expr (ke_bm (K := K) rfl PySem.F.plainAttrs_list PySem.F.slot_list_append PySem.F.type_list_append mt_append (pv 7) (pa_cons (pv 11) pa_nil)))))))))) (pss_cons (ps_if (pt_cmpR (ko_ne (K := K) rfl hr) (pv 7) (pe_lc (own := [("_law_many", 15)]) rfl sc_law.nd (kp_seq (K := K) rfl (pe_tupN (pa_cons pe_int (pa_cons (pe_callB (kc_len (K := K) rfl) (by rfl) (Y.free 71) bt_len (pa_cons (pv 5) pa_nil)) pa_nil)))) (blkOk_by (by first | (change blkC N_law (defScope (Hd.top 76)) _ _ = true; decide +kernel) | rfl)) (fun _ _ _ _ _ => (pg_name (i := 15) sc_law.nd rfl (Or.inl rfl))) (fun _ _ _ _ _ => pts_nil) (fun _ _ _ _ _ => (pe_ix (ki_seq (K := K) rfl) (Hd.pe_f D__law_pattern (hr.mono (by decide)) (by rfl) (pa_cons (pv 3) (pa_cons (Hd.pe_f D__law_first_known (hr.mono (by decide)) (by rfl) (pa_cons (pv 3) (pa_cons (pv 4) pa_nil))) (pa_cons (pv 5) (pa_cons (pv 15) pa_nil))))) pe_int (fun _ _ => rfl)))) (nomark _)) (pss_one (ps_ret pe_bl)) pss_nil) (pss_one (ps_for PassesOwn.never rfl (pi_range1 (by rfl) (Y.free 75) (pa_cons pe_int pa_nil)) (pg_name (i := 12) sc_law.nd rfl (Or.inl rfl)) (pss_cons (ps_set (i := 13) sc_law.nd rfl (Or.inl rfl) (pe_ifExp (pt_cmp (pc_isN (pv 4))) (Hd.pe_f D__law_full_state (hr.mono (by decide)) (by rfl) (pa_cons (pv 1) (pa_cons (pv 3) pa_nil))) (pv 4))) (pss_cons (ps_set (i := 11) sc_law.nd rfl (Or.inl rfl) (Hd.pe_f D__law_drawn_floors (hr.mono (by decide)) (by rfl) (pa_cons (pv 1) (pa_cons (pv 3) (pa_cons (pv 13) (pa_cons (pv 5) pa_nil)))))) (pss_one (ps_for PassesOwn.never rfl (pi_range1 (by rfl) (Y.free 75) (pa_cons (pe_callB (kc_len (K := K) rfl) (by rfl) (Y.free 71) bt_len (pa_cons (pe_ix (ki_seq (K := K) rfl) (pv 3) pe_int (fun _ _ => rfl)) pa_nil)) pa_nil)) (pg_name (i := 14) sc_law.nd rfl (Or.inl rfl)) (pss_one (ps_if (pt_not (pt_chain op_le op_le (Hd.pe_f D__law_behind (hr.mono (by decide)) (by rfl) (pa_cons (pe_ix (ki_seq (K := K) rfl) (pv 7) pe_int (fun _ _ => rfl)) (pa_cons (pv 14) pa_nil))) (Hd.pe_f D__law_behind (hr.mono (by decide)) (by rfl) (pa_cons (pv 11) (pa_cons (pv 14) pa_nil))) (Hd.pe_f D__law_behind (hr.mono (by decide)) (by rfl) (pa_cons (pe_ix (ki_seq (K := K) rfl) (pv 7) pe_int (fun _ _ => rfl)) (pa_cons (pv 14) pa_nil))))) (pss_one (ps_ret pe_bl)) pss_nil)))))))))))))) (pss_one (ps_ret pe_bl)))), fun ns F0 H0 Q hp hQ => ?_⟩
  change Tr ⟨K, none, F0, H0, F0⟩ [.ls (ns.map PyData.int), .un, .un, .un, .un, .un, .un, .un, .un, .un, .un, .un, .un, .un, .un, .un] [] _ _
  have hl : ns.length ≤ 63 := hp
  refine t_seq (t_set (ee_l (el_callS ns (ev_ls rfl) hl)) fun b σ H h => h.go ?_)
  refine t_newbag (a := 0) (s := 1234567891) (i := 0) (cs := ns.map fun z : Int => (z.natAbs : Int)) ⟨by decide, by decide, by decide, by decide, fun z hz => ?_, by rw [List.length_map]; exact hl⟩ fun F1 H1 g1 n1 => ?_
  · obtain ⟨y, _, rfl⟩ := List.mem_map.mp hz
    exact Int.natCast_nonneg _
  refine t_seq (t_forT (n := 2) (src_range (n := 2) (ea_cons ev_int ea_nil) (by omega)) (fun c G ms => Slots (ns.map PyData.int) b G ∧ ms = []) ⟨⟨_, _, _, _, _, _, _, _, _, _, _, _, _, _, rfl⟩, rfl⟩ ?_ ?_)
  · rintro c hc Fl G ms ⟨⟨s2, s3, s4, s5, s6, s7, s8, s9, s10, s11, s12, s13, s14, s15, rfl⟩, rfl⟩
    refine tg_name fun σ H h => h.go ?_
    refine t_seq (t_set (ee_r (evp_b (b := b) () rfl (ea_cons (ev_m rfl) (ea_cons (EvL.data (el_lst (ds := dNs [6, 16, 10]) (ea_cons ev_int (ea_cons ev_int (ea_cons ev_int ea_nil))) (by simp))) ea_nil)) rfl trivial)) fun s hs => ?_)
    obtain ⟨d, ⟨n, m, r, rfl, hn, m1, m4, hr1⟩, rfl⟩ := hs
    refine fun σ H h => h.go ?_
    have r0 : 1 ≤ r 0 := hr1 0 (by omega)
    have m100 : m ≤ 100 := by omega
    have n101 : n ≤ 101 := by omega
    have n1000 : n ≤ 1000 := by omega
    refine t_seq (t_tup (ees_cons (ee_r (evp_b (b := b) (n, m, r) rfl (ea_cons (ev_m rfl) (ea_cons (ev_d rfl) ea_nil)) rfl (by exact ⟨n1000, m1, m100⟩))) (ees_cons (ee_r (P := fun s => ∃ row : List Nat, s = .dat (.tuple (dNs row)) ∧ (∀ x ∈ row, x < n) ∧ row.length ≤ 20) (evp_callB (b := b) rfl (eap_c (Ev.p (ev_m rfl)) (eap_c (Ev.p (ev_d rfl)) (eap_c (en_one (b := b) (k := 3) (P := fun v => v ≤ 20) rfl (ev_m rfl) (ens_cons (en_d (v := 6) ev_int (by omega)) (ens_cons (en_d (v := 12) ev_int (by omega)) (ens_cons (en_d (v := 20) ev_int (by omega)) ens_nil))) (by omega)) ea_nil))) fun ss hs => ?_)) ees_nil)) rfl (by decide) fun sa hsa sb hsb => ?_)
    · obtain ⟨sx, ss1, rfl, ⟨sy, ss2, rfl, ⟨sz, ss3, ⟨v, hv, rfl⟩, rfl, rfl⟩, rfl⟩, rfl⟩ := hs
      have v1000 : v ≤ 1000 := by omega
      refine ⟨(n, m, r, v), rfl, (by exact ⟨n1000, v1000⟩), fun d hd => ?_⟩
      obtain ⟨row, rfl, q1, q2⟩ := hd
      exact ⟨row, rfl, q1, Nat.le_trans q2 hv⟩
    obtain ⟨_, ⟨s, rfl, hs⟩, rfl⟩ := hsa
    obtain ⟨row, rfl, hrow, few⟩ := hsb
    have hs : FK.StartOk n m r s := hs
    refine ⟨rfl, tgs_name (tgs_name (tgs_nil fun σ H h => h.go ?_))⟩
    have cs : ∀ st, s = some st → ∀ y, y < n → st y ≤ m := fun st e y hy => by
      subst e
      exact FK.StOk.le hs y hy
    have ok := FK.firstK_ok m1 r0 hs
    have ro : RowOk n m r s row := ⟨by omega, m1, by omega, cs, ok, hrow, by omega⟩
    have rs := fun g => FK.rs_all g ok hrow
    refine t_seq (t_par (ees_cons (ee_d (ev_call ((n, m, r, s)) (EvA.is (ea_cons (ev_d rfl) (ea_cons (ev_d rfl) ea_nil)) rfl) (by exact ⟨n101, m1, m100, cs⟩))) (ees_cons (ee_l el_nil) ees_nil)) fun p => ⟨_, _, rfl, fun σ H h => h.go ?_⟩)
    refine t_seq (t_for22 (u := fun g => V.ref (if g then He.ga K "worst_run" else He.ga K "best_run")) (v := fun g => V.ref (if g then He.ga K "greatest_pattern" else He.ga K "least_pattern")) (fun g G ms => (∃ t8 t9 t10 t11 : Sl, G = [.ls (ns.map PyData.int), .ml b, .dat (dN c), .dat (dHouse n m r), .dat (dStart n s), .dat (.tuple (dNs row)), .dat (dKn n m (FK.firstK n r s)), .ml p, t8, t9, t10, t11, s12, s13, s14, s15]) ∧ ms = [(p, if g then [.tuple (dNs (FK.follow false n m r (FK.firstK n r s) row))] else [])]) (fun G ms => (∃ t8 t9 t10 t11 : Sl, G = [.ls (ns.map PyData.int), .ml b, .dat (dN c), .dat (dHouse n m r), .dat (dStart n s), .dat (.tuple (dNs row)), .dat (dKn n m (FK.firstK n r s)), .ml p, t8, t9, t10, t11, s12, s13, s14, s15]) ∧ ms = [(p, [.tuple (dNs (FK.follow false n m r (FK.firstK n r s) row)), .tuple (dNs (FK.follow true n m r (FK.firstK n r s) row))])]) ⟨⟨_, _, _, _, rfl⟩, rfl⟩ ?_ ?_)
    · rintro g Fl' G ms ⟨⟨t8, t9, t10, t11, rfl⟩, rfl⟩
      obtain ⟨f1, f2, f3, f4⟩ := rs g
      have mvl : (FK.rsM g n m r (FK.firstK n r s) row).length ≤ 20 := by
        have := congrArg List.length f4
        rw [List.length_map] at this
        omega
      have fl20 : (FK.follow g n m r (FK.firstK n r s) row).length = row.length := FK.follow_len g
      have ft := FK.follow_le g ok hrow
      have st := sm_told (m := m) hn m4 f2.le (FK.run_in f3) mvl
      refine t_seq (t_set (ee_d (ev_held (R := fun (g : Bool) (a : Nat × Nat × (Nat → Nat) × Option (Nat → Nat) × List Nat) => PyData.tuple [dSt a.1 (runS g a.1 a.2.1 a.2.2.1 a.2.2.2.1 a.2.2.2.2), .tuple ((runM g a.1 a.2.1 a.2.2.1 a.2.2.2.1 a.2.2.2.2).map encM)]) g (n, m, r, s, row) rfl (EvA.is (ea_cons (ev_d rfl) (ea_cons (ev_d rfl) (ea_cons (ev_d rfl) ea_nil))) rfl) ro)) fun σ H h => ?_)
      dsimp only
      refine h.go ?_
      refine t_seq (t_ifD (b := false) (EvT.is (et_or (et_not (et_B (ev_cb (ea_cons (ev_d rfl) (ea_cons ev_val ea_nil)) rc_isT))) fun hb => (et_or (et_test (ev_op (ev_cb (ea_cons (ev_d rfl) ea_nil) rc_lenT) ev_int rv_neUI)) fun hb => (et_not (et_B (Ev.is (s' := dB true) (ev_call [dSt n (runS g n m r s row), .tuple ((runM g n m r s row).map encM)] (EvA.is (ea_cons (ev_held (R := fun (g : Bool) (a : Nat × Nat × (Nat → Nat) × Option (Nat → Nat) × List Nat) => PyData.tuple [dSt a.1 (runS g a.1 a.2.1 a.2.2.1 a.2.2.2.1 a.2.2.2.2), .tuple ((runM g a.1 a.2.1 a.2.2.1 a.2.2.2.1 a.2.2.2.2).map encM)]) g (n, m, r, s, row) rfl (EvA.is (ea_cons (ev_d rfl) (ea_cons (ev_d rfl) (ea_cons (ev_d rfl) ea_nil))) rfl) ro) (ea_cons (ev_d rfl) ea_nil)) rfl) (by exact ⟨sh_told, st⟩)) rfl))))) rfl) (fun e => nomatch e) fun _ => t_next fun σ H h => h.go ?_)
      refine t_seq (t_ifD (b := false) (EvT.is (et_not (et_B (Ev.is (s' := dB true) (ev_call ((n, m, r, s, runS g n m r s row)) (EvA.is (ea_cons (ev_d rfl) (ea_cons (ev_d rfl) (ea_cons (ev_op (ev_d rfl) ev_int (rv_ixT (at_of (k := 0) rfl rfl))) ea_nil))) rfl) (by exact ⟨n101, m100, f2, FK.fit_begins hs f1⟩)) rfl))) rfl) (fun e => nomatch e) fun _ => t_next fun σ H h => h.go ?_)
      have pre1 : n ≤ 101 ∧ m ≤ 100 ∧ (runM g n m r s row).length ≤ 1000 ∧ FK.Run n m r (runS g n m r s row) (runM g n m r s row) (FK.follow g n m r (FK.firstK n r s) row) := ⟨n101, m100, by show (FK.rsM g n m r (FK.firstK n r s) row).length ≤ 1000; omega, f3⟩
      have arg1 : [Sl.dat (dHouse n m r), Sl.dat (dSt n (runS g n m r s row)), Sl.dat (.tuple ((runM g n m r s row).map encM)), Sl.dat (.tuple (dNs row))] = List.map Sl.dat [dHouse n m r, dSt n (runS g n m r s row), .tuple ((runM g n m r s row).map encM), .tuple (dNs ((runM g n m r s row).map (·.1)))] := by
        rw [show (runM g n m r s row).map (·.1) = row from f4]
        rfl
      dsimp only
      refine t_seq (t_set (ee_d (ev_call ((n, m, r, runS g n m r s row, runM g n m r s row, FK.follow g n m r (FK.firstK n r s) row)) (EvA.is (ea_cons (ev_d rfl) (ea_cons (ev_op (ev_d rfl) ev_int (rv_ixT (at_of (k := 0) rfl rfl))) (ea_cons (ev_op (ev_d rfl) ev_int (rv_ixT (at_of (k := 1) rfl rfl))) (ea_cons (ev_d rfl) ea_nil)))) arg1) pre1)) fun σ H h => ?_)
      dsimp only
      refine h.go (t_seq (t_ifD (b := false) (EvT.is (et_or (et_B (ev_isN (ev_d rfl))) fun hb => (et_not (et_B (Ev.is (s' := dB true) (ev_call (dNs (FK.follow g n m r (FK.firstK n r s) row)) (EvA.is (ea_cons (ev_held (R := fun (g : Bool) (a : Nat × Nat × (Nat → Nat) × FK.Kn × List Nat) => PyData.tuple (dNs (FK.follow g a.1 a.2.1 a.2.2.1 a.2.2.2.1 a.2.2.2.2))) g (n, m, r, FK.firstK n r s, row) rfl (EvA.is (ea_cons (ev_d rfl) (ea_cons (ev_d rfl) (ea_cons (ev_d rfl) ea_nil))) rfl) (by exact ⟨n101, m100, ro.len, ok, hrow⟩)) (ea_cons (ev_d rfl) ea_nil)) rfl) (by exact ⟨sh_tup (k := 59) (sh_map fun i _ => sh_int _), sm_ns (fun i hi => by have := ft i hi; omega) (by omega)⟩)) rfl)))) rfl) (fun e => nomatch e) fun _ => t_next fun σ H h => h.go ?_))
      refine t_appD (ev_m rfl) (ev_d rfl) (k := 0) rfl (by cases g <;> simp) fun σ H h => ?_
      cases g with
      | false => exact h.inv ⟨⟨_, _, _, _, rfl⟩, rfl⟩
      | true => exact h.inv ⟨⟨_, _, _, _, rfl⟩, rfl⟩
    · rintro G ms ⟨⟨t8, t9, t10, t11, rfl⟩, rfl⟩ σ H h
      dsimp only
      refine h.go ?_
      have pre2 : n ≤ 101 ∧ 0 < m ∧ m ≤ 100 ∧ ∀ st, s = some st → ∀ y, y < n → st y ≤ m := ⟨n101, m1, m100, cs⟩
      have pre3 : n ≤ 101 ∧ m ≤ 100 ∧ row.length ≤ 1000 ∧ FK.KOk n m r (FK.firstK n r s) ∧ ∀ x ∈ row, x < n := ⟨n101, m100, ro.len, ok, hrow⟩
      have shE : SeqAt.shaped (.list [.tuple (dNs (FK.follow false n m r (FK.firstK n r s) row)), .tuple (dNs (FK.follow true n m r (FK.firstK n r s) row))]) = true := (sh_lst (k := 1) (pair_all sh_ns sh_ns)).ok (by decide)
      have shR : PyData.eqv (.list [.tuple (dNs (FK.follow false n m r (FK.firstK n r s) row)), .tuple (dNs (FK.follow true n m r (FK.firstK n r s) row))]) (.list [.tuple (dNs (FK.follow false n m r (FK.firstK n r s) row)), .tuple (dNs (FK.follow true n m r (FK.firstK n r s) row))]) = true := (sh_lst (k := 1) (pair_all sh_ns sh_ns)).refl
      have rowl : (dNs row).length = row.length := List.length_map _
      refine t_seq (t_ifD (b := false) (EvT.is (et_test (ev_op (ev_m rfl) (EvL.data (el_map (α := Bool) (xs := [false, true]) (enc := fun g => dN (if g = true then row.length else 0)) (fun g => PyData.tuple (dNs (FK.follow g n m r (FK.firstK n r s) row))) (src_t (ev_tup2 (ea_cons ev_int (ea_cons (ev_cb (ea_cons (ev_d rfl) ea_nil) (rc_lenN (n := row.length) rowl)) ea_nil)))) hw0 (by simp) (fun a ha => tgc_name (by simp)) (fun a ha => (ev_op (ev_call (a, n, m, r, FK.firstK n r s, row) (EvA.is (ea_cons (ev_d rfl) (ea_cons (ev_call (n, m, r, s) (EvA.is (ea_cons (ev_d rfl) (ea_cons (ev_d rfl) ea_nil)) rfl) pre2) (ea_cons (ev_d rfl) (ea_cons (ev_d rfl) ea_nil)))) rfl) pre3) ev_int (rv_ixT (at_of (k := 0) rfl rfl)))))) (rv_neUM mem0 shE shE))) ?_) (fun e => nomatch e) fun _ => t_next fun σ H h => ?_)
      · show (!PyData.eqv _ _) = false
        rw [Bool.not_eq_false']
        exact shR
      dsimp only
      refine h.go ?_
      have fl20 := fun g => FK.follow_len g (n := n) (m := m) (r := r) (K := FK.firstK n r s) (row := row)
      refine t_forT (n := 4) (src_range (n := 4) (ea_cons ev_int ea_nil) (by omega)) (fun c' G ms => (∃ t8 t9 t10 t11 t12 t13 t14 : Sl, G = [.ls (ns.map PyData.int), .ml b, .dat (dN c), .dat (dHouse n m r), .dat (dStart n s), .dat (.tuple (dNs row)), .dat (dKn n m (FK.firstK n r s)), .ml p, t8, t9, t10, t11, t12, t13, t14, s15]) ∧ ms = [(p, [.tuple (dNs (FK.follow false n m r (FK.firstK n r s) row)), .tuple (dNs (FK.follow true n m r (FK.firstK n r s) row))])]) ⟨⟨_, _, _, _, _, _, _, rfl⟩, rfl⟩ ?_ ?_
      · rintro c' hc' Fl2 G ms ⟨⟨t8, t9, t10, t11, t12, t13, t14, rfl⟩, rfl⟩
        refine tg_name fun σ H h => h.go ?_
        refine t_seq (t_set (ee_r (P := fun z => ∃ st, z = .dat (dSt n st) ∧ FK.StOk n m r st ∧ (s = none → ∀ j, j < m → FK.cw n st j = FK.RW r j) ∧ ∀ st0, s = some st0 → st = st0) ?_) fun z hz => ?_)
        · cases s with
          | none =>
            have e1 : SM r m ≤ n := by
              have e2 : FK.RW r (m - 1) ≤ (n : Int) := hs
              rw [RW_SM, show m - 1 + 1 = m by omega] at e2
              omega
            refine evp_if (Pb := (· = true)) (EvT.is (et_B (ev_isN (ev_d rfl))) rfl) (fun hb => (evp_b (b := b) (n, m, r) rfl (ea_cons (ev_m rfl) (ea_cons (ev_d rfl) ea_nil)) rfl (by exact ⟨n1000, m100, e1⟩)).imp fun z hz => ?_) (fun hb => nomatch hb)
            obtain ⟨_, ⟨st, rfl, q1, q2⟩, rfl⟩ := hz
            exact ⟨st, rfl, q1, fun _ => q2, fun _ e => nomatch e⟩
          | some st => exact evp_if (Pb := (· = false)) (EvT.is (et_B (ev_isN (ev_d rfl))) rfl) (fun hb => nomatch hb) (fun hb => EvP.of (s := .dat (dSt n st)) (ev_d rfl) ⟨st, rfl, hs, (fun e => nomatch e), fun st0 e => Option.some.inj e⟩)
        obtain ⟨st, rfl, so, c1, c2⟩ := hz
        refine fun σ H h => ?_
        dsimp only
        refine h.go ?_
        refine t_seq (t_set (ee_r (evp_b (b := b) (n, m, r, st, row) rfl (ea_cons (ev_m rfl) (ea_cons (ev_d rfl) (ea_cons (ev_d rfl) (ea_cons (ev_d rfl) ea_nil)))) rfl (by exact ⟨n101, m100, hr1, so, hrow, ro.len⟩))) fun z hz => ?_)
        obtain ⟨_, ⟨fl, rfl, tr⟩, rfl⟩ := hz
        have tr : FK.Tr n m r st row fl := tr
        have eo := FK.ends_ok m1 r0 hs ⟨c1, c2⟩ tr
        have tl := tr_len tr
        refine fun σ H h => ?_
        dsimp only
        refine h.go ?_
        refine t_forT (n := m) (src_range (n := m) (ea_cons (ev_cb (ea_cons (ev_op (ev_d rfl) ev_int (rv_ixT (at_of (k := 1) rfl rfl))) ea_nil) rc_lenTT) ea_nil) (by omega)) (fun c2 G ms => (∃ t8 t9 t10 t12 t13 t14 : Sl, G = [.ls (ns.map PyData.int), .ml b, .dat (dN c), .dat (dHouse n m r), .dat (dStart n s), .dat (.tuple (dNs row)), .dat (dKn n m (FK.firstK n r s)), .ml p, t8, t9, t10, .dat (.tuple (dNs fl)), t12, t13, t14, s15]) ∧ ms = [(p, [.tuple (dNs (FK.follow false n m r (FK.firstK n r s) row)), .tuple (dNs (FK.follow true n m r (FK.firstK n r s) row))])]) ⟨⟨_, _, _, _, _, _, rfl⟩, rfl⟩ ?_ ?_
        · rintro j hj Fl3 G ms ⟨⟨t8, t9, t10, t12, t13, t14, rfl⟩, rfl⟩
          have lenF : ∀ g, (FK.follow g n m r (FK.firstK n r s) row).length ≤ 1000 := fun g => by rw [fl20 g]; omega
          refine tg_name fun σ H h => h.go ?_
          refine t_ifD (b := false) (EvT.is (et_not (et_test (ev_chain (ev_call (FK.follow false n m r (FK.firstK n r s) row, j) (EvA.is (ea_cons (ev_op (ev_m rfl) ev_int (rv_ixM mem0 (at_of (k := 0) rfl rfl))) (ea_cons (ev_d rfl) ea_nil)) rfl) (lenF false)) (ev_call (fl, j) (EvA.is (ea_cons (ev_d rfl) (ea_cons (ev_d rfl) ea_nil)) rfl) (by show fl.length ≤ 1000; omega)) rv_b (fun hb => (ev_call (FK.follow true n m r (FK.firstK n r s) row, j) (EvA.is (ea_cons (ev_op (ev_m rfl) ev_int (rv_ixM mem0 (at_of (k := 1) rfl rfl))) (ea_cons (ev_d rfl) ea_nil)) rfl) (lenF true))) (fun hb => rv_b)))) ?_) (fun e => nomatch e) fun _ => t_next fun σ H h => h.inv ⟨⟨_, _, _, _, _, _, rfl⟩, rfl⟩
          obtain ⟨q1, q2⟩ := eo j hj
          rw [decide_eq_true q1, decide_eq_true q2]
          rfl
        · rintro G ms ⟨⟨t8, t9, t10, t12, t13, t14, rfl⟩, rfl⟩ σ H h
          exact h.inv ⟨⟨_, _, _, _, _, _, _, rfl⟩, rfl⟩
      · rintro G ms ⟨⟨t8, t9, t10, t11, t12, t13, t14, rfl⟩, rfl⟩ σ H h
        exact (Pst.cut (ms1 := [(p, [.tuple (dNs (FK.follow false n m r (FK.firstK n r s) row)), .tuple (dNs (FK.follow true n m r (FK.firstK n r s) row))])]) (ms2 := []) h).inv ⟨⟨_, _, _, _, _, _, _, _, _, _, _, _, _, _, rfl⟩, rfl⟩
  · rintro G ms ⟨⟨s2, s3, s4, s5, s6, s7, s8, s9, s10, s11, s12, s13, s14, s15, rfl⟩, rfl⟩ σ H h
    refine Pst.go (u := tRet _) (D := { nx := fun _ H' => Q .non H', rt := Q }) h (t_retD (d := .bool true) ev_bl fun v F' H' g o => hQ v F' H' (g1.join n1 g) o)
end
end FW
end
section
set_option linter.all false
set_option maxRecDepth 100000
set_option maxHeartbeats 4000000
/-! dict(zip(tuple, list)). -/
namespace FW
open PySem PySem.Spec PyProof.Rows L2
section
variable {prog : Program} {w : World} {A : Around} {E : Value → Shared → Prop} {s : Shared} {z TI TO T i1 i2 : Addr} {fp1 fp2 : List Addr} {n1 n2 i : Nat} {P1 P2 : Nat → Value → Prop} {St1 St2 : Nat → Heap → Prop} {f : Bool} {oT : Obj} {Q : Option Value → Shared → Prop}
/-- zip's next pair, the last one being held -/
theorem zh_item (S : ZipSep2 z TI TO i1 i2 fp1 fp2) (D1 : Draws prog w A.in1 i1 fp1 n1 P1 St1) (D2 : Draws prog w A.in1 i2 fp2 n2 P2 St2) (hz : IsZipHeld s.heap z TI TO T f) (hT : s.heap.get? T = some oT) (hTI : IsTupOf2 s.heap TI (.ref i1) (.ref i2)) (st1 : St1 i s.heap) (st2 : St2 i s.heap) (l1 : i < n1) (l2 : i < n2)
    (q : ∀ x1 x2 h' tk, P1 i x1 → P2 i x2 → IsZipHeld h' z TI TO T true → St1 (i + 1) h' → St2 (i + 1) h' → IsTupOf2 h' s.heap.objs.size x1 x2 → (∀ c o, c ≠ z → c ≠ i1 → c ≠ i2 → s.heap.get? c = some o → h'.get? c = some o) → Q (some (.ref s.heap.objs.size)) { s with heap := h', toks := tk }) :
    wpAny (model prog w) A (pyNext (.ref z)) Q E s := by
  obtain ⟨hp, gg, dd, tk, os⟩ := s
  have ty : Shared.TypeIs ⟨hp, gg, dd, tk, os⟩ (.ref z) "zip" := ⟨_, hz, rfl⟩
  unfold pyNext
  refine wpAny_bind (wpAny_attempt (wpAny_callSpecial?_slot (name := Str.ofString "__next__") ty F.slot_zip_next (wpAny_call_entry F.slot_zip_next ty F.entry_zip_next (wpAny_mono (Q := fun fin s' => ∃ v, fin = .done (.ret v) ∧ Q (some v) s') (E := fun _ _ => False) ?_ (fun fin s' h => ?_) fun _ _ h => h.elim) (F.args_zip_next_1 _))))
  · refine wpAny_bind (m := field (.ref z) 2) (wpAny_field hz rfl (x := .bool false) rfl ?_)
    refine wpAny_bind (m := field (.ref z) 3) (wpAny_field hz rfl (x := .ref TI) rfl ?_)
    refine wpAny_bind (wpAny_seqItems hTI rfl ?_)
    refine wpAny_bind (m := Builtin.SmallTypes.ownedTupleIsFree (.ref z)) (wpAny_tupleHeld_zip hz hT fun h1 hz1 hs1 => ?_)
    replace hs1 : Heap.SameBut z hp h1 := hs1
    simp only [Bool.false_eq_true, if_false]
    refine wpAny_bind ?_
    rw [← Array.forIn_toList]
    simp only [List.forIn_cons, List.forIn_nil]
    refine wpAny_bind (wpAny_bind (wpAny_holding ?_))
    refine wpAny_bind (m := Builtin.SmallTypes.nextOf (.ref i1)) (D1.item i ⟨h1, gg, dd, tk, os⟩ _ _ l1 (D1.over st1 hs1 S.zf1) fun x1 h2 t2 px1 sn1 hs2 => wpAny_pure ?_)
    replace hs2 : Heap.SameBut i1 h1 h2 := hs2
    refine wpAny_pure ?_
    refine wpAny_bind (wpAny_bind (wpAny_holding ?_))
    refine wpAny_bind (m := Builtin.SmallTypes.nextOf (.ref i2)) (D2.item i ⟨h2, gg, dd, t2, os⟩ _ _ l2 (D2.over (D2.over st2 hs1 S.zf2) hs2 S.sep1_2) fun x2 h3 t3 px2 sn2 hs3 => wpAny_pure ?_)
    replace hs3 : Heap.SameBut i2 h2 h3 := hs3
    refine wpAny_pure (wpAny_pure ?_)
    refine wpAny_bind (m := newTuple [x1, x2]) (wpAny_newTuple ?_)
    have sz : h3.objs.size = hp.objs.size := by rw [hs3.1, hs2.1, hs1.1]
    have kp : ∀ c o, c ≠ z → c ≠ i1 → c ≠ i2 → hp.get? c = some o → (h3.push { cls := .type "tuple", data := .seq #[x1, x2] }).get? c = some o := fun c o c1 c2 c3 e => Heap.get?_push_of_some _ (hs3.extBut _ _ c3 (hs2.extBut _ _ c2 (hs1.extBut _ _ c1 e)))
    have hz3 : IsZipHeld (h3.push { cls := .type "tuple", data := .seq #[x1, x2] }) z TI TO T true := Heap.get?_push_of_some _ (hs3.extBut _ _ S.zi2 (hs2.extBut _ _ S.zi1 hz1))
    have hT3 : IsTupOf2 (h3.push { cls := .type "tuple", data := .seq #[x1, x2] }) h3.objs.size x1 x2 := Heap.get?_push_size _ rfl
    have a1 : St1 (i + 1) (h3.push { cls := .type "tuple", data := .seq #[x1, x2] }) := D1.frame _ _ _ (D1.over sn1 hs3 S.sep2_1) fun b _ o e => Heap.get?_push_of_some _ e
    have a2 : St2 (i + 1) (h3.push { cls := .type "tuple", data := .seq #[x1, x2] }) := D2.frame _ _ _ sn2 fun b _ o e => Heap.get?_push_of_some _ e
    refine wpAny_pure ⟨_, rfl, ?_⟩
    show Q (some (.ref h3.objs.size)) _
    rw [sz] at hT3 ⊢
    exact q x1 x2 _ t3 px1 px2 hz3 a1 a2 hT3 kp
  · obtain ⟨v, rfl, h⟩ := h
    exact ⟨v, rfl, wpAny_pure h⟩
/-- its end, where the first is through -/
theorem zh_end {Q : Option Value → Shared → Prop} (S : ZipSep2 z TI TO i1 i2 fp1 fp2) (D1 : Draws prog w A.in1 i1 fp1 n1 P1 St1) (hz : IsZipHeld s.heap z TI TO T f) (hT : s.heap.get? T = some oT) (hTI : IsTupOf2 s.heap TI (.ref i1) (.ref i2)) (st1 : St1 n1 s.heap)
    (q : ∀ h', (∀ c o, c ≠ z → c ≠ i1 → s.heap.get? c = some o → h'.get? c = some o) → Q none { s with heap := h' }) : wpAny (model prog w) A (pyNext (.ref z)) Q E s := by
  obtain ⟨hp, gg, dd, tk, os⟩ := s
  have ty : Shared.TypeIs ⟨hp, gg, dd, tk, os⟩ (.ref z) "zip" := ⟨_, hz, rfl⟩
  unfold pyNext
  refine wpAny_bind (wpAny_attempt (wpAny_callSpecial?_slot (name := Str.ofString "__next__") ty F.slot_zip_next (wpAny_call_entry F.slot_zip_next ty F.entry_zip_next ?_ (F.args_zip_next_1 _))))
  refine wpAny_bind (m := field (.ref z) 2) (wpAny_field hz rfl (x := .bool false) rfl ?_)
  refine wpAny_bind (m := field (.ref z) 3) (wpAny_field hz rfl (x := .ref TI) rfl ?_)
  refine wpAny_bind (wpAny_seqItems hTI rfl ?_)
  refine wpAny_bind (m := Builtin.SmallTypes.ownedTupleIsFree (.ref z)) (wpAny_tupleHeld_zip hz hT fun h1 hz1 hs1 => ?_)
  replace hs1 : Heap.SameBut z hp h1 := hs1
  simp only [Bool.false_eq_true, if_false]
  refine wpAny_bind ?_
  rw [← Array.forIn_toList]
  simp only [List.forIn_cons, List.forIn_nil]
  refine wpAny_bind (wpAny_bind (wpAny_holding ?_))
  refine wpAny_bind (m := Builtin.SmallTypes.nextOf (.ref i1)) (D1.done ⟨h1, gg, dd, tk, os⟩ _ _ (D1.over st1 hs1 S.zf1) fun h2 e eb he => ?_)
  replace eb : Heap.ExtBut i1 h1 h2 := eb
  obtain ⟨o, ho, hc⟩ := he
  refine wpAny_bind (wpAny_isInstance (T := "StopIteration") (b := true) ⟨o, ho, hc⟩ isSubtype_stop ?_)
  exact wpAny_pure (q h2 fun c o c1 c2 x => eb _ _ c2 (hs1.extBut _ _ c1 x))
end
section
variable {prog : Program} {w : World}
/-- zip of two equally long rows of any kind, as an argument of dict -/
theorem zipArg (k l : Bool) (z TI TO i1 i2 a b : Addr) (S : ZipSep2 z TI TO i1 i2 [i1, a] [i2, b]) (xs ys : List Value) (he : ys.length = xs.length) :
    PairArg prog w "zip" z [z, TI, TO, i1, i2, a, b] [z, TO, i1, i2] xs.length (fun i p q => xs[i]? = some p ∧ ys[i]? = some q)
      (fun h => IsZip h z TI TO .none ∧ IsTupOf2 h TI (.ref i1) (.ref i2) ∧ (∃ x y, IsTupOf2 h TO x y) ∧ hIt k h i1 a 0 ∧ hIt l h i2 b 0 ∧ hIs k h a xs.toArray ∧ hIs l h b ys.toArray) where
  type := fun s h => ⟨_, h.1, rfl⟩
  notDict := by decide
  keep := fun h h' ok kp => by
    obtain ⟨h1, h2, ⟨x, y, h3⟩, h4, h5, h6, h7⟩ := ok
    exact ⟨kp _ _ h1, kp _ _ h2, ⟨x, y, kp _ _ h3⟩, hIt_at h4 fun o => kp _ o, hIt_at h5 fun o => kp _ o, hIs_at h6 fun o => kp _ o, hIs_at h7 fun o => kp _ o⟩
  there := fun h ok c hc => by
    obtain ⟨h1, h2, ⟨x, y, h3⟩, h4, h5, h6, h7⟩ := ok
    obtain ⟨o4, e4, _⟩ := hIt_obj h4
    obtain ⟨o5, e5, _⟩ := hIt_obj h5
    obtain ⟨o6, n6, e6, _⟩ := hIs_obj h6
    obtain ⟨o7, n7, e7, _⟩ := hIs_obj h7
    simp only [List.mem_cons, List.not_mem_nil, or_false] at hc
    rcases hc with rfl | rfl | rfl | rfl | rfl | rfl | rfl
    · exact ⟨_, h1⟩
    · exact ⟨_, h2⟩
    · exact ⟨_, h3⟩
    · exact ⟨_, e4⟩
    · exact ⟨_, e5⟩
    · exact ⟨_, e6⟩
    · exact ⟨_, e7⟩
  sub := fun c hc => by
    simp only [List.mem_cons, List.not_mem_nil, or_false] at hc ⊢
    rcases hc with h | h | h | h <;> simp [h]
  noKeys := fun A s Q E hA ok h => getAttrOr_miss_zip ok.1 rfl rfl rfl zip_no_keys (by decide +kernel) hA h
  iter := fun A s d Q E hA ok hd hdf h => by
    obtain ⟨h1, h2, ⟨x, y, h3⟩, h4, h5, h6, h7⟩ := ok
    simp only [List.mem_cons, List.not_mem_nil, or_false, not_or] at hdf
    obtain ⟨dz, dI, dO, d1, d2, da, db⟩ := hdf
    have D1 := drawsQ (prog := prog) (w := w) (A := A.in1) k hA i1 a (hI_ne h4 h6) xs.toArray
    have D2 := drawsQ (prog := prog) (w := w) (A := A.in1) l hA i2 b (hI_ne h5 h7) ys.toArray
    refine wpAny_pyIter_zip h1 (h z [z, TO, i1, i2] (fun i h => IsTupOf2 h TI (.ref i1) (.ref i2) ∧ (hIt k h i1 a i ∧ hIs k h a xs.toArray) ∧ (hIt l h i2 b i ∧ hIs l h b ys.toArray) ∧
      ((IsZip h z TI TO .none ∧ ∃ x y, IsTupOf2 h TO x y) ∨ ∃ T f oT, IsZipHeld h z TI TO T f ∧ h.get? T = some oT ∧ T ≠ z ∧ T ≠ i1 ∧ T ≠ i2 ∧ T ≠ d)) s.heap s.toks ?_ ⟨h2, ⟨h4, h6⟩, ⟨h5, h7⟩, .inl ⟨h1, x, y, h3⟩⟩ (fun _ _ e => e) fun c hc => .inl hc)
    refine ⟨fun hm => ?_, fun i u u' st kp => ?_, fun i s1 Q1 E1 hi st hds q => ?_, fun s1 Q1 E1 st q => ?_⟩
    · simp only [List.mem_cons, List.not_mem_nil, or_false] at hm
      rcases hm with e | e | e | e
      · exact dz e
      · exact dO e
      · exact d1 e
      · exact d2 e
    · obtain ⟨t1, ⟨t2, t3⟩, ⟨t4, t5⟩, tz⟩ := st
      refine ⟨kp _ _ (Ne.symm dI) t1, ⟨hIt_at t2 fun o => kp _ o (Ne.symm d1), hIs_at t3 fun o => kp _ o (Ne.symm da)⟩, ⟨hIt_at t4 fun o => kp _ o (Ne.symm d2), hIs_at t5 fun o => kp _ o (Ne.symm db)⟩, ?_⟩
      rcases tz with ⟨q1, v1, v2, q2⟩ | ⟨T, f, oT, q1, q2, r1, r2, r3, r4⟩
      · exact .inl ⟨kp _ _ (Ne.symm dz) q1, v1, v2, kp _ _ (Ne.symm dO) q2⟩
      · exact .inr ⟨T, f, oT, kp _ _ (Ne.symm dz) q1, kp _ _ r4 q2, r1, r2, r3, r4⟩
    · obtain ⟨t1, t2, t4, tz⟩ := st
      have lx : i < xs.toArray.size := by simpa using hi
      have ly : i < ys.toArray.size := by simpa [he] using hi
      obtain ⟨o4, e4, _⟩ := hIt_obj t2.1
      obtain ⟨o5, e5, _⟩ := hIt_obj t4.1
      have ne : ∀ {c : Addr} {o : Obj}, s1.heap.get? c = some o → s1.heap.objs.size ≠ c := fun e => Nat.ne_of_gt (Heap.lt_size e)
      rcases tz with ⟨q1, v1, v2, q2⟩ | ⟨T, f, oT, q1, q2, r1, r2, r3, r4⟩
      · refine wpAny_pyNext_zipD2_item S D1 D2 q1 t1 q2 t2 t4 lx ly fun x1 x2 h' tk p1 p2 z' TO' s1' s2' hT hsz kp => ?_
        exact q s1.heap.objs.size x1 x2 h' tk ⟨by simpa using p1, by simpa using p2⟩ (.inl ⟨_, hT, rfl, _, rfl⟩) ⟨kp _ _ S.TIz S.TITO S.TIi1 S.TIi2 t1, s1', s2', .inr ⟨s1.heap.objs.size, false, _, z', hT, ne q1, ne e4, ne e5, Nat.ne_of_gt hds⟩⟩
          fun c o hc e => kp c o (fun x => hc (by simp [x])) (fun x => hc (by simp [x])) (fun x => hc (by simp [x])) (fun x => hc (by simp [x])) e
      · refine zh_item S D1 D2 q1 q2 t1 t2 t4 lx ly fun x1 x2 h' tk p1 p2 z' s1' s2' hT kp => ?_
        exact q s1.heap.objs.size x1 x2 h' tk ⟨by simpa using p1, by simpa using p2⟩ (.inl ⟨_, hT, rfl, _, rfl⟩) ⟨kp _ _ S.TIz S.TIi1 S.TIi2 t1, s1', s2', .inr ⟨T, true, oT, z', kp _ _ r1 r2 r3 q2, r1, r2, r3, r4⟩⟩
          fun c o hc e => kp c o (fun x => hc (by simp [x])) (fun x => hc (by simp [x])) (fun x => hc (by simp [x])) e
    · obtain ⟨t1, t2, t4, tz⟩ := st
      rcases tz with ⟨q1, v1, v2, q2⟩ | ⟨T, f, oT, q1, q2, r1, r2, r3, r4⟩
      · refine wpAny_pyNext_zipD2_end S D1 D2 q1 t1 q2 (i := xs.length) t2 t4 (by simp) (by simp [he]) (.inl (by simp)) fun h' tk kp => ?_
        exact q h' tk fun c o hc e => kp c o (fun x => hc (by simp [x])) (fun x => hc (by simp [x])) (fun x => hc (by simp [x])) (fun x => hc (by simp [x])) e
      · refine zh_end S D1 q1 q2 t1 (by simpa using t2) fun h' kp => ?_
        exact q h' _ fun c o hc e => kp c o (fun x => hc (by simp [x])) (fun x => hc (by simp [x])) e
end
end FW
end
section
set_option linter.all false
set_option maxRecDepth 100000
set_option maxHeartbeats 4000000
/-! dict(zip(a, b)) over the frame; d[k] of a dict that stands. -/
namespace FW
open PySem PySem.Spec PyProof.Rows L2
def kvsOf (ns : List Int) (ys : List V) : List (Key × V) := (ns.zip ys).map fun q => (.inl q.1, q.2)
theorem kv_of (P : Program) (w : World) : ∀ {ns : List Int} {ys : List V} {us ws : List Value}, Vals (ns.map V.int) us → Vals ys ws → ys.length = ns.length → ∃ prs : List (Key × Value), KV (kvsOf ns ys) prs ∧ prs.length = us.length ∧ ∀ (i : Nat) (p q : Value), us[i]? = some p → ws[i]? = some q → ∃ k, prs[i]? = some (k, q) ∧ (mixKind P w).is k p = true
  | [], [], _, _, .nil, .nil, _ => ⟨[], .nil, rfl, fun i p q e => by simp at e⟩
  | n :: ns, y :: ys, u :: us, v :: ws, .cons h1 t1, .cons h2 t2, hl => by
    obtain ⟨prs, a, b, c⟩ := kv_of P w (ns := ns) t1 t2 (by simpa using hl)
    refine ⟨(.inl n, v) :: prs, .cons ⟨rfl, h2⟩ a, by rw [List.length_cons, List.length_cons, b], fun i p q e1 e2 => ?_⟩
    cases i with
    | zero =>
      obtain rfl : u = p := by simpa using e1
      obtain rfl : v = q := by simpa using e2
      exact ⟨.inl n, rfl, kV_is (P := P) (w := w) (k := .inl n) h1⟩
    | succ i => exact c i p q (by simpa using e1) (by simpa using e2)
def tDictZip (K : PySem.W.Frag) (ta : TA) : TE := fun σ H Q => ta σ H fun vs H1 => ∃ k l a b ns ys, vs = [.ref a, .ref b] ∧ SqQ k K H1 a (List.map V.int ns) ∧ SqQ l K H1 b ys ∧ ys.length = ns.length ∧ ∀ p, H1 p = none → Q (.ref p) (upd H1 p (.dK (mergeK [] (kvsOf ns ys))))
theorem pe_dictZip {X : Cx} {e e2 : Expr} {ta : TA} {p p2 pos pos2 : Pos} (calm : X.calm = true) (hg : Gl X "dict") (hm : X.mg "dict" = none) (hg2 : Gl X "zip") (hm2 : X.mg "zip" = none) (ha : PA X [e, e2] ta)
    (hd : starEach [.Call (.Name "zip" p2) [e, e2] [] pos2] X.env = (false, eval (.Call (.Name "zip" p2) [e, e2] [] pos2) X.env) :: starEach [] X.env := by rfl)
    (hs : starEach [e, e2] X.env = (false, eval e X.env) :: starEach [e2] X.env := by rfl) (hpl : (backTo pos2 (starEach [e2] X.env)).any (·.1) = false := by rfl) :
    PE X (.Call (.Name "dict" p) [.Call (.Name "zip" p2) [e, e2] [] pos2] [] pos) (tDictZip X.K ta) := by
  refine ⟨fun pins s σ H Q IV h => ?_⟩
  refine Call_ (ld_blt IV hg hm bt_dict (PyProof.Rows.callWith_type1 ?_ hd rfl))
  rw [hd]
  refine Calls.spliced_cons ?_
  refine Call_ (ld_blt IV hg2 hm2 PyProof.Rows.boot_zip (PyProof.Rows.callWith_type1 (thn (ha.run pos2 pins s σ H _ IV h) fun us s1 ⟨vs, H1, I1, r1, q1⟩ => ?_) hs hpl))
  obtain ⟨k, l, a, b, ns, ys, rfl, hqx, hqy, hlen, q⟩ := q1
  obtain ⟨u1, u2, rfl, r2, r3⟩ := Vals.two r1
  obtain rfl : u1 = Value.ref a := r2
  obtain rfl : u2 = Value.ref b := r3
  obtain ⟨its, rv, p1, sz⟩ := invQ I1 hqx
  obtain ⟨its2, rv2, p2, _⟩ := invQ I1 hqy
  have la : a < s1.heap.objs.size := by obtain ⟨o, n, e1, _⟩ := hIs_obj p1; exact Heap.lt_size e1
  have lb : b < s1.heap.objs.size := by obtain ⟨o, n, e1, _⟩ := hIs_obj p2; exact Heap.lt_size e1
  have l1 := rv.length
  have l2 := rv2.length
  rw [List.length_map] at l1 sz
  refine zip_begins2 (beginsQ k a its.toArray) (beginsQ l b its2.toArray) p1 p2 fun h' hz hTI hTO h1 h2 hsz kp => Calls.spliced_nil ?_
  obtain ⟨prs, kv, pl, pr⟩ := kv_of X.prog X.w rv rv2 hlen
  have big := I1.big
  have fresh : ∀ c ∈ [s1.heap.objs.size + 4, s1.heap.objs.size + 3, s1.heap.objs.size, s1.heap.objs.size + 1], s1.heap.objs.size ≤ c := fun c hc => by
    simp only [List.mem_cons, List.not_mem_nil, or_false] at hc
    omega
  refine PySem.call_dict_pairs (s := { s1 with heap := h' }) (knd := mixKind X.prog X.w) (zipArg k l (s1.heap.objs.size + 4) (s1.heap.objs.size + 2) (s1.heap.objs.size + 3) s1.heap.objs.size (s1.heap.objs.size + 1) a b (zip_sep2 (fp1 := [a]) (fp2 := [b]) (fun c hc => by rw [List.mem_singleton.mp hc]; exact la) (fun c hc => by rw [List.mem_singleton.mp hc]; exact lb)) its its2 (by omega)) (IV.ok.hd calm) ⟨hz, hTI, ⟨_, _, hTO⟩, hIt_new h1, hIt_new h2, hIs_at p1 fun o => kp _ o, hIs_at p2 fun o => kp _ o⟩ ⟨pl, fun i p q hh => pr i p q hh.1 hh.2⟩ (by omega) fun h3 tk hd' kp2 => ?_
  have kp3 : ∀ c o, s1.heap.get? c = some o → h3.get? c = some o := fun c o e => kp2 c o (fun hc => absurd (Heap.lt_size e) (Nat.not_lt.mpr (fresh c hc))) (kp c o e)
  have ge : s1.heap.objs.size ≤ h'.objs.size := by rw [hsz]; omega
  have hm : (h'.objs.size == sysModules) = false := beq_eq_false_iff_ne.mpr (Nat.ne_of_gt (Nat.lt_of_lt_of_le big ge))
  have few : (mergeK [] (kvsOf ns ys)).length ≤ sizeLine := by
    refine Nat.le_trans (length_mergeK _ []) ?_
    unfold kvsOf
    rw [List.length_map, List.length_zip]
    show 0 + _ ≤ _
    omega
  exact ⟨.ref h'.objs.size, upd H1 h'.objs.size (.dK (mergeK [] (kvsOf ns ys))), I1.laid (t' := tk) kp3 ge (show ObjOk X.prog X.w _ _ _ (.dK _) from ⟨few, hm, merged [] prs, KV.merge kv .nil, hd'⟩), rfl, q _ (I1.hok.fresh ge)⟩
theorem ke_dictZip {X : Cx} {K : PySem.W.Frag} {e e2 : Expr} {ta : TA} {p p2 pos pos2 : Pos} (eK : X.K = K) (calm : X.calm = true) (hg : Gl X "dict") (hm : X.mg "dict" = none) (hg2 : Gl X "zip") (hm2 : X.mg "zip" = none) (ha : PA X [e, e2] ta)
    (hd : starEach [.Call (.Name "zip" p2) [e, e2] [] pos2] X.env = (false, eval (.Call (.Name "zip" p2) [e, e2] [] pos2) X.env) :: starEach [] X.env := by rfl)
    (hs : starEach [e, e2] X.env = (false, eval e X.env) :: starEach [e2] X.env := by rfl) (hpl : (backTo pos2 (starEach [e2] X.env)).any (·.1) = false := by rfl) :
    PE X (.Call (.Name "dict" p) [.Call (.Name "zip" p2) [e, e2] [] pos2] [] pos) (tDictZip K ta) := by subst eK; exact pe_dictZip calm hg hm hg2 hm2 ha hd hs hpl
theorem mergeK_new : ∀ {kvs acc : List (Key × V)}, (∀ p ∈ kvs, ∀ q ∈ acc, q.1 ≠ p.1) → (kvs.map (·.1)).Nodup → mergeK acc kvs = acc ++ kvs
  | [], acc, _, _ => by simp [mergeK]
  | p :: kvs, acc, h, nd => by
    rw [List.map_cons, List.nodup_cons] at nd
    have e1 : putK acc p.1 p.2 = acc ++ [p] := by
      unfold putK
      rw [if_neg]
      intro e
      obtain ⟨q, hq, e2⟩ := List.any_eq_true.mp e
      exact h p (by simp) q hq (of_decide_eq_true e2)
    have := mergeK_new (kvs := kvs) (acc := acc ++ [p]) (fun r hr q hq => by
      rcases List.mem_append.mp hq with hq | hq
      · exact h r (by simp [hr]) q hq
      · rw [List.mem_singleton.mp hq]
        exact fun z => nd.1 (by rw [z]; exact List.mem_map.mpr ⟨r, hr, rfl⟩)) nd.2
    show mergeK (putK acc p.1 p.2) kvs = _
    rw [e1, this, List.append_assoc]
    rfl
theorem kvs_keys : ∀ {l : List Nat} {ys : List V}, ys.length = l.length → (kvsOf (l.map fun x : Nat => (x : Int)) ys).map (·.1) = l.map fun x : Nat => (.inl (x : Int) : Key)
  | [], [], _ => rfl
  | x :: l, y :: ys, h => by
    have := kvs_keys (l := l) (ys := ys) (by simpa using h)
    exact congrArg (List.cons _) this
theorem kvs_nd {l : List Nat} {ys : List V} (h : ys.length = l.length) (nd : l.Nodup) : mergeK [] (kvsOf (l.map fun x : Nat => (x : Int)) ys) = kvsOf (l.map fun x : Nat => (x : Int)) ys := by
  have := mergeK_new (kvs := kvsOf (l.map fun x : Nat => (x : Int)) ys) (acc := []) (fun p _ q hq => by simp at hq) (by
    rw [kvs_keys h]
    exact List.pairwise_map.mpr (nd.imp fun {a b} hab e => hab (by
      have := Sum.inl.inj e
      omega)))
  rw [this, List.nil_append]
theorem kvs_val {y : Nat} {v : V} : ∀ {l : List Nat} {ys : List V}, ys[l.idxOf y]? = some v → y ∈ l → valV (kvsOf (l.map fun x : Nat => (x : Int)) ys) (.inl (y : Int)) = some v
  | [], _, _, h => by simp at h
  | x :: l, [], e, _ => by simp at e
  | x :: l, u :: ys, e, h => by
    show valV ((.inl (x : Int), u) :: kvsOf (l.map fun x : Nat => (x : Int)) ys) _ = _
    by_cases z : x = y
    · subst z
      rw [List.idxOf_cons_self] at e
      rw [valV_pos rfl]
      simpa using e
    · rw [List.idxOf_cons, beq_false_of_ne z, cond_false] at e
      rw [valV_neg fun q => z (by have := Sum.inl.inj q; omega)]
      exact kvs_val (by simpa using e) (by
        rcases List.mem_cons.mp h with q | q
        · exact absurd q.symm z
        · exact q)
section
variable {C : Cn} {G : List Sl} {ms : Ms} {te ta tb : TE} {tr : TA}
theorem ev_dict {i : Nat} {kvs : List (Key × V)} (h : G[i]? = some (.dk kvs)) : Ev C (tVar i) G ms (.dk kvs) := ev_var h nofun
theorem ev_dictZip {ns js : List Int} (h : EvA C tr G ms [.dat (.tuple (ns.map PyData.int)), .dat (.list (js.map PyData.int))]) (hl : js.length = ns.length) : Ev C (tDictZip C.K tr) G ms (.dk (mergeK [] (kvsOf ns (js.map V.int)))) := fun F H σ S Q q =>
  h F H σ S _ fun ss vs F1 H1 e g k => by
    subst e
    obtain ⟨v, u, rfl, k1, k2⟩ := sls2 k
    obtain ⟨a, xs, rfl, h1, h2⟩ := dp_tup k1
    obtain ⟨b, ys, rfl, h3, h4⟩ := dp_list k2
    obtain rfl := dps_ints h2
    obtain rfl := dps_ints h4
    refine ⟨true, false, a, b, ns, js.map V.int, rfl, same_t g.ex h1, same_l g.ex h3, by rw [List.length_map]; exact hl, fun p hn => ?_⟩
    exact q _ _ _ _ rfl (g.trans (Go.new g.ex hn)) ⟨p, rfl, upd_same⟩
theorem ev_dget {kvs : List (Key × V)} {i j : Int} (h1 : Ev C ta G ms (.dk kvs)) (h2 : Ev C tb G ms (dI i)) (hv : valV kvs (.inl i) = some (.int j)) : Ev C (tDGet ta tb) G ms (dI j) := fun F H σ S Q q =>
  h1 F H σ S _ fun s v F1 H1 e g k => h2 F1 H1 σ (S.go g) _ fun s2 v2 F2 H2 e2 g2 k2 => by
    subst e e2
    obtain ⟨p, rfl, hp⟩ := k
    obtain rfl := dp_int k2
    have hd := DGet.k (k := .inl i) (g2.ex _ _ (g2.fx _ _ hp))
    rw [hv] at hd
    exact ⟨p, .int j, rfl, hd, q _ _ F2 H2 rfl (g.trans g2) (.int _)⟩
end
end FW
end
section
set_option linter.all false
set_option maxRecDepth 100000
set_option maxHeartbeats 4000000
namespace FW
open PySem PySem.Spec PyProof.Rows L2
section
variable {P : Program} {w : World} {K : PySem.W.Frag} {mg : Str → Option Value} {base : Heap}

theorem ok_by_things (Y : Hd.Ok K mg) : Ok_by_things P w K mg base := by
  refine mkPr (i := 19) (j := 28) (k := 0) Y rfl rfl sc_by_things (fun _ _ _ _ _ _ us hl => match us, hl with | [_, _], _ => rfl) 2 rfl (fun _ => rfl) fun cdv A' outer s H E hr => ⟨_, (pss_cons (ps_set (i := 2) sc_by_things.nd rfl (Or.inr rfl) (ke_dictZip (K := K) rfl rfl (by rfl) (Y.free 67) (by rfl) (Y.free 81) (pa_cons (pv 0) (pa_cons (pv 1) pa_nil)))) (pss_one (ps_ret (pe_callTy (kc_tup (K := K) rfl) (by rfl) (Y.free 80) bt_tuple (pa_cons (pe_lc (own := [("thing", 3)]) rfl sc_by_things.nd (pi_range1 (by rfl) (Y.free 75) (pa_cons (pe_callB (kc_len (K := K) rfl) (by rfl) (Y.free 71) bt_len (pa_cons (pv 0) pa_nil)) pa_nil)) (blkOk_by (by first | (change blkC N_by_things (defScope (Hd.top 28)) _ _ = true; decide +kernel) | rfl)) (fun _ _ _ _ _ => (pg_name (i := 3) sc_by_things.nd rfl (Or.inl rfl))) (fun _ _ _ _ _ => pts_nil) (fun _ _ _ _ _ => (pe_dget (Nat.lt_of_le_of_lt (Nat.add_le_add_left (by decide : 1 ≤ 64) _) (hu64 hr)) (pv 2) (pv 3) (fun _ _ => rfl)))) pa_nil))))), fun ⟨n, o, f⟩ F0 H0 Q hp hQ => ?_⟩
  change Tr ⟨K, none, F0, H0, F0⟩ [.dat (.tuple (dNs o)), .dat (.list (tab n fun p => dN (f p))), .un, .un] [] _ _
  obtain ⟨hn, ho⟩ : n ≤ 101 ∧ o.Perm (List.range n) := hp
  have hl : o.length = n := by rw [ho.length_eq, List.length_range]
  have nd : o.Nodup := ho.nodup_iff.mpr List.nodup_range
  have e2 : (tab n fun p => dN (f p)) = (tab n fun p => ((f p : Nat) : Int)).map PyData.int := by rw [tab_map]
  refine t_seq (t_set (ee_d (ev_dictZip (ns := o.map fun x : Nat => (x : Int)) (js := tab n fun p => ((f p : Nat) : Int)) (EvA.is (ea_cons (ev_d rfl) (ea_cons (ev_d rfl) ea_nil)) (by rw [← e2, ← dNs_ints])) (by rw [tab_len, List.length_map, hl]))) fun σ H h => h.go ?_)
  rw [kvs_nd (by rw [List.length_map, tab_len, hl]) nd]
  refine t_retD (ev_cb (ea_cons (EvL.data (el_map (fun y : Nat => dN (f (o.idxOf y))) (src_range (n := n) (ea_cons (ev_cb (ea_cons (ev_d rfl) ea_nil) (rc_lenN (by rw [List.length_map, hl]))) ea_nil) (by omega)) hw0 (by simp; omega) (fun a ha => tgc_name (by simp)) (fun a ha => (ev_dget (ev_dict rfl) (ev_d rfl) ?_)))) ea_nil) rc_tupL) hQ
  have ha : a < n := List.mem_range.mp ha
  have hm : a ∈ o := ho.mem_iff.mpr (List.mem_range.mpr ha)
  refine kvs_val ?_ hm
  have hi := List.idxOf_lt_length_of_mem hm
  rw [tab_map]
  exact tab_get (by omega)
end
end FW
end
section
set_option linter.all false
set_option maxRecDepth 100000
set_option maxHeartbeats 4000000
/-! A lambda of one parameter, made and called. -/
namespace FW
open PySem PySem.Spec PyProof.Rows L2
/-- the very object at a -/
def XO (a : Addr) (o : Obj) : HO := .ext fun h => h.get? a = some o
theorem xo_ok {P : Program} {w : World} {H : Hp} {h : Heap} {a : Addr} {o : Obj} (e : h.get? a = some o) : ObjOk P w H h a (XO a o) := ⟨e, ⟨o, e⟩, fun h1 h2 z st => st _ z⟩
theorem xo_at {P : Program} {w : World} {H : Hp} {h : Heap} {a : Addr} {o : Obj} (hok : HOk P w H h) (e : H a = some (XO a o)) : h.get? a = some o := (hok a _ e).1
abbrev lamO (q : Str) (params : Arguments) (body : Expr) (scope : Scope) (cl : List (Str × Addr)) (pm : Value) (c : Addr) (ctv : Value) : Obj := PySem.W.kla_obj "<lambda>" q params body scope cl pm c ctv
section
variable {X : Cx} {pins : List (Addr × Obj)} {σ : L2.St} {H : Hp} {s : Shared}
/-- a lambda is made: all but the table of its maker's code object stays as it was known -/
theorem lam_new {T : List (Addr × Str)} {c P : Addr} {params : Arguments} {body : Expr} {scope : Scope} {pos : Pos} {E : Value → Shared → Prop} {Q : Value → Shared → Prop} (I : Inv X pins σ H s) (TB : LamX.TabB X.base X.mg c P) (hcode : X.env.code = .ref c) (hm : (P, X.env.qual ++ "<lambda>") ∈ T) (hu : ∀ p ∈ T, p.1 = P → p.2 = X.env.qual ++ "<lambda>") (hT : LamX.Tabs T H) (hdef : defaultsOf params X.env = ([], [])) (hfree : ∀ y ∈ scope.names, y.2 = .free → ∃ c, X.env.cells.lookup y.1 = some c)
    (k : ∀ (f c' : Addr) (pm ctv : Value) (H1 : Hp) (s' : Shared), Inv X pins σ H1 s' → (∀ b o, b ≠ P → H b = some o → H1 b = some o) → LamX.Tabs T H1 → H f = none → H1 f = some (XO f (lamO (X.env.qual ++ "<lambda>") params body scope (cloFrom X.env.cells scope.names []) pm c' ctv)) → H1 c' = some (LamX.CodeO c' (X.env.qual ++ "<lambda>")) → Q (.ref f) s') :
    wpAny (model X.prog X.w) X.A (eval (.Lambda params body scope pos) X.env) Q E s := by
  obtain ⟨ps, hP, ht, ha⟩ := hT _ hm
  refine PySem.W.kla_eval hdef ?_
  have bP : s.heap.BuiltinsAt X.mg P := TB.bm.keeps I.bk
  have oP : s.heap.get? P = some { cls := .none, data := .fields ps } := I.hok P _ hP
  have tn : ∀ {H1 H2 : Hp}, LamX.Tabs T H1 → (∀ b o, H1 b = some o → H2 b = some o) → LamX.Tabs T H2 := fun t e => t.ext e
  cases hc : codeAmong pos ps.toList with
  | none =>
    refine PySem.W.kla_makeFunction (mg := X.mg) (c := c) (P := P) (ps := ps) (closure_ok hfree) I.ok.glob (I.mod.glob.keeps I.bk) hcode (TB.code.keeps I.bk) oP ht hc TB.gP bP fun c' ctv h' tk hx ge lt hrec htb => ?_
    obtain ⟨c2, oc, vs, t, e2, hoc, hd, hv⟩ := hrec
    cases e2
    have nC : H c' = none := I.hok.fresh ge
    have nPC : P ≠ c' := ne_of_none hP nC
    have I1 := LamX.inv_table (t' := tk) (more := #[rawInt pos.line, rawInt pos.col, .ref c']) (h' := h') I hP (fun b o hb e => hx b o hb e) htb ge ⟨oc, vs, t, hoc, hd, hv⟩
    generalize hH1 : upd (upd H P (.tbl (ps ++ #[rawInt pos.line, rawInt pos.col, .ref c']))) c' (LamX.CodeO c' (X.env.qual ++ "<lambda>")) = H1 at I1
    have kp : ∀ b o, b ≠ P → H b = some o → H1 b = some o := fun b o hb e => by
      rw [← hH1, upd_ne (ne_of_none e nC), upd_ne hb]
      exact e
    have hP1 : H1 P = some (.tbl (ps ++ #[rawInt pos.line, rawInt pos.col, .ref c'])) := by rw [← hH1, upd_ne nPC, upd_same]
    have hc1 : H1 c' = some (LamX.CodeO c' (X.env.qual ++ "<lambda>")) := by rw [← hH1, upd_same]
    have co : ∀ d q, H d = some (LamX.CodeO d q) → H1 d = some (LamX.CodeO d q) := fun d q e => kp d _ (fun z => by
      rw [z, hP] at e
      exact LamX.codeO_ne ps (Option.some.inj e).symm) e
    have eL : (ps ++ #[rawInt pos.line, rawInt pos.col, .ref c']).toList = ps.toList ++ [rawInt pos.line, rawInt pos.col, .ref c'] := by simp
    have T1 : LamX.Tabs T H1 := fun p hp => by
      by_cases hb : p.1 = P
      · rw [hu p hp hb, hb]
        refine ⟨_, hP1, by rw [eL]; exact PySem.TriplesOk_snoc _ _ _ _ ht, fun p' cv hcv => ?_⟩
        rw [eL] at hcv
        rcases LamX.among_app _ ht hcv with z | z
        · obtain ⟨c0, e1, e2⟩ := ha p' cv z
          exact ⟨c0, e1, co _ _ e2⟩
        · exact ⟨c', z, hc1⟩
      · obtain ⟨ps', a1, a2, a3⟩ := hT p hp
        refine ⟨ps', kp _ _ hb a1, a2, fun p' cv hcv => ?_⟩
        obtain ⟨c0, e1, e2⟩ := a3 p' cv hcv
        exact ⟨c0, e1, co _ _ e2⟩
    have nF := I1.hok.fresh (Nat.le_refl _)
    have I2 := I1.laid (a := h'.objs.size) (t' := tk) (h' := h'.push (lamO (X.env.qual ++ "<lambda>") params body scope (cloFrom X.env.cells scope.names []) ((X.mg "__name__").getD .none) c' ctv)) (fun b u e => Heap.get?_push_of_some _ e) (Nat.le_refl _) (xo_ok (Heap.get?_push_size _ rfl))
    exact k h'.objs.size c' _ _ _ _ I2 (fun b o hb e => (upd_ne (ne_of_none (kp b o hb e) nF)).trans (kp b o hb e)) (tn T1 fun b o e => (upd_ne (ne_of_none e nF)).trans e) (I.hok.fresh (Nat.le_trans ge (Nat.le_of_lt lt))) upd_same ((upd_ne (Nat.ne_of_lt lt)).trans hc1)
  | some cv =>
    obtain ⟨c', e, hco⟩ := ha pos cv hc
    subst e
    refine PySem.W.kla_makeFunctionHit (mg := X.mg) (c := c) (P := P) (ps := ps) (closure_ok hfree) I.ok.glob (I.mod.glob.keeps I.bk) hcode (TB.code.keeps I.bk) oP ht hc bP fun ctv h' tk hx hsz => ?_
    have I1 : Inv X pins σ H { s with heap := h', toks := tk } := I.kept hx
    have nF : H h'.objs.size = none := I1.hok.fresh (Nat.le_refl _)
    have I2 := I1.laid (a := h'.objs.size) (t' := tk) (h' := h'.push (lamO (X.env.qual ++ "<lambda>") params body scope (cloFrom X.env.cells scope.names []) ((X.mg "__name__").getD .none) c' ctv)) (fun b u e => Heap.get?_push_of_some _ e) (Nat.le_refl _) (xo_ok (Heap.get?_push_size _ rfl))
    exact k h'.objs.size c' _ _ _ _ I2 (fun b o _ e => (upd_ne (ne_of_none e nF)).trans e) (tn hT fun b o e => (upd_ne (ne_of_none e nF)).trans e) nF upd_same ((upd_ne (ne_of_none hco nF)).trans hco)
/-- its words as a function's of the nested kind -/
abbrev lamF (q : Str) (params : Arguments) (scope : Scope) (cl : List (Str × Addr)) (c : Addr) : NdefX.NF := ⟨"<lambda>", q, params, [], scope, cl, c⟩
/-- it is called, by a built-in that its maker calls -/
theorem lam_call {N' ps fr : List Str} {js : List Nat} {q : Str} {params : Arguments} {body : Expr} {scope : Scope} {pm ctv : Value} {f c' : Addr} {A2 : Around} {k : Nat} {u : Value} {v : V} {x : Str} {tb : TE} {Q : VK} {Ex : Value → Shared → Prop} (I : Inv X pins σ H s) (hf : H f = some (XO f (lamO q params body scope (cloFrom X.env.cells scope.names []) pm c' ctv))) (hc : H c' = some (LamX.CodeO c' q)) (S : NdefX.NScope N' [x] fr scope)
    (caps : NdefX.Caps X (cloFrom X.env.cells scope.names []) fr js) (hb : ∀ (pm ctv : Value) (u : Value), bindArgs (PySem.W.kla_fn "<lambda>" q params body scope (cloFrom X.env.cells scope.names []) pm (.ref c') ctv) ⟨[u], []⟩ = pure [(x, u)]) (hA : A2.frames = some X.stack) (hr : Room (k + 1) A2) (rv : RelV v u)
    (hbody : ∀ (A : Around) (outer : List Env) (s : Shared) (H : Hp), Room k (A.deeper (NdefX.envF (lamF q params scope (cloFrom X.env.cells scope.names []) c') f s.heap.objs.size)) → PE (NdefX.ncx CX0 X.prog X.w X.K X.mg X.base N' (lamF q params scope (cloFrom X.env.cells scope.names []) c') f A outer s H E0) body tb)
    (h : tb (NdefX.startF N' [v] (js.map (NdefX.slotAt σ))) H Q) : wpAny (model X.prog X.w) A2 (call (.ref f) [u]) (EP X pins σ Q) Ex s := by
  have e0 : Env0 X.prog X.w X.K X.mg X.base A2 X.stack s H := ⟨hA, I.env0.mod, I.env0.bs, I.env0.bsz, I.env0.funs, I.env0.frf, I.env0.hok, I.env0.bare⟩
  have lim : s.heap.NoLimit := I.nolimit
  have of := xo_at I.hok hf
  have rc : codeAny (model X.prog X.w) A2 (.call (.ref f) ⟨[u], []⟩) (CR CX0 X.stack X.prog X.w H s Q E0) s := by
    refine PySem.W.kla_callFunE hr.depth of rfl S.co S.gen rfl (NdefX.codeO_at I.hok hc) ?_
    rw [hb]
    refine wpAny_pure (wpAny_newFunctionEnv S.nocell (fun ⟨n, _⟩ hy => ?_) (fun h₁ hns hsb => ⟨lim.fresh _ hsb, ?_⟩) S.kind)
    · exact S.par n (by simp only [List.mem_cons, List.not_mem_nil, or_false, Prod.mk.injEq] at hy ⊢; exact hy.1)
    show codeAny _ _ (.expr body (NdefX.envF (lamF q params scope (cloFrom X.env.cells scope.names []) c') f s.heap.objs.size)) _ _
    have kp : ∀ b o, s.heap.get? b = some o → h₁.get? b = some o := fun b o e => hsb.extBut b o (Nat.ne_of_lt (Heap.lt_size e)) (Heap.get?_push_of_some _ e)
    have J : Inv (NdefX.ncx CX0 X.prog X.w X.K X.mg X.base N' (lamF q params scope (cloFrom X.env.cells scope.names []) c') f A2 X.stack s H E0) [] (NdefX.startF N' [v] (js.map (NdefX.slotAt σ))) H { s with heap := h₁, toks := s.toks + [(x, u)].length } :=
      NdefX.inv_startN (ps := [x]) (us := [u]) S hr.hd e0 rfl (.cons rv .nil) (NdefX.cells_of I caps) hns kp
    refine PySem.W.kla_codeExpr (wpAny_mono ((hbody _ _ s H (hr.deeper _)).run [] _ _ H Q J h) (fun w s' hq => ?_) fun e s' hq => hq)
    obtain ⟨w', H', J', rw', q'⟩ := hq
    exact ⟨w', H', J'.os, J'.bare, J'.base, J'.hok, rw', q'⟩
  refine wpAny_call (codeAny_mono rc fun r s' hq => ?_)
  match r, hq with
  | .ok (.ret u), hq => exact I.after hq
  | .ok .next, hq => exact False.elim hq
  | .ok .brk, hq => exact False.elim hq
  | .ok .cont, hq => exact False.elim hq
  | .error e, hq => exact False.elim hq
end
end FW
end
section
set_option linter.all false
set_option maxRecDepth 100000
set_option maxHeartbeats 4000000
/-! sorted of ints, by a key that gives pairs of ints. -/
namespace FW
open PySem PySem.Spec PyProof.Rows L2 Srt SrtO
def valI : Value → Int
  | .int i _ => i
  | _ => 0
def keyI (H : Hp) : Value → Int × Int
  | .ref p => (match H p with
    | some (.frz _ (.tup [.int a, .int b])) => (a, b)
    | _ => (0, 0))
  | _ => (0, 0)
theorem keyI_at {H : Hp} {p : Addr} {o : Obj} {a b : Int} (e : H p = some (.frz o (.tup [.int a, .int b]))) : keyI H (.ref p) = (a, b) := by
  show (match H p with
    | some (.frz _ (.tup [.int a, .int b])) => (a, b)
    | _ => (0, 0)) = _
  rw [e]
theorem valI_map : ∀ {ns : List Int} {its : List Value}, Vals (ns.map V.int) its → its.map valI = ns
  | [], _, .nil => rfl
  | n :: ns, _, .cons h t => by
    obtain ⟨u, rfl⟩ := h
    rw [List.map_cons, valI_map t]
    rfl
/-- what stands in the rows that are sorted -/
structure Rowed (H : Hp) (g : Int → Int) (p : Keyed) : Prop where
  k : keyI H p.1 = (g (valI p.2), valI p.2)
  v : ∃ t, p.2 = .int (valI p.2) t
  r : ∃ a o, p.1 = .ref a ∧ H a = some (.frz o (.tup [.int (g (valI p.2)), .int (valI p.2)]))
theorem rowed_zip {H : Hp} {g : Int → Int} : ∀ {ns : List Int} {its : List Value} {ps : List Addr}, Vals (ns.map V.int) its → ps.length = ns.length → (∀ (j : Nat) (p : Addr) (y : Int), ps[j]? = some p → ns[j]? = some y → ∃ o, H p = some (.frz o (.tup [.int (g y), .int y]))) → (∀ q ∈ (ps.map Value.ref).zip its, Rowed H g q) ∧ ((ps.map Value.ref).zip its).map (fun q => valI q.2) = ns
  | [], _, [], .nil, _, _ => ⟨by simp, rfl⟩
  | n :: ns, _, p :: ps, .cons h t, hl, hp => by
    obtain ⟨u, rfl⟩ := h
    obtain ⟨o, ho⟩ := hp 0 p n rfl rfl
    obtain ⟨q1, q2⟩ := rowed_zip (H := H) (g := g) (ps := ps) t (by simpa using hl) fun j p y e1 e2 => hp (j + 1) p y (by simpa using e1) (by simpa using e2)
    refine ⟨fun q hq => ?_, ?_⟩
    · rcases List.mem_cons.mp hq with e | hq
      · rw [e]
        exact ⟨keyI_at ho, ⟨u, rfl⟩, p, o, rfl, ho⟩
      · exact q1 q hq
    · exact congrArg (List.cons n) q2
section
variable {X : Cx} {pins : List (Addr × Obj)} {σ : L2.St} {H : Hp} {s : Shared}
theorem frz_pair {P : Program} {w : World} {h : Heap} {a : Addr} {o : Obj} {x y : Int} (hok : HOk P w H h) (e : H a = some (.frz o (.tup [.int x, .int y]))) : Srt.IsPair h (.ref a) x y := by
  obtain ⟨e1, _, its, r, e2⟩ := hok a _ e
  obtain ⟨u, v, rfl, ⟨t1, r1⟩, ⟨t2, r2⟩⟩ := Vals.two r
  subst r1 r2
  obtain ⟨o2, ho, hc, n, hd⟩ := e2
  exact ⟨a, o2, t1, t2, n, rfl, ho, hc, hd⟩
theorem sort_tail {A : Around} {E : Value → Shared → Prop} {Hb : Hp} {l kS : Addr} {e1 e2 : Nat} {g : Int → Int} {ns : List Int} {its : List Value} {keys : Array Value} {st : SortSt} {R : PySem.Fin → Shared → Prop} (I : Inv X pins σ H s) (sub : ∀ b o, Hb b = some o → H b = some o) (bl : Hb l = none) (bk : Hb kS = none) (ne : l ≠ kS) (hl : H l = some (XO l (seqObj "list" #[] e1))) (hk : H kS = some (XO kS (seqObj "list" keys e2))) (hz : its.length ≤ 100000) (hz2 : keys.size ≤ 100000)
    (rw_ : ∀ q ∈ keys.toList.zip its, Rowed H g q) (mp : (keys.toList.zip its).map (fun q => valI q.2) = ns) (hs : (arrOf st).toList.Pairwise fun a b => lexB (keyI H b.1) (keyI H a.1) = false) (hp : (arrOf st).toList.Perm (keys.toList.zip its)) (hf : failedOf st = none)
    (h : ∀ s' H' (ms : List Int), Inv X pins σ H' s' → (∀ b o, Hb b = some o → H' b = some o) → ms.Perm ns → ms.Pairwise (fun a b => lexB (g b, b) (g a, a) = false) → H' l = some (.lst (ms.map V.int)) → R (.done (.ret .none)) s') :
    wpAny (model X.prog X.w) A (ksk_tail l false e1 (.ref kS) st) R E s := by
  have all : ∀ q ∈ (arrOf st).toList, Rowed H g q := fun q hq => rw_ q (hp.mem_iff.mp hq)
  have len : (arrOf st).toList.length ≤ 100000 := by
    rw [hp.length_eq, List.length_zip]
    omega
  have vs : ∀ {l : List Keyed}, (∀ q ∈ l, Rowed H g q) → Vals ((l.map fun q => valI q.2).map V.int) (l.map (·.2)) := fun {l} => by
    induction l with
    | nil => exact fun _ => .nil
    | cons q l ih => exact fun a => .cons (a q (by simp)).v (ih fun r hr => a r (by simp [hr]))
  have oK := xo_at I.hok hk
  obtain ⟨e3, hK3⟩ : ∃ e3, (s.heap.update kS (Obj.mapSeq fun _ => #[])).get? kS = some (seqObj "list" #[] e3) := ⟨_, get?_update_seq oK fun _ => #[]⟩
  have I1 : Inv X pins σ (upd H kS (XO kS (seqObj "list" #[] e3))) { s with heap := s.heap.update kS (Obj.mapSeq fun _ => #[]) } := I.write (x := kS) (e := kS) (t' := s.toks) (by rw [hk]; trivial) (.inl rfl) (fun b u hb hu => (Heap.get?_update_ne _ _ _ _ hb).trans hu) ⟨_, hK3⟩ (xo_ok hK3)
  have hl1 : upd H kS (XO kS (seqObj "list" #[] e3)) l = some (XO l (seqObj "list" #[] e1)) := (upd_ne ne).trans hl
  have oL := xo_at I1.hok hl1
  unfold ksk_tail
  refine wpAny_bind (listUpdate_at oK rfl ?_ (Nat.le_trans hz2 (by decide)) (Nat.zero_le _))
  refine wpAny_bind (wpAny_letGo ?_)
  refine wpAny_bind (seqEpoch_at oL rfl ?_)
  have sz : (((arrOf st).map (·.2))).size ≤ 100000 := by
    rw [Array.size_map, ← Array.length_toList]
    exact len
  refine wpAny_bind (listUpdate_at oL rfl ?_ (Nat.zero_le _) (by
    show ((if false = true then _ else _ : Array Value)).size ≤ _
    rw [if_neg Bool.false_ne_true]
    exact Nat.le_trans sz (by decide)))
  rw [hf]
  simp only [bne_self_eq_false, Bool.false_eq_true, if_false]
  obtain ⟨e4, hL4⟩ : ∃ e4, ((s.heap.update kS (Obj.mapSeq fun _ => #[])).update l (Obj.mapSeq fun _ => (arrOf st).map (·.2))).get? l = some (seqObj "list" ((arrOf st).map (·.2)) e4) := ⟨_, get?_update_seq oL fun _ => (arrOf st).map (·.2)⟩
  have ea : (arrOf st).map (·.2) = ((arrOf st).toList.map (·.2)).toArray := by
    rw [← Array.toList_map, Array.toArray_toList]
  have I2 := I1.write (x := l) (e := l) (t' := s.toks) (h' := (s.heap.update kS (Obj.mapSeq fun _ => #[])).update l (Obj.mapSeq fun _ => (arrOf st).map (·.2))) (o := .lst (((arrOf st).toList.map fun q => valI q.2).map V.int)) (by rw [hl1]; trivial) (.inl rfl) (fun b u hb hu => (Heap.get?_update_ne _ _ _ _ hb).trans hu) ⟨_, hL4⟩ ⟨by rw [List.length_map, List.length_map]; exact Nat.le_trans len (by decide), (arrOf st).toList.map (·.2), e4, vs all, by rw [← ea]; exact hL4⟩
  refine wpAny_pure (h _ _ ((arrOf st).toList.map fun q => valI q.2) I2 (fun b o e => ?_) ?_ ?_ upd_same)
  · rw [upd_ne (ne_of_none e bl), upd_ne (ne_of_none e bk)]
    exact sub b o e
  · have := hp.map fun q : Keyed => valI q.2
    rw [mp] at this
    exact this
  · rw [List.pairwise_map]
    refine hs.imp_of_mem fun {a b} ha hb z => ?_
    rw [(all a ha).k, (all b hb).k] at z
    exact z
theorem sort_end {A : Around} {E : Value → Shared → Prop} {Hb : Hp} {l kS : Addr} {e1 e2 : Nat} {g : Int → Int} {ns : List Int} {its : List Value} {ps : List Addr} {R : PySem.Fin → Shared → Prop} (I : Inv X pins σ H s) (sub : ∀ b o, Hb b = some o → H b = some o) (bl : Hb l = none) (bk : Hb kS = none) (ne : l ≠ kS) (hl : H l = some (XO l (seqObj "list" #[] e1))) (hk : H kS = some (XO kS (seqObj "list" (ps.map Value.ref).toArray e2))) (hz : its.length ≤ 100000)
    (rv : Vals (ns.map V.int) its) (pl : ps.length = ns.length) (hp : ∀ (j : Nat) (p : Addr) (y : Int), ps[j]? = some p → ns[j]? = some y → ∃ o, H p = some (.frz o (.tup [.int (g y), .int y])))
    (h : ∀ s' H' (ms : List Int), Inv X pins σ H' s' → (∀ b o, Hb b = some o → H' b = some o) → ms.Perm ns → ms.Pairwise (fun a b => lexB (g b, b) (g a, a) = false) → H' l = some (.lst (ms.map V.int)) → R (.done (.ret .none)) s') :
    wpAny (model X.prog X.w) A (ksk_end l false its.toArray e1 (.ref kS) (ps.map Value.ref).toArray) R E s := by
  obtain ⟨rw_, mp⟩ := rowed_zip (H := H) (g := g) rv pl hp
  have il := rv.length
  rw [List.length_map] at il
  have kz : (ps.map Value.ref).toArray.size ≤ 100000 := by rw [List.size_toArray, List.length_map]; omega
  have tl : (ps.map Value.ref).toArray.toList = ps.map Value.ref := List.toList_toArray
  have ez : ((ps.map Value.ref).toArray.zip its.toArray).toList = (ps.map Value.ref).zip its := ksk_zip _ _
  have tail := fun st hs hpm hf => sort_tail (A := A) (E := E) (st := st) (R := R) I sub bl bk ne hl hk hz kz (by rw [tl]; exact rw_) (by rw [tl]; exact mp) hs (by rw [tl]; exact hpm) hf h
  unfold ksk_end
  dsimp only
  rw [if_neg Bool.false_ne_true]
  simp only [Bool.false_eq_true, if_false, List.size_toArray]
  by_cases h2 : its.length < 2
  · rw [if_pos h2, if_pos h2]
    refine wpAny_bind (wpAny_pure ?_)
    rw [StateT.run_pure]
    refine wpAny_bind (wpAny_pure ?_)
    refine tail (SortSt.mk' general' ((ps.map Value.ref).toArray.zip its.toArray) #[] 7 none) ?_ (by show ((ps.map Value.ref).toArray.zip its.toArray).toList.Perm _; rw [ez]) rfl
    show ((ps.map Value.ref).toArray.zip its.toArray).toList.Pairwise _
    rw [ez]
    have lz : ((ps.map Value.ref).zip its).length < 2 := by rw [List.length_zip]; omega
    match (ps.map Value.ref).zip its, lz with
    | [], _ => exact List.Pairwise.nil
    | [v], _ => exact List.pairwise_singleton _ _
    | _ :: _ :: l, h => exact absurd h (by rw [List.length_cons, List.length_cons]; omega)
  · rw [if_neg h2, if_neg h2]
    have pairs : ∀ v ∈ ps.map Value.ref, Srt.IsPair s.heap v (keyI H v).1 (keyI H v).2 := fun v hv => by
      obtain ⟨j, hj⟩ := List.mem_iff_getElem?.mp hv
      rw [List.getElem?_map] at hj
      obtain ⟨p, hpj, rfl⟩ := Option.map_eq_some_iff.mp hj
      have jl := (List.getElem?_eq_some_iff.mp hpj).1
      obtain ⟨o, ho⟩ := hp j p ns[j] hpj (List.getElem?_eq_getElem (by omega))
      rw [keyI_at ho]
      exact frz_pair I.hok ho
    have oL := xo_at I.hok hl
    obtain ⟨κ, hkind, hT⟩ := pairs_sortableO (prog := X.prog) (w := X.w) (A := A) (s := s) (a := l) (by rw [List.length_map]; omega) pairs (fun o e => by
      rw [oL] at e
      cases e
      exact fun z => by
        injection z with z3
        exact absurd z3 (by decide)) s.heap fun b o _ e => e
    refine wpAny_bind (hkind _ _ ?_)
    have hall : AllL (fun p : Keyed => p.1 ∈ ps.map Value.ref) ((ps.map Value.ref).toArray.zip its.toArray).toList := fun p hm => by
      rw [ez] at hm
      exact (List.of_mem_zip (a := p.1) (b := p.2) hm).1
    refine wpAny_bind (wpAny_mono (wpS_sortO (st0 := SortSt.mk' κ ((ps.map Value.ref).toArray.zip its.toArray) #[] 7 none)
      (Q := fun _ st' => Srtd (lt2 fun v u => lexB (keyI H v) (keyI H u)) (arrOf st').toList ∧ Stb (lt2 fun v u => lexB (keyI H v) (keyI H u)) (arrOf st').toList ((ps.map Value.ref).toArray.zip its.toArray).toList ∧ failedOf st' = none) (swo2 (swo_lex fun u => keyI H u)) hT rfl hall rfl rfl fun st' a1 a2 a3 => ⟨a1, a2, a3⟩) ?_ fun _ _ e => e)
    rintro ⟨⟨⟩, st'⟩ s' ⟨rfl, hp1, hp2, hf⟩
    have pm := hp2.perm
    rw [ez] at pm
    exact tail st' hp1 pm hf
end
end FW
end
section
set_option linter.all false
set_option maxRecDepth 100000
set_option maxHeartbeats 4000000
/-! sorted(ints, key=f): the keys made one by one. -/
namespace FW
open PySem PySem.Spec PyProof.Rows L2 Srt SrtO
section
variable {X : Cx} {pins : List (Addr × Obj)} {σ : L2.St} {H : Hp} {s : Shared}
/-- what the key's call gives -/
def KeyCall (X : Cx) (pins : List (Addr × Obj)) (σ : L2.St) (A : Around) (Hb : Hp) (f : Value) (g : Int → Int) (ns : List Int) : Prop := ∀ (H' : Hp) (s' : Shared) (y : Int) (u : Value), y ∈ ns → RelV (.int y) u → Inv X pins σ H' s' → (∀ b o, Hb b = some o → H' b = some o) →
  wpAny (model X.prog X.w) A (call f [u]) (EP X pins σ fun v H2 => ∃ p o, v = .ref p ∧ H' p = none ∧ H2 = upd H' p (.frz o (.tup [.int (g y), .int y]))) (fun _ _ => False) s'
theorem sort_rest {A : Around} {E : Value → Shared → Prop} {Hb : Hp} {l kS : Addr} {e1 : Nat} {f : Value} {g : Int → Int} {ns : List Int} {its : List Value} {R : PySem.Fin → Shared → Prop} (KC : KeyCall X pins σ A Hb f g ns) (I : Inv X pins σ H s) (sub : ∀ b o, Hb b = some o → H b = some o) (bl : Hb l = none) (bk : Hb kS = none) (ne : l ≠ kS) (hl : H l = some (XO l (seqObj "list" #[] e1))) (hk : H kS = some (XO kS (seqObj "list" #[] 0))) (hz : its.length ≤ 100000) (rv : Vals (ns.map V.int) its)
    (h : ∀ s' H' (ms : List Int), Inv X pins σ H' s' → (∀ b o, Hb b = some o → H' b = some o) → ms.Perm ns → ms.Pairwise (fun a b => lexB (g b, b) (g a, a) = false) → H' l = some (.lst (ms.map V.int)) → R (.done (.ret .none)) s') :
    wpAny (model X.prog X.w) A (ksk_rest l f false its.toArray e1 (.ref kS)) R E s := by
  have il := rv.length
  rw [List.length_map] at il
  unfold ksk_rest
  refine wpAny_bind (wpAny_rule ?_)
  first
    | rw [List.forIn_toArray]
    | (rw [← Array.forIn_toList]; simp only [List.toList_toArray])
    | rw [← Array.forIn_toList]
  refine wpAny_bind (ksk_fold (fun i s' => ∃ (H' : Hp) (ps : List Addr) (e : Nat), Inv X pins σ H' s' ∧ (∀ b o, Hb b = some o → H' b = some o) ∧ H' l = some (XO l (seqObj "list" #[] e1)) ∧ H' kS = some (XO kS (seqObj "list" (ps.map Value.ref).toArray e)) ∧ ps.length = i ∧ ∀ (j : Nat) (p : Addr) (y : Int), ps[j]? = some p → ns[j]? = some y → ∃ o, H' p = some (.frz o (.tup [.int (g y), .int y]))) its 0 s
    ⟨H, [], 0, I, sub, hl, hk, rfl, fun j p y e => by simp at e⟩ ?_ ?_)
  · rintro j x s' hx ⟨H', ps, e, I', sub', hl', hk', pl, hp⟩
    simp only [Nat.zero_add] at pl ⊢
    have jl : j < ns.length := by rw [il]; exact (List.getElem?_eq_some_iff.mp hx).1
    obtain ⟨u, hu, ru⟩ := rv.get (i := j) (x := .int ns[j]) (by rw [List.getElem?_map, List.getElem?_eq_getElem jl]; rfl)
    rw [hx] at hu
    cases hu
    refine wpAny_bind (wpAny_attempt (wpAny_mono (KC H' s' ns[j] x (List.getElem_mem jl) ru I' sub') (fun v s2 hv => ?_) fun _ _ z => z.elim))
    obtain ⟨v2, H2, I2, r2, p, o, rfl, np, rfl⟩ := hv
    obtain rfl : v = Value.ref p := r2
    have nl : l ≠ p := ne_of_none hl' np
    have nk : kS ≠ p := ne_of_none hk' np
    have hk2 : upd H' p (.frz o (.tup [.int (g ns[j]), .int ns[j]])) kS = some (XO kS (seqObj "list" (ps.map Value.ref).toArray e)) := (upd_ne nk).trans hk'
    have oK := xo_at I2.hok hk2
    obtain ⟨e3, hK3⟩ : ∃ e3, (s2.heap.update kS (Obj.mapSeq (·.push (Value.ref p)))).get? kS = some (seqObj "list" ((ps.map Value.ref).toArray.push (Value.ref p)) e3) := ⟨_, get?_update_seq oK (·.push (Value.ref p))⟩
    have ea : (ps.map Value.ref).toArray.push (Value.ref p) = ((ps ++ [p]).map Value.ref).toArray := by rw [List.map_append]; simp
    rw [ea] at hK3
    have I3 := I2.write (x := kS) (e := kS) (t' := s2.toks) (h' := s2.heap.update kS (Obj.mapSeq (·.push (Value.ref p)))) (o := XO kS (seqObj "list" ((ps ++ [p]).map Value.ref).toArray e3)) (by rw [hk2]; trivial) (.inl rfl) (fun b u hb hu => (Heap.get?_update_ne _ _ _ _ hb).trans hu) ⟨_, hK3⟩ (xo_ok hK3)
    have pz : ((ps.map Value.ref).toArray).size ≤ 100000 := by rw [List.size_toArray, List.length_map]; omega
    have pz2 : ((ps.map Value.ref).toArray).size < 100000 := by rw [List.size_toArray, List.length_map]; omega
    try dsimp only
    refine wpAny_bind (listUpdate_at oK rfl ?_ (Nat.le_trans pz (by decide)) (by
      show ((ps.map Value.ref).toArray.push (Value.ref p)).size ≤ _
      rw [Array.size_push]
      exact Nat.le_trans pz2 (by decide)))
    refine wpAny_pure ⟨rfl, _, ps ++ [p], e3, I3, fun b o' e' => ?_, ?_, upd_same, by rw [List.length_append, pl]; rfl, fun i q y e1' e2' => ?_⟩
    · rw [upd_ne (ne_of_none e' bk), upd_ne (ne_of_none (sub' b o' e') np)]
      exact sub' b o' e'
    · rw [upd_ne ne, upd_ne nl]
      exact hl'
    · by_cases hi : i < ps.length
      · rw [List.getElem?_append_left hi] at e1'
        obtain ⟨o', ho⟩ := hp i q y e1' e2'
        have nq : q ≠ kS := fun z => by
          rw [z, hk'] at ho
          unfold XO at ho
          cases ho
        exact ⟨o', by rw [upd_ne nq, upd_ne (ne_of_none ho np)]; exact ho⟩
      · have ei : i = ps.length := by
          have := (List.getElem?_eq_some_iff.mp e1').1
          rw [List.length_append] at this
          simp at this
          omega
        subst ei
        rw [List.getElem?_append_right (Nat.le_refl _), Nat.sub_self] at e1'
        obtain rfl : p = q := by simpa using e1'
        have ey : y = ns[j] := by
          rw [pl, List.getElem?_eq_getElem jl] at e2'
          exact (Option.some.inj e2').symm
        subst ey
        exact ⟨o, by rw [upd_ne nk.symm]; exact upd_same⟩
  · rintro s' ⟨H', ps, e, I', sub', hl', hk', pl, hp⟩
    rw [Nat.zero_add] at pl
    have oK := xo_at I'.hok hk'
    try dsimp only
    refine wpAny_bind (listItems_at oK rfl ?_)
    exact sort_end I' sub' bl bk ne hl' hk' hz rv (by omega) hp h
theorem sort_tree {A : Around} {E : Value → Shared → Prop} {Hb : Hp} {l : Addr} {e0 : Nat} {f : Value} {g : Int → Int} {ns : List Int} {its : List Value} {R : PySem.Fin → Shared → Prop} (KC : KeyCall X pins σ A Hb f g ns) (I : Inv X pins σ H s) (sub : ∀ b o, Hb b = some o → H b = some o) (bl : Hb l = none) (hl : H l = some (XO l (seqObj "list" its.toArray e0))) (hz : its.length ≤ 100000) (rv : Vals (ns.map V.int) its)
    (h : ∀ s' H' (ms : List Int), Inv X pins σ H' s' → (∀ b o, Hb b = some o → H' b = some o) → ms.Perm ns → ms.Pairwise (fun a b => lexB (g b, b) (g a, a) = false) → H' l = some (.lst (ms.map V.int)) → R (.done (.ret .none)) s') :
    wpAny (model X.prog X.w) A (ksk_tree l f false) R E s := by
  have oL := xo_at I.hok hl
  have sz : its.toArray.size ≤ sizeLine := by rw [List.size_toArray]; exact Nat.le_trans hz (by decide)
  obtain ⟨e1, hL1⟩ : ∃ e1, (s.heap.update l (Obj.mapSeq fun _ => #[])).get? l = some (seqObj "list" #[] e1) := ⟨_, get?_update_seq oL fun _ => #[]⟩
  have I1 : Inv X pins σ (upd H l (XO l (seqObj "list" #[] e1))) { s with heap := s.heap.update l (Obj.mapSeq fun _ => #[]) } := I.write (x := l) (e := l) (t' := s.toks) (by rw [hl]; trivial) (.inl rfl) (fun b u hb hu => (Heap.get?_update_ne _ _ _ _ hb).trans hu) ⟨_, hL1⟩ (xo_ok hL1)
  unfold ksk_tree
  refine wpAny_bind (listItems_at oL rfl ?_)
  refine wpAny_bind (listUpdate_at oL rfl ?_ sz (Nat.zero_le _))
  refine wpAny_bind (seqEpoch_at hL1 rfl ?_)
  refine wpAny_bind (wpAny_newTuple ?_ (by show its.length ≤ _; exact Nat.le_trans hz (by decide)))
  refine wpAny_bind (wpAny_newList ?_ (Nat.zero_le _))
  refine wpAny_holding ?_
  have I2 := I1.kept (t' := s.toks) (h' := (s.heap.update l (Obj.mapSeq fun _ => #[])).push (seqObj "tuple" its.toArray 0)) fun b o e => Heap.get?_push_of_some _ e
  have I3 := I2.laid (a := ((s.heap.update l (Obj.mapSeq fun _ => #[])).push (seqObj "tuple" its.toArray 0)).objs.size) (t' := s.toks) (h' := ((s.heap.update l (Obj.mapSeq fun _ => #[])).push (seqObj "tuple" its.toArray 0)).push (seqObj "list" #[] 0)) (o := XO _ (seqObj "list" #[] 0)) (fun b o e => Heap.get?_push_of_some _ e) (Nat.le_refl _) (xo_ok (Heap.get?_push_size _ rfl))
  have nK : upd H l (XO l (seqObj "list" #[] e1)) ((s.heap.update l (Obj.mapSeq fun _ => #[])).push (seqObj "tuple" its.toArray 0)).objs.size = none := I2.hok.fresh (Nat.le_refl _)
  have neq : l ≠ ((s.heap.update l (Obj.mapSeq fun _ => #[])).push (seqObj "tuple" its.toArray 0)).objs.size := ne_of_none (H := upd H l (XO l (seqObj "list" #[] e1))) upd_same nK
  have sub2 : ∀ b o, Hb b = some o → upd H l (XO l (seqObj "list" #[] e1)) b = some o := fun b o e => (upd_ne (ne_of_none e bl)).trans (sub b o e)
  have bk : Hb ((s.heap.update l (Obj.mapSeq fun _ => #[])).push (seqObj "tuple" its.toArray 0)).objs.size = none := by
    cases q : Hb ((s.heap.update l (Obj.mapSeq fun _ => #[])).push (seqObj "tuple" its.toArray 0)).objs.size with
    | none => rfl
    | some o => exact absurd (nK.symm.trans (sub2 _ _ q)) nofun
  exact sort_rest KC I3 (fun b o e => (upd_ne (ne_of_none e bk)).trans (sub2 b o e)) bl bk neq ((upd_ne neq).trans upd_same) upd_same hz rv h
end
end FW
end
section
set_option linter.all false
set_option maxRecDepth 100000
set_option maxHeartbeats 4000000
/-! sorted(range(n), key=lambda t: (start[t], t)). -/
namespace FW
open PySem PySem.Spec PyProof.Rows L2 Srt SrtO
abbrev rgO (n : Int) (t u v : Tok) : Obj := { cls := .type "range", dict := none, data := .fields #[.int 0 t, .int n u, .int 1 v], slots := #[] }
theorem rg_len (n : Nat) : (rgV 0 n).length = n := by rw [rgV_length]; omega
theorem rg_map (n : Nat) : rgV 0 n = ((List.range n).map Int.ofNat).map V.int := by
  unfold rgV
  rw [List.map_map, show ((n : Int) - 0).toNat = n by omega]
  exact List.map_congr_left fun i _ => by
    show V.int (0 + (i : Int)) = V.int (Int.ofNat i)
    rw [Int.zero_add]
    rfl
theorem sqT_but {K : PySem.W.Frag} {H H' : Hp} {a P : Addr} {xs : List V} {ps : Array Value} (h : SqT K H a xs) (hP : H P = some (.tbl ps)) (e : ∀ b o, b ≠ P → H b = some o → H' b = some o) : SqT K H' a xs := by
  rcases h with (h | ⟨o, h⟩) | h
  · exact .inl (.inl (e _ _ (fun z => by rw [z, hP] at h; cases h) h))
  · exact .inl (.inr ⟨o, e _ _ (fun z => by rw [z, hP] at h; cases h) h⟩)
  · exact .inr h
theorem sqT_sub {K : PySem.W.Frag} {H H' : Hp} {a : Addr} {xs : List V} (h : SqT K H a xs) (e : ∀ b o, H b = some o → H' b = some o) : SqT K H' a xs :=
  h.elim (fun h => .inl (h.elim (fun h => .inl (e _ _ h)) fun ⟨o, h⟩ => .inr ⟨o, e _ _ h⟩)) .inr
/-- the reading of it: the captured name is the j-th slot -/
def tSortKey (K : PySem.W.Frag) (T : List (Addr × Str)) (P : Addr) (j : Nat) (te : TE) : TE := fun σ H Q => te σ H fun v H1 => ∃ (n : Nat) (a : Addr) (xs : List V) (g : Int → Int), v = .int n ∧ n ≤ 1000 ∧ σ[j]? = some (some (.ref a)) ∧ SqT K H1 a xs ∧ (∀ y : Nat, y < n → xs[y]? = some (.int (g y))) ∧ LamX.Tabs T H1 ∧
  ∀ (l : Addr) (H2 : Hp) (ms : List Int), (∀ b o, b ≠ P → H1 b = some o → H2 b = some o) → LamX.Tabs T H2 → H1 l = none → H2 l = some (.lst (ms.map V.int)) → ms.Perm ((List.range n).map Int.ofNat) → ms.Pairwise (fun a b => lexB (g b, b) (g a, a) = false) → Q (.ref l) H2
section
variable {X : Cx} {K : PySem.W.Frag}
theorem pe_sortKey {te : TE} {T : List (Addr × Str)} {c P : Addr} {j k : Nat} {x z : Str} {params : Arguments} {scope : Scope} {e : Expr} {kk : Nat} {p p1 p2 q1 q2 q3 q4 q5 q6 q7 pos : Pos} (eK : X.K = K) (hc : X.calm = true) (hr : Hd.RmG k X.A) (hk : 2 ≤ k)
    (TB : LamX.TabB X.base X.mg c P) (hcode : X.env.code = .ref c) (hm : (P, X.env.qual ++ "<lambda>") ∈ T) (hu : ∀ p ∈ T, p.1 = P → p.2 = X.env.qual ++ "<lambda>") (hs : Gl X "sorted") (hms : X.mg "sorted" = none) (hg : Gl X "range") (hmr : X.mg "range" = none) (he : PE X e te)
    (hdef : defaultsOf params X.env = ([], [])) (hfree : ∀ y ∈ scope.names, y.2 = .free → X.env.scope.names.lookup y.1 = some .cell ∨ X.env.scope.names.lookup y.1 = some .free) (S : NdefX.NScope [x, z] [x] [z] scope) (hfr : ∀ y ∈ [z], (y, NameKind.free) ∈ scope.names) (hjs : [j].map (fun j => X.N[j]?) = [z].map some)
    (hb : ∀ (q : Str) (cl : List (Str × Addr)) (c' : Addr) (pm ctv u : Value), bindArgs (PySem.W.kla_fn "<lambda>" q params (.Tuple [.Subscript (.Name z q1) (.Name x q2) q3, .Name x q4] kk q5) scope cl pm (.ref c') ctv) ⟨[u], []⟩ = pure [(x, u)])
    (d1 : (x == ("__debug__" : Str)) = false := by decide) (d2 : (z == ("__debug__" : Str)) = false := by decide) (d3 : (x == ("__classdict__" : Str)) = false := by decide) (d4 : (z == ("__classdict__" : Str)) = false := by decide)
    (na : starEach [e] X.env = (false, eval e X.env) :: starEach [] X.env := by rfl) :
    PE X (.Call (.Name "sorted" p) [.Call (.Name "range" p1) [e] [] p2] [⟨some "key", .Lambda params (.Tuple [.Subscript (.Name z q1) (.Name x q2) q3, .Name x q4] kk q5) scope q6, q7⟩] pos) (tSortKey K T P j te) := by
  subst eK
  refine ⟨fun pins s σ H Q I h => ?_⟩
  refine wpAny_Call_Name_kw (ld_blt I hs hms bt_sorted ?_ (by decide) (by decide))
  have rgr : wpAny (model X.prog X.w) X.A (eval (.Call (.Name "range" p1) [e] [] p2) X.env) (fun v s' => ∃ (r : Addr) (n : Nat) (a : Addr) (xs : List V) (g : Int → Int) (t u w : Tok) (H1 : Hp), v = .ref r ∧ H1 r = none ∧ Inv X pins σ (upd H1 r (XO r (rgO n t u w))) s' ∧ n ≤ 1000 ∧ σ[j]? = some (some (.ref a)) ∧ SqT X.K H1 a xs ∧ (∀ y : Nat, y < n → xs[y]? = some (.int (g y))) ∧ LamX.Tabs T H1 ∧
    ∀ (l : Addr) (H2 : Hp) (ms : List Int), (∀ b o, b ≠ P → H1 b = some o → H2 b = some o) → LamX.Tabs T H2 → H1 l = none → H2 l = some (.lst (ms.map V.int)) → ms.Perm ((List.range n).map Int.ofNat) → ms.Pairwise (fun a b => lexB (g b, b) (g a, a) = false) → Q (.ref l) H2) X.xe s := by
    refine Call_ (ld_blt I hg hmr boot_range (PyProof.Rows.callWith_type1 (one_arg he I h (fun v s2 y H2 I2 r q => ?_) na) na))
    obtain ⟨n, a, xs, g, rfl, hn, hj, hsq, hxs, hT, hQ⟩ := q
    obtain ⟨t, rfl⟩ := r
    exact call_range_1 ⟨_, n, a, xs, g, _, _, _, H2, rfl, I2.hok.fresh (Nat.le_refl _), I2.laid (fun b u e => Heap.get?_push_of_some _ e) (Nat.le_refl _) (xo_ok (Heap.get?_push_size _ rfl)), hn, hj, hsq, hxs, hT, hQ⟩
  refine PyProof.Rows.callWith_kw (args_cons (thn rgr fun v s1 ⟨r, n, a, xs, g, t, u, w, H1, ev, nr, I1, hn, hj, hsq, hxs, hT, hQ⟩ => args_nil ?_)) (by rfl) (by rfl) (by rfl) (by rfl)
  · subst ev
    have T1 : LamX.Tabs T (upd H1 r (XO r (rgO n t u w))) := hT.ext fun b o e => (upd_ne (ne_of_none e nr)).trans e
    have hf : ∀ y ∈ scope.names, y.2 = .free → ∃ c, X.env.cells.lookup y.1 = some c := fun y hy e => (hfree y hy e).elim (fun z => I1.ok.has _ (.inl z)) fun z => I1.ok.has _ (.inr z)
    refine PyProof.Rows.kws_cons (lam_new I1 TB hcode hm hu T1 hdef hf fun f c' pm ctv H2 s2 I2 kp T2 nf hF hC => PyProof.Rows.kws_nil ?_)
    obtain ⟨pt, hP, _, _⟩ := hT _ hm
    have rP : r ≠ P := fun z => by rw [← z, nr] at hP; cases hP
    have hR : H2 r = some (XO r (rgO n t u w)) := kp _ _ rP upd_same
    have kp1 : ∀ b o, b ≠ P → H1 b = some o → H2 b = some o := fun b o hb e => kp b o hb ((upd_ne (ne_of_none e nr)).trans e)
    have sq2 : SqT X.K H2 a xs := sqT_but hsq hP kp1
    change wpAny _ _ (call (.builtin "sorted") [.ref r] [(Str.ofString "key", .ref f)]) _ _ _
    refine PyProof.Rows.call_function_entry_kw kind_sorted plain_sorted entry_sorted (ksk_s1 _ _) ?_
    unfold Builtin.«sorted»
    refine wpAny_bind (m := checkCount "sorted" 1 1 _) (wpAny_pure ?_)
    have hh : X.A.in1.handled = none := I2.ok.hd hc
    refine wpAny_bind (collect_range hh (xo_at I2.hok hR) (small_one (by omega) (by omega) (by omega) (by omega)) (rangeSize_nat 0 n) (by omega) fun h' tk acc hkp hi => ?_)
    have rv : Vals (((List.range n).map Int.ofNat).map V.int) acc.toList := by
      rw [← rg_map]
      exact vals_rg hi
    have hz : acc.toList.length ≤ 1000 := by
      rw [← rv.length, List.length_map, List.length_map, List.length_range]
      exact hn
    refine wpAny_bind (wpAny_newList ?_ (Nat.le_trans hz (by decide)))
    have I3 : Inv X pins σ H2 { s2 with heap := h', toks := tk } := I2.kept hkp
    have nl : H2 h'.objs.size = none := I3.hok.fresh (Nat.le_refl _)
    have I4 := I3.laid (a := h'.objs.size) (t' := tk) (h' := h'.push (seqObj "list" acc.toList.toArray 0)) (o := XO _ (seqObj "list" acc.toList.toArray 0)) (fun b o e => Heap.get?_push_of_some _ e) (Nat.le_refl _) (xo_ok (Heap.get?_push_size _ rfl))
    have hoL : (h'.push (seqObj "list" acc.toList.toArray 0)).get? h'.objs.size = some (seqObj "list" acc.toList.toArray 0) := Heap.get?_push_size _ rfl
    refine wpAny_bind (wpAny_holding (wpAny_call_entry_kw slot_list_sort ⟨_, hoL, rfl⟩ entry_list_sort ?_ (ksk_l1 _ _)))
    rw [ksk_t1]
    refine sort_tree (Hb := H2) (g := g) (ns := (List.range n).map Int.ofNat) (its := acc.toList) ?_ I4 (fun b o e => (upd_ne (ne_of_none e nl)).trans e) nl upd_same (Nat.le_trans hz (by decide)) rv fun s' H' ms I' sub hpm hpw hl => ⟨_, rfl, wpAny_pure ⟨_, rfl, .ref h'.objs.size, H', I', rfl, hQ _ _ ms (fun b o hb e => sub _ _ (kp1 b o hb e)) (T2.ext sub) ?_ hl hpm hpw⟩⟩
    · intro H' s' y u hy ru I' sub
      obtain ⟨i, hi, rfl⟩ := List.mem_map.mp hy
      have hi : i < n := List.mem_range.mp hi
      have r2 : Room 1 X.A.in1.in1 := ⟨hr.r.hd, by have := hr.r.dp; show X.A.depth + 3 * 1 + 5 < _; omega, by have := hr.r.un; show X.A.units + 1 + 1 + 16 * 1 + 200 < _; omega⟩
      refine lam_call (ps := []) (N' := [x, z]) (fr := [z]) (js := [j]) (k := 0) (v := .int (Int.ofNat i)) I' (sub _ _ hF) (sub _ _ hC) S (NdefX.Caps.made I'.ok hfree hfr hjs) (fun pm ctv u => hb _ _ _ pm ctv u) I'.env0.frames r2 ru
        (tb := tTupN (tCons (tOp (rIx X.K) (tVar 1) (tVar 0)) (tCons (tVar 0) tNil))) (fun A outer s H _ => ?_) ?_
      · have vx : Vis (NdefX.ncx CX0 X.prog X.w X.K X.mg X.base [x, z] (lamF (X.env.qual ++ "<lambda>") params scope (cloFrom X.env.cells scope.names []) c') f A outer s H E0).env.scope x := .inl (S.par x (by simp))
        have vz : Vis (NdefX.ncx CX0 X.prog X.w X.K X.mg X.base [x, z] (lamF (X.env.qual ++ "<lambda>") params scope (cloFrom X.env.cells scope.names []) c') f A outer s H E0).env.scope z := .inr (.inr (S.frk z (by simp)))
        exact pe_tupN (pa_cons (pe_ix (ki_seq rfl) (pv 1 rfl vz d2 d4) (pv 0 rfl vx d1 d3) (fun _ _ => rfl)) (pa_cons (pv 0 rfl vx d1 d3) pa_nil))
      · have es : NdefX.startF [x, z] [.int (Int.ofNat i)] ([j].map (NdefX.slotAt σ)) = [some (.int (Int.ofNat i)), some (.ref a)] := by
          show [some (V.int (Int.ofNat i))] ++ ([NdefX.slotAt σ j] ++ List.replicate 0 none) = _
          rw [NdefX.slotAt_of hj]
          rfl
        rw [es]
        refine ⟨.ref a, rfl, .int (Int.ofNat i), rfl, .inr (.inl ⟨a, xs, _, .int (g (Int.ofNat i)), rfl, rfl, sqT_sub sq2 sub, ?_, .int (Int.ofNat i), rfl, by show 2 ≤ sizeLine; decide, fun p o hp _ => ⟨p, o, rfl, hp, rfl⟩⟩)⟩
        exact atI_nat (hxs i hi)
    · cases q : H1 h'.objs.size with
      | none => rfl
      | some o =>
        by_cases hb : h'.objs.size = P
        · obtain ⟨_, hp2, _⟩ := T2 _ hm
          rw [← hb] at hp2
          exact absurd (nl.symm.trans hp2) nofun
        · rw [kp1 _ _ hb q] at nl
          cases nl
end
end FW
end
section
set_option linter.all false
set_option maxRecDepth 100000
set_option maxHeartbeats 4000000
/-! What it gives: the things in the order of a told start. -/
namespace FW
open PySem PySem.Spec PyProof.Rows L2 Srt SrtO
theorem ord_of {n : Nat} {st : Nat → Nat} {ms : List Int} (pm : ms.Perm ((List.range n).map Int.ofNat)) (pw : ms.Pairwise fun a b => lexB ((st b.toNat : Int), b) ((st a.toNat : Int), a) = false) : ms = (FK.ordOf n st).map Int.ofNat := by
  have nn : ∀ i ∈ ms, Int.ofNat i.toNat = i := fun i hi => by
    obtain ⟨k, _, rfl⟩ := List.mem_map.mp (pm.mem_iff.mp hi)
    rfl
  have e : ms = (ms.map Int.toNat).map Int.ofNat := by
    rw [List.map_map]
    exact ((List.map_congr_left (g := id) fun i hi => nn i hi).trans (List.map_id _)).symm
  have p2 : (ms.map Int.toNat).Perm (FK.ordOf n st) := by
    have := pm.map Int.toNat
    rw [List.map_map] at this
    have z : (List.range n).map (Int.toNat ∘ Int.ofNat) = List.range n := (List.map_congr_left (g := id) fun i _ => rfl).trans (List.map_id _)
    rw [z] at this
    exact this.trans (FK.ordOf_perm n st).symm
  have w : (ms.map Int.toNat).Pairwise fun a b => FK.leS st a b = true := by
    rw [List.pairwise_map]
    refine pw.imp_of_mem fun {a b} ha hb z => ?_
    have ea := nn a ha
    have eb := nn b hb
    unfold lexB at z
    dsimp only at z
    have ea' : (a.toNat : Int) = a := ea
    have eb' : (b.toNat : Int) = b := eb
    refine decide_eq_true ?_
    by_cases k : (st b.toNat : Int) = st a.toNat
    · rw [if_pos k] at z
      have := of_decide_eq_false z
      omega
    · rw [if_neg k] at z
      have := of_decide_eq_false z
      omega
  rw [e, FK.ord_uniq p2 w (FK.ordOf_le n st)]
theorem ltab_1 {K : PySem.W.Frag} : ((He.cT K ("first_knowledge", none)).2, ("first_knowledge.<locals>.<lambda>" : Str)) ∈ LTab K := List.mem_cons_self
theorem ltab_2 {K : PySem.W.Frag} : ((He.cT K ("_law_first_known", none)).2, ("_law_first_known.<locals>.<lambda>" : Str)) ∈ LTab K := List.mem_cons_of_mem _ List.mem_cons_self
theorem ltab_u1 {K : PySem.W.Frag} {mg : Str → Option Value} (Y : Hd.Ok K mg) : ∀ p ∈ LTab K, p.1 = (He.cT K ("first_knowledge", none)).2 → p.2 = ("first_knowledge.<locals>.<lambda>" : Str) := fun p hp e => by
  simp only [LTab, List.mem_cons, List.not_mem_nil, or_false] at hp
  rcases hp with rfl | rfl
  · rfl
  · exact absurd e.symm Y.ne
theorem ltab_u2 {K : PySem.W.Frag} {mg : Str → Option Value} (Y : Hd.Ok K mg) : ∀ p ∈ LTab K, p.1 = (He.cT K ("_law_first_known", none)).2 → p.2 = ("_law_first_known.<locals>.<lambda>" : Str) := fun p hp e => by
  simp only [LTab, List.mem_cons, List.not_mem_nil, or_false] at hp
  rcases hp with rfl | rfl
  · exact absurd e Y.ne
  · rfl
theorem tbs_1 {K : PySem.W.Frag} {mg : Str → Option Value} {base : Heap} (TB : Hd.TBs K mg base) : LamX.TabB base mg (He.codeOf K ("first_knowledge", none)) (He.cT K ("first_knowledge", none)).2 := TB _ List.mem_cons_self
theorem tbs_2 {K : PySem.W.Frag} {mg : Str → Option Value} {base : Heap} (TB : Hd.TBs K mg base) : LamX.TabB base mg (He.codeOf K ("_law_first_known", none)) (He.cT K ("_law_first_known", none)).2 := TB _ (List.mem_cons_of_mem _ List.mem_cons_self)
section
variable {X : Cx} {K : PySem.W.Frag}
theorem pe_sortK {te : TE} {T : List (Addr × Str)} {c P : Addr} {j k : Nat} {x z qn : Str} {params : Arguments} {scope : Scope} {e : Expr} {kk : Nat} {p p1 p2 q1 q2 q3 q4 q5 q6 q7 pos : Pos} (eK : X.K = K) (hc : X.calm = true) (hr : Hd.RmG k X.A) (hk : 2 ≤ k)
    (TB : LamX.TabB X.base X.mg c P) (hcode : X.env.code = .ref c) (hm : (P, qn) ∈ T) (hu : ∀ p ∈ T, p.1 = P → p.2 = qn) (hq : X.env.qual ++ "<lambda>" = qn) (hs : Gl X "sorted") (hms : X.mg "sorted" = none) (hg : Gl X "range") (hmr : X.mg "range" = none) (he : PE X e te)
    (hdef : defaultsOf params X.env = ([], [])) (hsc : NdefX.ndefB X.env.scope scope [z] = true) (hns : NdefX.nscB [x, z] [x] [z] scope = true) (hjs : [j].map (fun j => X.N[j]?) = [z].map some)
    (hb : ∀ (q : Str) (cl : List (Str × Addr)) (c' : Addr) (pm ctv u : Value), bindArgs (PySem.W.kla_fn "<lambda>" q params (.Tuple [.Subscript (.Name z q1) (.Name x q2) q3, .Name x q4] kk q5) scope cl pm (.ref c') ctv) ⟨[u], []⟩ = pure [(x, u)])
    (d1 : (x == ("__debug__" : Str)) = false := by decide) (d2 : (z == ("__debug__" : Str)) = false := by decide) (d3 : (x == ("__classdict__" : Str)) = false := by decide) (d4 : (z == ("__classdict__" : Str)) = false := by decide)
    (na : starEach [e] X.env = (false, eval e X.env) :: starEach [] X.env := by rfl) :
    PE X (.Call (.Name "sorted" p) [.Call (.Name "range" p1) [e] [] p2] [⟨some "key", .Lambda params (.Tuple [.Subscript (.Name z q1) (.Name x q2) q3, .Name x q4] kk q5) scope q6, q7⟩] pos) (tSortKey K T P j te) := by
  subst hq
  exact pe_sortKey eK hc hr hk TB hcode hm hu hs hms hg hmr he hdef (NdefX.ndef_free hsc) (NdefX.nscope_by hns) (NdefX.ndef_fr hsc) hjs hb d1 d2 d3 d4 na
end
section
variable {C : Cn} {G : List Sl} {ms : Ms} {te : TE}
theorem el_sortKey {n : Nat} {st : Nat → Nat} {P : Addr} {nm : Str} {j : Nat} (hm : (P, nm) ∈ LTab C.K) (h : Ev C te G ms (dI n)) (hj : G[j]? = some (.dat (dSt n st))) (hn : n ≤ 1000) : EvL C (tSortKey C.K (LTab C.K) P j te) G ms (dNs (FK.ordOf n st)) := fun F H σ S Q q =>
  h F H σ S _ fun s v F1 H1 e g1 k => by
    subst e
    have S1 := S.go g1
    obtain ⟨w, e1, e2⟩ := (S1.env j _ hj).resolve_left nofun
    obtain ⟨a, xs, rfl, sq, all⟩ := dp_tup e2
    obtain ⟨fP, ps, hP, _⟩ := S1.tab _ hm
    refine ⟨n, a, xs, fun i => (st i.toNat : Int), dp_int k, hn, e1, same_t S1.fh sq, fun y hy => ?_, fun p hp => (S1.tab p hp).2, fun l H2 ms' kp T2 nl hl pm pw => ?_⟩
    · obtain ⟨v, h3, h4⟩ := dps_get all (tab_get hy)
      rw [h3, dp_int h4]
      rfl
    · have nP : ∀ b o, H1 b = some o → NoT o → b ≠ P := fun b o e z hb => by
        rw [hb, hP] at e
        exact z ps (Option.some.inj e).symm
      have g2 : Go C F1 H1 F1 H2 := by
        refine ⟨Same.refl F1, fun b o e => kp b o (fun z => by rw [z, fP] at e; cases e) (S1.fh b o e), fun b o e f _ z => ⟨kp b o (nP b o e z) e, f⟩, fun b ps2 e => ?_, fun t p hp => ⟨(t p hp).1, T2 p hp⟩, fun b _ z => z.at (Same.refl F1) fun o e f n => ⟨kp b o (nP b o e n) e, f⟩⟩
        by_cases hb : b = P
        · obtain ⟨qs, h2, _⟩ := T2 _ hm
          exact ⟨qs, hb ▸ h2⟩
        · exact ⟨ps2, kp b _ hb e⟩
      have fl : F1 l = none := by
        cases z : F1 l with
        | none => rfl
        | some o => exact absurd ((S1.fh l o z).symm.trans nl) nofun
      rw [ord_of pm pw] at hl
      refine q _ _ _ _ _ rfl (back_none S g1 nl) (g1.trans g2) fl hl ?_
      have z : dNs (FK.ordOf n st) = ((FK.ordOf n st).map Int.ofNat).map PyData.int := by
        rw [List.map_map]
        rfl
      rw [z]
      exact dps_of_ints _
end
end FW
end
section
set_option linter.all false
set_option maxRecDepth 100000
set_option maxHeartbeats 4000000
namespace FW
open PySem PySem.Spec PyProof.Rows L2
section
variable {P : Program} {w : World} {K : PySem.W.Frag} {mg : Str → Option Value} {base : Heap}

theorem ok_first_knowledge (Y : Hd.Ok K mg) (TB : Hd.TBs K mg base) (D_rooms_within : Ok_rooms_within P w K mg base) (D_sizes_of : Ok_sizes_of P w K mg base) : Ok_first_knowledge P w K mg base := by
  refine mkPrT (i := 7) (j := 14) (k := 2) Y rfl rfl sc_first_knowledge (fun _ _ _ _ _ _ us hl => match us, hl with | [_, _], _ => rfl) 6 rfl (fun _ => rfl) fun cdv he A' outer s H E hr => ⟨_, (pss_cons (ps_set (i := 2) sc_first_knowledge.nd rfl (Or.inr rfl) (pe_ix (ki_seq (K := K) rfl) (pv 0) pe_int (fun _ _ => rfl))) (pss_cons (ps_set (i := 3) sc_first_knowledge.nd rfl (Or.inr rfl) (pe_listRg rfl (by rfl) (Y.free 72) (prg_1 (by rfl) (Y.free 75) (pe_op (ko_add (K := K) rfl) (pv 2) pe_int)))) (pss_cons (ps_if (pt_cmp (pc_isN (pv 1))) (pss_cons (ps_setLc (i := 4) (own := [("size", 6)]) rfl sc_first_knowledge.nd rfl rfl (sw_true rfl rfl rfl (by decide +kernel)) (kp_seq (K := K) rfl (Hd.pe_f D_rooms_within (hr.mono (by decide)) (by rfl) (pa_cons (pv 0) pa_nil))) (blkOk_by (by first | (change blkC N_first_knowledge (defScope (Hd.top 14)) _ _ = true; decide +kernel) | rfl)) (fun _ _ _ _ _ => (pg_name (i := 6) sc_first_knowledge.nd rfl (Or.inr rfl))) (fun _ _ _ _ _ => pts_nil) (fun _ _ _ _ _ => (pe_callTy (kc_tup (K := K) rfl) (by rfl) (Y.free 80) bt_tuple (pa_cons (pe_lc (own := [("place", 7)]) rfl sc_first_knowledge.nd (kp_seq (K := K) rfl (pv 3)) (blkOk_by (by first | (change blkC N_first_knowledge (defScope (Hd.top 14)) _ _ = true; decide +kernel) | rfl)) (fun _ _ _ _ _ => (pg_name (i := 7) sc_first_knowledge.nd rfl (Or.inl rfl))) (fun _ _ _ _ _ => pts_nil) (fun _ _ _ _ _ => (pe_callB (call_max2 rfl) (by rfl) (Y.free 73) bt_max (pa_cons pe_int (pa_cons (pe_op (ko_add (K := K) rfl) (pe_op op_sub (pv 6) (pv 2)) (pv 7)) pa_nil))))) pa_nil)))) (pss_one (ps_ret (pe_tupN (pa_cons (pe_tupRgN rfl (by rfl) (Y.free 80) (prg_1 (by rfl) (Y.free 75) (pv 2))) (pa_cons (pe_callTy (kc_tup (K := K) rfl) (by rfl) (Y.free 80) bt_tuple (pa_cons (pv 4) pa_nil)) pa_nil)))))) pss_nil) (pss_cons (ps_set (i := 5) sc_first_knowledge.nd rfl (Or.inl rfl) (pe_sortK (K := K) (T := LTab K) (j := 1) rfl rfl hr (by decide) (tbs_1 TB) he ltab_1 (ltab_u1 Y) (by first | rfl | decide +kernel) (by rfl) (Y.free 77) (by rfl) (Y.free 75) (pv 2) rfl (by first | (change NdefX.ndefB (defScope (Hd.top 14)) _ _ = true; decide +kernel) | rfl) (by decide +kernel) rfl (fun _ _ _ _ _ _ => rfl))) (pss_cons (ps_setLc (i := 4) (own := [("size", 6)]) rfl sc_first_knowledge.nd rfl rfl (sw_true rfl rfl rfl (by decide +kernel)) (kp_seq (K := K) rfl (Hd.pe_f D_sizes_of (hr.mono (by decide)) (by rfl) (pa_cons (pv 0) (pa_cons (pv 1) pa_nil)))) (blkOk_by (by first | (change blkC N_first_knowledge (defScope (Hd.top 14)) _ _ = true; decide +kernel) | rfl)) (fun _ _ _ _ _ => (pg_name (i := 6) sc_first_knowledge.nd rfl (Or.inr rfl))) (fun _ _ _ _ _ => pts_nil) (fun _ _ _ _ _ => (pe_callTy (kc_tup (K := K) rfl) (by rfl) (Y.free 80) bt_tuple (pa_cons (pe_lc (own := [("place", 7)]) rfl sc_first_knowledge.nd (kp_seq (K := K) rfl (pv 3)) (blkOk_by (by first | (change blkC N_first_knowledge (defScope (Hd.top 14)) _ _ = true; decide +kernel) | rfl)) (fun _ _ _ _ _ => (pg_name (i := 7) sc_first_knowledge.nd rfl (Or.inl rfl))) (fun _ _ _ _ _ => pts_nil) (fun _ _ _ _ _ => (pe_callB (call_min2 rfl) (by rfl) (Y.free 74) bt_min (pa_cons (pv 7) (pa_cons (pv 6) pa_nil))))) pa_nil)))) (pss_one (ps_ret (pe_tupN (pa_cons (pe_callTy (kc_tup (K := K) rfl) (by rfl) (Y.free 80) bt_tuple (pa_cons (pv 5) pa_nil)) (pa_cons (pe_callTy (kc_tup (K := K) rfl) (by rfl) (Y.free 80) bt_tuple (pa_cons (pv 4) pa_nil)) pa_nil)))))))))), fun ⟨n, m, r, s⟩ F0 H0 Q hp hQ => ?_⟩
  change Tr ⟨K, none, F0, H0, F0⟩ [.dat (dHouse n m r), .dat (dStart n s), .un, .un, .un, .un, .un, .un] [] _ _
  obtain ⟨hn, h0, hm, hs⟩ : n ≤ 101 ∧ 0 < m ∧ m ≤ 100 ∧ ∀ st, s = some st → ∀ y, y < n → st y ≤ m := hp
  have e1 : ((n : Int) + 1) = ((n + 1 : Nat) : Int) := rfl
  refine t_seq (t_set (ee_d (ev_op (ev_d rfl) ev_int (rv_ixT (at_of (k := 0) rfl rfl)))) fun σ H h => h.go ?_)
  refine t_seq (t_set (ee_l (EvL.is (ds' := tab (n + 1) dN) (el_listRg (ev_op (ev_d rfl) ev_int rv_addI) (by omega)) rfl)) fun p σ H h => ?_)
  have h := Pst.freeze (ms1 := []) (i := 3) h rfl
  cases s with
  | none =>
    refine h.go (t_seq (t_ifD (b := true) (EvT.is (et_B (ev_isN (ev_d rfl))) rfl) (fun _ => ?_) (fun e => nomatch e)))
    refine t_seq (t_set (ee_l (EvL.is (ds' := tab m fun j => dRow (n + 1) ((FK.firstN n r).W j)) (el_map _ (src_t (ev_call ((n, m, r)) (EvA.is (ea_cons (ev_d rfl) ea_nil) rfl) hm)) hw0 (by first | omega | (simp; omega)) (fun a ha => tgc_name (by simp)) (fun a ha => (ev_cb (ea_cons (EvL.data (el_map _ (src_l (ev_d rfl)) hw0 (by first | omega | (simp; omega)) (fun a1 ha1 => tgc_name (by simp)) (fun a1 ha1 => (ev_cb (ea_cons ev_int (ea_cons (ev_op (ev_op (ev_d rfl) (ev_d rfl) rv_i) (ev_d rfl) rv_addI) ea_nil)) rc_max2)))) ea_nil) rc_tupL))) ?_)) fun p σ H h => ?_)
    · refine tab_congr fun j _ => congrArg PyData.tuple (tab_congr fun d _ => congrArg PyData.int ?_)
      show max 0 (FK.RW r j - (n : Int) + (d : Int)) = max 0 (FK.RW r j - ((n : Int) - (d : Int)))
      rw [show FK.RW r j - (n : Int) + (d : Int) = FK.RW r j - ((n : Int) - (d : Int)) by omega]
    have h := Pst.freeze (ms1 := []) (i := 4) h rfl
    exact h.go (t_retD (Ev.is (ev_tup2 (ea_cons (ev_tupRg (ev_d rfl) (by omega)) (ea_cons (ev_cb (ea_cons (ev_d rfl) ea_nil) rc_tupL) ea_nil))) rfl) hQ)
  | some st =>
    refine h.go (t_seq (t_ifD (b := false) (EvT.is (et_B (ev_isN (ev_d rfl))) rfl) (fun e => nomatch e) fun _ => t_next fun σ H h => h.go ?_))
    refine t_seq (t_set (ee_l (el_sortKey ltab_1 (ev_d rfl) rfl (by omega))) fun p σ H h => ?_)
    have h := Pst.freeze (ms1 := []) (i := 5) h rfl
    refine h.go (t_seq (t_set (ee_l (EvL.is (ds' := tab m fun j => dRow (n + 1) ((FK.firstS n (FK.ordOf n st) st).W j)) (el_map _ (src_t (ev_call ((n, m, r, st)) (EvA.is (ea_cons (ev_d rfl) (ea_cons (ev_d rfl) ea_nil)) rfl) (by exact ⟨by omega, hm⟩))) hw0 (by first | omega | (simp; omega)) (fun a ha => tgc_name (by simp)) (fun a ha => (ev_cb (ea_cons (EvL.data (el_map _ (src_l (ev_d rfl)) hw0 (by first | omega | (simp; omega)) (fun a1 ha1 => tgc_name (by simp)) (fun a1 ha1 => (ev_cb (ea_cons (ev_d rfl) (ea_cons (ev_d rfl) ea_nil)) rc_min2)))) ea_nil) rc_tupL))) ?_)) fun p σ H h => ?_))
    · exact tab_congr fun j _ => rfl
    have h := Pst.freeze (ms1 := []) (i := 4) h rfl
    exact h.go (t_retD (Ev.is (ev_tup2 (ea_cons (ev_cb (ea_cons (ev_d rfl) ea_nil) rc_tupL) (ea_cons (ev_cb (ea_cons (ev_d rfl) ea_nil) rc_tupL) ea_nil))) rfl) hQ)
end
end FW
end
section
set_option linter.all false
set_option maxRecDepth 100000
set_option maxHeartbeats 4000000
namespace FW
open PySem PySem.Spec PyProof.Rows L2
theorem rng_at {m c j : Nat} (h : (List.range m)[c]? = some j) : c < m ∧ j = c := by
  obtain ⟨q1, q2⟩ := List.getElem?_eq_some_iff.mp h
  rw [List.length_range] at q1
  rw [List.getElem_range] at q2
  exact ⟨q1, q2.symm⟩
section
variable {P : Program} {w : World} {K : PySem.W.Frag} {mg : Str → Option Value} {base : Heap}

theorem ok__law_first_known (Y : Hd.Ok K mg) (TB : Hd.TBs K mg base) (D__law_rooms_within : Ok__law_rooms_within P w K mg base) (D__law_sizes : Ok__law_sizes P w K mg base) : Ok__law_first_known P w K mg base := by
  refine mkPrT (i := 50) (j := 64) (k := 2) Y rfl rfl sc__law_first_known (fun _ _ _ _ _ _ us hl => match us, hl with | [_, _], _ => rfl) 6 rfl (fun _ => rfl) fun cdv he A' outer s H E hr => ⟨_, (pss_cons (ps_asg (pe_tupN (pa_cons (pe_ix (ki_seq (K := K) rfl) (pv 0) pe_int (fun _ _ => rfl)) (pa_cons (pe_lst pa_nil) pa_nil))) (kg_tup (K := K) (n := 2) rfl rfl (pgs_cons (pg_name (i := 2) sc__law_first_known.nd rfl (Or.inr rfl)) (pgs_cons (pg_name (i := 3) sc__law_first_known.nd rfl (Or.inl rfl)) pgs_nil)))) (pss_cons (ps_if (pt_cmp (pc_isN (pv 1))) (pss_cons (ps_for PassesOwn.never rfl (kp_seq (K := K) rfl (Hd.pe_f D__law_rooms_within (hr.mono (by decide)) (by rfl) (pa_cons (pv 0) pa_nil))) (pg_name (i := 4) sc__law_first_known.nd rfl (Or.inr rfl)) (pss_one (ps_expr (ke_bm (K := K) rfl PySem.F.plainAttrs_list PySem.F.slot_list_append PySem.F.type_list_append mt_append (pv 3) (pa_cons (pe_callTy (kc_tup (K := K) rfl) (by rfl) (Y.free 80) bt_tuple (pa_cons (pe_lc (own := [("_law_count", 7)]) rfl sc__law_first_known.nd (pi_range1 (by rfl) (Y.free 75) (pa_cons (pe_op (ko_add (K := K) rfl) (pv 2) pe_int) pa_nil)) (blkOk_by (by first | (change blkC N__law_first_known (defScope (Hd.top 64)) _ _ = true; decide +kernel) | rfl)) (fun _ _ _ _ _ => (pg_name (i := 7) sc__law_first_known.nd rfl (Or.inl rfl))) (fun _ _ _ _ _ => pts_nil) (fun _ _ _ _ _ => (pe_callB (call_max2 rfl) (by rfl) (Y.free 73) bt_max (pa_cons pe_int (pa_cons (pe_op op_sub (pv 4) (pe_op op_sub (pv 2) (pv 7))) pa_nil))))) pa_nil)) pa_nil))))) (pss_one (ps_ret (pe_tupN (pa_cons (pe_tupRgN rfl (by rfl) (Y.free 80) (prg_1 (by rfl) (Y.free 75) (pv 2))) (pa_cons (pe_callTy (kc_tup (K := K) rfl) (by rfl) (Y.free 80) bt_tuple (pa_cons (pv 3) pa_nil)) pa_nil)))))) pss_nil) (pss_cons (ps_set (i := 5) sc__law_first_known.nd rfl (Or.inl rfl) (pe_callTy (kc_tup (K := K) rfl) (by rfl) (Y.free 80) bt_tuple (pa_cons (pe_sortK (K := K) (T := LTab K) (j := 1) rfl rfl hr (by decide) (tbs_2 TB) he ltab_2 (ltab_u2 Y) (by first | rfl | decide +kernel) (by rfl) (Y.free 77) (by rfl) (Y.free 75) (pv 2) rfl (by first | (change NdefX.ndefB (defScope (Hd.top 64)) _ _ = true; decide +kernel) | rfl) (by decide +kernel) rfl (fun _ _ _ _ _ _ => rfl)) pa_nil))) (pss_cons (ps_for PassesOwn.never rfl (kp_seq (K := K) rfl (Hd.pe_f D__law_sizes (hr.mono (by decide)) (by rfl) (pa_cons (pv 0) (pa_cons (pv 1) pa_nil)))) (pg_name (i := 6) sc__law_first_known.nd rfl (Or.inr rfl)) (pss_one (ps_expr (ke_bm (K := K) rfl PySem.F.plainAttrs_list PySem.F.slot_list_append PySem.F.type_list_append mt_append (pv 3) (pa_cons (pe_callTy (kc_tup (K := K) rfl) (by rfl) (Y.free 80) bt_tuple (pa_cons (pe_lc (own := [("_law_count", 7)]) rfl sc__law_first_known.nd (pi_range1 (by rfl) (Y.free 75) (pa_cons (pe_op (ko_add (K := K) rfl) (pv 2) pe_int) pa_nil)) (blkOk_by (by first | (change blkC N__law_first_known (defScope (Hd.top 64)) _ _ = true; decide +kernel) | rfl)) (fun _ _ _ _ _ => (pg_name (i := 7) sc__law_first_known.nd rfl (Or.inl rfl))) (fun _ _ _ _ _ => pts_nil) (fun _ _ _ _ _ => (pe_callB (call_min2 rfl) (by rfl) (Y.free 74) bt_min (pa_cons (pv 7) (pa_cons (pv 6) pa_nil))))) pa_nil)) pa_nil))))) (pss_one (ps_ret (pe_tupN (pa_cons (pv 5) (pa_cons (pe_callTy (kc_tup (K := K) rfl) (by rfl) (Y.free 80) bt_tuple (pa_cons (pv 3) pa_nil)) pa_nil))))))))), fun ⟨n, m, r, s⟩ F0 H0 Q hp hQ => ?_⟩
  change Tr ⟨K, none, F0, H0, F0⟩ [.dat (dHouse n m r), .dat (dStart n s), .un, .un, .un, .un, .un, .un] [] _ _
  obtain ⟨hn, h0, hm, hs⟩ : n ≤ 101 ∧ 0 < m ∧ m ≤ 100 ∧ ∀ st, s = some st → ∀ y, y < n → st y ≤ m := hp
  have e1 : ((n : Int) + 1) = ((n + 1 : Nat) : Int) := rfl
  refine t_seq (t_tup (ees_cons (ee_d (ev_op (ev_d rfl) ev_int (rv_ixT (at_of (k := 0) rfl rfl)))) (ees_cons (ee_l el_nil) ees_nil)) rfl (by decide) fun p => ⟨rfl, tgs_name (tgs_name (tgs_nil fun σ H h => h.go ?_))⟩)
  cases s with
  | none =>
    refine t_seq (t_ifD (b := true) (EvT.is (et_B (ev_isN (ev_d rfl))) rfl) (fun _ => ?_) (fun e => nomatch e))
    refine t_seq (t_for (src_l (EvL.data (el_call ((n, m, r)) (EvA.is (ea_cons (ev_d rfl) ea_nil) rfl) hm))) (fun c G ms => (∃ b4 : Sl, G = [.dat (dHouse n m r), .dat .none, .dat (dN n), .ml p, b4, .un, .un, .un]) ∧ ms = [(p, tab c fun j => dRow (n + 1) ((FK.firstN n r).W j))]) ⟨⟨_, rfl⟩, rfl⟩ ?_ ?_)
    · rintro c j hj Fl G ms ⟨⟨b4, rfl⟩, rfl⟩
      obtain ⟨hc, rfl⟩ : c < m ∧ j = c := rng_at hj
      refine tg_name fun σ H h => h.go ?_
      refine t_appD (ev_m rfl) (Ev.is (s' := .dat (dRow (n + 1) ((FK.firstN n r).W j))) (ev_cb (ea_cons (EvL.data (el_map _ (src_range (ea_cons (ev_op (ev_d rfl) ev_int rv_addI) ea_nil) (by show n + 1 ≤ 100000; omega)) hw0 (by first | omega | (simp; omega)) (fun a ha => tgc_name (by simp)) (fun a ha => (ev_cb (ea_cons ev_int (ea_cons (ev_op (ev_d rfl) (ev_op (ev_d rfl) (ev_d rfl) rv_i) rv_i) ea_nil)) rc_max2)))) ea_nil) rc_tupL) ?_) (k := 0) rfl (by simp; omega) fun σ H h => h.inv ⟨⟨_, rfl⟩, ?_⟩
      · refine congrArg (fun z => Sl.dat (PyData.tuple z)) (tab_congr fun d _ => congrArg PyData.int ?_)
        rfl
      · rw [← tab_snoc]; rfl
    · rintro G ms ⟨⟨b4, rfl⟩, rfl⟩ σ H h
      exact h.go (t_retD (Ev.is (s' := .dat (dKn n m (FK.firstN n r))) (ev_tup2 (ea_cons (ev_tupRg (ev_d rfl) (by omega)) (ea_cons (ev_cb (ea_cons (ev_m rfl) ea_nil) (rc_tupM mem0)) ea_nil))) (by rw [List.length_range]; rfl)) hQ)
  | some st =>
    refine t_seq (t_ifD (b := false) (EvT.is (et_B (ev_isN (ev_d rfl))) rfl) (fun e => nomatch e) fun _ => t_next fun σ H h => h.go ?_)
    refine t_seq (t_set (ee_d (ev_cb (ea_cons (EvL.data (el_sortKey ltab_2 (ev_d rfl) rfl (by omega))) ea_nil) rc_tupL)) fun σ H h => h.go ?_)
    refine t_seq (t_for (src_t (ev_call ((n, m, r, st)) (EvA.is (ea_cons (ev_d rfl) (ea_cons (ev_d rfl) ea_nil)) rfl) (by exact ⟨by omega, hm⟩))) (fun c G ms => (∃ b6 : Sl, G = [.dat (dHouse n m r), .dat (dSt n st), .dat (dN n), .ml p, .un, .dat (.tuple (dNs (FK.ordOf n st))), b6, .un]) ∧ ms = [(p, tab c fun j => dRow (n + 1) ((FK.firstS n (FK.ordOf n st) st).W j))]) ⟨⟨_, rfl⟩, rfl⟩ ?_ ?_)
    · rintro c j hj Fl G ms ⟨⟨b6, rfl⟩, rfl⟩
      obtain ⟨hc, rfl⟩ : c < m ∧ j = c := rng_at hj
      refine tg_name fun σ H h => h.go ?_
      refine t_appD (ev_m rfl) (Ev.is (s' := .dat (dRow (n + 1) ((FK.firstS n (FK.ordOf n st) st).W j))) (ev_cb (ea_cons (EvL.data (el_map _ (src_range (ea_cons (ev_op (ev_d rfl) ev_int rv_addI) ea_nil) (by show n + 1 ≤ 100000; omega)) hw0 (by first | omega | (simp; omega)) (fun a ha => tgc_name (by simp)) (fun a ha => (ev_cb (ea_cons (ev_d rfl) (ea_cons (ev_d rfl) ea_nil)) rc_min2)))) ea_nil) rc_tupL) ?_) (k := 0) rfl (by simp; omega) fun σ H h => h.inv ⟨⟨_, rfl⟩, ?_⟩
      · refine congrArg (fun z => Sl.dat (PyData.tuple z)) (tab_congr fun d _ => congrArg PyData.int ?_)
        rfl
      · rw [← tab_snoc]; rfl
    · rintro G ms ⟨⟨b6, rfl⟩, rfl⟩ σ H h
      exact h.go (t_retD (Ev.is (s' := .dat (dKn n m (FK.firstS n (FK.ordOf n st) st))) (ev_tup2 (ea_cons (ev_d rfl) (ea_cons (ev_cb (ea_cons (ev_m rfl) ea_nil) (rc_tupM mem0)) ea_nil))) (by rw [List.length_range]; rfl)) hQ)
end
end FW
end
section
set_option linter.all false
set_option maxRecDepth 100000
set_option maxHeartbeats 0
/-! The top's run. -/
namespace Hd
open PySem PySem.Spec PyProof.Rows L2
abbrev R : PySem.W.OpenRow := PySem.W.OpenLaw.row PySem.Challenge.rw_floorkeepers_k46_whole_best_and_worst_ke
def ex (K : PySem.W.Frag) : Bool := decide ((He.cT K ("first_knowledge", none)).2 ≠ (He.cT K ("_law_first_known", none)).2)
abbrev hk : PySem.W.Hook := He.hookX 4 fa fn [] tf ex
def ob (s : PySem.W.SharedT) : He.AlX := He.obsX 4 fa fn [] tf ex (HandSHeadRun.getT s)
theorem ob_eq (s : PySem.W.SharedT) : ob s = hk.obs s.abs := He.obsX_eq (HandSHeadRun.getT_eq s)
def loose0 : List PySem.Str := ["FloorError", "CannotBe", "NotFit", "rooms_within", "sizes_of", "things_within", "known_sizes", "are_sizes", "stepped", "tightened", "first_knowledge", "taken_out"]
def loose1 : List PySem.Str := ["amid", "lost_one", "led", "led_by", "knowledge_behind", "words_through", "surely_within", "may_be_within", "floors_of", "fits", "by_things", "first_above"]
def loose2 : List PySem.Str := ["front_state", "as_log", "followed", "least_pattern", "greatest_pattern", "put_back", "state_of", "ahead", "showing_to", "showing", "best_run", "worst_run"]
def loose3 : List PySem.Str := ["_law_bag", "_law_take", "_law_one", "_law_mixed", "_law_alike", "_law_flat", "_law_integer", "_law_house", "_law_rooms_within", "_law_within", "_law_sizes", "_law_state"]
def loose4 : List PySem.Str := ["_law_full_state", "_law_start", "_law_is_state", "_law_done", "_law_drawn_move", "_law_first_known", "_law_tightened", "_law_known_sizes", "_law_led", "_law_floors_of", "_law_pattern", "_law_behind"]
def loose5 : List PySem.Str := ["_law_row", "_law_some_house", "_law_floors_by", "_law_is_begin", "_law_drawn_floors"]
def loose : List PySem.Str := loose0 ++ loose1 ++ loose2 ++ loose3 ++ loose4 ++ loose5
theorem run (w : World) : HandSHeadRun.RunEq R (PySem.W.view R.prog [76]) hk ob 3000 loose w := by
  intro os
  kernel_rfl
end Hd
end
section
set_option linter.all false
set_option maxRecDepth 100000
set_option maxHeartbeats 4000000
/-! The law's call from outside: where no text is being made. -/
namespace FW
open PySem PySem.Spec PyProof.Rows L2
/-- what is tracked at first: the empty tables, and the script's list as it stands -/
def view0 (K : PySem.W.Frag) (ts : List Addr) (a : Addr) (o : Obj) (xs : List V) : Hp := fun b => if b ∈ ts then some (.tbl #[]) else if b = a ∧ K.lookup a = none then some (.frz o (.lst xs)) else none
/-- the data of it -/
def data0 (K : PySem.W.Frag) (ts : List Addr) (a : Addr) (o : Obj) (xs : List V) : Hp := fun b => if b ∈ ts then none else view0 K ts a o xs b
section
variable {P : Program} {w : World} {K : PySem.W.Frag} {mg mb : Str → Option Value} {s : Shared} {a b : Addr} {ts : List Addr} {o : Obj} {xs : List V}
theorem view0_tab (h : b ∈ ts) : view0 K ts a o xs b = some (.tbl #[]) := if_pos h
theorem view0_own (h : a ∉ ts) (k : K.lookup a = none) : view0 K ts a o xs a = some (.frz o (.lst xs)) := (if_neg h).trans (if_pos ⟨rfl, k⟩)
theorem view0_off (h : b ∉ ts) (n : ¬(b = a ∧ K.lookup a = none)) : view0 K ts a o xs b = none := (if_neg h).trans (if_neg n)
theorem view0_any (b : Addr) : (b ∈ ts ∧ view0 K ts a o xs b = some (.tbl #[])) ∨ (b ∉ ts ∧ b = a ∧ K.lookup a = none ∧ view0 K ts a o xs b = some (.frz o (.lst xs))) ∨ (b ∉ ts ∧ view0 K ts a o xs b = none) := by
  by_cases h : b ∈ ts
  · exact .inl ⟨h, view0_tab h⟩
  · by_cases n : b = a ∧ K.lookup a = none
    · obtain ⟨rfl, k⟩ := n
      exact .inr (.inl ⟨h, rfl, k, view0_own h k⟩)
    · exact .inr (.inr ⟨h, view0_off h n⟩)
theorem data0_same : Same (data0 K ts a o xs) (view0 K ts a o xs) := fun b u e => by
  by_cases h : b ∈ ts
  · cases (if_pos h).symm.trans e
  · exact (if_neg h).symm.trans e
/-- the law is called with the script -/
theorem law_whole {k : Nat} {fa : Addr} {cs : List (Addr × Addr)} {x : Str} {x' : Str} {sp : Sp} {vs : List Value} {ns : List Int} (KX : K.In s.heap) (hg : s.heap.Ns mainGlobals mg) (hb : s.heap.Ns builtinsNs mb) (hbb : ∀ x : Str, x ≠ "__name__" → mb x = bootBuiltins x) (hlim : s.heap.NoLimit) (hgen : s.gens = #[])
    (hT : ∀ p ∈ cs, s.heap.get? p.2 = some { cls := .none, data := .fields #[] }) (nT : ∀ p ∈ cs, K.lookup p.2 = none) (C : ∀ p ∈ cs, PySem.W.CodeHd s.heap p.1 p.2) (hbm : ∃ (bm : Addr) (ob : Obj), mg "__builtins__" = some (.ref bm) ∧ bm ≠ builtinsNs ∧ s.heap.get? bm = some ob ∧ ob.cls = .type "module" ∧ ob.dict = some builtinsNs ∧ ob.data = .plain)
    (ha : s.heap.get? a = some { cls := .type "list", data := .seq vs.toArray }) (hi : IntsAre vs ns) (hl : ns.length ≤ sizeLine) (hr : Hd.RmG k callerA)
    (F : ∀ base : Heap, (∀ p ∈ cs, LamX.TabB base mg p.1 p.2) → Hd.OkF P w K mg base k x [x'] sp) (hfa : mg x = some (.ref fa))
    (hsp : a ∉ cs.map (·.2) → SqL K (view0 K (cs.map (·.2)) a { cls := .type "list", data := .seq vs.toArray } (ns.map V.int)) a (ns.map V.int) → sp [.ref a] (view0 K (cs.map (·.2)) a { cls := .type "list", data := .seq vs.toArray } (ns.map V.int)) (fun v _ => v = .bl true) E0) :
    codeAny (model P w) callerA (.call (.ref fa) ⟨[.ref a], []⟩) (fun r s' => r = .ok (.ret (.bool true)) ∧ OldK s.heap s'.heap ∧ s'.os = s.os ∧ AllBare s'.gens) s := by
  have rv := vals_ints hi
  have isT : ∀ b ∈ cs.map (·.2), s.heap.get? b = some { cls := .none, data := .fields #[] } := fun b hb => by
    obtain ⟨p, hp, rfl⟩ := List.mem_map.mp hb
    exact hT p hp
  have aT : a ∉ cs.map (·.2) := fun z => by
    have q := (isT a z).symm.trans ha
    cases q
  have any := view0_any (K := K) (ts := cs.map (·.2)) (a := a) (o := { cls := .type "list", data := .seq vs.toArray }) (xs := ns.map V.int)
  have sq : SqL K (view0 K (cs.map (·.2)) a { cls := .type "list", data := .seq vs.toArray } (ns.map V.int)) a (ns.map V.int) := by
    cases k0 : K.lookup a with
    | none => exact .inl (.inr ⟨_, view0_own aT k0⟩)
    | some u =>
      have e := (KX a u k0).symm.trans ha
      cases e
      exact .inr ⟨_, vs.toArray, _, k0, rfl, rfl, rfl, by rw [List.size_toArray, hi.length]; exact hl, by simpa using rv⟩
  have want := hsp aT sq
  have tab := fun b hb => view0_tab (K := K) (ts := cs.map (·.2)) (a := a) (o := { cls := .type "list", data := .seq vs.toArray }) (xs := ns.map V.int) (b := b) hb
  generalize view0 K (cs.map (·.2)) a { cls := .type "list", data := .seq vs.toArray } (ns.map V.int) = H at any sq want tab
  have free : ∀ {b : Addr} {u : Obj}, s.heap.get? b = some u → (∀ n, u.data ≠ .seq vs.toArray n) → u.data ≠ .fields #[] → H b = none := fun {b u} e h1 h2 => by
    rcases any b with ⟨hb, _⟩ | ⟨_, rfl, _, _⟩ | ⟨_, q⟩
    · cases (isT b hb).symm.trans e
      exact absurd rfl h2
    · cases ha.symm.trans e
      exact absurd rfl (h1 _)
    · exact q
  have keepNs : ∀ {b : Addr} {m : Str → Option Value}, s.heap.Ns b m → (hidT s.heap H).Ns b m := fun ⟨u, es, ep, e, d, r⟩ => ⟨u, es, ep, hidT_get e (free e (fun n z => by rw [d] at z; cases z) fun z => by rw [d] at z; cases z), d, r⟩
  have inK : K.In (hidT s.heap H) := fun b u e => hidT_get (KX b u e) (by
    rcases any b with ⟨hb, _⟩ | ⟨_, rfl, k0, _⟩ | ⟨_, q⟩
    · obtain ⟨p, hp, rfl⟩ := List.mem_map.mp hb
      cases (nT p hp).symm.trans e
    · cases k0.symm.trans e
    · exact q)
  have hM : L2.Mod K mg (hidT s.heap H) := ⟨inK, keepNs hg, ⟨mb, keepNs hb, hbb⟩, hlim.imp fun mc h => ⟨keepNs h.1, h.2⟩⟩
  have TB : ∀ p ∈ cs, LamX.TabB (hidT s.heap H) mg p.1 p.2 := fun p hp => by
    refine ⟨?_, ?_, fun z => ?_⟩
    · obtain ⟨u, us, f1, f2, f3, f4, f5, f6, f7, e1, r1, r2, r3, rest⟩ := C p hp
      exact ⟨u, us, f1, f2, f3, f4, f5, f6, f7, hidT_get e1 (free e1 (fun n z => by rw [r2] at z; cases z) fun z => by
        rw [r2] at z
        cases z
        simp at r3), r1, r2, r3, rest⟩
    · obtain ⟨bm, ob, b1, b2, b3, b4, b5, b6⟩ := hbm
      refine ⟨bm, ob, b1, b2, fun q => ?_, fun q => ?_, hidT_get b3 (free b3 (fun n z => by rw [b6] at z; cases z) fun z => by rw [b6] at z; cases z), b4, b5, b6⟩
      · obtain ⟨u, es, ep, e, d, _⟩ := hg
        rw [q, e] at b3
        cases b3
        cases d.symm.trans b6
      · rw [q, hT p hp] at b3
        cases b3
        cases b6
    · obtain ⟨u, es, ep, e, d, _⟩ := hg
      rw [z, hT p hp] at e
      cases e
      cases d
  have hok : HOk P w H s.heap := fun b u e => by
    rcases any b with ⟨hb, q⟩ | ⟨_, rfl, _, q⟩ | ⟨_, q⟩
    · cases q.symm.trans e
      exact isT b hb
    · cases q.symm.trans e
      exact ⟨ha, by rw [List.length_map]; exact hl, vs, _, rv, ha⟩
    · cases q.symm.trans e
  have e0 : Env0 P w K mg (hidT s.heap H) callerA [] s H := ⟨rfl, hM, fun b u e => of_hidT e, Nat.le_of_eq (hidT_size _ _), trivial, fun b hb => absurd (show b ∈ ([] : List Addr) from hb) (by simp), hok, .of_eq hgen⟩
  have D := F (hidT s.heap H) TB
  obtain ⟨fd, G, B⟩ := D.ex
  have efa : fa = He.ga K x := Value.ref.inj (Option.some.inj (hfa.symm.trans D.g))
  subst efa
  have bind := B s [.ref a] KX rfl
  rw [List.append_nil] at bind
  refine codeAny_mono (G.go callerA [] s H ⟨[.ref a], []⟩ [.ref a] [.ref a] _ _ hr e0 bind (.cons rfl .nil) want) fun r s' h => ?_
  match r, h with
  | .ok (.ret u), ⟨v, H', os, bare, un, hok', r', q⟩ =>
    obtain rfl : v = .bl true := q
    obtain rfl : u = Value.bool true := r'
    refine ⟨rfl, ⟨fun b u e => ?_, fun b u e => ?_⟩, os, bare⟩
    · rcases any b with ⟨hb, q⟩ | ⟨_, rfl, _, q⟩ | ⟨_, q⟩
      · obtain ⟨more, z⟩ := un.tbls b #[] q
        obtain ⟨p, hp, rfl⟩ := List.mem_map.mp hb
        cases (hT p hp).symm.trans e
        exact .inr (.inl ⟨((C p hp).tab (hT p hp)).isCodeTable, rfl, #[], more, rfl, by have := hok' p.2 _ z; rw [Array.empty_append] at this ⊢; exact this⟩)
      · obtain ⟨e1, _⟩ := hok' b _ (un.frzs b _ _ q)
        cases ha.symm.trans e
        exact .inl e1
      · exact .inl (un.keep b u e q (fun z => absurd (show b ∈ ([] : List Addr) from z) (by simp)) (by simp))
    · exact un.there b u e (by simp)
  | .ok .next, h => exact False.elim h
  | .ok .brk, h => exact False.elim h
  | .ok .cont, h => exact False.elim h
  | .error e, h => exact False.elim h
end
end FW
end
set_option linter.all false
set_option maxRecDepth 100000
set_option maxHeartbeats 4000000
/-! All defs together; the law's call. -/
namespace FW
open PySem PySem.Spec PyProof.Rows L2
theorem all_law {P : Program} {w : World} {K : PySem.W.Frag} {mg : Str → Option Value} {base : Heap} (Y : Hd.Ok K mg) (TB : Hd.TBs K mg base) : Ok_law P w K mg base := by
  have D__law_alike : Ok__law_alike P w K mg base := ok__law_alike Y
  have D__law_bag : Ok__law_bag P w K mg base := ok__law_bag Y
  have D__law_behind : Ok__law_behind P w K mg base := ok__law_behind Y
  have D__law_done : Ok__law_done P w K mg base := ok__law_done Y
  have D__law_take : Ok__law_take P w K mg base := ok__law_take Y
  have D__law_one : Ok__law_one P w K mg base := ok__law_one Y D__law_take
  have D__law_drawn_move : Ok__law_drawn_move P w K mg base := ok__law_drawn_move Y D__law_one
  have D__law_drawn_floors : Ok__law_drawn_floors P w K mg base := ok__law_drawn_floors Y D__law_done D__law_drawn_move D__law_one
  have D__law_rooms_within : Ok__law_rooms_within P w K mg base := ok__law_rooms_within Y
  have D__law_within : Ok__law_within P w K mg base := ok__law_within Y
  have D__law_sizes : Ok__law_sizes P w K mg base := ok__law_sizes Y D__law_within
  have D__law_first_known : Ok__law_first_known P w K mg base := ok__law_first_known Y TB D__law_rooms_within D__law_sizes
  have D__law_integer : Ok__law_integer P w K mg base := ok__law_integer Y
  have D__law_floors_by : Ok__law_floors_by P w K mg base := ok__law_floors_by Y D__law_alike D__law_done D__law_integer
  have D__law_flat : Ok__law_flat P w K mg base := ok__law_flat Y
  have D__law_mixed : Ok__law_mixed P w K mg base := ok__law_mixed Y D__law_take
  have D__law_full_state : Ok__law_full_state P w K mg base := ok__law_full_state Y D__law_flat D__law_mixed
  have D__law_is_state : Ok__law_is_state P w K mg base := ok__law_is_state Y D__law_integer
  have D__law_is_begin : Ok__law_is_begin P w K mg base := ok__law_is_begin Y D__law_alike D__law_is_state D__law_rooms_within D__law_sizes
  have D__law_known_sizes : Ok__law_known_sizes P w K mg base := ok__law_known_sizes Y
  have D__law_floors_of : Ok__law_floors_of P w K mg base := ok__law_floors_of Y D__law_known_sizes
  have D__law_tightened : Ok__law_tightened P w K mg base := ok__law_tightened Y
  have D__law_led : Ok__law_led P w K mg base := ok__law_led Y D__law_known_sizes D__law_tightened
  have D__law_pattern : Ok__law_pattern P w K mg base := ok__law_pattern Y D__law_floors_of D__law_led
  have D__law_row : Ok__law_row P w K mg base := ok__law_row Y D__law_mixed D__law_one D__law_take
  have D__law_house : Ok__law_house P w K mg base := ok__law_house Y D__law_one D__law_take
  have D__law_some_house : Ok__law_some_house P w K mg base := ok__law_some_house Y D__law_house D__law_one D__law_take
  have D__law_state : Ok__law_state P w K mg base := ok__law_state Y D__law_mixed D__law_one D__law_take
  have D__law_start : Ok__law_start P w K mg base := ok__law_start Y D__law_one D__law_state
  have D_as_log : Ok_as_log P w K mg base := ok_as_log Y
  have D_rooms_within : Ok_rooms_within P w K mg base := ok_rooms_within Y
  have D_things_within : Ok_things_within P w K mg base := ok_things_within Y
  have D_sizes_of : Ok_sizes_of P w K mg base := ok_sizes_of Y D_things_within
  have D_first_knowledge : Ok_first_knowledge P w K mg base := ok_first_knowledge Y TB D_rooms_within D_sizes_of
  have D_known_sizes : Ok_known_sizes P w K mg base := ok_known_sizes Y
  have D_may_be_within : Ok_may_be_within P w K mg base := ok_may_be_within Y
  have D_surely_within : Ok_surely_within P w K mg base := ok_surely_within Y
  have D_floors_of : Ok_floors_of P w K mg base := ok_floors_of Y D_known_sizes D_may_be_within D_surely_within
  have D_taken_out : Ok_taken_out P w K mg base := ok_taken_out Y
  have D_are_sizes : Ok_are_sizes P w K mg base := ok_are_sizes Y
  have D_stepped : Ok_stepped P w K mg base := ok_stepped Y
  have D_tightened : Ok_tightened P w K mg base := ok_tightened Y D_are_sizes D_stepped
  have D_amid : Ok_amid P w K mg base := ok_amid Y D_known_sizes D_taken_out D_tightened
  have D_lost_one : Ok_lost_one P w K mg base := ok_lost_one Y
  have D_led : Ok_led P w K mg base := ok_led Y D_amid D_lost_one D_rooms_within
  have D_followed : Ok_followed P w K mg base := ok_followed Y D_floors_of D_led
  have D_least_pattern : Ok_least_pattern P w K mg base := ok_least_pattern Y D_followed
  have D_by_things : Ok_by_things P w K mg base := ok_by_things Y
  have D_first_above : Ok_first_above P w K mg base := ok_first_above Y
  have D_front_state : Ok_front_state P w K mg base := ok_front_state Y D_by_things D_first_above D_known_sizes
  have D_led_by : Ok_led_by P w K mg base := ok_led_by Y D_led
  have D_knowledge_behind : Ok_knowledge_behind P w K mg base := ok_knowledge_behind Y D_first_knowledge D_led_by
  have D_fits : Ok_fits P w K mg base := ok_fits Y D_known_sizes D_sizes_of
  have D_put_back : Ok_put_back P w K mg base := ok_put_back Y
  have D_state_of : Ok_state_of P w K mg base := ok_state_of Y
  have D_ahead : Ok_ahead P w K mg base := ok_ahead Y D_fits D_known_sizes D_led D_put_back D_rooms_within D_state_of
  have D_words_through : Ok_words_through P w K mg base := ok_words_through Y D_first_knowledge D_led
  have D_showing_to : Ok_showing_to P w K mg base := ok_showing_to Y D_ahead D_fits D_knowledge_behind D_words_through
  have D_showing : Ok_showing P w K mg base := ok_showing Y D_front_state D_knowledge_behind D_showing_to
  have D_best_run : Ok_best_run P w K mg base := ok_best_run Y D_as_log D_first_knowledge D_least_pattern D_showing
  have D_greatest_pattern : Ok_greatest_pattern P w K mg base := ok_greatest_pattern Y D_followed
  have D_worst_run : Ok_worst_run P w K mg base := ok_worst_run Y D_as_log D_first_knowledge D_greatest_pattern D_showing
  have D_law : Ok_law P w K mg base := ok_law Y D__law_alike D__law_bag D__law_behind D__law_drawn_floors D__law_first_known D__law_floors_by D__law_full_state D__law_is_begin D__law_one D__law_pattern D__law_row D__law_some_house D__law_start D_best_run D_first_knowledge D_greatest_pattern D_least_pattern D_worst_run
  exact D_law
theorem law_ends {K : PySem.W.Frag} {ts : List Addr} {a : Addr} {o : Obj} {ns : List Int} (hl : ns.length ≤ 63) (hK : ∀ p ∈ LTab K, p.1 ∈ ts) (q : SqL K (view0 K ts a o (ns.map V.int)) a (ns.map V.int)) (aT : a ∉ ts) :
    (PrS K (α := List Int) (fun a => a.map PyData.int) (fun a => a.length ≤ 63) (fun _ => .bool true)) [.ref a] (view0 K ts a o (ns.map V.int)) (fun v _ => v = .bl true) E0 := by
  refine ⟨ns, data0 K ts a o (ns.map V.int), a, ns.map V.int, rfl, data0_same, fun p hp => ⟨if_pos (hK p hp), LamX.TabS.nil (view0_tab (hK p hp))⟩, ?_, dps_of_ints ns, hl, fun v F' H' _ d => dp_bl d⟩
  rcases q with (h | ⟨u, h⟩) | h
  · exact .inl (.inl ((if_neg aT).trans h))
  · exact .inl (.inr ⟨u, (if_neg aT).trans h⟩)
  · exact .inr h
end FW

namespace Hd
open PySem PySem.Spec PyProof.Rows L2
theorem ok_of {w : World} {h : Heap} {K : PySem.W.Frag} {mg : Str → Option Value} (KX : K.In h) (hg : h.Ns mainGlobals mg) (c : He.SaysX fa fn [] tf ex w h K) : Ok K mg := ⟨c.t.d, of_decide_eq_true c.more, h, KX, hg⟩
theorem walk : PySem.W.WalkO (PySem.W.view R.prog [76]) loose (PySem.W.XL (PySem.W.view R.prog [76]) []) hk.says R.toRowW (HandSHeadRun.topDef R.prog 76) [] (fun f vs => PySem.call f vs) := by
  refine Att.attach_callB (l := PySem.Challenge.rw_floorkeepers_k46_whole_best_and_worst_ke) (n := 63) rfl (by kernel_rfl) fun w s₀ s₁ mg mb fa o pm cd doc a vs ns G Yh ho hd hcd hmg hobj hints hlen hbits hg => ?_
  obtain ⟨K, KX, c⟩ := Yh
  have Y := ok_of KX G.T.g c
  have e : (HandSHeadRun.topDef R.prog 76).name = ("law" : PySem.Str) := by kernel_rfl
  rw [e] at hmg
  have mem : ∀ {p : Addr × Addr}, p ∈ tf.map (He.cT K) → ∃ t ∈ tf, He.cT K t = p := fun hp => List.mem_map.mp hp
  refine FW.law_whole (cs := tf.map (He.cT K)) (k := 10) KX G.T.g G.T.b G.T.builtins G.T.nolimit hg (fun p hp => ?_) (fun p hp => ?_) (fun p hp => ?_) G.T.bmain hobj hints (Nat.le_trans hlen (by decide)) ⟨⟨rfl, by decide, by decide⟩, rfl⟩ (fun base TB => FW.all_law Y fun p hp => TB _ (List.mem_map.mpr ⟨p, hp, rfl⟩)) hmg fun aT q => FW.law_ends hlen (fun p hp => ?_) q aT
  · obtain ⟨t, ht, rfl⟩ := mem hp
    exact c.empty t ht
  · obtain ⟨t, ht, rfl⟩ := mem hp
    exact c.out t ht
  · obtain ⟨t, ht, rfl⟩ := mem hp
    exact PySem.W.codeHd_of_K KX (c.hd t ht)
  · simp only [FW.LTab, List.mem_cons, List.not_mem_nil, or_false] at hp
    rcases hp with rfl | rfl <;> simp [tf]
end Hd

open PySem PySem.W PySem.Calls PyProof.Rows
set_option maxRecDepth 100000 in
set_option maxHeartbeats 8000000 in
theorem PySem.Challenge.cw_floorkeepers_k46_whole_best_and_worst_ke_holds : PySem.Challenge.rw_floorkeepers_k46_whole_best_and_worst_ke.Holds := by
  w_on; o_law
  refine HandSHeadRun.head_any (r := Hd.R) (q := view Hd.R.prog [76]) (H := Hd.hk) (ob := Hd.ob) (M := 3000) (loose := Hd.loose) (d := HandSHeadRun.topDef Hd.R.prog 76) (kwd := []) Hd.ob_eq (by kernel_rfl) (fun s => by kernel_rfl) Hd.run (by kernel_rfl) (by kernel_rfl) (by kernel_rfl) (by rfl) (by first | assumption | decide +kernel) (by decide +kernel) ⟨rfl, rfl, rfl, rfl, rfl, by decide +kernel⟩ ?hw ?hc
  case hw => w_witness2
  case hc => exact Hd.walk
