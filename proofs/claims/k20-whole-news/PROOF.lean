import PyProof.Rows.All
import Wide.All
import OpenK.AllK
import Wide.FinOn
import HandS.ForMost
import HandS.IsInst
import HandS.TupMul
import HandS.Strs
import HandS.Flow
import PyProof.AutoSeq1
import HandS.TupAny
import HandS.Evl
import HandS.SetFor
import PySem.Challenge.RW_placewords_k20_whole_news
set_option Elab.async false
set_option maxRecDepth 100000
set_option maxHeartbeats 8000000
/-! G1: the order of events by clocks, in plain Lean. Events are 1, 2, .., none is 0; pl e are the places of event e. -/
namespace Gsp

/-- the greatest value of f over a list, 0 for none -/
def mx (f : Nat → Nat) : List Nat → Nat
  | [] => 0
  | q :: r => max (f q) (mx f r)

theorem le_mx {f : Nat → Nat} {l : List Nat} {q : Nat} (h : q ∈ l) : f q ≤ mx f l := by
  induction l with
  | nil => cases h
  | cons a r ih =>
    rw [List.mem_cons] at h
    rcases h with rfl | h
    · exact Nat.le_max_left _ _
    · exact Nat.le_trans (ih h) (Nat.le_max_right _ _)

theorem mx_mem {f : Nat → Nat} {l : List Nat} (h : l ≠ []) : ∃ q, q ∈ l ∧ mx f l = f q := by
  induction l with
  | nil => exact absurd rfl h
  | cons a r ih =>
    by_cases hr : r = []
    · subst hr
      exact ⟨a, List.mem_cons_self, by simp [mx]⟩
    · obtain ⟨q, hq, e⟩ := ih hr
      by_cases hc : f a ≤ mx f r
      · exact ⟨q, List.mem_cons_of_mem _ hq, by simp only [mx]; rw [Nat.max_eq_right hc]; exact e⟩
      · exact ⟨a, List.mem_cons_self, by simp only [mx]; rw [Nat.max_eq_left (by omega)]⟩

section
variable (pl : Nat → List Nat)

/-- the newest event of r that place p knows behind t events -/
def N : Nat → Nat → Nat → Nat
  | 0, _, _ => 0
  | t + 1, p, r => if p ∈ pl (t + 1) then (if r ∈ pl (t + 1) then t + 1 else mx (fun q => N t q r) (pl (t + 1))) else N t p r

/-- the newest event of r that event e knows -/
def C : Nat → Nat → Nat
  | 0, _ => 0
  | t + 1, r => if r ∈ pl (t + 1) then t + 1 else mx (fun q => N pl t q r) (pl (t + 1))

end

section
variable {pl : Nat → List Nat}

theorem N_zero (p r : Nat) : N pl 0 p r = 0 := rfl
theorem N_in {t p : Nat} (r : Nat) (h : p ∈ pl (t + 1)) : N pl (t + 1) p r = C pl (t + 1) r := by
  simp only [N, C]; rw [if_pos h]
theorem N_out {t p : Nat} (r : Nat) (h : ¬ p ∈ pl (t + 1)) : N pl (t + 1) p r = N pl t p r := by
  simp only [N]; rw [if_neg h]
theorem C_zero (r : Nat) : C pl 0 r = 0 := rfl
theorem C_at {e r : Nat} (h : r ∈ pl e) : C pl e r = e := by
  cases e with
  | zero => rfl
  | succ t => simp only [C]; rw [if_pos h]

theorem N_le (t p r : Nat) : N pl t p r ≤ t := by
  induction t generalizing p with
  | zero => simp [N]
  | succ t ih =>
    simp only [N]
    split
    · split
      · exact Nat.le_refl _
      · rename_i h1 h2
        obtain ⟨q, hq, e⟩ := mx_mem (f := fun q => N pl t q r) (l := pl (t + 1)) (by intro z; rw [z] at h1; cases h1)
        rw [e]
        exact Nat.le_succ_of_le (ih q)
    · exact Nat.le_succ_of_le (ih p)

theorem N_at (t p r : Nat) : N pl t p r ≠ 0 → r ∈ pl (N pl t p r) := by
  induction t generalizing p with
  | zero => intro h; exact absurd rfl h
  | succ t ih =>
    intro h
    by_cases hp : p ∈ pl (t + 1)
    · by_cases hr : r ∈ pl (t + 1)
      · rw [N_in r hp, C_at hr]; exact hr
      · have e0 : N pl (t + 1) p r = mx (fun q => N pl t q r) (pl (t + 1)) := by
          simp only [N]; rw [if_pos hp, if_neg hr]
        obtain ⟨q, hq, e⟩ := mx_mem (f := fun q => N pl t q r) (l := pl (t + 1)) (by intro z; rw [z] at hp; cases hp)
        rw [e0, e] at h ⊢
        exact ih q h
    · rw [N_out r hp] at h ⊢
      exact ih p h

theorem N_C (t p r : Nat) : N pl t p r = C pl (N pl t p p) r := by
  induction t generalizing r with
  | zero => rfl
  | succ t ih =>
    by_cases hp : p ∈ pl (t + 1)
    · rw [N_in r hp, N_in p hp, C_at hp]
    · rw [N_out r hp, N_out p hp]; exact ih r

theorem N_last {t p e : Nat} (h1 : e ≤ t) (h2 : p ∈ pl e) (h0 : 1 ≤ e) : e ≤ N pl t p p := by
  induction t with
  | zero => omega
  | succ t ih =>
    by_cases hp : p ∈ pl (t + 1)
    · rw [N_in p hp, C_at hp]; exact h1
    · rw [N_out p hp]
      by_cases e1 : e = t + 1
      · subst e1; exact absurd h2 hp
      · exact ih (by omega)

theorem C_ge {y q : Nat} (r : Nat) (hq : q ∈ pl (y + 1)) : N pl y q r ≤ C pl (y + 1) r := by
  by_cases hr : r ∈ pl (y + 1)
  · rw [C_at hr]; exact Nat.le_succ_of_le (N_le _ _ _)
  · simp only [C]; rw [if_neg hr]; exact le_mx (f := fun q => N pl y q r) hq

variable (hne : ∀ e, pl e ≠ [])
include hne

theorem C_pick (y r : Nat) : (r ∈ pl (y + 1) ∧ C pl (y + 1) r = y + 1) ∨ (¬ r ∈ pl (y + 1) ∧ ∃ q, q ∈ pl (y + 1) ∧ C pl (y + 1) r = N pl y q r) := by
  by_cases hr : r ∈ pl (y + 1)
  · exact .inl ⟨hr, C_at hr⟩
  · obtain ⟨q, hq, e⟩ := mx_mem (f := fun q => N pl y q r) (hne (y + 1))
    exact .inr ⟨hr, q, hq, by simp only [C]; rw [if_neg hr]; exact e⟩

theorem C_le (e r : Nat) : C pl e r ≤ e := by
  cases e with
  | zero => exact Nat.le_refl 0
  | succ y =>
    rcases C_pick hne y r with ⟨_, h⟩ | ⟨_, q, _, h⟩
    · rw [h]; exact Nat.le_refl _
    · rw [h]; exact Nat.le_succ_of_le (N_le _ _ _)

theorem C_mem {e r : Nat} (h : C pl e r ≠ 0) : r ∈ pl (C pl e r) := by
  cases e with
  | zero => exact absurd rfl h
  | succ y =>
    rcases C_pick hne y r with ⟨hr, e⟩ | ⟨_, q, _, e⟩
    · rw [e]; exact hr
    · rw [e] at h ⊢; exact N_at _ _ _ h

/-- what an event knows of is within: if g, at p, is known to x, all that g knows is known to x -/
theorem C_trans (x : Nat) : ∀ g p r, 1 ≤ g → p ∈ pl g → g ≤ C pl x p → C pl g r ≤ C pl x r := by
  induction x using Nat.strongRecOn with
  | ind x ih =>
    intro g p r h1 hp hg
    cases x with
    | zero => rw [C_zero] at hg; omega
    | succ y =>
      rcases C_pick hne y p with ⟨hpx, e⟩ | ⟨_, q, hq, e⟩
      · rw [e] at hg
        by_cases hgx : g = y + 1
        · subst hgx; exact Nat.le_refl _
        · have hl : g ≤ N pl y p p := N_last (by omega) hp h1
          have hz : N pl y p p < y + 1 := Nat.lt_succ_of_le (N_le _ _ _)
          have h3 := ih _ hz g p r h1 hp (by rw [← N_C]; exact hl)
          rw [← N_C] at h3
          exact Nat.le_trans h3 (C_ge r hpx)
      · rw [e, N_C] at hg
        have hz : N pl y q q < y + 1 := Nat.lt_succ_of_le (N_le _ _ _)
        have h3 := ih _ hz g p r h1 hp hg
        rw [← N_C] at h3
        exact Nat.le_trans h3 (C_ge r hq)

/-- an event that x knows, and not x itself, has a next one at one of its places that x knows -/
theorem C_next (x : Nat) : ∀ g p, 1 ≤ g → p ∈ pl g → g ≤ C pl x p → g ≠ x → ∃ p', p' ∈ pl g ∧ g < C pl x p' := by
  induction x using Nat.strongRecOn with
  | ind x ih =>
    intro g p h1 hp hg hx
    cases x with
    | zero => rw [C_zero] at hg; omega
    | succ y =>
      rcases C_pick hne y p with ⟨hpx, e⟩ | ⟨_, q, hq, e⟩
      · exact ⟨p, hp, by rw [e] at hg ⊢; omega⟩
      · rw [e, N_C] at hg
        have hz : N pl y q q ≤ y := N_le _ _ _
        by_cases hgz : g = N pl y q q
        · have hqg : q ∈ pl g := by rw [hgz]; exact N_at _ _ _ (by rw [← hgz]; omega)
          exact ⟨q, hqg, by rw [C_at hq]; omega⟩
        · obtain ⟨p', hp', hl⟩ := ih _ (Nat.lt_succ_of_le hz) g p h1 hp hg hgz
          rw [← N_C] at hl
          exact ⟨p', hp', Nat.lt_of_lt_of_le hl (C_ge p' hq)⟩

/-- what x and y both know lies below an event that both know newest of someone, or below one of them -/
theorem meet_aux {x y f r : Nat} (k : Nat) : ∀ g p0, x - g ≤ k → 1 ≤ g → p0 ∈ pl g → g ≤ C pl x p0 → g ≤ C pl y p0 → f ≤ C pl g r →
    ∃ g, 1 ≤ g ∧ f ≤ C pl g r ∧ ((g = y ∧ ∃ p, p ∈ pl g ∧ g ≤ C pl x p) ∨ (g = x ∧ ∃ p, p ∈ pl g ∧ g ≤ C pl y p) ∨ ∃ p q, g = C pl x p ∧ g = C pl y q) := by
  induction k with
  | zero =>
    intro g p0 hk h1 hp hx hy hf
    have hgx : g = x := by
      have := C_le hne x p0
      omega
    exact ⟨g, h1, hf, .inr (.inl ⟨hgx, p0, hp, hy⟩)⟩
  | succ k ih =>
    intro g p0 hk h1 hp hx hy hf
    by_cases hc : ∃ p, p ∈ pl g ∧ g < C pl x p ∧ g < C pl y p
    · obtain ⟨p, hpg, h2, h3⟩ := hc
      have hm : ∃ g', g' = min (C pl x p) (C pl y p) := ⟨_, rfl⟩
      obtain ⟨g', hg'⟩ := hm
      have hpg' : p ∈ pl g' := by
        by_cases hle : C pl x p ≤ C pl y p
        · rw [Nat.min_eq_left hle] at hg'
          rw [hg']
          exact C_mem hne (by omega)
        · rw [Nat.min_eq_right (by omega)] at hg'
          rw [hg']
          exact C_mem hne (by omega)
      have hxx := C_le hne x p
      have hgg : g < g' := by omega
      have h4 : C pl g r ≤ C pl g' r := C_trans hne g' g p r h1 hpg (by rw [C_at hpg']; omega)
      exact ih g' p (by omega) (by omega) hpg' (by omega) (by omega) (Nat.le_trans hf h4)
    · have hall : ∀ p, p ∈ pl g → g = C pl x p ∨ g = C pl y p := by
        intro p hpg
        have a := C_trans hne x g p0 p h1 hp hx
        have b := C_trans hne y g p0 p h1 hp hy
        rw [C_at hpg] at a b
        by_cases hh : g < C pl x p ∧ g < C pl y p
        · exact absurd ⟨p, hpg, hh⟩ hc
        · omega
      by_cases hgx : g = x
      · exact ⟨g, h1, hf, .inr (.inl ⟨hgx, p0, hp, hy⟩)⟩
      · by_cases hgy : g = y
        · exact ⟨g, h1, hf, .inl ⟨hgy, p0, hp, hx⟩⟩
        · obtain ⟨p1, hp1, l1⟩ := C_next hne x g p0 h1 hp hx hgx
          obtain ⟨p2, hp2, l2⟩ := C_next hne y g p0 h1 hp hy hgy
          have e1 := hall p1 hp1
          have e2 := hall p2 hp2
          exact ⟨g, h1, hf, .inr (.inr ⟨p2, p1, by omega, by omega⟩)⟩

theorem meet_of {x y f r : Nat} (h1 : 1 ≤ f) (hr : r ∈ pl f) (hx : f ≤ C pl x r) (hy : f ≤ C pl y r) :
    ∃ g, 1 ≤ g ∧ f ≤ C pl g r ∧ ((g = y ∧ ∃ p, p ∈ pl g ∧ g ≤ C pl x p) ∨ (g = x ∧ ∃ p, p ∈ pl g ∧ g ≤ C pl y p) ∨ ∃ p q, g = C pl x p ∧ g = C pl y q) :=
  meet_aux hne _ f r (Nat.le_refl _) h1 hr hx hy (by rw [C_at hr]; exact Nat.le_refl _)

/-- the newest that p knows of q is at most q's own last -/
theorem N_le_last (t p q : Nat) : N pl t p q ≤ N pl t q q := by
  by_cases h : N pl t p q = 0
  · omega
  · exact N_last (N_le _ _ _) (N_at _ _ _ h) (by omega)

theorem N_trans {t p r : Nat} (s : Nat) {g : Nat} (h1 : 1 ≤ g) (hr : r ∈ pl g) (h : g ≤ N pl t p r) : C pl g s ≤ N pl t p s := by
  rw [N_C] at h ⊢
  exact C_trans hne _ g r s h1 hr h

theorem gossip {t p q f r : Nat} (h1 : 1 ≤ f) (hr : r ∈ pl f) (hx : f ≤ N pl t p r) (hy : f ≤ N pl t q r) :
    ∃ p' q', N pl t p p' = N pl t q q' ∧ 1 ≤ N pl t p p' ∧ f ≤ C pl (N pl t p p') r := by
  have hx' := hx
  have hy' := hy
  rw [N_C] at hx' hy'
  obtain ⟨g, g1, gf, h | h | h⟩ := meet_of hne h1 hr hx' hy'
  · obtain ⟨rfl, s, hs, hl⟩ := h
    have hq : q ∈ pl (N pl t q q) := N_at _ _ _ (by omega)
    have a := C_trans hne _ _ s q g1 hs hl
    rw [C_at hq, ← N_C] at a
    have b := N_le_last hne t p q
    have e : N pl t p q = N pl t q q := by omega
    exact ⟨q, q, e, by omega, by rw [e]; exact gf⟩
  · obtain ⟨rfl, s, hs, hl⟩ := h
    have hp : p ∈ pl (N pl t p p) := N_at _ _ _ (by omega)
    have a := C_trans hne _ _ s p g1 hs hl
    rw [C_at hp, ← N_C] at a
    have b := N_le_last hne t q p
    have e : N pl t p p = N pl t q p := by omega
    exact ⟨p, p, e, by omega, gf⟩
  · obtain ⟨p', q', e1, e2⟩ := h
    rw [← N_C] at e1 e2
    exact ⟨p', q', by omega, by omega, by rw [← e1]; exact gf⟩

/-- an event of p that someone knows at second hand is known to p at third hand -/
theorem third_hand {t p q r s f : Nat} (h1 : 1 ≤ f) (hf : f = C pl (N pl t q r) s) (hp : p ∈ pl f) :
    ∃ r' s', f = C pl (C pl (N pl t p r') s') s ∧ 1 ≤ N pl t p r' ∧ 1 ≤ C pl (N pl t p r') s' := by
  have hs : s ∈ pl f := by rw [hf]; exact C_mem hne (by omega)
  have hft : f ≤ t := by
    have a := C_le hne (N pl t q r) s
    have b := N_le (pl := pl) t q r
    omega
  have hlast : f ≤ N pl t p p := N_last hft hp h1
  have hfx : f ≤ C pl (N pl t p p) s := by
    have a := N_trans hne s h1 hp hlast
    rw [C_at hs, N_C] at a
    exact a
  obtain ⟨g, g1, gf, h | h | h⟩ := meet_of hne (x := N pl t p p) (y := N pl t q r) h1 hs hfx (by omega)
  · obtain ⟨rfl, u, hu, hl⟩ := h
    have hrh : r ∈ pl (N pl t q r) := N_at _ _ _ (by omega)
    have a := C_trans hne _ _ u r g1 hu hl
    rw [C_at hrh, ← N_C] at a
    obtain ⟨p', q', e, e1, el⟩ := gossip hne g1 hrh a (Nat.le_refl _)
    have hq' : q' ∈ pl (N pl t q q') := N_at _ _ _ (by omega)
    have b := N_trans hne (t := t) (p := q) (r := q') r (by omega) hq' (Nat.le_refl _)
    rw [← e] at b
    have e2 : C pl (N pl t p p') r = N pl t q r := by omega
    exact ⟨p', r, by rw [e2]; exact hf, e1, by omega⟩
  · obtain ⟨rfl, u, hu, hl⟩ := h
    have a := C_trans hne _ _ u s g1 hu hl
    have hpp : p ∈ pl (N pl t p p) := N_at _ _ _ (by omega)
    exact ⟨p, p, by rw [C_at hpp]; omega, g1, by rw [C_at hpp]; exact g1⟩
  · obtain ⟨p', q', e1, e2⟩ := h
    rw [← N_C] at e1
    have hq' : q' ∈ pl g := by rw [e2]; exact C_mem hne (by omega)
    have a := C_trans hne (N pl t q r) g q' s g1 hq' (by omega)
    have hp' : p' ∈ pl g := by rw [e1]; exact N_at _ _ _ (by omega)
    exact ⟨p', p', by rw [← e1, C_at hp']; omega, by omega, by rw [← e1, C_at hp']; exact g1⟩

/-- event i is below event k -/
def Bl (pl : Nat → List Nat) (i k : Nat) : Prop := ∃ r, r ∈ pl i ∧ i ≤ C pl k r

theorem Bl_iff {i k : Nat} (h1 : 1 ≤ i) : Bl pl i k ↔ (i = k ∨ ∃ j, 1 ≤ j ∧ j < k ∧ (∃ q, q ∈ pl j ∧ q ∈ pl k) ∧ Bl pl i j) := by
  constructor
  · rintro ⟨r, hr, hl⟩
    cases k with
    | zero => rw [C_zero] at hl; omega
    | succ y =>
      by_cases e : i = y + 1
      · exact .inl e
      · refine .inr ?_
        rcases C_pick hne y r with ⟨hrx, _⟩ | ⟨_, q, hq, e2⟩
        · have := C_le hne (y + 1) r
          exact ⟨i, h1, by omega, ⟨r, hr, hrx⟩, r, hr, by rw [C_at hr]; exact Nat.le_refl _⟩
        · rw [e2, N_C] at hl
          have hz : N pl y q q ≤ y := N_le _ _ _
          have hn := C_le hne (N pl y q q) r
          exact ⟨N pl y q q, by omega, by omega, ⟨q, N_at _ _ _ (by omega), hq⟩, r, hr, hl⟩
  · rintro (rfl | ⟨j, j1, jk, ⟨q, hqj, hqk⟩, r, hr, hl⟩)
    · obtain ⟨r, hr⟩ := List.exists_mem_of_ne_nil _ (hne i)
      exact ⟨r, hr, by rw [C_at hr]; exact Nat.le_refl _⟩
    · exact ⟨r, hr, Nat.le_trans hl (C_trans hne k j q r j1 hqj (by rw [C_at hqk]; omega))⟩

/-- the newest event of r that p knows, by views -/
theorem N_view {t p r e : Nat} (h1 : 1 ≤ e) (het : e ≤ t) (hr : r ∈ pl e) (k : Nat) (hk : k ≤ t) (hp : p ∈ pl k) (hb : Bl pl e k) : e ≤ N pl t p r := by
  obtain ⟨u, hu, hl⟩ := hb
  have a := C_trans hne k e u r h1 hu hl
  rw [C_at hr] at a
  have hc := C_le hne k r
  have hk1 : 1 ≤ k := by omega
  have b := N_trans hne r hk1 hp (N_last hk hp hk1)
  omega

theorem N_inview {t p r : Nat} (h : N pl t p r ≠ 0) : ∃ k, 1 ≤ k ∧ k ≤ t ∧ p ∈ pl k ∧ Bl pl (N pl t p r) k := by
  refine ⟨N pl t p p, ?_, N_le _ _ _, ?_, r, N_at _ _ _ h, by rw [← N_C]; exact Nat.le_refl _⟩
  · have := N_C (pl := pl) t p r
    have := C_le hne (N pl t p p) r
    omega
  · have := N_C (pl := pl) t p r
    have := C_le hne (N pl t p p) r
    exact N_at _ _ _ (by omega)

end
end Gsp
/-! G2: labels in place of events; what the defs compute, and that it tells the order. -/
namespace Gsp

structure Kn where
  f1 : Nat → Int
  f2 : Nat → Nat → Int
  f3 : Nat → Nat → Nat → Int

def kn0 : Kn := ⟨fun _ => 0, fun _ _ => 0, fun _ _ _ => 0⟩

def r1 (n : Nat) (f : Nat → Int) : List Int := (List.range n).map f
def r2 (n : Nat) (f : Nat → Nat → Int) : List Int := (List.range n).flatMap (fun i => r1 n (f i))
def r3 (n : Nat) (f : Nat → Nat → Nat → Int) : List Int := (List.range n).flatMap (fun i => r2 n (f i))
def flat (n : Nat) (k : Kn) : List Int := r1 n k.f1 ++ r2 n k.f2 ++ r3 n k.f3
def dec (n : Nat) (xs : List Int) : Kn :=
  ⟨fun i => xs.getD i 0, fun i j => xs.getD (n + (i * n + j)) 0, fun i j l => xs.getD (n + n * n + (i * (n * n) + (j * n + l))) 0⟩

def older (n : Nat) (one two : Kn) (r : Nat) : Bool :=
  if one.f1 r = two.f1 r then false
  else if one.f1 r = 0 ∨ two.f1 r = 0 then decide (one.f1 r = 0)
  else (List.range n).any fun o => decide (one.f1 o ≠ 0 ∧ one.f1 o ∈ r1 n two.f1 ∧ one.f2 o r = one.f1 r)

def hold (n : Nat) (known : List Kn) (r : Nat) : Nat → Nat
  | 0 => 0
  | i + 1 => if older n (known.getD (hold n known r i) kn0) (known.getD (i + 1) kn0) r then i + 1 else hold n known r i

def holder (n : Nat) (known : List Kn) (r : Nat) : Nat := hold n known r (known.length - 1)

def met (n : Nat) (there : List Nat) (label : Int) (known : List Kn) : Kn :=
  let h := fun r => known.getD (holder n known r) kn0
  let g1 := fun r => if r ∈ there then label else (h r).f1 r
  let g2 := fun r => if r ∈ there then g1 else (h r).f2 r
  let g3 := fun r => if r ∈ there then g2 else (h r).f3 r
  ⟨g1, g2, g3⟩

def freshF (used : List Int) (m : Nat) : Nat → Int → Int
  | 0, l => l
  | k + 1, l => if l ∈ used then freshF used m k (l + m) else l

def fresh (used : List Int) (a m : Nat) : Int := freshF used m (used.length + 1) (1 + a)

def cmp (n : Nat) (one two : Kn) (r : Nat) : Int :=
  if one.f1 r = two.f1 r then 0 else if older n one two r then -1 else 1

def usedOf (n : Nat) (known : List Kn) : List Int := known.flatMap (flat n)

/-- the new local state of the places of letter a -/
def meetM (n m : Nat) (lets : List (List Nat)) (a : Nat) (xss : List (List Int)) : List Int :=
  flat n (met n (lets.getD a []) (fresh (usedOf n (xss.map (dec n))) a m) (xss.map (dec n)))

/-! lists -/
theorem getD_left {a b : List Int} {i : Nat} (h : i < a.length) : (a ++ b).getD i 0 = a.getD i 0 := by
  simp [List.getD, List.getElem?_append_left h]
theorem getD_right {a b : List Int} {i : Nat} (h : a.length ≤ i) : (a ++ b).getD i 0 = b.getD (i - a.length) 0 := by
  simp [List.getD, List.getElem?_append_right h]
theorem r1_length (n : Nat) (f : Nat → Int) : (r1 n f).length = n := by simp [r1]
theorem r1_get {n i : Nat} {f : Nat → Int} (h : i < n) : (r1 n f).getD i 0 = f i := by
  simp [r1, List.getD, List.getElem?_map, List.getElem?_range h]
theorem fm_length {n c : Nat} {g : Nat → List Int} (hg : ∀ i, (g i).length = c) : ((List.range n).flatMap g).length = n * c := by
  induction n with
  | zero => simp
  | succ n ih => rw [List.range_succ, List.flatMap_append, List.length_append, ih]; simp [hg, Nat.succ_mul]
theorem fm_get {n c : Nat} {g : Nat → List Int} (hg : ∀ i, (g i).length = c) {i j : Nat} (hi : i < n) (hj : j < c) :
    ((List.range n).flatMap g).getD (i * c + j) 0 = (g i).getD j 0 := by
  induction n with
  | zero => omega
  | succ n ih =>
    have hl := fm_length (n := n) hg
    rw [List.range_succ, List.flatMap_append]
    by_cases h : i < n
    · have h2 : i * c + j < n * c := by
        have : (i + 1) * c ≤ n * c := Nat.mul_le_mul_right c h
        rw [Nat.succ_mul] at this
        omega
      rw [getD_left (by omega)]
      exact ih h
    · have e : i = n := by omega
      subst e
      rw [getD_right (by omega), hl]
      simp
theorem r2_length (n : Nat) (f : Nat → Nat → Int) : (r2 n f).length = n * n := fm_length fun _ => r1_length _ _
theorem r3_length (n : Nat) (f : Nat → Nat → Nat → Int) : (r3 n f).length = n * (n * n) := fm_length fun _ => r2_length _ _
theorem flat_length (n : Nat) (k : Kn) : (flat n k).length = n + n * n + n * (n * n) := by
  simp only [flat, List.length_append, r1_length, r2_length, r3_length]

/-- alike below n -/
structure Eqn (n : Nat) (k k' : Kn) : Prop where
  e1 : ∀ i, i < n → k.f1 i = k'.f1 i
  e2 : ∀ i j, i < n → j < n → k.f2 i j = k'.f2 i j
  e3 : ∀ i j l, i < n → j < n → l < n → k.f3 i j l = k'.f3 i j l

theorem ij_lt {n i j : Nat} (hi : i < n) (hj : j < n) : i * n + j < n * n := by
  have : (i + 1) * n ≤ n * n := Nat.mul_le_mul_right n hi
  rw [Nat.succ_mul] at this
  omega

theorem dec_flat (n : Nat) (k : Kn) : Eqn n (dec n (flat n k)) k := by
  constructor
  · intro i hi
    simp only [dec, flat]
    rw [List.append_assoc, getD_left (by rw [r1_length]; exact hi), r1_get hi]
  · intro i j hi hj
    have := ij_lt hi hj
    simp only [dec, flat]
    rw [List.append_assoc, getD_right (by rw [r1_length]; omega), r1_length, Nat.add_sub_cancel_left,
      getD_left (by rw [r2_length]; omega)]
    show (List.getD ((List.range n).flatMap fun i => r1 n (k.f2 i)) (i * n + j) 0) = _
    rw [fm_get (fun _ => r1_length _ _) hi hj, r1_get hj]
  · intro i j l hi hj hl
    have h1 := ij_lt hj hl
    simp only [dec, flat]
    rw [getD_right (by rw [List.length_append, r1_length, r2_length]; omega), List.length_append, r1_length, r2_length, Nat.add_sub_cancel_left]
    show (List.getD ((List.range n).flatMap fun i => r2 n (k.f3 i)) (i * (n * n) + (j * n + l)) 0) = _
    rw [fm_get (fun _ => r2_length _ _) hi h1]
    show (List.getD ((List.range n).flatMap fun j => r1 n (k.f3 i j)) (j * n + l) 0) = _
    rw [fm_get (fun _ => r1_length _ _) hj hl, r1_get hl]

theorem mem_r1 {n : Nat} {f : Nat → Int} {x : Int} : x ∈ r1 n f ↔ ∃ i, i < n ∧ x = f i := by
  simp only [r1, List.mem_map, List.mem_range]
  constructor
  · rintro ⟨i, h, e⟩; exact ⟨i, h, e.symm⟩
  · rintro ⟨i, h, e⟩; exact ⟨i, h, e.symm⟩
theorem mem_flat {n : Nat} {k : Kn} {x : Int} : x ∈ flat n k ↔ (∃ i, i < n ∧ x = k.f1 i) ∨ (∃ i j, i < n ∧ j < n ∧ x = k.f2 i j) ∨ ∃ i j l, i < n ∧ j < n ∧ l < n ∧ x = k.f3 i j l := by
  simp only [flat, List.mem_append, r2, r3, List.mem_flatMap, List.mem_range, mem_r1]
  constructor
  · rintro ((h | ⟨i, hi, j, hj, e⟩) | ⟨i, hi, j, hj, l, hl, e⟩)
    · exact .inl h
    · exact .inr (.inl ⟨i, j, hi, hj, e⟩)
    · exact .inr (.inr ⟨i, j, l, hi, hj, hl, e⟩)
  · rintro (h | ⟨i, j, hi, hj, e⟩ | ⟨i, j, l, hi, hj, hl, e⟩)
    · exact .inl (.inl h)
    · exact .inl (.inr ⟨i, hi, j, hj, e⟩)
    · exact .inr ⟨i, hi, j, hj, l, hl, e⟩

/-! the fresh label -/
theorem len_le {l l' : List Int} (hd : l.Nodup) (hs : ∀ x, x ∈ l → x ∈ l') : l.length ≤ l'.length := by
  induction l generalizing l' with
  | nil => exact Nat.zero_le _
  | cons a r ih =>
    rw [List.nodup_cons] at hd
    have ha := hs a List.mem_cons_self
    have h := ih (l' := l'.erase a) hd.2 fun x hx => (List.mem_erase_of_ne (fun e => hd.1 (by rw [← e]; exact hx))).mpr (hs x (List.mem_cons_of_mem _ hx))
    rw [List.length_erase_of_mem ha] at h
    have : 0 < l'.length := List.length_pos_of_mem ha
    simp only [List.length_cons]
    omega

theorem pigeon {used : List Int} {l : Int} {m c : Nat} (hm : 0 < m) (h : ∀ i : Nat, i < c → l + (m : Int) * (i : Int) ∈ used) : c ≤ used.length := by
  have hd : ((List.range c).map fun i : Nat => l + (m : Int) * (i : Int)).Nodup := by
    rw [List.nodup_iff_pairwise_ne, List.pairwise_map]
    refine List.Pairwise.imp ?_ List.nodup_range
    intro a b hab e
    have e2 : (m : Int) * (a : Int) = (m : Int) * (b : Int) := by omega
    have e3 := Int.eq_of_mul_eq_mul_left (by omega) e2
    exact hab (by omega)
  have := len_le hd (l' := used) (by
    intro x hx
    rw [List.mem_map] at hx
    obtain ⟨i, hi, rfl⟩ := hx
    exact h i (List.mem_range.mp hi))
  simpa using this

theorem freshF_spec (used : List Int) (m : Nat) : ∀ (k : Nat) (l : Int), ∃ c : Nat, c ≤ k ∧ freshF used m k l = l + (m : Int) * (c : Int) ∧
    (∀ i : Nat, i < c → l + (m : Int) * (i : Int) ∈ used) ∧ (c = k ∨ ¬ l + (m : Int) * (c : Int) ∈ used)
  | 0, l => ⟨0, Nat.le_refl _, by simp [freshF], fun i h => absurd h (Nat.not_lt_zero i), .inl rfl⟩
  | k + 1, l => by
    by_cases h : l ∈ used
    · obtain ⟨c, hc, e, hall, hend⟩ := freshF_spec used m k (l + m)
      refine ⟨c + 1, by omega, ?_, ?_, ?_⟩
      · simp only [freshF]
        rw [if_pos h, e, Int.natCast_add, Int.mul_add]
        omega
      · intro i hi
        cases i with
        | zero => simpa using h
        | succ i =>
          have := hall i (by omega)
          rw [Int.natCast_add, Int.mul_add]
          have e2 : l + ((m : Int) * (i : Int) + (m : Int) * ((1 : Nat) : Int)) = l + m + (m : Int) * (i : Int) := by omega
          rw [e2]
          exact this
      · rcases hend with h1 | h1
        · exact .inl (by omega)
        · refine .inr ?_
          rw [Int.natCast_add, Int.mul_add]
          have e2 : l + ((m : Int) * (c : Int) + (m : Int) * ((1 : Nat) : Int)) = l + m + (m : Int) * (c : Int) := by omega
          rw [e2]
          exact h1
    · refine ⟨0, Nat.zero_le _, ?_, fun i hi => absurd hi (Nat.not_lt_zero i), .inr ?_⟩
      · simp only [freshF]
        rw [if_neg h]
        simp
      · simpa using h

theorem fresh_spec (used : List Int) (a : Nat) {m : Nat} (hm : 0 < m) : ∃ c : Nat, c ≤ used.length ∧ fresh used a m = 1 + a + (m : Int) * (c : Int) ∧
    (∀ i : Nat, i < c → 1 + (a : Int) + (m : Int) * (i : Int) ∈ used) ∧ ¬ 1 + (a : Int) + (m : Int) * (c : Int) ∈ used := by
  obtain ⟨c, hc, e, hall, hend⟩ := freshF_spec used m (used.length + 1) (1 + a)
  have hp := pigeon hm hall
  refine ⟨c, hp, e, hall, ?_⟩
  rcases hend with h | h
  · omega
  · exact h

theorem fresh_eq {used : List Int} {a m : Nat} (hm : 0 < m) {c : Nat} (hall : ∀ i : Nat, i < c → 1 + (a : Int) + (m : Int) * (i : Int) ∈ used)
    (hend : ¬ 1 + (a : Int) + (m : Int) * (c : Int) ∈ used) : 1 + (a : Int) + (m : Int) * (c : Int) = fresh used a m := by
  obtain ⟨c', _, e, hall', hend'⟩ := fresh_spec used a hm
  rw [e]
  have : c = c' := by
    rcases Nat.lt_trichotomy c c' with h | h | h
    · exact absurd (hall' c h) hend
    · exact h
    · exact absurd (hall c' h) hend'
  rw [this]

theorem fresh_pos (used : List Int) (a : Nat) {m : Nat} (hm : 0 < m) : 0 < fresh used a m := by
  obtain ⟨c, _, e, _, _⟩ := fresh_spec used a hm
  rw [e]
  have : 0 ≤ (m : Int) * (c : Int) := Int.mul_nonneg (by omega) (by omega)
  omega
theorem fresh_le (used : List Int) (a : Nat) {m : Nat} (hm : 0 < m) : fresh used a m ≤ 1 + a + (m : Int) * (used.length : Int) := by
  obtain ⟨c, hc, e, _, _⟩ := fresh_spec used a hm
  rw [e]
  have : (m : Int) * (c : Int) ≤ (m : Int) * (used.length : Int) := Int.mul_le_mul_of_nonneg_left (by omega) (by omega)
  omega
theorem fresh_not (used : List Int) (a : Nat) {m : Nat} (hm : 0 < m) : ¬ fresh used a m ∈ used := by
  obtain ⟨c, hc, e, _, h⟩ := fresh_spec used a hm
  rw [e]; exact h
theorem fresh_mod (used : List Int) {a m : Nat} (ha : a < m) : (fresh used a m - 1) % (m : Int) = (a : Int) := by
  obtain ⟨c, hc, e, _, h⟩ := fresh_spec used a (by omega : 0 < m)
  rw [e]
  have e2 : 1 + (a : Int) + (m : Int) * (c : Int) - 1 = (a : Int) + (m : Int) * (c : Int) := by omega
  rw [e2, Int.add_mul_emod_self_left]
  exact Int.emod_eq_of_lt (by omega) (by omega)

/-! the invariant -/
structure Inv (n m : Nat) (pl : Nat → List Nat) (lt : Nat → Nat) (t : Nat) (ks : Nat → Kn) (lam : Nat → Int) : Prop where
  z : lam 0 = 0
  pos : ∀ e, 1 ≤ e → e ≤ t → 0 < lam e ∧ (lam e - 1) % (m : Int) = (lt e : Int)
  e1 : ∀ p r, p < n → r < n → (ks p).f1 r = lam (N pl t p r)
  e2 : ∀ p r s, p < n → r < n → s < n → (ks p).f2 r s = lam (C pl (N pl t p r) s)
  e3 : ∀ p r s u, p < n → r < n → s < n → u < n → (ks p).f3 r s u = lam (C pl (C pl (N pl t p r) s) u)
  cons : ∀ p q r u s, p < n → q < n → r < n → u < n → s < n → lam (N pl t p r) = lam (C pl (N pl t q u) s) → N pl t p r = C pl (N pl t q u) s

section
variable {n m : Nat} {pl : Nat → List Nat} {lt : Nat → Nat} {t : Nat} {ks : Nat → Kn} {lam : Nat → Int}
variable (hne : ∀ e, pl e ≠ []) (hn : ∀ e p, p ∈ pl e → p < n)

theorem Inv.eq_iff (I : Inv n m pl lt t ks lam) {p q r : Nat} (hp : p < n) (hq : q < n) (hr : r < n) : (ks p).f1 r = (ks q).f1 r ↔ N pl t p r = N pl t q r := by
  rw [I.e1 p r hp hr, I.e1 q r hq hr]
  constructor
  · intro h
    rw [N_C (pl := pl) t q r] at h ⊢
    exact I.cons p q r q r hp hq hr hq hr h
  · intro h; rw [h]

theorem Inv.zero_iff (I : Inv n m pl lt t ks lam) {p r : Nat} (hp : p < n) (hr : r < n) : (ks p).f1 r = 0 ↔ N pl t p r = 0 := by
  rw [I.e1 p r hp hr]
  constructor
  · intro h
    by_cases h0 : N pl t p r = 0
    · exact h0
    · have := I.pos _ (by omega) (N_le (pl := pl) t p r)
      omega
  · intro h; rw [h]; exact I.z

include hne hn
theorem Inv.older_iff (I : Inv n m pl lt t ks lam) {p q r : Nat} (hp : p < n) (hq : q < n) (hr : r < n) :
    older n (ks p) (ks q) r = true ↔ N pl t p r < N pl t q r := by
  simp only [older]
  by_cases h1 : (ks p).f1 r = (ks q).f1 r
  · rw [if_pos h1]
    have := (I.eq_iff hp hq hr).mp h1
    constructor
    · intro h; cases h
    · intro h; omega
  · rw [if_neg h1]
    have h1' : N pl t p r ≠ N pl t q r := fun e => h1 ((I.eq_iff hp hq hr).mpr e)
    by_cases h2 : (ks p).f1 r = 0 ∨ (ks q).f1 r = 0
    · rw [if_pos h2, decide_eq_true_iff, I.zero_iff hp hr]
      rw [I.zero_iff hp hr, I.zero_iff hq hr] at h2
      omega
    · rw [if_neg h2, List.any_eq_true]
      rw [I.zero_iff hp hr, I.zero_iff hq hr] at h2
      constructor
      · rintro ⟨o, ho, hc⟩
        rw [decide_eq_true_iff] at hc
        obtain ⟨c1, c2, c3⟩ := hc
        have ho : o < n := List.mem_range.mp ho
        obtain ⟨q', hq', e⟩ := mem_r1.mp c2
        rw [I.e1 p o hp ho, I.e1 q q' hq hq'] at e
        have e2 : N pl t p o = N pl t q q' := by
          have e3 := e
          rw [N_C (pl := pl) t q q'] at e3
          have := I.cons p q o q q' hp hq ho hq hq' e3
          rw [← N_C] at this
          exact this
        rw [I.e2 p o r hp ho hr, I.e1 p r hp hr] at c3
        have e4 := I.cons p p r o r hp hp hr ho hr c3.symm
        have h0 : N pl t p o ≠ 0 := fun e => c1 ((I.zero_iff hp ho).mpr e)
        have hm : q' ∈ pl (N pl t q q') := N_at _ _ _ (by omega)
        have := N_trans hne (t := t) (p := q) (r := q') r (by omega) hm (Nat.le_refl _)
        rw [← e2, ← e4] at this
        omega
      · intro hlt
        obtain ⟨p', q', e, h1e, hle⟩ := gossip hne (t := t) (p := p) (q := q) (f := N pl t p r) (r := r) (by omega) (N_at _ _ _ (by omega)) (Nat.le_refl _) (by omega)
        have hmp : p' ∈ pl (N pl t p p') := N_at _ _ _ (by omega)
        have hmq : q' ∈ pl (N pl t q q') := N_at _ _ _ (by omega)
        have hp' := hn _ _ hmp
        have hq' := hn _ _ hmq
        refine ⟨p', List.mem_range.mpr hp', ?_⟩
        rw [decide_eq_true_iff]
        refine ⟨fun z => ?_, mem_r1.mpr ⟨q', hq', ?_⟩, ?_⟩
        · rw [I.zero_iff hp hp'] at z; omega
        · rw [I.e1 p p' hp hp', I.e1 q q' hq hq', e]
        · rw [I.e2 p p' r hp hp' hr, I.e1 p r hp hr]
          have a := N_trans hne (t := t) (p := p) (r := p') r (by omega) hmp (Nat.le_refl _)
          have : C pl (N pl t p p') r = N pl t p r := by omega
          rw [this]

theorem Inv.cmp_eq (I : Inv n m pl lt t ks lam) {p q r : Nat} (hp : p < n) (hq : q < n) (hr : r < n) :
    cmp n (ks p) (ks q) r = (if N pl t q r < N pl t p r then 1 else 0) - (if N pl t p r < N pl t q r then 1 else 0) := by
  simp only [cmp]
  by_cases h1 : (ks p).f1 r = (ks q).f1 r
  · rw [if_pos h1]
    have := (I.eq_iff hp hq hr).mp h1
    rw [if_neg (by omega), if_neg (by omega)]
    rfl
  · rw [if_neg h1]
    have h1' : N pl t p r ≠ N pl t q r := fun e => h1 ((I.eq_iff hp hq hr).mpr e)
    by_cases h2 : N pl t p r < N pl t q r
    · rw [if_pos ((I.older_iff hne hn hp hq hr).mpr h2), if_neg (by omega), if_pos h2]
      rfl
    · rw [if_neg (fun z => h2 ((I.older_iff hne hn hp hq hr).mp z)), if_pos (by omega), if_neg h2]
      rfl

/-- the holder: the greatest -/
theorem Inv.hold_spec (I : Inv n m pl lt t ks lam) {there : List Nat} (hth : ∀ p, p ∈ there → p < n) {r : Nat} (hr : r < n) (i : Nat) (hi : i < there.length) :
    ∃ b, hold n (there.map ks) r i = b ∧ b ≤ i ∧ ∀ j q, j ≤ i → there[j]? = some q → ∃ qb, there[b]? = some qb ∧ N pl t q r ≤ N pl t qb r := by
  induction i with
  | zero =>
    refine ⟨0, rfl, Nat.le_refl _, fun j q hj e => ?_⟩
    have : j = 0 := by omega
    subst this
    exact ⟨q, e, Nat.le_refl _⟩
  | succ i ih =>
    obtain ⟨b, eb, hb, hall⟩ := ih (by omega)
    obtain ⟨qb, eqb⟩ : ∃ q, there[b]? = some q := ⟨_, List.getElem?_eq_getElem (by omega)⟩
    obtain ⟨q1, eq1⟩ : ∃ q, there[i + 1]? = some q := ⟨_, List.getElem?_eq_getElem hi⟩
    have k1 : (there.map ks).getD b kn0 = ks qb := by simp [List.getD, eqb]
    have k2 : (there.map ks).getD (i + 1) kn0 = ks q1 := by simp [List.getD, eq1]
    have pb := hth qb (List.mem_of_getElem? eqb)
    have p1 := hth q1 (List.mem_of_getElem? eq1)
    have key : hold n (there.map ks) r (i + 1) = if older n (ks qb) (ks q1) r then i + 1 else b := by
      simp only [hold]
      rw [eb, k1, k2]
    have io := I.older_iff hne hn pb p1 hr
    by_cases ho : older n (ks qb) (ks q1) r = true
    · refine ⟨i + 1, by rw [key, if_pos ho], Nat.le_refl _, fun j q hj e => ⟨q1, eq1, ?_⟩⟩
      by_cases hj2 : j ≤ i
      · obtain ⟨qb', e', hle⟩ := hall j q hj2 e
        rw [eqb] at e'
        cases e'
        have := io.mp ho
        omega
      · have : j = i + 1 := by omega
        subst this
        rw [eq1] at e
        cases e
        exact Nat.le_refl _
    · refine ⟨b, by rw [key, if_neg ho], by omega, fun j q hj e => ⟨qb, eqb, ?_⟩⟩
      by_cases hj2 : j ≤ i
      · obtain ⟨qb', e', hle⟩ := hall j q hj2 e
        rw [eqb] at e'
        cases e'
        exact hle
      · have : j = i + 1 := by omega
        subst this
        rw [eq1] at e
        cases e
        have h9 : ¬ N pl t qb r < N pl t q1 r := fun z => ho (io.mpr z)
        exact Nat.le_of_not_lt h9

theorem Inv.holder_spec (I : Inv n m pl lt t ks lam) {r : Nat} (hr : r < n) (hnr : ¬ r ∈ pl (t + 1)) :
    ∃ q, q ∈ pl (t + 1) ∧ ((pl (t + 1)).map ks).getD (holder n ((pl (t + 1)).map ks) r) kn0 = ks q ∧ C pl (t + 1) r = N pl t q r := by
  have hlen : 0 < (pl (t + 1)).length := List.length_pos_iff.mpr (hne _)
  obtain ⟨b, eb, hb, hall⟩ := I.hold_spec hne hn (hn (t + 1)) hr ((pl (t + 1)).length - 1) (by omega)
  obtain ⟨qb, eqb⟩ : ∃ q, (pl (t + 1))[b]? = some q := ⟨_, List.getElem?_eq_getElem (by omega)⟩
  refine ⟨qb, List.mem_of_getElem? eqb, ?_, ?_⟩
  · have : holder n ((pl (t + 1)).map ks) r = b := by
      simp only [holder, List.length_map]; exact eb
    rw [this]
    simp [List.getD, eqb]
  · have h1 := C_ge (pl := pl) (y := t) r (List.mem_of_getElem? eqb)
    rcases C_pick hne t r with ⟨h, _⟩ | ⟨_, q, hq, e⟩
    · exact absurd h hnr
    · obtain ⟨j, hj, ej⟩ := List.getElem_of_mem hq
      obtain ⟨qb', e', hle⟩ := hall j q (by omega) (by rw [List.getElem?_eq_getElem hj, ej])
      rw [eqb] at e'
      cases e'
      omega

variable (hlt : ∀ e e', 1 ≤ e → 1 ≤ e' → lt e = lt e' → pl e = pl e')
include hlt

theorem Inv.step (I : Inv n m pl lt t ks lam) {ks' : Nat → Kn} {label : Int}
    (h0 : 0 < label) (hmod : (label - 1) % (m : Int) = (lt (t + 1) : Int))
    (hfresh : ∀ p, p ∈ pl (t + 1) → ¬ label ∈ flat n (ks p))
    (hin : ∀ p, p ∈ pl (t + 1) → Eqn n (ks' p) (met n (pl (t + 1)) label ((pl (t + 1)).map ks)))
    (hout : ∀ p, p < n → ¬ p ∈ pl (t + 1) → Eqn n (ks' p) (ks p)) :
    Inv n m pl lt (t + 1) ks' (fun e => if e = t + 1 then label else lam e) := by
  have lam_old : ∀ e, e ≤ t → (if e = t + 1 then label else lam e) = lam e := fun e he => if_neg (by omega)
  have lam_new : (if t + 1 = t + 1 then label else lam (t + 1)) = label := if_pos rfl
  have clt : ∀ e r, e ≤ t → C pl e r ≤ t := fun e r he => Nat.le_trans (C_le hne e r) he
  -- the labels that the meeting makes
  have g1 : ∀ r, r < n → (met n (pl (t + 1)) label ((pl (t + 1)).map ks)).f1 r = if C pl (t + 1) r = t + 1 then label else lam (C pl (t + 1) r) := by
    intro r hr
    simp only [met]
    by_cases hp : r ∈ pl (t + 1)
    · rw [if_pos hp, C_at hp, if_pos rfl]
    · rw [if_neg hp]
      obtain ⟨q, hq, e, ec⟩ := I.holder_spec hne hn hr hp
      have := N_le (pl := pl) t q r
      rw [e, ec, if_neg (by omega), I.e1 q r (hn _ _ hq) hr]
  have g2 : ∀ r s, r < n → s < n → (met n (pl (t + 1)) label ((pl (t + 1)).map ks)).f2 r s =
      if C pl (C pl (t + 1) r) s = t + 1 then label else lam (C pl (C pl (t + 1) r) s) := by
    intro r s hr hs
    have a1 := g1 s hs
    simp only [met] at a1 ⊢
    by_cases hp : r ∈ pl (t + 1)
    · rw [if_pos hp, C_at hp, a1]
    · rw [if_neg hp]
      obtain ⟨q, hq, e, ec⟩ := I.holder_spec hne hn hr hp
      have := clt _ s (N_le (pl := pl) t q r)
      rw [e, ec, if_neg (by omega), I.e2 q r s (hn _ _ hq) hr hs]
  have g3 : ∀ r s u, r < n → s < n → u < n → (met n (pl (t + 1)) label ((pl (t + 1)).map ks)).f3 r s u =
      if C pl (C pl (C pl (t + 1) r) s) u = t + 1 then label else lam (C pl (C pl (C pl (t + 1) r) s) u) := by
    intro r s u hr hs hu
    have a2 := g2 s u hs hu
    simp only [met] at a2 ⊢
    by_cases hp : r ∈ pl (t + 1)
    · rw [if_pos hp, C_at hp, a2]
    · rw [if_neg hp]
      obtain ⟨q, hq, e, ec⟩ := I.holder_spec hne hn hr hp
      have := clt _ u (clt _ s (N_le (pl := pl) t q r))
      rw [e, ec, if_neg (by omega), I.e3 q r s u (hn _ _ hq) hr hs hu]
  -- what is known at first and at second hand
  have prim : ∀ p r, p < n → r < n → (N pl (t + 1) p r = t + 1 ∨ ∃ p2, p2 < n ∧ N pl (t + 1) p r = N pl t p2 r) := by
    intro p r hp hr
    by_cases hin : p ∈ pl (t + 1)
    · rw [N_in r hin]
      rcases C_pick hne t r with ⟨h, e⟩ | ⟨_, q, hq, e⟩
      · exact .inl e
      · exact .inr ⟨q, hn _ _ hq, e⟩
    · exact .inr ⟨p, hp, N_out r hin⟩
  have seco : ∀ q u s, q < n → u < n → s < n → (C pl (N pl (t + 1) q u) s = t + 1 ∨ ∃ q2 u2, q2 < n ∧ u2 < n ∧ C pl (N pl (t + 1) q u) s = C pl (N pl t q2 u2) s) := by
    intro q u s hq hu hs
    rcases prim q u hq hu with e | ⟨q2, hq2, e⟩
    · rw [e]
      rcases C_pick hne t s with ⟨h, e⟩ | ⟨_, q2, hq2, e⟩
      · exact .inl e
      · exact .inr ⟨q2, q2, hn _ _ hq2, hn _ _ hq2, by rw [e, N_C]⟩
    · exact .inr ⟨q2, u, hq2, hu, by rw [e]⟩
  -- the fresh label is on no other event that is known at second hand
  have nolab : ∀ q u s, q < n → u < n → s < n → lam (C pl (N pl t q u) s) ≠ label := by
    intro q u s hq hu hs e
    have hft : C pl (N pl t q u) s ≤ t := clt _ s (N_le _ _ _)
    by_cases hf0 : C pl (N pl t q u) s = 0
    · rw [hf0, I.z] at e; omega
    · obtain ⟨_, hm⟩ := I.pos _ (by omega) hft
      rw [e, hmod] at hm
      have hpl := hlt (t + 1) (C pl (N pl t q u) s) (by omega) (by omega) (Int.ofNat.inj hm)
      obtain ⟨p0, hp0⟩ := List.exists_mem_of_ne_nil _ (hne (t + 1))
      obtain ⟨r', s', e3, h1, h2⟩ := third_hand hne (t := t) (p := p0) (q := q) (r := u) (s := s) (f := C pl (N pl t q u) s) (by omega) rfl (by rw [← hpl]; exact hp0)
      have hr' := hn _ _ (N_at (pl := pl) t p0 r' (by omega))
      have hs' := hn _ _ (C_mem (pl := pl) hne (e := N pl t p0 r') (r := s') (by omega))
      refine hfresh p0 hp0 (mem_flat.mpr (.inr (.inr ⟨r', s', s, hr', hs', hs, ?_⟩)))
      rw [I.e3 p0 r' s' s (hn _ _ hp0) hr' hs' hs, ← e3]
      exact e.symm
  refine ⟨?_, ?_, ?_, ?_, ?_, ?_⟩
  · show (if 0 = t + 1 then label else lam 0) = 0
    rw [if_neg (by omega)]; exact I.z
  · intro e h1 he
    show 0 < (if e = t + 1 then label else lam e) ∧ ((if e = t + 1 then label else lam e) - 1) % (m : Int) = (lt e : Int)
    by_cases h : e = t + 1
    · subst h; rw [if_pos rfl]; exact ⟨h0, hmod⟩
    · rw [if_neg h]; exact I.pos e h1 (by omega)
  · intro p r hp hr
    by_cases hi : p ∈ pl (t + 1)
    · rw [(hin p hi).e1 r hr, g1 r hr, N_in r hi]
    · have := N_le (pl := pl) t p r
      rw [(hout p hp hi).e1 r hr, N_out r hi, I.e1 p r hp hr]
      exact (lam_old _ (by omega)).symm
  · intro p r s hp hr hs
    by_cases hi : p ∈ pl (t + 1)
    · rw [(hin p hi).e2 r s hr hs, g2 r s hr hs, N_in r hi]
    · have := clt _ s (N_le (pl := pl) t p r)
      rw [(hout p hp hi).e2 r s hr hs, N_out r hi, I.e2 p r s hp hr hs]
      exact (lam_old _ (by omega)).symm
  · intro p r s u hp hr hs hu
    by_cases hi : p ∈ pl (t + 1)
    · rw [(hin p hi).e3 r s u hr hs hu, g3 r s u hr hs hu, N_in r hi]
    · have := clt _ u (clt _ s (N_le (pl := pl) t p r))
      rw [(hout p hp hi).e3 r s u hr hs hu, N_out r hi, I.e3 p r s u hp hr hs hu]
      exact (lam_old _ (by omega)).symm
  · intro p q r u s hp hq hr hu hs
    show (if N pl (t + 1) p r = t + 1 then label else lam (N pl (t + 1) p r)) = (if C pl (N pl (t + 1) q u) s = t + 1 then label else lam (C pl (N pl (t + 1) q u) s)) → _
    intro e
    rcases prim p r hp hr with a | ⟨p2, hp2, a⟩
    · rcases seco q u s hq hu hs with b | ⟨q2, u2, hq2, hu2, b⟩
      · rw [a, b]
      · have hb := clt _ s (N_le (pl := pl) t q2 u2)
        rw [a, b, if_pos rfl, if_neg (by omega)] at e
        exact absurd e.symm (nolab q2 u2 s hq2 hu2 hs)
    · have ha := N_le (pl := pl) t p2 r
      rcases seco q u s hq hu hs with b | ⟨q2, u2, hq2, hu2, b⟩
      · rw [a, b, if_neg (by omega), if_pos rfl, N_C] at e
        exact absurd e (nolab p2 p2 r hp2 hp2 hr)
      · have hb := clt _ s (N_le (pl := pl) t q2 u2)
        rw [a, b, if_neg (by omega), if_neg (by omega)] at e
        rw [a, b]
        exact I.cons p2 q2 r u2 s hp2 hq2 hr hu2 hs e
end
end Gsp
/-! G3: the law's own level: alphabets, words, the states behind a word, views. -/
namespace Gsp

/-- an alphabet: n places, the places of each letter -/
structure Alph (n : Nat) (lets : List (List Nat)) : Prop where
  n1 : 1 ≤ n
  n4 : n ≤ 4
  m1 : 1 ≤ lets.length
  m5 : lets.length ≤ 5
  ne : ∀ l, l ∈ lets → l ≠ []
  lt : ∀ l, l ∈ lets → ∀ p, p ∈ l → p < n
  asc : ∀ l, l ∈ lets → l.Pairwise (· < ·)

def letAt (lets : List (List Nat)) (a : Nat) : List Nat := lets.getD a []
def ltOf (w : List Nat) (e : Nat) : Nat := w.getD (e - 1) 0
def plOf (lets : List (List Nat)) (w : List Nat) (e : Nat) : List Nat := letAt lets (ltOf w e)

structure Word (m : Nat) (w : List Nat) : Prop where
  lt : ∀ a, a ∈ w → a < m

def stepM (n : Nat) (lets : List (List Nat)) (sts : List (List Int)) (a : Nat) : List (List Int) :=
  (List.range n).map fun p => if p ∈ letAt lets a then meetM n lets.length lets a ((letAt lets a).map fun q => sts.getD q []) else sts.getD p []

def start (n : Nat) : List Int := List.replicate (n + n * n + n * (n * n)) 0

def runM (n : Nat) (lets : List (List Nat)) (w : List Nat) : Nat → List (List Int)
  | 0 => List.replicate n (start n)
  | t + 1 => stepM n lets (runM n lets w t) (w.getD t 0)

section
variable {n : Nat} {lets : List (List Nat)} {w : List Nat}

theorem getD_mem {α : Type} {l : List α} {i : Nat} {d : α} (h : i < l.length) : l.getD i d ∈ l := by
  simp only [List.getD, List.getElem?_eq_getElem h, Option.getD_some]
  exact List.getElem_mem h

theorem letAt_mem {a : Nat} (h : a < lets.length) : letAt lets a ∈ lets := getD_mem h

theorem ltOf_lt (A : Alph n lets) (W : Word lets.length w) (e : Nat) : ltOf w e < lets.length := by
  unfold ltOf
  by_cases h : e - 1 < w.length
  · exact W.lt _ (getD_mem h)
  · have := A.m1
    simp only [List.getD, List.getElem?_eq_none (Nat.le_of_not_lt h), Option.getD_none]
    omega

theorem plOf_ne (A : Alph n lets) (W : Word lets.length w) (e : Nat) : plOf lets w e ≠ [] := A.ne _ (letAt_mem (ltOf_lt A W e))
theorem plOf_lt (A : Alph n lets) (W : Word lets.length w) (e p : Nat) (h : p ∈ plOf lets w e) : p < n := A.lt _ (letAt_mem (ltOf_lt A W e)) p h

theorem length_le4 {l : List Nat} {n : Nat} (hl : ∀ p, p ∈ l → p < n) (ha : l.Pairwise (· < ·)) : l.length ≤ n := by
  have h := len_le (l := l.map (fun p : Nat => (p : Int))) (l' := (List.range n).map (fun p : Nat => (p : Int))) (by
    rw [List.nodup_iff_pairwise_ne, List.pairwise_map]
    exact ha.imp fun {a b} hab e => by omega) (by
    intro x hx
    rw [List.mem_map] at hx
    obtain ⟨p, hp, rfl⟩ := hx
    exact List.mem_map.mpr ⟨p, List.mem_range.mpr (hl p hp), rfl⟩)
  simpa using h

theorem runM_length (t : Nat) : (runM n lets w t).length = n := by
  cases t with
  | zero => simp [runM]
  | succ t => simp [runM, stepM]

theorem stepM_get {sts : List (List Int)} {a p : Nat} (hp : p < n) : (stepM n lets sts a).getD p [] =
    if p ∈ letAt lets a then meetM n lets.length lets a ((letAt lets a).map fun q => sts.getD q []) else sts.getD p [] := by
  simp [stepM, List.getD, List.getElem?_map, List.getElem?_range hp]

theorem runM_len (t : Nat) {p : Nat} (hp : p < n) : ((runM n lets w t).getD p []).length = n + n * n + n * (n * n) := by
  induction t generalizing p with
  | zero =>
    have : (runM n lets w 0).getD p [] = start n := by
      simp [runM, List.getD, List.getElem?_replicate, hp]
    rw [this]
    simp [start]
  | succ t ih =>
    show ((stepM n lets (runM n lets w t) (w.getD t 0)).getD p []).length = _
    rw [stepM_get hp]
    split
    · exact flat_length _ _
    · exact ih hp

theorem run_inv (A : Alph n lets) (W : Word lets.length w) (t : Nat) :
    ∃ lam, Inv n lets.length (plOf lets w) (ltOf w) t (fun p => dec n ((runM n lets w t).getD p [])) lam := by
  induction t with
  | zero =>
    have hst : ∀ p, p < n → (runM n lets w 0).getD p [] = start n := by
      intro p hp
      simp [runM, List.getD, List.getElem?_replicate, hp]
    have hz : ∀ i, (start n).getD i 0 = 0 := by
      intro i
      simp only [start, List.getD, List.getElem?_replicate]
      split <;> rfl
    refine ⟨fun _ => 0, rfl, fun e h1 h2 => by omega, ?_, ?_, ?_, ?_⟩
    · intro p r hp hr
      show (dec n ((runM n lets w 0).getD p [])).f1 r = 0
      rw [hst p hp]; exact hz _
    · intro p r s hp hr hs
      show (dec n ((runM n lets w 0).getD p [])).f2 r s = 0
      rw [hst p hp]; exact hz _
    · intro p r s u hp hr hs hu
      show (dec n ((runM n lets w 0).getD p [])).f3 r s u = 0
      rw [hst p hp]; exact hz _
    · intro p q r u s _ _ _ _ _ _
      rfl
  | succ t ih =>
    obtain ⟨lam, I⟩ := ih
    have hm : 0 < lets.length := A.m1
    have e1 : plOf lets w (t + 1) = letAt lets (w.getD t 0) := rfl
    have e2 : ltOf w (t + 1) = w.getD t 0 := rfl
    have hmap : ((letAt lets (w.getD t 0)).map fun q => (runM n lets w t).getD q []).map (dec n) = (letAt lets (w.getD t 0)).map fun q => dec n ((runM n lets w t).getD q []) := by
      rw [List.map_map]; rfl
    refine ⟨_, I.step (plOf_ne A W) (plOf_lt A W) (fun e e' _ _ h => by unfold plOf; rw [h])
      (label := fresh (usedOf n (((letAt lets (w.getD t 0)).map fun q => (runM n lets w t).getD q []).map (dec n))) (w.getD t 0) lets.length)
      (fresh_pos _ _ hm) ?_ ?_ ?_ ?_⟩
    · rw [e2]
      exact fresh_mod _ (by rw [← e2]; exact ltOf_lt A W _)
    · intro p hp hin
      refine fresh_not (usedOf n (((letAt lets (w.getD t 0)).map fun q => (runM n lets w t).getD q []).map (dec n))) (w.getD t 0) hm ?_
      rw [hmap]
      refine List.mem_flatMap.mpr ⟨dec n ((runM n lets w t).getD p []), List.mem_map.mpr ⟨p, hp, rfl⟩, ?_⟩
      rw [hmap] at hin
      exact hin
    · intro p hp
      have hpn := plOf_lt A W _ _ hp
      show Eqn n (dec n ((stepM n lets (runM n lets w t) (w.getD t 0)).getD p [])) _
      rw [e1] at hp
      rw [stepM_get hpn, if_pos hp]
      unfold meetM
      have := dec_flat n (met n (lets.getD (w.getD t 0) []) (fresh (usedOf n (((letAt lets (w.getD t 0)).map fun q => (runM n lets w t).getD q []).map (dec n))) (w.getD t 0) lets.length) (((letAt lets (w.getD t 0)).map fun q => (runM n lets w t).getD q []).map (dec n)))
      rw [hmap] at this ⊢
      exact this
    · intro p hpn hp
      show Eqn n (dec n ((stepM n lets (runM n lets w t) (w.getD t 0)).getD p [])) _
      rw [e1] at hp
      rw [stepM_get hpn, if_neg hp]
      exact ⟨fun _ _ => rfl, fun _ _ _ _ => rfl, fun _ _ _ _ _ _ => rfl⟩

/-- THE PLAIN LAW: compare tells the order -/
theorem run_cmp (A : Alph n lets) (W : Word lets.length w) (t : Nat) {p q r : Nat} (hp : p < n) (hq : q < n) (hr : r < n) :
    cmp n (dec n ((runM n lets w t).getD p [])) (dec n ((runM n lets w t).getD q [])) r =
      (if N (plOf lets w) t q r < N (plOf lets w) t p r then 1 else 0) - (if N (plOf lets w) t p r < N (plOf lets w) t q r then 1 else 0) := by
  obtain ⟨lam, I⟩ := run_inv A W t
  exact I.cmp_eq (plOf_ne A W) (plOf_lt A W) hp hq hr

/-! the size of the numbers -/
def Sm (x : Int) : Prop := 0 ≤ x ∧ x ≤ 9999
theorem Sm.getD {xs : List Int} (h : ∀ x, x ∈ xs → Sm x) (i : Nat) : Sm (xs.getD i 0) := by
  by_cases hi : i < xs.length
  · exact h _ (getD_mem hi)
  · simp only [List.getD, List.getElem?_eq_none (Nat.le_of_not_lt hi), Option.getD_none]
    exact ⟨by decide, by decide⟩
structure SmK (k : Kn) : Prop where
  s1 : ∀ i, Sm (k.f1 i)
  s2 : ∀ i j, Sm (k.f2 i j)
  s3 : ∀ i j l, Sm (k.f3 i j l)
theorem SmK.dec {xs : List Int} (n : Nat) (h : ∀ x, x ∈ xs → Sm x) : SmK (dec n xs) :=
  ⟨fun _ => Sm.getD h _, fun _ _ => Sm.getD h _, fun _ _ _ => Sm.getD h _⟩
theorem SmK.flat {k : Kn} (h : SmK k) : ∀ x, x ∈ flat n k → Sm x := by
  intro x hx
  rcases mem_flat.mp hx with ⟨i, _, rfl⟩ | ⟨i, j, _, _, rfl⟩ | ⟨i, j, l, _, _, _, rfl⟩
  · exact h.s1 _
  · exact h.s2 _ _
  · exact h.s3 _ _ _
theorem SmK.met {there : List Nat} {label : Int} {known : List Kn} (hl : Sm label) (hk : ∀ k, k ∈ known → SmK k) : SmK (met n there label known) := by
  have hh : ∀ i, SmK (known.getD i kn0) := by
    intro i
    by_cases hi : i < known.length
    · exact hk _ (getD_mem hi)
    · simp only [List.getD, List.getElem?_eq_none (Nat.le_of_not_lt hi), Option.getD_none]
      have z : Sm 0 := ⟨by decide, by decide⟩
      exact ⟨fun _ => z, fun _ _ => z, fun _ _ _ => z⟩
  have g1 : ∀ i, Sm ((Gsp.met n there label known).f1 i) := by
    intro i
    simp only [Gsp.met]
    split
    · exact hl
    · exact (hh _).s1 _
  have g2 : ∀ i j, Sm ((Gsp.met n there label known).f2 i j) := by
    intro i j
    have := g1 j
    simp only [Gsp.met] at this ⊢
    by_cases h : i ∈ there
    · rw [if_pos h]; exact this
    · rw [if_neg h]; exact (hh _).s2 _ _
  refine ⟨g1, g2, fun i j l => ?_⟩
  have := g2 j l
  simp only [Gsp.met] at this ⊢
  by_cases h : i ∈ there
  · rw [if_pos h]; exact this
  · rw [if_neg h]; exact (hh _).s3 _ _ _

theorem usedOf_length (known : List Kn) : (usedOf n known).length = known.length * (n + n * n + n * (n * n)) := by
  induction known with
  | nil => simp [usedOf]
  | cons k r ih =>
    simp only [usedOf, List.flatMap_cons, List.length_append, flat_length] at ih ⊢
    rw [ih, List.length_cons, Nat.succ_mul]
    omega

theorem block_le {n : Nat} (h : n ≤ 4) : n + n * n + n * (n * n) ≤ 84 := by
  have a : n * n ≤ 4 * 4 := Nat.mul_le_mul h h
  have b : n * (n * n) ≤ 4 * (4 * 4) := Nat.mul_le_mul h a
  omega

theorem fresh_small {used : List Int} {a m k : Nat} (hm : 0 < m) (hm5 : m ≤ 5) (ha : a < m) (hk : k ≤ 4) (hu : used.length ≤ k * 84) : Sm (fresh used a m) := by
  have h1 := fresh_pos used a hm
  have h2 := fresh_le used a hm
  have h3 : (m : Int) * (used.length : Int) ≤ 5 * 336 := by
    have h4 : m * used.length ≤ 5 * 336 := Nat.mul_le_mul hm5 (by omega)
    have h5 : (m : Int) * (used.length : Int) = ((m * used.length : Nat) : Int) := (Int.natCast_mul _ _).symm
    omega
  exact ⟨by omega, by omega⟩

theorem run_small (A : Alph n lets) (W : Word lets.length w) (t : Nat) {p : Nat} (hp : p < n) : ∀ x, x ∈ (runM n lets w t).getD p [] → Sm x := by
  induction t generalizing p with
  | zero =>
    have : (runM n lets w 0).getD p [] = start n := by
      simp [runM, List.getD, List.getElem?_replicate, hp]
    rw [this]
    intro x hx
    rw [List.eq_of_mem_replicate hx]
    exact ⟨by decide, by decide⟩
  | succ t ih =>
    show ∀ x, x ∈ (stepM n lets (runM n lets w t) (w.getD t 0)).getD p [] → Sm x
    rw [stepM_get hp]
    have ha : w.getD t 0 < lets.length := ltOf_lt A W (t + 1)
    have hmem := letAt_mem (lets := lets) ha
    split
    · refine SmK.flat (SmK.met ?_ ?_)
      · have hlen : (letAt lets (w.getD t 0)).length ≤ n := length_le4 (A.lt _ hmem) (A.asc _ hmem)
        refine fresh_small (k := (letAt lets (w.getD t 0)).length) A.m1 A.m5 ha (Nat.le_trans hlen A.n4) ?_
        rw [usedOf_length, List.length_map, List.length_map]
        exact Nat.mul_le_mul_left _ (block_le A.n4)
      · intro k hk
        rw [List.map_map, List.mem_map] at hk
        obtain ⟨q, hq, rfl⟩ := hk
        exact SmK.dec n (ih (A.lt _ hmem q hq))
    · exact ih hp

/-! the law's own order of events; positions from 0 -/
def blb (pl : Nat → List Nat) (i k : Nat) : Bool := (pl (i + 1)).any fun r => decide (i + 1 ≤ C pl (k + 1) r)
theorem blb_iff {pl : Nat → List Nat} {i k : Nat} : blb pl i k = true ↔ Bl pl (i + 1) (k + 1) := by
  simp only [blb, List.any_eq_true, decide_eq_true_iff, Bl]
/-- two positions share a place -/
def depB (pl : Nat → List Nat) (j k : Nat) : Bool := (pl (j + 1)).any fun q => decide (q ∈ pl (k + 1))
theorem depB_iff {pl : Nat → List Nat} {j k : Nat} : depB pl j k = true ↔ ∃ q, q ∈ pl (j + 1) ∧ q ∈ pl (k + 1) := by
  simp only [depB, List.any_eq_true, decide_eq_true_iff]

/-- the entry of the table at (i, c), while column k is at row j: those before k are done -/
def stage (pl : Nat → List Nat) (k j i c : Nat) : Bool :=
  if c < k then blb pl i c else if c = k then (decide (i = c) || (List.range j).any fun j' => depB pl j' k && blb pl i j') else decide (i = c)

theorem blb_rec {pl : Nat → List Nat} (hne : ∀ e, pl e ≠ []) (i k : Nat) : blb pl i k = (decide (i = k) || (List.range k).any fun j' => depB pl j' k && blb pl i j') := by
  rw [Bool.eq_iff_iff, blb_iff, Bl_iff hne (by omega), Bool.or_eq_true, decide_eq_true_iff, List.any_eq_true]
  constructor
  · rintro (h | ⟨j, h1, h2, h3, h4⟩)
    · exact .inl (by omega)
    · refine .inr ⟨j - 1, List.mem_range.mpr (by omega), ?_⟩
      have e : j - 1 + 1 = j := by omega
      rw [Bool.and_eq_true, depB_iff, blb_iff, e]
      exact ⟨h3, h4⟩
  · rintro (h | ⟨j, h1, h2⟩)
    · exact .inl (by omega)
    · have hj := List.mem_range.mp h1
      rw [Bool.and_eq_true, depB_iff, blb_iff] at h2
      exact .inr ⟨j + 1, by omega, by omega, h2.1, h2.2⟩

theorem stage_0 (pl : Nat → List Nat) (i c : Nat) : stage pl 0 0 i c = decide (i = c) := by
  simp [stage]
theorem stage_next {pl : Nat → List Nat} (hne : ∀ e, pl e ≠ []) (k i c : Nat) : stage pl k k i c = stage pl (k + 1) 0 i c := by
  simp only [stage]
  by_cases h : c < k
  · rw [if_pos h, if_pos (by omega)]
  · rw [if_neg h]
    by_cases h2 : c = k
    · subst h2
      rw [if_pos rfl, if_pos (by omega), ← blb_rec hne]
    · rw [if_neg h2, if_neg (by omega)]
      by_cases h3 : c = k + 1
      · rw [if_pos h3]; simp
      · rw [if_neg h3]
theorem stage_row (pl : Nat → List Nat) (k j i c : Nat) (hj : j < k) :
    stage pl k (j + 1) i c = if c = k ∧ depB pl j k = true ∧ stage pl k j i j = true then true else stage pl k j i c := by
  have e : stage pl k j i j = blb pl i j := by simp [stage, hj]
  rw [e]
  simp only [stage]
  by_cases h2 : c = k
  · subst h2
    rw [if_neg (by omega), if_pos rfl, List.range_succ, List.any_append]
    by_cases h3 : depB pl j c = true ∧ blb pl i j = true
    · rw [if_pos ⟨rfl, h3⟩]; simp [h3.1, h3.2]
    · rw [if_neg (fun z => h3 z.2)]
      have : (depB pl j c && blb pl i j) = false := by
        rw [Bool.eq_false_iff, ne_eq, Bool.and_eq_true]; exact h3
      simp [this]
  · rw [if_neg (fun z : c = k ∧ depB pl j k = true ∧ blb pl i j = true => h2 z.1), if_neg h2]
    by_cases h : c < k
    · rw [if_pos h, if_pos h]
    · rw [if_neg h, if_neg h, if_neg h2]
theorem stage_done (pl : Nat → List Nat) {T i c : Nat} (hc : c < T) : stage pl T 0 i c = blb pl i c := by
  simp [stage, hc]

/-- the places of the letter at position k -/
def atPos (lets : List (List Nat)) (w : List Nat) (k : Nat) : List Nat := letAt lets (w.getD k 0)
theorem plOf_succ (k : Nat) : plOf lets w (k + 1) = atPos lets w k := rfl

def evAt (lets : List (List Nat)) (w : List Nat) (p : Nat) : List Nat := (List.range w.length).filter fun k => decide (p ∈ atPos lets w k)
def viewM (lets : List (List Nat)) (w : List Nat) (p : Nat) : List Nat :=
  (List.range w.length).filter fun j => decide (0 < ((evAt lets w p).filter fun k => blb (plOf lets w) j k).length)
def nwList (lets : List (List Nat)) (w : List Nat) (p r : Nat) : List Nat := (viewM lets w p).filter fun k => decide (r ∈ atPos lets w k)
def nwM (lets : List (List Nat)) (w : List Nat) (p r : Nat) : Int := (N (plOf lets w) w.length p r : Int) - 1

theorem mem_view {p j : Nat} : j ∈ viewM lets w p ↔ j < w.length ∧ ∃ k, k < w.length ∧ p ∈ atPos lets w k ∧ Bl (plOf lets w) (j + 1) (k + 1) := by
  unfold viewM evAt
  rw [List.mem_filter, List.mem_range, decide_eq_true_iff, List.length_pos_iff_exists_mem]
  simp only [List.mem_filter, List.mem_range, decide_eq_true_iff, blb_iff, and_assoc]

theorem nwM_eq (A : Alph n lets) (W : Word lets.length w) {p r : Nat} {x : Int} (hx : x ∈ (-1 : Int) :: (nwList lets w p r).map fun k : Nat => (k : Int))
    (hle : ∀ y, y ∈ (-1 : Int) :: ((nwList lets w p r).map fun k : Nat => (k : Int)) → y ≤ x) : x = nwM lets w p r := by
  have hne := plOf_ne A W
  have up : ∀ k, k ∈ nwList lets w p r → k + 1 ≤ N (plOf lets w) w.length p r := by
    intro k hk
    simp only [nwList, List.mem_filter, mem_view, decide_eq_true_iff] at hk
    obtain ⟨⟨h1, k', h2, h3, h4⟩, h5⟩ := hk
    exact N_view hne (by omega) (by omega) h5 (k' + 1) (by omega) h3 h4
  unfold nwM
  by_cases h0 : N (plOf lets w) w.length p r = 0
  · rw [List.mem_cons] at hx
    rcases hx with rfl | hx
    · omega
    · rw [List.mem_map] at hx
      obtain ⟨k, hk, rfl⟩ := hx
      have := up k hk
      omega
  · have hT := N_le (pl := plOf lets w) w.length p r
    have hmem : N (plOf lets w) w.length p r - 1 ∈ nwList lets w p r := by
      obtain ⟨k, k1, k2, k3, k4⟩ := N_inview hne h0
      have e1 : N (plOf lets w) w.length p r - 1 + 1 = N (plOf lets w) w.length p r := by omega
      have e2 : k - 1 + 1 = k := by omega
      simp only [nwList, List.mem_filter, mem_view, decide_eq_true_iff]
      refine ⟨⟨by omega, k - 1, by omega, ?_, ?_⟩, ?_⟩
      · rw [← plOf_succ, e2]; exact k3
      · rw [e1, e2]; exact k4
      · rw [← plOf_succ, e1]; exact N_at _ _ _ h0
    have h1 := hle _ (List.mem_cons_of_mem _ (List.mem_map.mpr ⟨_, hmem, rfl⟩))
    rw [List.mem_cons] at hx
    rcases hx with rfl | hx
    · omega
    · rw [List.mem_map] at hx
      obtain ⟨k, hk, rfl⟩ := hx
      have := up k hk
      omega

/-- what the law asks of compare -/
theorem law_cmp (A : Alph n lets) (W : Word lets.length w) {p q r : Nat} (hp : p < n) (hq : q < n) (hr : r < n) :
    cmp n (dec n ((runM n lets w w.length).getD p [])) (dec n ((runM n lets w w.length).getD q [])) r =
      (if nwM lets w q r < nwM lets w p r then 1 else 0) - (if nwM lets w p r < nwM lets w q r then 1 else 0) := by
  rw [run_cmp A W _ hp hq hr]
  unfold nwM
  congr 1
  · by_cases h : N (plOf lets w) w.length q r < N (plOf lets w) w.length p r
    · rw [if_pos h, if_pos (by omega)]
    · rw [if_neg h, if_neg (by omega)]
  · by_cases h : N (plOf lets w) w.length p r < N (plOf lets w) w.length q r
    · rw [if_pos h, if_pos (by omega)]
    · rw [if_neg h, if_neg (by omega)]
end
end Gsp
/-! Wb: the text by places, what stands in the heap, the facts of the top, callees. -/
namespace Nws
open PySem L2
def top (i : Nat) : Stmt := PySem.Challenge.pw_placewords_k20_whole_news.main.body.getD i (.Pass ⟨0, 0, 0, 0⟩)

/-! ### what stands in the heap -/
/-- all tuples stay -/
def KT (H H' : Hp) : Prop := ∀ a vs, H a = some (.tup vs) → H' a = some (.tup vs)
theorem KT.of {H H' : Hp} (e : Same H H') : KT H H' := fun a vs h => e a _ h
theorem KT.put {H H' : Hp} {a : Addr} {o : HO} (e : KT H H') (h : ∀ vs, H' a ≠ some (.tup vs)) : KT H (upd H' a o) := fun b vs q => by
  have := e b vs q
  rw [upd_ne (fun z => h vs (by rw [← z]; exact this))]
  exact this
theorem KT.new {H H' : Hp} {a : Addr} {o : HO} (e : KT H H') (h : H' a = none) : KT H (upd H' a o) := e.put fun vs z => by rw [h] at z; cases z
theorem same_new {H H' : Hp} {p : Addr} {o : HO} (e : Same H H') (h : H' p = none) : Same H (upd H' p o) := fun b u q => by
  have := e b u q
  rw [upd_ne (ne_of_none this h)]
  exact this
/-- what was not there at the start may be written -/
theorem same_put {H H' : Hp} {p : Addr} {o : HO} (e : Same H H') (h : H p = none) : Same H (upd H' p o) := fun b u q => by
  rw [upd_ne (ne_of_none q h)]
  exact e b u q

/-- a tuple of ints -/
def TI (H : Hp) (v : V) (xs : List Int) : Prop := ∃ a, v = .ref a ∧ H a = some (.tup (xs.map V.int))
def R1 (H : Hp) (n : Nat) (f : Nat → Int) (v : V) : Prop := TI H v (Gsp.r1 n f)
def R2 (H : Hp) (n : Nat) (f : Nat → Nat → Int) (v : V) : Prop := ∃ a vs, v = .ref a ∧ H a = some (.tup vs) ∧ vs.length = n ∧ ∀ i x, vs[i]? = some x → R1 H n (f i) x
def R3 (H : Hp) (n : Nat) (f : Nat → Nat → Nat → Int) (v : V) : Prop := ∃ a vs, v = .ref a ∧ H a = some (.tup vs) ∧ vs.length = n ∧ ∀ i x, vs[i]? = some x → R2 H n (f i) x
theorem TI.kt {H H' : Hp} {v : V} {xs : List Int} (e : KT H H') (h : TI H v xs) : TI H' v xs := by
  obtain ⟨a, rfl, h⟩ := h
  exact ⟨a, rfl, e _ _ h⟩
theorem R1.kt {H H' : Hp} {n : Nat} {f : Nat → Int} {v : V} (e : KT H H') (h : R1 H n f v) : R1 H' n f v := TI.kt e h
theorem R2.kt {H H' : Hp} {n : Nat} {f : Nat → Nat → Int} {v : V} (e : KT H H') (h : R2 H n f v) : R2 H' n f v := by
  obtain ⟨a, vs, rfl, h, l, k⟩ := h
  exact ⟨a, vs, rfl, e _ _ h, l, fun i x q => (k i x q).kt e⟩
theorem R3.kt {H H' : Hp} {n : Nat} {f : Nat → Nat → Nat → Int} {v : V} (e : KT H H') (h : R3 H n f v) : R3 H' n f v := by
  obtain ⟨a, vs, rfl, h, l, k⟩ := h
  exact ⟨a, vs, rfl, e _ _ h, l, fun i x q => (k i x q).kt e⟩

/-- a Known's attributes -/
def kf (a b c : V) : List (Str × V) := putF "third" c (putF "second" b (putF "first" a []))
theorem n12 : ¬ (("first" : Str) = "second") := by decide +kernel
theorem n13 : ¬ (("first" : Str) = "third") := by decide +kernel
theorem n23 : ¬ (("second" : Str) = "third") := by decide +kernel
theorem n21 : ¬ (("second" : Str) = "first") := by decide +kernel
theorem n31 : ¬ (("third" : Str) = "first") := by decide +kernel
theorem n32 : ¬ (("third" : Str) = "second") := by decide +kernel
theorem kf_1 (a b c : V) : (kf a b c).lookup ("first" : Str) = some a := by
  unfold kf
  rw [lookup_putF, if_neg n13, lookup_putF, if_neg n12, lookup_putF, if_pos rfl]
theorem kf_2 (a b c : V) : (kf a b c).lookup ("second" : Str) = some b := by
  unfold kf
  rw [lookup_putF, if_neg n23, lookup_putF, if_pos rfl]
theorem kf_3 (a b c : V) : (kf a b c).lookup ("third" : Str) = some c := by
  unfold kf
  rw [lookup_putF, if_pos rfl]
theorem kf_no (a b c : V) {m : Str} (h1 : ¬ m = "first") (h2 : ¬ m = "second") (h3 : ¬ m = "third") : (kf a b c).lookup m = none := by
  unfold kf
  rw [lookup_putF, if_neg h3, lookup_putF, if_neg h2, lookup_putF, if_neg h1]
  rfl
/-- a Known stands at p and holds k -/
def KnAt (CK : Addr) (H : Hp) (n : Nat) (k : Gsp.Kn) (p : Addr) : Prop := ∃ dx a b c, H p = some (.ins CK dx (kf a b c)) ∧ R1 H n k.f1 a ∧ R2 H n k.f2 b ∧ R3 H n k.f3 c
theorem KnAt.same {CK : Addr} {H H' : Hp} {n : Nat} {k : Gsp.Kn} {p : Addr} (e : Same H H') (h : KnAt CK H n k p) : KnAt CK H' n k p := by
  obtain ⟨dx, a, b, c, h, h1, h2, h3⟩ := h
  exact ⟨dx, a, b, c, e _ _ h, h1.kt (.of e), h2.kt (.of e), h3.kt (.of e)⟩
/-- letters: a tuple of tuples of ints -/
def LetsT (H : Hp) (lets : List (List Nat)) (v : V) : Prop := ∃ a vs, v = .ref a ∧ H a = some (.tup vs) ∧ vs.length = lets.length ∧ ∀ i x, vs[i]? = some x → TI H x ((lets.getD i []).map fun p : Nat => (p : Int))
theorem LetsT.kt {H H' : Hp} {lets : List (List Nat)} {v : V} (e : KT H H') (h : LetsT H lets v) : LetsT H' lets v := by
  obtain ⟨a, vs, rfl, h, l, k⟩ := h
  exact ⟨a, vs, rfl, e _ _ h, l, fun i x q => (k i x q).kt e⟩
/-- an Alphabet's attributes -/
def af (n : Nat) (l : V) : List (Str × V) := putF "letters" l (putF "places" (.int n) [])
theorem npl : ¬ (("places" : Str) = "letters") := by decide +kernel
theorem nlp : ¬ (("letters" : Str) = "places") := by decide +kernel
theorem af_p (n : Nat) (l : V) : (af n l).lookup ("places" : Str) = some (.int n) := by
  unfold af
  rw [lookup_putF, if_neg npl, lookup_putF, if_pos rfl]
theorem af_l (n : Nat) (l : V) : (af n l).lookup ("letters" : Str) = some l := by
  unfold af
  rw [lookup_putF, if_pos rfl]
def AlAt (CA : Addr) (H : Hp) (n : Nat) (lets : List (List Nat)) (p : Addr) : Prop := ∃ dx v, H p = some (.ins CA dx (af n v)) ∧ LetsT H lets v
theorem AlAt.same {CA : Addr} {H H' : Hp} {n : Nat} {lets : List (List Nat)} {p : Addr} (e : Same H H') (h : AlAt CA H n lets p) : AlAt CA H' n lets p := by
  obtain ⟨dx, v, h, k⟩ := h
  exact ⟨dx, v, e _ _ h, k.kt (.of e)⟩
/-- a News -/
def nf (v : V) : List (Str × V) := putF "alphabet" v []
theorem nf_a (v : V) : (nf v).lookup ("alphabet" : Str) = some v := by
  unfold nf
  rw [lookup_putF, if_pos rfl]
theorem nf_no (v : V) {m : Str} (h : ¬ m = "alphabet") : (nf v).lookup m = none := by
  unfold nf
  rw [lookup_putF, if_neg h]
  rfl
def NwAt (CN CA : Addr) (H : Hp) (n : Nat) (lets : List (List Nat)) (p : Addr) : Prop := ∃ dx q, H p = some (.ins CN dx (nf (.ref q))) ∧ AlAt CA H n lets q
theorem NwAt.same {CN CA : Addr} {H H' : Hp} {n : Nat} {lets : List (List Nat)} {p : Addr} (e : Same H H') (h : NwAt CN CA H n lets p) : NwAt CN CA H' n lets p := by
  obtain ⟨dx, q, h, k⟩ := h
  exact ⟨dx, q, e _ _ h, k.same e⟩

/-! ### what the walk asks of the top -/
structure Txt (K : PySem.W.Frag) (mg : Str → Option Value) (CK CN CA : Addr) : Prop where
  clK : Cls K CK
  k1 : NoAttr K CK "first"
  k2 : NoAttr K CK "second"
  k3 : NoAttr K CK "third"
  mgK : mg "Known" = some (.ref CK)
  clN : Cls K CN
  na : NoAttr K CN "alphabet"
  mgN : mg "News" = some (.ref CN)
  clA : Cls K CA
  ap : NoAttr K CA "places"
  al : NoAttr K CA "letters"
  mgA : mg "Alphabet" = some (.ref CA)
  len : mg "len" = none
  range : mg "range" = none
  tuple : mg "tuple" = none
  list : mg "list" = none
  isi : mg "isinstance" = none
  int : mg "int" = none
  bool : mg "bool" = none
  max : mg "max" = none
  sorted : mg "sorted" = none
  set : mg "set" = none
  mp : ∃ t, mg "MOST_PLACES" = some (.int 4 t)
  ml : ∃ t, mg "MOST_LETTERS" = some (.int 6 t)

/-- a def that may be called by its name -/
structure Cal (P : Program) (w : World) (K : PySem.W.Frag) (mg : Str → Option Value) (base : Heap) (k : Nat) (x : Str) (ps : List Str) (sp : Sp) (f : Addr) (fd : FuncData) : Prop where
  ok : FnOk P w K mg base CX0 k f fd ps sp
  mg : mg x = some (.ref f)
  kp : PySem.W.keepIn K (.ref f) = true
  b : Binds K fd ps []
/-- a method -/
structure Mcal (P : Program) (w : World) (K : PySem.W.Frag) (mg : Str → Option Value) (base : Heap) (k : Nat) (C : Addr) (x : Str) (ps : List Str) (sp : Sp) (f : Addr) (fd : FuncData) : Prop where
  ok : FnOk P w K mg base CX0 k f fd ps sp
  at_ : Meth K C x f
  b : Binds K fd ps []
/-- a class, made by its __init__ -/
structure Ccal (P : Program) (w : World) (K : PySem.W.Frag) (mg : Str → Option Value) (base : Heap) (k : Nat) (C : Addr) (ps : List Str) (sp : Sp) (f : Addr) (fd : FuncData) : Prop where
  ok : FnOk P w K mg base CX0 k f fd ps sp
  made : Mk K C f
  b : Binds K fd ps []
end Nws
/-! Wc: a rule of our own: a list is extended by a tuple. -/
namespace Nws
open PySem L2 PyProof.Rows PySem.AutoSeq1
set_option maxRecDepth 8000 in
theorem list_extend_tup (l b : Addr) (xs ys : Array Value) (n n2 : Nat) (dd : Option Addr) (sl : Array (Option Value)) (h0 : ¬(!xs.isEmpty && Builtin.List.listTooLong (xs.size + ys.size)) = true)
    (h1 : xs.size ≤ sizeLine) (h2 : xs.size + ys.size ≤ sizeLine + 1) :
    Meets (Builtin.«list.extend» ⟨[.ref l, .ref b], []⟩) (fun _ R s =>
      s.heap.get? l = some { cls := .type "list", dict := none, data := .seq xs n, slots := #[] } ∧
      s.heap.get? b = some { cls := .type "tuple", dict := dd, data := .seq ys n2, slots := sl } ∧
      R (.ok (.ret Value.none)) { s with heap := s.heap.update l (Obj.mapSeq fun x => x ++ ys), toks := s.toks }) := by
  refine .of_wp fun prog w A R s h => ?_
  obtain ⟨hp, g, d, tk, os⟩ := s
  obtain ⟨hl, hb, h⟩ := h
  have f1 := idx_int
  have f2 := AutoSeq1.sub_tuple_tuple
  have f3 := AutoSeq1.sub_list_list
  have f4 := AutoSeq1.sub_tuple_list
  have f5 := AutoSeq1.sub_list_tuple
  have hz : (xs ++ ys).size ≤ sizeLine + 1 := by
    rw [Array.size_append]
    exact h2
  wp_walk using (wpAny_updateSeq hl rfl (hz := h1) (_hz' := hz)), wpAny_loadPart' hl, wpAny_loadPart' hb
  exact ⟨_, rfl, h⟩
section
variable {X : Cx}
def rExtT : V → List V → Hp → VK → Prop := fun x vs H Q => ∃ l b xs zs, x = .ref l ∧ vs = [.ref b] ∧ H l = some (.lst xs) ∧ H b = some (.tup zs) ∧
  xs.length + zs.length ≤ sizeLine ∧ Q .non (upd H l (.lst (xs ++ zs)))
theorem mt_extT : MtM X "list.extend" rExtT := by
  intro pins s σ H x vs v us Q I rx rv h
  obtain ⟨l, b, xs, zs, rfl, rfl, hH, hB, hz, q⟩ := h
  cases rx
  obtain ⟨u, rfl, ru⟩ := rv.one
  cases ru
  obtain ⟨z, its, n, r, hl, e⟩ := I.lstM hH
  obtain ⟨z2, its2, r2, o2, e2, c2, n2, d2⟩ := I.hok b _ hB
  obtain ⟨oc, od, odt, osl⟩ := o2
  simp only at c2 d2
  subst c2 d2
  have hl2 := r2.length
  have hsz : its.toArray.size + its2.toArray.size ≤ sizeLine := by
    rw [List.size_toArray, List.size_toArray]
    omega
  have hlong : ¬ (!its.toArray.isEmpty && Builtin.List.listTooLong (its.toArray.size + its2.toArray.size)) = true := by
    rw [notLongL hsz, Bool.and_false]
    exact Bool.false_ne_true
  refine call_meets F.slot_list_extend ⟨_, e, rfl⟩ F.entry_list_extend (F.args_list_extend_2 _ _)
    (list_extend_tup l b its.toArray its2.toArray n n2 od osl hlong (by rw [List.size_toArray]; omega) (by omega)) ⟨e, e2, ?_⟩
  refine ⟨.non, _, I.lset (its' := its ++ its2) hH e (by simp) (r.append r2) ?_, rfl, q⟩
  rw [List.length_append]
  omega
end
end Nws
namespace Nws
open PySem L2
abbrev sKinit : Stmt := inClass (top 1) 0
abbrev sKflat : Stmt := inClass (top 1) 1
abbrev sSize : Stmt := top 2
/-! Known.__init__ -/
def spKinit (CK : Addr) : Sp := fun vs H Q _ => ∃ (p dx : Addr) (a b c : V), vs = [.ref p, a, b, c] ∧ H p = some (.ins CK dx []) ∧ Q .non (upd H p (.ins CK dx (kf a b c)))
theorem scKinit : FnScope ["self", "first", "second", "third"] ["self", "first", "second", "third"] (defScope sKinit) :=
  ⟨rfl, rfl, rfl, by decide +kernel, rfl, by decide +kernel, by decide +kernel⟩
section
variable {P : Program} {w : World} {K : PySem.W.Frag} {mg : Str → Option Value} {base : Heap} {CK CN CA : Addr}
theorem ok_Kinit {f : Addr} {fd : FuncData} (F : Fun K "__init__" "Known.__init__" sKinit f fd) (T : Txt K mg CK CN CA) : FnOk P w K mg base CX0 1 f fd ["self", "first", "second", "third"] (spKinit CK) := by
  refine F.ok scKinit (fun vs H Q E h => ?_) (fun cdv A outer s H vs Q E hr h => ?_)
  · obtain ⟨p, dx, a, b, c, rfl, _⟩ := h
    rfl
  · obtain ⟨p, dx, a, b, c, rfl, hp, k⟩ := h
    refine ⟨_, pss_cons (ps_fld (pv 0) (pv 1) rfl) (pss_cons (ps_fld (pv 0) (pv 2) rfl) (pss_one (ps_fld (pv 0) (pv 3) rfl))), ?_⟩
    refine ⟨_, rfl, _, rfl, p, CK, dx, [], rfl, hp, T.clK, T.k1, (by show 0 < 1000; decide), ?_⟩
    refine ⟨_, rfl, _, rfl, p, CK, dx, _, rfl, upd_same, T.clK, T.k2, (by show 1 < 1000; decide), ?_⟩
    refine ⟨_, rfl, _, rfl, p, CK, dx, _, rfl, upd_same, T.clK, T.k3, ?_, ?_⟩
    · exact Nat.lt_of_le_of_lt (length_putF _ _ _) (by show 2 < 1000; decide)
    · rw [upd_upd, upd_upd]
      exact k
end
end Nws
namespace Nws
open PySem L2
theorem fm_succ (g : Nat → List Int) (i : Nat) : (List.range (i + 1)).flatMap g = (List.range i).flatMap g ++ g i := by
  rw [List.range_succ, List.flatMap_append]
  simp
theorem small84 {k : Nat} (h : k ≤ 1000) : k ≤ sizeLine := Nat.le_of_lt (small1000 h)
def spKflat (CK : Addr) : Sp := fun vs H Q _ => ∃ (p : Addr) (n : Nat) (k : Gsp.Kn), vs = [.ref p] ∧ KnAt CK H n k p ∧ n ≤ 4 ∧
  ∀ H' t, Same H H' → H t = none → H' t = some (.tup ((Gsp.flat n k).map V.int)) → Q (.ref t) H'
theorem scKflat : FnScope ["self", "found", "row", "table"] ["self"] (defScope sKflat) :=
  ⟨rfl, rfl, rfl, by decide +kernel, rfl, by decide +kernel, by decide +kernel⟩
section
variable {P : Program} {w : World} {K : PySem.W.Frag} {mg : Str → Option Value} {base : Heap} {CK CN CA : Addr}
theorem ok_Kflat {f : Addr} {fd : FuncData} (F : Fun K "flat" "Known.flat" sKflat f fd) (T : Txt K mg CK CN CA) : FnOk P w K mg base CX0 1 f fd ["self"] (spKflat CK) := by
  refine F.ok scKflat (fun vs H Q E h => ?_) (fun cdv A outer s H vs Q E hr h => ?_)
  · obtain ⟨p, n, k, rfl, _⟩ := h
    rfl
  · obtain ⟨p, n, k, rfl, hK, hn, q⟩ := h
    obtain ⟨dx, a, b, c, hp, h1, h2, h3⟩ := id hK
    obtain ⟨a1, rfl, t1⟩ := h1
    obtain ⟨a2, v2, rfl, t2, l2, k2⟩ := h2
    obtain ⟨a3, v3, rfl, t3, l3, k3⟩ := h3
    refine ⟨_, pss_cons (ps_set (i := 1) scKflat.nd rfl (Or.inl rfl) (pe_callTy call_list_of (by rfl) T.list (by decide +kernel) (pa_cons (pe_fld (pv 0) rfl) pa_nil)))
      (pss_cons (ps_for PassesOwn.never rfl (pi_tup (pe_fld (pv 0) rfl)) (pg_name (i := 2) scKflat.nd rfl (Or.inl rfl))
        (pss_one (ps_expr (pe_bm PySem.F.plainAttrs_list PySem.F.slot_list_extend PySem.F.type_list_extend mt_extT (pv 1) (pa_cons (pv 2) pa_nil)))))
      (pss_cons (ps_for PassesOwn.never rfl (pi_tup (pe_fld (pv 0) rfl)) (pg_name (i := 3) scKflat.nd rfl (Or.inl rfl))
        (pss_one (ps_for PassesOwn.never rfl (pi_tup (pv 3)) (pg_name (i := 2) scKflat.nd rfl (Or.inl rfl))
          (pss_one (ps_expr (pe_bm PySem.F.plainAttrs_list PySem.F.slot_list_extend PySem.F.type_list_extend mt_extT (pv 1) (pa_cons (pv 2) pa_nil)))))))
      (pss_one (ps_ret (pe_callTy call_tuple_of (by rfl) T.tuple (by decide +kernel) (pa_cons (pv 1) pa_nil)))))), ?_⟩
    refine ⟨_, rfl, p, CK, dx, _, _, rfl, hp, T.clK, T.k1, kf_1 _ _ _, a1, _, rfl, .inr (SqT.of t1), fun l hl => ?_⟩
    have n1 : Gsp.r1 n k.f1 = Gsp.r1 n k.f1 ++ (List.range 0).flatMap (fun i => Gsp.r1 n (k.f2 i)) := by simp
    have hz : ∀ m i : Nat, i ≤ n → m ≤ 4 → True := fun _ _ _ _ => trivial
    have keep : ∀ (o : HO) (u : Addr) (x : HO), H u = some x → upd H l o u = some x := fun o u x e => by rw [upd_ne (ne_of_none e hl)]; exact e
    -- the rows of second
    refine ⟨_, rfl, p, CK, dx, _, _, rfl, keep _ _ _ hp, T.clK, T.k2, kf_2 _ _ _, a2, rfl, ⟨_, SqT.of (keep _ _ _ t2)⟩, for_tup (K := K) (xs := v2)
      (fun i σ H' => ∃ x2 x3, σ = [some (.ref p), some (.ref l), x2, x3] ∧ H' = upd H l (.lst ((Gsp.r1 n k.f1 ++ (List.range i).flatMap (fun i => Gsp.r1 n (k.f2 i))).map V.int)))
      ⟨_, _, rfl, by rw [← n1]⟩ ?_ ?_ ?_⟩
    · rintro i σ H' _ ⟨x2, x3, rfl, rfl⟩
      exact SqT.of (keep _ _ _ t2)
    · rintro i x σ H' hx ⟨x2, x3, rfl, rfl⟩
      have hi : i < v2.length := (List.getElem?_eq_some_iff.mp hx).1
      obtain ⟨b2, rfl, tb⟩ := k2 i x hx
      refine ⟨_, rfl, .inl ⟨rfl, _, SqL.of upd_same⟩, _, rfl, l, b2, _, _, rfl, rfl, upd_same, keep _ _ _ tb, ?_, _, _, rfl, ?_⟩
      · refine small84 ?_
        have hm := Nat.mul_le_mul (show i ≤ 4 by omega) hn
        rw [List.length_map, List.length_map, List.length_append, Gsp.fm_length (fun _ => Gsp.r1_length n _), Gsp.r1_length, Gsp.r1_length]
        omega
      · rw [upd_upd, fm_succ, ← List.map_append, List.append_assoc]
    · rintro σ H' ⟨x2, x3, rfl, rfl⟩
      rw [l2]
      -- the tables of third
      have e2 : Gsp.r1 n k.f1 ++ (List.range n).flatMap (fun i => Gsp.r1 n (k.f2 i)) = (Gsp.r1 n k.f1 ++ Gsp.r2 n k.f2) ++ (List.range 0).flatMap (fun i => Gsp.r2 n (k.f3 i)) := by simp [Gsp.r2]
      refine ⟨_, rfl, p, CK, dx, _, _, rfl, keep _ _ _ hp, T.clK, T.k3, kf_3 _ _ _, a3, rfl, ⟨_, SqT.of (keep _ _ _ t3)⟩, for_tup (K := K) (xs := v3)
        (fun i σ H' => ∃ x2 x3, σ = [some (.ref p), some (.ref l), x2, x3] ∧ H' = upd H l (.lst (((Gsp.r1 n k.f1 ++ Gsp.r2 n k.f2) ++ (List.range i).flatMap (fun i => Gsp.r2 n (k.f3 i))).map V.int)))
        ⟨_, _, rfl, by rw [← e2]⟩ ?_ ?_ ?_⟩
      · rintro i σ H' _ ⟨x2, x3, rfl, rfl⟩
        exact SqT.of (keep _ _ _ t3)
      · rintro i x σ H' hx ⟨x2, x3, rfl, rfl⟩
        have hi : i < v3.length := (List.getElem?_eq_some_iff.mp hx).1
        obtain ⟨b3, w3, rfl, tb, lb, kb⟩ := k3 i x hx
        have e3 : (Gsp.r1 n k.f1 ++ Gsp.r2 n k.f2) ++ (List.range i).flatMap (fun i => Gsp.r2 n (k.f3 i)) =
          ((Gsp.r1 n k.f1 ++ Gsp.r2 n k.f2) ++ (List.range i).flatMap (fun i => Gsp.r2 n (k.f3 i))) ++ (List.range 0).flatMap (fun j => Gsp.r1 n (k.f3 i j)) := by simp
        refine ⟨_, rfl, b3, rfl, ⟨_, SqT.of (keep _ _ _ tb)⟩, for_tup (K := K) (xs := w3)
          (fun j σ H' => ∃ x2, σ = [some (.ref p), some (.ref l), x2, some (.ref b3)] ∧
            H' = upd H l (.lst ((((Gsp.r1 n k.f1 ++ Gsp.r2 n k.f2) ++ (List.range i).flatMap (fun i => Gsp.r2 n (k.f3 i))) ++ (List.range j).flatMap (fun j => Gsp.r1 n (k.f3 i j))).map V.int)))
          ⟨_, rfl, by rw [← e3]⟩ ?_ ?_ ?_⟩
        · rintro j σ H' _ ⟨x2, rfl, rfl⟩
          exact SqT.of (keep _ _ _ tb)
        · rintro j y σ H' hy ⟨x2, rfl, rfl⟩
          have hj : j < w3.length := (List.getElem?_eq_some_iff.mp hy).1
          obtain ⟨c3, rfl, tc⟩ := kb j y hy
          refine ⟨_, rfl, .inl ⟨rfl, _, SqL.of upd_same⟩, _, rfl, l, c3, _, _, rfl, rfl, upd_same, keep _ _ _ tc, ?_, _, rfl, ?_⟩
          · refine small84 ?_
            have hm := Nat.mul_le_mul (show j ≤ 4 by omega) hn
            have hm2 := Nat.mul_le_mul hn hn
            have hm3 := Nat.mul_le_mul (show i ≤ 4 by omega) hm2
            simp only [List.length_map, List.length_append, Gsp.r1_length, Gsp.r2_length]
            rw [Gsp.fm_length (fun _ => Gsp.r1_length n _), Gsp.fm_length (fun _ => Gsp.r2_length n _)]
            omega
          · rw [upd_upd, fm_succ, ← List.map_append, List.append_assoc (_ ++ _) _ _]
        · rintro σ H' ⟨x2, rfl, rfl⟩
          refine ⟨_, _, rfl, ?_⟩
          rw [lb, fm_succ, List.append_assoc (_ ++ _) _ _]
          rfl
      · rintro σ H' ⟨x2, x3, rfl, rfl⟩
        rw [l3]
        refine ⟨_, rfl, l, _, rfl, .inl ⟨SqL.of upd_same, fun t ht => ?_⟩⟩
        have hH : H t = none := by
          have : t ≠ l := fun z => by rw [z, upd_same] at ht; cases ht
          rw [upd_ne this] at ht
          exact ht
        refine q _ t ?_ hH ?_
        · exact same_new (same_put (Same.refl H) hl) ht
        · exact upd_same
end
end Nws
/-! Wd: a tuple times 1 is itself; a list by a range with a step. -/
namespace Nws
open PySem L2 PyProof.Rows PySem.AutoSeq1
theorem tuple_mul1 (l : Addr) (xs : Array Value) (n : Nat) (dd : Option Addr) (sl : Array (Option Value)) (u : Tok) :
    Meets (Builtin.«tuple.__mul__» ⟨[.ref l, .int 1 u], []⟩) (fun _ R s => s.heap.get? l = some { cls := .type "tuple", dict := dd, data := .seq xs n, slots := sl } ∧ R (.ok (.ret (Value.ref l))) s) := by
  refine .of_wp fun prog w A R s h => ?_
  obtain ⟨hp, g, d, tk, os⟩ := s
  obtain ⟨hl, h⟩ := h
  have f1 := idx_int
  have c1 : (xs.isEmpty || (1 : Int) == 1) = true := by rw [beq_self_eq_true, Bool.or_true]
  wp_walk using wpAny_loadPart' hl
  exact ⟨_, rfl, h⟩
section
variable {X : Cx}
/-- tuple * k, k at least 1 -/
def rRepA (K : PySem.W.Frag) : V → V → Hp → VK → Prop := fun x y H Q => ∃ (l : Addr) (k : Nat) (xs : List V), x = .ref l ∧ y = .int k ∧ SqT K H l xs ∧ xs ≠ [] ∧ 1 ≤ k ∧ k ≤ 1000 ∧ xs.length ≤ 1000 ∧
  (k = 1 → Q (.ref l) H) ∧ (2 ≤ k → ∀ p, H p = none → Q (.ref p) (upd H p (.tup (List.replicate k xs).flatten)))
theorem op_repA : OpR X (binaryOp .Mult) (rRepA X.K) := by
  intro pins s σ H x y v u Q I rx ry h
  obtain ⟨l, k, xs, rfl, rfl, hT, hne, h1, h2, hz, q1, q2⟩ := h
  by_cases hk : k = 1
  · subst hk
    cases rx
    obtain ⟨t, rfl⟩ := ry
    obtain ⟨its, r, ⟨⟨cls, dd, data, sl⟩, ho, hc, n, hd⟩, hs⟩ := I.tuple hT
    simp only at hc hd
    subst hc hd
    have go := tuple_mul1 l its.toArray n dd sl t
    refine wpAny_binaryOp_repeat_ref (T := "tuple") (U := "int") (by decide) ⟨_, ho, rfl⟩ (fun s' => typeIs_int s' _ t) noFill_tuple_mul F.fills_int_mul F.slot_int_rmul repeat_tuple F.slot_int_index.lookup
      (call_meets F.slot_int_rmul (typeIs_int s _ t) F.entry_int_rmul (F.args_int_rmul_2 _ _) (int_rmul_tuple _ t l its.toArray n dd sl)
        ⟨ho, rfl, ⟨_, ho, rfl⟩, call_meets F.slot_tuple_mul ⟨_, ho, rfl⟩ F.entry_tuple_mul (F.args_tuple_mul_2 _ _) go ⟨ho, ?_⟩⟩)
    exact ⟨.ref l, H, I, rfl, q1 rfl⟩
  · exact op_repT pins s σ H _ _ v u Q I rx ry ⟨l, (k : Int), xs, rfl, rfl, hT, hne, by omega, by omega, hz, fun p hp => by
      rw [Int.toNat_natCast]
      exact q2 (by omega) p hp⟩
end
/-! calls of built-ins, their readings over K (to be named within a comprehension) -/
def rLenS (K : PySem.W.Frag) : List V → Hp → VK → Prop := fun vs H Q =>
  ∃ (a : Addr) (zs : List V), vs = [V.ref a] ∧ (SqL K H a zs ∨ SqT K H a zs) ∧ Q (.int (zs.length : Int)) H
def rTupOf (K : PySem.W.Frag) : List V → Hp → VK → Prop := fun xs H Q => ∃ p ys, xs = [.ref p] ∧ ((SqL K H p ys ∧ ∀ l, H l = none → Q (.ref l) (upd H l (.tup ys))) ∨ (SqT K H p ys ∧ Q (.ref p) H))
def rLstOf (K : PySem.W.Frag) : List V → Hp → VK → Prop := fun xs H Q => ∃ p ys, xs = [.ref p] ∧ (SqL K H p ys ∨ SqT K H p ys) ∧ ∀ l, H l = none → Q (.ref l) (upd H l (.lst ys))
section
variable {X : Cx}
theorem cr_lenS : CallR X (.builtin "len") (rLenS X.K) := call_len_seq
theorem cr_tupOf : CallR X (.type "tuple") (rTupOf X.K) := call_tuple_of
theorem cr_lstOf : CallR X (.type "list") (rLstOf X.K) := call_list_of
end
theorem bt_tuple : bootBuiltins "tuple" = some (.type "tuple") := by decide +kernel
theorem bt_list : bootBuiltins "list" = some (.type "list") := by decide +kernel
theorem bt_int : bootBuiltins "int" = some (.type "int") := by decide +kernel
theorem bt_bool : bootBuiltins "bool" = some (.type "bool") := by decide +kernel
theorem bt_set : bootBuiltins "set" = some (.type "set") := by decide +kernel
theorem bt_max : bootBuiltins "max" = some (.builtin "max") := by decide +kernel
theorem bt_sorted : bootBuiltins "sorted" = some (.builtin "sorted") := by decide +kernel
theorem bt_isi : bootBuiltins "isinstance" = some (.builtin "isinstance") := by decide +kernel
/-- one turn of a comprehension that binds x: behind the kept item the new list holds it, too, and Nx stands -/
abbrev LcTurn (g : TG) (tt : TT) (te : TE) (vs : List Nat) (σ : L2.St) (D : Addr) (Nx : Hp → Prop) (x : V) (H' : Hp) : Prop :=
  g x (wipe σ vs) H' fun σ2 H2 =>
    wipe σ2 vs = wipe σ vs ∧ tt σ2 H2 fun b H3 =>
      if b = true then
        te σ2 H3 fun y H4 => ∃ acc,
          H4 D = some (.lst acc) ∧ acc.length < sizeLine ∧
            Nx (upd H4 D (.lst (acc ++ [y])))
      else Nx H3
/-- a comprehension over a range with a step -/
theorem lc_rangeC {lo c : Int} {n : Nat} {g : TG} {tt : TT} {te : TE} {vs : List Nat} {σ : L2.St} {H1 : Hp} {D : Addr} {Qd : Hp → Prop} (Pv : Nat → Hp → Prop) (h0 : Pv 0 (upd H1 D (.lst [])))
    (hs : ∀ i H, i < n → Pv i H → LcTurn g tt te vs σ D (Pv (i + 1)) (.int (lo + (i : Nat) * c)) H) (hd : ∀ H, Pv n H → Qd H) :
    ∃ W : Nat → Nat → Hp → Prop,
      (∃ m, W 0 m (upd H1 D (.lst []))) ∧
      ∀ i m H, W i m H →
        ((Itc lo c n).stop i H ∧ Qd H) ∨
        ((Itc lo c n).go i H ∧ ∃ Nx : Hp → Prop, (∀ H', Nx H' → ∃ m', m' < m ∧ W (i + 1) m' H') ∧ ∀ x H', (Itc lo c n).yld i H x H' → LcTurn g tt te vs σ D Nx x H') := by
  refine ⟨fun i m H => m + i = n ∧ Pv i H, ⟨n, rfl, h0⟩, ?_⟩
  rintro i m H ⟨hm, p⟩
  rcases Nat.lt_or_ge i n with h | h
  · refine .inr ⟨h, Pv (i + 1), fun H' p' => ⟨n - (i + 1), by omega, by omega, p'⟩, ?_⟩
    rintro x H' ⟨e, y⟩
    subst e y
    exact hs i _ h p
  · have e : i = n := by omega
    subst e
    exact .inl ⟨h, hd H p⟩
end Nws
namespace Nws
open PySem L2
abbrev sRows : Stmt := top 3
theorem cut_r1 {xs : List Int} {k c : Nat} (hl : k + c ≤ xs.length) : (xs.drop k).take c = Gsp.r1 c (fun j => xs.getD (k + j) 0) := by
  apply List.ext_getElem
  · rw [List.length_take, List.length_drop, Gsp.r1_length]
    omega
  · intro i h1 h2
    rw [Gsp.r1_length] at h2
    have h3 : k + i < xs.length := by omega
    simp only [Gsp.r1, List.getElem_map, List.getElem_range, List.getElem_take, List.getElem_drop, List.getD, List.getElem?_eq_getElem h3, Option.getD_some]
theorem cut_ints {xs : List Int} {k c : Nat} {lo hi : Int} (hlo : lo = k) (hhi : hi = ((k + c : Nat) : Int)) (hl : k + c ≤ xs.length) :
    cutV (xs.map V.int) (some lo) (some hi) = (Gsp.r1 c (fun j => xs.getD (k + j) 0)).map V.int := by
  subst hlo hhi
  unfold cutV
  rw [HT.sIx_nat, HT.sIx_nat, List.length_map, Nat.min_eq_left (show k ≤ xs.length by omega), Nat.min_eq_left hl, Nat.add_sub_cancel_left, ← cut_r1 hl, List.map_take, List.map_drop]
theorem cut_ints0 {xs : List Int} {c : Nat} {hi : Int} (hhi : hi = (c : Int)) (hl : c ≤ xs.length) :
    cutV (xs.map V.int) none (some hi) = (Gsp.r1 c (fun j => xs.getD j 0)).map V.int := by
  have := cut_ints (xs := xs) (k := 0) (c := c) (lo := 0) (hi := hi) rfl (by rw [hhi, Nat.zero_add]) (by omega)
  simp only [Nat.zero_add] at this
  rw [← this]
  unfold cutV
  rw [HT.sIx_none]
  have : HT.sIx (xs.map V.int).length 0 (some 0) = 0 := by
    show HT.sIx (xs.map V.int).length 0 (some ((0 : Nat) : Int)) = 0
    rw [HT.sIx_nat]
    exact Nat.zero_min _
  rw [this]
/-- a slice of a tuple of ints: itself or a new one -/
theorem sl_ints {K : PySem.W.Frag} {H : Hp} {a : Addr} {xs ys : List Int} {lo hi : Option Int} {Q : VK} (h : H a = some (.tup (xs.map V.int))) (e : cutV (xs.map V.int) lo hi = ys.map V.int)
    (k : ∀ p H', Same H H' → H' p = some (.tup (ys.map V.int)) → Q (.ref p) H') : rSlA K (.ref a) lo hi H Q := by
  refine ⟨a, _, rfl, SqT.of h, fun hw => ?_, fun _ p hp => ?_⟩
  · refine k a H (Same.refl H) ?_
    rw [h, ← e]
    unfold cutV
    rw [hw.1, hw.2, List.drop_zero, Nat.sub_zero, List.take_length]
  · exact k p _ (same_new (Same.refl H) hp) (by rw [upd_same, e])

/-! size_of -/
def spSize : Sp := fun vs H Q _ => ∃ n : Nat, vs = [.int n] ∧ n ≤ 4 ∧ Q (.int ((n + n * n + n * (n * n) : Nat) : Int)) H
theorem scSize : FnScope ["places"] ["places"] (defScope sSize) := ⟨rfl, rfl, rfl, by decide +kernel, rfl, by decide +kernel, by decide +kernel⟩
/-! rows_of -/
def spRows : Sp := fun vs H Q _ => ∃ (a : Addr) (n : Nat) (g : Nat → Int), vs = [.ref a, .int n] ∧ H a = some (.tup ((Gsp.r1 (n * n) g).map V.int)) ∧ 1 ≤ n ∧ n ≤ 4 ∧
  ∀ H' l vs, Same H H' → H l = none → H' l = some (.lst vs) → vs.length = n → (∀ i x, vs[i]? = some x → R1 H' n (fun j => g (i * n + j)) x) → Q (.ref l) H'
theorem scRows : FnScope ["numbers", "places", "k"] ["numbers", "places"] (defScope sRows) := ⟨rfl, rfl, rfl, by decide +kernel, rfl, by decide +kernel, by decide +kernel⟩
theorem sq_le {n : Nat} (h : n ≤ 4) : n * n ≤ 16 := Nat.mul_le_mul h h
theorem cu_le {n : Nat} (h : n ≤ 4) : n * (n * n) ≤ 64 := Nat.mul_le_mul h (sq_le h)
theorem rg_rows {n : Nat} (h1 : 1 ≤ n) (h4 : n ≤ 4) : RgC 0 ((n * n : Nat) : Int) n n := by
  have : n = 1 ∨ n = 2 ∨ n = 3 ∨ n = 4 := by omega
  rcases this with rfl | rfl | rfl | rfl <;> exact ⟨by decide, by decide, by decide +kernel, by decide +kernel⟩
section
variable {P : Program} {w : World} {K : PySem.W.Frag} {mg : Str → Option Value} {base : Heap} {CK CN CA : Addr}
theorem ok_size {f : Addr} {fd : FuncData} (F : Fun K "size_of" "size_of" sSize f fd) : FnOk P w K mg base CX0 1 f fd ["places"] spSize := by
  refine F.ok scSize (fun vs H Q E h => ?_) (fun cdv A outer s H vs Q E hr h => ?_)
  · obtain ⟨n, rfl, _⟩ := h
    rfl
  · obtain ⟨n, rfl, hn, q⟩ := h
    refine ⟨_, pss_one (ps_ret (pe_op op_add (pe_op op_add (pv 0) (pe_op op_mul (pv 0) (pv 0))) (pe_op op_mul (pe_op op_mul (pv 0) (pv 0)) (pv 0)))), ?_⟩
    have s1 := sq_le hn
    have e1 : (n : Int) * (n : Int) = ((n * n : Nat) : Int) := (Int.natCast_mul _ _).symm
    refine ⟨_, rfl, _, rfl, _, rfl, _, _, rfl, rfl, .inl ⟨by omega, by omega⟩, _, _, rfl, rfl, _, rfl, _, rfl, _, _, rfl, rfl, .inl ⟨by omega, by omega⟩, _, rfl, _, _, rfl, rfl, .inl ⟨by omega, by omega⟩, _, _, rfl, rfl, ?_⟩
    have e : (n : Int) + (n : Int) * (n : Int) + (n : Int) * (n : Int) * (n : Int) = ((n + n * n + n * (n * n) : Nat) : Int) := by
      rw [Int.natCast_add, Int.natCast_add, Int.natCast_mul, Int.natCast_mul, Int.natCast_mul, Int.mul_assoc]
    show Q (V.int ((n : Int) + (n : Int) * (n : Int) + (n : Int) * (n : Int) * (n : Int))) H
    rw [e]
    exact q
theorem ok_rows {f : Addr} {fd : FuncData} (F : Fun K "rows_of" "rows_of" sRows f fd) (T : Txt K mg CK CN CA) : FnOk P w K mg base CX0 1 f fd ["numbers", "places"] spRows := by
  refine F.ok scRows (fun vs H Q E h => ?_) (fun cdv A outer s H vs Q E hr h => ?_)
  · obtain ⟨a, n, g, rfl, _⟩ := h
    rfl
  · obtain ⟨a, n, g, rfl, ha, h1, h4, q⟩ := h
    refine ⟨_, pss_one (ps_ret (pe_lc (own := [("k", 2)]) (g := gName 2) (tt := tYes) rfl scRows.nd
      (pi_range3 rfl T.range (pa_cons pe_int (pa_cons (pe_callB call_len_seq (by rfl) T.len PySem.boot_len (pa_cons (pv 0) pa_nil)) (pa_cons (pv 1) pa_nil))))
      (blkOk_by (N := ["numbers", "places", "k"]) (sc := defScope sRows) (by decide +kernel)) (fun _ _ _ _ _ => pg_name (i := 2) scRows.nd rfl (Or.inl rfl)) (fun _ _ _ _ _ => pts_nil)
      (fun _ _ _ _ _ => pe_callTy (r := rTupOf K) cr_tupOf (by rfl) T.tuple bt_tuple (pa_cons (pe_slice (r := rSlA K) sl_tupA (pv 0) (po_some (pv 2)) (po_some (pe_op op_add (pv 2) (pv 1)))) pa_nil)))), ?_⟩
    refine ⟨_, rfl, a, _, rfl, .inr (SqT.of ha), _, rfl, _, _, _, n, rfl, ?_, fun D hD => ?_⟩
    · rw [List.length_map, Gsp.r1_length]
      exact rg_rows h1 h4
    refine lc_rangeC (fun i H' => Same H H' ∧ ∃ acc, H' D = some (.lst acc) ∧ acc.length = i ∧ ∀ j x, acc[j]? = some x → R1 H' n (fun l => g (j * n + l)) x)
      ⟨same_new (Same.refl H) hD, [], upd_same, rfl, fun j x z => by simp at z⟩ ?_ ?_
    · rintro i H' hi ⟨hs, acc, hacc, hlen, hrows⟩
      refine ⟨rfl, _, rfl, _, rfl, _, rfl, _, rfl, _, rfl, _, _, rfl, rfl, _, rfl, sl_ints (ys := Gsp.r1 n (fun l => g (i * n + l))) (hs _ _ ha) ?_ fun p H2 hs2 hp => ?_⟩
      · have hin : i * n + n ≤ n * n := by
          have := Nat.mul_le_mul_right n (show i + 1 ≤ n from hi)
          rw [Nat.succ_mul] at this
          exact this
        rw [cut_ints (k := i * n) (c := n) (by omega) (by omega) (by rw [Gsp.r1_length]; exact hin)]
        congr 1
        unfold Gsp.r1
        refine List.map_congr_left fun l hl => ?_
        have hl := List.mem_range.mp hl
        exact Gsp.r1_get (by omega)
      · refine ⟨p, _, rfl, .inr ⟨SqT.of hp, acc, hs2 _ _ hacc, ?_, ?_⟩⟩
        · rw [hlen]
          exact small1000 (by omega)
        · have hpD : p ≠ D := ne_of hp (hs2 _ _ hacc) (by intro z; cases z)
          have kt : KT H' (upd H2 D (.lst (acc ++ [.ref p]))) := (KT.of hs2).put fun vs z => by rw [hs2 _ _ hacc] at z; cases z
          refine ⟨same_put (hs.trans hs2) hD, _, upd_same, by rw [List.length_append, hlen]; rfl, fun j x hj => ?_⟩
          by_cases hji : j < acc.length
          · rw [List.getElem?_append_left hji] at hj
            exact (hrows j x hj).kt kt
          · have : j = acc.length := by
              have := (List.getElem?_eq_some_iff.mp hj).1
              rw [List.length_append, List.length_singleton] at this
              omega
            subst this
            rw [List.getElem?_append_right (Nat.le_refl _), Nat.sub_self] at hj
            cases hj
            rw [hlen]
            exact ⟨p, rfl, by rw [upd_ne hpD]; exact hp⟩
    · rintro H' ⟨hs, acc, hacc, hlen, hrows⟩
      exact q H' D acc hs hD hacc hlen hrows
end
end Nws
namespace Nws
open PySem L2
abbrev sKof : Stmt := top 4
abbrev sFirst : Stmt := top 5
/-- a list that grows by one keeps what is known of each item -/
theorem items_push {α : Type} {acc : List α} {y : α} {i : Nat} {R : Nat → α → Prop} (hl : acc.length = i) (h : ∀ (j : Nat) x, acc[j]? = some x → R j x) (hy : R i y) : ∀ (j : Nat) x, (acc ++ [y])[j]? = some x → R j x := by
  intro j x hj
  by_cases hji : j < acc.length
  · rw [List.getElem?_append_left hji] at hj
    exact h j x hj
  · have : j = acc.length := by
      have := (List.getElem?_eq_some_iff.mp hj).1
      rw [List.length_append, List.length_singleton] at this
      omega
    subst this
    rw [List.getElem?_append_right (Nat.le_refl _), Nat.sub_self] at hj
    cases hj
    rw [hl]
    exact hy
def spKof (CK : Addr) : Sp := fun vs H Q _ => ∃ (a : Addr) (n : Nat) (xs : List Int), vs = [.ref a, .int n] ∧ H a = some (.tup (xs.map V.int)) ∧ 1 ≤ n ∧ n ≤ 4 ∧ xs.length = n + n * n + n * (n * n) ∧
  ∀ H' p, Same H H' → H p = none → KnAt CK H' n (Gsp.dec n xs) p → Q (.ref p) H'
theorem scKof : FnScope ["state", "places", "square", "first", "second", "third", "k", "begin"] ["state", "places"] (defScope sKof) := ⟨rfl, rfl, rfl, by decide +kernel, rfl, by decide +kernel, by decide +kernel⟩
def spFirst (CK : Addr) : Sp := fun vs H Q _ => ∃ n : Nat, vs = [.int n] ∧ 1 ≤ n ∧ n ≤ 4 ∧ ∀ H' p, Same H H' → H p = none → KnAt CK H' n (Gsp.dec n (Gsp.start n)) p → Q (.ref p) H'
theorem scFirst : FnScope ["places"] ["places"] (defScope sFirst) := ⟨rfl, rfl, rfl, by decide +kernel, rfl, by decide +kernel, by decide +kernel⟩
section
variable {P : Program} {w : World} {K : PySem.W.Frag} {mg : Str → Option Value} {base : Heap} {CK CN CA : Addr}
theorem ok_kof {f fR fI : Addr} {fd fdR fdI : FuncData} (F : Fun K "known_of" "known_of" sKof f fd) (T : Txt K mg CK CN CA) (cR : Cal P w K mg base 1 "rows_of" ["numbers", "places"] spRows fR fdR)
    (cI : Ccal P w K mg base 1 CK ["self", "first", "second", "third"] (spKinit CK) fI fdI) : FnOk P w K mg base CX0 3 f fd ["state", "places"] (spKof CK) := by
  refine F.ok scKof (fun vs H Q E h => ?_) (fun cdv A outer s H vs Q E hr h => ?_)
  · obtain ⟨a, n, xs, rfl, _⟩ := h
    rfl
  · obtain ⟨a, n, xs, rfl, ha, h1, h4, hlen, q⟩ := h
    have hr1 : Room 1 _ := hr.mono (by decide)
    have nd := scKof.nd
    refine ⟨_, pss_cons (ps_set (i := 2) nd rfl (.inl rfl) (pe_op op_mul (pv 1) (pv 1)))
      (pss_cons (ps_set (i := 3) nd rfl (.inl rfl) (pe_callTy cr_tupOf (by rfl) T.tuple bt_tuple (pa_cons (pe_slice sl_tupA (pv 0) po_none (po_some (pv 1))) pa_nil)))
      (pss_cons (ps_set (i := 4) nd rfl (.inl rfl) (pe_callTy cr_tupOf (by rfl) T.tuple bt_tuple (pa_cons
        (pe_call cR.ok hr1 rfl cR.mg cR.kp cR.b .nil pass0 (pa_cons (pe_slice sl_tupA (pv 0) (po_some (pv 1)) (po_some (pe_op op_add (pv 1) (pv 2)))) (pa_cons (pv 1) pa_nil))) pa_nil)))
      (pss_cons (ps_set (i := 5) nd rfl (.inl rfl) (pe_lst pa_nil))
      (pss_cons (ps_for PassesOwn.never rfl (pi_range1 rfl T.range (pa_cons (pv 1) pa_nil)) (pg_name (i := 6) nd rfl (.inl rfl))
        (pss_cons (ps_set (i := 7) nd rfl (.inl rfl) (pe_op op_add (pe_op op_add (pv 1) (pv 2)) (pe_op op_mul (pv 6) (pv 2))))
        (pss_one (ps_expr (pe_bm PySem.F.plainAttrs_list PySem.F.slot_list_append PySem.F.type_list_append mt_append (pv 5) (pa_cons
          (pe_callTy cr_tupOf (by rfl) T.tuple bt_tuple (pa_cons
            (pe_call cR.ok hr1 rfl cR.mg cR.kp cR.b .nil pass0 (pa_cons (pe_slice sl_tupA (pv 0) (po_some (pv 7)) (po_some (pe_op op_add (pv 7) (pv 2)))) (pa_cons (pv 1) pa_nil))) pa_nil)) pa_nil))))))
      (pss_one (ps_ret (pe_make cI.made cI.ok hr rfl T.mgK cI.b .nil pass0 (pa_cons (pv 3) (pa_cons (pv 4) (pa_cons (pe_callTy cr_tupOf (by rfl) T.tuple bt_tuple (pa_cons (pv 5) pa_nil)) pa_nil)))))))))), ?_⟩
    have s1 := sq_le h4
    have s2 := cu_le h4
    have em : (n : Int) * (n : Int) = ((n * n : Nat) : Int) := (Int.natCast_mul _ _).symm
    -- square, first
    refine ⟨_, rfl, _, rfl, _, _, rfl, rfl, .inl ⟨by omega, by omega⟩, _, rfl, _, rfl, _, rfl, sl_ints ha (cut_ints0 (c := n) rfl (by omega)) fun p1 H1 e1 t1 => ?_⟩
    refine ⟨p1, _, rfl, .inr ⟨SqT.of t1, ?_⟩⟩
    -- second
    refine ⟨_, rfl, _, rfl, _, rfl, _, rfl, _, rfl, _, _, rfl, rfl, _, rfl, sl_ints (e1 _ _ ha) (cut_ints (k := n) (c := n * n) rfl (by omega) (by omega)) fun p2 H2 e2 t2 => ?_⟩
    refine ⟨_, rfl, p2, n, _, rfl, t2, h1, h4, fun H3 l3 vs3 e3 _ t3 hl3 k3 => ?_⟩
    refine ⟨l3, _, rfl, .inl ⟨SqL.of t3, fun p4 hp4 => ?_⟩⟩
    have e4 : Same H (upd H3 p4 (.tup vs3)) := same_new ((e1.trans e2).trans e3) hp4
    have kt4 : KT H3 (upd H3 p4 (.tup vs3)) := KT.new (.of (Same.refl _)) hp4
    have r1 : R1 (upd H3 p4 (.tup vs3)) n (Gsp.dec n xs).f1 (.ref p1) := ⟨p1, rfl, kt4 _ _ (e3 _ _ (e2 _ _ t1))⟩
    have r2 : R2 (upd H3 p4 (.tup vs3)) n (Gsp.dec n xs).f2 (.ref p4) := ⟨p4, vs3, rfl, upd_same, hl3, fun i x hx => (k3 i x hx).kt kt4⟩
    -- third
    refine ⟨Nat.zero_le _, fun l5 hl5 => ?_⟩
    have e5 : Same H (upd (upd H3 p4 (.tup vs3)) l5 (.lst [])) := same_new e4 hl5
    have n5 : H l5 = none := e4.free hl5
    have kt5 : KT (upd H3 p4 (.tup vs3)) (upd (upd H3 p4 (.tup vs3)) l5 (.lst [])) := KT.new (.of (Same.refl _)) hl5
    refine ⟨_, rfl, _, rfl, by omega, by omega, for_range (lo := 0) (n := n)
      (fun i σ H' => ∃ x6 x7, σ = [some (.ref a), some (.int n), some (.int ((n : Int) * (n : Int))), some (.ref p1), some (.ref p4), some (.ref l5), x6, x7] ∧ Same H H' ∧
        R1 H' n (Gsp.dec n xs).f1 (.ref p1) ∧ R2 H' n (Gsp.dec n xs).f2 (.ref p4) ∧ ∃ acc, H' l5 = some (.lst acc) ∧ acc.length = i ∧ ∀ j x, acc[j]? = some x → R2 H' n ((Gsp.dec n xs).f3 j) x)
      ⟨_, _, rfl, e5, r1.kt kt5, r2.kt kt5, [], upd_same, rfl, fun j x z => by simp at z⟩ ?_ ?_⟩
    · rintro i σ H' hi ⟨x6, x7, rfl, e, q1, q2, acc, hacc, hal, hk⟩
      have hin : i * (n * n) + n * n ≤ n * (n * n) := by
        have := Nat.mul_le_mul_right (n * n) (show i + 1 ≤ n from hi)
        rw [Nat.succ_mul] at this
        exact this
      have eb : (n : Int) + (n : Int) * (n : Int) + (0 + (i : Int)) * ((n : Int) * (n : Int)) = ((n + n * n + i * (n * n) : Nat) : Int) := by
        rw [Int.zero_add, em, ← Int.natCast_mul, ← Int.natCast_add, ← Int.natCast_add]
      refine ⟨_, rfl, _, rfl, _, _, rfl, rfl, _, rfl, _, rfl, _, _, rfl, rfl, .inl ⟨by omega, by omega⟩, _, _, rfl, rfl, ?_⟩
      refine ⟨_, rfl, .inl ⟨rfl, _, SqL.of hacc⟩, _, rfl, _, rfl, _, rfl, _, rfl, _, rfl, _, _, rfl, rfl, _, rfl, sl_ints (e _ _ ha) (cut_ints (k := n + n * n + i * (n * n)) (c := n * n) eb (by rw [Int.natCast_add, ← eb, em]) (by omega)) fun p6 H6 e6 t6 => ?_⟩
      refine ⟨_, rfl, p6, n, _, rfl, t6, h1, h4, fun H7 l7 vs7 e7 _ t7 hl7 k7 => ?_⟩
      refine ⟨l7, _, rfl, .inl ⟨SqL.of t7, fun p8 hp8 => ?_⟩⟩
      have kt8 : KT H7 (upd H7 p8 (.tup vs7)) := KT.new (.of (Same.refl _)) hp8
      have a8 : (upd H7 p8 (.tup vs7)) l5 = some (.lst acc) := same_new (e6.trans e7) hp8 _ _ hacc
      refine ⟨l5, acc, _, rfl, rfl, a8, by rw [hal]; exact small1000 (by omega), ?_⟩
      have e8 : Same H (upd H7 p8 (.tup vs7)) := same_new ((e.trans e6).trans e7) hp8
      have kt9 : KT H7 (upd (upd H7 p8 (.tup vs7)) l5 (.lst (acc ++ [.ref p8]))) := kt8.put fun vs z => by rw [a8] at z; cases z
      have kt10 : KT H' (upd (upd H7 p8 (.tup vs7)) l5 (.lst (acc ++ [.ref p8]))) := fun b vs z => kt9 b vs (e7 _ _ (e6 _ _ z))
      refine ⟨_, _, rfl, same_put e8 n5, q1.kt kt10, q2.kt kt10, _, upd_same, by rw [List.length_append, hal]; rfl, items_push hal (fun j x hx => (hk j x hx).kt kt10) ?_⟩
      have p8ne : p8 ≠ l5 := fun z => by
        rw [z, e7 _ _ (e6 _ _ hacc)] at hp8
        cases hp8
      refine ⟨p8, vs7, rfl, by rw [upd_ne p8ne, upd_same], hl7, fun j x hx => ?_⟩
      have := (k7 j x hx).kt kt9
      have ej : (fun l => xs.getD (n + n * n + i * (n * n) + (j * n + l)) 0) = (Gsp.dec n xs).f3 i j := by
        funext l
        show xs.getD (n + n * n + i * (n * n) + (j * n + l)) 0 = xs.getD (n + n * n + (i * (n * n) + (j * n + l))) 0
        rw [Nat.add_assoc (n + n * n)]
      rw [← ej]
      exact this
    · rintro σ H' ⟨x6, x7, rfl, e, q1, q2, acc, hacc, hal, hk⟩
      refine ⟨_, rfl, _, rfl, _, rfl, l5, _, rfl, .inl ⟨SqL.of hacc, fun p9 hp9 => ?_⟩⟩
      intro x dx hx hdx hne
      have e9 : Same H (upd H' p9 (.tup acc)) := same_new e hp9
      have ktA : KT H' (upd H' p9 (.tup acc)) := KT.new (.of (Same.refl _)) hp9
      have e10 : Same (upd H' p9 (.tup acc)) (upd (upd (upd H' p9 (.tup acc)) dx (.own x)) x (.ins CK dx [])) := fun b o z => by
        rw [upd_ne (ne_of_none z hx), upd_ne (ne_of_none z hdx)]
        exact z
      refine ⟨x, dx, _, _, _, rfl, upd_same, rfl, ?_⟩
      rw [upd_upd]
      have e11 : Same (upd H' p9 (.tup acc)) (upd (upd (upd H' p9 (.tup acc)) dx (.own x)) x (.ins CK dx (kf (.ref p1) (.ref p4) (.ref p9)))) := fun b o z => by
        rw [upd_ne (ne_of_none z hx), upd_ne (ne_of_none z hdx)]
        exact z
      have kt11 := KT.of e11
      refine q _ x (e9.trans e11) (e9.free hx) ⟨dx, _, _, _, upd_same, (q1.kt ktA).kt kt11, (q2.kt ktA).kt kt11, p9, acc, rfl, kt11 _ _ upd_same, hal, fun i x hx => ((hk i x hx).kt ktA).kt kt11⟩
theorem ok_first {f fS fO : Addr} {fd fdS fdO : FuncData} (F : Fun K "first_known" "first_known" sFirst f fd) (T : Txt K mg CK CN CA) (cS : Cal P w K mg base 1 "size_of" ["places"] spSize fS fdS)
    (cO : Cal P w K mg base 3 "known_of" ["state", "places"] (spKof CK) fO fdO) : FnOk P w K mg base CX0 4 f fd ["places"] (spFirst CK) := by
  refine F.ok scFirst (fun vs H Q E h => ?_) (fun cdv A outer s H vs Q E hr h => ?_)
  · obtain ⟨n, rfl, _⟩ := h
    rfl
  · obtain ⟨n, rfl, h1, h4, q⟩ := h
    refine ⟨_, pss_one (ps_ret (pe_call cO.ok hr rfl cO.mg cO.kp cO.b .nil pass0 (pa_cons (pe_op op_repA (pe_tup (pa_cons pe_int pa_nil)) (pe_call cS.ok (hr.mono (by decide)) rfl cS.mg cS.kp cS.b .nil pass0 (pa_cons (pv 0) pa_nil))) (pa_cons (pv 0) pa_nil)))), ?_⟩
    have s1 := sq_le h4
    have s2 := cu_le h4
    have s0 : 1 ≤ n * n := Nat.mul_le_mul h1 h1
    refine ⟨by show 1 ≤ sizeLine; decide, fun t ht => ⟨_, rfl, n, rfl, h4, ?_⟩⟩
    refine ⟨t, n + n * n + n * (n * n), _, rfl, rfl, SqT.of upd_same, by simp, by omega, by omega, by simp, fun z => by omega, fun _ p hp => ?_⟩
    refine ⟨_, rfl, p, n, Gsp.start n, rfl, ?_, h1, h4, by simp [Gsp.start], fun H' x e hx hk => ?_⟩
    · rw [upd_same]
      unfold Gsp.start
      congr 2
      generalize n + n * n + n * (n * n) = m
      induction m with
      | zero => rfl
      | succ m ih => rw [List.replicate_succ, List.flatten_cons, ih, List.replicate_succ, List.map_cons]; rfl
    · have e0 : Same H (upd (upd H t (.tup [.int 0])) p (.tup (List.replicate (n + n * n + n * (n * n)) [V.int 0]).flatten)) := same_new (same_new (Same.refl H) ht) hp
      exact q _ x (e0.trans e) (e0.free hx) hk
end
end Nws
namespace Nws
open PySem L2
abbrev sOlder : Stmt := top 6
abbrev sHolder : Stmt := top 7
theorem r1_at {n r : Nat} {f : Nat → Int} (h : r < n) : ((Gsp.r1 n f).map V.int)[r]? = some (V.int (f r)) := by
  simp [Gsp.r1, List.getElem?_map, List.getElem?_range h]
theorem flat_ints (xs : List Int) : (xs.map V.int).all flatV = true := by
  rw [List.all_eq_true]
  intro x hx
  obtain ⟨y, _, rfl⟩ := List.mem_map.mp hx
  rfl
theorem inV_ints (x : Int) (xs : List Int) : inV (.int x) (xs.map V.int) = decide (x ∈ xs) := by
  unfold inV
  rw [List.any_map, Bool.eq_iff_iff, List.any_eq_true, decide_eq_true_iff]
  constructor
  · rintro ⟨y, hy, e⟩
    have e2 : (y == x) = true := e
    rw [beq_iff_eq] at e2
    rw [← e2]
    exact hy
  · intro h
    exact ⟨x, h, show (x == x) = true from beq_self_eq_true x⟩
theorem bl_t {p : Prop} [Decidable p] (h : p) : V.bl (decide p) = V.bl true := by rw [decide_eq_true h]
theorem bl_f {p : Prop} [Decidable p] (h : ¬ p) : V.bl (decide p) = V.bl false := by rw [decide_eq_false h]
theorem bl_nt {p : Prop} [Decidable p] (h : p) : V.bl (!decide p) = V.bl false := by rw [decide_eq_true h]; rfl
theorem bl_nf {p : Prop} [Decidable p] (h : ¬ p) : V.bl (!decide p) = V.bl true := by rw [decide_eq_false h]; rfl
def spOlder (CK : Addr) : Sp := fun vs H Q _ => ∃ (p q : Addr) (n : Nat) (k1 k2 : Gsp.Kn) (r : Nat), vs = [.ref p, .ref q, .int r] ∧ KnAt CK H n k1 p ∧ KnAt CK H n k2 q ∧ r < n ∧ n ≤ 4 ∧ Q (.bl (Gsp.older n k1 k2 r)) H
theorem scOlder : FnScope ["one", "two", "place", "label", "other"] ["one", "two", "place"] (defScope sOlder) := ⟨rfl, rfl, rfl, by decide +kernel, rfl, by decide +kernel, by decide +kernel⟩
/-- a list of Knowns -/
def KsAt (CK : Addr) (H : Hp) (n : Nat) (ks : List Gsp.Kn) (vs : List V) : Prop := vs.length = ks.length ∧ ∀ (i : Nat) x, vs[i]? = some x → ∃ p, x = .ref p ∧ KnAt CK H n (ks.getD i Gsp.kn0) p
theorem KsAt.same {CK : Addr} {H H' : Hp} {n : Nat} {ks : List Gsp.Kn} {vs : List V} (e : Same H H') (h : KsAt CK H n ks vs) : KsAt CK H' n ks vs :=
  ⟨h.1, fun i x hx => by obtain ⟨p, e1, e2⟩ := h.2 i x hx; exact ⟨p, e1, e2.same e⟩⟩
def spHolder (CK : Addr) : Sp := fun vs H Q _ => ∃ (l : Addr) (ws : List V) (n : Nat) (ks : List Gsp.Kn) (r : Nat), vs = [.ref l, .int r] ∧ H l = some (.lst ws) ∧ KsAt CK H n ks ws ∧ 1 ≤ ks.length ∧ ks.length ≤ 4 ∧ r < n ∧ n ≤ 4 ∧ Q (.int (Gsp.holder n ks r)) H
theorem scHolder : FnScope ["known", "place", "best", "k"] ["known", "place"] (defScope sHolder) := ⟨rfl, rfl, rfl, by decide +kernel, rfl, by decide +kernel, by decide +kernel⟩
theorem hold_le (n : Nat) (ks : List Gsp.Kn) (r : Nat) : ∀ i, Gsp.hold n ks r i ≤ i
  | 0 => Nat.le_refl 0
  | i + 1 => by
    simp only [Gsp.hold]
    have := hold_le n ks r i
    split <;> omega
section
variable {P : Program} {w : World} {K : PySem.W.Frag} {mg : Str → Option Value} {base : Heap} {CK CN CA : Addr}
theorem ok_older {f : Addr} {fd : FuncData} (F : Fun K "is_older" "is_older" sOlder f fd) (T : Txt K mg CK CN CA) : FnOk P w K mg base CX0 1 f fd ["one", "two", "place"] (spOlder CK) := by
  refine F.ok scOlder (fun vs H Q E h => ?_) (fun cdv A outer s H vs Q E hr h => ?_)
  · obtain ⟨p, q, n, k1, k2, r, rfl, _⟩ := h
    rfl
  · obtain ⟨p, q, n, k1, k2, r, rfl, K1, K2, hr', hn, goal⟩ := h
    obtain ⟨dx, a, b, c, hp, ⟨a1, rfl, t1⟩, ⟨a2, v2, rfl, t2, l2, s2⟩, _⟩ := id K1
    obtain ⟨dy, a', b', c', hq, ⟨b1, rfl, u1⟩, _, _⟩ := id K2
    have nd := scOlder.nd
    refine ⟨_, pss_cons (ps_set (i := 3) nd rfl (.inl rfl) (pe_ix ix_tup (pe_fld (pv 0) rfl) (pv 2) (fun _ _ => rfl)))
      (pss_cons (ps_if (pt_cmp (pc_eqI (pv 3) (pe_ix ix_tup (pe_fld (pv 1) rfl) (pv 2) (fun _ _ => rfl)))) (pss_one (ps_ret pe_bl)) pss_nil)
      (pss_cons (ps_if (PW.pt (pw_or (pt_cmp (pc_eqI (pv 3) pe_int)) (pw_or1 (pt_cmp (pc_eqI (pe_ix ix_tup (pe_fld (pv 1) rfl) (pv 2) (fun _ _ => rfl)) pe_int))))) (pss_one (ps_ret (pe_cmp (pc_eqI (pv 3) pe_int)))) pss_nil)
      (pss_cons (ps_for PassesOwn.never rfl (pi_range1 rfl T.range (pa_cons (pe_callB cr_lenS (by rfl) T.len PySem.boot_len (pa_cons (pe_fld (pv 0) rfl) pa_nil)) pa_nil)) (pg_name (i := 4) nd rfl (.inl rfl))
        (pss_one (ps_if (PW.pt (pw_and (pt_cmp (pc_neI (pe_ix ix_tup (pe_fld (pv 0) rfl) (pv 4) (fun _ _ => rfl)) pe_int))
          (pw_and (pt_cmpR op_in_seq (pe_ix ix_tup (pe_fld (pv 0) rfl) (pv 4) (fun _ _ => rfl)) (pe_fld (pv 1) rfl) rfl)
          (pw_and1 (pt_cmp (pc_eqI (pe_ix ix_tup (pe_ix ix_tup (pe_fld (pv 0) rfl) (pv 4) (fun _ _ => rfl)) (pv 2) (fun _ _ => rfl)) (pv 3))))))) (pss_one (ps_ret pe_bl)) pss_nil)))
      (pss_one (ps_ret pe_bl))))), ?_⟩
    -- label
    refine ⟨_, rfl, p, CK, dx, _, _, rfl, hp, T.clK, T.k1, kf_1 _ _ _, _, rfl, a1, _, _, _, rfl, rfl, SqT.of t1, atI_nat (r1_at hr'), ?_⟩
    refine ⟨_, rfl, _, rfl, q, CK, dy, _, _, rfl, hq, T.clK, T.k1, kf_1 _ _ _, _, rfl, b1, _, _, _, rfl, rfl, SqT.of u1, atI_nat (r1_at hr'), _, _, rfl, rfl, ?_⟩
    by_cases c1 : k1.f1 r = k2.f1 r
    · refine ⟨true, bl_t c1, iteT ?_⟩
      have e : Gsp.older n k1 k2 r = false := by
        unfold Gsp.older
        rw [if_pos c1]
      rw [e] at goal
      exact goal
    refine ⟨false, bl_f c1, iteF ⟨_, rfl, _, _, rfl, rfl, ?_⟩⟩
    by_cases c2 : k1.f1 r = 0
    · refine ⟨true, bl_t c2, iteT (iteT ⟨_, rfl, _, _, rfl, rfl, ?_⟩)⟩
      have e : Gsp.older n k1 k2 r = true := by
        unfold Gsp.older
        rw [if_neg c1, if_pos (.inl c2)]
        exact decide_eq_true c2
      rw [e] at goal
      show Q (.bl (decide (k1.f1 r = 0))) H
      rw [decide_eq_true c2]
      exact goal
    refine ⟨false, bl_f c2, iteF ⟨_, rfl, q, CK, dy, _, _, rfl, hq, T.clK, T.k1, kf_1 _ _ _, _, rfl, b1, _, _, _, rfl, rfl, SqT.of u1, atI_nat (r1_at hr'), _, _, rfl, rfl, ?_⟩⟩
    by_cases c3 : k2.f1 r = 0
    · refine ⟨true, bl_t c3, iteT ⟨_, rfl, _, _, rfl, rfl, ?_⟩⟩
      have e : Gsp.older n k1 k2 r = false := by
        unfold Gsp.older
        rw [if_neg c1, if_pos (.inr c3)]
        exact decide_eq_false c2
      rw [e] at goal
      show Q (.bl (decide (k1.f1 r = 0))) H
      rw [decide_eq_false c2]
      exact goal
    have eo : Gsp.older n k1 k2 r = (List.range n).any fun o => decide (k1.f1 o ≠ 0 ∧ k1.f1 o ∈ Gsp.r1 n k2.f1 ∧ k1.f2 o r = k1.f1 r) := by
      unfold Gsp.older
      rw [if_neg c1, if_neg (fun z => z.elim c2 c3)]
    refine ⟨false, bl_f c3, iteF ⟨_, rfl, p, CK, dx, _, _, rfl, hp, T.clK, T.k1, kf_1 _ _ _, a1, _, rfl, .inr (SqT.of t1), _, rfl, ?_⟩⟩
    rw [List.length_map, Gsp.r1_length]
    refine ⟨by omega, by omega, for_range (lo := 0) (n := n) (fun i σ H' => ∃ x4, σ = [some (.ref p), some (.ref q), some (.int r), some (.int (k1.f1 r)), x4] ∧ H' = H ∧
      ∀ o, o < i → ¬ (k1.f1 o ≠ 0 ∧ k1.f1 o ∈ Gsp.r1 n k2.f1 ∧ k1.f2 o r = k1.f1 r)) ⟨_, rfl, rfl, fun o ho => absurd ho (Nat.not_lt_zero o)⟩ ?_ ?_⟩
    · rintro i σ H' hi ⟨x4, rfl, rfl, hno⟩
      have at_i : ∀ (f : Nat → Int), atI ((Gsp.r1 n f).map V.int) (0 + (i : Int)) = some (V.int (f i)) := fun f => by
        rw [Int.zero_add]
        exact atI_nat (r1_at hi)
      have step : ¬ (k1.f1 i ≠ 0 ∧ k1.f1 i ∈ Gsp.r1 n k2.f1 ∧ k1.f2 i r = k1.f1 r) → ∀ o, o < i + 1 → ¬ (k1.f1 o ≠ 0 ∧ k1.f1 o ∈ Gsp.r1 n k2.f1 ∧ k1.f2 o r = k1.f1 r) := fun h o ho => by
        rcases Nat.lt_or_ge o i with z | z
        · exact hno o z
        · have : o = i := by omega
          subst this
          exact h
      refine ⟨_, rfl, p, CK, dx, _, _, rfl, hp, T.clK, T.k1, kf_1 _ _ _, _, rfl, a1, _, _, _, rfl, rfl, SqT.of t1, at_i _, _, _, rfl, rfl, ?_⟩
      by_cases d1 : k1.f1 i = 0
      · exact ⟨false, bl_nt d1, iteF (iteF ⟨_, rfl, rfl, step fun z => z.1 d1⟩)⟩
      refine ⟨true, bl_nf d1, iteT ⟨_, rfl, p, CK, dx, _, _, rfl, hp, T.clK, T.k1, kf_1 _ _ _, _, rfl, a1, _, _, _, rfl, rfl, SqT.of t1, at_i _, _, rfl, q, CK, dy, _, _, rfl, hq, T.clK, T.k1, kf_1 _ _ _,
        b1, _, rfl, .inr (SqT.of u1), rfl, flat_ints _, ?_⟩⟩
      by_cases d2 : k1.f1 i ∈ Gsp.r1 n k2.f1
      · refine ⟨true, congrArg V.bl ((inV_ints _ _).trans (decide_eq_true d2)), ?_⟩
        obtain ⟨x, hx⟩ : ∃ x, v2[i]? = some x := ⟨_, List.getElem?_eq_getElem (by omega)⟩
        obtain ⟨b2, rfl, tb⟩ := s2 i x hx
        have at_2 : atI v2 (0 + (i : Int)) = some (.ref b2) := by
          rw [Int.zero_add]
          exact atI_nat hx
        refine iteT ⟨_, rfl, p, CK, dx, _, _, rfl, hp, T.clK, T.k2, kf_2 _ _ _, _, rfl, a2, _, _, _, rfl, rfl, SqT.of t2, at_2, _, rfl, b2, _, _, _, rfl, rfl, SqT.of tb, atI_nat (r1_at hr'), _, rfl, _, _, rfl, rfl, ?_⟩
        by_cases d3 : k1.f2 i r = k1.f1 r
        · refine ⟨true, bl_t d3, iteT ?_⟩
          have e : Gsp.older n k1 k2 r = true := by
            rw [eo, List.any_eq_true]
            exact ⟨i, List.mem_range.mpr hi, decide_eq_true ⟨d1, d2, d3⟩⟩
          rw [e] at goal
          exact goal
        · exact ⟨false, bl_f d3, iteF ⟨_, rfl, rfl, step fun z => d3 z.2.2⟩⟩
      · exact ⟨false, congrArg V.bl ((inV_ints _ _).trans (decide_eq_false d2)), iteF (iteF ⟨_, rfl, rfl, step fun z => d2 z.2.1⟩)⟩
    · rintro σ H' ⟨x4, rfl, rfl, hno⟩
      have e : Gsp.older n k1 k2 r = false := by
        rw [eo, List.any_eq_false]
        intro o ho
        rw [decide_eq_true_iff]
        exact hno o (List.mem_range.mp ho)
      rw [e] at goal
      exact goal
end
end Nws
namespace Nws
open PySem L2
abbrev sFresh : Stmt := top 8
theorem KsAt.get {CK : Addr} {H : Hp} {n : Nat} {ks : List Gsp.Kn} {vs : List V} (h : KsAt CK H n ks vs) {i : Nat} (hi : i < ks.length) : ∃ p, vs[i]? = some (.ref p) ∧ KnAt CK H n (ks.getD i Gsp.kn0) p := by
  obtain ⟨x, e⟩ : ∃ x, vs[i]? = some x := ⟨_, List.getElem?_eq_getElem (by rw [h.1]; exact hi)⟩
  obtain ⟨p, e1, e2⟩ := h.2 i _ e
  exact ⟨p, by rw [e, e1], e2⟩
def spFresh (CK : Addr) : Sp := fun vs H Q _ => ∃ (l : Addr) (ws : List V) (n : Nat) (ks : List Gsp.Kn) (a m : Nat), vs = [.ref l, .int a, .int m] ∧ H l = some (.lst ws) ∧ KsAt CK H n ks ws ∧ ks.length ≤ 4 ∧ n ≤ 4 ∧ 1 ≤ m ∧
  ∀ H', Same H H' → Q (.int (Gsp.fresh (Gsp.usedOf n ks) a m)) H'
theorem scFresh : FnScope ["known", "letter", "letters", "used", "one", "label"] ["known", "letter", "letters"] (defScope sFresh) := ⟨rfl, rfl, rfl, by decide +kernel, rfl, by decide +kernel, by decide +kernel⟩
/-- the keys of a dict are just the ints of xs -/
def Keys (kvs : List (Key × V)) (xs : List Int) : Prop := kvs.length ≤ xs.length ∧ ∀ x : Int, (valV kvs (Sum.inl x : Key)).isSome = decide (x ∈ xs)
theorem Keys.nil : Keys [] [] := ⟨Nat.le_refl 0, fun x => by rw [valV_nil]; exact (decide_eq_false (by simp)).symm⟩
theorem Keys.put {kvs : List (Key × V)} {xs : List Int} (h : Keys kvs xs) (y : Int) (v : V) : Keys (putK kvs (Sum.inl y) v) (xs ++ [y]) := by
  refine ⟨?_, fun x => ?_⟩
  · have a := length_putK kvs (Sum.inl y : Key) v
    have b := h.1
    rw [List.length_append, List.length_singleton]
    omega
  · rw [valV_put]
    by_cases e : x = y
    · subst e
      rw [if_pos rfl]
      exact (decide_eq_true (by simp)).symm
    · rw [if_neg (fun z => e (Sum.inl.inj z)), h.2 x]
      by_cases hx : x ∈ xs
      · rw [decide_eq_true hx, decide_eq_true (List.mem_append_left _ hx)]
      · rw [decide_eq_false hx, decide_eq_false (by simp [hx, e])]
section
variable {P : Program} {w : World} {K : PySem.W.Frag} {mg : Str → Option Value} {base : Heap} {CK CN CA : Addr}
theorem ok_holder {f fO : Addr} {fd fdO : FuncData} (F : Fun K "holder" "holder" sHolder f fd) (T : Txt K mg CK CN CA) (cO : Cal P w K mg base 1 "is_older" ["one", "two", "place"] (spOlder CK) fO fdO) :
    FnOk P w K mg base CX0 2 f fd ["known", "place"] (spHolder CK) := by
  refine F.ok scHolder (fun vs H Q E h => ?_) (fun cdv A outer s H vs Q E hr h => ?_)
  · obtain ⟨l, ws, n, ks, r, rfl, _⟩ := h
    rfl
  · obtain ⟨l, ws, n, ks, r, rfl, hl, hK, h1, h4, hrn, hn, goal⟩ := h
    have nd := scHolder.nd
    refine ⟨_, pss_cons (ps_set (i := 2) nd rfl (.inl rfl) pe_int)
      (pss_cons (ps_for PassesOwn.never rfl (pi_range2 rfl T.range (pa_cons pe_int (pa_cons (pe_callB cr_lenS (by rfl) T.len PySem.boot_len (pa_cons (pv 0) pa_nil)) pa_nil))) (pg_name (i := 3) nd rfl (.inl rfl))
        (pss_one (ps_if (pt_val (pe_call cO.ok hr rfl cO.mg cO.kp cO.b .nil pass0 (pa_cons (pe_ix ix_list (pv 0) (pv 2) (fun _ _ => rfl)) (pa_cons (pe_ix ix_list (pv 0) (pv 3) (fun _ _ => rfl)) (pa_cons (pv 1) pa_nil)))))
          (pss_one (ps_set (i := 2) nd rfl (.inl rfl) (pv 3))) pss_nil)))
      (pss_one (ps_ret (pv 2)))), ?_⟩
    have hle := hK.1
    refine ⟨_, rfl, l, _, rfl, .inl (SqL.of hl), _, _, rfl, ⟨by omega, by omega, by omega, by omega⟩, for_range (lo := 1) (n := ((ws.length : Int) - 1).toNat)
      (fun i σ H' => ∃ x3, σ = [some (.ref l), some (.int r), some (.int (Gsp.hold n ks r i)), x3] ∧ H' = H) ⟨_, rfl, rfl⟩ ?_ ?_⟩
    · rintro i σ H' hi ⟨x3, rfl, rfl⟩
      have hi2 : i + 1 < ks.length := by omega
      have hb := hold_le n ks r i
      obtain ⟨p1, e1, k1⟩ := hK.get (show Gsp.hold n ks r i < ks.length by omega)
      obtain ⟨p2, e2, k2⟩ := hK.get hi2
      have ei : (1 : Int) + (i : Int) = ((i + 1 : Nat) : Int) := by omega
      refine ⟨_, rfl, _, rfl, l, _, _, _, rfl, rfl, SqL.of hl, atI_nat e1, _, rfl, _, rfl, l, _, _, _, rfl, rfl, SqL.of hl, (by rw [ei]; exact atI_nat e2), _, rfl, ?_⟩
      refine ⟨p1, p2, n, _, _, r, rfl, k1, k2, hrn, hn, _, rfl, ?_⟩
      have key : Gsp.hold n ks r (i + 1) = if Gsp.older n (ks.getD (Gsp.hold n ks r i) Gsp.kn0) (ks.getD (i + 1) Gsp.kn0) r then i + 1 else Gsp.hold n ks r i := rfl
      cases ho : Gsp.older n (ks.getD (Gsp.hold n ks r i) Gsp.kn0) (ks.getD (i + 1) Gsp.kn0) r with
      | true =>
        rw [ho] at key
        refine iteT ⟨_, rfl, some (.int (1 + (i : Int))), ?_, rfl⟩
        rw [key, if_pos rfl, ← ei]
        rfl
      | false =>
        rw [ho] at key
        refine iteF ⟨some (.int (1 + (i : Int))), ?_, rfl⟩
        rw [key]
        rfl
    · rintro σ H' ⟨x3, rfl, rfl⟩
      refine ⟨_, rfl, ?_⟩
      have e : ((ws.length : Int) - 1).toNat = ks.length - 1 := by omega
      rw [e]
      exact goal
theorem ok_fresh {f fL : Addr} {fd fdL : FuncData} (F : Fun K "fresh_label" "fresh_label" sFresh f fd) (T : Txt K mg CK CN CA) (cL : Mcal P w K mg base 1 CK "flat" ["self"] (spKflat CK) fL fdL) :
    FnOk P w K mg base CX0 2 f fd ["known", "letter", "letters"] (spFresh CK) := by
  refine F.ok scFresh (fun vs H Q E h => ?_) (fun cdv A outer s H vs Q E hr h => ?_)
  · obtain ⟨l, ws, n, ks, a, m, rfl, _⟩ := h
    rfl
  · obtain ⟨l, ws, n, ks, a, m, rfl, hl, hK, h4, hn, hm, goal⟩ := h
    have nd := scFresh.nd
    have hu := hu_of hr
    refine ⟨_, pss_cons (ps_set (i := 3) nd rfl (.inl rfl) pe_dnewK)
      (pss_cons (ps_for PassesOwn.never rfl (pi_list (pv 0)) (pg_name (i := 4) nd rfl (.inl rfl))
        (pss_one (ps_for PassesOwn.never rfl (pi_tup (pe_meth0 (pv 4) T.clK cL.at_ cL.ok hr cL.b .nil pass0)) (pg_name (i := 5) nd rfl (.inl rfl))
          (pss_one (ps_dput hu (pv 3) (pv 5) pe_bl rfl)))))
      (pss_cons (ps_set (i := 5) nd rfl (.inl rfl) (pe_op op_add pe_int (pv 1)))
      (pss_cons (ps_while PassesOwn.never (pt_cmp (pc_din hu (pv 5) (pv 3)) rfl) (pss_one (ps_aug (i := 5) nd rfl (.inl rfl) (pv 2) ip_add)))
      (pss_one (ps_ret (pv 5)))))), ?_⟩
    intro d hd
    have hB : ∀ i, i ≤ ks.length → (Gsp.usedOf n (ks.take i)).length ≤ 336 := fun i hi => by
      rw [Gsp.usedOf_length, List.length_take, Nat.min_eq_left hi]
      have := Gsp.block_le hn
      exact Nat.le_trans (Nat.mul_le_mul (show i ≤ 4 by omega) this) (by decide)
    refine ⟨_, rfl, l, rfl, ⟨_, SqL.of (same_new (Same.refl H) hd _ _ hl)⟩, for_list (K := K) (xs := ws)
      (fun i σ H' => ∃ x4 x5, σ = [some (.ref l), some (.int a), some (.int m), some (.ref d), x4, x5] ∧ Same H H' ∧ ∃ kvs, H' d = some (.dK kvs) ∧ Keys kvs (Gsp.usedOf n (ks.take i)))
      ⟨_, _, rfl, same_new (Same.refl H) hd, [], upd_same, Keys.nil⟩ ?_ ?_ ?_⟩
    · rintro i σ H' _ ⟨x4, x5, rfl, e, _⟩
      exact SqL.of (e _ _ hl)
    · rintro i x σ H' hx ⟨x4, x5, rfl, e, kvs, hdk, hkeys⟩
      have hi : i < ks.length := by
        have := (List.getElem?_eq_some_iff.mp hx).1
        rw [hK.1] at this
        exact this
      obtain ⟨p, rfl, kp⟩ := hK.2 i x hx
      have eu : Gsp.usedOf n (ks.take (i + 1)) = Gsp.usedOf n (ks.take i) ++ Gsp.flat n (ks.getD i Gsp.kn0) := by
        unfold Gsp.usedOf
        rw [List.take_succ, List.flatMap_append]
        congr 1
        simp [List.getD, List.getElem?_eq_getElem hi]
      have hB1 := hB (i + 1) hi
      rw [eu, List.length_append] at hB1
      obtain ⟨dx, b1, b2, b3, hpp, q1, q2, q3⟩ := kp.same e
      refine ⟨_, rfl, p, dx, _, rfl, hpp, kf_no _ _ _ (by decide +kernel) (by decide +kernel) (by decide +kernel), p, n, _, rfl, ⟨dx, b1, b2, b3, hpp, q1, q2, q3⟩, hn, fun H1 t e1 ht0 ht => ?_⟩
      have ndt : t ≠ d := ne_of ht (e1 _ _ hdk) (by intro z; cases z)
      refine ⟨t, rfl, ⟨_, SqT.of ht⟩, for_tup (K := K) (xs := (Gsp.flat n (ks.getD i Gsp.kn0)).map V.int)
        (fun j σ H' => ∃ x5, σ = [some (.ref l), some (.int a), some (.int m), some (.ref d), some (.ref p), x5] ∧ Same H H' ∧ H' t = some (.tup ((Gsp.flat n (ks.getD i Gsp.kn0)).map V.int)) ∧
          ∃ kvs, H' d = some (.dK kvs) ∧ Keys kvs (Gsp.usedOf n (ks.take i) ++ (Gsp.flat n (ks.getD i Gsp.kn0)).take j))
        ⟨_, rfl, e.trans e1, ht, kvs, e1 _ _ hdk, by rw [List.take_zero, List.append_nil]; exact hkeys⟩ ?_ ?_ ?_⟩
      · rintro j σ H2 _ ⟨x5, rfl, e2, ht2, _⟩
        exact SqT.of ht2
      · rintro j y σ H2 hy ⟨x5, rfl, e2, ht2, kvs2, hd2, hk2⟩
        rw [List.getElem?_map] at hy
        obtain ⟨z, hz, rfl⟩ : ∃ z, (Gsp.flat n (ks.getD i Gsp.kn0))[j]? = some z ∧ V.int z = y := by
          cases hq : (Gsp.flat n (ks.getD i Gsp.kn0))[j]? with
          | none => rw [hq] at hy; cases hy
          | some z => rw [hq] at hy; exact ⟨z, rfl, Option.some.inj hy⟩
        have hlen : kvs2.length < sizeLine := by
          have := hk2.1
          rw [List.length_append, List.length_take] at this
          exact small1000 (by omega)
        refine ⟨_, rfl, _, rfl, d, _, rfl, DPut.k (k := Sum.inl z) hd2 hlen, _, rfl, same_put e2 hd, by rw [upd_ne ndt]; exact ht2, _, upd_same, ?_⟩
        have et : (Gsp.flat n (ks.getD i Gsp.kn0)).take (j + 1) = (Gsp.flat n (ks.getD i Gsp.kn0)).take j ++ [z] := by
          rw [List.take_succ, hz]
          rfl
        rw [et, ← List.append_assoc]
        exact hk2.put z _
      · rintro σ H2 ⟨x5, rfl, e2, ht2, kvs2, hd2, hk2⟩
        refine ⟨_, _, rfl, e2, kvs2, hd2, ?_⟩
        rw [eu]
        rw [List.length_map, List.take_length] at hk2
        exact hk2
    · rintro σ H' ⟨x4, x5, rfl, e, kvs, hdk, hkeys⟩
      rw [hK.1, List.take_length] at hkeys
      refine ⟨_, rfl, _, _, rfl, rfl, ?_⟩
      refine while_by (fun σ H2 => H2 = H' ∧ ∃ c : Nat, σ = [some (.ref l), some (.int a), some (.int m), some (.ref d), x4, some (.int (1 + (a : Int) + (m : Int) * (c : Int)))] ∧
          ∀ i : Nat, i < c → 1 + (a : Int) + (m : Int) * (i : Int) ∈ Gsp.usedOf n ks)
        (fun σ _ => match σ with
          | [_, _, _, _, _, some (.int z)] => ((1 + (a : Int) + (m : Int) * ((Gsp.usedOf n ks).length + 1 : Nat)) - z).toNat
          | _ => 0) ⟨rfl, 0, by simp, fun i hi => absurd hi (Nat.not_lt_zero i)⟩ ?_ ?_
      · rintro σ H2 ⟨rfl, c, rfl, hall⟩
        refine ⟨_, rfl, _, rfl, d, _, rfl, DGet.k (k := Sum.inl _) hdk, ?_⟩
        have hc := Gsp.pigeon (by omega) hall
        by_cases hin : 1 + (a : Int) + (m : Int) * (c : Int) ∈ Gsp.usedOf n ks
        · refine ⟨true, congrArg V.bl ((hkeys.2 _).trans (decide_eq_true hin)), iteT ?_⟩
          have hall2 : ∀ i : Nat, i < c + 1 → 1 + (a : Int) + (m : Int) * (i : Int) ∈ Gsp.usedOf n ks := fun i hi => by
            rcases Nat.lt_or_ge i c with z | z
            · exact hall i z
            · have : i = c := by omega
              subst this
              exact hin
          have hc2 := Gsp.pigeon (by omega) hall2
          have e1 : (m : Int) * ((c + 1 : Nat) : Int) = (m : Int) * (c : Int) + (m : Int) := by
            rw [Int.natCast_add, Int.mul_add]
            simp
          have e2 : (m : Int) * ((c + 1 : Nat) : Int) ≤ (m : Int) * (((Gsp.usedOf n ks).length + 1 : Nat) : Int) := Int.mul_le_mul_of_nonneg_left (by omega) (by omega)
          refine ⟨_, rfl, _, rfl, _, _, rfl, rfl, ⟨rfl, c + 1, ?_, hall2⟩, ?_⟩
          · rw [e1, ← Int.add_assoc]
            rfl
          · show ((1 + (a : Int) + (m : Int) * (((Gsp.usedOf n ks).length + 1 : Nat) : Int)) - (1 + (a : Int) + (m : Int) * (c : Int) + (m : Int))).toNat <
              ((1 + (a : Int) + (m : Int) * (((Gsp.usedOf n ks).length + 1 : Nat) : Int)) - (1 + (a : Int) + (m : Int) * (c : Int))).toNat
            omega
        · refine ⟨false, congrArg V.bl ((hkeys.2 _).trans (decide_eq_false hin)), iteF ⟨_, rfl, ?_⟩⟩
          rw [Gsp.fresh_eq (by omega) hall hin]
          exact goal _ e
      · rintro σ H2 Q1 Q2 hq ⟨v1, e1, v2, e2, d2, o2, e3, g, c, e4, q⟩
        exact ⟨v1, e1, v2, e2, d2, o2, e3, g, c, e4, hq _ _ q⟩
end
end Nws
namespace Nws
open PySem L2
abbrev sMet : Stmt := top 9
def castL (xs : List Nat) : List Int := xs.map fun p : Nat => (p : Int)
theorem mem_castL {xs : List Nat} {p : Nat} : (p : Int) ∈ castL xs ↔ p ∈ xs := by
  unfold castL
  rw [List.mem_map]
  constructor
  · rintro ⟨y, hy, e⟩
    have : y = p := by omega
    rw [← this]
    exact hy
  · exact fun h => ⟨p, h, rfl⟩
theorem inV_cast (p : Nat) (xs : List Nat) : inV (.int (0 + (p : Int))) ((castL xs).map V.int) = decide (p ∈ xs) := by
  rw [inV_ints, Int.zero_add, Bool.eq_iff_iff, decide_eq_true_iff, decide_eq_true_iff]
  exact mem_castL
theorem r1_succ (i : Nat) (f : Nat → Int) : (Gsp.r1 (i + 1) f).map V.int = (Gsp.r1 i f).map V.int ++ [V.int (f i)] := by
  simp [Gsp.r1, List.range_succ]
def spMet (CK CA : Addr) : Sp := fun vs H Q _ => ∃ (l : Addr) (ws : List V) (n : Nat) (ks : List Gsp.Kn) (a : Nat) (lets : List (List Nat)) (q : Addr), vs = [.ref l, .int a, .ref q] ∧ H l = some (.lst ws) ∧ KsAt CK H n ks ws ∧
  1 ≤ ks.length ∧ ks.length ≤ 4 ∧ AlAt CA H n lets q ∧ Gsp.Alph n lets ∧ a < lets.length ∧
  ∀ H' p, Same H H' → H p = none → KnAt CK H' n (Gsp.met n (lets.getD a []) (Gsp.fresh (Gsp.usedOf n ks) a lets.length) ks) p → Q (.ref p) H'
theorem scMet : FnScope ["known", "letter", "alphabet", "there", "label", "place", "holders", "first", "second", "third"] ["known", "letter", "alphabet"] (defScope sMet) :=
  ⟨rfl, rfl, rfl, by decide +kernel, rfl, by decide +kernel, by decide +kernel⟩
theorem hlds_succ (i : Nat) (f : Nat → Nat) : ((List.range (i + 1)).map fun r => V.int (f r)) = ((List.range i).map fun r => V.int (f r)) ++ [V.int (f i)] := by
  simp [List.range_succ]
section
variable {P : Program} {w : World} {K : PySem.W.Frag} {mg : Str → Option Value} {base : Heap} {CK CN CA : Addr}
theorem ok_met {f fF fH fI : Addr} {fd fdF fdH fdI : FuncData} (F : Fun K "met" "met" sMet f fd) (T : Txt K mg CK CN CA) (cF : Cal P w K mg base 2 "fresh_label" ["known", "letter", "letters"] (spFresh CK) fF fdF)
    (cH : Cal P w K mg base 2 "holder" ["known", "place"] (spHolder CK) fH fdH) (cI : Ccal P w K mg base 1 CK ["self", "first", "second", "third"] (spKinit CK) fI fdI) :
    FnOk P w K mg base CX0 3 f fd ["known", "letter", "alphabet"] (spMet CK CA) := by
  refine F.ok scMet (fun vs H Q E h => ?_) (fun cdv A outer s H vs Q E hr h => ?_)
  · obtain ⟨l, ws, n, ks, a, lets, q, rfl, _⟩ := h
    rfl
  · obtain ⟨l, ws, n, ks, a, lets, q, rfl, hl, hK, hk1, hk4, hA, AL, hal, goal⟩ := h
    have nd := scMet.nd
    refine ⟨_, pss_cons (ps_set (i := 3) nd rfl (.inl rfl) (pe_ix ix_tup (pe_fld (pv 2) rfl) (pv 1) (fun _ _ => rfl))) <|
      pss_cons (ps_set (i := 4) nd rfl (.inl rfl) (pe_call cF.ok hr rfl cF.mg cF.kp cF.b .nil pass0 (pa_cons (pv 0) (pa_cons (pv 1) (pa_cons (pe_callB cr_lenS (by rfl) T.len PySem.boot_len (pa_cons (pe_fld (pv 2) rfl) pa_nil)) pa_nil))))) <|
      pss_cons (ps_setLc (i := 6) (own := [("place", 5)]) (g := gName 5) (tt := tYes) (by rfl) nd rfl rfl (sw_true rfl rfl rfl (by decide +kernel)) (pi_range1 rfl T.range (pa_cons (pe_fld (pv 2) rfl) pa_nil))
        (blkOk_by (N := ["known", "letter", "alphabet", "there", "label", "place", "holders", "first", "second", "third"]) (sc := defScope sMet) (by decide +kernel)) (fun _ _ _ _ _ => pg_name (i := 5) nd rfl (Or.inl rfl)) (fun _ _ _ _ _ => pts_nil)
        (fun _ _ _ _ _ => pe_call cH.ok hr rfl cH.mg cH.kp cH.b .nil pass0 (pa_cons (pv 0) (pa_cons (pv 5) pa_nil)))) <|
      pss_cons (ps_set (i := 7) nd rfl (.inl rfl) (pe_lst pa_nil)) <|
      pss_cons (ps_for PassesOwn.never rfl (pi_range1 rfl T.range (pa_cons (pe_fld (pv 2) rfl) pa_nil)) (pg_name (i := 5) nd rfl (.inl rfl))
        (pss_one (ps_if (pt_cmpR op_in_seq (pv 5) (pv 3) rfl)
          (pss_one (ps_expr (pe_bm PySem.F.plainAttrs_list PySem.F.slot_list_append PySem.F.type_list_append mt_append (pv 7) (pa_cons (pv 4) pa_nil))))
          (pss_one (ps_expr (pe_bm PySem.F.plainAttrs_list PySem.F.slot_list_append PySem.F.type_list_append mt_append (pv 7) (pa_cons
            (pe_ix ix_tup (pe_fld (pe_ix ix_list (pv 0) (pe_ix ix_list (pv 6) (pv 5) (fun _ _ => rfl)) (fun _ _ => rfl)) rfl) (pv 5) (fun _ _ => rfl)) pa_nil))))))) <|
      pss_cons (ps_set (i := 8) nd rfl (.inl rfl) (pe_lst pa_nil)) <|
      pss_cons (ps_for PassesOwn.never rfl (pi_range1 rfl T.range (pa_cons (pe_fld (pv 2) rfl) pa_nil)) (pg_name (i := 5) nd rfl (.inl rfl))
        (pss_one (ps_if (pt_cmpR op_in_seq (pv 5) (pv 3) rfl)
          (pss_one (ps_expr (pe_bm PySem.F.plainAttrs_list PySem.F.slot_list_append PySem.F.type_list_append mt_append (pv 8) (pa_cons (pe_callTy cr_tupOf (by rfl) T.tuple bt_tuple (pa_cons (pv 7) pa_nil)) pa_nil))))
          (pss_one (ps_expr (pe_bm PySem.F.plainAttrs_list PySem.F.slot_list_append PySem.F.type_list_append mt_append (pv 8) (pa_cons
            (pe_ix ix_tup (pe_fld (pe_ix ix_list (pv 0) (pe_ix ix_list (pv 6) (pv 5) (fun _ _ => rfl)) (fun _ _ => rfl)) rfl) (pv 5) (fun _ _ => rfl)) pa_nil))))))) <|
      pss_cons (ps_set (i := 9) nd rfl (.inl rfl) (pe_lst pa_nil)) <|
      pss_cons (ps_for PassesOwn.never rfl (pi_range1 rfl T.range (pa_cons (pe_fld (pv 2) rfl) pa_nil)) (pg_name (i := 5) nd rfl (.inl rfl))
        (pss_one (ps_if (pt_cmpR op_in_seq (pv 5) (pv 3) rfl)
          (pss_one (ps_expr (pe_bm PySem.F.plainAttrs_list PySem.F.slot_list_append PySem.F.type_list_append mt_append (pv 9) (pa_cons (pe_callTy cr_tupOf (by rfl) T.tuple bt_tuple (pa_cons (pv 8) pa_nil)) pa_nil))))
          (pss_one (ps_expr (pe_bm PySem.F.plainAttrs_list PySem.F.slot_list_append PySem.F.type_list_append mt_append (pv 9) (pa_cons
            (pe_ix ix_tup (pe_fld (pe_ix ix_list (pv 0) (pe_ix ix_list (pv 6) (pv 5) (fun _ _ => rfl)) (fun _ _ => rfl)) rfl) (pv 5) (fun _ _ => rfl)) pa_nil))))))) <|
      pss_one (ps_ret (pe_make cI.made cI.ok hr rfl T.mgK cI.b .nil pass0 (pa_cons (pe_callTy cr_tupOf (by rfl) T.tuple bt_tuple (pa_cons (pv 7) pa_nil))
        (pa_cons (pe_callTy cr_tupOf (by rfl) T.tuple bt_tuple (pa_cons (pv 8) pa_nil)) (pa_cons (pe_callTy cr_tupOf (by rfl) T.tuple bt_tuple (pa_cons (pv 9) pa_nil)) pa_nil))))), ?_⟩
    obtain ⟨dq, tv, hq, lt, lv, rfl, hlt, llen, litems⟩ := hA
    have h4 := AL.n4
    -- there
    obtain ⟨tx, htx⟩ : ∃ x, lv[a]? = some x := ⟨_, List.getElem?_eq_getElem (by omega)⟩
    obtain ⟨tp, rfl, htp⟩ := litems a tx htx
    refine ⟨_, rfl, q, CA, dq, _, _, rfl, hq, T.clA, T.al, af_l _ _, _, rfl, lt, _, _, _, rfl, rfl, SqT.of hlt, atI_nat htx, ?_⟩
    -- label
    refine ⟨_, rfl, _, rfl, _, rfl, q, CA, dq, _, _, rfl, hq, T.clA, T.al, af_l _ _, lt, _, rfl, .inr (SqT.of hlt), ?_⟩
    rw [llen]
    refine ⟨l, ws, n, ks, a, lets.length, rfl, hl, hK, hk4, h4, AL.m1, fun H1 e1 => ?_⟩
    -- holders
    refine ⟨_, rfl, q, CA, dq, _, _, rfl, e1 _ _ hq, T.clA, T.ap, af_p _ _, _, rfl, by omega, by omega, fun D hD => ?_⟩
    refine lc_range (lo := 0) (n := n) (fun i H' => Same H1 H' ∧ H' D = some (.lst ((List.range i).map fun r => V.int (Gsp.holder n ks r)))) ⟨same_new (Same.refl _) hD, upd_same⟩ ?_ ?_
    · rintro i H' hi ⟨e, hDl⟩
      refine ⟨rfl, _, rfl, _, rfl, l, ws, n, ks, i, by rw [Int.zero_add]; rfl, e _ _ (e1 _ _ hl), hK.same (e1.trans e), hk1, hk4, hi, h4, _, hDl, ?_, same_put e hD, ?_⟩
      · rw [List.length_map, List.length_range]
        exact small1000 (by omega)
      · rw [upd_same, hlds_succ]
    rintro H2 ⟨e2, hDl⟩
    have eH2 : Same H H2 := e1.trans e2
    generalize hlab : Gsp.fresh (Gsp.usedOf n ks) a lets.length = label at goal ⊢
    generalize hth : lets.getD a [] = there at goal htp ⊢
    generalize hkk : Gsp.met n there label ks = k at goal ⊢
    have m1 : ∀ r, k.f1 r = if r ∈ there then label else (ks.getD (Gsp.holder n ks r) Gsp.kn0).f1 r := fun r => by rw [← hkk]; rfl
    have m2 : ∀ r, k.f2 r = if r ∈ there then k.f1 else (ks.getD (Gsp.holder n ks r) Gsp.kn0).f2 r := fun r => by rw [← hkk]; rfl
    have m3 : ∀ r, k.f3 r = if r ∈ there then k.f2 else (ks.getD (Gsp.holder n ks r) Gsp.kn0).f3 r := fun r => by rw [← hkk]; rfl
    have hhold : ∀ r, Gsp.holder n ks r < ks.length := fun r => by
      have := hold_le n ks r (ks.length - 1)
      unfold Gsp.holder
      omega
    have at_h : ∀ i, i < n → atI ((List.range n).map fun r => V.int (Gsp.holder n ks r)) (0 + (i : Int)) = some (V.int (Gsp.holder n ks i)) := fun i hi => by
      rw [Int.zero_add]
      exact atI_nat (by simp [List.getElem?_map, List.getElem?_range hi])
    have htp2 : ∀ H', Same H2 H' → H' tp = some (.tup ((castL there).map V.int)) := fun H' e => e _ _ (eH2 _ _ htp)
    -- first
    refine ⟨Nat.zero_le _, fun l7 hl7 => ?_⟩
    refine ⟨_, rfl, q, CA, dq, _, _, rfl, same_new eH2 hl7 _ _ hq, T.clA, T.ap, af_p _ _, _, rfl, by omega, by omega, for_range (lo := 0) (n := n)
      (fun i σ H' => ∃ x5, σ = [some (.ref l), some (.int a), some (.ref q), some (.ref tp), some (.int label), x5, some (.ref D), some (.ref l7), none, none] ∧ Same H2 H' ∧
        H' l7 = some (.lst ((Gsp.r1 i k.f1).map V.int))) ⟨_, rfl, same_new (Same.refl _) hl7, upd_same⟩ ?_ ?_⟩
    · rintro i σ H' hi ⟨x5, rfl, e, h7⟩
      have hsz : ((Gsp.r1 i k.f1).map V.int).length < sizeLine := by
        rw [List.length_map, Gsp.r1_length]
        exact small1000 (by omega)
      refine ⟨_, rfl, _, rfl, tp, _, rfl, .inr (SqT.of (htp2 _ e)), rfl, flat_ints _, ?_⟩
      by_cases c : i ∈ there
      · refine ⟨true, congrArg V.bl ((inV_cast _ _).trans (decide_eq_true c)), iteT ⟨_, rfl, .inl ⟨rfl, _, SqL.of h7⟩, _, rfl, l7, _, _, rfl, rfl, h7, hsz, _, rfl, same_put e hl7, ?_⟩⟩
        rw [upd_same, r1_succ, m1, if_pos c]
      · obtain ⟨p, e3, dx, b1, b2, b3, hp, ⟨c1, rfl, t1⟩, _, _⟩ := hK.get (hhold i)
        have hp' := e _ _ (eH2 _ _ hp)
        refine ⟨false, congrArg V.bl ((inV_cast _ _).trans (decide_eq_false c)), iteF ⟨_, rfl, .inl ⟨rfl, _, SqL.of h7⟩, _, rfl, _, rfl, _, rfl, D, _, _, _, rfl, rfl, SqL.of (e _ _ hDl), at_h i hi,
          l, _, _, _, rfl, rfl, SqL.of (e _ _ (eH2 _ _ hl)), atI_nat e3, p, CK, dx, _, _, rfl, hp', T.clK, T.k1, kf_1 _ _ _, _, rfl, c1, _, _, _, rfl, rfl, SqT.of (e _ _ (eH2 _ _ t1)),
          (by rw [Int.zero_add]; exact atI_nat (r1_at hi)), l7, _, _, rfl, rfl, h7, hsz, _, rfl, same_put e hl7, ?_⟩⟩
        rw [upd_same, r1_succ, m1, if_neg c]
    rintro σ H3 ⟨x5, rfl, e3, h7⟩
    have eH3 : Same H H3 := eH2.trans e3
    -- second
    refine ⟨Nat.zero_le _, fun l8 hl8 => ?_⟩
    refine ⟨_, rfl, q, CA, dq, _, _, rfl, same_new eH3 hl8 _ _ hq, T.clA, T.ap, af_p _ _, _, rfl, by omega, by omega, for_range (lo := 0) (n := n)
      (fun i σ H' => ∃ x5, σ = [some (.ref l), some (.int a), some (.ref q), some (.ref tp), some (.int label), x5, some (.ref D), some (.ref l7), some (.ref l8), none] ∧ Same H3 H' ∧
        ∃ acc, H' l8 = some (.lst acc) ∧ acc.length = i ∧ ∀ j x, acc[j]? = some x → R1 H' n (k.f2 j) x) ⟨_, rfl, same_new (Same.refl _) hl8, [], upd_same, rfl, fun j x z => by simp at z⟩ ?_ ?_⟩
    · rintro i σ H' hi ⟨x5, rfl, e, acc, h8, hal8, hit⟩
      have hsz : acc.length < sizeLine := by
        rw [hal8]
        exact small1000 (by omega)
      refine ⟨_, rfl, _, rfl, tp, _, rfl, .inr (SqT.of (htp2 _ (e3.trans e))), rfl, flat_ints _, ?_⟩
      by_cases c : i ∈ there
      · refine ⟨true, congrArg V.bl ((inV_cast _ _).trans (decide_eq_true c)), iteT ⟨_, rfl, .inl ⟨rfl, _, SqL.of h8⟩, _, rfl, l7, _, rfl, .inl ⟨SqL.of (e _ _ h7), fun p hp => ?_⟩⟩⟩
        have h8' : upd H' p (.tup ((Gsp.r1 n k.f1).map V.int)) l8 = some (.lst acc) := same_new (Same.refl _) hp _ _ h8
        have kt : KT H' (upd (upd H' p (.tup ((Gsp.r1 n k.f1).map V.int))) l8 (.lst (acc ++ [.ref p]))) := (KT.new (.of (Same.refl _)) hp).put fun vs z => by rw [h8'] at z; cases z
        refine ⟨l8, _, _, rfl, rfl, h8', hsz, _, rfl, same_put (same_new e hp) hl8, _, upd_same, by rw [List.length_append, hal8]; rfl, items_push hal8 (fun j x hj => (hit j x hj).kt kt) ?_⟩
        rw [m2, if_pos c]
        exact ⟨p, rfl, by rw [upd_ne (ne_of (upd_same (H := H')) h8' (by intro z; cases z)), upd_same]⟩
      · obtain ⟨p, e4, dx, b1, b2, b3, hp, _, ⟨c2, v2, rfl, t2, l2, s2⟩, _⟩ := hK.get (hhold i)
        have hp' := e _ _ (eH3 _ _ hp)
        obtain ⟨y, hy⟩ : ∃ y, v2[i]? = some y := ⟨_, List.getElem?_eq_getElem (by omega)⟩
        have kt : KT H' (upd H' l8 (.lst (acc ++ [y]))) := (KT.of (Same.refl _)).put fun vs z => by rw [h8] at z; cases z
        refine ⟨false, congrArg V.bl ((inV_cast _ _).trans (decide_eq_false c)), iteF ⟨_, rfl, .inl ⟨rfl, _, SqL.of h8⟩, _, rfl, _, rfl, _, rfl, D, _, _, _, rfl, rfl, SqL.of (e _ _ (e3 _ _ hDl)), at_h i hi,
          l, _, _, _, rfl, rfl, SqL.of (e _ _ (eH3 _ _ hl)), atI_nat e4, p, CK, dx, _, _, rfl, hp', T.clK, T.k2, kf_2 _ _ _, _, rfl, c2, _, _, _, rfl, rfl, SqT.of (e _ _ (eH3 _ _ t2)),
          (by rw [Int.zero_add]; exact atI_nat hy), l8, _, _, rfl, rfl, h8, hsz, _, rfl, same_put e hl8, _, upd_same, by rw [List.length_append, hal8]; rfl, items_push hal8 (fun j x hj => (hit j x hj).kt kt) ?_⟩⟩
        rw [m2, if_neg c]
        exact ((s2 i y hy).kt (.of (eH3.trans e))).kt kt
    rintro σ H4 ⟨x5, rfl, e4, acc8, h8, hal8, hit8⟩
    have eH4 : Same H H4 := eH3.trans e4
    -- third
    refine ⟨Nat.zero_le _, fun l9 hl9 => ?_⟩
    refine ⟨_, rfl, q, CA, dq, _, _, rfl, same_new eH4 hl9 _ _ hq, T.clA, T.ap, af_p _ _, _, rfl, by omega, by omega, for_range (lo := 0) (n := n)
      (fun i σ H' => ∃ x5, σ = [some (.ref l), some (.int a), some (.ref q), some (.ref tp), some (.int label), x5, some (.ref D), some (.ref l7), some (.ref l8), some (.ref l9)] ∧ Same H4 H' ∧
        ∃ acc, H' l9 = some (.lst acc) ∧ acc.length = i ∧ ∀ j x, acc[j]? = some x → R2 H' n (k.f3 j) x) ⟨_, rfl, same_new (Same.refl _) hl9, [], upd_same, rfl, fun j x z => by simp at z⟩ ?_ ?_⟩
    · rintro i σ H' hi ⟨x5, rfl, e, acc, h9, hal9, hit⟩
      have hsz : acc.length < sizeLine := by
        rw [hal9]
        exact small1000 (by omega)
      refine ⟨_, rfl, _, rfl, tp, _, rfl, .inr (SqT.of (htp2 _ ((e3.trans e4).trans e))), rfl, flat_ints _, ?_⟩
      by_cases c : i ∈ there
      · refine ⟨true, congrArg V.bl ((inV_cast _ _).trans (decide_eq_true c)), iteT ⟨_, rfl, .inl ⟨rfl, _, SqL.of h9⟩, _, rfl, l8, _, rfl, .inl ⟨SqL.of (e _ _ h8), fun p hp => ?_⟩⟩⟩
        have h9' : upd H' p (.tup acc8) l9 = some (.lst acc) := same_new (Same.refl _) hp _ _ h9
        have kt : KT H' (upd (upd H' p (.tup acc8)) l9 (.lst (acc ++ [.ref p]))) := (KT.new (.of (Same.refl _)) hp).put fun vs z => by rw [h9'] at z; cases z
        refine ⟨l9, _, _, rfl, rfl, h9', hsz, _, rfl, same_put (same_new e hp) hl9, _, upd_same, by rw [List.length_append, hal9]; rfl, items_push hal9 (fun j x hj => (hit j x hj).kt kt) ?_⟩
        rw [m3, if_pos c]
        exact ⟨p, acc8, rfl, by rw [upd_ne (ne_of (upd_same (H := H')) h9' (by intro z; cases z)), upd_same], hal8, fun j x hj => ((hit8 j x hj).kt (.of e)).kt kt⟩
      · obtain ⟨p, e5, dx, b1, b2, b3, hp, _, _, c3, v3, rfl, t3, l3, s3⟩ := hK.get (hhold i)
        have hp' := e _ _ (eH4 _ _ hp)
        obtain ⟨y, hy⟩ : ∃ y, v3[i]? = some y := ⟨_, List.getElem?_eq_getElem (by omega)⟩
        have kt : KT H' (upd H' l9 (.lst (acc ++ [y]))) := (KT.of (Same.refl _)).put fun vs z => by rw [h9] at z; cases z
        refine ⟨false, congrArg V.bl ((inV_cast _ _).trans (decide_eq_false c)), iteF ⟨_, rfl, .inl ⟨rfl, _, SqL.of h9⟩, _, rfl, _, rfl, _, rfl, D, _, _, _, rfl, rfl, SqL.of (e _ _ (e4 _ _ (e3 _ _ hDl))), at_h i hi,
          l, _, _, _, rfl, rfl, SqL.of (e _ _ (eH4 _ _ hl)), atI_nat e5, p, CK, dx, _, _, rfl, hp', T.clK, T.k3, kf_3 _ _ _, _, rfl, c3, _, _, _, rfl, rfl, SqT.of (e _ _ (eH4 _ _ t3)),
          (by rw [Int.zero_add]; exact atI_nat hy), l9, _, _, rfl, rfl, h9, hsz, _, rfl, same_put e hl9, _, upd_same, by rw [List.length_append, hal9]; rfl, items_push hal9 (fun j x hj => (hit j x hj).kt kt) ?_⟩⟩
        rw [m3, if_neg c]
        exact ((s3 i y hy).kt (.of (eH4.trans e))).kt kt
    rintro σ H5 ⟨x5, rfl, e5, acc9, h9, hal9, hit9⟩
    have eH5 : Same H H5 := eH4.trans e5
    -- the end
    refine ⟨_, rfl, l7, _, rfl, .inl ⟨SqL.of (e5 _ _ (e4 _ _ h7)), fun p1 hp1 => ?_⟩⟩
    have f1 : Same H5 (upd H5 p1 (.tup ((Gsp.r1 n k.f1).map V.int))) := same_new (Same.refl _) hp1
    refine ⟨_, rfl, l8, _, rfl, .inl ⟨SqL.of (f1 _ _ (e5 _ _ h8)), fun p2 hp2 => ?_⟩⟩
    have f2 : Same _ (upd (upd H5 p1 (.tup ((Gsp.r1 n k.f1).map V.int))) p2 (.tup acc8)) := same_new (Same.refl _) hp2
    refine ⟨_, rfl, l9, _, rfl, .inl ⟨SqL.of (f2 _ _ (f1 _ _ h9)), fun p3 hp3 => ?_⟩⟩
    have f3 : Same _ (upd (upd (upd H5 p1 (.tup ((Gsp.r1 n k.f1).map V.int))) p2 (.tup acc8)) p3 (.tup acc9)) := same_new (Same.refl _) hp3
    intro x dx hx hdx hne
    refine ⟨x, dx, _, _, _, rfl, upd_same, rfl, ?_⟩
    rw [upd_upd]
    have f4 : Same (upd (upd (upd H5 p1 (.tup ((Gsp.r1 n k.f1).map V.int))) p2 (.tup acc8)) p3 (.tup acc9))
        (upd (upd (upd (upd (upd H5 p1 (.tup ((Gsp.r1 n k.f1).map V.int))) p2 (.tup acc8)) p3 (.tup acc9)) dx (.own x)) x (.ins CK dx (kf (.ref p1) (.ref p2) (.ref p3)))) := fun b o z => by
      rw [upd_ne (ne_of_none z hx), upd_ne (ne_of_none z hdx)]
      exact z
    refine goal _ x ((((eH5.trans f1).trans f2).trans f3).trans f4) ((((eH5.trans f1).trans f2).trans f3).free hx) ⟨dx, _, _, _, upd_same, ?_, ?_, ?_⟩
    · exact ⟨p1, rfl, f4 _ _ (f3 _ _ (f2 _ _ upd_same))⟩
    · exact ⟨p2, acc8, rfl, f4 _ _ (f3 _ _ upd_same), hal8, fun j x hj => (hit8 j x hj).kt (.of ((((e5.trans f1).trans f2).trans f3).trans f4))⟩
    · exact ⟨p3, acc9, rfl, f4 _ _ upd_same, hal9, fun j x hj => (hit9 j x hj).kt (.of (((f1.trans f2).trans f3).trans f4))⟩
end
end Nws
namespace Nws
open PySem L2
abbrev sNinit : Stmt := inClass (top 11) 0
abbrev sNstart : Stmt := inClass (top 11) 1
abbrev sNmeet : Stmt := inClass (top 11) 2
abbrev sNcmp : Stmt := inClass (top 11) 3
/-- e.f with its K told -/
theorem pe_fldK {X : Cx} {K : PySem.W.Frag} (hK : X.K = K) {e : Expr} {ta : TE} {f : Str} {pos : Pos} (he : PE X e ta) (hb : attributeBase e f X.env (eval e X.env) = eval e X.env) : PE X (.Attribute e f pos) (tFld K ta f) := by
  rw [← hK]
  exact pe_fld he hb
theorem flat_start (n : Nat) : Gsp.flat n (Gsp.dec n (Gsp.start n)) = Gsp.start n := by
  have hz : ∀ i, (Gsp.start n).getD i 0 = 0 := fun i => by
    simp only [Gsp.start, List.getD, List.getElem?_replicate]
    split <;> rfl
  unfold Gsp.start
  rw [List.eq_replicate_iff]
  refine ⟨Gsp.flat_length _ _, fun x hx => ?_⟩
  rcases Gsp.mem_flat.mp hx with ⟨i, _, rfl⟩ | ⟨i, j, _, _, rfl⟩ | ⟨i, j, l, _, _, _, rfl⟩ <;> exact hz _
/-- a tuple whose items are all tuples of the ints xs -/
def Rep (H : Hp) (m : Nat) (xs : List Int) (v : V) : Prop := ∃ t vs, v = .ref t ∧ H t = some (.tup vs) ∧ vs.length = m ∧ ∀ (i : Nat) x, vs[i]? = some x → TI H x xs
/-- tuple * m of a tuple with one item -/
theorem rep_one {K : PySem.W.Frag} {H : Hp} {l t : Addr} {m : Nat} {xs : List Int} {Q : VK} (hl : H l = some (.tup [.ref t])) (ht : H t = some (.tup (xs.map V.int))) (h1 : 1 ≤ m) (h4 : m ≤ 1000)
    (q : ∀ v H', Same H H' → Rep H' m xs v → Q v H') : rRepA K (.ref l) (.int (m : Int)) H Q := by
  refine ⟨l, m, _, rfl, rfl, SqT.of hl, by simp, h1, h4, by simp, fun e => ?_, fun _ p hp => ?_⟩
  · subst e
    refine q _ H (Same.refl H) ⟨l, _, rfl, hl, rfl, fun i x hx => ?_⟩
    have : i = 0 := by
      have := (List.getElem?_eq_some_iff.mp hx).1
      simpa using this
    subst this
    cases hx
    exact ⟨t, rfl, ht⟩
  · refine q _ _ (same_new (Same.refl H) hp) ⟨p, _, rfl, upd_same, ?_, fun i x hx => ?_⟩
    · simp
    · have hm : x ∈ (List.replicate m [V.ref t]).flatten := List.mem_of_getElem? hx
      rw [List.mem_flatten] at hm
      obtain ⟨l', hl', hx'⟩ := hm
      rw [List.eq_of_mem_replicate hl'] at hx'
      rw [List.mem_singleton] at hx'
      exact ⟨t, hx', same_new (Same.refl H) hp _ _ ht⟩
def spNinit (CN : Addr) : Sp := fun vs H Q _ => ∃ (p dx : Addr) (a : V), vs = [.ref p, a] ∧ H p = some (.ins CN dx []) ∧ Q .non (upd H p (.ins CN dx (nf a)))
theorem scNinit : FnScope ["self", "alphabet"] ["self", "alphabet"] (defScope sNinit) := ⟨rfl, rfl, rfl, by decide +kernel, rfl, by decide +kernel, by decide +kernel⟩
def spNstart (CN CA : Addr) : Sp := fun vs H Q _ => ∃ (o : Addr) (n : Nat) (lets : List (List Nat)), vs = [.ref o] ∧ NwAt CN CA H n lets o ∧ 1 ≤ n ∧ n ≤ 4 ∧ ∀ H' v, Same H H' → Rep H' n (Gsp.start n) v → Q v H'
theorem scNstart : FnScope ["self"] ["self"] (defScope sNstart) := ⟨rfl, rfl, rfl, by decide +kernel, rfl, by decide +kernel, by decide +kernel⟩
def spNmeet (CN CA : Addr) : Sp := fun vs H Q _ => ∃ (o t : Addr) (ws : List V) (n a : Nat) (lets : List (List Nat)) (xss : List (List Int)), vs = [.ref o, .int a, .ref t] ∧ NwAt CN CA H n lets o ∧ H t = some (.tup ws) ∧
  ws.length = xss.length ∧ (∀ (i : Nat) x, ws[i]? = some x → TI H x (xss.getD i [])) ∧ (∀ i, i < xss.length → (xss.getD i []).length = n + n * n + n * (n * n)) ∧ 1 ≤ xss.length ∧ xss.length ≤ 4 ∧ Gsp.Alph n lets ∧ a < lets.length ∧
  ∀ H' v, Same H H' → Rep H' xss.length (Gsp.meetM n lets.length lets a xss) v → Q v H'
theorem scNmeet : FnScope ["self", "letter", "states", "known", "state"] ["self", "letter", "states"] (defScope sNmeet) := ⟨rfl, rfl, rfl, by decide +kernel, rfl, by decide +kernel, by decide +kernel⟩
def spNcmp (CN CA : Addr) : Sp := fun vs H Q _ => ∃ (o s t : Addr) (n r : Nat) (lets : List (List Nat)) (xs ys : List Int), vs = [.ref o, .ref s, .ref t, .int r] ∧ NwAt CN CA H n lets o ∧ H s = some (.tup (xs.map V.int)) ∧ H t = some (.tup (ys.map V.int)) ∧
  xs.length = n + n * n + n * (n * n) ∧ ys.length = n + n * n + n * (n * n) ∧ 1 ≤ n ∧ n ≤ 4 ∧ r < n ∧ ∀ H', Same H H' → Q (.int (Gsp.cmp n (Gsp.dec n xs) (Gsp.dec n ys) r)) H'
theorem scNcmp : FnScope ["self", "first", "second", "place", "one", "two"] ["self", "first", "second", "place"] (defScope sNcmp) := ⟨rfl, rfl, rfl, by decide +kernel, rfl, by decide +kernel, by decide +kernel⟩
section
variable {P : Program} {w : World} {K : PySem.W.Frag} {mg : Str → Option Value} {base : Heap} {CK CN CA : Addr}
theorem ok_Ninit {f : Addr} {fd : FuncData} (F : Fun K "__init__" "News.__init__" sNinit f fd) (T : Txt K mg CK CN CA) : FnOk P w K mg base CX0 1 f fd ["self", "alphabet"] (spNinit CN) := by
  refine F.ok scNinit (fun vs H Q E h => ?_) (fun cdv A outer s H vs Q E hr h => ?_)
  · obtain ⟨p, dx, a, rfl, _⟩ := h
    rfl
  · obtain ⟨p, dx, a, rfl, hp, k⟩ := h
    refine ⟨_, pss_one (ps_fld (pv 0) (pv 1) rfl), ?_⟩
    exact ⟨_, rfl, _, rfl, p, CN, dx, [], rfl, hp, T.clN, T.na, (by show 0 < 1000; decide), k⟩
theorem ok_Nstart {f fO fL : Addr} {fd fdO fdL : FuncData} (F : Fun K "start" "News.start" sNstart f fd) (T : Txt K mg CK CN CA) (cO : Cal P w K mg base 4 "first_known" ["places"] (spFirst CK) fO fdO)
    (cL : Mcal P w K mg base 1 CK "flat" ["self"] (spKflat CK) fL fdL) : FnOk P w K mg base CX0 5 f fd ["self"] (spNstart CN CA) := by
  refine F.ok scNstart (fun vs H Q E h => ?_) (fun cdv A outer s H vs Q E hr h => ?_)
  · obtain ⟨o, n, lets, rfl, _⟩ := h
    rfl
  · obtain ⟨o, n, lets, rfl, hN, h1, h4, q⟩ := h
    refine ⟨_, pss_one (ps_ret (pe_op op_repA (pe_tup (pa_cons (pe_meth0 (pe_call cO.ok hr rfl cO.mg cO.kp cO.b .nil pass0 (pa_cons (pe_fld (pe_fld (pv 0) rfl) rfl) pa_nil)) T.clK cL.at_ cL.ok (hr.mono (by decide)) cL.b .nil pass0) pa_nil))
      (pe_fld (pe_fld (pv 0) rfl) rfl))), ?_⟩
    obtain ⟨dx, qa, ho, da, lv, ha, hlt⟩ := hN
    refine ⟨_, rfl, o, CN, dx, _, _, rfl, ho, T.clN, T.na, nf_a _, qa, CA, da, _, _, rfl, ha, T.clA, T.ap, af_p _ _, n, rfl, h1, h4, fun H1 p e1 _ hk => ?_⟩
    obtain ⟨dk, b1, b2, b3, hp, _⟩ := id hk
    refine ⟨p, dk, _, rfl, hp, kf_no _ _ _ (by decide +kernel) (by decide +kernel) (by decide +kernel), p, n, _, rfl, hk, h4, fun H2 t e2 _ ht => ?_⟩
    rw [flat_start] at ht
    refine ⟨by show 1 ≤ sizeLine; decide, fun t2 ht2 => ?_⟩
    have e3 : Same H (upd H2 t2 (.tup [.ref t])) := same_new (e1.trans e2) ht2
    refine ⟨_, rfl, o, CN, dx, _, _, rfl, e3 _ _ ho, T.clN, T.na, nf_a _, qa, CA, da, _, _, rfl, e3 _ _ ha, T.clA, T.ap, af_p _ _, rep_one (xs := Gsp.start n) upd_same (same_new (Same.refl _) ht2 _ _ ht) h1 (by omega) fun v H3 e4 hv => ?_⟩
    exact q H3 v (e3.trans e4) hv
theorem ok_Nmeet {f fO fM fL : Addr} {fd fdO fdM fdL : FuncData} (F : Fun K "meet" "News.meet" sNmeet f fd) (T : Txt K mg CK CN CA) (cO : Cal P w K mg base 3 "known_of" ["state", "places"] (spKof CK) fO fdO)
    (cM : Cal P w K mg base 3 "met" ["known", "letter", "alphabet"] (spMet CK CA) fM fdM) (cL : Mcal P w K mg base 1 CK "flat" ["self"] (spKflat CK) fL fdL) : FnOk P w K mg base CX0 4 f fd ["self", "letter", "states"] (spNmeet CN CA) := by
  refine F.ok scNmeet (fun vs H Q E h => ?_) (fun cdv A outer s H vs Q E hr h => ?_)
  · obtain ⟨o, t, ws, n, a, lets, xss, rfl, _⟩ := h
    rfl
  · obtain ⟨o, t, ws, n, a, lets, xss, rfl, hN, ht, hwl, hws, hxl, hx1, hx4, AL, hal, q⟩ := h
    have nd := scNmeet.nd
    refine ⟨_, pss_cons (ps_setLc (i := 3) (own := [("state", 4)]) (g := gName 4) (tt := tYes) (by rfl) nd rfl rfl (sw_true rfl rfl rfl (by decide +kernel)) (pi_tup (pv 2))
        (blkOk_by (N := ["self", "letter", "states", "known", "state"]) (sc := defScope sNmeet) (by decide +kernel)) (fun _ _ _ _ _ => pg_name (i := 4) nd rfl (Or.inl rfl)) (fun _ _ _ _ _ => pts_nil)
        (fun _ _ _ _ _ => pe_call cO.ok hr rfl cO.mg cO.kp cO.b .nil pass0 (pa_cons (pv 4) (pa_cons (pe_fldK (K := K) rfl (pe_fldK (K := K) rfl (pv 0) rfl) rfl) pa_nil)))) <|
      pss_one (ps_ret (pe_op op_repA (pe_tup (pa_cons (pe_meth0 (pe_call cM.ok hr rfl cM.mg cM.kp cM.b .nil pass0 (pa_cons (pv 3) (pa_cons (pv 1) (pa_cons (pe_fld (pv 0) rfl) pa_nil)))) T.clK cL.at_ cL.ok (hr.mono (by decide)) cL.b .nil pass0) pa_nil))
        (pe_callB cr_lenS (by rfl) T.len PySem.boot_len (pa_cons (pv 2) pa_nil)))), ?_⟩
    obtain ⟨dx, qa, ho, hA⟩ := id hN
    obtain ⟨da, lv, ha, hlt⟩ := id hA
    refine ⟨_, rfl, t, rfl, ⟨_, SqT.of ht⟩, fun D hD => ?_⟩
    refine lc_tup (K := K) (xs := ws) (fun i H' => Same H H' ∧ ∃ acc, H' D = some (.lst acc) ∧ acc.length = i ∧ ∀ (j : Nat) x, acc[j]? = some x → ∃ p, x = .ref p ∧ KnAt CK H' n (Gsp.dec n (xss.getD j [])) p)
      ⟨same_new (Same.refl H) hD, [], upd_same, rfl, fun j x z => by simp at z⟩ ?_ ?_ ?_
    · rintro i H' _ ⟨e, _⟩
      exact SqT.of (e _ _ ht)
    · rintro i x H' hx ⟨e, acc, hacc, hlen, hit⟩
      have hi : i < xss.length := by
        have := (List.getElem?_eq_some_iff.mp hx).1
        omega
      obtain ⟨sa, rfl, hsa⟩ := hws i x hx
      refine ⟨rfl, _, rfl, _, rfl, o, CN, dx, _, _, rfl, e _ _ ho, T.clN, T.na, nf_a _, qa, CA, da, _, _, rfl, e _ _ ha, T.clA, T.ap, af_p _ _, sa, n, _, rfl, e _ _ hsa, AL.n1, AL.n4, hxl i hi, fun H2 p e2 _ hk => ?_⟩
      have hD2 := e2 _ _ hacc
      have e3 : ∀ b o, H' b = some o → b ≠ D → upd H2 D (.lst (acc ++ [.ref p])) b = some o := fun b o hb hne => by
        rw [upd_ne hne]
        exact e2 _ _ hb
      have kt : KT H2 (upd H2 D (.lst (acc ++ [.ref p]))) := (KT.of (Same.refl _)).put fun vs z => by rw [hD2] at z; cases z
      have mv : ∀ k p, KnAt CK H2 n k p → KnAt CK (upd H2 D (.lst (acc ++ [.ref p]))) n k p := fun k p ⟨d1, b1, b2, b3, g, g1, g2, g3⟩ =>
        ⟨d1, b1, b2, b3, by rw [upd_ne (ne_of g hD2 (by intro z; cases z))]; exact g, g1.kt ((KT.of (Same.refl _)).put fun vs z => by rw [hD2] at z; cases z), g2.kt ((KT.of (Same.refl _)).put fun vs z => by rw [hD2] at z; cases z),
          g3.kt ((KT.of (Same.refl _)).put fun vs z => by rw [hD2] at z; cases z)⟩
      have mv' : ∀ k p' u, KnAt CK H2 n k p' → KnAt CK (upd H2 D (.lst u)) n k p' := fun k p' u ⟨d1, b1, b2, b3, g, g1, g2, g3⟩ =>
        ⟨d1, b1, b2, b3, by rw [upd_ne (ne_of g hD2 (by intro z; cases z))]; exact g, g1.kt ((KT.of (Same.refl _)).put fun vs z => by rw [hD2] at z; cases z), g2.kt ((KT.of (Same.refl _)).put fun vs z => by rw [hD2] at z; cases z),
          g3.kt ((KT.of (Same.refl _)).put fun vs z => by rw [hD2] at z; cases z)⟩
      refine ⟨acc, hD2, by rw [hlen]; exact small1000 (by omega), same_put (e.trans e2) hD, _, upd_same, by rw [List.length_append, hlen]; rfl, ?_⟩
      refine items_push (R := fun j x => ∃ p', x = .ref p' ∧ KnAt CK (upd H2 D (.lst (acc ++ [.ref p]))) n (Gsp.dec n (xss.getD j [])) p') hlen (fun j x hj => ?_) ⟨p, rfl, mv' _ _ _ hk⟩
      obtain ⟨p', e4, k4⟩ := hit j x hj
      exact ⟨p', e4, mv' _ _ _ (k4.same e2)⟩
    rintro H2 ⟨e2, acc, hacc, hlen, hit⟩
    have hKs : KsAt CK H2 n (xss.map (Gsp.dec n)) acc := by
      refine ⟨by rw [hlen, hwl, List.length_map], fun i x hx => ?_⟩
      obtain ⟨p, e3, k3⟩ := hit i x hx
      have hi : i < xss.length := by
        have := (List.getElem?_eq_some_iff.mp hx).1
        omega
      refine ⟨p, e3, ?_⟩
      have : (xss.map (Gsp.dec n)).getD i Gsp.kn0 = Gsp.dec n (xss.getD i []) := by
        simp [List.getD, List.getElem?_map, List.getElem?_eq_getElem hi]
      rw [this]
      exact k3
    refine ⟨_, rfl, _, rfl, _, rfl, o, CN, dx, _, _, rfl, e2 _ _ ho, T.clN, T.na, nf_a _, D, acc, n, _, a, lets, qa, rfl, hacc, hKs, by rw [List.length_map]; exact hx1, by rw [List.length_map]; exact hx4, hA.same e2, AL, hal, fun H3 p e3 _ hk => ?_⟩
    obtain ⟨dk, b1, b2, b3, hp, _⟩ := id hk
    refine ⟨p, dk, _, rfl, hp, kf_no _ _ _ (by decide +kernel) (by decide +kernel) (by decide +kernel), p, n, _, rfl, hk, AL.n4, fun H4 t4 e4 _ ht4 => ?_⟩
    refine ⟨by show 1 ≤ sizeLine; decide, fun t5 ht5 => ?_⟩
    have e5 : Same H (upd H4 t5 (.tup [.ref t4])) := same_new ((e2.trans e3).trans e4) ht5
    refine ⟨_, rfl, t, _, rfl, .inr (SqT.of (e5 _ _ ht)), ?_⟩
    rw [hwl]
    exact rep_one (xs := Gsp.meetM n lets.length lets a xss) upd_same (same_new (Same.refl _) ht5 _ _ ht4) hx1 (by omega) fun v H6 e6 hv => q H6 v (e5.trans e6) hv
theorem ok_Ncmp {f fO fB : Addr} {fd fdO fdB : FuncData} (F : Fun K "compare" "News.compare" sNcmp f fd) (T : Txt K mg CK CN CA) (cO : Cal P w K mg base 3 "known_of" ["state", "places"] (spKof CK) fO fdO)
    (cB : Cal P w K mg base 1 "is_older" ["one", "two", "place"] (spOlder CK) fB fdB) : FnOk P w K mg base CX0 4 f fd ["self", "first", "second", "place"] (spNcmp CN CA) := by
  refine F.ok scNcmp (fun vs H Q E h => ?_) (fun cdv A outer s H vs Q E hr h => ?_)
  · obtain ⟨o, s, t, n, r, lets, xs, ys, rfl, _⟩ := h
    rfl
  · obtain ⟨o, s, t, n, r, lets, xs, ys, rfl, hN, hs, ht, hxl, hyl, h1, h4, hrn, q⟩ := h
    have nd := scNcmp.nd
    refine ⟨_, pss_cons (ps_set (i := 4) nd rfl (.inl rfl) (pe_call cO.ok hr rfl cO.mg cO.kp cO.b .nil pass0 (pa_cons (pv 1) (pa_cons (pe_fld (pe_fld (pv 0) rfl) rfl) pa_nil)))) <|
      pss_cons (ps_set (i := 5) nd rfl (.inl rfl) (pe_call cO.ok hr rfl cO.mg cO.kp cO.b .nil pass0 (pa_cons (pv 2) (pa_cons (pe_fld (pe_fld (pv 0) rfl) rfl) pa_nil)))) <|
      pss_cons (ps_if (pt_cmp (pc_eqI (pe_ix ix_tup (pe_fld (pv 4) rfl) (pv 3) (fun _ _ => rfl)) (pe_ix ix_tup (pe_fld (pv 5) rfl) (pv 3) (fun _ _ => rfl)))) (pss_one (ps_ret pe_int)) pss_nil) <|
      pss_cons (ps_if (pt_val (pe_call cB.ok (hr.mono (by decide)) rfl cB.mg cB.kp cB.b .nil pass0 (pa_cons (pv 4) (pa_cons (pv 5) (pa_cons (pv 3) pa_nil))))) (pss_one (ps_ret (pe_un un_neg pe_int))) pss_nil) <|
      pss_one (ps_ret pe_int), ?_⟩
    obtain ⟨dx, qa, ho, da, lv, ha, hlt⟩ := hN
    refine ⟨_, rfl, _, rfl, o, CN, dx, _, _, rfl, ho, T.clN, T.na, nf_a _, qa, CA, da, _, _, rfl, ha, T.clA, T.ap, af_p _ _, s, n, xs, rfl, hs, h1, h4, hxl, fun H1 p e1 _ k1 => ?_⟩
    refine ⟨_, rfl, _, rfl, o, CN, dx, _, _, rfl, e1 _ _ ho, T.clN, T.na, nf_a _, qa, CA, da, _, _, rfl, e1 _ _ ha, T.clA, T.ap, af_p _ _, t, n, ys, rfl, e1 _ _ ht, h1, h4, hyl, fun H2 p2 e2 _ k2 => ?_⟩
    have k1' := k1.same e2
    obtain ⟨d1, b1, b2, b3, hp1, ⟨a1, rfl, t1⟩, _⟩ := id k1'
    obtain ⟨d2, c1, c2, c3, hp2, ⟨a2, rfl, t2⟩, _⟩ := id k2
    refine ⟨_, rfl, p, CK, d1, _, _, rfl, hp1, T.clK, T.k1, kf_1 _ _ _, _, rfl, a1, _, _, _, rfl, rfl, SqT.of t1, atI_nat (r1_at hrn),
      _, rfl, p2, CK, d2, _, _, rfl, hp2, T.clK, T.k1, kf_1 _ _ _, _, rfl, a2, _, _, _, rfl, rfl, SqT.of t2, atI_nat (r1_at hrn), _, _, rfl, rfl, ?_⟩
    have goal := q H2 (e1.trans e2)
    by_cases c : (Gsp.dec n xs).f1 r = (Gsp.dec n ys).f1 r
    · refine ⟨true, bl_t c, iteT ?_⟩
      have e : Gsp.cmp n (Gsp.dec n xs) (Gsp.dec n ys) r = 0 := by
        unfold Gsp.cmp
        rw [if_pos c]
      rw [e] at goal
      exact goal
    · refine ⟨false, bl_f c, iteF ⟨_, rfl, _, rfl, _, rfl, p, p2, n, _, _, r, rfl, k1', k2, hrn, h4, _, rfl, ?_⟩⟩
      have e0 : Gsp.cmp n (Gsp.dec n xs) (Gsp.dec n ys) r = if Gsp.older n (Gsp.dec n xs) (Gsp.dec n ys) r then -1 else 1 := by
        unfold Gsp.cmp
        rw [if_neg c]
      rw [e0] at goal
      cases ho : Gsp.older n (Gsp.dec n xs) (Gsp.dec n ys) r with
      | true =>
        rw [ho, if_pos rfl] at goal
        exact iteT ⟨_, rfl, goal⟩
      | false =>
        rw [ho, if_neg Bool.false_ne_true] at goal
        exact iteF goal
end
end Nws
namespace Nws
open PySem L2
abbrev sFits : Stmt := top 18
abbrev sAinit : Stmt := inClass (top 19) 0
theorem castL_at {l : List Nat} {k : Nat} {p : Nat} (h : l[k]? = some p) : ((castL l).map V.int)[k]? = some (V.int (p : Int)) := by
  simp [castL, List.getElem?_map, h]
def spFits : Sp := fun vs H Q _ => ∃ (t : Addr) (n : Nat) (l : List Nat), vs = [.ref t, .int n] ∧ H t = some (.tup ((castL l).map V.int)) ∧ l ≠ [] ∧ l.length ≤ 1000 ∧ (∀ p, p ∈ l → p < n) ∧ l.Pairwise (· < ·) ∧ Q (.bl true) H
theorem scFits : FnScope ["letter", "places", "k"] ["letter", "places"] (defScope sFits) := ⟨rfl, rfl, rfl, by decide +kernel, rfl, by decide +kernel, by decide +kernel⟩
/-- letters in a list -/
def LetsV (H : Hp) (lets : List (List Nat)) (vs : List V) : Prop := vs.length = lets.length ∧ ∀ (i : Nat) x, vs[i]? = some x → TI H x (castL (lets.getD i []))
theorem LetsV.kt {H H' : Hp} {lets : List (List Nat)} {vs : List V} (e : KT H H') (h : LetsV H lets vs) : LetsV H' lets vs := ⟨h.1, fun i x hx => (h.2 i x hx).kt e⟩
def spAinit (CA : Addr) : Sp := fun vs H Q _ => ∃ (p dx l : Addr) (n : Nat) (ws : List V) (lets : List (List Nat)), vs = [.ref p, .int n, .ref l] ∧ H p = some (.ins CA dx []) ∧ H l = some (.lst ws) ∧ LetsV H lets ws ∧ Gsp.Alph n lets ∧
  ∀ H', (∀ b o, H b = some o → b ≠ p → H' b = some o) → AlAt CA H' n lets p → Q .non H'
theorem scAinit : FnScope ["self", "places", "letters", "valid", "letter"] ["self", "places", "letters"] (defScope sAinit) := ⟨rfl, rfl, rfl, by decide +kernel, rfl, by decide +kernel, by decide +kernel⟩
section
variable {P : Program} {w : World} {K : PySem.W.Frag} {mg : Str → Option Value} {base : Heap} {CK CN CA : Addr}
theorem ok_fits {f : Addr} {fd : FuncData} (F : Fun K "fits" "fits" sFits f fd) (T : Txt K mg CK CN CA) : FnOk P w K mg base CX0 1 f fd ["letter", "places"] spFits := by
  refine F.ok scFits (fun vs H Q E h => ?_) (fun cdv A outer s H vs Q E hr h => ?_)
  · obtain ⟨t, n, l, rfl, _⟩ := h
    rfl
  · obtain ⟨t, n, l, rfl, ht, hne, hlen, hlt, hasc, q⟩ := h
    have nd := scFits.nd
    refine ⟨_, pss_cons (ps_if (pt_cmp (pc_eqI (pe_callB cr_lenS (by rfl) T.len PySem.boot_len (pa_cons (pv 0) pa_nil)) pe_int)) (pss_one (ps_ret pe_bl)) pss_nil) <|
      pss_cons (ps_for PassesOwn.never rfl (pi_range1 rfl T.range (pa_cons (pe_callB cr_lenS (by rfl) T.len PySem.boot_len (pa_cons (pv 0) pa_nil)) pa_nil)) (pg_name (i := 2) nd rfl (.inl rfl))
        (pss_one (ps_if (PW.pt (pw_or (pt_cmp (pc_lt (pe_ix ix_tup (pv 0) (pv 2) (fun _ _ => rfl)) pe_int)) (pw_or (pt_cmp (pc_ge (pe_ix ix_tup (pv 0) (pv 2) (fun _ _ => rfl)) (pv 1)))
          (pw_or1 (PW.pt (pw_and (pt_cmp (pc_gt (pv 2) pe_int)) (pw_and1 (pt_cmp (pc_le (pe_ix ix_tup (pv 0) (pv 2) (fun _ _ => rfl)) (pe_ix ix_tup (pv 0) (pe_op op_sub (pv 2) pe_int) (fun _ _ => rfl)))))))))))
          (pss_one (ps_ret pe_bl)) pss_nil))) <|
      pss_one (ps_ret pe_bl), ?_⟩
    have hl : ((castL l).map V.int).length = l.length := by
      unfold castL
      rw [List.length_map, List.length_map]
    have hpos : 0 < l.length := List.length_pos_iff.mpr hne
    refine ⟨_, rfl, t, _, rfl, .inr (SqT.of ht), _, _, rfl, rfl, false, ?_, iteF ⟨_, rfl, t, _, rfl, .inr (SqT.of ht), _, rfl, ?_⟩⟩
    · rw [hl]
      exact bl_f (by omega)
    rw [hl]
    refine ⟨by omega, by omega, for_range (lo := 0) (n := l.length) (fun i σ H' => ∃ x, σ = [some (.ref t), some (.int n), x] ∧ H' = H) ⟨_, rfl, rfl⟩ ?_ ?_⟩
    · rintro i σ H' hi ⟨x, rfl, rfl⟩
      obtain ⟨p, hp⟩ : ∃ p, l[i]? = some p := ⟨_, List.getElem?_eq_getElem hi⟩
      have hpn := hlt p (List.mem_of_getElem? hp)
      have at_i : atI ((castL l).map V.int) (0 + (i : Int)) = some (V.int (p : Int)) := by
        rw [Int.zero_add]
        exact atI_nat (castL_at hp)
      refine ⟨_, rfl, _, rfl, t, _, _, _, rfl, rfl, SqT.of ht, at_i, _, _, rfl, rfl, false, bl_f (by omega), iteF ⟨_, rfl, _, rfl, t, _, _, _, rfl, rfl, SqT.of ht, at_i, _, rfl, _, _, rfl, rfl, false, bl_f (by omega), iteF ⟨_, rfl, _, _, rfl, rfl, ?_⟩⟩⟩
      cases i with
      | zero => exact ⟨false, bl_f (by omega), iteF (iteF ⟨_, rfl, rfl⟩)⟩
      | succ i =>
        obtain ⟨p0, hp0⟩ : ∃ p, l[i]? = some p := ⟨_, List.getElem?_eq_getElem (by omega)⟩
        have hlt0 : p0 < p := by
          obtain ⟨h1, e1⟩ := List.getElem?_eq_some_iff.mp hp0
          obtain ⟨h2, e2⟩ := List.getElem?_eq_some_iff.mp hp
          rw [← e1, ← e2]
          exact List.pairwise_iff_getElem.mp hasc i (i + 1) h1 h2 (by omega)
        have ei : (0 : Int) + ((i + 1 : Nat) : Int) - 1 = (i : Int) := by omega
        refine ⟨true, bl_t (by omega), iteT ⟨_, rfl, _, rfl, t, _, _, _, rfl, rfl, SqT.of ht, at_i, _, rfl, _, rfl, _, _, rfl, rfl, t, _, _, _, rfl, rfl, SqT.of ht, (by rw [ei]; exact atI_nat (castL_at hp0)), _, _, rfl, rfl, false, bl_f (by omega), iteF ⟨_, rfl, rfl⟩⟩⟩
    · rintro σ H' ⟨x, rfl, rfl⟩
      exact q
theorem ok_Ainit {f fF : Addr} {fd fdF : FuncData} (F : Fun K "__init__" "Alphabet.__init__" sAinit f fd) (T : Txt K mg CK CN CA) (cF : Cal P w K mg base 1 "fits" ["letter", "places"] spFits fF fdF) :
    FnOk P w K mg base CX0 2 f fd ["self", "places", "letters"] (spAinit CA) := by
  refine F.ok scAinit (fun vs H Q E h => ?_) (fun cdv A outer s H vs Q E hr h => ?_)
  · obtain ⟨p, dx, l, n, ws, lets, rfl, _⟩ := h
    rfl
  · obtain ⟨p, dx, l, n, ws, lets, rfl, hp, hl, hW, AL, q⟩ := h
    have nd := scAinit.nd
    obtain ⟨tmp, mp⟩ := T.mp
    obtain ⟨tml, ml⟩ := T.ml
    refine ⟨_, pss_cons (ps_set (i := 3) nd rfl (.inl rfl) (pe_and (pe_chain op_le op_le pe_int (pv 1) (pe_glob (v := .int 4) (by rfl) mp ⟨_, rfl⟩)) (pe_one (pe_chain op_le op_le pe_int (pe_callB cr_lenS (by rfl) T.len PySem.boot_len (pa_cons (pv 2) pa_nil)) (pe_glob (v := .int 6) (by rfl) ml ⟨_, rfl⟩))))) <|
      pss_cons (ps_for PassesOwn.never rfl (pi_list (pv 2)) (pg_name (i := 4) nd rfl (.inl rfl))
        (pss_one (ps_set (i := 3) nd rfl (.inl rfl) (pe_and (pv 3) (pe_one (pe_call cF.ok hr rfl cF.mg cF.kp cF.b .nil pass0 (pa_cons (pv 4) (pa_cons (pv 1) pa_nil)))))))) <|
      pss_cons (ps_if (pt_not (pt_val (pv 3))) pss_never pss_nil) <|
      pss_cons (ps_fld (pv 0) (pv 1) rfl) <|
      pss_one (ps_fld (pv 0) (pe_callTy cr_tupOf (by rfl) T.tuple bt_tuple (pa_cons (pe_lc (own := [("letter", 4)]) (g := gName 4) (tt := tYes) rfl nd (pi_list (pv 2))
        (blkOk_by (N := ["self", "places", "letters", "valid", "letter"]) (sc := defScope sAinit) (by decide +kernel)) (fun _ _ _ _ _ => pg_name (i := 4) nd rfl (Or.inl rfl)) (fun _ _ _ _ _ => pts_nil)
        (fun _ _ _ _ _ => pe_callTy (r := rTupOf K) cr_tupOf (by rfl) T.tuple bt_tuple (pa_cons (pv 4) pa_nil))) pa_nil)) rfl), ?_⟩
    have hwl := hW.1
    have n1 := AL.n1
    have n4 := AL.n4
    have m1 := AL.m1
    have m5 := AL.m5
    refine ⟨_, rfl, _, _, rfl, rfl, true, bl_t (by omega), iteT ⟨_, _, rfl, rfl, true, bl_t (by omega), iteT ⟨_, rfl, l, _, rfl, .inl (SqL.of hl), _, _, rfl, rfl, true, bl_t (by omega), iteT ⟨_, _, rfl, rfl, ?_⟩⟩⟩⟩
    have eb : V.bl (decide ((ws.length : Int) ≤ 6)) = V.bl true := bl_t (by omega)
    refine ⟨_, rfl, l, rfl, ⟨_, SqL.of hl⟩, for_list (K := K) (xs := ws) (fun i σ H' => ∃ x4, σ = [some (.ref p), some (.int n), some (.ref l), some (.bl true), x4] ∧ H' = H)
      ⟨none, by rw [← eb]; rfl, rfl⟩ ?_ ?_ ?_⟩
    · rintro i σ H' _ ⟨x4, rfl, rfl⟩
      exact SqL.of hl
    · rintro i x σ H' hx ⟨x4, rfl, rfl⟩
      obtain ⟨t, rfl, ht⟩ := hW.2 i x hx
      have hi : i < lets.length := by
        have := (List.getElem?_eq_some_iff.mp hx).1
        omega
      have hmem : lets.getD i [] ∈ lets := Gsp.getD_mem hi
      have hl4 := Gsp.length_le4 (AL.lt _ hmem) (AL.asc _ hmem)
      exact ⟨_, rfl, true, rfl, iteT ⟨_, rfl, _, rfl, t, n, _, rfl, ht, AL.ne _ hmem, by omega, AL.lt _ hmem, AL.asc _ hmem, _, rfl, rfl⟩⟩
    rintro σ H' ⟨x4, rfl, rfl⟩
    refine ⟨_, rfl, true, rfl, iteF ?_⟩
    refine ⟨_, rfl, _, rfl, p, CA, dx, [], rfl, hp, T.clA, T.ap, (by show 0 < 1000; decide), ?_⟩
    have nlp' : l ≠ p := ne_of hl hp (by intro z; cases z)
    have keep : ∀ (o : HO) b u, H' b = some u → b ≠ p → upd H' p o b = some u := fun o b u hb hne => by
      rw [upd_ne hne]
      exact hb
    generalize hH1 : upd H' p (.ins CA dx (putF "places" (.int n) [])) = H1
    have hp1 : H1 p = some (.ins CA dx (putF "places" (.int n) [])) := by
      rw [← hH1]
      exact upd_same
    have hl1 : H1 l = some (.lst ws) := by
      rw [← hH1]
      exact keep _ _ _ hl nlp'
    have kt1 : KT H' H1 := by
      rw [← hH1]
      exact (KT.of (Same.refl _)).put fun vs z => by rw [hp] at z; cases z
    have hW1 := hW.kt kt1
    refine ⟨_, rfl, l, rfl, ⟨_, SqL.of hl1⟩, fun D hD => ?_⟩
    refine lc_list (K := K) (xs := ws) (fun i H2 => Same H1 H2 ∧ H2 D = some (.lst (ws.take i))) ⟨same_new (Same.refl _) hD, upd_same⟩ ?_ ?_ ?_
    · rintro i H2 _ ⟨e, _⟩
      exact SqL.of (e _ _ hl1)
    · rintro i x H2 hx ⟨e, hDl⟩
      obtain ⟨t, rfl, ht⟩ := hW1.2 i x hx
      refine ⟨rfl, _, rfl, t, _, rfl, .inr ⟨SqT.of (e _ _ ht), _, hDl, ?_, same_put e hD, ?_⟩⟩
      · rw [List.length_take]
        exact small1000 (by omega)
      · rw [upd_same, List.take_succ, hx]
        rfl
    rintro H2 ⟨e2, hDl⟩
    rw [List.take_length] at hDl
    refine ⟨D, _, rfl, .inl ⟨SqL.of hDl, fun t ht => ?_⟩⟩
    have e3 : Same H1 (upd H2 t (.tup ws)) := same_new e2 ht
    refine ⟨_, rfl, p, CA, dx, _, rfl, e3 _ _ hp1, T.clA, T.al, (by show 1 < 1000; decide), ?_⟩
    have npt : p ≠ t := ne_of_none (e2 _ _ hp1) ht
    refine q _ (fun b o hb hne => ?_) ⟨dx, .ref t, upd_same, t, ws, rfl, ?_, hwl, fun i x hx => ?_⟩
    · rw [upd_ne hne]
      refine e3 _ _ ?_
      rw [← hH1]
      exact keep _ _ _ hb hne
    · rw [upd_ne npt.symm]
      exact upd_same
    · refine ((hW1.2 i x hx).kt (.of e3)).kt ((KT.of (Same.refl _)).put fun vs z => ?_)
      rw [e3 _ _ hp1] at z
      cases z
end
end Nws
namespace Nws
open PySem L2
abbrev sDraws : Stmt := top 21
abbrev sTake : Stmt := top 22
abbrev sIsInt : Stmt := top 23
abbrev sSmall : Stmt := top 30
/-- what stands there already, stored once more -/
theorem upd_back {H : Hp} {a : Addr} {o : HO} (h : H a = some o) :
    upd H a o = H :=
  funext fun b => if e : b = a then by rw [e, upd_same, h] else upd_ne e
def spDraws (K : PySem.W.Frag) : Sp := fun vs H Q _ => ∃ (a : Addr) (ns : List Int), vs = [.ref a, .int 80] ∧ SqL K H a (ns.map V.int) ∧ ns.length ≤ 63 ∧
  ∀ H' d (ds : List Int), Same H H' → H d = none → H' d = some (.lst (ds.map V.int)) → ds.length ≤ 80 → Q (.ref d) H'
theorem scDraws : FnScope ["_law_script", "_law_count", "_law_cells", "_law_found", "_law_mixed", "_law_k", "_law_j", "_law_cell", "_law_again"] ["_law_script", "_law_count"] (defScope sDraws) :=
  ⟨rfl, rfl, rfl, by decide +kernel, rfl, by decide +kernel, by decide +kernel⟩
def spTake : Sp := fun vs H Q _ => ∃ (d : Addr) (ds : List Int) (m : Nat), vs = [.ref d, .int m] ∧ H d = some (.lst (ds.map V.int)) ∧ ds.length ≤ 80 ∧ 1 ≤ m ∧
  ∀ (v : Nat) (ds' : List Int), v < m → ds'.length ≤ 80 → Q (.int v) (upd H d (.lst (ds'.map V.int)))
theorem scTake : FnScope ["_law_draws_here", "_law_limit"] ["_law_draws_here", "_law_limit"] (defScope sTake) := ⟨rfl, rfl, rfl, by decide +kernel, rfl, by decide +kernel, by decide +kernel⟩
def spIsInt : Sp := fun vs H Q _ => ∃ i : Int, vs = [.int i] ∧ Q (.bl true) H
theorem scIsInt : FnScope ["_law_actual"] ["_law_actual"] (defScope sIsInt) := ⟨rfl, rfl, rfl, by decide +kernel, rfl, by decide +kernel, by decide +kernel⟩
def spSmall : Sp := fun vs H Q _ => ∃ (t : Addr) (xs : List Int), vs = [.ref t, .int 300] ∧ H t = some (.tup (xs.map V.int)) ∧ xs.length ≤ 300 ∧ (∀ x, x ∈ xs → Gsp.Sm x) ∧ Q (.bl true) H
theorem scSmall : FnScope ["_law_actual", "_law_most", "_law_number"] ["_law_actual", "_law_most"] (defScope sSmall) := ⟨rfl, rfl, rfl, by decide +kernel, rfl, by decide +kernel, by decide +kernel⟩
section
variable {P : Program} {w : World} {K : PySem.W.Frag} {mg : Str → Option Value} {base : Heap} {CK CN CA : Addr}
theorem ok_isint {f : Addr} {fd : FuncData} (F : Fun K "_law_is_integer" "_law_is_integer" sIsInt f fd) (T : Txt K mg CK CN CA) : FnOk P w K mg base CX0 1 f fd ["_law_actual"] spIsInt := by
  refine F.ok scIsInt (fun vs H Q E h => ?_) (fun cdv A outer s H vs Q E hr h => ?_)
  · obtain ⟨i, rfl, _⟩ := h
    rfl
  · obtain ⟨i, rfl, q⟩ := h
    refine ⟨_, pss_one (ps_ret (pe_and (pe_callB call_isi (by rfl) T.isi bt_isi (pa_cons (pv 0) (pa_cons (pe_bltn (v := .ty "int") (by rfl) T.int bt_int rfl) pa_nil)))
      (pe_one (pe_not (pe_callB call_isi (by rfl) T.isi bt_isi (pa_cons (pv 0) (pa_cons (pe_bltn (v := .ty "bool") (by rfl) T.bool bt_bool rfl) pa_nil))))))), ?_⟩
    refine ⟨_, rfl, _, _, _, _, true, rfl, .ty "int", .base (.int i), kit_ty (by decide +kernel), true, rfl, iteT ⟨_, rfl, _, _, _, _, false, rfl, .ty "bool", .base (.int i), kit_ty (by decide +kernel), false, rfl, ?_⟩⟩
    exact q
theorem ok_small {f fI : Addr} {fd fdI : FuncData} (F : Fun K "_law_small_state" "_law_small_state" sSmall f fd) (T : Txt K mg CK CN CA) (cI : Cal P w K mg base 1 "_law_is_integer" ["_law_actual"] spIsInt fI fdI) :
    FnOk P w K mg base CX0 2 f fd ["_law_actual", "_law_most"] spSmall := by
  refine F.ok scSmall (fun vs H Q E h => ?_) (fun cdv A outer s H vs Q E hr h => ?_)
  · obtain ⟨t, xs, rfl, _⟩ := h
    rfl
  · obtain ⟨t, xs, rfl, ht, hlen, hsm, q⟩ := h
    have nd := scSmall.nd
    refine ⟨_, pss_cons (ps_if (PW.pt (pw_or (pt_not (pt_val (pe_callB call_isi (by rfl) T.isi bt_isi (pa_cons (pv 0) (pa_cons (pe_bltn (v := .ty "tuple") (by rfl) T.tuple bt_tuple rfl) pa_nil)))))
        (pw_or1 (pt_cmp (pc_gt (pe_callB cr_lenS (by rfl) T.len PySem.boot_len (pa_cons (pv 0) pa_nil)) (pv 1)))))) (pss_one (ps_ret pe_bl)) pss_nil) <|
      pss_cons (ps_for PassesOwn.never rfl (pi_tup (pv 0)) (pg_name (i := 2) nd rfl (.inl rfl))
        (pss_one (ps_if (PW.pt (pw_or (pt_not (pt_val (pe_call cI.ok hr rfl cI.mg cI.kp cI.b .nil pass0 (pa_cons (pv 2) pa_nil)))) (pw_or (pt_cmp (pc_lt (pv 2) pe_int)) (pw_or1 (pt_cmp (pc_gt (pv 2) pe_int))))))
          (pss_one (ps_ret pe_bl)) pss_nil))) <|
      pss_one (ps_ret pe_bl), ?_⟩
    refine ⟨_, rfl, _, _, _, _, true, rfl, .ty "tuple", .base (.tup ht), kit_ty (by decide +kernel), true, rfl, iteF ⟨_, rfl, t, _, rfl, .inr (SqT.of ht), _, rfl, _, _, rfl, rfl, false, bl_f (by rw [List.length_map]; omega), iteF ?_⟩⟩
    refine ⟨_, rfl, t, rfl, ⟨_, SqT.of ht⟩, for_tup (K := K) (xs := xs.map V.int) (fun i σ H' => ∃ x, σ = [some (.ref t), some (.int 300), x] ∧ H' = H) ⟨_, rfl, rfl⟩ ?_ ?_ ?_⟩
    · rintro i σ H' _ ⟨x, rfl, rfl⟩
      exact SqT.of ht
    · rintro i y σ H' hy ⟨x, rfl, rfl⟩
      obtain ⟨z, hz, rfl⟩ := List.mem_map.mp (List.mem_of_getElem? hy)
      obtain ⟨h0, h9⟩ := hsm z hz
      refine ⟨_, rfl, z, rfl, true, rfl, iteF ⟨_, rfl, _, _, rfl, rfl, false, bl_f (by omega), iteF ⟨_, rfl, _, _, rfl, rfl, false, bl_f (by omega), iteF ⟨_, rfl, rfl⟩⟩⟩⟩
    · rintro σ H' ⟨x, rfl, rfl⟩
      exact q
theorem ok_take {f : Addr} {fd : FuncData} (F : Fun K "_law_take" "_law_take" sTake f fd) (T : Txt K mg CK CN CA) : FnOk P w K mg base CX0 1 f fd ["_law_draws_here", "_law_limit"] spTake := by
  refine F.ok scTake (fun vs H Q E h => ?_) (fun cdv A outer s H vs Q E hr h => ?_)
  · obtain ⟨d, ds, m, rfl, _⟩ := h
    rfl
  · obtain ⟨d, ds, m, rfl, hd, hlen, hm, q⟩ := h
    refine ⟨_, pss_cons (ps_if (pt_cmp (pc_eqI (pe_callB cr_lenS (by rfl) T.len PySem.boot_len (pa_cons (pv 0) pa_nil)) pe_int)) (pss_one (ps_ret pe_int)) pss_nil) <|
      pss_one (ps_ret (pe_op op_mod (pe_callTy call_int1 (by rfl) T.int bt_int (pa_cons (pe_bm0 PySem.F.plainAttrs_list PySem.F.slot_list_pop PySem.F.type_list_pop mt_pop (pv 0)) pa_nil)) (pv 1))), ?_⟩
    refine ⟨_, rfl, d, _, rfl, .inl (SqL.of hd), _, _, rfl, rfl, ?_⟩
    by_cases hds : ds = []
    · subst hds
      refine ⟨true, rfl, iteT ?_⟩
      have := q 0 [] (by omega) (by simp)
      rw [upd_back (by exact hd)] at this
      exact this
    · have hpos : 0 < ds.length := List.length_pos_iff.mpr hds
      obtain ⟨z, hz⟩ : ∃ z, (ds.map V.int)[(ds.map V.int).length - 1]? = some (V.int z) := by
        refine ⟨ds[ds.length - 1], ?_⟩
        rw [List.length_map, List.getElem?_map, List.getElem?_eq_getElem (by omega)]
        rfl
      refine ⟨false, bl_f (by rw [List.length_map]; omega), iteF ⟨_, rfl, .inl ⟨rfl, _, SqL.of hd⟩, d, _, .int z, rfl, rfl, hd, hz, .inl ⟨z, rfl, _, rfl, _, _, rfl, rfl, by omega, ?_⟩⟩⟩
      have h0 := Int.emod_nonneg z (show (m : Int) ≠ 0 by omega)
      have h1 := Int.emod_lt_of_pos z (show (0 : Int) < m by omega)
      have e : z % (m : Int) = (((z % (m : Int)).toNat : Nat) : Int) := by omega
      have := q (z % (m : Int)).toNat ds.dropLast (by omega) (by rw [List.length_dropLast]; omega)
      rw [← e, List.map_dropLast] at this
      exact this
end
end Nws
namespace Nws
open PySem L2
theorem ints_at {cs : List Int} {j : Nat} (h : j < cs.length) : (cs.map V.int)[j]? = some (V.int (cs.getD j 0)) := by
  rw [List.getElem?_map, List.getElem?_eq_getElem h]
  simp [List.getD, List.getElem?_eq_getElem h]
section
variable {P : Program} {w : World} {K : PySem.W.Frag} {mg : Str → Option Value} {base : Heap} {CK CN CA : Addr}
theorem ok_draws {f : Addr} {fd : FuncData} (F : Fun K "_law_draws" "_law_draws" sDraws f fd) (T : Txt K mg CK CN CA) : FnOk P w K mg base CX0 1 f fd ["_law_script", "_law_count"] (spDraws K) := by
  refine F.ok scDraws (fun vs H Q E h => ?_) (fun cdv A outer s H vs Q E hr h => ?_)
  · obtain ⟨a, ns, rfl, _⟩ := h
    rfl
  · obtain ⟨a, ns, rfl, ha, hlen, q⟩ := h
    have nd := scDraws.nd
    refine ⟨_, pss_cons (ps_set (i := 2) nd rfl (.inl rfl) (pe_callTy cr_lstOf (by rfl) T.list bt_list (pa_cons (pv 0) pa_nil))) <|
      Evl.pss_cut (ps_if (pt_cmp (pc_eqI (pe_callB cr_lenS (by rfl) T.len PySem.boot_len (pa_cons (pv 2) pa_nil)) pe_int)) (pss_one (ps_set (i := 2) nd rfl (.inl rfl) (pe_lst (pa_cons pe_int pa_nil)))) pss_nil) <|
      pss_cons (ps_set (i := 3) nd rfl (.inl rfl) (pe_lst pa_nil)) <|
      pss_cons (ps_set (i := 4) nd rfl (.inl rfl) pe_int) <|
      pss_cons (ps_for PassesOwn.never rfl (pi_range1 rfl T.range (pa_cons (pv 1) pa_nil)) (pg_name (i := 5) nd rfl (.inl rfl))
        (pss_cons (ps_set (i := 6) nd rfl (.inl rfl) (pe_op op_mod (pv 5) (pe_callB cr_lenS (by rfl) T.len PySem.boot_len (pa_cons (pv 2) pa_nil)))) <|
         pss_cons (ps_set (i := 7) nd rfl (.inl rfl) (pe_ix ix_list (pv 2) (pv 6) (fun _ _ => rfl))) <|
         pss_cons (ps_set (i := 4) nd rfl (.inl rfl) (pe_op op_mod (pe_callTy call_int1 (by rfl) T.int bt_int (pa_cons (pe_op op_add (pe_op op_add (pe_op op_add (pe_op op_mul (pv 4) pe_int)
           (pe_op op_mul (pe_op op_mod (pe_callTy call_int1 (by rfl) T.int bt_int (pa_cons (pv 7) pa_nil)) pe_int) pe_int)) (pe_op op_mul (pv 5) pe_int)) pe_int) pa_nil)) pe_int)) <|
         pss_cons (ps_set (i := 8) nd rfl (.inl rfl) (pe_op op_mod (pe_callTy call_int1 (by rfl) T.int bt_int (pa_cons (pe_op op_add (pe_op op_add (pe_op op_mul (pv 4) (pv 4)) (pe_op op_mul pe_int (pv 4))) (pv 5)) pa_nil)) pe_int)) <|
         pss_one (ps_if (pt_cmp (pc_ge (pv 7) (pe_op op_pow pe_int pe_int)))
           (pss_cons (ps_expr (pe_bm PySem.F.plainAttrs_list PySem.F.slot_list_append PySem.F.type_list_append mt_append (pv 3) (pa_cons (pe_op op_mod (pe_callTy call_int1 (by rfl) T.int bt_int (pa_cons (pv 7) pa_nil)) pe_int) pa_nil)))
             (pss_one (ps_asg (pe_op op_fdiv (pv 7) pe_int) (pg_sub (pv 2) (pv 6) set_list))))
           (pss_one (ps_expr (pe_bm PySem.F.plainAttrs_list PySem.F.slot_list_append PySem.F.type_list_append mt_append (pv 3) (pa_cons (pe_op op_mod (pe_callTy call_int1 (by rfl) T.int bt_int (pa_cons (pv 8) pa_nil)) pe_int) pa_nil)))))) ) <|
      pss_cons (ps_expr (pe_bm0 PySem.F.plainAttrs_list PySem.F.slot_list_reverse PySem.F.type_list_reverse mt_reverse (pv 3))) <|
      pss_one (ps_ret (pv 3)), ?_⟩
    refine ⟨_, rfl, a, _, rfl, .inl ha, fun c hc => ?_⟩
    have e1 : Same H (upd H c (.lst (ns.map V.int))) := same_new (Same.refl H) hc
    refine ⟨fun σ H1 => ∃ (c : Addr) (cs : List Int), σ = [some (.ref a), some (.int 80), some (.ref c), none, none, none, none, none, none] ∧ Same H H1 ∧ H c = none ∧ H1 c = some (.lst (cs.map V.int)) ∧ cs ≠ [] ∧ cs.length ≤ 63, ?_, ?_⟩
    · refine ⟨_, rfl, c, _, rfl, .inl (SqL.of upd_same), _, _, rfl, rfl, ?_⟩
      by_cases hns : ns = []
      · subst hns
        refine ⟨true, rfl, iteT ⟨by show 1 ≤ sizeLine; decide, fun c2 hc2 => ?_⟩⟩
        exact ⟨c2, [7], rfl, same_new e1 hc2, e1.free hc2, upd_same, by simp, by simp⟩
      · have hpos : 0 < ns.length := List.length_pos_iff.mpr hns
        refine ⟨false, bl_f (by rw [List.length_map]; omega), iteF ?_⟩
        exact ⟨c, ns, rfl, e1, hc, upd_same, hns, hlen⟩
    clear e1 hc
    clear c
    · rintro σ H1 ⟨c, cs, rfl, e1, hc, hcs, hne, hcl⟩
      have hpos : 0 < cs.length := List.length_pos_iff.mpr hne
      refine ⟨Nat.zero_le _, fun g hg => ?_⟩
      have ncg : c ≠ g := ne_of_none hcs hg
      have n0 : H g = none := e1.free hg
      refine ⟨_, rfl, 80, rfl, by decide, by decide, for_range (lo := 0) (n := 80)
        (fun i σ H' => ∃ mx x5 x6 x7 x8, σ = [some (.ref a), some (.int 80), some (.ref c), some (.ref g), some (.int mx), x5, x6, x7, x8] ∧ Same H H' ∧ (0 ≤ mx ∧ mx < 2147483647) ∧
          ∃ (cs' fs : List Int), H' c = some (.lst (cs'.map V.int)) ∧ cs'.length = cs.length ∧ H' g = some (.lst (fs.map V.int)) ∧ fs.length = i)
        ⟨12345, _, _, _, _, rfl, same_new e1 hg, by decide, cs, [], by rw [upd_ne ncg]; exact hcs, rfl, upd_same, rfl⟩ ?_ ?_⟩
      · rintro i σ H' hi ⟨mx, x5, x6, x7, x8, rfl, e, hmx, cs', fs, hc', hcl', hg', hfl⟩
        have ej : (0 + (i : Int)) % ((cs'.map V.int).length : Int) = ((i % cs'.length : Nat) : Int) := by
          rw [List.length_map, Int.zero_add, Int.natCast_emod]
        have hj : i % cs'.length < cs'.length := Nat.mod_lt _ (by omega)
        refine ⟨_, rfl, _, rfl, c, _, rfl, .inl (SqL.of hc'), _, _, rfl, rfl, by rw [List.length_map]; omega, ?_⟩
        refine ⟨_, rfl, _, rfl, c, _, _, _, rfl, rfl, SqL.of hc', (by rw [ej]; exact atI_nat (ints_at hj)), ?_⟩
        generalize cs'.getD (i % cs'.length) 0 = cell
        have k1 : (0 : Int) < 1000003 := by decide
        have k2 : (0 : Int) < 2147483647 := by decide
        have k3 : (0 : Int) < 1000 := by decide
        refine ⟨_, rfl, _, _, rfl, rfl, .inr ⟨by decide, by decide⟩, _, rfl, .inl ⟨_, rfl, _, _, rfl, rfl, k1, _, _, rfl, rfl, .inr ⟨by decide, by decide⟩, _, _, rfl, rfl, _, rfl, _, _, rfl, rfl, .inr ⟨by decide, by decide⟩, _, _, rfl, rfl, _, _, rfl, rfl,
          .inl ⟨_, rfl, _, _, rfl, rfl, k2, ?_⟩⟩⟩
        have hb2 : ∀ z : Int, 0 ≤ z % 2147483647 ∧ z % 2147483647 < 2147483647 := fun z => ⟨Int.emod_nonneg _ (by decide), Int.emod_lt_of_pos _ k2⟩
        refine ⟨_, rfl, _, rfl, _, _, rfl, rfl, .inl ⟨by omega, by omega⟩, _, rfl, _, _, rfl, rfl, .inl ⟨by decide, by decide⟩, _, _, rfl, rfl, _, rfl, _, _, rfl, rfl, .inl ⟨_, rfl, _, _, rfl, rfl, k1, ?_⟩⟩
        have hsz : (fs.map V.int).length < sizeLine := by
          rw [List.length_map, hfl]
          exact small1000 (by omega)
        refine ⟨_, rfl, _, _, rfl, rfl, ⟨by decide, by decide, by decide⟩, _, _, rfl, rfl, ?_⟩
        have app : ∀ (z : Int), (fs.map V.int ++ [V.int z]) = (fs ++ [z]).map V.int := fun z => by simp
        refine ⟨_, rfl, ?_⟩
        refine ite2 (fun _ => ?_) (fun _ => ?_)
        · refine ⟨_, rfl, .inl ⟨rfl, _, SqL.of hg'⟩, _, rfl, .inl ⟨_, rfl, _, _, rfl, rfl, k3, g, _, _, rfl, rfl, hg', hsz, ?_⟩⟩
          refine ⟨_, rfl, _, _, rfl, rfl, ⟨by decide, by decide⟩, _, rfl, _, rfl, c, _, _, i % cs'.length, rfl, rfl, (by rw [upd_ne ncg]; exact hc'), ?_, ?_⟩
          · rw [ej, List.length_map]
            unfold ixN
            rw [if_pos (by omega), if_pos (by omega), Int.toNat_natCast]
          · refine ⟨_, _, _, _, _, rfl, same_put (same_put e n0) hc, hb2 _, cs'.set (i % cs'.length) (cell / 1000), fs ++ [cell % 1000], ?_, by rw [List.length_set]; exact hcl', ?_, by rw [List.length_append, hfl]; rfl⟩
            · rw [upd_same, List.map_set]
            · rw [upd_ne ncg.symm, upd_same, app]
        · refine ⟨_, rfl, .inl ⟨rfl, _, SqL.of hg'⟩, _, rfl, .inl ⟨_, rfl, _, _, rfl, rfl, k3, g, _, _, rfl, rfl, hg', hsz, ?_⟩⟩
          refine ⟨_, _, _, _, _, rfl, same_put e n0, hb2 _, cs', fs ++ [_], (by rw [upd_ne ncg]; exact hc'), hcl', (by rw [upd_same, app]), by rw [List.length_append, hfl]; rfl⟩
      · rintro σ H' ⟨mx, x5, x6, x7, x8, rfl, e, hmx, cs', fs, hc', hcl', hg', hfl⟩
        refine ⟨_, rfl, .inl ⟨rfl, _, SqL.of hg'⟩, g, _, rfl, rfl, hg', ?_⟩
        refine ⟨_, rfl, q _ g fs.reverse (same_put e n0) n0 ?_ (by rw [List.length_reverse]; omega)⟩
        rw [upd_same, List.map_reverse]
end
end Nws
/-! We: a rule of our own: set(xs) of a list of ints, told so that it can be sorted. -/
namespace Nws
open PySem PySem.Spec L2 PyProof.Rows
/-- the set that a call of set begins with -/
abbrev emptySet (w : World) : Obj := { cls := .type "set", dict := none, data := .set #[] 0 (.fresh 0 0 (!w.params.followText "set-order")) }
section
variable {P : Program} {w : World} {A : Around} {E : Value → Shared → Prop} {s : Shared}
/-- what a set of the ints ns at the next free place is to be -/
def SetDone (w : World) (h0 : Heap) (ns : List Int) (h' : Heap) : Prop :=
  (∃ c, c ≤ ns.length ∧ SetR w h' h0.objs.size (fun j => decide (j ∈ ns)) c) ∧ ∀ b o, h0.get? b = some o → h'.get? b = some o
theorem set_of_list {l : Addr} {xs : Array Value} (ns : List Int) {Q : Value → Shared → Prop} (calm : A.handled = none) (hl : s.heap.IsList l xs) (hi : IntsAre xs.toList ns) (few : ns.length + 1 < scanBound)
    (goal : ∀ (h' : Heap) (tk : Nat), SetDone w s.heap ns h' → Q (.ref s.heap.objs.size) { s with heap := h', toks := tk }) :
    wpAny (model P w) A (call (.type "set") [.ref l]) Q E s := by
  have size : xs.size = ns.length := by
    have q := IntsAre.length hi
    rwa [Array.length_toList] at q
  have v1 := F.called_set.made
  have v2 := F.called_set.sub
  have v3 := F.called_set.notType
  have v4 := F.called_set.canCreate
  have v5 := F.typeCall_set_1 (.ref l)
  obtain ⟨c, tl, hmro⟩ := F.called_set.mro
  -- the call comes to type.__call__
  refine wpAny_call (codeAny_of_tree ?_)
  show wpAny _ _ (callAny (.type "set") _) _ _ _
  refine wpAny_pure ⟨Code.quiet_builtin _ (by decide +kernel), codeAny_builtin F.entry_type_call ?_⟩
  rw [Around.under_plain (weight_type_call_type "set" [.ref l] []) rfl]
  repeat (any_goals (first | assumption | wp_step))
  -- __new__
  refine codeAny_mono (code_set_led1 (.ref l) (E := E)
    (Q₁ := fun v s1 => v = .ref s.heap.objs.size ∧ s1 = { s with heap := s.heap.push (emptySet w) }) ⟨rfl, rfl⟩) fun r s1 hr => ?_
  match r, hr with
  | .error e, hr => exact hr
  | .ok .next, hr => exact hr.elim
  | .ok .brk, hr => exact hr.elim
  | .ok .cont, hr => exact hr.elim
  | .ok (.ret v), hr =>
    obtain ⟨rfl, rfl⟩ := hr
    have at0 : (s.heap.push (emptySet w)).get? s.heap.objs.size = some (emptySet w) := Heap.get?_push_size _ rfl
    have ty0 : Shared.TypeIs { s with heap := s.heap.push (emptySet w) } (.ref s.heap.objs.size) "set" := ⟨_, at0, rfl⟩
    have v6 := F.called_set.init.lookup
    have v7 := F.called_set.init.bind (.ref s.heap.objs.size)
    repeat (any_goals (first | assumption | wp_step))
    -- __init__
    refine codeAny_mono (codeAny_call_builtin
      (R := wants (fun r s2 => r = .none ∧ ∃ h' tk, s2 = { s with heap := h', toks := tk } ∧ SetDone w s.heap ns h') E)
      F.called_set.init.plain F.entry_set_init (check_set_init_1 ty0 ?_)) fun r2 s2 hr2 => ?_
    · obtain ⟨⟨oc, od, odt, osl⟩, hol, hcl, nl, hdl⟩ := hl
      simp only at hcl hdl
      subst hcl hdl
      have lS : l < s.heap.objs.size := Heap.lt_size hol
      have hol1 : (s.heap.push (emptySet w)).get? l = some { cls := .type "list", dict := od, data := .seq xs nl, slots := osl } := Heap.get?_push_of_some _ hol
      have hl1 : (s.heap.push (emptySet w)).IsList l xs := ⟨_, hol1, rfl, nl, rfl⟩
      have w1 := F.sub_list_set
      have w2 := F.sub_list_frozenset
      have w3 : (Value.type "list" == Value.type "dict") = false := by decide
      unfold Builtin.«set.__init__» noKeywords Builtin.Frozenset.updateFrom
      generalize hPI : pyIter = PI
      wp_walk
      subst hPI
      refine wpAny_pyIter_list hl1 ?_
      refine wpAny_bind (wpAny_runValue ?_)
      have calm3 : A.in1.in1.in1.handled = none := by simp [calm]
      have sz1 : (s.heap.push (emptySet w)).objs.size = s.heap.objs.size + 1 := Heap.size_push ..
      have ne1 : l ≠ (s.heap.push (emptySet w)).objs.size := by
        rw [sz1]
        exact Nat.ne_of_lt (Nat.lt_succ_of_lt lS)
      have nin : s.heap.objs.size ∉ [(s.heap.push (emptySet w)).objs.size, l] := by
        rw [sz1]
        intro z
        rcases List.mem_cons.mp z with z | z
        · exact absurd z (Nat.ne_of_lt (Nat.lt_succ_self _))
        · exact absurd (List.mem_singleton.mp z) (Nat.ne_of_gt lS)
      have val : ∀ (i : Nat) (v : Value), xs[i]? = some v → ∃ k t, ns[i]? = some k ∧ v = .int k t := by
        intro i v hv
        have hin : i < ns.length := size ▸ (Array.getElem?_eq_some_iff.mp hv).1
        obtain ⟨t, e⟩ := PyProof.Rows.IntsAre.int_at hi i v (by rw [Array.getElem?_toList]; exact hv)
        exact ⟨ns.getD i 0, t, by simp [List.getD, List.getElem?_eq_getElem hin], e⟩
      refine set_update_ints ((Walks.list calm3 _ l ne1 xs).toS) s.heap.objs.size nin ns size few val (xs.size - 0) 0 _ rfl (Nat.zero_le _)
        ⟨⟨_, Heap.get?_push_size _ rfl, rfl, rfl⟩, hl1.push _⟩ ?start ?done
      case start => exact ⟨0, Nat.le_refl 0, setR_new_at (Heap.get?_push_of_some _ at0)⟩
      case done =>
        intro s' c' mv hc' done
        obtain ⟨h', g', d', tk', os'⟩ := s'
        obtain rfl : g' = s.gens := mv.gens
        obtain rfl : d' = s.drawn := mv.drawn
        obtain rfl : os' = s.os := mv.os
        show wpAny _ _ _ _ _ _
        refine wpAny_pure ?_
        show wpAny _ _ (ret Value.none) _ _ _
        refine wpAny_pure ⟨rfl, h', tk', rfl, ⟨c', size ▸ hc', done⟩, fun b o e => mv.heap b o ?_ (Heap.get?_push_of_some _ (Heap.get?_push_of_some _ e))⟩
        have hb := Heap.lt_size e
        intro z
        rcases List.mem_cons.mp z with z | z
        · exact absurd z (Nat.ne_of_lt hb)
        · rw [List.mem_singleton, sz1] at z
          exact absurd z (Nat.ne_of_lt (Nat.lt_succ_of_lt hb))
    · match r2, hr2 with
      | .error e, hr2 => exact hr2
      | .ok .next, hr2 => exact hr2.elim
      | .ok .brk, hr2 => exact hr2.elim
      | .ok .cont, hr2 => exact hr2.elim
      | .ok (.ret r), hr2 =>
        obtain ⟨rfl, h', tk, rfl, hd⟩ := hr2
        repeat (any_goals (first | assumption | wp_step))
        exact goal _ _ hd
end
section
variable {X : Cx}
/-- set(xs), xs a list of ints -/
def rSetL (K : PySem.W.Frag) (w : World) : List V → Hp → VK → Prop := fun vs H Q => ∃ (l : Addr) (ns : List Int), vs = [V.ref l] ∧ SqL K H l (ns.map V.int) ∧ ns.length ≤ 60 ∧
  ∀ a c, H a = none → c ≤ ns.length → Q (.ref a) (upd H a (SetO w a (fun j => decide (j ∈ ns)) c))
theorem cr_setL (hc : X.calm = true) : CallR X (.type "set") (rSetL X.K X.w) := by
  intro pins s σ H vs us Q I r h
  obtain ⟨l, ns, rfl, hl, hf, q⟩ := h
  rw [Vals.ref1 r]
  obtain ⟨its, rv, pl, hz⟩ := I.list hl
  have hi : IntsAre its.toArray.toList ns := ints_of_vals rv
  refine set_of_list (P := X.prog) (w := X.w) ns (I.ok.hd hc) pl.isList hi (by unfold scanBound; omega) fun h' tk hd => ?_
  obtain ⟨⟨c, hcn, R⟩, keep⟩ := hd
  exact ⟨.ref s.heap.objs.size, upd H s.heap.objs.size (SetO X.w s.heap.objs.size (fun j => decide (j ∈ ns)) c), I.laid (t' := tk) keep (Nat.le_refl _) (setO_new R), rfl, q _ c (I.hok.fresh (Nat.le_refl _)) hcn⟩
end
end Nws
namespace Nws
open PySem L2
abbrev sAlph : Stmt := top 24
abbrev sWord : Stmt := top 26
/-- all but the draws at d stands as it stood; the draws are some list -/
def KD (d : Addr) (H H' : Hp) : Prop := (∀ b o, H b = some o → b ≠ d → H' b = some o) ∧ ∃ ds : List Int, H' d = some (.lst (ds.map V.int)) ∧ ds.length ≤ 80
theorem KD.refl {d : Addr} {H : Hp} {ds : List Int} (h : H d = some (.lst (ds.map V.int))) (hl : ds.length ≤ 80) : KD d H H := ⟨fun _ _ h _ => h, ds, h, hl⟩
theorem KD.trans {d : Addr} {H H1 H2 : Hp} (a : KD d H H1) (b : KD d H1 H2) : KD d H H2 := ⟨fun c o h n => b.1 c o (a.1 c o h n) n, b.2⟩
theorem KD.take {d : Addr} {H H' : Hp} (a : KD d H H') (ds : List Int) (hl : ds.length ≤ 80) : KD d H (upd H' d (.lst (ds.map V.int))) :=
  ⟨fun b o h n => by rw [upd_ne n]; exact a.1 b o h n, ds, upd_same, hl⟩
theorem KD.new {d p : Addr} {H H' : Hp} {o : HO} (a : KD d H H') (h : H' p = none) : KD d H (upd H' p o) := by
  obtain ⟨a1, ds, hd, hl⟩ := a
  have hn : d ≠ p := ne_of_none hd h
  exact ⟨fun b u e n => by rw [upd_ne (ne_of_none (a1 b u e n) h)]; exact a1 b u e n, ds, by rw [upd_ne hn]; exact hd, hl⟩
theorem KD.put {d p : Addr} {H H' : Hp} {o : HO} (a : KD d H H') (h : H p = none) (hn : d ≠ p) : KD d H (upd H' p o) := by
  obtain ⟨a1, ds, hd, hl⟩ := a
  exact ⟨fun b u e n => by rw [upd_ne (ne_of_none e h)]; exact a1 b u e n, ds, by rw [upd_ne hn]; exact hd, hl⟩
theorem KD.same {d : Addr} {H H1 H2 : Hp} (a : KD d H H1) (e : Same H1 H2) : KD d H H2 := by
  obtain ⟨a1, ds, hd, hl⟩ := a
  exact ⟨fun b u h n => e _ _ (a1 b u h n), ds, e _ _ hd, hl⟩
theorem KD.free {d l : Addr} {H H' : Hp} (a : KD d H H') (h : H' l = none) (hd : l ≠ d) : H l = none := by
  cases q : H l with
  | none => rfl
  | some o =>
    rw [a.1 l o q hd] at h
    cases h
theorem KD.kt {d : Addr} {H H' : Hp} {xs : List V} (a : KD d H H') (hd : H d = some (.lst xs)) : KT H H' := fun b vs h => a.1 b _ h (ne_of h hd (by intro z; cases z))
def spAlph : Sp := fun vs H Q _ => ∃ (d : Addr) (ds : List Int), vs = [.ref d, .int 4, .int 5] ∧ H d = some (.lst (ds.map V.int)) ∧ ds.length ≤ 80 ∧
  ∀ H' t l n (lets : List (List Nat)) ws, KD d H H' → H' t = some (.tup [.int ((n : Nat) : Int), .ref l]) → H' l = some (.lst ws) → H l = none → LetsV H' lets ws → Gsp.Alph n lets → Q (.ref t) H'
theorem scAlph : FnScope ["_law_draws_here", "_law_places", "_law_most", "_law_count", "_law_letters", "_law_k", "_law_size", "_law_there", "_law_j"] ["_law_draws_here", "_law_places", "_law_most"] (defScope sAlph) :=
  ⟨rfl, rfl, rfl, by decide +kernel, rfl, by decide +kernel, by decide +kernel⟩
def spWord : Sp := fun vs H Q _ => ∃ (d : Addr) (ds : List Int) (m : Nat), vs = [.ref d, .int m, .int 16] ∧ H d = some (.lst (ds.map V.int)) ∧ ds.length ≤ 80 ∧ 1 ≤ m ∧
  ∀ H' t (x : List Nat), KD d H H' → H' t = some (.tup ((castL x).map V.int)) → x.length ≤ 16 → (∀ a, a ∈ x → a < m) → Q (.ref t) H'
theorem scWord : FnScope ["_law_draws_here", "_law_letters", "_law_most", "_law_k"] ["_law_draws_here", "_law_letters", "_law_most"] (defScope sWord) := ⟨rfl, rfl, rfl, by decide +kernel, rfl, by decide +kernel, by decide +kernel⟩
theorem castL_push (xs : List Nat) (y : Nat) : (castL (xs ++ [y])).map V.int = (castL xs).map V.int ++ [V.int (y : Int)] := by simp [castL]
/-- the sizes -/
theorem size_at {v : Nat} (h : v < 6) : ∃ z : Nat, ([V.int 1, V.int 1, V.int 1, V.int 2, V.int 2, V.int 3] : List V)[v]? = some (V.int (z : Int)) ∧ 1 ≤ z ∧ z ≤ 3 := by
  match v, h with
  | 0, _ => exact ⟨1, rfl, by decide, by decide⟩
  | 1, _ => exact ⟨1, rfl, by decide, by decide⟩
  | 2, _ => exact ⟨1, rfl, by decide, by decide⟩
  | 3, _ => exact ⟨2, rfl, by decide, by decide⟩
  | 4, _ => exact ⟨2, rfl, by decide, by decide⟩
  | 5, _ => exact ⟨3, rfl, by decide, by decide⟩
  | n + 6, h => omega
/-- ascending ints that are just those of a list of numbers are a list of numbers -/
theorem asc_of {ns : List Int} {xs : List Nat} (hp : ns.Pairwise (· < ·)) (hm : ∀ k : Int, k ∈ ns ↔ decide (k ∈ castL xs) = true) :
    ∃ l : List Nat, castL l = ns ∧ l.Pairwise (· < ·) ∧ ∀ p, p ∈ l ↔ p ∈ xs := by
  have h0 : ∀ k, k ∈ ns → ∃ p : Nat, k = (p : Int) := fun k hk => by
    have := (hm k).mp hk
    rw [decide_eq_true_iff] at this
    obtain ⟨p, _, e⟩ := List.mem_map.mp this
    exact ⟨p, e.symm⟩
  have e : castL (ns.map Int.toNat) = ns := by
    unfold castL
    rw [List.map_map]
    conv => rhs; rw [← List.map_id ns]
    refine List.map_congr_left fun k hk => ?_
    obtain ⟨p, rfl⟩ := h0 k hk
    rfl
  refine ⟨ns.map Int.toNat, e, ?_, fun p => ?_⟩
  · rw [List.pairwise_map]
    refine List.Pairwise.imp_of_mem ?_ hp
    intro a b ha hb hab
    obtain ⟨p, rfl⟩ := h0 a ha
    obtain ⟨q, rfl⟩ := h0 b hb
    show p < q
    omega
  · rw [← mem_castL, e, hm, decide_eq_true_iff, mem_castL]
section
variable {P : Program} {w : World} {K : PySem.W.Frag} {mg : Str → Option Value} {base : Heap} {CK CN CA : Addr}
theorem ok_word {f fT : Addr} {fd fdT : FuncData} (F : Fun K "_law_word" "_law_word" sWord f fd) (T : Txt K mg CK CN CA) (cT : Cal P w K mg base 1 "_law_take" ["_law_draws_here", "_law_limit"] spTake fT fdT) :
    FnOk P w K mg base CX0 2 f fd ["_law_draws_here", "_law_letters", "_law_most"] spWord := by
  refine F.ok scWord (fun vs H Q E h => ?_) (fun cdv A outer s H vs Q E hr h => ?_)
  · obtain ⟨d, ds, m, rfl, _⟩ := h
    rfl
  · obtain ⟨d, ds, m, rfl, hd, hl, hm, q⟩ := h
    have nd := scWord.nd
    refine ⟨_, pss_one (ps_ret (pe_callTy cr_tupOf (by rfl) T.tuple bt_tuple (pa_cons (pe_lc (own := [("_law_k", 3)]) (g := gName 3) (tt := tYes) rfl nd
      (pi_range1 rfl T.range (pa_cons (pe_call cT.ok hr rfl cT.mg cT.kp cT.b .nil pass0 (pa_cons (pv 0) (pa_cons (pe_op op_add (pv 2) pe_int) pa_nil))) pa_nil))
      (blkOk_by (N := ["_law_draws_here", "_law_letters", "_law_most", "_law_k"]) (sc := defScope sWord) (by decide +kernel)) (fun _ _ _ _ _ => pg_name (i := 3) nd rfl (Or.inl rfl)) (fun _ _ _ _ _ => pts_nil)
      (fun _ _ _ _ _ => pe_call cT.ok hr rfl cT.mg cT.kp cT.b .nil pass0 (pa_cons (pv 0) (pa_cons (pv 1) pa_nil)))) pa_nil))), ?_⟩
    refine ⟨_, rfl, _, rfl, _, _, rfl, rfl, d, ds, 17, rfl, hd, hl, by decide, fun v ds1 hv hl1 => ?_⟩
    have kd1 : KD d H (upd H d (.lst (ds1.map V.int))) := (KD.refl hd hl).take ds1 hl1
    refine ⟨_, rfl, by omega, by omega, fun D hD => ?_⟩
    generalize upd H d (.lst (ds1.map V.int)) = H1 at kd1 hD ⊢
    have ndD : d ≠ D := by
      obtain ⟨_, ds2, h2, _⟩ := kd1
      exact ne_of_none h2 hD
    have nH : H D = none := kd1.free hD ndD.symm
    refine lc_range (lo := 0) (n := v) (fun i H' => KD d H H' ∧ ∃ x : List Nat, H' D = some (.lst ((castL x).map V.int)) ∧ x.length = i ∧ ∀ a, a ∈ x → a < m) ⟨kd1.new hD, [], upd_same, rfl, fun a z => by cases z⟩ ?_ ?_
    · rintro i H' hi ⟨kd, x, hx, hxl, hxm⟩
      obtain ⟨_, ds2, h2, l2⟩ := id kd
      refine ⟨rfl, _, rfl, _, rfl, d, ds2, m, rfl, h2, l2, hm, fun u ds3 hu hl3 => ⟨(castL x).map V.int, by rw [upd_ne ndD.symm]; exact hx, ?_, (kd.take ds3 hl3).put nH ndD, x ++ [u], ?_, by rw [List.length_append, hxl]; rfl, fun a ha => ?_⟩⟩
      · unfold castL
        rw [List.length_map, List.length_map, hxl]
        exact small1000 (by omega)
      · rw [upd_same, castL_push]
      · rcases List.mem_append.mp ha with z | z
        · exact hxm a z
        · rw [List.mem_singleton.mp z]
          exact hu
    · rintro H' ⟨kd, x, hx, hxl, hxm⟩
      refine ⟨D, _, rfl, .inl ⟨SqL.of hx, fun t ht => ?_⟩⟩
      exact q _ t x (kd.new ht) upd_same (by omega) hxm
theorem ok_alph {f fT : Addr} {fd fdT : FuncData} (F : Fun K "_law_alphabet" "_law_alphabet" sAlph f fd) (T : Txt K mg CK CN CA) (cT : Cal P w K mg base 1 "_law_take" ["_law_draws_here", "_law_limit"] spTake fT fdT) :
    FnOk P w K mg base CX0 2 f fd ["_law_draws_here", "_law_places", "_law_most"] spAlph := by
  refine F.ok scAlph (fun vs H Q E h => ?_) (fun cdv A outer s H vs Q E hr h => ?_)
  · obtain ⟨d, ds, rfl, _⟩ := h
    rfl
  · obtain ⟨d, ds, rfl, hd, hl, q⟩ := h
    have nd := scAlph.nd
    refine ⟨_, pss_cons (ps_set (i := 3) nd rfl (.inr rfl) (pe_op op_add pe_int (pe_call cT.ok hr rfl cT.mg cT.kp cT.b .nil pass0 (pa_cons (pv 0) (pa_cons (pv 1) pa_nil))))) <|
      pss_cons (ps_set (i := 4) nd rfl (.inl rfl) (pe_lst pa_nil)) <|
      pss_cons (ps_for PassesOwn.never rfl (pi_range1 rfl T.range (pa_cons (pe_op op_add pe_int (pe_call cT.ok hr rfl cT.mg cT.kp cT.b .nil pass0 (pa_cons (pv 0) (pa_cons (pv 2) pa_nil)))) pa_nil)) (pg_name (i := 5) nd rfl (.inl rfl))
        (pss_cons (ps_set (i := 6) nd rfl (.inl rfl) (pe_ix ix_list (pe_lst (pa_cons pe_int (pa_cons pe_int (pa_cons pe_int (pa_cons pe_int (pa_cons pe_int (pa_cons pe_int pa_nil)))))))
          (pe_call cT.ok hr rfl cT.mg cT.kp cT.b .nil pass0 (pa_cons (pv 0) (pa_cons pe_int pa_nil))) (fun _ _ => rfl))) <|
         pss_cons (ps_setLc (i := 7) (own := [("_law_j", 8)]) (g := gName 8) (tt := tYes) (by rfl) nd rfl rfl (sw_true rfl rfl rfl (by decide +kernel)) (pi_range1 rfl T.range (pa_cons (pv 6) pa_nil))
           (blkOk_by (N := ["_law_draws_here", "_law_places", "_law_most", "_law_count", "_law_letters", "_law_k", "_law_size", "_law_there", "_law_j"]) (sc := defScope sAlph) (by decide +kernel))
           (fun _ _ _ _ _ => pg_name (i := 8) nd rfl (Or.inl rfl)) (fun _ _ _ _ _ => pts_nil) (fun _ _ _ _ _ => pe_call cT.ok hr rfl cT.mg cT.kp cT.b .nil pass0 (pa_cons (pv 0) (pa_cons (pv 3) pa_nil)))) <|
         pss_one (ps_expr (pe_bm PySem.F.plainAttrs_list PySem.F.slot_list_append PySem.F.type_list_append mt_append (pv 4) (pa_cons (pe_callTy cr_tupOf (by rfl) T.tuple bt_tuple (pa_cons
           (pe_callB (cr_sortedSet rfl) (by rfl) T.sorted bt_sorted (pa_cons (pe_callTy (cr_setL rfl) (by rfl) T.set bt_set (pa_cons (pv 7) pa_nil)) pa_nil)) pa_nil)) pa_nil))))) <|
      pss_one (ps_ret (pe_tup (pa_cons (pv 3) (pa_cons (pv 4) pa_nil)))), ?_⟩
    -- count
    refine ⟨_, rfl, _, rfl, d, ds, 4, rfl, hd, hl, by decide, fun v0 ds1 hv0 hl1 => ⟨_, _, rfl, rfl, ?_⟩⟩
    have ecount : (1 : Int) + (v0 : Int) = ((v0 + 1 : Nat) : Int) := by omega
    have kd1 : KD d H (upd H d (.lst (ds1.map V.int))) := (KD.refl hd hl).take ds1 hl1
    generalize upd H d (.lst (ds1.map V.int)) = H1 at kd1 ⊢
    -- letters
    refine ⟨Nat.zero_le _, fun l4 hl4 => ?_⟩
    have nd4 : d ≠ l4 := by
      obtain ⟨_, ds2, h2, _⟩ := kd1
      exact ne_of_none h2 hl4
    have n4 : H l4 = none := kd1.free hl4 nd4.symm
    have kd2 : KD d H (upd H1 l4 (.lst [])) := kd1.new hl4
    have h4 : (upd H1 l4 (.lst [])) l4 = some (.lst []) := upd_same
    generalize upd H1 l4 (.lst []) = H2 at kd2 h4 ⊢
    obtain ⟨_, ds2, h2, l2⟩ := id kd2
    refine ⟨_, rfl, _, rfl, d, ds2, 5, rfl, h2, l2, by decide, fun v1 ds3 hv1 hl3 => ⟨_, _, rfl, rfl, _, rfl, by omega, by omega, ?_⟩⟩
    have kd3 : KD d H (upd H2 d (.lst (ds3.map V.int))) := kd2.take ds3 hl3
    have h43 : (upd H2 d (.lst (ds3.map V.int))) l4 = some (.lst []) := by rw [upd_ne nd4.symm]; exact h4
    generalize upd H2 d (.lst (ds3.map V.int)) = H3 at kd3 h43 ⊢
    refine for_range (lo := 0) (n := ((1 : Int) + (v1 : Int)).toNat) (fun i σ H' => ∃ x5 x6 x7 x8, σ = [some (.ref d), some (.int 4), some (.int 5), some (.int (1 + (v0 : Int))), some (.ref l4), x5, x6, x7, x8] ∧ KD d H H' ∧
      ∃ (lets : List (List Nat)) (ws : List V), H' l4 = some (.lst ws) ∧ LetsV H' lets ws ∧ lets.length = i ∧ ∀ l, l ∈ lets → l ≠ [] ∧ (∀ p, p ∈ l → p < v0 + 1) ∧ l.Pairwise (· < ·))
      ⟨_, _, _, _, rfl, kd3, [], [], h43, ⟨rfl, fun j x z => by simp at z⟩, rfl, fun l z => by cases z⟩ ?_ ?_
    · rintro i σ H4 hi ⟨x5, x6, x7, x8, rfl, kd4, lets, ws, h44, hW, hll, hval⟩
      -- the size
      refine ⟨by show 6 ≤ sizeLine; decide, fun l6 hl6 => ?_⟩
      have kd5 : KD d H4 (upd H4 l6 (.lst [V.int 1, V.int 1, V.int 1, V.int 2, V.int 2, V.int 3])) := by
        obtain ⟨_, ds5, h5, l5⟩ := kd4
        exact (KD.refl h5 l5).new hl6
      obtain ⟨_, ds5, h5, l5⟩ := id kd5
      have nd6 : d ≠ l6 := by
        obtain ⟨_, ds6, h6, _⟩ := kd4
        exact ne_of_none h6 hl6
      refine ⟨_, rfl, d, ds5, 6, rfl, h5, l5, by decide, fun v2 ds6 hv2 hl6' => ?_⟩
      obtain ⟨z, hz, hz1, hz3⟩ := size_at hv2
      refine ⟨l6, _, _, _, rfl, rfl, SqL.of (by rw [upd_ne nd6.symm]; exact upd_same), atI_nat hz, ?_⟩
      have kd6 := kd5.take ds6 hl6'
      generalize upd (upd H4 l6 (.lst [V.int 1, V.int 1, V.int 1, V.int 2, V.int 2, V.int 3])) d (.lst (ds6.map V.int)) = H5 at kd6 ⊢
      -- there
      refine ⟨_, rfl, _, rfl, by omega, by omega, fun D hD => ?_⟩
      have ndD : d ≠ D := by
        obtain ⟨_, ds7, h7, _⟩ := kd6
        exact ne_of_none h7 hD
      have nH4 : H4 D = none := kd6.free hD ndD.symm
      refine lc_range (lo := 0) (n := z) (fun i H' => KD d H4 H' ∧ ∃ x : List Nat, H' D = some (.lst ((castL x).map V.int)) ∧ x.length = i ∧ ∀ a, a ∈ x → a < v0 + 1) ⟨kd6.new hD, [], upd_same, rfl, fun a z => by cases z⟩ ?_ ?_
      · rintro j H' hj ⟨kd, x, hx, hxl, hxm⟩
        obtain ⟨_, ds7, h7, l7⟩ := id kd
        refine ⟨rfl, _, rfl, _, rfl, d, ds7, v0 + 1, by rw [← ecount]; rfl, h7, l7, by omega, fun u ds8 hu hl8 => ⟨(castL x).map V.int, by rw [upd_ne ndD.symm]; exact hx, ?_, (kd.take ds8 hl8).put nH4 ndD, x ++ [u], ?_, by rw [List.length_append, hxl]; rfl, fun a ha => ?_⟩⟩
        · unfold castL
          rw [List.length_map, List.length_map, hxl]
          exact small1000 (by omega)
        · rw [upd_same, castL_push]
        · rcases List.mem_append.mp ha with y | y
          · exact hxm a y
          · rw [List.mem_singleton.mp y]
            exact hu
      rintro H6 ⟨kd7, x, hx, hxl, hxm⟩
      -- tuple(sorted(set(there)))
      obtain ⟨_, ds9, h9, l9⟩ := id kd4
      have h46 : H6 l4 = some (.lst ws) := kd7.1 _ _ h44 nd4.symm
      refine ⟨_, rfl, .inl ⟨rfl, _, SqL.of h46⟩, _, rfl, D, castL x, rfl, SqL.of hx, by unfold castL; rw [List.length_map]; omega, fun sa c hsa hc => ?_⟩
      have hclen : (castL x).length = z := by unfold castL; rw [List.length_map, hxl]
      refine ⟨sa, _, c, rfl, upd_same, by omega, fun ns so hp hmem hnl hso => ?_⟩
      obtain ⟨l, rfl, hasc, hml⟩ := asc_of hp hmem
      refine ⟨so, _, rfl, .inl ⟨SqL.of upd_same, fun tp htp => ?_⟩⟩
      have e1 : Same H6 (upd H6 sa (SetO w sa (fun j => decide (j ∈ castL x)) c)) := same_new (Same.refl _) hsa
      have e2 : Same H6 (upd (upd H6 sa (SetO w sa (fun j => decide (j ∈ castL x)) c)) so (.lst ((castL l).map V.int))) := same_new e1 hso
      have e3 : Same H6 (upd (upd (upd H6 sa (SetO w sa (fun j => decide (j ∈ castL x)) c)) so (.lst ((castL l).map V.int))) tp (.tup ((castL l).map V.int))) := same_new e2 htp
      have htp1 : (upd (upd (upd H6 sa (SetO w sa (fun j => decide (j ∈ castL x)) c)) so (.lst ((castL l).map V.int))) tp (.tup ((castL l).map V.int))) tp = some (.tup ((castL l).map V.int)) := upd_same
      have fin : ∀ H7 : Hp, Same H6 H7 → H7 tp = some (.tup ((castL l).map V.int)) → KD d H (upd H7 l4 (.lst (ws ++ [.ref tp]))) ∧ ∃ (lets : List (List Nat)) (ws' : List V), (upd H7 l4 (.lst (ws ++ [.ref tp]))) l4 = some (.lst ws') ∧
          LetsV (upd H7 l4 (.lst (ws ++ [.ref tp]))) lets ws' ∧ lets.length = i + 1 ∧ ∀ l, l ∈ lets → l ≠ [] ∧ (∀ p, p ∈ l → p < v0 + 1) ∧ l.Pairwise (· < ·) := by
        intro H7 e3 htp1
        have kd8 := kd7.same e3
        have h48 := e3 _ _ h46
        have kt : KT H4 (upd H7 l4 (.lst (ws ++ [.ref tp]))) := (kd8.kt h9).put fun vs y => by rw [h48] at y; cases y
        have net : tp ≠ l4 := ne_of htp1 h48 (by intro y; cases y)
        refine ⟨(kd4.trans kd8).put n4 nd4, lets ++ [l], ws ++ [.ref tp], upd_same, ⟨by rw [List.length_append, List.length_append, hW.1]; rfl, fun j y hy => ?_⟩, by rw [List.length_append, hll]; rfl, fun l' hl' => ?_⟩
        · refine items_push (R := fun j y => TI (upd H7 l4 (.lst (ws ++ [.ref tp]))) y (castL ((lets ++ [l]).getD j []))) (acc := ws) (y := .ref tp) (i := lets.length) hW.1 (fun j' y' hj' => ?_) ?_ j y hy
          · have hlt : j' < lets.length := by
              have := (List.getElem?_eq_some_iff.mp hj').1
              rw [hW.1] at this
              exact this
            have e5 : (lets ++ [l]).getD j' [] = lets.getD j' [] := by
              simp [List.getD, List.getElem?_append_left hlt]
            rw [e5]
            exact (hW.2 j' y' hj').kt kt
          · have e5 : (lets ++ [l]).getD lets.length [] = l := by
              simp [List.getD]
            rw [e5]
            exact ⟨tp, rfl, by rw [upd_ne net]; exact htp1⟩
        · rcases List.mem_append.mp hl' with y | y
          · exact hval l' y
          · rw [List.mem_singleton.mp y]
            refine ⟨fun e => ?_, fun p hp' => hxm p ((hml p).mp hp'), hasc⟩
            have : ∃ a, a ∈ x := List.exists_mem_of_length_pos (by omega)
            obtain ⟨a, ha⟩ := this
            have := (hml a).mpr ha
            rw [e] at this
            cases this
      refine ⟨l4, ws, _, rfl, rfl, e3 _ _ h46, by rw [hW.1, hll]; exact small1000 (by omega), ?_⟩
      obtain ⟨g1, g2⟩ := fin _ e3 htp1
      exact ⟨_, _, _, _, rfl, g1, g2⟩
    · rintro σ H4 ⟨x5, x6, x7, x8, rfl, kd4, lets, ws, h44, hW, hll, hval⟩
      refine ⟨_, rfl, _, rfl, by show 2 ≤ sizeLine; decide, fun t ht => ?_⟩
      refine q _ t l4 (v0 + 1) lets ws (kd4.new ht) (by rw [upd_same, ← ecount]) (by rw [upd_ne (ne_of_none h44 ht)]; exact h44) n4 (hW.kt (KT.new (.of (Same.refl _)) ht)) ⟨by omega, by omega, by omega, by omega, fun l h => (hval l h).1, fun l h => (hval l h).2.1, fun l h => (hval l h).2.2⟩
end
end Nws
namespace Nws
open PySem L2
abbrev sFree : Stmt := top 25
abbrev sBelow : Stmt := top 27
def freeB (la lb : List Nat) : Bool := !(la.any fun q => decide (q ∈ lb))
def spFree : Sp := fun vs H Q _ => ∃ (l : Addr) (ws : List V) (lets : List (List Nat)) (a b : Nat), vs = [.ref l, .int a, .int b] ∧ H l = some (.lst ws) ∧ LetsV H lets ws ∧ a < lets.length ∧ b < lets.length ∧ (lets.getD a []).length ≤ 1000 ∧
  ∀ H', Same H H' → Q (.bl (freeB (lets.getD a []) (lets.getD b []))) H'
theorem scFree : FnScope ["_law_letters", "_law_first", "_law_second", "_law_place"] ["_law_letters", "_law_first", "_law_second"] (defScope sFree) := ⟨rfl, rfl, rfl, by decide +kernel, rfl, by decide +kernel, by decide +kernel⟩
theorem castL_len (xs : List Nat) : ((castL xs).map V.int).length = xs.length := by simp [castL]
theorem castL_get {l : List Nat} {i : Nat} {y : V} (h : ((castL l).map V.int)[i]? = some y) : ∃ p, l[i]? = some p ∧ y = V.int (p : Int) := by
  simp only [castL, List.map_map, List.getElem?_map] at h
  cases e : l[i]? with
  | none => rw [e] at h; cases h
  | some p => rw [e] at h; exact ⟨p, rfl, (Option.some.inj h).symm⟩
theorem inV_cast1 (p : Nat) (xs : List Nat) : inV (.int (p : Int)) ((castL xs).map V.int) = decide (p ∈ xs) := by
  have := inV_cast p xs
  rw [Int.zero_add] at this
  exact this
theorem take_filter {l : List Nat} {i p : Nat} {c : Nat → Bool} (h : l[i]? = some p) : (l.take (i + 1)).filter c = (l.take i).filter c ++ (if c p then [p] else []) := by
  rw [List.take_succ, h, List.filter_append]
  simp [List.filter_cons]
/-- rows of booleans, each a list of its own -/
def RowsAt (H : Hp) (T : Nat) (rs : List Addr) (B : Nat → Nat → Bool) : Prop := ∀ (i : Nat) r, rs[i]? = some r → H r = some (.lst ((List.range T).map fun c => V.bl (B i c)))
def spBelow : Sp := fun vs H Q _ => ∃ (l t : Addr) (ws : List V) (n : Nat) (lets : List (List Nat)) (x : List Nat), vs = [.ref l, .ref t] ∧ H l = some (.lst ws) ∧ LetsV H lets ws ∧ Gsp.Alph n lets ∧ H t = some (.tup ((castL x).map V.int)) ∧
  x.length ≤ 16 ∧ Gsp.Word lets.length x ∧
  ∀ H' g rs, Same H H' → H' g = some (.lst (rs.map V.ref)) → rs.length = x.length → RowsAt H' x.length rs (fun i c => Gsp.blb (Gsp.plOf lets x) i c) → Q (.ref g) H'
theorem scBelow : FnScope ["_law_letters", "_law_word_here", "_law_size", "_law_j", "_law_k", "_law_found", "_law_i"] ["_law_letters", "_law_word_here"] (defScope sBelow) := ⟨rfl, rfl, rfl, by decide +kernel, rfl, by decide +kernel, by decide +kernel⟩
theorem bls_succ (i : Nat) (f : Nat → Bool) : ((List.range (i + 1)).map fun c => V.bl (f c)) = ((List.range i).map fun c => V.bl (f c)) ++ [V.bl (f i)] := by simp [List.range_succ]
theorem bls_at {T c : Nat} {f : Nat → Bool} (h : c < T) : ((List.range T).map fun c => V.bl (f c))[c]? = some (V.bl (f c)) := by simp [List.getElem?_map, List.getElem?_range h]
theorem word_at {lets : List (List Nat)} {x : List Nat} {j : Nat} (W : Gsp.Word lets.length x) (h : j < x.length) : ∃ a, x[j]? = some a ∧ a < lets.length ∧ lets.getD a [] = Gsp.plOf lets x (j + 1) := by
  refine ⟨x[j], List.getElem?_eq_getElem h, W.lt _ (List.getElem_mem h), ?_⟩
  show _ = Gsp.letAt lets (x.getD j 0)
  simp [Gsp.letAt, List.getD, List.getElem?_eq_getElem h]
theorem RowsAt.same {H H' : Hp} {T : Nat} {rs : List Addr} {B : Nat → Nat → Bool} (h : RowsAt H T rs B) (e : Same H H') : RowsAt H' T rs B := fun i r hr => e _ _ (h i r hr)
theorem RowsAt.congr {H : Hp} {T : Nat} {rs : List Addr} {B B' : Nat → Nat → Bool} (h : RowsAt H T rs B) (e : ∀ i c, c < T → B i c = B' i c) : RowsAt H T rs B' := fun i r hr => by
  rw [h i r hr]
  congr 2
  refine List.map_congr_left fun c hc => ?_
  rw [e i c (List.mem_range.mp hc)]
theorem RowsAt.store {H : Hp} {T : Nat} {rs : List Addr} {B B' : Nat → Nat → Bool} {i k : Nat} {r : Addr} (h : RowsAt H T rs B) (nd : rs.Nodup) (hr : rs[i]? = some r) (hk : k < T) (e : ∀ i' c, i' ≠ i → B' i' c = B i' c)
    (e2 : ∀ c, B' i c = if c = k then true else B i c) : RowsAt (upd H r (.lst (((List.range T).map fun c => V.bl (B i c)).set k (V.bl true)))) T rs B' := by
  intro i' r' hr'
  by_cases hi : i' = i
  · subst hi
    rw [hr] at hr'
    cases hr'
    rw [upd_same]
    congr 2
    apply List.ext_getElem
    · simp
    · intro c h1 h2
      have hc : c < T := by simpa using h2
      rw [List.getElem_set]
      simp only [List.getElem_map, List.getElem_range, e2]
      by_cases hck : k = c
      · subst hck
        simp
      · rw [if_neg hck, if_neg (fun z => hck z.symm)]
  · have hne : r' ≠ r := by
      intro z
      subst z
      obtain ⟨a1, b1⟩ := List.getElem?_eq_some_iff.mp hr
      obtain ⟨a2, b2⟩ := List.getElem?_eq_some_iff.mp hr'
      exact hi ((List.getElem_inj nd).mp (b2.trans b1.symm))
    rw [upd_ne hne, h i' r' hr']
    congr 2
    refine List.map_congr_left fun c _ => ?_
    rw [e i' c hi]
section
variable {P : Program} {w : World} {K : PySem.W.Frag} {mg : Str → Option Value} {base : Heap} {CK CN CA : Addr}
theorem ok_free {f : Addr} {fd : FuncData} (F : Fun K "_law_free" "_law_free" sFree f fd) (T : Txt K mg CK CN CA) : FnOk P w K mg base CX0 1 f fd ["_law_letters", "_law_first", "_law_second"] spFree := by
  refine F.ok scFree (fun vs H Q E h => ?_) (fun cdv A outer s H vs Q E hr h => ?_)
  · obtain ⟨l, ws, lets, a, b, rfl, _⟩ := h
    rfl
  · obtain ⟨l, ws, lets, a, b, rfl, hl, hW, ha, hb, hlen, q⟩ := h
    have nd := scFree.nd
    refine ⟨_, pss_one (ps_ret (pe_cmp (pc_eqI (pe_callB cr_lenS (by rfl) T.len PySem.boot_len (pa_cons (pe_lc (own := [("_law_place", 3)]) (g := gName 3) rfl nd (pi_tup (pe_ix ix_list (pv 0) (pv 1) (fun _ _ => rfl)))
      (blkOk_by (N := ["_law_letters", "_law_first", "_law_second", "_law_place"]) (sc := defScope sFree) (by decide +kernel)) (fun _ _ _ _ _ => pg_name (i := 3) nd rfl (Or.inl rfl))
      (fun _ _ _ _ _ => pts_one (pt_cmpR (r := rIn K false) op_in_seq (pv 3) (pe_ix (r := rIxL K) ix_list (pv 0) (pv 2) (fun _ _ => rfl)) rfl)) (fun _ _ _ _ _ => pv 3)) pa_nil)) pe_int))), ?_⟩
    obtain ⟨va, hva⟩ : ∃ v, ws[a]? = some v := ⟨_, List.getElem?_eq_getElem (by rw [hW.1]; exact ha)⟩
    obtain ⟨vb, hvb⟩ : ∃ v, ws[b]? = some v := ⟨_, List.getElem?_eq_getElem (by rw [hW.1]; exact hb)⟩
    obtain ⟨ta, rfl, hta⟩ := hW.2 a va hva
    obtain ⟨tb, rfl, htb⟩ := hW.2 b vb hvb
    refine ⟨_, rfl, _, rfl, l, _, _, _, rfl, rfl, SqL.of hl, atI_nat hva, ta, rfl, ⟨_, SqT.of hta⟩, fun D hD => ?_⟩
    refine lc_tup (K := K) (xs := (castL (lets.getD a [])).map V.int) (fun i H' => Same H H' ∧ H' D = some (.lst ((castL (((lets.getD a []).take i).filter fun q => decide (q ∈ lets.getD b []))).map V.int)))
      ⟨same_new (Same.refl _) hD, upd_same⟩ ?_ ?_ ?_
    · rintro i H' _ ⟨e, _⟩
      exact SqT.of (e _ _ hta)
    · rintro i y H' hy ⟨e, hDl⟩
      obtain ⟨p, hp, rfl⟩ := castL_get hy
      refine ⟨rfl, _, rfl, _, rfl, _, rfl, l, _, _, _, rfl, rfl, SqL.of (e _ _ hl), atI_nat hvb, tb, _, rfl, .inr (SqT.of (e _ _ htb)), rfl, flat_ints _, ?_⟩
      have et := take_filter (c := fun q => decide (q ∈ lets.getD b [])) hp
      by_cases c : p ∈ lets.getD b []
      · refine ⟨true, congrArg V.bl ((inV_cast1 _ _).trans (decide_eq_true c)), iteT ⟨_, rfl, _, hDl, ?_, same_put e hD, ?_⟩⟩
        · rw [castL_len]
          have h1 := List.length_filter_le (fun q => decide (q ∈ lets.getD b [])) ((lets.getD a []).take i)
          rw [List.length_take] at h1
          exact small1000 (by omega)
        · rw [upd_same, et, if_pos (decide_eq_true c), castL_push]
      · refine ⟨false, congrArg V.bl ((inV_cast1 _ _).trans (decide_eq_false c)), iteF ⟨e, ?_⟩⟩
        rw [et, if_neg (by rw [decide_eq_true_iff]; exact c), List.append_nil]
        exact hDl
    · rintro H' ⟨e, hDl⟩
      rw [castL_len, List.take_length] at hDl
      refine ⟨D, _, rfl, .inl (SqL.of hDl), _, _, rfl, rfl, ?_⟩
      have goal := q H' e
      have eb : (decide (((((castL ((lets.getD a []).filter fun q => decide (q ∈ lets.getD b []))).map V.int).length : Nat) : Int) = 0)) = freeB (lets.getD a []) (lets.getD b []) := by
        rw [castL_len]
        unfold freeB
        rw [Bool.eq_iff_iff, decide_eq_true_iff, Bool.not_eq_true', List.any_eq_false]
        constructor
        · intro h x hx hd
          have h2 : ((lets.getD a []).filter fun q => decide (q ∈ lets.getD b [])).length = 0 := by omega
          have h3 := List.eq_nil_of_length_eq_zero h2
          have : x ∈ (lets.getD a []).filter fun q => decide (q ∈ lets.getD b []) := List.mem_filter.mpr ⟨hx, hd⟩
          rw [h3] at this
          cases this
        · intro h
          have : (lets.getD a []).filter (fun q => decide (q ∈ lets.getD b [])) = [] := List.filter_eq_nil_iff.mpr h
          rw [this]
          rfl
      rw [← eb] at goal
      exact goal
theorem ok_below {f fF : Addr} {fd fdF : FuncData} (F : Fun K "_law_below" "_law_below" sBelow f fd) (T : Txt K mg CK CN CA) (cF : Cal P w K mg base 1 "_law_free" ["_law_letters", "_law_first", "_law_second"] spFree fF fdF) :
    FnOk P w K mg base CX0 2 f fd ["_law_letters", "_law_word_here"] spBelow := by
  refine F.ok scBelow (fun vs H Q E h => ?_) (fun cdv A outer s H vs Q E hr h => ?_)
  · obtain ⟨l, t, ws, n, lets, x, rfl, _⟩ := h
    rfl
  · obtain ⟨l, t, ws, n, lets, x, rfl, hl, hW, AL, ht, hx16, WW, q⟩ := h
    have nd := scBelow.nd
    refine ⟨_, pss_cons (ps_set (i := 2) nd rfl (.inr rfl) (pe_callB cr_lenS (by rfl) T.len PySem.boot_len (pa_cons (pv 1) pa_nil))) <|
      pss_cons (ps_setLc (i := 5) (own := [("_law_j", 3)]) (g := gName 3) (tt := tYes) (by rfl) nd rfl rfl (sw_true rfl rfl rfl (by decide +kernel)) (pi_range1 rfl T.range (pa_cons (pv 2) pa_nil))
        (blkOk_by (N := ["_law_letters", "_law_word_here", "_law_size", "_law_j", "_law_k", "_law_found", "_law_i"]) (sc := defScope sBelow) (by decide +kernel)) (fun _ _ _ _ _ => pg_name (i := 3) nd rfl (Or.inr rfl)) (fun _ _ _ _ _ => pts_nil)
        (fun _ _ _ _ _ => pe_lc (own := [("_law_k", 4)]) (g := gName 4) (tt := tYes) rfl nd (pi_range1 rfl T.range (pa_cons (pv 2) pa_nil))
          (blkOk_by (N := ["_law_letters", "_law_word_here", "_law_size", "_law_j", "_law_k", "_law_found", "_law_i"]) (by kernel_rfl)) (fun _ _ _ _ _ => pg_name (i := 4) nd rfl (Or.inl rfl)) (fun _ _ _ _ _ => pts_nil)
          (fun _ _ _ _ _ => pe_cmp (pc_eqI (pv 3) (pv 4))))) <|
      pss_cons (ps_for PassesOwn.never rfl (pi_range1 rfl T.range (pa_cons (pv 2) pa_nil)) (pg_name (i := 4) nd rfl (.inl rfl))
        (pss_one (ps_for PassesOwn.never rfl (pi_range1 rfl T.range (pa_cons (pv 4) pa_nil)) (pg_name (i := 3) nd rfl (.inl rfl))
          (pss_one (ps_if (pt_not (pt_val (pe_call cF.ok hr rfl cF.mg cF.kp cF.b .nil pass0 (pa_cons (pv 0) (pa_cons (pe_ix ix_tup (pv 1) (pv 3) (fun _ _ => rfl)) (pa_cons (pe_ix ix_tup (pv 1) (pv 4) (fun _ _ => rfl)) pa_nil))))))
            (pss_one (ps_for PassesOwn.never rfl (pi_range1 rfl T.range (pa_cons (pv 2) pa_nil)) (pg_name (i := 6) nd rfl (.inl rfl))
              (pss_one (ps_if (pt_val (pe_ix ix_list (pe_ix ix_list (pv 5) (pv 6) (fun _ _ => rfl)) (pv 3) (fun _ _ => rfl)))
                (pss_one (ps_asg pe_bl (pg_sub (pe_ix ix_list (pv 5) (pv 6) (fun _ _ => rfl)) (pv 4) set_list))) pss_nil))))
            pss_nil))))) <|
      pss_one (ps_ret (pv 5)), ?_⟩
    have hne := Gsp.plOf_ne AL WW
    refine ⟨_, rfl, t, _, rfl, .inr (SqT.of ht), ?_⟩
    rw [castL_len]
    -- the table
    refine ⟨_, rfl, x.length, rfl, by omega, by omega, fun g hg => ?_⟩
    refine lc_range (lo := 0) (n := x.length) (fun i H' => Same H H' ∧ ∃ rs : List Addr, H' g = some (.lst (rs.map V.ref)) ∧ rs.length = i ∧ rs.Nodup ∧ (∀ r, r ∈ rs → H r = none ∧ r ≠ g) ∧ RowsAt H' x.length rs (fun i c => decide (i = c)))
      ⟨same_new (Same.refl _) hg, [], upd_same, rfl, List.nodup_nil, fun r z => by (cases z), fun i r z => by simp at z⟩ ?_ ?_
    · rintro i H1 hi ⟨e1, rs, hgl, hrl, hnd, hrn, hrows⟩
      refine ⟨rfl, _, rfl, x.length, rfl, by omega, by omega, fun D hD => ?_⟩
      have hDg : D ≠ g := fun z => by
        rw [z, hgl] at hD
        cases hD
      refine lc_range (lo := 0) (n := x.length) (fun j H2 => Same H1 H2 ∧ H2 D = some (.lst ((List.range j).map fun c => V.bl (decide (i = c))))) ⟨same_new (Same.refl _) hD, upd_same⟩ ?_ ?_
      · rintro j H2 hj ⟨e2, hD2⟩
        refine ⟨rfl, _, rfl, _, rfl, _, _, rfl, rfl, _, hD2, ?_, same_put e2 hD, ?_⟩
        · rw [List.length_map, List.length_range]
          exact small1000 (by omega)
        · have eb : decide ((0 : Int) + (i : Int) = 0 + (j : Int)) = decide (i = j) := by
            by_cases c : i = j
            · rw [decide_eq_true c, decide_eq_true (by omega)]
            · rw [decide_eq_false c, decide_eq_false (by omega)]
          rw [upd_same, bls_succ, ← eb]
      · rintro H2 ⟨e2, hD2⟩
        have hg2 := e2 _ _ hgl
        have kt : ∀ r, r ∈ rs → r ≠ D := fun r hr z => by
          obtain ⟨i', hi', e⟩ := List.getElem_of_mem hr
          have := hrows i' r (by rw [List.getElem?_eq_getElem hi', e])
          rw [z, hD] at this
          cases this
        refine ⟨_, hg2, by rw [List.length_map, hrl]; exact small1000 (by omega), same_put (e1.trans e2) hg, rs ++ [D], by rw [upd_same]; simp, by rw [List.length_append, hrl]; rfl, ?_, fun r hr => ?_, ?_⟩
        · rw [List.nodup_append]
          refine ⟨hnd, by simp, fun a ha b hb => ?_⟩
          rw [List.mem_singleton.mp hb]
          exact kt a ha
        · rcases List.mem_append.mp hr with z | z
          · exact hrn r z
          · rw [List.mem_singleton.mp z]
            exact ⟨e1.free hD, hDg⟩
        · intro j r hr
          have key := items_push (R := fun j r => (upd H2 g (.lst (rs.map V.ref ++ [V.ref D]))) r = some (.lst ((List.range x.length).map fun c => V.bl (decide (j = c))))) (acc := rs) (y := D) (i := i) hrl (fun j' r' hj' => ?_) ?_ j r hr
          · exact key
          · rw [upd_ne (hrn r' (List.mem_of_getElem? hj')).2]
            exact e2 _ _ (hrows j' r' hj')
          · rw [upd_ne hDg]
            exact hD2
    rintro H1 ⟨e1, rs, hgl, hrl, hnd, hrn, hrows⟩
    have hgn : H g = none := hg
    have ref_at : ∀ {i : Nat} {r : Addr}, rs[i]? = some r → atI (rs.map V.ref) (0 + (i : Int)) = some (V.ref r) := fun {i r} h => by
      rw [Int.zero_add]
      exact atI_nat (by rw [List.getElem?_map, h]; rfl)
    -- the loops
    refine ⟨_, rfl, x.length, rfl, by omega, by omega, for_range (lo := 0) (n := x.length)
      (fun k σ H' => ∃ x3 x4 x6, σ = [some (.ref l), some (.ref t), some (.int (x.length : Int)), x3, x4, some (.ref g), x6] ∧ Same H H' ∧ H' g = some (.lst (rs.map V.ref)) ∧ RowsAt H' x.length rs (fun i c => Gsp.stage (Gsp.plOf lets x) k 0 i c))
      ⟨_, _, _, rfl, e1, hgl, hrows.congr fun i c _ => (Gsp.stage_0 _ i c).symm⟩ ?_ ?_⟩
    · rintro k σ H2 hk ⟨x3, x4, x6, rfl, e2, hg2, hr2⟩
      obtain ⟨b, hb, hbl, hbp⟩ := word_at WW hk
      refine ⟨_, rfl, (k : Int), by rw [Int.zero_add], by omega, by omega, for_range (lo := 0) (n := k)
        (fun j σ H' => ∃ x3 x6, σ = [some (.ref l), some (.ref t), some (.int (x.length : Int)), x3, some (.int (0 + (k : Int))), some (.ref g), x6] ∧ Same H H' ∧ H' g = some (.lst (rs.map V.ref)) ∧
          RowsAt H' x.length rs (fun i c => Gsp.stage (Gsp.plOf lets x) k j i c)) ⟨_, _, rfl, e2, hg2, hr2⟩ ?_ ?_⟩
      · rintro j σ H3 hj ⟨x3, x6, rfl, e3, hg3, hr3⟩
        obtain ⟨a, ha, hal, hap⟩ := word_at WW (show j < x.length by omega)
        have word_i : ∀ {i a : Nat}, x[i]? = some a → atI ((castL x).map V.int) (0 + (i : Int)) = some (V.int (a : Int)) := fun {i a} h => by
          rw [Int.zero_add]
          exact atI_nat (castL_at h)
        have hlen : (lets.getD a []).length ≤ 1000 := by
          have hmem : lets.getD a [] ∈ lets := Gsp.getD_mem hal
          have := Gsp.length_le4 (AL.lt _ hmem) (AL.asc _ hmem)
          have := AL.n4
          omega
        refine ⟨_, rfl, _, rfl, _, rfl, t, _, _, _, rfl, rfl, SqT.of (e3 _ _ ht), word_i ha, _, rfl, _, rfl, t, _, _, _, rfl, rfl, SqT.of (e3 _ _ ht), word_i hb,
          l, ws, lets, a, b, rfl, e3 _ _ hl, hW.kt (.of e3), hal, hbl, hlen, fun H4 e4 => ⟨_, rfl, ?_⟩⟩
        have hdep : Gsp.depB (Gsp.plOf lets x) j k = !freeB (lets.getD a []) (lets.getD b []) := by
          rw [hap, hbp]
          unfold Gsp.depB freeB
          rw [Bool.not_not]
        cases hfr : freeB (lets.getD a []) (lets.getD b []) with
        | true =>
          rw [hfr] at hdep
          refine iteF ⟨_, _, rfl, e3.trans e4, e4 _ _ hg3, (hr3.same e4).congr fun i c _ => ?_⟩
          rw [Gsp.stage_row _ _ _ _ _ hj, hdep, if_neg (fun z => by cases z.2.1)]
        | false =>
          rw [hfr] at hdep
          refine iteT ⟨_, rfl, x.length, rfl, by omega, by omega, for_range (lo := 0) (n := x.length)
            (fun i σ H' => ∃ x6, σ = [some (.ref l), some (.ref t), some (.int (x.length : Int)), some (.int (0 + (j : Int))), some (.int (0 + (k : Int))), some (.ref g), x6] ∧ Same H H' ∧ H' g = some (.lst (rs.map V.ref)) ∧
              RowsAt H' x.length rs (fun i' c => if i' < i then Gsp.stage (Gsp.plOf lets x) k (j + 1) i' c else Gsp.stage (Gsp.plOf lets x) k j i' c))
            ⟨_, rfl, e3.trans e4, e4 _ _ hg3, (hr3.same e4).congr fun i' c _ => by rw [if_neg (Nat.not_lt_zero _)]⟩ ?_ ?_⟩
          · rintro i σ H5 hi ⟨x6', rfl, e5, hg5, hr5⟩
            obtain ⟨r, hr⟩ : ∃ r, rs[i]? = some r := ⟨_, List.getElem?_eq_getElem (by omega)⟩
            have hrow := hr5 i r hr
            have hrowj : atI ((List.range x.length).map fun c => V.bl (if i < i then Gsp.stage (Gsp.plOf lets x) k (j + 1) i c else Gsp.stage (Gsp.plOf lets x) k j i c)) (0 + (j : Int)) = some (V.bl (Gsp.stage (Gsp.plOf lets x) k j i j)) := by
              rw [Int.zero_add]
              have := atI_nat (bls_at (T := x.length) (c := j) (f := fun c => if i < i then Gsp.stage (Gsp.plOf lets x) k (j + 1) i c else Gsp.stage (Gsp.plOf lets x) k j i c) (by omega))
              rw [if_neg (Nat.lt_irrefl i)] at this
              exact this
            refine ⟨_, rfl, _, rfl, g, _, _, _, rfl, rfl, SqL.of hg5, ref_at hr, _, rfl, r, _, _, _, rfl, rfl, SqL.of hrow, hrowj, _, rfl, ?_⟩
            have erow : ∀ c, Gsp.stage (Gsp.plOf lets x) k (j + 1) i c = if c = k ∧ Gsp.stage (Gsp.plOf lets x) k j i j = true then true else Gsp.stage (Gsp.plOf lets x) k j i c := fun c => by
              rw [Gsp.stage_row _ _ _ _ _ hj, hdep]
              simp
            have eoth : ∀ i' c, i' ≠ i → (if i' < i + 1 then Gsp.stage (Gsp.plOf lets x) k (j + 1) i' c else Gsp.stage (Gsp.plOf lets x) k j i' c) = (if i' < i then Gsp.stage (Gsp.plOf lets x) k (j + 1) i' c else Gsp.stage (Gsp.plOf lets x) k j i' c) := fun i' c hne' => by
              by_cases h1 : i' < i
              · rw [if_pos h1, if_pos (by omega)]
              · rw [if_neg h1, if_neg (by omega)]
            cases hst : Gsp.stage (Gsp.plOf lets x) k j i j with
            | true =>
              refine iteT ⟨_, rfl, _, rfl, g, _, _, _, rfl, rfl, SqL.of hg5, ref_at hr, _, rfl, r, _, _, k, rfl, rfl, hrow, ?_, ?_⟩
              · rw [List.length_map, List.length_range]
                unfold ixN
                rw [if_pos (by omega), if_pos (by omega)]
                congr 1
                omega
              · have hrg := hrn r (List.mem_of_getElem? hr)
                refine ⟨_, rfl, same_put e5 hrg.1, by rw [upd_ne hrg.2.symm]; exact hg5, hr5.store hnd hr hk (fun i' c hi' => eoth i' c hi') fun c => ?_⟩
                rw [if_pos (Nat.lt_succ_self i), if_neg (Nat.lt_irrefl i), erow, hst]
                simp
            | false =>
              refine iteF ⟨_, rfl, e5, hg5, hr5.congr fun i' c _ => ?_⟩
              by_cases hii : i' = i
              · subst hii
                rw [if_pos (Nat.lt_succ_self i'), if_neg (Nat.lt_irrefl i'), erow, hst]
                simp
              · exact (eoth i' c hii).symm
          · rintro σ H5 ⟨x6', rfl, e5, hg5, hr5⟩
            refine ⟨_, _, rfl, e5, hg5, fun i r hr => ?_⟩
            have hi : i < x.length := by
              have := (List.getElem?_eq_some_iff.mp hr).1
              omega
            rw [hr5 i r hr]
            simp only [hi, if_true]
      · rintro σ H3 ⟨x3', x6', rfl, e3, hg3, hr3⟩
        exact ⟨_, _, _, rfl, e3, hg3, hr3.congr fun i c _ => Gsp.stage_next hne k i c⟩
    · rintro σ H2 ⟨x3, x4, x6, rfl, e2, hg2, hr2⟩
      exact ⟨_, rfl, q H2 g rs e2 hg2 hrl (hr2.congr fun i c hc => Gsp.stage_done _ hc)⟩
end
end Nws
namespace Nws
open PySem L2
abbrev sView : Stmt := top 28
abbrev sNewest : Stmt := top 29
theorem pi_listK {X : Cx} {K : PySem.W.Frag} (hK : X.K = K) {tg l : Expr} {tl : TE} (he : PE X l tl) : PI X tg l (iList K tl) := by
  rw [← hK]
  exact pi_list he
theorem rf_succ (c : Nat → Bool) (i : Nat) : (List.range (i + 1)).filter c = (List.range i).filter c ++ (if c i then [i] else []) := by
  rw [List.range_succ, List.filter_append]
  simp [List.filter_cons]
/-- what stands where a word is looked at -/
structure Look4 (H : Hp) (l t : Addr) (ws : List V) (n : Nat) (lets : List (List Nat)) (x : List Nat) : Prop where
  hl : H l = some (.lst ws)
  hW : LetsV H lets ws
  al : Gsp.Alph n lets
  ht : H t = some (.tup ((castL x).map V.int))
  h16 : x.length ≤ 16
  ww : Gsp.Word lets.length x
theorem Look4.same {H H' : Hp} {l t : Addr} {ws : List V} {n : Nat} {lets : List (List Nat)} {x : List Nat} (h : Look4 H l t ws n lets x) (e : Same H H') : Look4 H' l t ws n lets x :=
  ⟨e _ _ h.hl, h.hW.kt (.of e), h.al, e _ _ h.ht, h.h16, h.ww⟩
/-- the places of the letter at k, in the heap -/
theorem Look4.at_ {H : Hp} {l t : Addr} {ws : List V} {n : Nat} {lets : List (List Nat)} {x : List Nat} (h : Look4 H l t ws n lets x) {k : Nat} (hk : k < x.length) :
    ∃ a tb, atI ((castL x).map V.int) (k : Int) = some (V.int ((a : Nat) : Int)) ∧ atI ws (a : Int) = some (V.ref tb) ∧ H tb = some (.tup ((castL (Gsp.atPos lets x k)).map V.int)) := by
  obtain ⟨a, ha, hal, hap⟩ := word_at h.ww hk
  obtain ⟨v, hv⟩ : ∃ v, ws[a]? = some v := ⟨_, List.getElem?_eq_getElem (by rw [h.hW.1]; exact hal)⟩
  obtain ⟨tb, rfl, htb⟩ := h.hW.2 a v hv
  rw [hap] at htb
  exact ⟨a, tb, atI_nat (castL_at ha), atI_nat hv, htb⟩
def spView : Sp := fun vs H Q _ => ∃ (l t : Addr) (ws : List V) (n : Nat) (lets : List (List Nat)) (x : List Nat) (p : Nat), vs = [.ref l, .ref t, .int p] ∧ Look4 H l t ws n lets x ∧
  ∀ H' D, Same H H' → H' D = some (.lst ((castL (Gsp.viewM lets x p)).map V.int)) → Q (.ref D) H'
theorem scView : FnScope ["_law_letters", "_law_word_here", "_law_place", "_law_below_here", "_law_there", "_law_k", "_law_j"] ["_law_letters", "_law_word_here", "_law_place"] (defScope sView) :=
  ⟨rfl, rfl, rfl, by decide +kernel, rfl, by decide +kernel, by decide +kernel⟩
def spNewest : Sp := fun vs H Q _ => ∃ (l t : Addr) (ws : List V) (n : Nat) (lets : List (List Nat)) (x : List Nat) (p : Nat), vs = [.int n, .ref l, .ref t, .int p] ∧ Look4 H l t ws n lets x ∧
  ∀ H' D, Same H H' → H D = none → H' D = some (.lst ((List.range n).map fun r => V.int (Gsp.nwM lets x p r))) → Q (.ref D) H'
theorem scNewest : FnScope ["_law_count", "_law_letters", "_law_word_here", "_law_place", "_law_known", "_law_found", "_law_other", "_law_k"] ["_law_count", "_law_letters", "_law_word_here", "_law_place"] (defScope sNewest) :=
  ⟨rfl, rfl, rfl, by decide +kernel, rfl, by decide +kernel, by decide +kernel⟩
theorem view_lt {lets : List (List Nat)} {x : List Nat} {p k : Nat} (h : k ∈ Gsp.viewM lets x p) : k < x.length := (Gsp.mem_view.mp h).1
section
variable {P : Program} {w : World} {K : PySem.W.Frag} {mg : Str → Option Value} {base : Heap} {CK CN CA : Addr}
theorem ok_view {f fB : Addr} {fd fdB : FuncData} (F : Fun K "_law_view" "_law_view" sView f fd) (T : Txt K mg CK CN CA) (cB : Cal P w K mg base 2 "_law_below" ["_law_letters", "_law_word_here"] spBelow fB fdB) :
    FnOk P w K mg base CX0 3 f fd ["_law_letters", "_law_word_here", "_law_place"] spView := by
  refine F.ok scView (fun vs H Q E h => ?_) (fun cdv A outer s H vs Q E hr h => ?_)
  · obtain ⟨l, t, ws, n, lets, x, p, rfl, _⟩ := h
    rfl
  · obtain ⟨l, t, ws, n, lets, x, p, rfl, L, q⟩ := h
    have nd := scView.nd
    refine ⟨_, pss_cons (ps_set (i := 3) nd rfl (.inr rfl) (pe_call cB.ok hr rfl cB.mg cB.kp cB.b .nil pass0 (pa_cons (pv 0) (pa_cons (pv 1) pa_nil)))) <|
      pss_cons (ps_set (i := 4) nd rfl (.inr rfl) (pe_lc (own := [("_law_k", 5)]) (g := gName 5) rfl nd (pi_range1 rfl T.range (pa_cons (pe_callB cr_lenS (by rfl) T.len PySem.boot_len (pa_cons (pv 1) pa_nil)) pa_nil))
        (blkOk_by (N := ["_law_letters", "_law_word_here", "_law_place", "_law_below_here", "_law_there", "_law_k", "_law_j"]) (sc := defScope sView) (by decide +kernel)) (fun _ _ _ _ _ => pg_name (i := 5) nd rfl (Or.inl rfl))
        (fun _ _ _ _ _ => pts_one (pt_cmpR (r := rIn K false) op_in_seq (pv 2) (pe_ix (r := rIxL K) ix_list (pv 0) (pe_ix (r := rIxT K) ix_tup (pv 1) (pv 5) (fun _ _ => rfl)) (fun _ _ => rfl)) rfl)) (fun _ _ _ _ _ => pv 5))) <|
      pss_one (ps_ret (pe_lc (own := [("_law_j", 6)]) (g := gName 6) rfl nd (pi_range1 rfl T.range (pa_cons (pe_callB cr_lenS (by rfl) T.len PySem.boot_len (pa_cons (pv 1) pa_nil)) pa_nil))
        (blkOk_by (N := ["_law_letters", "_law_word_here", "_law_place", "_law_below_here", "_law_there", "_law_k", "_law_j"]) (sc := defScope sView) (by decide +kernel)) (fun _ _ _ _ _ => pg_name (i := 6) nd rfl (Or.inr rfl))
        (fun _ _ _ _ _ => pts_one (pt_cmp (pc_gt (pe_callB (r := rLenS K) cr_lenS (by rfl) T.len PySem.boot_len (pa_cons
          (pe_lc (own := [("_law_k", 5)]) (g := gName 5) rfl nd (pi_listK (K := K) rfl (pv 4)) (blkOk_by (N := ["_law_letters", "_law_word_here", "_law_place", "_law_below_here", "_law_there", "_law_k", "_law_j"]) (by kernel_rfl))
            (fun _ _ _ _ _ => pg_name (i := 5) nd rfl (Or.inl rfl)) (fun _ _ _ _ _ => pts_one (pt_val (pe_ix (r := rIxL K) ix_list (pe_ix (r := rIxL K) ix_list (pv 3) (pv 6) (fun _ _ => rfl)) (pv 5) (fun _ _ => rfl)))) (fun _ _ _ _ _ => pv 5)) pa_nil)) pe_int)))
        (fun _ _ _ _ _ => pv 6))), ?_⟩
    have h16 := L.h16
    -- below
    refine ⟨_, rfl, _, rfl, l, t, ws, n, lets, x, rfl, L.hl, L.hW, L.al, L.ht, h16, L.ww, fun H1 g rs e1 hg hrl hrows => ?_⟩
    have L1 := L.same e1
    -- there
    refine ⟨_, rfl, t, _, rfl, .inr (SqT.of L1.ht), _, rfl, by omega, by rw [castL_len]; omega, fun D hD => ?_⟩
    rw [castL_len]
    refine lc_range (lo := 0) (n := x.length) (fun i H' => Same H1 H' ∧ H' D = some (.lst ((castL ((List.range i).filter fun k => decide (p ∈ Gsp.atPos lets x k))).map V.int))) ⟨same_new (Same.refl _) hD, upd_same⟩ ?_ ?_
    · rintro i H2 hi ⟨e2, hD2⟩
      obtain ⟨a, tb, ha, hb, htb⟩ := (L1.same e2).at_ hi
      refine ⟨rfl, _, rfl, _, rfl, _, rfl, _, rfl, t, _, _, _, rfl, rfl, SqT.of (L1.same e2).ht, (by rw [Int.zero_add]; exact ha), l, _, _, _, rfl, rfl, SqL.of (L1.same e2).hl, hb, tb, _, rfl, .inr (SqT.of htb), rfl, flat_ints _, ?_⟩
      by_cases c : p ∈ Gsp.atPos lets x i
      · refine ⟨true, congrArg V.bl ((inV_cast1 _ _).trans (decide_eq_true c)), iteT ⟨_, rfl, _, hD2, ?_, same_put e2 hD, ?_⟩⟩
        · rw [castL_len]
          have h1 := List.length_filter_le (fun k => decide (p ∈ Gsp.atPos lets x k)) (List.range i)
          rw [List.length_range] at h1
          exact small1000 (by omega)
        · rw [upd_same, rf_succ, if_pos (decide_eq_true c), castL_push, Int.zero_add]
      · refine ⟨false, congrArg V.bl ((inV_cast1 _ _).trans (decide_eq_false c)), iteF ⟨e2, ?_⟩⟩
        rw [rf_succ, if_neg (by rw [decide_eq_true_iff]; exact c), List.append_nil]
        exact hD2
    rintro H2 ⟨e2, hD2⟩
    have eev : (List.range x.length).filter (fun k => decide (p ∈ Gsp.atPos lets x k)) = Gsp.evAt lets x p := rfl
    rw [eev] at hD2
    have L2 := L1.same e2
    -- the view
    refine ⟨_, rfl, t, _, rfl, .inr (SqT.of L2.ht), _, rfl, by omega, by rw [castL_len]; omega, fun D2 hD2n => ?_⟩
    rw [castL_len]
    refine lc_range (lo := 0) (n := x.length) (fun i H' => Same H2 H' ∧ H' D2 = some (.lst ((castL ((List.range i).filter fun j => decide (0 < ((Gsp.evAt lets x p).filter fun k => Gsp.blb (Gsp.plOf lets x) j k).length))).map V.int)))
      ⟨same_new (Same.refl _) hD2n, upd_same⟩ ?_ ?_
    · rintro i H3 hi ⟨e3, hD3⟩
      have hDe := e3 _ _ hD2
      refine ⟨rfl, _, rfl, D, rfl, ⟨_, SqL.of hDe⟩, fun D4 hD4 => ?_⟩
      have hn4 : D4 ≠ D2 := fun z => by
        rw [z, hD3] at hD4
        cases hD4
      obtain ⟨r, hr⟩ : ∃ r, rs[i]? = some r := ⟨_, List.getElem?_eq_getElem (by omega)⟩
      refine lc_list (K := K) (xs := (castL (Gsp.evAt lets x p)).map V.int) (fun m H' => Same H3 H' ∧ H' D4 = some (.lst ((castL (((Gsp.evAt lets x p).take m).filter fun k => Gsp.blb (Gsp.plOf lets x) i k)).map V.int)))
        ⟨same_new (Same.refl _) hD4, upd_same⟩ ?_ ?_ ?_
      · rintro m H4 _ ⟨e4, _⟩
        exact SqL.of (e4 _ _ hDe)
      · rintro m y H4 hy ⟨e4, h4⟩
        obtain ⟨k, hk, rfl⟩ := castL_get hy
        have hkx : k < x.length := by
          have := List.mem_of_getElem? hk
          unfold Gsp.evAt at this
          exact List.mem_range.mp (List.mem_filter.mp this).1
        have hrow := hrows i r hr
        have hg4 := e4 _ _ (e3 _ _ (e2 _ _ hg))
        have hr4 := e4 _ _ (e3 _ _ (e2 _ _ hrow))
        refine ⟨rfl, _, rfl, _, rfl, g, _, _, _, rfl, rfl, SqL.of hg4, (by rw [Int.zero_add]; exact atI_nat (by rw [List.getElem?_map, hr]; rfl)), _, rfl, r, _, _, _, rfl, rfl, SqL.of hr4, atI_nat (bls_at (f := fun c => Gsp.blb (Gsp.plOf lets x) i c) hkx), _, rfl, ?_⟩
        have et := take_filter (c := fun k => Gsp.blb (Gsp.plOf lets x) i k) hk
        cases hc : Gsp.blb (Gsp.plOf lets x) i k with
        | true =>
          rw [hc, if_pos rfl] at et
          refine iteT ⟨_, rfl, _, h4, ?_, same_put e4 hD4, ?_⟩
          · rw [castL_len]
            have h1 := List.length_filter_le (fun k => Gsp.blb (Gsp.plOf lets x) i k) ((Gsp.evAt lets x p).take m)
            rw [List.length_take] at h1
            have h2 : (Gsp.evAt lets x p).length ≤ x.length := by
              unfold Gsp.evAt
              have := List.length_filter_le (fun k => decide (p ∈ Gsp.atPos lets x k)) (List.range x.length)
              rw [List.length_range] at this
              exact this
            exact small1000 (by omega)
          · rw [upd_same, et, castL_push]
        | false =>
          rw [hc, if_neg Bool.false_ne_true, List.append_nil] at et
          refine iteF ⟨e4, ?_⟩
          rw [et]
          exact h4
      · rintro H4 ⟨e4, h4⟩
        rw [castL_len, List.take_length] at h4
        refine ⟨D4, _, rfl, .inl (SqL.of h4), _, _, rfl, rfl, ?_⟩
        rw [castL_len]
        by_cases c : 0 < ((Gsp.evAt lets x p).filter fun k => Gsp.blb (Gsp.plOf lets x) i k).length
        · refine ⟨true, bl_t (by omega), iteT ⟨_, rfl, _, e4 _ _ hD3, ?_, same_put (e3.trans e4) hD2n, ?_⟩⟩
          · rw [castL_len]
            have h1 := List.length_filter_le (fun j => decide (0 < ((Gsp.evAt lets x p).filter fun k => Gsp.blb (Gsp.plOf lets x) j k).length)) (List.range i)
            rw [List.length_range] at h1
            exact small1000 (by omega)
          · rw [upd_same, rf_succ, if_pos (decide_eq_true c), castL_push, Int.zero_add]
        · refine ⟨false, bl_f (by omega), iteF ⟨e3.trans e4, ?_⟩⟩
          rw [rf_succ, if_neg (by rw [decide_eq_true_iff]; exact c), List.append_nil]
          exact e4 _ _ hD3
    · rintro H3 ⟨e3, hD3⟩
      exact q H3 D2 ((e1.trans e2).trans e3) hD3
theorem ok_newest {f fV : Addr} {fd fdV : FuncData} (F : Fun K "_law_newest" "_law_newest" sNewest f fd) (T : Txt K mg CK CN CA) (cV : Cal P w K mg base 3 "_law_view" ["_law_letters", "_law_word_here", "_law_place"] spView fV fdV) :
    FnOk P w K mg base CX0 4 f fd ["_law_count", "_law_letters", "_law_word_here", "_law_place"] spNewest := by
  refine F.ok scNewest (fun vs H Q E h => ?_) (fun cdv A outer s H vs Q E hr h => ?_)
  · obtain ⟨l, t, ws, n, lets, x, p, rfl, _⟩ := h
    rfl
  · obtain ⟨l, t, ws, n, lets, x, p, rfl, L, q⟩ := h
    have nd := scNewest.nd
    refine ⟨_, pss_cons (ps_set (i := 4) nd rfl (.inl rfl) (pe_call cV.ok hr rfl cV.mg cV.kp cV.b .nil pass0 (pa_cons (pv 1) (pa_cons (pv 2) (pa_cons (pv 3) pa_nil))))) <|
      pss_cons (ps_set (i := 5) nd rfl (.inl rfl) (pe_lst pa_nil)) <|
      pss_cons (ps_for PassesOwn.never rfl (pi_range1 rfl T.range (pa_cons (pv 0) pa_nil)) (pg_name (i := 6) nd rfl (.inr rfl))
        (pss_one (ps_expr (pe_bm PySem.F.plainAttrs_list PySem.F.slot_list_append PySem.F.type_list_append mt_append (pv 5) (pa_cons (pe_callB (cr_max rfl) (by rfl) T.max bt_max (pa_cons
          (pe_op op_cat (pe_lst (pa_cons (pe_un un_neg pe_int) pa_nil)) (pe_lc (own := [("_law_k", 7)]) (g := gName 7) rfl nd (pi_list (pv 4))
            (blkOk_by (N := ["_law_count", "_law_letters", "_law_word_here", "_law_place", "_law_known", "_law_found", "_law_other", "_law_k"]) (sc := defScope sNewest) (by decide +kernel)) (fun _ _ _ _ _ => pg_name (i := 7) nd rfl (Or.inl rfl))
            (fun _ _ _ _ _ => pts_one (pt_cmpR (r := rIn K false) op_in_seq (pv 6) (pe_ix (r := rIxL K) ix_list (pv 1) (pe_ix (r := rIxT K) ix_tup (pv 2) (pv 7) (fun _ _ => rfl)) (fun _ _ => rfl)) rfl)) (fun _ _ _ _ _ => pv 7))) pa_nil)) pa_nil))))) <|
      pss_one (ps_ret (pv 5)), ?_⟩
    have h16 := L.h16
    have h4 := L.al.n4
    refine ⟨_, rfl, _, rfl, _, rfl, l, t, ws, n, lets, x, p, rfl, L, fun H1 kv e1 hkv => ?_⟩
    have L1 := L.same e1
    have hvl : (Gsp.viewM lets x p).length ≤ x.length := by
      unfold Gsp.viewM
      have := List.length_filter_le (fun j => decide (0 < ((Gsp.evAt lets x p).filter fun k => Gsp.blb (Gsp.plOf lets x) j k).length)) (List.range x.length)
      rw [List.length_range] at this
      exact this
    refine ⟨Nat.zero_le _, fun g hg => ?_⟩
    refine ⟨_, rfl, n, rfl, by omega, by omega, for_range (lo := 0) (n := n) (fun i σ H' => ∃ x6 x7, σ = [some (.int n), some (.ref l), some (.ref t), some (.int p), some (.ref kv), some (.ref g), x6, x7] ∧ Same H1 H' ∧
      H' g = some (.lst ((List.range i).map fun r => V.int (Gsp.nwM lets x p r)))) ⟨_, _, rfl, same_new (Same.refl _) hg, upd_same⟩ ?_ ?_⟩
    · rintro r σ H2 hr' ⟨x6, x7, rfl, e2, hg2⟩
      have hk2 := e2 _ _ hkv
      refine ⟨_, rfl, .inl ⟨rfl, _, SqL.of hg2⟩, ⟨_, rfl, by show 1 ≤ sizeLine; decide, fun m1 hm1 => ?_⟩⟩
      have e3 : Same H1 (upd H2 m1 (.lst [V.int (-1)])) := same_new e2 hm1
      have hk3 : (upd H2 m1 (.lst [V.int (-1)])) kv = some (.lst ((castL (Gsp.viewM lets x p)).map V.int)) := same_new (Same.refl _) hm1 _ _ hk2
      have hg3 : (upd H2 m1 (.lst [V.int (-1)])) g = some (.lst ((List.range r).map fun r => V.int (Gsp.nwM lets x p r))) := same_new (Same.refl _) hm1 _ _ hg2
      have hm3 : (upd H2 m1 (.lst [V.int (-1)])) m1 = some (.lst [V.int (-1)]) := upd_same
      refine ⟨_, rfl, kv, rfl, ⟨_, SqL.of hk3⟩, fun D hD => ?_⟩
      refine lc_list (K := K) (xs := (castL (Gsp.viewM lets x p)).map V.int) (fun i H' => Same (upd H2 m1 (.lst [V.int (-1)])) H' ∧ H' D = some (.lst ((castL (((Gsp.viewM lets x p).take i).filter fun k => decide (r ∈ Gsp.atPos lets x k))).map V.int)))
        ⟨same_new (Same.refl _) hD, upd_same⟩ ?_ ?_ ?_
      · rintro i H4 _ ⟨e4, _⟩
        exact SqL.of (e4 _ _ hk3)
      · rintro i y H4 hy ⟨e4, h4'⟩
        obtain ⟨k, hk, rfl⟩ := castL_get hy
        have hkx := view_lt (List.mem_of_getElem? hk)
        have L4 := L1.same (e3.trans e4)
        obtain ⟨a, tb, ha, hb, htb⟩ := L4.at_ hkx
        refine ⟨rfl, _, rfl, _, rfl, _, rfl, _, rfl, t, _, _, _, rfl, rfl, SqT.of L4.ht, ha, l, _, _, _, rfl, rfl, SqL.of L4.hl, hb, tb, _, rfl, .inr (SqT.of htb), rfl, flat_ints _, ?_⟩
        have et := take_filter (c := fun k => decide (r ∈ Gsp.atPos lets x k)) hk
        by_cases c : r ∈ Gsp.atPos lets x k
        · refine ⟨true, congrArg V.bl ((inV_cast _ _).trans (decide_eq_true c)), iteT ⟨_, rfl, _, h4', ?_, same_put e4 hD, ?_⟩⟩
          · rw [castL_len]
            have h1 := List.length_filter_le (fun k => decide (r ∈ Gsp.atPos lets x k)) ((Gsp.viewM lets x p).take i)
            rw [List.length_take] at h1
            exact small1000 (by omega)
          · rw [upd_same, et, if_pos (decide_eq_true c), castL_push]
        · refine ⟨false, congrArg V.bl ((inV_cast _ _).trans (decide_eq_false c)), iteF ⟨e4, ?_⟩⟩
          rw [et, if_neg (by rw [decide_eq_true_iff]; exact c), List.append_nil]
          exact h4'
      · rintro H4 ⟨e4, h4'⟩
        rw [castL_len, List.take_length] at h4'
        have enw : (Gsp.viewM lets x p).filter (fun k => decide (r ∈ Gsp.atPos lets x k)) = Gsp.nwList lets x p r := rfl
        rw [enw] at h4'
        have hnl : (Gsp.nwList lets x p r).length ≤ x.length := by
          unfold Gsp.nwList
          exact Nat.le_trans (List.length_filter_le _ _) hvl
        refine ⟨m1, D, _, _, rfl, rfl, e4 _ _ hm3, h4', ?_, fun c hc => ?_⟩
        · rw [castL_len]
          exact small84 (by show 1 + _ ≤ 1000; omega)
        · refine ⟨c, (-1) :: castL (Gsp.nwList lets x p r), rfl, SqL.of (by rw [upd_same]; rfl), by simp, fun m hm hle => ?_⟩
          have em := Gsp.nwM_eq L.al L.ww hm hle
          subst em
          have hg5 : (upd H4 c (.lst ([V.int (-1)] ++ (castL (Gsp.nwList lets x p r)).map V.int))) g = some (.lst ((List.range r).map fun r => V.int (Gsp.nwM lets x p r))) := same_new (Same.refl _) hc _ _ (e4 _ _ hg3)
          refine ⟨g, _, _, rfl, rfl, hg5, ?_, _, _, rfl, same_put (same_new (e3.trans e4) hc) hg, ?_⟩
          · rw [List.length_map, List.length_range]
            exact small1000 (by omega)
          · rw [upd_same, List.range_succ, List.map_append]
            rfl
    · rintro σ H2 ⟨x6, x7, rfl, e2, hg2⟩
      exact ⟨_, rfl, q H2 g (e1.trans e2) (e1.free hg) hg2⟩
end
end Nws
namespace Nws
open PySem L2
abbrev sMeet : Stmt := top 31
/-- the local states of all places, in a list -/
structure StsV (H : Hp) (n : Nat) (sts : List (List Int)) (vs : List V) : Prop where
  len : vs.length = n
  at_ : ∀ (i : Nat) x, vs[i]? = some x → TI H x (sts.getD i [])
  size : ∀ i, i < n → (sts.getD i []).length = n + n * n + n * (n * n)
theorem StsV.kt {H H' : Hp} {n : Nat} {sts : List (List Int)} {vs : List V} (h : StsV H n sts vs) (e : KT H H') : StsV H' n sts vs := ⟨h.len, fun i x hx => (h.at_ i x hx).kt e, h.size⟩
def spLmeet (CN CA : Addr) : Sp := fun vs H Q _ => ∃ (o l sl : Addr) (ws us : List V) (n a : Nat) (lets : List (List Nat)) (sts : List (List Int)), vs = [.ref o, .ref l, .ref sl, .int a] ∧ NwAt CN CA H n lets o ∧ H l = some (.lst ws) ∧ LetsV H lets ws ∧
  H sl = some (.lst us) ∧ StsV H n sts us ∧ Gsp.Alph n lets ∧ a < lets.length ∧
  ∀ H' g us2, Same H H' → H g = none → H' g = some (.lst us2) → StsV H' n (Gsp.stepM n lets sts a) us2 → Q (.ref g) H'
theorem scMeet : FnScope ["_law_machines", "_law_letters", "_law_states", "_law_letter", "_law_there", "_law_place", "_law_after", "_law_found", "_law_k"] ["_law_machines", "_law_letters", "_law_states", "_law_letter"] (defScope sMeet) :=
  ⟨rfl, rfl, rfl, by decide +kernel, rfl, by decide +kernel, by decide +kernel⟩
section
variable {P : Program} {w : World} {K : PySem.W.Frag} {mg : Str → Option Value} {base : Heap} {CK CN CA : Addr}
theorem ok_lmeet {f fM : Addr} {fd fdM : FuncData} (F : Fun K "_law_meet" "_law_meet" sMeet f fd) (T : Txt K mg CK CN CA) (cM : Mcal P w K mg base 4 CN "meet" ["self", "letter", "states"] (spNmeet CN CA) fM fdM) :
    FnOk P w K mg base CX0 5 f fd ["_law_machines", "_law_letters", "_law_states", "_law_letter"] (spLmeet CN CA) := by
  refine F.ok scMeet (fun vs H Q E h => ?_) (fun cdv A outer s H vs Q E hr h => ?_)
  · obtain ⟨o, l, sl, ws, us, n, a, lets, sts, rfl, _⟩ := h
    rfl
  · obtain ⟨o, l, sl, ws, us, n, a, lets, sts, rfl, hN, hl, hW, hs, hS, AL, hal, q⟩ := h
    have nd := scMeet.nd
    refine ⟨_, pss_cons (ps_set (i := 4) nd rfl (.inl rfl) (pe_ix ix_list (pv 1) (pv 3) (fun _ _ => rfl))) <|
      pss_cons (ps_set (i := 6) nd rfl (.inl rfl) (pe_meth (pv 0) T.clN cM.at_ cM.ok hr cM.b .nil pass0 (pa_cons (pv 3) (pa_cons (pe_callTy cr_tupOf (by rfl) T.tuple bt_tuple (pa_cons
        (pe_lc (own := [("_law_place", 5)]) (g := gName 5) (tt := tYes) rfl nd (pi_tup (pv 4))
          (blkOk_by (N := ["_law_machines", "_law_letters", "_law_states", "_law_letter", "_law_there", "_law_place", "_law_after", "_law_found", "_law_k"]) (sc := defScope sMeet) (by decide +kernel)) (fun _ _ _ _ _ => pg_name (i := 5) nd rfl (Or.inl rfl)) (fun _ _ _ _ _ => pts_nil)
          (fun _ _ _ _ _ => pe_ix (r := rIxL K) ix_list (pv 2) (pv 5) (fun _ _ => rfl))) pa_nil)) pa_nil)))) <|
      pss_cons (ps_if (PW.pt (pw_or (pt_not (pt_val (pe_callB call_isi (by rfl) T.isi bt_isi (pa_cons (pv 6) (pa_cons (pe_bltn (v := .ty "tuple") (by rfl) T.tuple bt_tuple rfl) pa_nil)))))
        (pw_or1 (pt_cmp (pc_neI (pe_callB cr_lenS (by rfl) T.len PySem.boot_len (pa_cons (pv 6) pa_nil)) (pe_callB cr_lenS (by rfl) T.len PySem.boot_len (pa_cons (pv 4) pa_nil))))))) (pss_one (ps_ret pe_non)) pss_nil) <|
      pss_cons (ps_set (i := 7) nd rfl (.inl rfl) (pe_callTy cr_lstOf (by rfl) T.list bt_list (pa_cons (pv 2) pa_nil))) <|
      pss_cons (ps_for PassesOwn.never rfl (pi_range1 rfl T.range (pa_cons (pe_callB cr_lenS (by rfl) T.len PySem.boot_len (pa_cons (pv 4) pa_nil)) pa_nil)) (pg_name (i := 8) nd rfl (.inl rfl))
        (pss_cons (ps_set (i := 5) nd rfl (.inl rfl) (pe_ix ix_tup (pv 4) (pv 8) (fun _ _ => rfl))) <|
         pss_one (ps_asg (pe_ix ix_tup (pv 6) (pv 8) (fun _ _ => rfl)) (pg_sub (pv 7) (pv 5) set_list)))) <|
      pss_one (ps_ret (pv 7)), ?_⟩
    have n4 := AL.n4
    obtain ⟨dx, qa, ho, hA⟩ := id hN
    -- there
    obtain ⟨v, hv⟩ : ∃ v, ws[a]? = some v := ⟨_, List.getElem?_eq_getElem (by rw [hW.1]; exact hal)⟩
    obtain ⟨ta, rfl, hta⟩ := hW.2 a v hv
    have hmem : lets.getD a [] ∈ lets := Gsp.getD_mem hal
    have hlt := AL.lt _ hmem
    have hl4 := Gsp.length_le4 hlt (AL.asc _ hmem)
    have hpos : 0 < (lets.getD a []).length := List.length_pos_iff.mpr (AL.ne _ hmem)
    generalize hla : lets.getD a [] = la at hta hlt hl4 hpos
    refine ⟨_, rfl, _, rfl, l, _, _, _, rfl, rfl, SqL.of hl, atI_nat hv, ?_⟩
    -- after
    refine ⟨_, rfl, o, dx, _, rfl, ho, nf_no _ (by decide +kernel), _, rfl, _, rfl, ta, rfl, ⟨_, SqT.of hta⟩, fun D hD => ?_⟩
    refine lc_tup (K := K) (xs := (castL la).map V.int) (fun i H' => Same H H' ∧ ∃ acc, H' D = some (.lst acc) ∧ acc.length = i ∧ ∀ (j : Nat) y, acc[j]? = some y → TI H y ((la.map fun q => sts.getD q []).getD j []))
      ⟨same_new (Same.refl _) hD, [], upd_same, rfl, fun j y z => by simp at z⟩ ?_ ?_ ?_
    · rintro i H' _ ⟨e, _⟩
      exact SqT.of (e _ _ hta)
    · rintro i y H' hy ⟨e, acc, hacc, hal', hit⟩
      obtain ⟨p, hp, rfl⟩ := castL_get hy
      have hpn := hlt p (List.mem_of_getElem? hp)
      have hi : i < la.length := (List.getElem?_eq_some_iff.mp hp).1
      obtain ⟨u, hu⟩ : ∃ u, us[p]? = some u := ⟨_, List.getElem?_eq_getElem (by rw [hS.len]; exact hpn)⟩
      refine ⟨rfl, _, rfl, _, rfl, sl, _, _, _, rfl, rfl, SqL.of (e _ _ hs), atI_nat hu, acc, hacc, by rw [hal']; exact small1000 (by omega), same_put e hD, acc ++ [u], upd_same, by rw [List.length_append, hal']; rfl, items_push hal' hit ?_⟩
      have : (la.map fun q => sts.getD q []).getD i [] = sts.getD p [] := by
        simp [List.getD, List.getElem?_map, hp]
      rw [this]
      exact hS.at_ p u hu
    rintro H1 ⟨e1, acc, hacc, hal', hit⟩
    rw [castL_len] at hal'
    refine ⟨D, _, rfl, .inl ⟨SqL.of hacc, fun t ht => ?_⟩⟩
    have e2 : Same H (upd H1 t (.tup acc)) := same_new e1 ht
    refine ⟨o, t, acc, n, a, lets, la.map fun q => sts.getD q [], rfl, hN.same e2, upd_same, by rw [hal', List.length_map], fun j y hj => (hit j y hj).kt (.of e2), fun j hj => ?_, by rw [List.length_map]; exact hpos, by rw [List.length_map]; omega, AL, hal, fun H2 v2 e3 hrep => ?_⟩
    · rw [List.length_map] at hj
      obtain ⟨p, hp⟩ : ∃ p, la[j]? = some p := ⟨_, List.getElem?_eq_getElem hj⟩
      have : (la.map fun q => sts.getD q []).getD j [] = sts.getD p [] := by
        simp [List.getD, List.getElem?_map, hp]
      rw [this]
      exact hS.size p (hlt p (List.mem_of_getElem? hp))
    obtain ⟨t3, vs3, rfl, ht3, hl3, hit3⟩ := hrep
    rw [List.length_map] at hl3
    have eH2 : Same H H2 := e2.trans e3
    -- the test
    refine ⟨_, rfl, _, _, _, _, true, rfl, .ty "tuple", .base (.tup ht3), kit_ty (by decide +kernel), true, rfl, iteF ⟨_, rfl, t3, _, rfl, .inr (SqT.of ht3), _, rfl, ta, _, rfl, .inr (SqT.of (eH2 _ _ hta)), _, _, rfl, rfl, false, ?_, iteF ?_⟩⟩
    · rw [castL_len, hl3]
      exact bl_nt rfl
    -- found
    refine ⟨_, rfl, sl, _, rfl, .inl (SqL.of (eH2 _ _ hs)), fun g hg => ?_⟩
    refine ⟨_, rfl, ta, _, rfl, .inr (SqT.of (same_new eH2 hg _ _ hta)), _, rfl, by omega, by rw [castL_len]; omega, ?_⟩
    rw [castL_len]
    have hupd : ∀ {H' : Hp} {cur : List V} (o : HO), H' g = some (.lst cur) → KT H' (upd H' g o) := fun o h => (KT.of (Same.refl _)).put fun vs z => by rw [h] at z; cases z
    refine for_range (lo := 0) (n := la.length) (fun k σ H' => ∃ x5 x8, σ = [some (.ref o), some (.ref l), some (.ref sl), some (.int a), some (.ref ta), x5, some (.ref t3), some (.ref g), x8] ∧ Same H2 H' ∧ ∃ cur, H' g = some (.lst cur) ∧ cur.length = n ∧
        ∀ (i : Nat) x, cur[i]? = some x → TI H' x (if i ∈ la.take k then Gsp.meetM n lets.length lets a (la.map fun q => sts.getD q []) else sts.getD i []))
      ⟨_, _, rfl, same_new (Same.refl _) hg, us, upd_same, hS.len, fun i x hx => ?_⟩ ?_ ?_
    · rw [List.take_zero, if_neg (by simp)]
      exact (hS.at_ i x hx).kt (.of (same_new eH2 hg))
    · rintro k σ H3 hk ⟨x5, x8, rfl, e4, cur, hcur, hcl, hci⟩
      obtain ⟨p, hp⟩ : ∃ p, la[k]? = some p := ⟨_, List.getElem?_eq_getElem hk⟩
      obtain ⟨y, hy⟩ : ∃ y, vs3[k]? = some y := ⟨_, List.getElem?_eq_getElem (by rw [hl3]; exact hk)⟩
      have hpn := hlt p (List.mem_of_getElem? hp)
      refine ⟨_, rfl, _, rfl, ta, _, _, _, rfl, rfl, SqT.of (e4 _ _ (eH2 _ _ hta)), (by rw [Int.zero_add]; exact atI_nat (castL_at hp)), ?_⟩
      refine ⟨_, rfl, _, rfl, t3, _, _, _, rfl, rfl, SqT.of (e4 _ _ ht3), (by rw [Int.zero_add]; exact atI_nat hy), _, rfl, _, rfl, g, _, _, p, rfl, rfl, hcur, ?_, ?_⟩
      · rw [hcl]
        unfold ixN
        rw [if_pos (by omega), if_pos (by omega), Int.toNat_natCast]
      · have etk : la.take (k + 1) = la.take k ++ [p] := by
          rw [List.take_add_one, hp]
          rfl
        refine ⟨_, _, rfl, same_put e4 hg, cur.set p y, upd_same, by rw [List.length_set]; exact hcl, fun i x hx => ?_⟩
        rw [etk]
        by_cases hip : i = p
        · subst hip
          rw [List.getElem?_set_self (by rw [hcl]; exact hpn)] at hx
          cases hx
          rw [if_pos (by simp)]
          exact ((hit3 k y hy).kt (.of e4)).kt (hupd _ hcur)
        · rw [List.getElem?_set_ne (fun z => hip z.symm)] at hx
          have := (hci i x hx).kt (hupd (.lst (cur.set p y)) hcur)
          by_cases hin : i ∈ la.take k
          · rw [if_pos hin] at this
            rw [if_pos (List.mem_append_left _ hin)]
            exact this
          · rw [if_neg hin] at this
            rw [if_neg (by simp [hin, hip])]
            exact this
    · rintro σ H3 ⟨x5, x8, rfl, e4, cur, hcur, hcl, hci⟩
      rw [List.take_length] at hci
      have hget : ∀ i, i < n → (Gsp.stepM n lets sts a).getD i [] = if i ∈ la then Gsp.meetM n lets.length lets a (la.map fun q => sts.getD q []) else sts.getD i [] := fun i hi => by
        rw [Gsp.stepM_get hi]
        unfold Gsp.letAt
        rw [hla]
      refine ⟨_, rfl, q H3 g cur (eH2.trans e4) (eH2.free hg) hcur ⟨hcl, fun i x hx => ?_, fun i hi => ?_⟩⟩
      · have hi : i < n := by
          have := (List.getElem?_eq_some_iff.mp hx).1
          omega
        rw [hget i hi]
        exact hci i x hx
      · rw [hget i hi]
        split
        · exact Gsp.flat_length _ _
        · exact hS.size i hi
end
end Nws
namespace Nws
open PySem L2
abbrev sLaw : Stmt := top 32
/-! states as data, for != -/
def dInts (xs : List Int) : PyData := .tuple (xs.map PyData.int)
def dSts (n : Nat) (sts : List (List Int)) : PyData := .list ((List.range n).map fun i => dInts (sts.getD i []))
theorem can_ints : ∀ xs : List Int, PyData.canLayAll0 (xs.map PyData.int) = true
  | [] => by simp only [List.map_nil, PyData.canLayAll0]
  | x :: xs => by simp only [List.map_cons, PyData.canLayAll0, PyData.canLay0, can_ints xs, Bool.and_self]
theorem dep_ints : ∀ xs : List Int, PyData.depthAll (xs.map PyData.int) = 0
  | [] => by simp only [List.map_nil, PyData.depthAll]
  | x :: xs => by simp only [List.map_cons, PyData.depthAll, PyData.depth, dep_ints xs, Nat.max_self]
theorem can_tups : ∀ yss : List (List Int), PyData.canLayAll0 (yss.map dInts) = true
  | [] => by simp only [List.map_nil, PyData.canLayAll0]
  | x :: xs => by simp only [List.map_cons, PyData.canLayAll0, dInts, PyData.canLay0, can_ints x, can_tups xs, Bool.and_self]
theorem dep_tups : ∀ yss : List (List Int), PyData.depthAll (yss.map dInts) ≤ 1
  | [] => by simp only [List.map_nil, PyData.depthAll]; omega
  | x :: xs => by
    have := dep_tups xs
    simp only [List.map_cons, PyData.depthAll, dInts, PyData.depth, dep_ints x]
    omega
theorem dSts_map (n : Nat) (sts : List (List Int)) : dSts n sts = .list (((List.range n).map fun i => sts.getD i []).map dInts) := by
  unfold dSts
  rw [List.map_map]
  rfl
theorem can_sts (n : Nat) (sts : List (List Int)) : (dSts n sts).canLay0 = true := by
  rw [dSts_map]
  simp only [PyData.canLay0, can_tups]
theorem shaped_sts (n : Nat) (sts : List (List Int)) : SeqAt.shaped (dSts n sts) = true := by
  unfold SeqAt.shaped
  rw [can_sts, Bool.true_and]
  refine decide_eq_true ?_
  rw [dSts_map]
  have := dep_tups ((List.range n).map fun i => sts.getD i [])
  simp only [PyData.depth]
  omega
theorem dpAll_of {K : PySem.W.Frag} {H : Hp} : ∀ {us : List V} {ds : List PyData}, us.length = ds.length → (∀ (i : Nat) x d, us[i]? = some x → ds[i]? = some d → Dp K H x d) → DpAll K H us ds
  | [], [], _, _ => .nil
  | [], _ :: _, h, _ => by cases h
  | _ :: _, [], h, _ => by cases h
  | u :: us, d :: ds, h, k => .cons (k 0 u d rfl rfl) (dpAll_of (by simpa using h) fun i x e hx hd => k (i + 1) x e (by simpa using hx) (by simpa using hd))
theorem dp_ints {K : PySem.W.Frag} {H : Hp} {v : V} {xs : List Int} (h : TI H v xs) : Dp K H v (dInts xs) := by
  obtain ⟨a, rfl, h⟩ := h
  refine .tup (SqT.of h) (dpAll_of (by simp) fun i x d hx hd => ?_)
  rw [List.getElem?_map] at hx hd
  cases e : xs[i]? with
  | none => rw [e] at hx; cases hx
  | some z =>
    rw [e] at hx hd
    cases hx
    cases hd
    exact .int z
theorem dp_sts {K : PySem.W.Frag} {H : Hp} {g : Addr} {n : Nat} {sts : List (List Int)} {us : List V} (hg : H g = some (.lst us)) (hS : StsV H n sts us) : Dp K H (.ref g) (dSts n sts) := by
  refine .lst (SqL.of hg) (dpAll_of (by rw [hS.len]; simp) fun i x d hx hd => ?_)
  rw [List.getElem?_map] at hd
  cases e : (List.range n)[i]? with
  | none => rw [e] at hd; cases hd
  | some z =>
    rw [e] at hd
    cases hd
    obtain ⟨h1, h2⟩ := List.getElem?_eq_some_iff.mp e
    rw [List.getElem_range] at h2
    subst h2
    exact dp_ints (hS.at_ i x hx)
theorem ne_same (n : Nat) (sts : List (List Int)) : V.bl (!PyData.eqv (dSts n sts) (dSts n sts)) = V.bl false := by
  rw [SeqAt.eqv_refl _ (can_sts n sts)]
  rfl
theorem run0_sts {H : Hp} {n : Nat} {lets : List (List Nat)} {x : List Nat} {us : List V} (hl : us.length = n) (h : ∀ (i : Nat) y, us[i]? = some y → TI H y (Gsp.start n)) : StsV H n (Gsp.runM n lets x 0) us := by
  have e : ∀ i, i < n → (Gsp.runM n lets x 0).getD i [] = Gsp.start n := fun i hi => by
    simp [Gsp.runM, List.getD, List.getElem?_replicate, hi]
  refine ⟨hl, fun i y hy => ?_, fun i hi => ?_⟩
  · have hi : i < n := by
      have := (List.getElem?_eq_some_iff.mp hy).1
      omega
    rw [e i hi]
    exact h i y hy
  · rw [e i hi]
    simp [Gsp.start]
theorem int_dec (p : Prop) [Decidable p] : (if decide p = true then (1 : Int) else 0) = if p then 1 else 0 := by
  by_cases h : p
  · rw [decide_eq_true h, if_pos rfl, if_pos h]
  · rw [decide_eq_false h, if_neg Bool.false_ne_true, if_neg h]
def spLaw (K : PySem.W.Frag) : Sp := fun vs H Q _ => ∃ (a : Addr) (ns : List Int), vs = [.ref a] ∧ SqL K H a (ns.map V.int) ∧ ns.length ≤ 63 ∧ ∀ H', Q (.bl true) H'
theorem scLaw : FnScope ["_law_script", "_law_draws_here", "_law_count", "_law_letters", "_law_news", "_law_states", "_law_word_here", "_law_letter", "_law_after", "_law_place", "_law_known", "_law_one", "_law_two", "_law_due", "_law_found"]
    ["_law_script"] (defScope sLaw) := ⟨rfl, rfl, rfl, by decide +kernel, rfl, by decide +kernel, by decide +kernel⟩
section
variable {P : Program} {w : World} {K : PySem.W.Frag} {mg : Str → Option Value} {base : Heap} {CK CN CA : Addr}
theorem ok_law {f fD fA fW fM fNw fSm fI fNi fAi fSt fC : Addr} {fd fdD fdA fdW fdM fdNw fdSm fdI fdNi fdAi fdSt fdC : FuncData} (F : Fun K "law" "law" sLaw f fd) (T : Txt K mg CK CN CA)
    (cD : Cal P w K mg base 1 "_law_draws" ["_law_script", "_law_count"] (spDraws K) fD fdD)
    (cA : Cal P w K mg base 2 "_law_alphabet" ["_law_draws_here", "_law_places", "_law_most"] spAlph fA fdA)
    (cW : Cal P w K mg base 2 "_law_word" ["_law_draws_here", "_law_letters", "_law_most"] spWord fW fdW)
    (cM : Cal P w K mg base 5 "_law_meet" ["_law_machines", "_law_letters", "_law_states", "_law_letter"] (spLmeet CN CA) fM fdM)
    (cNw : Cal P w K mg base 4 "_law_newest" ["_law_count", "_law_letters", "_law_word_here", "_law_place"] spNewest fNw fdNw)
    (cSm : Cal P w K mg base 2 "_law_small_state" ["_law_actual", "_law_most"] spSmall fSm fdSm)
    (cI : Cal P w K mg base 1 "_law_is_integer" ["_law_actual"] spIsInt fI fdI)
    (mN : Ccal P w K mg base 1 CN ["self", "alphabet"] (spNinit CN) fNi fdNi)
    (mA : Ccal P w K mg base 2 CA ["self", "places", "letters"] (spAinit CA) fAi fdAi)
    (cSt : Mcal P w K mg base 5 CN "start" ["self"] (spNstart CN CA) fSt fdSt)
    (cC : Mcal P w K mg base 4 CN "compare" ["self", "first", "second", "place"] (spNcmp CN CA) fC fdC) :
    FnOk P w K mg base CX0 6 f fd ["_law_script"] (spLaw K) := by
  refine F.ok scLaw (fun vs H Q E h => ?_) (fun cdv A outer s H vs Q E hr h => ?_)
  · obtain ⟨a, ns, rfl, _⟩ := h
    rfl
  · obtain ⟨a, ns, rfl, hS, hlen, q⟩ := h
    have nd := scLaw.nd
    have hr4 : Room 4 _ := hr.mono (by decide)
    have hr3 : Room 3 _ := hr.mono (by decide)
    have hr2 : Room 2 _ := hr.mono (by decide)
    have hr1 : Room 1 _ := hr.mono (by decide)
    refine ⟨_, pss_cons (ps_set (i := 1) nd rfl (.inl rfl) (pe_call cD.ok hr1 rfl cD.mg cD.kp cD.b .nil pass0 (pa_cons (pv 0) (pa_cons pe_int pa_nil)))) <|
      pss_cons (ps_asg (pe_call cA.ok hr2 rfl cA.mg cA.kp cA.b .nil pass0 (pa_cons (pv 1) (pa_cons pe_int (pa_cons pe_int pa_nil)))) (pg_tup rfl (pgs_cons (pg_name (i := 2) nd rfl (.inr rfl)) (pgs_cons (pg_name (i := 3) nd rfl (.inr rfl)) pgs_nil)))) <|
      pss_cons (ps_set (i := 4) nd rfl (.inl rfl) (pe_make mN.made mN.ok hr2 rfl T.mgN mN.b .nil pass0 (pa_cons (pe_make mA.made mA.ok hr3 rfl T.mgA mA.b .nil pass0 (pa_cons (pv 2) (pa_cons (pe_callTy cr_lstOf (by rfl) T.list bt_list (pa_cons (pv 3) pa_nil)) pa_nil))) pa_nil))) <|
      pss_cons (ps_set (i := 5) nd rfl (.inl rfl) (pe_meth0 (pv 4) T.clN cSt.at_ cSt.ok hr cSt.b .nil pass0)) <|
      pss_cons (ps_if (PW.pt (pw_or (pt_not (pt_val (pe_callB call_isi (by rfl) T.isi bt_isi (pa_cons (pv 5) (pa_cons (pe_bltn (v := .ty "tuple") (by rfl) T.tuple bt_tuple rfl) pa_nil)))))
        (pw_or1 (pt_cmp (pc_neI (pe_callB cr_lenS (by rfl) T.len PySem.boot_len (pa_cons (pv 5) pa_nil)) (pv 2)))))) (pss_one (ps_ret pe_bl)) pss_nil) <|
      pss_cons (ps_set (i := 5) nd rfl (.inl rfl) (pe_callTy cr_lstOf (by rfl) T.list bt_list (pa_cons (pv 5) pa_nil))) <|
      pss_cons (ps_set (i := 6) nd rfl (.inr rfl) (pe_call cW.ok hr2 rfl cW.mg cW.kp cW.b .nil pass0 (pa_cons (pv 1) (pa_cons (pe_callB cr_lenS (by rfl) T.len PySem.boot_len (pa_cons (pv 3) pa_nil)) (pa_cons pe_int pa_nil))))) <|
      pss_cons (ps_for PassesOwn.never rfl (pi_tup (pv 6)) (pg_name (i := 7) nd rfl (.inl rfl))
        (pss_cons (ps_set (i := 8) nd rfl (.inl rfl) (pe_call cM.ok hr rfl cM.mg cM.kp cM.b .nil pass0 (pa_cons (pv 4) (pa_cons (pv 3) (pa_cons (pv 5) (pa_cons (pv 7) pa_nil)))))) <|
         pss_cons (ps_if (PW.pt (pw_or (pt_cmp (pc_isN (pv 8))) (pw_or1 (pt_cmpR (op_neD hr.units) (pv 8) (pe_call cM.ok hr rfl cM.mg cM.kp cM.b .nil pass0 (pa_cons (pv 4) (pa_cons (pv 3) (pa_cons (pv 5) (pa_cons (pv 7) pa_nil))))) (nomark _)))))
           (pss_one (ps_ret pe_bl)) pss_nil) <|
         pss_one (ps_set (i := 5) nd rfl (.inl rfl) (pv 8)))) <|
      pss_cons (ps_setLc (i := 10) (own := [("_law_place", 9)]) (g := gName 9) (tt := tYes) (by rfl) nd rfl rfl (sw_true rfl rfl rfl (by decide +kernel)) (pi_range1 rfl T.range (pa_cons (pv 2) pa_nil))
        (blkOk_by (N := ["_law_script", "_law_draws_here", "_law_count", "_law_letters", "_law_news", "_law_states", "_law_word_here", "_law_letter", "_law_after", "_law_place", "_law_known", "_law_one", "_law_two", "_law_due", "_law_found"]) (sc := defScope sLaw) (by decide +kernel))
        (fun _ _ _ _ _ => pg_name (i := 9) nd rfl (Or.inl rfl)) (fun _ _ _ _ _ => pts_nil) (fun _ _ _ _ _ => pe_call cNw.ok hr4 rfl cNw.mg cNw.kp cNw.b .nil pass0 (pa_cons (pv 2) (pa_cons (pv 3) (pa_cons (pv 6) (pa_cons (pv 9) pa_nil)))))) <|
      pss_cons (ps_for PassesOwn.never rfl (pi_range1 rfl T.range (pa_cons (pv 2) pa_nil)) (pg_name (i := 11) nd rfl (.inl rfl))
        (pss_cons (ps_if (pt_not (pt_val (pe_call cSm.ok hr2 rfl cSm.mg cSm.kp cSm.b .nil pass0 (pa_cons (pe_ix ix_list (pv 5) (pv 11) (fun _ _ => rfl)) (pa_cons pe_int pa_nil))))) (pss_one (ps_ret pe_bl)) pss_nil) <|
         pss_one (ps_for PassesOwn.never rfl (pi_range1 rfl T.range (pa_cons (pv 2) pa_nil)) (pg_name (i := 12) nd rfl (.inl rfl))
          (pss_one (ps_for PassesOwn.never rfl (pi_range1 rfl T.range (pa_cons (pv 2) pa_nil)) (pg_name (i := 9) nd rfl (.inl rfl))
            (pss_cons (ps_set (i := 13) nd rfl (.inl rfl) (pe_op op_sub
              (pe_callTy call_int1 (by rfl) T.int bt_int (pa_cons (pe_cmp (pc_gt (pe_ix ix_list (pe_ix ix_list (pv 10) (pv 11) (fun _ _ => rfl)) (pv 9) (fun _ _ => rfl)) (pe_ix ix_list (pe_ix ix_list (pv 10) (pv 12) (fun _ _ => rfl)) (pv 9) (fun _ _ => rfl)))) pa_nil))
              (pe_callTy call_int1 (by rfl) T.int bt_int (pa_cons (pe_cmp (pc_lt (pe_ix ix_list (pe_ix ix_list (pv 10) (pv 11) (fun _ _ => rfl)) (pv 9) (fun _ _ => rfl)) (pe_ix ix_list (pe_ix ix_list (pv 10) (pv 12) (fun _ _ => rfl)) (pv 9) (fun _ _ => rfl)))) pa_nil)))) <|
             pss_cons (ps_set (i := 14) nd rfl (.inl rfl) (pe_meth (pv 4) T.clN cC.at_ cC.ok hr4 cC.b .nil pass0 (pa_cons (pe_ix ix_list (pv 5) (pv 11) (fun _ _ => rfl)) (pa_cons (pe_ix ix_list (pv 5) (pv 12) (fun _ _ => rfl)) (pa_cons (pv 9) pa_nil))))) <|
             pss_one (ps_if (PW.pt (pw_or (pt_not (pt_val (pe_call cI.ok hr1 rfl cI.mg cI.kp cI.b .nil pass0 (pa_cons (pv 14) pa_nil)))) (pw_or1 (pt_cmp (pc_neI (pv 14) (pv 13)))))) (pss_one (ps_ret pe_bl)) pss_nil))))))) <|
      pss_one (ps_ret pe_bl), ?_⟩
    -- the draws, the alphabet
    refine ⟨_, rfl, a, ns, rfl, hS, hlen, fun H1 d ds e1 hd0 hd hdl => ?_⟩
    refine ⟨_, rfl, d, ds, rfl, hd, hdl, fun H2 t l n lets ws kd2 ht hl hln hW AL => ?_⟩
    refine ⟨t, _, rfl, SqT.of ht, rfl, _, _, rfl, _, _, rfl, rfl, ?_⟩
    have n1 := AL.n1
    have n4 := AL.n4
    have m1 := AL.m1
    -- news
    refine ⟨_, rfl, _, rfl, l, _, rfl, .inl (SqL.of hl), fun l2 hl2 => ?_⟩
    intro q2 dq hq2 hdq hne2
    have e3 : Same H2 (upd (upd (upd H2 l2 (.lst ws)) dq (.own q2)) q2 (.ins CA dq [])) := same_new (o := .ins CA dq []) (same_new (o := .own q2) (same_new (Same.refl _) hl2) hdq) (by rw [upd_ne hne2.symm]; exact hq2)
    refine ⟨q2, dq, l2, n, ws, lets, rfl, upd_same, ?_, hW.kt (.of e3), AL, fun H4 keep4 hAl => ⟨rfl, ?_⟩⟩
    · have nl2q : l2 ≠ q2 := ne_of_none upd_same hq2
      have nl2d : l2 ≠ dq := ne_of_none upd_same hdq
      rw [upd_ne nl2q, upd_ne nl2d, upd_same]
    have e4 : Same H2 H4 := fun b o hb => keep4 b o (e3 b o hb) (fun z => by
      have := e3 b o hb
      have hq2n : H2 q2 = none := by
        have := (same_new (o := .lst ws) (Same.refl H2) hl2).free hq2
        exact this
      rw [z, hq2n] at hb
      cases hb)
    intro o dx ho0 hdx hne3
    refine ⟨o, dx, .ref q2, rfl, upd_same, rfl, ?_⟩
    rw [upd_upd]
    have e5 : Same H4 (upd (upd H4 dx (.own o)) o (.ins CN dx (nf (.ref q2)))) := same_new (o := .ins CN dx (nf (.ref q2))) (same_new (o := .own o) (Same.refl _) hdx) (by rw [upd_ne hne3.symm]; exact ho0)
    have ho : (upd (upd H4 dx (.own o)) o (.ins CN dx (nf (.ref q2)))) o = some (.ins CN dx (nf (.ref q2))) := upd_same
    have hN5 : NwAt CN CA (upd (upd H4 dx (.own o)) o (.ins CN dx (nf (.ref q2)))) n lets o := ⟨dx, q2, ho, hAl.same e5⟩
    have eH5 : Same H2 (upd (upd H4 dx (.own o)) o (.ins CN dx (nf (.ref q2)))) := e4.trans e5
    generalize (upd (upd H4 dx (.own o)) o (.ins CN dx (nf (.ref q2)))) = H5 at ho hN5 eH5 ⊢
    -- start
    refine ⟨_, rfl, o, dx, _, rfl, ho, nf_no _ (by decide +kernel), o, n, lets, rfl, hN5, n1, n4, fun H6 v6 e6 hrep => ?_⟩
    obtain ⟨t6, vs6, rfl, ht6, hl6, hit6⟩ := hrep
    refine ⟨_, rfl, _, _, _, _, true, rfl, .ty "tuple", .base (.tup ht6), kit_ty (by decide +kernel), true, rfl, iteF ⟨_, rfl, t6, _, rfl, .inr (SqT.of ht6), _, rfl, _, _, rfl, rfl, false, by rw [hl6]; exact bl_nt rfl, iteF ?_⟩⟩
    refine ⟨_, rfl, t6, _, rfl, .inr (SqT.of ht6), fun s7 hs7 => ?_⟩
    have e7 : Same H2 (upd H6 s7 (.lst vs6)) := same_new (eH5.trans e6) hs7
    have hN7 : NwAt CN CA (upd H6 s7 (.lst vs6)) n lets o := hN5.same (same_new e6 hs7)
    have hs7' : (upd H6 s7 (.lst vs6)) s7 = some (.lst vs6) := upd_same
    have hit7 : ∀ (i : Nat) y, vs6[i]? = some y → TI (upd H6 s7 (.lst vs6)) y (Gsp.start n) := fun i y hy => (hit6 i y hy).kt (KT.new (.of (Same.refl _)) hs7)
    generalize (upd H6 s7 (.lst vs6)) = H7 at e7 hN7 hs7' hit7 ⊢
    -- the word
    obtain ⟨_, ds2, hd2, hdl2⟩ := id kd2
    have hd7 := e7 _ _ hd2
    have hwl := hW.1
    refine ⟨_, rfl, _, rfl, l, _, rfl, .inl (SqL.of (e7 _ _ hl)), d, ds2, ws.length, rfl, hd7, hdl2, by omega, fun H8 t8 x kd8 ht8 hx16 hxm => ?_⟩
    have ndl : ∀ {b : Addr} {xs : List V}, H2 b = some (.lst xs) → True := fun _ => trivial
    have hlne : l ≠ d := fun z => by
      rw [z] at hln
      rw [hd] at hln
      cases hln
    have hN8 : NwAt CN CA H8 n lets o := by
      obtain ⟨d1, qq, h1, d3, v3, h3, h4⟩ := hN7
      have kt := kd8.kt hd7
      exact ⟨d1, qq, kd8.1 _ _ h1 (ne_of h1 hd7 (by intro z; cases z)), d3, v3, kd8.1 _ _ h3 (ne_of h3 hd7 (by intro z; cases z)), h4.kt kt⟩
    have hl8 : H8 l = some (.lst ws) := kd8.1 _ _ (e7 _ _ hl) hlne
    have hW8 : LetsV H8 lets ws := (hW.kt (.of e7)).kt (kd8.kt hd7)
    have hs8 : H8 s7 = some (.lst vs6) := by
      refine kd8.1 _ _ hs7' (fun z => ?_)
      have h1 := eH5.trans e6 d _ hd2
      rw [← z, hs7] at h1
      cases h1
    have WW : Gsp.Word lets.length x := ⟨fun b hb => by rw [← hwl]; exact hxm b hb⟩
    have hS8 : StsV H8 n (Gsp.runM n lets x 0) vs6 := run0_sts hl6 fun i y hy => (hit7 i y hy).kt (kd8.kt hd7)
    clear hs7' hit7 hs7 hit6
    -- letter by letter
    refine ⟨_, rfl, t8, rfl, ⟨_, SqT.of ht8⟩, for_tup (K := K) (xs := (castL x).map V.int)
      (fun i σ H' => ∃ x7 x8 sl us, σ = [some (.ref a), some (.ref d), some (.int n), some (.ref l), some (.ref o), some (.ref sl), some (.ref t8), x7, x8, none, none, none, none, none, none] ∧ Same H8 H' ∧
        H' sl = some (.lst us) ∧ StsV H' n (Gsp.runM n lets x i) us) ⟨_, _, s7, vs6, rfl, Same.refl _, hs8, hS8⟩ ?_ ?_ ?_⟩
    · rintro i σ H' _ ⟨x7, x8, sl, us, rfl, e, _⟩
      exact SqT.of (e _ _ ht8)
    · rintro i y σ H9 hy ⟨x7, x8, sl, us, rfl, e9, hsl, hS9⟩
      obtain ⟨b, hb, rfl⟩ := castL_get hy
      have hbl := WW.lt b (List.mem_of_getElem? hb)
      refine ⟨_, rfl, _, rfl, _, rfl, _, rfl, o, l, sl, ws, us, n, b, lets, _, rfl, hN8.same e9, e9 _ _ hl8, hW8.kt (.of e9), hsl, hS9, AL, hbl, fun H10 g10 us10 e10 _ hg10 hS10 => ?_⟩
      refine ⟨_, rfl, false, bl_f (by intro z; cases z), iteF ⟨_, rfl, _, rfl, _, rfl, _, rfl, _, rfl, o, l, sl, ws, us, n, b, lets, _, rfl, (hN8.same e9).same e10, e10 _ _ (e9 _ _ hl8), (hW8.kt (.of e9)).kt (.of e10), e10 _ _ hsl, hS9.kt (.of e10), AL, hbl,
        fun H11 g11 us11 e11 _ hg11 hS11 => ⟨_, _, dp_sts (e11 _ _ hg10) (hS10.kt (.of e11)), dp_sts hg11 hS11, shaped_sts _ _, shaped_sts _ _, false, ne_same _ _, iteF ?_⟩⟩⟩
      have er : Gsp.runM n lets x (i + 1) = Gsp.stepM n lets (Gsp.runM n lets x i) b := by
        show Gsp.stepM n lets (Gsp.runM n lets x i) (x.getD i 0) = _
        simp [List.getD, hb]
      refine ⟨_, rfl, _, _, g10, us10, rfl, (e9.trans e10).trans e11, e11 _ _ hg10, ?_⟩
      rw [er]
      exact hS10.kt (.of e11)
    rintro σ H9 ⟨x7, x8, sl, us, rfl, e9, hsl, hS9⟩
    rw [castL_len] at hS9
    have L9 : Look4 H9 l t8 ws n lets x := ⟨e9 _ _ hl8, hW8.kt (.of e9), AL, e9 _ _ ht8, hx16, WW⟩
    have hN9 := hN8.same e9
    -- what is known, by views
    refine ⟨_, rfl, (n : Int), rfl, by omega, by omega, fun D hD => ?_⟩
    refine lc_range (lo := 0) (n := n) (fun i H' => Same H9 H' ∧ ∃ acc, H' D = some (.lst acc) ∧ acc.length = i ∧ ∀ (j : Nat) y, acc[j]? = some y → ∃ g, y = .ref g ∧ g ≠ D ∧ H' g = some (.lst ((List.range n).map fun r => V.int (Gsp.nwM lets x j r))))
      ⟨same_new (Same.refl _) hD, [], upd_same, rfl, fun j y z => by simp at z⟩ ?_ ?_
    · rintro i H10 hi ⟨e10, acc, hacc, hal, hit⟩
      refine ⟨rfl, _, rfl, _, rfl, _, rfl, _, rfl, l, t8, ws, n, lets, x, i, by rw [Int.zero_add]; rfl, L9.same e10, fun H11 g e11 hg0 hg => ?_⟩
      have ngD : g ≠ D := fun z => by
        rw [z, hacc] at hg0
        cases hg0
      refine ⟨acc, e11 _ _ hacc, by rw [hal]; exact small1000 (by omega), same_put (e10.trans e11) hD, acc ++ [.ref g], upd_same, by rw [List.length_append, hal]; rfl, ?_⟩
      refine items_push (R := fun j y => ∃ g', y = .ref g' ∧ g' ≠ D ∧ (upd H11 D (.lst (acc ++ [.ref g]))) g' = some (.lst ((List.range n).map fun r => V.int (Gsp.nwM lets x j r)))) hal (fun j y hj => ?_) ⟨g, rfl, ngD, by rw [upd_ne ngD]; exact hg⟩
      obtain ⟨g', e12, ne12, h12⟩ := hit j y hj
      exact ⟨g', e12, ne12, by rw [upd_ne ne12]; exact e11 _ _ h12⟩
    rintro H10 ⟨e10, acc, hacc, hal, hit⟩
    have hN10 := hN9.same e10
    have hsl10 := e10 _ _ hsl
    have hS10 := hS9.kt (.of e10)
    have row : ∀ i, i < n → ∃ g, atI acc (0 + (i : Int)) = some (.ref g) ∧ H10 g = some (.lst ((List.range n).map fun r => V.int (Gsp.nwM lets x i r))) := fun i hi => by
      obtain ⟨y, hy⟩ : ∃ y, acc[i]? = some y := ⟨_, List.getElem?_eq_getElem (by omega)⟩
      obtain ⟨g, rfl, _, hg⟩ := hit i y hy
      exact ⟨g, by rw [Int.zero_add]; exact atI_nat hy, hg⟩
    have cell : ∀ i r, r < n → atI ((List.range n).map fun r => V.int (Gsp.nwM lets x i r)) (0 + (r : Int)) = some (V.int (Gsp.nwM lets x i r)) := fun i r hr' => by
      rw [Int.zero_add]
      exact atI_nat (by simp [List.getElem?_map, List.getElem?_range hr'])
    have stt : ∀ i, i < n → ∃ ts, atI us (0 + (i : Int)) = some (.ref ts) ∧ H10 ts = some (.tup (((Gsp.runM n lets x x.length).getD i []).map V.int)) := fun i hi => by
      obtain ⟨y, hy⟩ : ∃ y, us[i]? = some y := ⟨_, List.getElem?_eq_getElem (by rw [hS10.len]; exact hi)⟩
      obtain ⟨ts, rfl, hts⟩ := hS10.at_ i y hy
      exact ⟨ts, by rw [Int.zero_add]; exact atI_nat hy, hts⟩
    -- the comparisons
    refine ⟨_, rfl, (n : Int), rfl, by omega, by omega, for_range (lo := 0) (n := n)
      (fun i σ H' => ∃ x7 x8 x9 x11 x12 x13 x14, σ = [some (.ref a), some (.ref d), some (.int n), some (.ref l), some (.ref o), some (.ref sl), some (.ref t8), x7, x8, x9, some (.ref D), x11, x12, x13, x14] ∧ Same H10 H')
      ⟨_, _, _, _, _, _, _, rfl, Same.refl _⟩ ?_ ?_⟩
    · rintro i σ H11 hi ⟨x7', x8', x9, x11, x12, x13, x14, rfl, e11⟩
      obtain ⟨ts, hts, hts'⟩ := stt i hi
      have hsz : ((Gsp.runM n lets x x.length).getD i []).length ≤ 300 := by
        rw [Gsp.runM_len _ hi]
        have := Gsp.block_le n4
        omega
      refine ⟨_, rfl, _, rfl, sl, _, _, _, rfl, rfl, SqL.of (e11 _ _ hsl10), hts, ts, _, rfl, e11 _ _ hts', hsz, Gsp.run_small AL WW _ hi, true, rfl, iteF ?_⟩
      refine ⟨_, rfl, (n : Int), rfl, by omega, by omega, for_range (lo := 0) (n := n)
        (fun j σ H' => ∃ x7 x8 x9 x12 x13 x14, σ = [some (.ref a), some (.ref d), some (.int n), some (.ref l), some (.ref o), some (.ref sl), some (.ref t8), x7, x8, x9, some (.ref D), some (.int (0 + (i : Int))), x12, x13, x14] ∧ Same H10 H')
        ⟨_, _, _, _, _, _, rfl, e11⟩ ?_ ?_⟩
      · rintro j σ H12 hj ⟨x7'', x8'', x9', x12', x13', x14', rfl, e12⟩
        refine ⟨_, rfl, (n : Int), rfl, by omega, by omega, for_range (lo := 0) (n := n)
          (fun r σ H' => ∃ x7 x8 x9 x13 x14, σ = [some (.ref a), some (.ref d), some (.int n), some (.ref l), some (.ref o), some (.ref sl), some (.ref t8), x7, x8, x9, some (.ref D), some (.int (0 + (i : Int))), some (.int (0 + (j : Int))), x13, x14] ∧ Same H10 H')
          ⟨_, _, _, _, _, rfl, e12⟩ ?_ ?_⟩
        · rintro r σ H13 hr' ⟨x7''', x8''', x9'', x13'', x14'', rfl, e13⟩
          obtain ⟨g1, hg1, hg1'⟩ := row i hi
          obtain ⟨g2, hg2, hg2'⟩ := row j hj
          obtain ⟨ts2, hts2, hts2'⟩ := stt j hj
          have hD13 := e13 _ _ hacc
          have s1 := e13 _ _ hg1'
          have s2 := e13 _ _ hg2'
          refine ⟨_, rfl, _, rfl, D, _, _, _, rfl, rfl, SqL.of hD13, hg1, _, rfl, g1, _, _, _, rfl, rfl, SqL.of s1, cell i r hr', _, rfl, _, rfl, D, _, _, _, rfl, rfl, SqL.of hD13, hg2, _, rfl, g2, _, _, _, rfl, rfl, SqL.of s2, cell j r hr', _, _, rfl, rfl,
            .inr ⟨_, rfl, _, rfl, _, rfl, D, _, _, _, rfl, rfl, SqL.of hD13, hg1, _, rfl, g1, _, _, _, rfl, rfl, SqL.of s1, cell i r hr', _, rfl, _, rfl, D, _, _, _, rfl, rfl, SqL.of hD13, hg2, _, rfl, g2, _, _, _, rfl, rfl, SqL.of s2, cell j r hr', _, _, rfl, rfl,
              .inr ⟨_, rfl, _, _, rfl, rfl, ?_⟩⟩⟩
          have hN13 := hN10.same e13
          obtain ⟨d13, q13, ho13, _⟩ := id hN13
          refine ⟨_, rfl, o, d13, _, rfl, ho13, nf_no _ (by decide +kernel), _, rfl, _, rfl, sl, _, _, _, rfl, rfl, SqL.of (e13 _ _ hsl10), hts, _, rfl, _, rfl, sl, _, _, _, rfl, rfl, SqL.of (e13 _ _ hsl10), hts2, _, rfl,
            o, ts, ts2, n, r, lets, _, _, by rw [Int.zero_add]; rfl, hN13, e13 _ _ hts', e13 _ _ hts2', Gsp.runM_len _ hi, Gsp.runM_len _ hj, n1, n4, hr', fun H14 e14 => ?_⟩
          refine ⟨_, rfl, _, rfl, true, rfl, iteF ⟨_, rfl, _, rfl, _, _, rfl, rfl, false, ?_, iteF ⟨_, _, _, _, _, rfl, e13.trans e14⟩⟩⟩
          refine bl_nt ?_
          rw [Gsp.law_cmp AL WW hi hj hr', int_dec, int_dec]
        · rintro σ H13 ⟨x7''', x8''', x9'', x13'', x14'', rfl, e13⟩
          exact ⟨_, _, _, _, _, _, rfl, e13⟩
      · rintro σ H12 ⟨x7'', x8'', x9', x12', x13', x14', rfl, e12⟩
        exact ⟨_, _, _, _, _, _, _, rfl, e12⟩
    · rintro σ H11 ⟨x7', x8', x9, x11, x12, x13, x14, rfl, e11⟩
      exact q _
end
end Nws
namespace Nws
open PySem L2
/-- a def of the top -/
def GDef (K : PySem.W.Frag) (mg : Str → Option Value) (x : Str) (st : Stmt) : Prop := ∃ (f : Addr) (fd : FuncData), Fun K x x st f fd ∧ mg x = some (.ref f)
/-- a method of the class at C -/
def MDef (K : PySem.W.Frag) (C : Addr) (x qual : Str) (st : Stmt) : Prop := ∃ (f : Addr) (fd : FuncData), Fun K x qual st f fd ∧ PySem.W.findIn K (.ref C) x = some (some (.ref f)) ∧ PySem.W.isFn K (.ref f) = true
theorem gdef {K : PySem.W.Frag} {h : Heap} {mg : Str → Option Value} {x : Str} {st : Stmt} {f : Addr} {oc : Value} {od an : Option Addr} {osl : Array (Option Value)} {kV doc pm cdv ct : Value} (X : K.In h) (G : h.Ns mainGlobals mg)
    (a : PySem.W.nsIn K mainGlobals x = some (some (.ref f))) (l : K.lookup f = some ⟨oc, od, .func (PySem.W.fnOf x x (defArgs st) (defBody st) (defScope st) .none kV doc pm an cdv ct), osl⟩) (c : PySem.W.codeIn K cdv x = true)
    (k : PySem.W.keepIn K (.ref f) = true) : GDef K mg x st := ⟨f, _, fun_mk l c k, PySem.W.mg_of X G a⟩
theorem mdef {K : PySem.W.Frag} {C : Addr} {x qual : Str} {st : Stmt} {f : Addr} {oc : Value} {od an : Option Addr} {osl : Array (Option Value)} {kV doc pm cdv ct : Value} (a : PySem.W.findIn K (.ref C) x = some (some (.ref f)))
    (i : PySem.W.isFn K (.ref f) = true) (l : K.lookup f = some ⟨oc, od, .func (PySem.W.fnOf x qual (defArgs st) (defBody st) (defScope st) .none kV doc pm an cdv ct), osl⟩) (c : PySem.W.codeIn K cdv qual = true)
    (k : PySem.W.keepIn K (.ref f) = true) : MDef K C x qual st := ⟨f, _, fun_mk l c k, a, i⟩
/-- a class that can be made -/
structure CDef (K : PySem.W.Frag) (mg : Str → Option Value) (x : Str) (C : Addr) : Prop where
  mg : mg x = some (.ref C)
  cl : Cls K C
  mk_ : PySem.W.makesIn K C = true
  kp : PySem.W.keepIn K (.ref C) = true
theorem cdef {K : PySem.W.Frag} {h : Heap} {mg : Str → Option Value} {x : Str} {C : Addr} (X : K.In h) (G : h.Ns mainGlobals mg) (a : PySem.W.nsIn K mainGlobals x = some (some (.ref C))) (pg : PySem.W.plainGet K C Str.empty = true)
    (hd : PySem.W.hasDictIn K C = true) (po : PySem.W.plainOver K C = true) (sa : PySem.W.findIn K (.ref C) "__setattr__" = some (some (.builtin "object.__setattr__"))) (mk : PySem.W.makesIn K C = true) (kc : PySem.W.keepIn K (.ref C) = true) :
    CDef K mg x C := ⟨PySem.W.mg_of X G a, ⟨pg, hd, po, sa⟩, mk, kc⟩
theorem all_mk {l : PySem.W.OpenLaw} {w : World} {K : PySem.W.Frag} {mg : Str → Option Value} {fa CK CN CA : Addr} (T : Txt K mg CK CN CA) (kK : CDef K mg "Known" CK) (kN : CDef K mg "News" CN) (kA : CDef K mg "Alphabet" CA) (hfa : mg "law" = some (.ref fa))
    (d1 : MDef K CK "__init__" "Known.__init__" sKinit) (d2 : MDef K CK "flat" "Known.flat" sKflat) (d3 : GDef K mg "size_of" sSize) (d4 : GDef K mg "rows_of" sRows) (d5 : GDef K mg "known_of" sKof) (d6 : GDef K mg "first_known" sFirst)
    (d7 : GDef K mg "is_older" sOlder) (d8 : GDef K mg "holder" sHolder) (d9 : GDef K mg "fresh_label" sFresh) (d10 : GDef K mg "met" sMet) (d11 : MDef K CN "__init__" "News.__init__" sNinit) (d12 : MDef K CN "start" "News.start" sNstart)
    (d13 : MDef K CN "meet" "News.meet" sNmeet) (d14 : MDef K CN "compare" "News.compare" sNcmp) (d15 : GDef K mg "fits" sFits) (d16 : MDef K CA "__init__" "Alphabet.__init__" sAinit) (d17 : GDef K mg "_law_draws" sDraws)
    (d18 : GDef K mg "_law_take" sTake) (d19 : GDef K mg "_law_is_integer" sIsInt) (d20 : GDef K mg "_law_alphabet" sAlph) (d21 : GDef K mg "_law_free" sFree) (d22 : GDef K mg "_law_word" sWord) (d23 : GDef K mg "_law_below" sBelow)
    (d24 : GDef K mg "_law_view" sView) (d25 : GDef K mg "_law_newest" sNewest) (d26 : GDef K mg "_law_small_state" sSmall) (d27 : GDef K mg "_law_meet" sMeet) (d28 : GDef K mg "law" sLaw) :
    ∃ fd : FuncData, (∀ (s : Shared) (v : Value), BindsTo s fd ⟨[v], []⟩ [("_law_script", v)]) ∧ ∀ base : Heap, K.In base → base.Ns mainGlobals mg → FnOk l.prog w K mg base CX0 6 fa fd ["_law_script"] (spLaw K) := by
  obtain ⟨f1, fd1, F1, a1, i1⟩ := d1
  obtain ⟨f2, fd2, F2, a2, i2⟩ := d2
  obtain ⟨f3, fd3, F3, a3⟩ := d3
  obtain ⟨f4, fd4, F4, a4⟩ := d4
  obtain ⟨f5, fd5, F5, a5⟩ := d5
  obtain ⟨f6, fd6, F6, a6⟩ := d6
  obtain ⟨f7, fd7, F7, a7⟩ := d7
  obtain ⟨f8, fd8, F8, a8⟩ := d8
  obtain ⟨f9, fd9, F9, a9⟩ := d9
  obtain ⟨f10, fd10, F10, a10⟩ := d10
  obtain ⟨f11, fd11, F11, a11, i11⟩ := d11
  obtain ⟨f12, fd12, F12, a12, i12⟩ := d12
  obtain ⟨f13, fd13, F13, a13, i13⟩ := d13
  obtain ⟨f14, fd14, F14, a14, i14⟩ := d14
  obtain ⟨f15, fd15, F15, a15⟩ := d15
  obtain ⟨f16, fd16, F16, a16, i16⟩ := d16
  obtain ⟨f17, fd17, F17, a17⟩ := d17
  obtain ⟨f18, fd18, F18, a18⟩ := d18
  obtain ⟨f19, fd19, F19, a19⟩ := d19
  obtain ⟨f20, fd20, F20, a20⟩ := d20
  obtain ⟨f21, fd21, F21, a21⟩ := d21
  obtain ⟨f22, fd22, F22, a22⟩ := d22
  obtain ⟨f23, fd23, F23, a23⟩ := d23
  obtain ⟨f24, fd24, F24, a24⟩ := d24
  obtain ⟨f25, fd25, F25, a25⟩ := d25
  obtain ⟨f26, fd26, F26, a26⟩ := d26
  obtain ⟨f27, fd27, F27, a27⟩ := d27
  obtain ⟨f28, fd28, F28, a28⟩ := d28
  have e := hfa.symm.trans a28
  cases e
  have b1 := F1.binds (ps := ["self", "first", "second", "third"]) fun _ _ _ _ _ _ us hl => match us, hl with | [_, _, _, _], _ => rfl
  have b2 := F2.binds (ps := ["self"]) fun _ _ _ _ _ _ us hl => match us, hl with | [_], _ => rfl
  have b3 := F3.binds (ps := ["places"]) fun _ _ _ _ _ _ us hl => match us, hl with | [_], _ => rfl
  have b4 := F4.binds (ps := ["numbers", "places"]) fun _ _ _ _ _ _ us hl => match us, hl with | [_, _], _ => rfl
  have b5 := F5.binds (ps := ["state", "places"]) fun _ _ _ _ _ _ us hl => match us, hl with | [_, _], _ => rfl
  have b6 := F6.binds (ps := ["places"]) fun _ _ _ _ _ _ us hl => match us, hl with | [_], _ => rfl
  have b7 := F7.binds (ps := ["one", "two", "place"]) fun _ _ _ _ _ _ us hl => match us, hl with | [_, _, _], _ => rfl
  have b8 := F8.binds (ps := ["known", "place"]) fun _ _ _ _ _ _ us hl => match us, hl with | [_, _], _ => rfl
  have b9 := F9.binds (ps := ["known", "letter", "letters"]) fun _ _ _ _ _ _ us hl => match us, hl with | [_, _, _], _ => rfl
  have b10 := F10.binds (ps := ["known", "letter", "alphabet"]) fun _ _ _ _ _ _ us hl => match us, hl with | [_, _, _], _ => rfl
  have b11 := F11.binds (ps := ["self", "alphabet"]) fun _ _ _ _ _ _ us hl => match us, hl with | [_, _], _ => rfl
  have b12 := F12.binds (ps := ["self"]) fun _ _ _ _ _ _ us hl => match us, hl with | [_], _ => rfl
  have b13 := F13.binds (ps := ["self", "letter", "states"]) fun _ _ _ _ _ _ us hl => match us, hl with | [_, _, _], _ => rfl
  have b14 := F14.binds (ps := ["self", "first", "second", "place"]) fun _ _ _ _ _ _ us hl => match us, hl with | [_, _, _, _], _ => rfl
  have b15 := F15.binds (ps := ["letter", "places"]) fun _ _ _ _ _ _ us hl => match us, hl with | [_, _], _ => rfl
  have b16 := F16.binds (ps := ["self", "places", "letters"]) fun _ _ _ _ _ _ us hl => match us, hl with | [_, _, _], _ => rfl
  have b17 := F17.binds (ps := ["_law_script", "_law_count"]) fun _ _ _ _ _ _ us hl => match us, hl with | [_, _], _ => rfl
  have b18 := F18.binds (ps := ["_law_draws_here", "_law_limit"]) fun _ _ _ _ _ _ us hl => match us, hl with | [_, _], _ => rfl
  have b19 := F19.binds (ps := ["_law_actual"]) fun _ _ _ _ _ _ us hl => match us, hl with | [_], _ => rfl
  have b20 := F20.binds (ps := ["_law_draws_here", "_law_places", "_law_most"]) fun _ _ _ _ _ _ us hl => match us, hl with | [_, _, _], _ => rfl
  have b21 := F21.binds (ps := ["_law_letters", "_law_first", "_law_second"]) fun _ _ _ _ _ _ us hl => match us, hl with | [_, _, _], _ => rfl
  have b22 := F22.binds (ps := ["_law_draws_here", "_law_letters", "_law_most"]) fun _ _ _ _ _ _ us hl => match us, hl with | [_, _, _], _ => rfl
  have b23 := F23.binds (ps := ["_law_letters", "_law_word_here"]) fun _ _ _ _ _ _ us hl => match us, hl with | [_, _], _ => rfl
  have b24 := F24.binds (ps := ["_law_letters", "_law_word_here", "_law_place"]) fun _ _ _ _ _ _ us hl => match us, hl with | [_, _, _], _ => rfl
  have b25 := F25.binds (ps := ["_law_count", "_law_letters", "_law_word_here", "_law_place"]) fun _ _ _ _ _ _ us hl => match us, hl with | [_, _, _, _], _ => rfl
  have b26 := F26.binds (ps := ["_law_actual", "_law_most"]) fun _ _ _ _ _ _ us hl => match us, hl with | [_, _], _ => rfl
  have b27 := F27.binds (ps := ["_law_machines", "_law_letters", "_law_states", "_law_letter"]) fun _ _ _ _ _ _ us hl => match us, hl with | [_, _, _, _], _ => rfl
  refine ⟨fd28, fun s v => ?_, fun base _ _ => ?_⟩
  · obtain ⟨oc, od, kV, doc, pm, an, cdv, ct, osl, rfl, lk, hcd⟩ := F28.ex
    exact .of_eq rfl
  · have cKi : Ccal l.prog w K mg base 1 CK ["self", "first", "second", "third"] (spKinit CK) f1 fd1 := ⟨ok_Kinit F1 T, ⟨kK.mk_, a1, i1, kK.kp⟩, b1⟩
    have cKf : Mcal l.prog w K mg base 1 CK "flat" ["self"] (spKflat CK) f2 fd2 := ⟨ok_Kflat F2 T, ⟨a2, i2, F2.kp⟩, b2⟩
    have c3 : Cal l.prog w K mg base 1 "size_of" ["places"] spSize f3 fd3 := ⟨ok_size F3, a3, F3.kp, b3⟩
    have c4 : Cal l.prog w K mg base 1 "rows_of" ["numbers", "places"] spRows f4 fd4 := ⟨ok_rows F4 T, a4, F4.kp, b4⟩
    have c5 : Cal l.prog w K mg base 3 "known_of" ["state", "places"] (spKof CK) f5 fd5 := ⟨ok_kof F5 T c4 cKi, a5, F5.kp, b5⟩
    have c6 : Cal l.prog w K mg base 4 "first_known" ["places"] (spFirst CK) f6 fd6 := ⟨ok_first F6 T c3 c5, a6, F6.kp, b6⟩
    have c7 : Cal l.prog w K mg base 1 "is_older" ["one", "two", "place"] (spOlder CK) f7 fd7 := ⟨ok_older F7 T, a7, F7.kp, b7⟩
    have c8 : Cal l.prog w K mg base 2 "holder" ["known", "place"] (spHolder CK) f8 fd8 := ⟨ok_holder F8 T c7, a8, F8.kp, b8⟩
    have c9 : Cal l.prog w K mg base 2 "fresh_label" ["known", "letter", "letters"] (spFresh CK) f9 fd9 := ⟨ok_fresh F9 T cKf, a9, F9.kp, b9⟩
    have c10 : Cal l.prog w K mg base 3 "met" ["known", "letter", "alphabet"] (spMet CK CA) f10 fd10 := ⟨ok_met F10 T c9 c8 cKi, a10, F10.kp, b10⟩
    have c11 : Ccal l.prog w K mg base 1 CN ["self", "alphabet"] (spNinit CN) f11 fd11 := ⟨ok_Ninit F11 T, ⟨kN.mk_, a11, i11, kN.kp⟩, b11⟩
    have c12 : Mcal l.prog w K mg base 5 CN "start" ["self"] (spNstart CN CA) f12 fd12 := ⟨ok_Nstart F12 T c6 cKf, ⟨a12, i12, F12.kp⟩, b12⟩
    have c13 : Mcal l.prog w K mg base 4 CN "meet" ["self", "letter", "states"] (spNmeet CN CA) f13 fd13 := ⟨ok_Nmeet F13 T c5 c10 cKf, ⟨a13, i13, F13.kp⟩, b13⟩
    have c14 : Mcal l.prog w K mg base 4 CN "compare" ["self", "first", "second", "place"] (spNcmp CN CA) f14 fd14 := ⟨ok_Ncmp F14 T c5 c7, ⟨a14, i14, F14.kp⟩, b14⟩
    have c15 : Cal l.prog w K mg base 1 "fits" ["letter", "places"] spFits f15 fd15 := ⟨ok_fits F15 T, a15, F15.kp, b15⟩
    have c16 : Ccal l.prog w K mg base 2 CA ["self", "places", "letters"] (spAinit CA) f16 fd16 := ⟨ok_Ainit F16 T c15, ⟨kA.mk_, a16, i16, kA.kp⟩, b16⟩
    have c17 : Cal l.prog w K mg base 1 "_law_draws" ["_law_script", "_law_count"] (spDraws K) f17 fd17 := ⟨ok_draws F17 T, a17, F17.kp, b17⟩
    have c18 : Cal l.prog w K mg base 1 "_law_take" ["_law_draws_here", "_law_limit"] spTake f18 fd18 := ⟨ok_take F18 T, a18, F18.kp, b18⟩
    have c19 : Cal l.prog w K mg base 1 "_law_is_integer" ["_law_actual"] spIsInt f19 fd19 := ⟨ok_isint F19 T, a19, F19.kp, b19⟩
    have c20 : Cal l.prog w K mg base 2 "_law_alphabet" ["_law_draws_here", "_law_places", "_law_most"] spAlph f20 fd20 := ⟨ok_alph F20 T c18, a20, F20.kp, b20⟩
    have c21 : Cal l.prog w K mg base 1 "_law_free" ["_law_letters", "_law_first", "_law_second"] spFree f21 fd21 := ⟨ok_free F21 T, a21, F21.kp, b21⟩
    have c22 : Cal l.prog w K mg base 2 "_law_word" ["_law_draws_here", "_law_letters", "_law_most"] spWord f22 fd22 := ⟨ok_word F22 T c18, a22, F22.kp, b22⟩
    have c23 : Cal l.prog w K mg base 2 "_law_below" ["_law_letters", "_law_word_here"] spBelow f23 fd23 := ⟨ok_below F23 T c21, a23, F23.kp, b23⟩
    have c24 : Cal l.prog w K mg base 3 "_law_view" ["_law_letters", "_law_word_here", "_law_place"] spView f24 fd24 := ⟨ok_view F24 T c23, a24, F24.kp, b24⟩
    have c25 : Cal l.prog w K mg base 4 "_law_newest" ["_law_count", "_law_letters", "_law_word_here", "_law_place"] spNewest f25 fd25 := ⟨ok_newest F25 T c24, a25, F25.kp, b25⟩
    have c26 : Cal l.prog w K mg base 2 "_law_small_state" ["_law_actual", "_law_most"] spSmall f26 fd26 := ⟨ok_small F26 T c19, a26, F26.kp, b26⟩
    have c27 : Cal l.prog w K mg base 5 "_law_meet" ["_law_machines", "_law_letters", "_law_states", "_law_letter"] (spLmeet CN CA) f27 fd27 := ⟨ok_lmeet F27 T c13, a27, F27.kp, b27⟩
    exact ok_law F28 T c17 c20 c22 c27 c25 c26 c19 c11 c16 c12 c14
theorem walk {l : PySem.W.OpenLaw} {q : Program} {loose : List Str} {XP : (Str → Option Value) → Heap → Prop} {YP : World → Heap → Prop} {d : DefRec} {K : Params → PySem.W.Frag} (hn : l.most = some 63) (hdf : d.params.defaults = [])
    (hY : ∀ (w : World) (h : Heap), YP w h → (K w.params).In h)
    (F : ∀ (w : World) (mg : Str → Option Value) (fa : Addr) (h : Heap), (K w.params).In h → h.Ns mainGlobals mg → mg d.name = some (.ref fa) →
      ∃ fd : FuncData, (∀ (s : Shared) (u : Value), BindsTo s fd ⟨[u], []⟩ [("_law_script", u)]) ∧ ∀ base : Heap, (K w.params).In base → base.Ns mainGlobals mg → FnOk l.prog w (K w.params) mg base CX0 6 fa fd ["_law_script"] (spLaw (K w.params))) :
    PySem.W.WalkO q loose XP YP l.row.toRowW d [] (fun f vs => PySem.call f vs) :=
  L2.walk_of (n := 63) (k := 6) (x := "_law_script") (CX := fun _ => CX0) (sp := fun w => spLaw (K w.params)) hn (by decide) hdf ⟨rfl, by decide, by decide⟩ hY F (fun _ _ a ns hl _ hS => ⟨a, ns, rfl, hS, hl, fun _ => rfl⟩) fun _ _ _ _ _ z => z
end Nws
namespace Nws
open PySem L2
theorem txt_mk {K : PySem.W.Frag} {h : Heap} {mg : Str → Option Value} {CK CN CA : Addr} {t1 t2 : Tok} (X : K.In h) (G : h.Ns mainGlobals mg) (kK : CDef K mg "Known" CK) (kN : CDef K mg "News" CN) (kA : CDef K mg "Alphabet" CA)
    (k1 : PySem.W.findIn K (.ref CK) "first" = some none) (k2 : PySem.W.findIn K (.ref CK) "second" = some none) (k3 : PySem.W.findIn K (.ref CK) "third" = some none) (na : PySem.W.findIn K (.ref CN) "alphabet" = some none)
    (ap : PySem.W.findIn K (.ref CA) "places" = some none) (al : PySem.W.findIn K (.ref CA) "letters" = some none) (len : PySem.W.nsIn K mainGlobals "len" = some none) (range : PySem.W.nsIn K mainGlobals "range" = some none)
    (tuple : PySem.W.nsIn K mainGlobals "tuple" = some none) (list : PySem.W.nsIn K mainGlobals "list" = some none) (isi : PySem.W.nsIn K mainGlobals "isinstance" = some none) (int : PySem.W.nsIn K mainGlobals "int" = some none)
    (bool : PySem.W.nsIn K mainGlobals "bool" = some none) (max : PySem.W.nsIn K mainGlobals "max" = some none) (sorted : PySem.W.nsIn K mainGlobals "sorted" = some none) (set : PySem.W.nsIn K mainGlobals "set" = some none)
    (mp : PySem.W.nsIn K mainGlobals "MOST_PLACES" = some (some (.int 4 t1))) (ml : PySem.W.nsIn K mainGlobals "MOST_LETTERS" = some (some (.int 6 t2))) : Txt K mg CK CN CA :=
  ⟨kK.cl, k1, k2, k3, kK.mg, kN.cl, na, kN.mg, kA.cl, ap, al, kA.mg, PySem.W.mg_none_of X G len, PySem.W.mg_none_of X G range, PySem.W.mg_none_of X G tuple, PySem.W.mg_none_of X G list, PySem.W.mg_none_of X G isi,
    PySem.W.mg_none_of X G int, PySem.W.mg_none_of X G bool, PySem.W.mg_none_of X G max, PySem.W.mg_none_of X G sorted, PySem.W.mg_none_of X G set, ⟨t1, PySem.W.mg_of X G mp⟩, ⟨t2, PySem.W.mg_of X G ml⟩⟩
end Nws
open PySem PySem.W PyProof.Rows in
set_option maxRecDepth 100000 in
set_option maxHeartbeats 0 in
theorem PySem.Challenge.cw_placewords_k20_whole_news_holds : PySem.Challenge.rw_placewords_k20_whole_news.Holds := by
  w_on; o_law; k_head; (case hw => w_witness2)
  k_fill
  refine Nws.walk (l := PySem.Challenge.rw_placewords_k20_whole_news) rfl rfl (fun w h Y => PySem.W.kIn_of Y) ?F
  case F =>
    intro w mg fa h KX G hmg
    refine' Nws.all_mk ?T ?kK ?kN ?kA hmg ?d1 ?d2 ?d3 ?d4 ?d5 ?d6 ?d7 ?d8 ?d9 ?d10 ?d11 ?d12 ?d13 ?d14 ?d15 ?d16 ?d17 ?d18 ?d19 ?d20 ?d21 ?d22 ?d23 ?d24 ?d25 ?d26 ?d27 ?d28
    (case kK =>
      refine' Nws.cdef KX G ?a ?pg ?hd ?po ?sa ?mk ?kc
      (case a => k_is)
      (case pg => k_is)
      (case hd => k_is)
      (case po => k_is)
      (case sa => k_is)
      (case mk => k_is)
      (case kc => k_is))
    (case kN =>
      refine' Nws.cdef KX G ?a ?pg ?hd ?po ?sa ?mk ?kc
      (case a => k_is)
      (case pg => k_is)
      (case hd => k_is)
      (case po => k_is)
      (case sa => k_is)
      (case mk => k_is)
      (case kc => k_is))
    (case kA =>
      refine' Nws.cdef KX G ?a ?pg ?hd ?po ?sa ?mk ?kc
      (case a => k_is)
      (case pg => k_is)
      (case hd => k_is)
      (case po => k_is)
      (case sa => k_is)
      (case mk => k_is)
      (case kc => k_is))
    (case T =>
      refine' Nws.txt_mk KX G ?kK ?kN ?kA ?tk1 ?tk2 ?tk3 ?tna ?tap ?tal ?tlen ?trange ?ttuple ?tlist ?tisi ?tint ?tbool ?tmax ?tsorted ?tset ?tmp ?tml
      (case kK =>
        refine' Nws.cdef KX G ?a ?pg ?hd ?po ?sa ?mk ?kc
        (case a => k_is)
        (case pg => k_is)
        (case hd => k_is)
        (case po => k_is)
        (case sa => k_is)
        (case mk => k_is)
        (case kc => k_is))
      (case kN =>
        refine' Nws.cdef KX G ?a ?pg ?hd ?po ?sa ?mk ?kc
        (case a => k_is)
        (case pg => k_is)
        (case hd => k_is)
        (case po => k_is)
        (case sa => k_is)
        (case mk => k_is)
        (case kc => k_is))
      (case kA =>
        refine' Nws.cdef KX G ?a ?pg ?hd ?po ?sa ?mk ?kc
        (case a => k_is)
        (case pg => k_is)
        (case hd => k_is)
        (case po => k_is)
        (case sa => k_is)
        (case mk => k_is)
        (case kc => k_is))
      (case tk1 => k_is)
      (case tk2 => k_is)
      (case tk3 => k_is)
      (case tna => k_is)
      (case tap => k_is)
      (case tal => k_is)
      (case tlen => k_is)
      (case trange => k_is)
      (case ttuple => k_is)
      (case tlist => k_is)
      (case tisi => k_is)
      (case tint => k_is)
      (case tbool => k_is)
      (case tmax => k_is)
      (case tsorted => k_is)
      (case tset => k_is)
      (case tmp => k_is)
      (case tml => k_is))
    (case d1 =>
      refine' Nws.mdef ?a ?i ?l ?c ?k
      (case a => k_is)
      (case i => k_is)
      (case l => k_is)
      (case c => k_is)
      (case k => k_is))
    (case d2 =>
      refine' Nws.mdef ?a ?i ?l ?c ?k
      (case a => k_is)
      (case i => k_is)
      (case l => k_is)
      (case c => k_is)
      (case k => k_is))
    (case d3 =>
      refine' Nws.gdef KX G ?a ?l ?c ?k
      (case a => k_is)
      (case l => k_is)
      (case c => k_is)
      (case k => k_is))
    (case d4 =>
      refine' Nws.gdef KX G ?a ?l ?c ?k
      (case a => k_is)
      (case l => k_is)
      (case c => k_is)
      (case k => k_is))
    (case d5 =>
      refine' Nws.gdef KX G ?a ?l ?c ?k
      (case a => k_is)
      (case l => k_is)
      (case c => k_is)
      (case k => k_is))
    (case d6 =>
      refine' Nws.gdef KX G ?a ?l ?c ?k
      (case a => k_is)
      (case l => k_is)
      (case c => k_is)
      (case k => k_is))
    (case d7 =>
      refine' Nws.gdef KX G ?a ?l ?c ?k
      (case a => k_is)
      (case l => k_is)
      (case c => k_is)
      (case k => k_is))
    (case d8 =>
      refine' Nws.gdef KX G ?a ?l ?c ?k
      (case a => k_is)
      (case l => k_is)
      (case c => k_is)
      (case k => k_is))
    (case d9 =>
      refine' Nws.gdef KX G ?a ?l ?c ?k
      (case a => k_is)
      (case l => k_is)
      (case c => k_is)
      (case k => k_is))
    (case d10 =>
      refine' Nws.gdef KX G ?a ?l ?c ?k
      (case a => k_is)
      (case l => k_is)
      (case c => k_is)
      (case k => k_is))
    (case d11 =>
      refine' Nws.mdef ?a ?i ?l ?c ?k
      (case a => k_is)
      (case i => k_is)
      (case l => k_is)
      (case c => k_is)
      (case k => k_is))
    (case d12 =>
      refine' Nws.mdef ?a ?i ?l ?c ?k
      (case a => k_is)
      (case i => k_is)
      (case l => k_is)
      (case c => k_is)
      (case k => k_is))
    (case d13 =>
      refine' Nws.mdef ?a ?i ?l ?c ?k
      (case a => k_is)
      (case i => k_is)
      (case l => k_is)
      (case c => k_is)
      (case k => k_is))
    (case d14 =>
      refine' Nws.mdef ?a ?i ?l ?c ?k
      (case a => k_is)
      (case i => k_is)
      (case l => k_is)
      (case c => k_is)
      (case k => k_is))
    (case d15 =>
      refine' Nws.gdef KX G ?a ?l ?c ?k
      (case a => k_is)
      (case l => k_is)
      (case c => k_is)
      (case k => k_is))
    (case d16 =>
      refine' Nws.mdef ?a ?i ?l ?c ?k
      (case a => k_is)
      (case i => k_is)
      (case l => k_is)
      (case c => k_is)
      (case k => k_is))
    (case d17 =>
      refine' Nws.gdef KX G ?a ?l ?c ?k
      (case a => k_is)
      (case l => k_is)
      (case c => k_is)
      (case k => k_is))
    (case d18 =>
      refine' Nws.gdef KX G ?a ?l ?c ?k
      (case a => k_is)
      (case l => k_is)
      (case c => k_is)
      (case k => k_is))
    (case d19 =>
      refine' Nws.gdef KX G ?a ?l ?c ?k
      (case a => k_is)
      (case l => k_is)
      (case c => k_is)
      (case k => k_is))
    (case d20 =>
      refine' Nws.gdef KX G ?a ?l ?c ?k
      (case a => k_is)
      (case l => k_is)
      (case c => k_is)
      (case k => k_is))
    (case d21 =>
      refine' Nws.gdef KX G ?a ?l ?c ?k
      (case a => k_is)
      (case l => k_is)
      (case c => k_is)
      (case k => k_is))
    (case d22 =>
      refine' Nws.gdef KX G ?a ?l ?c ?k
      (case a => k_is)
      (case l => k_is)
      (case c => k_is)
      (case k => k_is))
    (case d23 =>
      refine' Nws.gdef KX G ?a ?l ?c ?k
      (case a => k_is)
      (case l => k_is)
      (case c => k_is)
      (case k => k_is))
    (case d24 =>
      refine' Nws.gdef KX G ?a ?l ?c ?k
      (case a => k_is)
      (case l => k_is)
      (case c => k_is)
      (case k => k_is))
    (case d25 =>
      refine' Nws.gdef KX G ?a ?l ?c ?k
      (case a => k_is)
      (case l => k_is)
      (case c => k_is)
      (case k => k_is))
    (case d26 =>
      refine' Nws.gdef KX G ?a ?l ?c ?k
      (case a => k_is)
      (case l => k_is)
      (case c => k_is)
      (case k => k_is))
    (case d27 =>
      refine' Nws.gdef KX G ?a ?l ?c ?k
      (case a => k_is)
      (case l => k_is)
      (case c => k_is)
      (case k => k_is))
    (case d28 =>
      refine' Nws.gdef KX G ?a ?l ?c ?k
      (case a => k_is)
      (case l => k_is)
      (case c => k_is)
      (case k => k_is))
#print axioms PySem.Challenge.cw_placewords_k20_whole_news_holds
