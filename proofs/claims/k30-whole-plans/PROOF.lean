import PyProof.Rows.All
import Wide.All
import OpenK.AllK
import Wide.FinOn
import KE.DataMinMax
import KE.GoesMore
import HandS.ForMost
import HandS.IsInst
import HandS.Property
import HandS.Codes
import HandS.Deep
import HandS.DictComp
import HandS.Set
import HandS.SetFor
import HandS.SetTxt0
import HandS.StrMore
import HandS.Conv
import HandS.More
import HandS.Defaults
import KE.GoesEnum
import HandS.Walk
import HandS.Replace
import HandS.Head0
import HandS.Head1
import HandS.Head2
import HandS.HeadEnd
import HandS.HeadHook1
import HandS.HeadHook2
import HandS.HeadNt
import PySem.Challenge.RW_rowreaders_k30_whole_plans
/-! The plain law: ranks of a duel by layers, plays of a plan, bars. No program in sight. -/
namespace K30

abbrev Set2 := Nat → Nat → Bool
def rch (X : Set2) (o : Option Nat) (t : Nat) : Bool := match o with
  | none => false
  | some s => X s t

/-- a duel: the ends, where the first one's signs lead, the second one's, whether the first one is bound -/
structure Game where
  E : Nat → Bool
  f : Nat → List (Option Nat)
  g : Nat → List (Option Nat)
  b : Bool

def Game.cond (G : Game) (X : Set2) (s t : Nat) : Bool :=
  if t = 0 then (if G.b = true then (G.f s).all (fun o => rch X o 1) else (G.f s).any (fun o => rch X o 1))
  else if t = 1 then (G.g s).all (fun o => rch X o 0) else false
def Game.W (G : Game) : Nat → Set2
  | 0 => fun s t => decide (t < 2) && G.E s
  | k + 1 => fun s t => G.W k s t || G.cond (G.W k) s t

theorem W_succ {G : Game} {k s t : Nat} (h : G.W k s t = true) : G.W (k + 1) s t = true := by
  show (G.W k s t || G.cond (G.W k) s t) = true
  rw [h]; rfl
theorem W_mono {G : Game} {j k s t : Nat} (hjk : j ≤ k) (h : G.W j s t = true) : G.W k s t = true := by
  induction hjk with
  | refl => exact h
  | step _ ih => exact W_succ ih
theorem W_step {G : Game} {k s t : Nat} (h : G.W (k + 1) s t = true) : G.W k s t = true ∨ G.cond (G.W k) s t = true := by
  have h' : (G.W k s t || G.cond (G.W k) s t) = true := h
  simpa using h'
theorem W_turn {G : Game} : ∀ {k s t : Nat}, G.W k s t = true → t < 2
  | 0, s, t, h => by
    have h' : (decide (t < 2) && G.E s) = true := h
    simp at h'
    exact h'.1
  | k + 1, s, t, h => by
    rcases W_step h with h | h
    · exact W_turn h
    · unfold Game.cond at h
      split at h
      · omega
      · split at h
        · omega
        · cases h
theorem W_end {G : Game} {s t : Nat} (ht : t < 2) (h : G.E s = true) (k : Nat) : G.W k s t = true := by
  refine W_mono (Nat.zero_le k) ?_
  show (decide (t < 2) && G.E s) = true
  simp [ht, h]

/-- the first k up to N at which a spot is met -/
def Game.rk (G : Game) : Nat → Nat → Nat → Option Nat
  | 0, s, t => if G.W 0 s t = true then some 0 else none
  | k + 1, s, t => match G.rk k s t with
    | some r => some r
    | none => if G.W (k + 1) s t = true then some (k + 1) else none

theorem rk_none {G : Game} {s t : Nat} : ∀ {N : Nat}, G.rk N s t = none ↔ G.W N s t = false
  | 0 => by
    unfold Game.rk
    cases h : G.W 0 s t <;> simp
  | N + 1 => by
    unfold Game.rk
    have ih := rk_none (G := G) (s := s) (t := t) (N := N)
    cases q : G.rk N s t with
    | some r =>
      have hN : G.W N s t = true := by
        cases z : G.W N s t with
        | true => rfl
        | false => rw [ih.mpr z] at q; cases q
      simp [W_succ hN]
    | none =>
      cases h : G.W (N + 1) s t <;> simp
theorem rk_some {G : Game} {s t r : Nat} : ∀ {N : Nat}, G.rk N s t = some r ↔ r ≤ N ∧ G.W r s t = true ∧ ∀ i, i < r → G.W i s t = false
  | 0 => by
    unfold Game.rk
    constructor
    · intro h
      split at h
      · rename_i hw
        cases h
        exact ⟨Nat.le_refl _, hw, fun i hi => absurd hi (Nat.not_lt_zero _)⟩
      · cases h
    · rintro ⟨h1, h2, _⟩
      have e : r = 0 := by omega
      subst e
      rw [if_pos h2]
  | N + 1 => by
    have ih := rk_some (G := G) (s := s) (t := t) (r := r) (N := N)
    unfold Game.rk
    cases q : G.rk N s t with
    | some r' =>
      obtain ⟨a1, a2, a3⟩ := rk_some.mp q
      constructor
      · intro h
        cases h
        exact ⟨by omega, a2, a3⟩
      · rintro ⟨h1, h2, h3⟩
        have e : r' = r := by
          rcases Nat.lt_trichotomy r r' with h | h | h
          · have := a3 r h; rw [h2] at this; cases this
          · exact h.symm
          · have := h3 r' h; rw [a2] at this; cases this
        rw [e]
    | none =>
      have hN : G.W N s t = false := rk_none.mp q
      constructor
      · intro h
        simp only at h
        split at h
        · rename_i hw
          cases h
          refine ⟨Nat.le_refl _, hw, fun i hi => ?_⟩
          cases z : G.W i s t with
          | false => rfl
          | true => rw [W_mono (by omega) z] at hN; cases hN
        · cases h
      · rintro ⟨h1, h2, h3⟩
        have e : r = N + 1 := by
          rcases Nat.lt_or_ge r (N + 1) with h | h
          · rw [W_mono (by omega : r ≤ N) h2] at hN; cases hN
          · omega
        subst e
        simp [h2]
theorem rk_of {G : Game} {s t N i : Nat} (h : G.W i s t = true) (hi : i ≤ N) : ∃ r, G.rk N s t = some r ∧ r ≤ i := by
  cases q : G.rk N s t with
  | none =>
    have := rk_none.mp q
    rw [W_mono hi h] at this; cases this
  | some r =>
    refine ⟨r, rfl, ?_⟩
    obtain ⟨_, _, a3⟩ := rk_some.mp q
    rcases Nat.lt_or_ge i r with z | z
    · have := a3 i z; rw [h] at this; cases this
    · exact z
theorem rk_isSome {G : Game} {s t N : Nat} : (G.rk N s t).isSome = G.W N s t := by
  cases q : G.rk N s t with
  | none => rw [rk_none.mp q]; rfl
  | some r =>
    obtain ⟨a1, a2, _⟩ := rk_some.mp q
    rw [W_mono a1 a2]; rfl

/-! ### when nothing more comes -/
def Closed (G : Game) (n : Nat) : Prop := ∀ s, s < n → (∀ o ∈ G.f s, ∀ s', o = some s' → s' < n) ∧ (∀ o ∈ G.g s, ∀ s', o = some s' → s' < n)
theorem cond_congr {G : Game} {n : Nat} (C : Closed G n) {X Y : Set2} (h : ∀ s t, s < n → t < 2 → X s t = Y s t) {s t : Nat} (hs : s < n) : G.cond X s t = G.cond Y s t := by
  have e : ∀ (l : List (Option Nat)), (∀ o ∈ l, ∀ s', o = some s' → s' < n) → ∀ t, t < 2 → l.all (fun o => rch X o t) = l.all (fun o => rch Y o t) ∧ l.any (fun o => rch X o t) = l.any (fun o => rch Y o t) := by
    intro l
    induction l with
    | nil => intro _ _ _; exact ⟨rfl, rfl⟩
    | cons o r ih =>
      intro hl t ht
      obtain ⟨i1, i2⟩ := ih (fun o ho => hl o (List.mem_cons_of_mem _ ho)) t ht
      have e0 : rch X o t = rch Y o t := by
        cases o with
        | none => rfl
        | some s' => exact h s' t (hl _ List.mem_cons_self s' rfl) ht
      simp only [List.all_cons, List.any_cons, e0, i1, i2, and_self]
  obtain ⟨c1, c2⟩ := C s hs
  unfold Game.cond
  by_cases h0 : t = 0
  · rw [if_pos h0, if_pos h0, (e _ c1 1 (by omega)).1, (e _ c1 1 (by omega)).2]
  · rw [if_neg h0, if_neg h0, (e _ c2 0 (by omega)).1]
theorem W_stays {G : Game} {n k : Nat} (C : Closed G n) (h : ∀ s t, s < n → t < 2 → G.W (k + 1) s t = G.W k s t) : ∀ d s t, s < n → t < 2 → G.W (k + d) s t = G.W k s t
  | 0, _, _, _, _ => rfl
  | d + 1, s, t, hs, ht => by
    have ih := W_stays C h d
    show (G.W (k + d) s t || G.cond (G.W (k + d)) s t) = G.W k s t
    rw [ih s t hs ht, cond_congr C ih hs]
    exact h s t hs ht
theorem W_stays' {G : Game} {n k j : Nat} (C : Closed G n) (h : ∀ s t, s < n → t < 2 → G.W (k + 1) s t = G.W k s t) (hj : k ≤ j) {s t : Nat} (hs : s < n) (ht : t < 2) : G.W j s t = G.W k s t := by
  obtain ⟨d, rfl⟩ := Nat.le.dest hj
  exact W_stays C h d s t hs ht
theorem rk_stays {G : Game} {n k j : Nat} (C : Closed G n) (h : ∀ s t, s < n → t < 2 → G.W (k + 1) s t = G.W k s t) (hj : k ≤ j) {s t : Nat} (hs : s < n) (ht : t < 2) : G.rk j s t = G.rk k s t := by
  cases q : G.rk k s t with
  | some r =>
    obtain ⟨a1, a2, a3⟩ := rk_some.mp q
    exact rk_some.mpr ⟨by omega, a2, a3⟩
  | none =>
    rw [rk_none, W_stays' C h hj hs ht]
    exact rk_none.mp q

/-! ### how many stages -/
def spots (n : Nat) : List (Nat × Nat) := (List.range n).flatMap fun s => [(s, 0), (s, 1)]
theorem spots_len : ∀ n, (spots n).length = 2 * n
  | 0 => rfl
  | n + 1 => by
    have e : spots (n + 1) = spots n ++ [(n, 0), (n, 1)] := by
      unfold spots
      rw [List.range_succ, List.flatMap_append]
      rfl
    rw [e, List.length_append, spots_len n]
    show 2 * n + 2 = 2 * (n + 1)
    omega
theorem mem_spots {n s t : Nat} : (s, t) ∈ spots n ↔ s < n ∧ t < 2 := by
  unfold spots
  rw [List.mem_flatMap]
  constructor
  · rintro ⟨a, ha, hm⟩
    rw [List.mem_range] at ha
    simp at hm
    omega
  · rintro ⟨h1, h2⟩
    refine ⟨s, List.mem_range.mpr h1, ?_⟩
    have : t = 0 ∨ t = 1 := by omega
    simp
    exact this
def left (G : Game) (n k : Nat) : Nat := (spots n).countP fun p => !G.W k p.1 p.2
theorem count_lt {α : Type} {p q : α → Bool} : ∀ {l : List α}, (∀ x ∈ l, p x = true → q x = true) → (∃ x ∈ l, q x = true ∧ p x = false) → l.countP p < l.countP q
  | [], _, h => by obtain ⟨x, hx, _⟩ := h; cases hx
  | a :: r, hpq, h => by
    have hle : r.countP p ≤ r.countP q := List.countP_mono_left fun x hx => hpq x (List.mem_cons_of_mem _ hx)
    rw [List.countP_cons, List.countP_cons]
    obtain ⟨x, hx, h1, h2⟩ := h
    rcases List.mem_cons.mp hx with e | hx
    · subst e
      rw [h1, h2]
      simp
      omega
    · have ih := count_lt (fun x hx => hpq x (List.mem_cons_of_mem _ hx)) ⟨x, hx, h1, h2⟩
      have := hpq a List.mem_cons_self
      cases e1 : p a <;> cases e2 : q a <;> simp_all <;> omega
theorem left_lt {G : Game} {n k s t : Nat} (hs : s < n) (ht : t < 2) (h0 : G.W k s t = false) (h1 : G.W (k + 1) s t = true) : left G n (k + 1) < left G n k := by
  refine count_lt (fun x _ h => ?_) ⟨(s, t), mem_spots.mpr ⟨hs, ht⟩, by simp [h0], by simp [h1]⟩
  cases z : G.W k x.1 x.2 with
  | false => rfl
  | true => rw [W_succ z] at h; cases h
theorem left_le (G : Game) (n k : Nat) : left G n k ≤ 2 * n := by
  rw [← spots_len n]
  exact List.countP_le_length

/-! ### all plays by a plan: the greatest number of signs -/
def mxo : List (Option Nat) → Option Nat
  | [] => some 0
  | none :: _ => none
  | some a :: r => (mxo r).map (max a)
def Game.at_ (G : Game) (t s : Nat) : List (Option Nat) := if t = 0 then G.f s else G.g s
def Game.lg (G : Game) : Nat → Option Nat → Nat → Option Nat
  | _, none, _ => none
  | 0, some s, _ => if G.E s = true then some 0 else none
  | l + 1, some s, t => if G.E s = true then some 0 else (mxo ((G.at_ t s).map fun o => G.lg l o (1 - t))).map (1 + ·)
theorem lg_none {G : Game} {l t : Nat} : G.lg l none t = none := by cases l <;> rfl
theorem mxo_none : ∀ {l : List (Option Nat)}, mxo l = none ↔ none ∈ l
  | [] => by simp [mxo]
  | none :: r => by simp [mxo]
  | some a :: r => by
    have ih := mxo_none (l := r)
    unfold mxo
    cases q : mxo r with
    | none => simp [ih.mp q]
    | some m =>
      simp
      intro h
      rw [ih.mpr h] at q
      cases q
theorem mxo_some : ∀ {l : List (Option Nat)} {m : Nat}, mxo l = some m → (∀ o ∈ l, ∃ a, o = some a ∧ a ≤ m) ∧ (l ≠ [] → some m ∈ l)
  | [], m, h => ⟨fun o ho => (by cases ho), fun h => absurd rfl h⟩
  | none :: r, m, h => by cases h
  | some a :: r, m, h => by
    unfold mxo at h
    cases q : mxo r with
    | none => rw [q] at h; cases h
    | some m' =>
      rw [q] at h
      have e : max a m' = m := Option.some.inj h
      obtain ⟨i1, i2⟩ := mxo_some q
      constructor
      · intro o ho
        rcases List.mem_cons.mp ho with z | z
        · exact ⟨a, z, by omega⟩
        · obtain ⟨b, e1, e2⟩ := i1 o z
          exact ⟨b, e1, by omega⟩
      · intro _
        by_cases hr : r = []
        · subst hr
          cases q
          have : m = a := by omega
          rw [this]
          exact List.mem_cons_self
        · have z := i2 hr
          rcases Nat.le_total a m' with c | c
          · have : m = m' := by omega
            rw [this]
            exact List.mem_cons_of_mem _ z
          · have : m = a := by omega
            rw [this]
            exact List.mem_cons_self
theorem cond_bound {G : Game} (hb : G.b = true) {X : Set2} {s t : Nat} (ht : t < 2) : G.cond X s t = (G.at_ t s).all fun o => rch X o (1 - t) := by
  have : t = 0 ∨ t = 1 := by omega
  rcases this with rfl | rfl
  · simp [Game.cond, Game.at_, hb]
  · simp [Game.cond, Game.at_]
theorem lg_rk {G : Game} {n : Nat} (hb : G.b = true) (C : Closed G n) (hf : ∀ t s, s < n → G.at_ t s ≠ []) : ∀ l s t, s < n → t < 2 → G.lg l (some s) t = G.rk l s t
  | 0, s, t, hs, ht => by
    show (if G.E s = true then some 0 else none) = if (decide (t < 2) && G.E s) = true then some 0 else none
    simp [ht]
  | l + 1, s, t, hs, ht => by
    show (if G.E s = true then some 0 else (mxo ((G.at_ t s).map fun o => G.lg l o (1 - t))).map (1 + ·)) = G.rk (l + 1) s t
    by_cases hE : G.E s = true
    · rw [if_pos hE]
      exact (rk_some.mpr ⟨Nat.zero_le _, W_end ht hE 0, fun i hi => absurd hi (Nat.not_lt_zero _)⟩).symm
    · rw [if_neg hE]
      have cl : ∀ s', some s' ∈ G.at_ t s → s' < n := by
        intro s' h
        unfold Game.at_ at h
        split at h
        · exact (C s hs).1 _ h s' rfl
        · exact (C s hs).2 _ h s' rfl
      have ih : ∀ s', some s' ∈ G.at_ t s → G.lg l (some s') (1 - t) = G.rk l s' (1 - t) := fun s' h => lg_rk hb C hf l s' (1 - t) (cl s' h) (by omega)
      have W0 : G.W 0 s t = false := by
        show (decide (t < 2) && G.E s) = false
        simp [hE]
      -- a layer in which the spot is
      have down : ∀ i, G.W i s t = true → ∃ j, j < i ∧ G.cond (G.W j) s t = true := by
        intro i
        induction i with
        | zero => intro h; rw [W0] at h; cases h
        | succ i ih =>
          intro h
          rcases W_step h with h | h
          · obtain ⟨j, hj, q⟩ := ih h
            exact ⟨j, by omega, q⟩
          · exact ⟨i, by omega, h⟩
      cases q : mxo ((G.at_ t s).map fun o => G.lg l o (1 - t)) with
      | none =>
        obtain ⟨o, ho, e⟩ := List.mem_map.mp (mxo_none.mp q)
        symm
        show G.rk (l + 1) s t = none
        rw [rk_none]
        cases z : G.W (l + 1) s t with
        | false => rfl
        | true =>
          obtain ⟨j, hj, c⟩ := down _ z
          rw [cond_bound hb ht, List.all_eq_true] at c
          have co := c o ho
          cases o with
          | none => cases co
          | some s' =>
            have co' : G.W j s' (1 - t) = true := co
            rw [ih s' ho, rk_none, W_mono (by omega : j ≤ l) co'] at e
            cases e
      | some m =>
        obtain ⟨a1, a2⟩ := mxo_some q
        have a3 := a2 (by simp [hf t s hs])
        have each : ∀ o ∈ G.at_ t s, ∃ s' a, o = some s' ∧ G.rk l s' (1 - t) = some a ∧ a ≤ m := by
          intro o ho
          obtain ⟨a, e1, e2⟩ := a1 _ (List.mem_map.mpr ⟨o, ho, rfl⟩)
          cases o with
          | none => rw [lg_none] at e1; cases e1
          | some s' =>
            rw [ih s' ho] at e1
            exact ⟨s', a, rfl, e1, e2⟩
        symm
        show G.rk (l + 1) s t = some (1 + m)
        obtain ⟨o, ho, e⟩ := List.mem_map.mp a3
        have hml : m ≤ l := by
          obtain ⟨s', a, e1, e2, _⟩ := each o ho
          subst e1
          rw [ih s' ho, e2] at e
          cases e
          exact (rk_some.mp e2).1
        refine rk_some.mpr ⟨by omega, ?_, fun i hi => ?_⟩
        · rw [Nat.add_comm]
          show (G.W m s t || G.cond (G.W m) s t) = true
          have c : G.cond (G.W m) s t = true := by
            rw [cond_bound hb ht, List.all_eq_true]
            intro o ho
            obtain ⟨s', a, e1, e2, e3⟩ := each o ho
            subst e1
            show G.W m s' (1 - t) = true
            exact W_mono e3 (rk_some.mp e2).2.1
          rw [c]
          simp
        · cases z : G.W i s t with
          | false => rfl
          | true =>
            obtain ⟨j, hj, c⟩ := down _ z
            rw [cond_bound hb ht, List.all_eq_true] at c
            have co := c o ho
            cases o with
            | none => cases co
            | some s' =>
              have co' : G.W j s' (1 - t) = true := co
              rw [ih s' ho] at e
              obtain ⟨_, _, b3⟩ := rk_some.mp e
              rw [b3 j (by omega)] at co'
              cases co'

/-! ### a plan of the first one -/
/-- a plan: the lot of one's signs, as a game's -/
def pick (L : List Nat) : Option Nat → List Nat
  | none => L
  | some i => [i]
/-- the plan's signs are of the lot; where a rank above 0 is told, its sign leads to a less one -/
structure Plan (G : Game) (F : Nat → List (Option Nat)) (n N : Nat) : Prop where
  sub : ∀ s, s < n → ∀ o ∈ F s, o ∈ G.f s
  ne : ∀ s, s < n → F s ≠ []
  low : ∀ s r, s < n → G.rk N s 0 = some (r + 1) → ∀ o ∈ F s, ∃ s' r', o = some s' ∧ G.rk N s' 1 = some r' ∧ r' ≤ r
theorem plan_up {G : Game} {F : Nat → List (Option Nat)} {n N : Nat} (hg : G.b = false) (C : Closed G n) (P : Plan G F n N) : ∀ k s t, s < n → Game.W { G with f := F, b := true } k s t = true → G.W k s t = true
  | 0, s, t, _, h => h
  | k + 1, s, t, hs, h => by
    rcases W_step h with h | h
    · exact W_succ (plan_up hg C P k s t hs h)
    · have ht : t < 2 := by
        unfold Game.cond at h
        split at h
        · omega
        · split at h
          · omega
          · cases h
      show (G.W k s t || G.cond (G.W k) s t) = true
      have c : G.cond (G.W k) s t = true := by
        have ih := plan_up hg C P k
        have : t = 0 ∨ t = 1 := by omega
        rcases this with rfl | rfl
        · have h1 : (F s).all (fun o => rch (Game.W { G with f := F, b := true } k) o 1) = true := by
            simpa [Game.cond] using h
          show (if G.b = true then _ else (G.f s).any (fun o => rch (G.W k) o 1)) = true
          rw [hg]
          rw [if_neg (by decide), List.any_eq_true]
          obtain ⟨o, ho⟩ := List.exists_mem_of_ne_nil _ (P.ne s hs)
          have h2 := List.all_eq_true.mp h1 o ho
          have hm := P.sub s hs o ho
          refine ⟨o, hm, ?_⟩
          cases o with
          | none => cases h2
          | some s' => exact ih s' 1 ((C s hs).1 _ hm s' rfl) h2
        · have h1 : (G.g s).all (fun o => rch (Game.W { G with f := F, b := true } k) o 0) = true := by
            simpa [Game.cond] using h
          show (if (1 : Nat) = 0 then _ else if (1 : Nat) = 1 then (G.g s).all (fun o => rch (G.W k) o 0) else false) = true
          rw [if_neg (by decide), if_pos rfl, List.all_eq_true]
          intro o ho
          have h2 := List.all_eq_true.mp h1 o ho
          cases o with
          | none => cases h2
          | some s' => exact ih s' 0 ((C s hs).2 _ ho s' rfl) h2
      rw [c]
      simp
theorem plan_down {G : Game} {F : Nat → List (Option Nat)} {n N : Nat} (hg : G.b = false) (C : Closed G n) (P : Plan G F n N) : ∀ r s t, s < n → G.rk N s t = some r → Game.W { G with f := F, b := true } r s t = true := by
  intro r
  induction r using Nat.strongRecOn with
  | _ r ih =>
    intro s t hs h
    obtain ⟨h1, h2, h3⟩ := rk_some.mp h
    have ht := W_turn h2
    cases r with
    | zero => exact h2
    | succ r =>
      have c : G.cond (G.W r) s t = true := by
        rcases W_step h2 with z | z
        · rw [h3 r (by omega)] at z; cases z
        · exact z
      show (_ || Game.cond { G with f := F, b := true } (Game.W { G with f := F, b := true } r) s t) = true
      have c' : Game.cond { G with f := F, b := true } (Game.W { G with f := F, b := true } r) s t = true := by
        have : t = 0 ∨ t = 1 := by omega
        rcases this with rfl | rfl
        · show (F s).all (fun o => rch (Game.W { G with f := F, b := true } r) o 1) = true
          rw [List.all_eq_true]
          intro o ho
          obtain ⟨s', r', e1, e2, e3⟩ := P.low s r hs h o ho
          subst e1
          exact W_mono e3 (ih r' (by omega) s' 1 ((C s hs).1 _ (P.sub s hs _ ho) s' rfl) e2)
        · show (G.g s).all (fun o => rch (Game.W { G with f := F, b := true } r) o 0) = true
          have c1 : (G.g s).all (fun o => rch (G.W r) o 0) = true := by
            simpa [Game.cond] using c
          rw [List.all_eq_true] at c1 ⊢
          intro o ho
          have co := c1 o ho
          cases o with
          | none => cases co
          | some s' =>
            have co' : G.W r s' 0 = true := co
            obtain ⟨r', e1, e2⟩ := rk_of co' (by omega : r ≤ N)
            exact W_mono e2 (ih r' (by omega) s' 0 ((C s hs).2 _ ho s' rfl) e1)
      rw [c']
      simp
/-- by the plan the rank stays -/
theorem plan_rk {G : Game} {F : Nat → List (Option Nat)} {n N M : Nat} (hg : G.b = false) (C : Closed G n) (P : Plan G F n N) {s t r : Nat} (hs : s < n) (h : G.rk N s t = some r) (hM : N ≤ M) : Game.rk { G with f := F, b := true } M s t = some r := by
  obtain ⟨h1, h2, h3⟩ := rk_some.mp h
  refine rk_some.mpr ⟨by omega, plan_down hg C P r s t hs h, fun i hi => ?_⟩
  cases z : Game.W { G with f := F, b := true } i s t with
  | false => rfl
  | true =>
    have := plan_up hg C P i s t hs z
    rw [h3 i hi] at this
    cases this

/-! ### a bar of the second one -/
def Game.nv (G : Game) : Nat → Option Nat → Nat → Bool
  | _, none, _ => true
  | 0, some s, _ => !G.E s
  | l + 1, some s, t => !G.E s && (G.at_ t s).all fun o => G.nv l o (1 - t)
/-- K's second one chooses by the bar (g := B): what has no rank never comes -/
theorem bar_never {G : Game} {B : Nat → List (Option Nat)} {n N : Nat} (hg : G.b = false) (C : Closed G n) (hst : ∀ s t, s < n → t < 2 → ∀ j, N ≤ j → G.W j s t = G.W N s t)
    (hB : ∀ s, s < n → (∀ o ∈ B s, o ∈ G.g s) ∧ (G.W N s 1 = false → ∀ o ∈ B s, rch (G.W N) o 0 = false)) : ∀ l s t, s < n → t < 2 → G.W N s t = false → Game.nv { G with g := B } l (some s) t = true
  | 0, s, t, hs, ht, h => by
    show (!G.E s) = true
    cases e : G.E s with
    | false => rfl
    | true => rw [W_end ht e N] at h; cases h
  | l + 1, s, t, hs, ht, h => by
    have hE : G.E s = false := by
      cases e : G.E s with
      | false => rfl
      | true => rw [W_end ht e N] at h; cases h
    show (!G.E s && (Game.at_ { G with g := B } t s).all fun o => Game.nv { G with g := B } l o (1 - t)) = true
    rw [hE]
    simp only [Bool.not_false, Bool.true_and]
    rw [List.all_eq_true]
    intro o ho
    have h1 : G.W (N + 1) s t = false := by rw [hst s t hs ht (N + 1) (by omega)]; exact h
    have c : G.cond (G.W N) s t = false := by
      have : (G.W N s t || G.cond (G.W N) s t) = false := h1
      simp at this
      exact this.2
    have step : ∀ s', o = some s' → s' < n → G.W N s' (1 - t) = false → Game.nv { G with g := B } l o (1 - t) = true := by
      intro s' e hs' hw
      subst e
      exact bar_never hg C hst hB l s' (1 - t) hs' (by omega) hw
    have : t = 0 ∨ t = 1 := by omega
    rcases this with rfl | rfl
    · have ho' : o ∈ G.f s := ho
      cases o with
      | none => cases l <;> rfl
      | some s' =>
        refine step s' rfl ((C s hs).1 _ ho' s' rfl) ?_
        have c' : (if G.b = true then (G.f s).all (fun o => rch (G.W N) o 1) else (G.f s).any (fun o => rch (G.W N) o 1)) = false := c
        rw [hg, if_neg (by decide), List.any_eq_false] at c'
        have := c' _ ho'
        simpa [rch] using this
    · have ho' : o ∈ B s := ho
      obtain ⟨b1, b2⟩ := hB s hs
      cases o with
      | none => cases l <;> rfl
      | some s' => exact step s' rfl ((C s hs).2 _ (b1 _ ho') s' rfl) (b2 h _ ho')

/-! ### the layers, the fewest -/
def fewest (G : Game) (N : Nat) : List Nat := (List.range (N + 1)).filter fun k => G.W k 0 0
theorem fewest_eq {G : Game} {N : Nat} : (fewest G N).head? = G.rk N 0 0 := by
  induction N with
  | zero =>
    unfold fewest Game.rk
    cases h : G.W 0 0 0 <;> simp [h, List.range_succ]
  | succ N ih =>
    have e : fewest G (N + 1) = fewest G N ++ (if G.W (N + 1) 0 0 = true then [N + 1] else []) := by
      unfold fewest
      rw [List.range_succ, List.filter_append]
      congr 1
      cases h : G.W (N + 1) 0 0 <;> simp [h]
    unfold Game.rk
    rw [e, List.head?_append, ih]
    cases q : G.rk N 0 0 with
    | some r => rfl
    | none =>
      cases h : G.W (N + 1) 0 0 <;> simp
theorem fewest_nil {G : Game} {N : Nat} : fewest G N = [] ↔ G.rk N 0 0 = none := by
  rw [← fewest_eq]
  simp
end K30
set_option Elab.async false
set_option linter.all false
set_option maxRecDepth 100000
set_option maxHeartbeats 4000000
/-! Rules that the layer lacks. -/
namespace K30R
open PySem PySem.Spec PyProof.Rows L2
section
variable {X : Cx} {k : Nat} {sp : Sp}

/-! ### defs by name, methods -/
/-- the function's data at its address -/
def FdAt (K : PySem.W.Frag) (f : Addr) (fd : FuncData) : Prop := ∃ (oc : Value) (od : Option Addr) (osl : Array (Option Value)), K.lookup f = some ⟨oc, od, .func fd, osl⟩
theorem FdAt.same {K : PySem.W.Frag} {f : Addr} {fd fd' : FuncData} (h : FdAt K f fd) (h' : FdAt K f fd') : fd' = fd := by
  obtain ⟨oc, od, osl, e⟩ := h
  obtain ⟨oc', od', osl', e'⟩ := h'
  rw [e] at e'
  injection e' with e'
  injection e' with _ _ e' _
  injection e' with e'
  exact e'.symm
theorem _root_.L2.FunD.fdAt {K : PySem.W.Frag} {x qual : Str} {params : Arguments} {body : List Stmt} {scope : Scope} {dvs : List V} {kws : List (Str × V)} {f : Addr} {fd : FuncData} (F : FunD K x qual params body scope dvs kws f fd) : FdAt K f fd := by
  obtain ⟨oc, od, dV, kV, doc, pm, an, cdv, ct, osl, rfl, lk, _⟩ := F.ex
  exact ⟨oc, od, osl, lk⟩
/-- a def of the module that may be called by its name -/
structure Cl (P : Program) (w : World) (K : PySem.W.Frag) (mg : Str → Option Value) (base : Heap) (k : Nat) (x : Str) (ps : List Str) (sp : Sp) : Prop where
  ex : ∃ (f : Addr) (fd : FuncData), FnOk P w K mg base CX0 k f fd ps sp ∧ mg x = some (.ref f) ∧ PySem.W.keepIn K (.ref f) = true ∧ Binds K fd ps [] ∧ FdAt K f fd
/-- a promise that leans on data told later -/
def spAny {α : Type} (sp : α → Sp) : Sp := fun vs H Q E => ∃ d, sp d vs H Q E
theorem Cl.any {P : Program} {w : World} {K : PySem.W.Frag} {mg : Str → Option Value} {base : Heap} {k : Nat} {x : Str} {ps : List Str} {α : Type} {sp : α → Sp} (d0 : α) (c : ∀ d, Cl P w K mg base k x ps (sp d)) : Cl P w K mg base k x ps (spAny sp) := by
  obtain ⟨f, fd, F, hm, kp, b, lk⟩ := (c d0).ex
  have key : ∀ d, FnOk P w K mg base CX0 k f fd ps (sp d) := by
    intro d
    obtain ⟨f', fd', F', hm', _, _, lk'⟩ := (c d).ex
    rw [hm] at hm'
    injection hm' with e
    injection e with e
    subst e
    rw [← lk.same lk']
    exact F'
  exact ⟨f, fd, ⟨fun vs H Q E ⟨d, h⟩ => (key d).len vs H Q E h, fun A outer s H args us vs Q E hr he hb hv ⟨d, h⟩ => (key d).run A outer s H args us vs Q E hr he hb hv h⟩, hm, kp, b, lk⟩
/-- a special method of the class at C -/
structure Ml (P : Program) (w : World) (K : PySem.W.Frag) (mg : Str → Option Value) (base : Heap) (k : Nat) (C : Addr) (m : Str) (sp : Sp) : Prop where
  ex : ∃ (f : Addr) (fd : FuncData), Meth K C m f ∧ FnOk P w K mg base CX0 k f fd ["self"] sp ∧ Binds K fd ["self"] []
theorem pe_cl {x : Str} {ps : List Str} {p pos : Pos} {e : Expr} {es : List Expr} {t : TA} {j : Nat} (c : Cl X.prog X.w X.K X.mg X.base k x ps sp) (hr : Room j X.A) (hk : k ≤ j) (hg : Gl X x) (ha : PA X (e :: es) t)
    (hdb : (x == ("__debug__" : Str)) = false := by decide) (he : starEach (e :: es) X.env = (false, eval e X.env) :: starEach es X.env := by rfl) (hpl : (backTo pos (starEach es X.env)).any (·.1) = false := by rfl) :
    PE X (.Call (.Name x p) (e :: es) [] pos) (tCall sp [] E0 t) := by
  have ⟨f, fd, F, hm, kp, b, _⟩ := c.ex
  exact pe_call F (hr.mono hk) hg hm kp b .nil pass0 ha hdb he hpl
/-- f(k = v, ..), keywords alone -/
theorem pe_clK {x : Str} {ps ks : List Str} {p pos : Pos} {kws : List Keyword} {tk : TA} {j : Nat} {g : List Value → List Value → List Value} {gV : List V → List V → List V} {f : Addr} {fd : FuncData}
    (F : FnOk X.prog X.w X.K X.mg X.base CX0 k f fd ps sp) (hm : X.mg x = some (.ref f)) (kp : PySem.W.keepIn X.K (.ref f) = true) (hb : KBinds X.K fd ps ks g gV)
    (hr : Room j X.A) (hk : k ≤ j) (hg : Gl X x) (hkw : PK X kws tk)
    (hall : (backToKw pos (keywordEach kws X.env)).all (·.1.isSome) = true := by rfl) (hks : (backToKw pos (keywordEach kws X.env)).filterMap (·.1) = ks := by rfl) (hdb : (x == ("__debug__" : Str)) = false := by decide)
    (hpl : ((backTo pos (starEach [] X.env)).any (·.1) || (backToKw pos (keywordEach kws X.env)).any (·.1.isNone)) = false := by rfl) :
    PE X (.Call (.Name x p) [] kws pos) (tCallK sp gV E0 tNil tk) := by
  constructor
  intro pins s σ H Q I h
  apply wpAny_Call_Name_kw
  apply ld_glob I hg hm _ hdb
  apply PySem.W.callWith_KW0 (h₀ := X.base) I.ok.mod.kin kp hall _ hpl
  refine thn (hkw.run pos pins s σ H _ I h) ?_
  rintro ws s2 ⟨zs, H2, I2, rz, q2⟩
  rw [hks]
  exact ⟨I2.kIn, run_fnk (us := []) (vs := []) F (hr.mono hk) hb pass0 I2 .nil rz q2⟩
/-- len(x), x an instance of an own class with __len__ -/
theorem call_lenI {C : Addr} {j : Nat} (M : Ml X.prog X.w X.K X.mg X.base k C "__len__" sp) (hr : Room j X.A) (hk : k + 1 ≤ j) :
    CallR X (.builtin "len") (fun xs H Q => ∃ a dx fs, xs = [.ref a] ∧ H a = some (.ins C dx fs) ∧ sp [.ref a] H (fun v H' => ∃ n : Int, v = .int n ∧ 0 ≤ n ∧ n < 2 ^ 63 ∧ Q (.int n) H') E0) := by
  intro pins s σ H xs us Q I r h
  obtain ⟨a, dx, fs, rfl, ha, q⟩ := h
  obtain ⟨u, rfl, ru⟩ := vals1 r
  cases ru
  have ⟨f, fd, hm, F, hb⟩ := M.ex
  have ⟨mA, J0, _⟩ := ins_get I.hok ha
  have ⟨od, J, _⟩ := J0.look
  have ⟨m, hF⟩ := I.fr
  have hr1 : Room k X.A.in1 := (hr.mono hk).in1
  refine PySem.W.len_K hF I.ok.mod.kin J hm.at_ hm.fn (wpAny_call ?_)
  refine codeAny_mono (F.run X.A.in1 X.stack s H ⟨[.ref a], []⟩ [.ref a] [.ref a] _ E0 hr1 I.env0.in1 ?_ (.cons rfl .nil) q) ?_
  · have z := hb s [.ref a] I.kIn (by simpa using F.len _ _ _ _ q)
    simpa using z
  · intro rr s' hq
    cases rr with
    | error e => exact hq.elim
    | ok fl =>
      cases fl with
      | ret w' =>
        obtain ⟨z, H', I', rz, n, ez, h0, h1, qq⟩ := I.after hq
        subst ez
        obtain ⟨t, rfl⟩ := rz
        exact ⟨⟨h0, h1⟩, ⟨.int n, H', I'.tok _, ⟨_, rfl⟩, qq⟩⟩
      | next => exact hq.elim
      | brk => exact hq.elim
      | cont => exact hq.elim
end
end K30R
set_option Elab.async false
set_option linter.all false
set_option maxRecDepth 100000
set_option maxHeartbeats 4000000
/-! min of a list of pairs of ints; list(text). -/
namespace K30R
open PySem PySem.Spec PyProof.Rows L2
/-! ### pairs of ints as data -/
def prD (p : Int × Int) : PyData := .tuple [.int p.1, .int p.2]
def prLt (p q : Int × Int) : Bool := decide (p.1 < q.1) || (decide (p.1 = q.1) && decide (p.2 < q.2))
theorem prD_lt (p q : Int × Int) : PySem.W.dataLt (prD p) (prD q) = prLt p q := by
  obtain ⟨a, b⟩ := p
  obtain ⟨c, d⟩ := q
  have e : ∀ x y : Int, PySem.W.keyToks (prD (x, y)) = [Sum.inl 1, Sum.inl x, Sum.inl 1, Sum.inl y, Sum.inl 0] := fun x y => by
    simp [prD, PySem.W.keyToks, PySem.W.keyToksAll]
  unfold PySem.W.dataLt
  rw [e, e, lex_self (O := itemOrd)]
  unfold prLt
  by_cases h : a = c
  · subst h
    rw [lex_self (O := itemOrd), lex_self (O := itemOrd)]
    by_cases h2 : b = d
    · subst h2
      rw [lex_self (O := itemOrd), lex_self (O := itemOrd)]
      simp [PyProof.Rows.lexLt]
    · rw [lex_diff (O := itemOrd) (fun z => h2 (Sum.inl.inj z))]
      show decide (b < d) = _
      simp
  · rw [lex_diff (O := itemOrd) (fun z => h (Sum.inl.inj z))]
    show decide (a < c) = _
    simp [h]
def prMin (p : Int × Int) (ps : List (Int × Int)) : Int × Int := ps.foldl (fun a y => if prLt y a = true then y else a) p
theorem prD_min : ∀ (ps : List (Int × Int)) (p : Int × Int), PySem.W.minD (prD p) (ps.map prD) = prD (prMin p ps)
  | [], p => rfl
  | q :: r, p => by
    have ih := prD_min r (if prLt q p = true then q else p)
    unfold PySem.W.minD at ih ⊢
    unfold prMin
    rw [List.map_cons, List.foldl_cons, List.foldl_cons, prD_lt]
    have e : (if prLt q p = true then prD q else prD p) = prD (if prLt q p = true then q else p) := by split <;> rfl
    rw [e, ih]
    rfl
theorem prMin_le : ∀ (ps : List (Int × Int)) (p : Int × Int), ∀ q ∈ p :: ps, prLt q (prMin p ps) = false
  | [], p, q, h => by
    rw [List.mem_singleton.mp h]
    simp [prMin, prLt]
  | r :: rs, p, q, h => by
    show prLt q (prMin (if prLt r p = true then r else p) rs) = false
    have ih := prMin_le rs (if prLt r p = true then r else p)
    have h0 := ih _ (List.mem_cons_self ..)
    have tr : ∀ x y z : Int × Int, prLt x y = false → prLt y z = false → prLt x z = false := by
      intro x y z h1 h2
      simp only [prLt, Bool.or_eq_false_iff, Bool.and_eq_false_iff, decide_eq_false_iff_not] at h1 h2 ⊢
      omega
    rcases List.mem_cons.mp h with e | h
    · subst e
      by_cases c : prLt r q = true
      · rw [if_pos c] at h0 ⊢
        refine tr q r _ ?_ h0
        simp only [prLt, Bool.or_eq_true, Bool.and_eq_true, decide_eq_true_eq] at c
        simp only [prLt, Bool.or_eq_false_iff, Bool.and_eq_false_iff, decide_eq_false_iff_not]
        omega
      · rw [if_neg c] at h0 ⊢
        exact h0
    · rcases List.mem_cons.mp h with e | h
      · subst e
        by_cases c : prLt q p = true
        · rw [if_pos c] at h0 ⊢
          exact h0
        · have c' : prLt q p = false := by simpa using c
          rw [if_neg c] at h0 ⊢
          exact tr q p _ c' h0
      · exact ih q (List.mem_cons_of_mem _ h)
theorem prD_alike (ps : List (Int × Int)) : PySem.W.AlikeAll (ps.map prD) := by
  constructor
  · intro x hx y hy
    obtain ⟨p, _, rfl⟩ := List.mem_map.mp hx
    obtain ⟨q, _, rfl⟩ := List.mem_map.mp hy
    simp [prD, PySem.W.alike, PySem.W.alikeAll]
  · intro x hx z
    obtain ⟨p, _, rfl⟩ := List.mem_map.mp hx
    cases z
theorem prD_depth : ∀ ps : List (Int × Int), PyData.depthAll (ps.map prD) ≤ 1
  | [] => by simp [PyData.depthAll]
  | p :: r => by
    have ih := prD_depth r
    have e : PyData.depth (prD p) = 1 := by simp [prD, PyData.depth, PyData.depthAll]
    rw [List.map_cons, PyData.depthAll, e]
    omega
/-- at the address stands the pair -/
def PrAt (H : Hp) (t : Addr) (p : Int × Int) : Prop := H t = some (.tup [.int p.1, .int p.2])
section
variable {X : Cx}
theorem pr_items {pins : List (Addr × Obj)} {σ : L2.St} {H : Hp} {s : Shared} {t : Addr} {p : Int × Int} (I : Inv X pins σ H s) (h : PrAt H t p) :
    ∃ o n u1 u2, s.heap.get? t = some o ∧ o.cls = .type "tuple" ∧ o.data = .seq #[.int p.1 u1, .int p.2 u2] n := by
  obtain ⟨_, its, rv, o, e, c, n, d⟩ := I.hok t _ h
  obtain ⟨v1, v2, rfl, ⟨u1, rfl⟩, ⟨u2, rfl⟩⟩ := vals2 rv
  exact ⟨o, n, u1, u2, e, c, d⟩
theorem prs_read {pins : List (Addr × Obj)} {σ : L2.St} {H : Hp} {s : Shared} (I : Inv X pins σ H s) : ∀ {ts : List Addr} {ps : List (Int × Int)}, Paired (PrAt H) ts ps → ReadsAll s.heap (ts.map Value.ref) (ps.map prD) []
  | _, _, .nil => .nil
  | _, _, .cons h r => by
    obtain ⟨o, n, u1, u2, e, c, d⟩ := pr_items I h
    exact .cons (as := []) (bs := []) (.tuple e c d (.cons (as := []) (bs := []) (.int _ _) (.cons (as := []) (bs := []) (.int _ _) .nil))) (prs_read I r)
theorem refs_are : ∀ {ts : List Addr} {us : List Value}, Vals (ts.map V.ref) us → us = ts.map Value.ref
  | [], _, r => by cases r; rfl
  | t :: ts, _, r => by
    cases r with
    | cons h r =>
      rw [refs_are r, show _ = Value.ref t from h]
      rfl
/-- min(xs), xs a list of pairs of ints -/
theorem cr_minP (hc : X.calm = true) (hu : X.A.units + 64 < cLine) : CallR X (.builtin "min") (fun vs H Q => ∃ (a : Addr) (ts : List Addr) (ps : List (Int × Int)), vs = [.ref a] ∧ SqL X.K H a (ts.map V.ref) ∧ Paired (PrAt H) ts ps ∧ ps ≠ [] ∧
    ∀ t p, t ∈ ts → p ∈ ps → PrAt H t p → (∀ q ∈ ps, prLt q p = false) → Q (.ref t) H) := by
  intro pins s σ H vs us Q I r h
  obtain ⟨a, ts, ps, rfl, hl, hp, hne, q⟩ := h
  obtain ⟨u, rfl, ru⟩ := vals1 r
  cases ru
  obtain ⟨its, rv, pl, hz⟩ := I.list hl
  have ei := refs_are rv
  subst ei
  obtain ⟨p, pr, rfl⟩ := List.exists_cons_of_ne_nil hne
  have hr := prs_read I hp
  have hr : ReadsAll s.heap (ts.map Value.ref).toArray.toList (prD p :: pr.map prD) [] := hr
  refine PySem.W.min_list_data (I.ok.hd hc) pl.isList hr (prD_alike (p :: pr)) ?_ ?_
  · have := prD_depth (p :: pr)
    have this : PyData.depthAll (prD p :: pr.map prD) ≤ 1 := this
    omega
  · intro i v h' tk bs hv rd hk
    have I1 : Inv X pins σ H { s with heap := h', toks := tk } := I.kept hk
    have hv' : (ts.map Value.ref)[i]? = some v := by simpa using hv
    rw [List.getElem?_map] at hv'
    cases et : ts[i]? with
    | none => rw [et] at hv'; cases hv'
    | some t =>
      rw [et] at hv'
      cases hv'
      have hpt : ∃ p', p' ∈ p :: pr ∧ PrAt H t p' := by
        obtain ⟨p', e1, e2⟩ := paired_get hp et
        exact ⟨p', List.mem_of_getElem? e1, e2⟩
      obtain ⟨p', m', h1⟩ := hpt
      obtain ⟨o, n, u1, u2, e, c, d⟩ := pr_items I1 h1
      rw [prD_min] at rd
      have ep : prMin p pr = p' := by
        generalize prMin p pr = m at rd
        obtain ⟨m1, m2⟩ := m
        obtain ⟨c1, c2⟩ := p'
        have g0 : h'.get? t = some o := e
        unfold prD at rd
        cases rd with
        | tuple g1 g2 g3 g4 =>
          rw [g0] at g1
          cases g1
          rw [d] at g3
          cases g3
          have g4 : ReadsAll h' [Value.int c1 u1, Value.int c2 u2] [.int m1, .int m2] bs := g4
          cases g4 with
          | cons r1 r2 =>
            cases r1
            cases r2 with
            | cons r3 r4 =>
              cases r3
              rfl
      have le := prMin_le pr p
      rw [ep] at le
      exact ⟨.ref t, H, I1, rfl, q t p' (List.mem_of_getElem? et) m' h1 le⟩

/-! ### list(text) -/
/-- the text's signs -/
def signsV (z : Str) : List V := z.cps.toList.map fun c => V.str ⟨#[c]⟩
theorem call_listS (hc : X.calm = true) : CallR X (.type "list") (fun xs H Q => ∃ z, xs = [.str z] ∧ z.length ≤ sizeLine ∧ ∀ l, H l = none → Q (.ref l) (upd H l (.lst (signsV z)))) := by
  intro pins s σ H xs us Q I r h
  obtain ⟨z, rfl, hz, q⟩ := h
  obtain ⟨u, rfl, t, rfl⟩ := vals1 r
  refine PySem.call_list_str (I.ok.hd hc) z t (fun h' tk acc' c' hk hg hi => ?_) hz
  obtain ⟨i1, i2⟩ := hi
  have rv : Vals (signsV z) acc'.toList := by
    have key : ∀ (l : List Nat) (us : List Value), us.length = l.length → (∀ (j : Nat) (v : Value), us[j]? = some v → ∃ c t, l[j]? = some c ∧ v = .str ⟨#[c]⟩ t) → Vals (l.map fun c => V.str ⟨#[c]⟩) us := by
      intro l
      induction l with
      | nil =>
        intro us hl _
        rw [List.length_eq_zero_iff.mp hl]
        exact .nil
      | cons c r ih =>
        intro us hl hv
        cases us with
        | nil => cases hl
        | cons v us =>
          obtain ⟨c', t', e1, e2⟩ := hv 0 v rfl
          cases e1
          exact .cons ⟨t', e2⟩ (ih us (by simpa using hl) fun j v' e => hv (j + 1) v' e)
    refine key _ _ (by simpa using i1) fun j v e => ?_
    have e' : acc'[j]? = some v := by simpa using e
    obtain ⟨c, t', e1, e2⟩ := i2 j v e'
    exact ⟨c, t', by simpa using e1, e2⟩
  have new : ObjOk X.prog X.w (upd H s.heap.objs.size (.lst (signsV z))) h' s.heap.objs.size (.lst (signsV z)) := by
    refine ⟨?_, acc'.toList, c', rv, by simpa using hg⟩
    have e := rv.length
    have e2 : acc'.toList.length = z.cps.size := by simpa using i1
    rw [e, e2]
    exact hz
  exact ⟨.ref _, _, I.laid hk (Nat.le_refl _) new, rfl, q _ (I.hok.fresh (Nat.le_refl _))⟩
end
end K30R
set_option Elab.async false
set_option linter.all false
set_option maxRecDepth 100000
set_option maxHeartbeats 4000000
/-! zip(text, list). -/
namespace K30R
open PySem PySem.Spec PyProof.Rows L2
/-- sign by sign, beside the list at b (as long as the text) -/
def ItzS (K : PySem.W.Frag) (z : Str) (b : Addr) : It where
  go := fun i H => i < z.cps.size ∧ ∃ (ys : List V) (y : V), SqL K H b ys ∧ ys[i]? = some y
  yld := fun i H v H' => ∃ T c y, v = .ref T ∧ H T = none ∧ H' = upd H T (.tup [.str ⟨#[c]⟩, y]) ∧ z.cps[i]? = some c ∧ ∀ ys, SqL K H b ys → ys[i]? = some y
  stop := fun i H => i = z.cps.size ∧ ∃ ys : List V, SqL K H b ys ∧ ys.length = i
/-- the five objects of such a zip -/
def zsAt (Z TI TO i1 i2 : Addr) (z : Str) (t : Tok) (b : Addr) (i : Nat) (h : Heap) : Prop :=
  IsZip h Z TI TO .none ∧ IsTupOf2 h TI (.ref i1) (.ref i2) ∧ (∃ a1 a2, IsTupOf2 h TO a1 a2) ∧ h.IsStrIter i1 (strIterType z) z t i ∧ h.IsListIter i2 b i
theorem turn_zipS {P : Program} {w : World} {K : PySem.W.Frag} {elts : List Expr} {kk : Nat} {tpos : Pos} {b Z TI TO i1 i2 : Addr} {z : Str} {t : Tok} (S : ZipSep2 Z TI TO i1 i2 [i1] [i2, b]) (hb : b ≠ i2) :
    Turn P w K (.Tuple elts kk tpos) (ItzS K z b) [Z, TI, TO, i1, i2] Z (zsAt Z TI TO i1 i2 z t b) where
  mem := List.mem_cons_self ..
  obj := by
    intro i h st c hc
    obtain ⟨h1, h2, ⟨a1, a2, h3⟩, ⟨o4, e4, k4, d4⟩, ⟨o5, e5, k5, d5⟩⟩ := st
    have hc : c = Z ∨ c = TI ∨ c = TO ∨ c = i1 ∨ c = i2 := by simpa using hc
    rcases hc with q | q | q | q | q <;> subst q
    · exact ⟨_, h1, fun v q => nomatch q⟩
    · exact ⟨_, h2, fun v q => nomatch q⟩
    · exact ⟨_, h3, fun v q => nomatch q⟩
    · exact ⟨o4, e4, fun v q => by rw [d4] at q; cases q⟩
    · exact ⟨o5, e5, fun v q => by rw [d5] at q; cases q⟩
  keep := by
    intro i h h' st k
    obtain ⟨h1, h2, ⟨a1, a2, h3⟩, ⟨o4, e4, r4⟩, h5⟩ := st
    exact ⟨k Z (by simp) _ h1, k TI (by simp) _ h2, ⟨a1, a2, k TO (by simp) _ h3⟩, ⟨o4, k i1 (by simp) o4 e4, r4⟩, h5.at fun o q => k i2 (by simp) o q⟩
  item := by
    intro X hP hw hK hc i pins s σ H E I hf st hg
    subst hP hw hK
    obtain ⟨hi, ys, y, hl, hy⟩ := hg
    obtain ⟨its, rv, p, _⟩ := I.list hl
    obtain ⟨u2, hu2, ru2⟩ := rv.get hy
    have hlen := rv.length
    have hil : i < its.length := (List.getElem?_eq_some_iff.mp hu2).1
    have hh : X.A.in1.handled = none := I.ok.hd hc
    have W := WalksT.zipD2 (prog := X.prog) (w := X.w) (A := X.A) S (Draws.text hh i1 z t) (Draws.list hh i2 b hb its.toArray)
    obtain ⟨h1, h2, h3, h4, h5⟩ := st
    refine W.item i s _ E (by simp; omega) ⟨h1, h2, h3, h4, h5, p.isList⟩ ?_
    intro T vals h' tk hp hT hTt hMid hk
    obtain ⟨x1, x2, ⟨c, u, hcx, ex1⟩, hx2, ev⟩ := hp
    subst ex1 ev
    have ex2 : x2 = u2 := by
      have q : its[i]? = some x2 := by simpa using hx2
      rw [hu2] at q
      exact (Option.some.inj q).symm
    subst ex2
    have nT : ∀ c ∈ [Z, TI, TO, i1, i2], c < s.heap.objs.size := by
      intro c hc
      obtain ⟨a1, a2, h3⟩ := h3
      obtain ⟨o4, e4, _⟩ := h4
      obtain ⟨o5, e5, _⟩ := h5
      have hc : c = Z ∨ c = TI ∨ c = TO ∨ c = i1 ∨ c = i2 := by simpa using hc
      rcases hc with q | q | q | q | q <;> subst q
      · exact Heap.lt_size h1
      · exact Heap.lt_size h2
      · exact Heap.lt_size h3
      · exact Heap.lt_size e4
      · exact Heap.lt_size e5
    refine ⟨.ref T, rfl, W.go elts kk tpos i T { s with heap := h', toks := tk } _ E hMid ?_⟩
    intro h'' st2 hk2
    obtain ⟨g1, g2, g3, g4, g5, _⟩ := st2
    have nin : ∀ c ∈ [Z, TO, i1, i2], c ∈ [Z, TI, TO, i1, i2] := by
      intro c hc
      simp only [List.mem_cons, List.not_mem_nil, or_false] at hc ⊢
      rcases hc with q | q | q | q
      · exact .inl q
      · exact .inr (.inr (.inl q))
      · exact .inr (.inr (.inr (.inl q)))
      · exact .inr (.inr (.inr (.inr q)))
    have Tn : T ∉ [Z, TO, i1, i2] := fun m => absurd (nT T (nin T m)) (Nat.not_lt_of_le hT)
    have hT2 : h''.IsTuple T #[.str ⟨#[c]⟩ u, x2] := by
      obtain ⟨o, e, r⟩ := hTt
      exact ⟨o, hk2 T o Tn e, r⟩
    have new : ObjOk X.prog X.w (upd H T (.tup [.str ⟨#[c]⟩, y])) h'' T (.tup [.str ⟨#[c]⟩, y]) :=
      ⟨by show 2 ≤ sizeLine; decide, [.str ⟨#[c]⟩ u, x2], .cons ⟨u, rfl⟩ (.cons ru2 .nil), hT2⟩
    have I1 : Inv X pins σ (upd H T (.tup [.str ⟨#[c]⟩, y])) { s with heap := h'', toks := tk } :=
      I.turnedNew (t' := tk) (ch := [Z, TI, TO, i1, i2]) (fun c o hb q => hk2 c o (fun m => hb (nin c m)) (hk c o (fun m => hb (nin c m)) q)) hf hT new
    refine ⟨.ref T, _, I1, rfl, ⟨T, c, y, rfl, I.hok.fresh hT, rfl, hcx, fun l hl' => by rw [I.list_inj hl' hl]; exact hy⟩, ⟨g1, g2, g3, g4, g5⟩, ?_⟩
    intro c hcm
    rw [upd_ne (Nat.ne_of_lt (Nat.lt_of_lt_of_le (nT c hcm) hT))]
    exact (hf c hcm).1
  done := by
    intro X hP hw hK hc i pins s σ H E I hf st hg
    subst hP hw hK
    obtain ⟨hi, ys, hl, hy⟩ := hg
    obtain ⟨its, rv, p, _⟩ := I.list hl
    have hlen := rv.length
    have hh : X.A.in1.handled = none := I.ok.hd hc
    have W := WalksT.zipD2 (prog := X.prog) (w := X.w) (A := X.A) S (Draws.text hh i1 z t) (Draws.list hh i2 b hb its.toArray)
    obtain ⟨h1, h2, h3, h4, h5⟩ := st
    have em : min z.cps.size its.toArray.size = i := by simp; omega
    rw [em] at W
    refine W.done s _ E ⟨h1, h2, h3, h4, h5, p.isList⟩ ?_
    intro h' tk hk
    refine ⟨rfl, I.turnedL (t' := tk) (ch := [Z, TI, TO, i1, i2]) (fun c o hb q => hk c o (fun m => hb ?_) q) hf⟩
    simp only [List.mem_cons, List.not_mem_nil, or_false] at m ⊢
    rcases m with q | q | q | q
    · exact .inl q
    · exact .inr (.inr (.inl q))
    · exact .inr (.inr (.inr (.inl q)))
    · exact .inr (.inr (.inr (.inr q)))
  self := fun A i s Q E st h => wpAny_pyIter_zip st.1 h
def iZipS (K : PySem.W.Frag) (ta : TA) : TI := fun σ H R => ta σ H fun vs H1 => ∃ (z : Str) (b : Addr) (ys : List V), vs = [.str z, .ref b] ∧ SqL K H1 b ys ∧ R (ItzS K z b) H1
theorem pi_zipS {X : Cx} {e e2 : Expr} {ta : TA} {p pos tpos : Pos} {elts : List Expr} {kk : Nat} (hg : Gl X "zip") (hm : X.mg "zip" = none) (ha : PA X [e, e2] ta)
    (hs : starEach [e, e2] X.env = (false, eval e X.env) :: starEach [e2] X.env := by rfl) (hpl : (backTo pos (starEach [e2] X.env)).any (·.1) = false := by rfl) :
    PI X (.Tuple elts kk tpos) (.Call (.Name "zip" p) [e, e2] [] pos) (iZipS X.K ta) := by
  constructor
  intro pins s σ H R I h
  refine Call_ (ld_blt I hg hm PyProof.Rows.boot_zip (PyProof.Rows.callWith_type1 (thn (ha.run pos pins s σ H _ I h) ?_) hs hpl))
  rintro us s1 ⟨vs, H1, I1, r1, z, b, ys, ex, hl, q⟩
  subst ex
  obtain ⟨u1, u2, rfl, ⟨t, rfl⟩, r2⟩ := vals2 r1
  cases r2
  obtain ⟨its, rv, p1, _⟩ := I1.list hl
  refine zip_begins2 (begins_text z t) (begins_list b its.toArray) trivial p1.isList ?_
  intro h' hz hTI hTO h1 h2 hsz hk
  have lb : b < s1.heap.objs.size := p1.lt
  refine wpAny_pyIter_zip hz ?_
  have I2 : Inv X pins σ H1 { s1 with heap := h' } := I1.kept (t' := s1.toks) hk
  have S : ZipSep2 (s1.heap.objs.size + 4) (s1.heap.objs.size + 2) (s1.heap.objs.size + 3) s1.heap.objs.size (s1.heap.objs.size + 1) [s1.heap.objs.size] [s1.heap.objs.size + 1, b] :=
    zip_sep2 (fp1 := []) (fp2 := [b]) (fun c hc => by cases hc) (fun c hc => by rw [List.mem_singleton.mp hc]; exact lb)
  refine ⟨s1.heap.objs.size + 4, [s1.heap.objs.size + 4, s1.heap.objs.size + 2, s1.heap.objs.size + 3, s1.heap.objs.size, s1.heap.objs.size + 1], _, _, H1, rfl, I2,
    turn_zipS (t := t) S (Nat.ne_of_lt (Nat.lt_succ_of_lt lb)), ⟨hz, hTI, ⟨_, _, hTO⟩, ⟨_, h1, rfl, rfl⟩, ⟨_, h2, rfl, rfl⟩⟩, ?_, q⟩
  intro c hcm
  have hle : s1.heap.objs.size ≤ c := by
    simp only [List.mem_cons, List.not_mem_nil, or_false] at hcm
    rcases hcm with e | e | e | e | e <;> rw [e]
    · exact Nat.le_add_right _ _
    · exact Nat.le_add_right _ _
    · exact Nat.le_add_right _ _
    · exact Nat.le_refl _
    · exact Nat.le_add_right _ _
  exact I1.fpOk hle (I1.hok.fresh hle)
end K30R
set_option Elab.async false
set_option linter.all false
set_option maxRecDepth 100000
set_option maxHeartbeats 4000000
/-! set(text), sorted of it. -/
noncomputable section
namespace K30R
open PySem PySem.Spec PyProof.Rows L2 PySem.Froz
/-! ### the payload's texts, its table's order -/
/-- the payload holds the texts l; its table rises and can be walked -/
structure Pay (w : World) (D : SD) (l : List Str) : Prop where
  txt : ∀ e ∈ D.1.toList, ∃ x t, e.2 = Value.str x t
  perm : (D.1.toList.map fun e => strOf e.2).Perm l
  ris : Ris D.2.2.place.toList
  led : w.params.followText "set-order" = true ∨ D.2.2.led = true
theorem pay_tail {w : World} {ep : Nat} {es : Array (Int × Value)} {t : SetTable} {b : Bool} {l : List Str} (p : Pay w (es, ep, t) l) : Pay w (tailTx ep es t b) l := by
  unfold tailTx
  split
  · have q := relayAll_perm t es (SetTable.grown es.size)
    refine ⟨fun e he => p.txt e (q.mem_iff.mp he), (q.map _).trans p.perm, relayAll_ris _ _ _, ?_⟩
    rcases p.led with z | z
    · exact .inl z
    · exact .inr ((relayAll_led t es _).trans z)
  · exact ⟨p.txt, p.perm, p.ris, p.led⟩
theorem pay_add {w : World} {D : SD} {l : List Str} (k : Str) (u : Tok) (p : Pay w D l) : Pay w (addTx (hashStr w k) (.str k u) D) (k :: l) := by
  obtain ⟨es, ep, t⟩ := D
  have q := layNew_perm t es (hashStr w k) (.str k u)
  rw [Array.toList_push] at q
  have r := layNew_ris t es (hashStr w k) (.str k u) p.ris
  have d := layNew_led t es (hashStr w k) (.str k u)
  refine pay_tail ⟨fun e he => ?_, ?_, ?_, ?_⟩
  · rcases List.mem_append.mp (q.mem_iff.mp he) with z | z
    · exact p.txt e z
    · rw [List.mem_singleton.mp z]
      exact ⟨k, u, rfl⟩
  · refine (q.map _).trans ?_
    rw [List.map_append]
    refine (List.perm_append_singleton _ _).trans ?_
    exact List.Perm.cons _ p.perm
  · split
    · exact r
    · exact r
  · rcases p.led with z | z
    · exact .inl z
    · refine .inr ?_
      split
      · exact d.trans z
      · exact d.trans z
theorem pay_run {w : World} : ∀ (cs : List Nat) (tk : Tok) (D : SD) (l : List Str), Pay w D l → Pay w (runD w cs tk D) ((cs.map sing).reverse ++ l)
  | [], _, _, _, p => p
  | c :: r, tk, D, l, p => by
    have q := pay_run r (tk + 2) _ _ (pay_add (sing c) tk p)
    rw [List.map_cons, List.reverse_cons, List.append_assoc]
    exact q
/-- the empty set, made by a call -/
def freshD (w : World) : SD := (#[], 0, .fresh 0 0 (!w.params.followText "set-order"))
theorem pay_fresh (w : World) : Pay w (freshD w) [] := by
  refine ⟨fun e he => (by simp [freshD] at he), List.Perm.refl _, List.Pairwise.nil, ?_⟩
  show _ ∨ (!w.params.followText "set-order") = true
  cases w.params.followText "set-order"
  · exact .inr rfl
  · exact .inl rfl
section
variable {P : Program} {w : World} {A : Around} {E : Value → Shared → Prop} {s : Shared}
theorem tx_run : ∀ (cs : List Nat) (tk : Tok) (D : SD) (l : List Str), TxOk P w D l → TxOk P w (runD w cs tk D) ((cs.map sing).reverse ++ l)
  | [], _, _, _, p => p
  | c :: r, tk, D, l, p => by
    have q := tx_run r (tk + 2) _ _ (add_ok (P := P) (k := sing c) tk p)
    rw [List.map_cons, List.reverse_cons, List.append_assoc]
    exact q
theorem fin_old {a it : Addr} {T : String} {D : SD} {n m : Nat} {b : Addr} {o : Obj} (ha : b ≠ a) (hi : b ≠ it) (e : s.heap.get? b = some o) : (finU s a T it D n m).heap.get? b = some o := by
  unfold finU two
  refine Heap.get?_push_of_some _ (Heap.get?_push_of_some _ ?_)
  rw [Heap.get?_update_other _ _ (Ne.symm hi), Heap.get?_update_other _ _ (Ne.symm ha)]
  exact e
theorem fin_set {a it : Addr} {T : String} {D : SD} {n m : Nat} {o : Obj} (hi : a ≠ it) (e : s.heap.get? a = some o) : (finU s a T it D n m).heap.get? a = some (sObj T D) := by
  unfold finU two
  refine Heap.get?_push_of_some _ (Heap.get?_push_of_some _ ?_)
  rw [Heap.get?_update_other _ _ (Ne.symm hi)]
  exact get_upd _ e rfl

/-! ### set(text) -/
theorem call_set_txt {x : Str} {t : Tok} {Q : Value → Shared → Prop} (hh : A.handled = none) (hx : x.cps.all (· < 128) = true) (hn : x.cps.toList.Nodup) (hb : x.cps.toList.length + 1 < scanBound)
    (h : ∀ (h' : Heap) (tk : Nat) (D : SD), h'.get? s.heap.objs.size = some (sObj "set" D) → TxOk P w D (x.cps.toList.map sing).reverse → Pay w D (x.cps.toList.map sing).reverse →
      (∀ b o, s.heap.get? b = some o → h'.get? b = some o) → Q (.ref s.heap.objs.size) { s with heap := h', toks := tk }) :
    wpAny (model P w) A (call (.type "set") [.str x t]) Q E s := by
  obtain ⟨c0, tl, hmro⟩ := F.called_set.mro
  have hmade := F.called_set.made
  have hsub := F.called_set.sub
  refine wpAny_call (codeAny_of_tree ?_)
  show wpAny _ _ (callAny (.type "set") _) _ _ _
  refine wpAny_pure ⟨Code.quiet_builtin _ (by decide +kernel), codeAny_builtin F.entry_type_call ?_⟩
  rw [Around.under_plain (weight_type_call_type "set" [.str x t] []) rfl]
  have h1 := F.called_set.notType
  have h2 := F.called_set.canCreate
  have hct := F.typeCall_set_1 (.str x t)
  repeat (any_goals (first | assumption | wp_step))
  refine codeAny_mono (code_set_led1 (P := P) (.str x t) (E := E) (Q₁ := fun obj s₁ => obj = .ref s.heap.objs.size ∧ s₁ = { s with heap := s.heap.push (sObj "set" (freshD w)) }) ⟨rfl, rfl⟩) ?_
  intro r s₁ hr
  cases r with
  | error e => exact hr
  | ok fl =>
    cases fl with
    | ret obj =>
      obtain ⟨rfl, rfl⟩ := hr
      have hS : (s.heap.push (sObj "set" (freshD w))).get? s.heap.objs.size = some (sObj "set" (freshD w)) := Heap.get?_push_size _ rfl
      have hT : Shared.TypeIs { s with heap := s.heap.push (sObj "set" (freshD w)) } (.ref s.heap.objs.size) "set" := ⟨_, hS, rfl⟩
      have hli := F.called_set.init.lookup
      have hbi := F.called_set.init.bind (.ref s.heap.objs.size)
      repeat (any_goals (first | assumption | wp_step))
      refine codeAny_mono (codeAny_call_builtin (R := wants (fun r s₂ => r = .none ∧ ∃ h' tk D, s₂ = { s with heap := h', toks := tk } ∧ h'.get? s.heap.objs.size = some (sObj "set" D) ∧ TxOk P w D (x.cps.toList.map sing).reverse ∧ Pay w D (x.cps.toList.map sing).reverse ∧
          (∀ b o, s.heap.get? b = some o → h'.get? b = some o)) E) F.called_set.init.plain F.entry_set_init (check_set_init_1 hT ?_)) ?_
      · have tS := PySem.F.sub_str_set
        have tF := PySem.F.sub_str_frozenset
        have nD : (Value.type "str" == Value.type "dict") = false := by decide
        unfold Builtin.«set.__init__» noKeywords Builtin.Frozenset.updateFrom
        generalize hPI : pyIter = PI
        wp_walk
        subst hPI
        refine wpAny_pyIter_strU ?_
        refine wpAny_bind (wpAny_runValue ?_)
        have ety : strIterType x = "str_ascii_iterator" := by
          unfold strIterType
          rw [if_pos hx]
        rw [ety]
        have hne : s.heap.objs.size ≠ (s.heap.push (sObj "set" (freshD w))).objs.size := by
          rw [Heap.size_push]
          exact Nat.ne_of_lt (Nat.lt_succ_self _)
        have hS2 : ((s.heap.push (sObj "set" (freshD w))).push (itObj x t 0)).get? s.heap.objs.size = some (sObj "set" (freshD w)) := Heap.get?_push_of_some _ hS
        refine code_update hne (by simp [hh]) x.cps.toList 0 (freshD w) [] { s with heap := (s.heap.push (sObj "set" (freshD w))).push (itObj x t 0) } rfl hS2 (Heap.get?_push_size _ rfl) (TxOk.nil (by rfl)) (fun c _ z => by cases z) hn (by show 0 + _ < _; omega) ?_
        have eD := tx_run (P := P) (w := w) x.cps.toList s.toks (freshD w) [] (TxOk.nil (by rfl))
        have eP := pay_run (w := w) x.cps.toList s.toks _ _ (pay_fresh w)
        rw [List.append_nil] at eD eP
        show wpAny _ _ _ _ _ _
        refine wpAny_pure ?_
        show wpAny _ _ (ret Value.none) _ _ _
        refine wpAny_pure ⟨rfl, _, _, _, rfl, fin_set (s := { s with heap := (s.heap.push (sObj "set" (freshD w))).push (itObj x t 0) }) (n := 0 + x.cps.toList.length) (m := x.cps.toList.length) hne hS2, eD, eP, ?_⟩
        intro b o e
        have hbl : b < s.heap.objs.size := Heap.lt_size e
        refine fin_old (s := { s with heap := (s.heap.push (sObj "set" (freshD w))).push (itObj x t 0) }) (n := 0 + x.cps.toList.length) (m := x.cps.toList.length) (Nat.ne_of_lt hbl) ?_ (Heap.get?_push_of_some _ (Heap.get?_push_of_some _ e))
        rw [Heap.size_push]
        exact Nat.ne_of_lt (Nat.lt_succ_of_lt hbl)
      · intro r₂ s₂ hr₂
        cases r₂ with
        | error e => exact hr₂
        | ok fl₂ =>
          cases fl₂ with
          | ret r =>
            obtain ⟨rfl, h', tk, D, rfl, q1, q2, q3, q4⟩ := hr₂
            repeat (any_goals (first | assumption | wp_step))
            exact h _ _ D q1 q2 q3 q4
          | _ => exact hr₂.elim
    | _ => exact hr.elim

/-! ### sorted of it -/
theorem sorted_txt {a : Addr} {D : SD} {l : List Str} {Q : Value → Shared → Prop} (hh : A.handled = none) (ha : s.heap.get? a = some (sObj "set" D)) (T : TxOk P w D l) (p : Pay w D l) (h64 : l.length < 64)
    (hQ : ∀ s' p (out : Array Value) (c : Nat) (ys : List Str), (∀ b o, s.heap.get? b = some o → s'.heap.get? b = some o) → s'.gens = s.gens → s'.os = s.os → s.heap.objs.size ≤ p →
      s'.heap.get? p = some (seqObj "list" out c) → StrsAre out.toList ys → ys.Perm l → sortedS ys = true → Q (.ref p) s') :
    wpAny (model P w) A (call (.builtin "sorted") [.ref a]) Q E s := by
  have hsz : D.1.size < scanBound := by
    rw [T.sz]
    exact Nat.lt_trans h64 (by decide)
  refine Calls.call_function_entry kind_sorted plain_sorted entry_sorted (args_sorted1 _) ?_
  unfold Builtin.«sorted»
  refine wpAny_bind (m := checkCount "sorted" 1 1 _) (wpAny_pure ?_)
  refine wpAny_bind (collect_set (A := A.in1) (t := D.2.2) (ep := D.2.1) hh ⟨_, ha, rfl, rfl⟩ T.fit hsz p.ris p.led ?_)
  intro s1 vs k1 hz g1 o1 pm
  have hvl : vs.length = l.length := by
    rw [pm.length_eq, List.length_map, Array.length_toList]
    exact T.sz
  have all : ∀ v ∈ vs, ∃ x t, v = Value.str x t := by
    intro v hv
    obtain ⟨e, he, q⟩ := List.mem_map.mp (pm.mem_iff.mp hv)
    rw [← q]
    exact p.txt e he
  have hS := strsAre_map vs all
  have pl : (vs.map strOf).Perm l := by
    have q := pm.map strOf
    rw [List.map_map] at q
    exact q.trans p.perm
  refine wpAny_bind (wpAny_newList ?_ (by rw [hvl, sizeLine_eq]; omega))
  have hoL : (s1.heap.push (seqObj "list" vs.toArray 0)).get? s1.heap.objs.size = some (seqObj "list" vs.toArray 0) := Heap.get?_push_size _ rfl
  refine wpAny_bind (wpAny_holding (wpAny_call_entry slot_list_sort ⟨_, hoL, rfl⟩ entry_list_sort ?_ (args_list_sort _)))
  refine list_sort_treeK strKind_oneLt hoL hS.keysOf (fun v₁ v₂ rest e => keyKind_strs (by rw [← e]; exact hS)) (by rw [hvl]; exact h64) ?_
  intro st' hp hs
  obtain ⟨ys, a1, a2, a3⟩ := sorted_out_str hS hp hs
  obtain ⟨c, hc⟩ := sortedHeap_at (vs := vs) (out := (arrOf st').map (·.2)) hoL
  refine ⟨_, rfl, ?_⟩
  refine wpAny_pure ⟨_, rfl, hQ _ s1.heap.objs.size _ c ys ?_ g1 o1 hz hc a1 (a2.trans pl) a3⟩
  intro b u e
  have q := k1 b u e
  have hlt := Heap.lt_size q
  show (sortedHeap (s1.heap.push (seqObj "list" vs.toArray 0)) s1.heap.objs.size vs _).get? b = some u
  rw [sortedHeap_old (Nat.ne_of_lt hlt) (by rw [size_push']; exact Nat.lt_succ_of_lt hlt)]
  exact Heap.get?_push_of_some _ q
end

/-! ### as rules -/
/-- a set of these texts stands at a -/
def SetTO (P : Program) (w : World) (a : Addr) (l : List Str) : HO := .ext fun h => ∃ D : SD, h.get? a = some (sObj "set" D) ∧ TxOk P w D l ∧ Pay w D l
section
variable {X : Cx}
theorem call_setT (hc : X.calm = true) : CallR X (.type "set") (fun xs H Q => ∃ z : Str, xs = [.str z] ∧ z.cps.all (· < 128) = true ∧ z.cps.toList.Nodup ∧ z.cps.toList.length < 64 ∧
    ∀ p, H p = none → Q (.ref p) (upd H p (SetTO X.prog X.w p (z.cps.toList.map sing).reverse))) := by
  intro pins s σ H xs us Q I r h
  obtain ⟨z, rfl, h1, h2, h3, q⟩ := h
  obtain ⟨u, rfl, t, rfl⟩ := vals1 r
  have lim : z.cps.toList.length + 1 < scanBound := Nat.lt_of_le_of_lt (Nat.succ_le_of_lt h3) (by decide)
  refine call_set_txt (I.ok.hd hc) h1 h2 lim ?_
  intro h' tk D g1 g2 g3 hk
  have new : ObjOk X.prog X.w (upd H s.heap.objs.size (SetTO X.prog X.w s.heap.objs.size (z.cps.toList.map sing).reverse)) h' s.heap.objs.size (SetTO X.prog X.w s.heap.objs.size (z.cps.toList.map sing).reverse) := by
    refine ⟨⟨D, g1, g2, g3⟩, ⟨_, g1⟩, ?_⟩
    rintro k1 k2 ⟨D', e1, e2, e3⟩ k
    exact ⟨D', k _ e1, e2, e3⟩
  exact ⟨.ref _, _, I.laid hk (Nat.le_refl _) new, rfl, q _ (I.hok.fresh (Nat.le_refl _))⟩
theorem cr_sortedTxt (hc : X.calm = true) : CallR X (.builtin "sorted") (fun xs H Q => ∃ (a : Addr) (l : List Str), xs = [.ref a] ∧ H a = some (SetTO X.prog X.w a l) ∧ l.length < 64 ∧
    ∀ (H' : Hp) (ys : List Str) p, (∀ b o, H b = some o → H' b = some o) → ys.Perm l → sortedS ys = true → H p = none → H' p = some (.lst (ys.map V.str)) → Q (.ref p) H') := by
  intro pins s σ H xs us Q I r h
  obtain ⟨a, l, rfl, ha, h64, q⟩ := h
  obtain ⟨u, rfl, ru⟩ := vals1 r
  cases ru
  obtain ⟨⟨D, g1, g2, g3⟩, _⟩ := I.hok a _ ha
  refine sorted_txt (I.ok.hd hc) g1 g2 g3 h64 ?_
  intro s' p out c ys k1 k2 k3 k4 k5 k6 k7 k8
  have hp : H p = none := I.hok.fresh k4
  have hlen : (ys.map V.str).length ≤ sizeLine := by
    rw [List.length_map, k7.length_eq]
    exact small64 h64
  have new : ObjOk X.prog X.w (upd H p (.lst (ys.map V.str))) s'.heap p (.lst (ys.map V.str)) := ⟨hlen, out.toList, c, vals_of_strs k6, by simpa using k5⟩
  have I1 : Inv X pins σ (upd H p (.lst (ys.map V.str))) s' := by
    refine I.call' (ch := []) k3 (Un.laid (fun b o e => k1 b o e) k4 hp) (I.hok.laid k1 k4 new) (by rw [k2]; exact I.bare) (fun b hb => by cases hb)
  refine ⟨.ref p, _, I1, rfl, q _ ys p (fun b o e => ?_) k7 k8 hp upd_same⟩
  rw [upd_ne (ne_of_none e hp)]
  exact e
end
end K30R
set_option Elab.async false
set_option linter.all false
set_option maxRecDepth 100000
set_option maxHeartbeats 4000000
/-! {k: v for a in xs for b in ys}, the keys tuples. -/
namespace K30R
open PySem PySem.Spec PyProof.Rows L2
section
variable (kx vx t0 i0 t1 i1 : Expr) (f0 f1 : List Expr) (scope : Scope) (pos : Pos)
abbrev dc2E : Expr := .DictComp kx vx [⟨t0, i0, f0, 0⟩, ⟨t1, i1, f1, 0⟩] scope pos
theorem turn2_out (it acc : Value) (env : Env) : compTurn (dc2E kx vx t0 i0 t1 i1 f0 f1 scope pos) 0 it acc env = (do
    standAt i0.pos
    match ← pyNext it with
    | none => pure (.done .next)
    | some v =>
      letOwnedTupleGo t0 it v
      assign t0 env v
      let mut ok := true
      for c in f0 do
        if ok then ok ← isTrue c env (eval c env)
      if ok then
        let y ← eval i1 env
        standAt i1.pos
        let y ← foldedSetIterable i1 env y
        let _ ← runOwn (.compStart (dc2E kx vx t0 i0 t1 i1 f0 f1 scope pos) 1 (← holding [y] (pyIter y)) acc env) env
      again (.compLoop (dc2E kx vx t0 i0 t1 i1 f0 f1 scope pos) 0 it acc env)) := by rfl
theorem turn2_in (it : Value) (D : Addr) (env : Env) : compTurn (dc2E kx vx t0 i0 t1 i1 f0 f1 scope pos) 1 it (.ref D) env = (do
    standAt i1.pos
    match ← pyNext it with
    | none => pure (.done .next)
    | some v =>
      letOwnedTupleGo t1 it v
      assign t1 env v
      let mut ok := true
      for c in f1 do
        if ok then ok ← isTrue c env (eval c env)
      if ok then
        (do
          let kv ← eval kx env
          let vv ← holding [kv] (eval vx env)
          standAt { kx.pos with endLine := vx.pos.endLine, endCol := vx.pos.endCol }
          holding [kv, vv] (dictSet D kv vv))
      again (.compLoop (dc2E kx vx t0 i0 t1 i1 f0 f1 scope pos) 1 it (.ref D) env)) := by rfl
end

/-! ### the two loops -/
/-- what a clause's turn meets: the next item or the end; Go: the item stored and let; Bd: what follows a passed test -/
def Meet (prog : Program) (w : World) (A : Around) (E : Value → Shared → Prop) (t : Expr) (fs : List Expr) (it : Value) (env : Env) (End : Shared → Prop) (Bd Sk : Shared → Prop) (s : Shared) : Prop :=
  wpAny (model prog w) A (pyNext it) (fun r s1 => match r with
    | none => End s1
    | some v => wpAny (model prog w) A (letOwnedTupleGo t it v) (fun _ s2 => wpAny (model prog w) A (assign t env v) (fun _ s3 =>
        wpAny (model prog w) A (forIn fs true fun c r => if r = true then do let ok ← isTrue c env (eval c env); pure (ForInStep.yield ok) else pure (ForInStep.yield r)) (fun ok s4 => if ok = true then Bd s4 else Sk s4) E s3) E s2) E s1) E s
section
variable {prog : Program} {w : World} {A : Around} {R : Result → Shared → Prop} {s : Shared} {kx vx t0 i0 t1 i1 : Expr} {f0 f1 : List Expr} {scope : Scope} {pos : Pos} {it acc : Value} {D : Addr} {env : Env}
theorem loop2_out (hs : ∀ x, foldedSetIterable i1 env x = pure x) (W : Nat → Shared → Prop)
    (turn : ∀ n s, W n s → Meet prog w A (notedBy (model prog w) A env fun e s' => R (.error e) s') t0 f0 it env (fun s1 => R (.ok .next) s1)
      (fun s4 => wpAny (model prog w) A (eval i1 env) (fun x s5 => wpAny (model prog w) A (pyIter x) (fun it1 s6 =>
        codeAny (model prog w) A (.compStart (dc2E kx vx t0 i0 t1 i1 f0 f1 scope pos) 1 it1 acc env) (fun r s' => match r with
          | .ok _ => ∃ m, m < n ∧ W m s'
          | .error _ => False) s6) (notedBy (model prog w) A env fun e s' => R (.error e) s') s5) (notedBy (model prog w) A env fun e s' => R (.error e) s') s4)
      (fun s4 => ∃ m, m < n ∧ W m s4) s)
    (n : Nat) (h : W n s) : codeAny (model prog w) A (.compLoop (dc2E kx vx t0 i0 t1 i1 f0 f1 scope pos) 0 it acc env) R s := by
  refine codeAny_loop rfl W ?_ n h
  intro n s hW
  show wpAny _ A ((compTurn (dc2E kx vx t0 i0 t1 i1 f0 f1 scope pos) 0 it acc env).onRaise (fun x => do noteFrame x env; theTreesLotGoes x)) _ _ s
  refine wpAny_noted ?_
  rw [turn2_out]
  refine wpAny_bind (wpAny_standAt (wpAny_bind (wpAny_mono (turn n s hW) ?_ fun _ _ z => z)))
  intro r s1 h1
  cases r with
  | none => exact wpAny_pure h1
  | some v =>
    refine wpAny_bind (wpAny_mono h1 ?_ fun _ _ z => z)
    intro _ s2 h2
    refine wpAny_bind (wpAny_mono h2 ?_ fun _ _ z => z)
    intro _ s3 h3
    refine wpAny_bind (wpAny_mono h3 ?_ fun _ _ z => z)
    intro ok s4 h4
    cases ok with
    | false => exact wpAny_pure ⟨rfl, h4⟩
    | true =>
      refine wpAny_bind (wpAny_mono h4 ?_ fun _ _ z => z)
      intro x s5 h5
      refine wpAny_bind (wpAny_standAt (wpAny_bind (wpAny_of_eq (hs x) (wpAny_bind (wpAny_holding (wpAny_mono h5 ?_ fun _ _ z => z))))))
      intro it1 s6 h6
      refine wpAny_bind (wpAny_runOwn ?_)
      rw [Around.mark_none]
      refine codeAny_mono h6 ?_
      intro r s7 hr
      cases r with
      | ok f =>
        first
          | exact wpAny_pure ⟨rfl, hr⟩
          | exact wpAny_bind (wpAny_pure (wpAny_pure ⟨rfl, hr⟩))
      | error e => exact hr.elim
theorem loop2_in (W : Nat → Shared → Prop)
    (turn : ∀ n s, W n s → Meet prog w A (notedBy (model prog w) A env fun e s' => R (.error e) s') t1 f1 it env (fun s1 => R (.ok .next) s1)
      (fun s4 => wpAny (model prog w) A (eval kx env) (fun kv s5 => wpAny (model prog w) A (eval vx env) (fun vv s6 =>
        wpAny (model prog w) A (dictSet D kv vv) (fun _ s7 => ∃ m, m < n ∧ W m s7) (notedBy (model prog w) A env fun e s' => R (.error e) s') s6) (notedBy (model prog w) A env fun e s' => R (.error e) s') s5) (notedBy (model prog w) A env fun e s' => R (.error e) s') s4)
      (fun s4 => ∃ m, m < n ∧ W m s4) s)
    (n : Nat) (h : W n s) : codeAny (model prog w) A (.compLoop (dc2E kx vx t0 i0 t1 i1 f0 f1 scope pos) 1 it (.ref D) env) R s := by
  refine codeAny_loop rfl W ?_ n h
  intro n s hW
  show wpAny _ A ((compTurn (dc2E kx vx t0 i0 t1 i1 f0 f1 scope pos) 1 it (.ref D) env).onRaise (fun x => do noteFrame x env; theTreesLotGoes x)) _ _ s
  refine wpAny_noted ?_
  rw [turn2_in]
  refine wpAny_bind (wpAny_standAt (wpAny_bind (wpAny_mono (turn n s hW) ?_ fun _ _ z => z)))
  intro r s1 h1
  cases r with
  | none => exact wpAny_pure h1
  | some v =>
    refine wpAny_bind (wpAny_mono h1 ?_ fun _ _ z => z)
    intro _ s2 h2
    refine wpAny_bind (wpAny_mono h2 ?_ fun _ _ z => z)
    intro _ s3 h3
    refine wpAny_bind (wpAny_mono h3 ?_ fun _ _ z => z)
    intro ok s4 h4
    cases ok with
    | false => exact wpAny_pure ⟨rfl, h4⟩
    | true =>
      refine wpAny_bind (wpAny_bind (wpAny_mono h4 ?_ fun _ _ z => z))
      intro kv s5 h5
      refine wpAny_bind (wpAny_holding (wpAny_mono h5 ?_ fun _ _ z => z))
      intro vv s6 h6
      exact wpAny_bind (wpAny_standAt (wpAny_holding (wpAny_mono h6 (fun _ s7 h7 => wpAny_pure ⟨rfl, h7⟩) fun _ _ z => z)))
theorem start2_in (h0 : codeAny (model prog w) A (.compLoop (dc2E kx vx t0 i0 t1 i1 f0 f1 scope pos) 1 it acc env) R s)
    (h : wpAny (model prog w) A (pyIter it) (fun it' s' => codeAny (model prog w) A (.compLoop (dc2E kx vx t0 i0 t1 i1 f0 f1 scope pos) 1 it' acc env) R s')
      (notedBy (model prog w) A env fun x s' => R (.error x) s') s) :
    codeAny (model prog w) A (.compStart (dc2E kx vx t0 i0 t1 i1 f0 f1 scope pos) 1 it acc env) R s := by
  refine codeAny_of_tree ?_
  show wpAny _ _ ((compStart (dc2E kx vx t0 i0 t1 i1 f0 f1 scope pos) 1 it acc env).onRaise (fun x => do noteFrame x env; standAt theWindowsPlace)) _ _ s
  refine wpAny_notedAt ?_
  unfold compStart
  show wpAny _ _ (ask >>= _) _ _ s
  refine wpAny_bind (wpAny_askSetting (wpAny_ite ?_))
  split
  · first
      | exact wpAny_bind (wpAny_pure (wpAny_pure (And.intro rfl h0)))
      | exact wpAny_pure (And.intro rfl h0)
  · refine wpAny_bind (wpAny_rule ?_)
    show wpAny _ _ (standAt i1.pos >>= _) _ _ s
    exact wpAny_bind (wpAny_standAt (wpAny_bind (wpAny_mono h (fun it' s' z => wpAny_pure (And.intro rfl z)) fun _ _ z => z)))
end

section
variable {X : Cx}
/-- d[k] = v of a dict comprehension, k a tuple -/
theorem dT_set {pins : List (Addr × Obj)} {σ : L2.St} {H : Hp} {s : Shared} {E : Value → Shared → Prop} {D b : Addr} {kvs : List (List Key × V)} {k : List Key} {v : V} {r : Value} {Q : Unit → Shared → Prop} (hu : X.A.units + 1 < cLine) (I : Inv X pins σ H s)
    (hD : H D = some (.dT kvs)) (hb : H b = some (.tup (k.map kV))) (hz : kvs.length < sizeLine) (rv : RelV v r) (h : ∀ s', Inv X pins σ (upd H D (.dT (putK kvs k v))) s' → Q () s') : wpAny (model X.prog X.w) X.A (dictSet D (.ref b) r) Q E s := by
  obtain ⟨z, hd, xs, rel, dd⟩ := dt_of I.hok hD
  have hz2 : xs.length ≤ sizeLine := by
    rw [← Paired.length rel]
    exact z
  have hl : (putK kvs k v).length ≤ sizeLine := by
    have := length_putK kvs k v
    omega
  refine wpAny_dictSet_heap (hsz := hz2) (show X.A.units < cLine by omega) (key_of I.hok hb) dd ?_
  intro h' dd' hs
  refine h _ ?_
  obtain ⟨q, es, ep, hq, h2, h3, h4, _, h5⟩ := dd'
  refine d_write I (by rw [hD]; exact True.intro) hs ⟨q, hq⟩ ⟨hl, hd, _, (rel.put k hb rv).keeps ?_, q, es, ep, hq, h2, h3, h4, h5⟩
  intro c ys ec
  rw [upd_ne (ne_of ec hD (fun z => nomatch z))]
  exact ec

/-- {k: v for tg in iter for tg1 in iter1}, the keys tuples: D the new dict; vs: the block's names, vs1 those of the second target -/
def tDc2 (wi : TI) (g : TG) (wi1 : TI) (g1 : TG) (tk tv : TE) (vs vs1 : List Nat) : TE := fun σ H Q => wi σ H fun J H1 => ∀ D, H1 D = none → ∃ W : Nat → Nat → Hp → Prop, (∃ m, W 0 m (upd H1 D (.dT []))) ∧ ∀ i m H, W i m H →
  (J.stop i H ∧ Q (.ref D) H) ∨ (J.go i H ∧ ∃ Nx : Hp → Prop, (∀ H', Nx H' → ∃ m', m' < m ∧ W (i + 1) m' H') ∧ ∀ x H', J.yld i H x H' → g x (wipe σ vs) H' fun σ2 H2 => wipe σ2 vs = wipe σ vs ∧
    wi1 σ2 H2 fun J1 H4 => ∃ W1 : Nat → Nat → Hp → Prop, (∃ m, W1 0 m H4) ∧ ∀ j k H, W1 j k H →
      (J1.stop j H ∧ Nx H) ∨ (J1.go j H ∧ ∃ Nx1 : Hp → Prop, (∀ H', Nx1 H' → ∃ k', k' < k ∧ W1 (j + 1) k' H') ∧ ∀ x H', J1.yld j H x H' → g1 x (wipe σ2 vs1) H' fun σ3 H5 => wipe σ3 vs1 = wipe σ2 vs1 ∧
        tk σ3 H5 fun y H6 => tv σ3 H6 fun z H7 => ∃ b kvs key, y = .ref b ∧ H7 b = some (.tup (List.map kV key)) ∧ H7 D = some (.dT kvs) ∧ kvs.length < sizeLine ∧ Nx1 (upd H7 D (.dT (putK kvs key z)))))
/-- the state of a block's loop -/
def BlkAt (X : Cx) (s3 : Shared) (H3 : Hp) (scope : Scope) (ce : Env) (fp : List Addr) (pins : List (Addr × Obj)) (σ : L2.St) (fq : List Addr) (tn : Nat → Heap → Prop) (W : Nat → Nat → Hp → Prop) (n : Nat) (s' : Shared) : Prop :=
  ∃ i H', Inv (X.blk s3 H3 scope ce fp) pins σ H' s' ∧ tn i s'.heap ∧ (∀ b ∈ fq, H' b = none) ∧ W i n H'
theorem pe_dc2 {kx vx tg iter tg1 iter1 : Expr} {scope : Scope} {own : List (Str × Nat)} {vs1 : List Nat} {pos : Pos} {wi wi1 : TI} {g g1 : TG} {tk tv : TE} (hc : X.calm = true) (hu : X.A.units + 1 < cLine) (hN : X.N.Nodup) (hi : PI X tg iter wi) (ok : BlkOk X.N X.env.scope scope own) (hv : ∀ i ∈ vs1, i ∈ own.map (·.2))
    (hg : ∀ (s : Shared) (H : Hp) (C : Addr) (cl : List (Str × Addr)) (fp : List Addr), PG (X.blk s H scope (compEnvC scope cl C X.env) fp) tg g)
    (hi1 : ∀ (s : Shared) (H : Hp) (C : Addr) (cl : List (Str × Addr)) (fp : List Addr), PI (X.blk s H scope (compEnvC scope cl C X.env) fp) tg1 iter1 wi1)
    (hg1 : ∀ (s : Shared) (H : Hp) (C : Addr) (cl : List (Str × Addr)) (fp : List Addr), PG (X.blk s H scope (compEnvC scope cl C X.env) fp) tg1 g1)
    (hk : ∀ (s : Shared) (H : Hp) (C : Addr) (cl : List (Str × Addr)) (fp : List Addr), PE (X.blk s H scope (compEnvC scope cl C X.env) fp) kx tk)
    (he : ∀ (s : Shared) (H : Hp) (C : Addr) (cl : List (Str × Addr)) (fp : List Addr), PE (X.blk s H scope (compEnvC scope cl C X.env) fp) vx tv)
    (hs : ∀ x, foldedSetIterable iter X.env x = pure x := by intro _; rfl) (hs1 : ∀ env x, foldedSetIterable iter1 env x = pure x := by intro _ _; rfl) :
    PE X (dc2E kx vx tg iter tg1 iter1 [] [] scope pos) (tDc2 wi g wi1 g1 tk tv (own.map (·.2)) vs1) := by
  constructor
  intro pins s σ H Q I h
  rw [arm_eval_DictComp]
  have hfree : ∀ y ∈ scope.names, y.2 = .free → ∃ c, X.env.cells.lookup y.1 = some c := by
    intro y hy e
    rcases ok.free y hy e with k | k
    · exact I.ok.has _ (.inl k)
    · exact I.ok.has _ (.inr k)
  refine wpAny_comprehension_free (use := none) rfl hs (closure_ok hfree) ok.kind (fun y hy e => by rw [ok.uniq y hy, e]) (thn (hi.run pins s σ H _ I h) ?_)
  intro xv s1 hx
  refine thn hx ?_
  rintro itv s2 ⟨it, fp, tn, J, H2, e, I2, T, st2, f2, q⟩
  subst e
  refine wpAny_newObj_type (newEnv_comp ?_)
  generalize hD : s2.heap.objs.size = D
  have hDn : H2 D = none := I2.hok.fresh (Nat.le_of_eq hD)
  obtain ⟨W, ⟨m0, w0⟩, turn⟩ := q D hDn
  generalize hs3 : ({ s2 with heap := s2.heap.push { cls := .type "dict", data := .dict #[] } } : Shared) = s3
  have I3 : Inv X pins σ (upd H2 D (.dT [])) s3 := by
    rw [← hs3]
    refine I2.laid (t' := s2.toks) (fun b o e => Heap.get?_push_of_some _ e) (Nat.le_of_eq hD) ?_
    rw [← hD]
    exact dt_empty s2.heap I2.big
  have h3 : s3.heap = s2.heap.push { cls := .type "dict", data := .dict #[] } := by rw [← hs3]
  have f3 : ∀ b ∈ fp, FpOk X pins (upd H2 D (.dT [])) b ∧ b < s3.heap.objs.size := by
    intro b hb
    obtain ⟨o, e, _⟩ := T.obj _ _ st2 b hb
    have hlt := Heap.lt_size e
    refine ⟨⟨?_, (f2 b hb).2⟩, by rw [h3, Heap.size_push]; exact Nat.lt_succ_of_lt hlt⟩
    rw [upd_ne (by rw [← hD]; exact Nat.ne_of_lt hlt)]
    exact (f2 b hb).1
  have st3 : tn 0 s3.heap := T.keep _ _ _ st2 fun b _ o e => by rw [h3]; exact Heap.get?_push_of_some _ e
  have I4 := block_start I3 ok hN f3
  have pg := hg s3 (upd H2 D (.dT [])) s3.heap.objs.size (cellsFrom (s3.heap.objs.size + 1) scope.names (cloFrom X.env.cells scope.names [])) fp
  have pk := hk s3 (upd H2 D (.dT [])) s3.heap.objs.size (cellsFrom (s3.heap.objs.size + 1) scope.names (cloFrom X.env.cells scope.names [])) fp
  have pe := he s3 (upd H2 D (.dT [])) s3.heap.objs.size (cellsFrom (s3.heap.objs.size + 1) scope.names (cloFrom X.env.cells scope.names [])) fp
  have pi1 := hi1 s3 (upd H2 D (.dT [])) s3.heap.objs.size (cellsFrom (s3.heap.objs.size + 1) scope.names (cloFrom X.env.cells scope.names [])) fp
  have pg1 := hg1 s3 (upd H2 D (.dT [])) s3.heap.objs.size (cellsFrom (s3.heap.objs.size + 1) scope.names (cloFrom X.env.cells scope.names [])) fp
  show codeAny _ _ (.compStart (dc2E kx vx tg iter tg1 iter1 [] [] scope pos) 0 (.ref it) (.ref D) (compEnvC scope (cellsFrom (s3.heap.objs.size + 1) scope.names (cloFrom X.env.cells scope.names [])) s3.heap.objs.size X.env)) (compPost (model X.prog X.w) X.A X.xe none (EP X pins σ Q) (.ref D) s3.heap.objs.size) { s3 with heap := pushCells (s3.heap.push { cls := .type "dict", data := .dict #[] }) scope.names }
  have nfp : ∀ b ∈ fp, (upd H2 D (.dT [])) b = none := fun b hb => (f3 b hb).1.1
  generalize hce : compEnvC scope (cellsFrom (s3.heap.objs.size + 1) scope.names (cloFrom X.env.cells scope.names [])) s3.heap.objs.size X.env = ce at I4 pg pk pe pi1 pg1 ⊢
  have cL : ce.locals = s3.heap.objs.size := by subst hce; rfl
  generalize hH3 : upd H2 D (.dT []) = H3 at I3 I4 pg pk pe pi1 pg1 w0 nfp f3
  generalize hs4 : ({ s3 with heap := pushCells (s3.heap.push { cls := .type "dict", data := .dict #[] }) scope.names } : Shared) = s4 at I4 ⊢
  have st4 : tn 0 s4.heap := T.keep _ _ _ st3 fun b _ o e => by rw [← hs4]; exact pushCells_keeps _ _ _ _ (Heap.get?_push_of_some _ e)
  have stat : ∀ {σ' : L2.St} {H' : Hp} {s' : Shared}, Inv (X.blk s3 H3 scope ce fp) [] σ' H' s' → (∀ b ∈ fp, H' b = none) → ∀ b ∈ fp, FpOk (X.blk s3 H3 scope ce fp) [] H' b := by
    intro σ' H' s' I' hn b hb
    exact ⟨hn b hb, (I'.ok.exf b hb).1, I'.ok.exfs b hb, .inl hb, fun x c e => (I'.ok.exf b hb).2 x c e, fun p hp => absurd (show p ∈ ([] : List (Addr × Obj)) ++ [] from hp) (by simp)⟩
  have loop : codeAny (model X.prog X.w) X.A (.compLoop (dc2E kx vx tg iter tg1 iter1 [] [] scope pos) 0 (.ref it) (.ref D) ce) (compPost (model X.prog X.w) X.A X.xe none (EP X pins σ Q) (.ref D) s3.heap.objs.size) s4 := by
    refine loop2_out (hs1 ce) (BlkAt X s3 H3 scope ce fp [] (wipe σ (own.map (·.2))) fp tn W) ?_ m0 ⟨0, H3, I4, st4, nfp, w0⟩
    rintro n s5 ⟨i, H5, I5, st5, n5, w5⟩
    rcases turn i n H5 w5 with ⟨stop, qq⟩ | ⟨go, Nx, hNx, step⟩
    · refine thnF (T.done (X.blk s3 H3 scope ce fp) rfl rfl rfl hc i [] s5 _ H5 (fun _ _ => False) I5 (stat I5 n5) st5 stop) ?_
      rintro r s6 ⟨hr, I6⟩
      subst hr
      have I7 : Inv X pins σ H5 s6 := I3.call' (ch := fp) I6.os I6.base I6.hok I6.bare fun b hb => ⟨(f3 b hb).1.2.2.2.1, (f3 b hb).1.2.1, (f3 b hb).1.2.2.2.2.1, (f3 b hb).1.2.2.2.2.2⟩
      have nC : H5 s3.heap.objs.size = none := by
        have z : H5 ce.locals = none := I6.free
        rw [cL] at z
        exact z
      obtain ⟨m, hn, _⟩ := I6.loc
      have hn : s6.heap.Ns ce.locals m := hn
      rw [cL] at hn
      obtain ⟨c0, c1, c2, c3, c4, c5⟩ := I3.fpOk (H' := H5) (Nat.le_refl _) nC
      exact ⟨m, hn, fun h'' sb => ⟨.ref D, H5, I7.turned (t' := s6.toks) (fun b o hb e => (sb.2 b hb).trans e) c0 c1 c3 c4 c5, rfl, qq⟩⟩
    · refine thnF (T.item (X.blk s3 H3 scope ce fp) rfl rfl rfl hc i [] s5 _ H5 (fun _ _ => False) I5 (stat I5 n5) st5 go) ?_
      rintro r s6 ⟨u, hr, h6⟩
      subst hr
      refine thnF h6 ?_
      rintro _ s7 ⟨x, H7, I7, r7, y7, st7, n7⟩
      have I7' := I7.pinned (stat I7 n7) (T.obj _ _ st7)
      refine thnF (pg.run _ s7 _ H7 x u _ I7' r7 (step x H7 y7)) ?_
      rintro _ s8 ⟨σ8, H8, I8, hw8, q8⟩
      refine wpAny_tests_nil ?_
      rw [if_pos rfl]
      have fin : ∀ {σ9 : L2.St} {s' : Shared} {H' : Hp}, Inv (X.blk s3 H3 scope ce fp) ([] ++ pinsAt fp s7.heap) σ9 H' s' → (wipe σ (own.map (·.2))).length = σ9.length → (∀ (j : Nat) v, (wipe σ (own.map (·.2)))[j]? = some (some v) → σ9[j]? = some (some v)) → Nx H' →
          ∃ m, m < n ∧ BlkAt X s3 H3 scope ce fp [] (wipe σ (own.map (·.2))) fp tn W m s' := by
        intro σ9 s' H' I' hl hk nx
        obtain ⟨m', hm, w'⟩ := hNx H' nx
        have pin' : ∀ b ∈ fp, ∀ o, s7.heap.get? b = some o → s'.heap.get? b = some o ∧ H' b = none := by
          intro b hb o e
          have z := I'.pin (b, o) (List.mem_append_right _ (List.mem_append_right _ (mem_pinsAt hb e)))
          exact ⟨z.1, z.2.1⟩
        refine ⟨m', hm, i + 1, H', (I'.unpinned (pins := [])).weak hl hk, T.keep _ _ _ st7 fun b hb o e => (pin' b hb o e).1, ?_, w'⟩
        intro b hb
        obtain ⟨o, e, _⟩ := T.obj _ _ st7 b hb
        exact (pin' b hb o e).2
      have hl8 : (wipe σ (own.map (·.2))).length = σ8.length := by rw [← hw8, wipe_length]
      have hk9 : ∀ (j : Nat) v, (wipe σ (own.map (·.2)))[j]? = some (some v) → (wipe σ8 vs1)[j]? = some (some v) := by
        intro j v e
        rw [← hw8] at e
        obtain ⟨e1, e2⟩ := wipe_some e
        rw [wipe_out fun z => e2 (hv j z)]
        exact e1
      refine thnF (pi1.run _ s8 σ8 H8 _ I8 q8) ?_
      intro xv s10 hx10
      refine thnF hx10 ?_
      rintro itv s11 ⟨it1, fp1, tn1, J1, H11, e1, I11, T1, st11, f11, W1, ⟨m1, w1⟩, turn1⟩
      subst e1
      have stat1 : ∀ {H' : Hp}, (∀ b ∈ fp1, H' b = none) → ∀ b ∈ fp1, FpOk (X.blk s3 H3 scope ce fp) ([] ++ pinsAt fp s7.heap) H' b := fun hn b hb => ⟨hn b hb, (f11 b hb).2⟩
      have loop1 : codeAny (model X.prog X.w) X.A (.compLoop (dc2E kx vx tg iter tg1 iter1 [] [] scope pos) 1 (.ref it1) (.ref D) ce)
          (fun r s' => match r with
            | .ok _ => ∃ m, m < n ∧ BlkAt X s3 H3 scope ce fp [] (wipe σ (own.map (·.2))) fp tn W m s'
            | .error _ => False) s11 := by
        refine loop2_in (BlkAt X s3 H3 scope ce fp ([] ++ pinsAt fp s7.heap) (wipe σ8 vs1) fp1 tn1 W1) ?_ m1 ⟨0, H11, I11.weak (wipe_length _ _) (fun j v e => (wipe_some e).1), st11, fun b hb => (f11 b hb).1, w1⟩
        rintro k s12 ⟨j, H12, I12, st12, n12, w12⟩
        rcases turn1 j k H12 w12 with ⟨stop1, nx1⟩ | ⟨go1, Nx1, hNx1, step1⟩
        · refine thnF (T1.done (X.blk s3 H3 scope ce fp) rfl rfl rfl hc j _ s12 (wipe σ8 vs1) H12 (fun _ _ => False) I12 (stat1 n12) st12 stop1) ?_
          rintro r s13 ⟨hr, I13⟩
          subst hr
          exact fin I13 (hl8.trans (wipe_length σ8 vs1).symm) hk9 nx1
        · refine thnF (T1.item (X.blk s3 H3 scope ce fp) rfl rfl rfl hc j _ s12 (wipe σ8 vs1) H12 (fun _ _ => False) I12 (stat1 n12) st12 go1) ?_
          rintro r s13 ⟨u1, hr, h13⟩
          subst hr
          refine thnF h13 ?_
          rintro _ s14 ⟨x1, H14, I14, r14, y14, st14, n14⟩
          have I14' := I14.pinned (stat1 n14) (T1.obj _ _ st14)
          refine thnF (pg1.run _ s14 (wipe σ8 vs1) H14 x1 u1 _ I14' r14 (step1 x1 H14 y14)) ?_
          rintro _ s15 ⟨σ15, H15, I15, hw15, q15⟩
          refine wpAny_tests_nil ?_
          rw [if_pos rfl]
          refine thnF (pk.run _ s15 σ15 H15 _ I15 q15) ?_
          rintro z s16 ⟨yk, H16, I16, r16, q16⟩
          refine thnF (pe.run _ s16 σ15 H16 _ I16 q16) ?_
          rintro z2 s17 ⟨yv, H17, I17, r17, b, kvs, key, ek, hbk, hD17, hz17, nx⟩
          subst ek
          cases (show z = Value.ref b from r16)
          refine dT_set (X := X.blk s3 H3 scope ce fp) hu I17 hD17 hbk hz17 r17 ?_
          intro s18 I18
          obtain ⟨m', hm, w'⟩ := hNx1 _ nx
          have pin' : ∀ b ∈ fp1, ∀ o, s14.heap.get? b = some o → s18.heap.get? b = some o ∧ (upd H17 D (.dT (putK kvs key yv))) b = none := by
            intro b hb o e
            have z := I18.pin (b, o) (List.mem_append_right _ (List.mem_append_right _ (mem_pinsAt hb e)))
            exact ⟨z.1, z.2.1⟩
          refine ⟨m', hm, j + 1, _, I18.unpinned.weak (by rw [← hw15, wipe_length]) (fun j v e => by rw [← hw15] at e; exact (wipe_some e).1), T1.keep _ _ _ st14 fun b hb o e => (pin' b hb o e).1, ?_, w'⟩
          intro b hb
          obtain ⟨o, e, _⟩ := T1.obj _ _ st14 b hb
          exact (pin' b hb o e).2
      exact start2_in loop1 (T1.self X.A 0 _ _ _ st11 loop1)
  exact codeAny_compStart_dict loop (T.self X.A 0 _ _ _ st4 loop)
end
end K30R
set_option Elab.async false
set_option linter.all false
set_option maxRecDepth 100000
set_option maxHeartbeats 4000000
/-! The text by places, data in the heap, comprehensions that keep the heap. -/
namespace K30
open PySem PySem.Spec PyProof.Rows L2 K30R
def top (i : Nat) : Stmt := PySem.Challenge.pw_rowreaders_k30_whole_plans.main.body.getD i (.Pass ⟨0, 0, 0, 0⟩)
def inR (j : Nat) : Stmt := inClass (top 15) j
/-! ### defs -/
/-- the def of the module at the i-th statement, under its name -/
def DefAt (K : PySem.W.Frag) (mg : Str → Option Value) (x : Str) (i : Nat) : Prop := ∃ f fd, FunD K x x (defArgs (top i)) (defBody (top i)) (defScope (top i)) [] [] f fd ∧ mg x = some (.ref f)
section
variable {P : Program} {w : World} {K : PySem.W.Frag} {mg : Str → Option Value} {base : Heap}
theorem cl_of {x : Str} {i : Nat} {N ps : List Str} {k : Nat} {sp : Sp} (D : DefAt K mg x i) (S : FnScope N ps (defScope (top i)))
    (hb : ∀ (kV doc pm : Value) (an : Option Addr) (cdv ct : Value) (us : List Value), us.length = ps.length → bindArgs (PySem.W.fnOf x x (defArgs (top i)) (defBody (top i)) (defScope (top i)) .none kV doc pm an cdv ct) ⟨us, []⟩ = pure (ps.zip us))
    (len : ∀ vs H Q E, sp vs H Q E → vs.length = ps.length)
    (hbody : ∀ (f : Addr) (cdv : Value) (A : Around) (outer : List Env) (s : Shared) (H : Hp) (vs : List V) (Q : VK) (E : XK), Room k (A.deeper (envOfC x (defScope (top i)) s.heap.objs.size f cdv)) → sp vs H Q E →
      ∃ t, PSs (cxOf CX0 P w K mg base N x (defScope (top i)) f cdv A outer s H E).nox (defBody (top i)) t ∧ t { nx := fun _ H' => Q .non H', rt := Q } (start N vs) H) : Cl P w K mg base (k + 1) x ps sp := by
  obtain ⟨f, fd, F, hm⟩ := D
  refine ⟨f, fd, F.ok S len ?_, hm, F.kp, F.bindsN hb, F.fdAt⟩
  intro cdv A outer s H vs Q E hr h
  obtain ⟨t, h1, h2⟩ := hbody f cdv A outer s H vs Q E hr h
  exact ⟨t, h1.nox, h2⟩
theorem Cl.up {x : Str} {ps : List Str} {j k : Nat} {sp : Sp} (c : Cl P w K mg base j x ps sp) (h : j ≤ k) : Cl P w K mg base k x ps sp := by
  obtain ⟨f, fd, F, r⟩ := c.ex
  exact ⟨f, fd, F.mono h, r⟩
end

/-! ### texts -/
/-- the i-th sign; the text of a lot -/
def sgn (i : Nat) : Str := ⟨#[97 + i]⟩
def ltx (l : List Nat) : Str := ⟨(l.map (97 + ·)).toArray⟩
theorem ltx_cps (l : List Nat) : (ltx l).cps.toList = l.map (97 + ·) := by simp [ltx]
theorem ltx_len (l : List Nat) : (ltx l).length = l.length := by simp [ltx, Str.length]
theorem ltx_size (l : List Nat) : (ltx l).cps.size = l.length := by simp [ltx]
theorem ltx_one (i : Nat) : ltx [i] = sgn i := rfl
theorem ltx_at {l : List Nat} {j c : Nat} (h : (ltx l).cps[j]? = some c) : ∃ i, l[j]? = some i ∧ c = 97 + i := by
  have e : ((ltx l).cps.toList)[j]? = some c := by simpa using h
  rw [ltx_cps, List.getElem?_map] at e
  cases q : l[j]? with
  | none => rw [q] at e; cases e
  | some i =>
    rw [q] at e
    exact ⟨i, rfl, (Option.some.inj e).symm⟩
theorem sgn_inj {i j : Nat} (h : sgn i = sgn j) : i = j := by
  have e : (sgn i).cps.toList = (sgn j).cps.toList := by rw [h]
  have e2 : [97 + i] = [97 + j] := e
  have e3 : 97 + i = 97 + j := by simpa using e2
  omega
theorem ltx_inj {a b : List Nat} (h : ltx a = ltx b) : a = b := by
  have e : (ltx a).cps.toList = (ltx b).cps.toList := by rw [h]
  rw [ltx_cps, ltx_cps] at e
  have inj : ∀ {a b : List Nat}, a.map (97 + ·) = b.map (97 + ·) → a = b := by
    intro a
    induction a with
    | nil => intro b h; cases b with
      | nil => rfl
      | cons y b => cases h
    | cons x a ih => intro b h; cases b with
      | nil => cases h
      | cons y b =>
        obtain ⟨h1, h2⟩ := List.cons.inj h
        have h1 : 97 + x = 97 + y := h1
        rw [ih h2, show x = y by omega]
  exact inj e
theorem signs_ltx (l : List Nat) : signsV (ltx l) = l.map fun i => V.str (sgn i) := by
  unfold signsV
  rw [ltx_cps, List.map_map]
  rfl
def abc : List Nat := [0, 1, 2, 3, 4, 5, 6, 7]
theorem abc_txt : ("abcdefgh" : Str) = ltx abc := by decide +kernel
theorem abc_index {i : Nat} (h : i < 8) : ∃ rest, Builtin.Str.occurrences ("abcdefgh" : Str) (sgn i) 0 ("abcdefgh" : Str).length 1 = i :: rest := by
  have key : ∀ i ∈ abc, Builtin.Str.occurrences ("abcdefgh" : Str) (sgn i) 0 ("abcdefgh" : Str).length 1 = [i] := by decide +kernel
  refine ⟨[], key i ?_⟩
  have : i = 0 ∨ i = 1 ∨ i = 2 ∨ i = 3 ∨ i = 4 ∨ i = 5 ∨ i = 6 ∨ i = 7 := by omega
  simp only [abc, List.mem_cons, List.not_mem_nil, or_false]
  exact this

/-! ### heaps -/
theorem same_upd {H H' : Hp} {p : Addr} {o : HO} (h : Same H H') (hp : H p = none) : Same H (upd H' p o) := by
  intro b u e
  rw [upd_ne (ne_of_none e hp)]
  exact h b u e
theorem same_new {H : Hp} {p : Addr} {o : HO} (hp : H p = none) : Same H (upd H p o) := same_upd (Same.refl H) hp
theorem _root_.L2.Same.tupS {K : PySem.W.Frag} {H H' : Hp} {a : Addr} {xs : List V} (e : Same H H') (h : SqT K H a xs) : SqT K H' a xs := by
  rcases h with (h | ⟨o, h⟩) | h
  · exact .inl (.inl (e _ _ h))
  · exact .inl (.inr ⟨o, e _ _ h⟩)
  · exact .inr h
theorem small {n : Nat} (h : n ≤ 1000) : n ≤ sizeLine := Nat.le_of_lt (small1000 h)
/-- a stand or None; an int -/
def oV : Option Nat → V
  | none => .non
  | some k => .int (k : Int)
def nV (k : Nat) : V := .int (k : Int)

/-! ### comprehensions -/
section
variable {J : It} {n : Nat} {G : Hp → Prop} {Y : Nat → Hp → V → Hp → Prop}
/-- what a comprehension's reading asks, the outer part -/
def LcGo (J : It) (g : TG) (tt : TT) (te : TE) (vs : List Nat) (σ : L2.St) (H1 : Hp) (D : Addr) (Qd : Hp → Prop) : Prop := ∃ W : Nat → Nat → Hp → Prop, (∃ m, W 0 m (upd H1 D (.lst []))) ∧ ∀ i m H, W i m H →
      (J.stop i H ∧ Qd H) ∨ (J.go i H ∧ ∃ Nx : Hp → Prop, (∀ H', Nx H' → ∃ m', m' < m ∧ W (i + 1) m' H') ∧ ∀ x H', J.yld i H x H' → g x (wipe σ vs) H' fun σ2 H2 => wipe σ2 vs = wipe σ vs ∧ tt σ2 H2 fun b H3 =>
        if b = true then te σ2 H3 fun y H4 => ∃ acc, H4 D = some (.lst acc) ∧ acc.length < sizeLine ∧ Nx (upd H4 D (.lst (acc ++ [y]))) else Nx H3)
def outsTo (outs : Nat → Option V) (i : Nat) : List V := (List.range i).filterMap outs
theorem outsTo_succ (outs : Nat → Option V) (i : Nat) : outsTo outs (i + 1) = outsTo outs i ++ (match outs i with | some y => [y] | none => []) := by
  unfold outsTo
  rw [List.range_succ, List.filterMap_append]
  cases h : outs i <;> simp [h]
theorem outsTo_le (outs : Nat → Option V) (i : Nat) : (outsTo outs i).length ≤ i := by
  unfold outsTo
  have := List.length_filterMap_le outs (List.range i)
  rw [List.length_range] at this
  exact this
/-- all objects are kept; the i-th turn gives outs i (none: left out) -/
theorem lc_gen (w : Walk J n G Y) (outs : Nat → Option V) (hn : n ≤ 1000) {g : TG} {tt : TT} {te : TE} {vs : List Nat} {σ : L2.St} {H1 : Hp} {D : Addr} {Qd : Hp → Prop} (hD : H1 D = none) (hG : ∀ H, Same H1 H → G H)
    (hs : ∀ i x H H' (R : VK) (R0 : Hp → Prop), i < n → Same H1 H → Y i H x H' → (∀ y, outs i = some y → ∀ H4, Same H H4 → R y H4) → (outs i = none → ∀ H4, Same H H4 → R0 H4) →
      g x (wipe σ vs) H' fun σ2 H2 => wipe σ2 vs = wipe σ vs ∧ tt σ2 H2 fun b H3 => if b = true then te σ2 H3 R else R0 H3)
    (hd : ∀ H, Same H1 H → H D = some (.lst (outsTo outs n)) → Qd H) : LcGo J g tt te vs σ H1 D Qd := by
  refine lc_it w (fun i H => Same H1 H ∧ H D = some (.lst (outsTo outs i))) ⟨same_new hD, upd_same⟩ (fun i H _ p => hG H p.1) ?_ (fun H p => hd H p.1 p.2)
  rintro i x H H' hi ⟨hS, hL⟩ hY
  refine hs i x H H' _ _ hi hS hY ?_ ?_
  · intro y e H4 h4
    have l := outsTo_le outs i
    refine ⟨_, h4 _ _ hL, small1000 (by omega), ?_, ?_⟩
    · exact same_upd (hS.trans h4) hD
    · rw [upd_same, outsTo_succ, e]
  · intro e H4 h4
    refine ⟨hS.trans h4, ?_⟩
    rw [outsTo_succ, e, List.append_nil]
    exact h4 _ _ hL
/-- the tuples are kept -/
def TS (H H' : Hp) : Prop := ∀ b xs, H b = some (.tup xs) → H' b = some (.tup xs)
theorem _root_.L2.Same.ts {H H' : Hp} (h : Same H H') : TS H H' := fun b xs e => h b _ e
theorem TS.trans {H H1 H2 : Hp} (a : TS H H1) (b : TS H1 H2) : TS H H2 := fun c o h => b c o (a c o h)
/-- all but c is kept -/
def Ke (c : Addr) (H H' : Hp) : Prop := ∀ b o, b ≠ c → H b = some o → H' b = some o
theorem Ke.refl {c : Addr} (H : Hp) : Ke c H H := fun _ _ _ h => h
theorem Ke.trans {c : Addr} {H H1 H2 : Hp} (a : Ke c H H1) (b : Ke c H1 H2) : Ke c H H2 := fun d o n h => b d o n (a d o n h)
theorem _root_.L2.Same.ke {c : Addr} {H H' : Hp} (h : Same H H') : Ke c H H' := fun b o _ e => h b o e
theorem ke_upd {c : Addr} {H H' : Hp} {p : Addr} {o : HO} (h : Ke c H H') (hp : H p = none ∨ p = c) : Ke c H (upd H' p o) := by
  intro b u n e
  have nb : b ≠ p := by
    rcases hp with q | q
    · exact ne_of_none e q
    · rw [q]; exact n
  rw [upd_ne nb]
  exact h b u n e
/-- all but c is kept, Cs holds of the heap; the items are told by Acc, which leans on tuples alone -/
theorem lc_acc (w : Walk J n G Y) (c : Addr) (Cs : Hp → Prop) (Acc : Nat → List V → Hp → Prop) (hn : n ≤ 1000) {g : TG} {tt : TT} {te : TE} {vs : List Nat} {σ : L2.St} {H1 : Hp} {D : Addr} {Qd : Hp → Prop} (hD : H1 D = none) (hDc : D ≠ c) (hC0 : Cs H1)
    (hCm : ∀ H H', Cs H → (∀ o, H c = some o → H' c = some o) → Cs H') (hm : ∀ i acc H H', TS H H' → Acc i acc H → Acc i acc H') (h0 : Acc 0 [] H1) (hlen : ∀ i acc H, Acc i acc H → acc.length ≤ i) (hG : ∀ H, Ke c H1 H → G H)
    (hs : ∀ i x H H' acc (R : VK) (R0 : Hp → Prop), i < n → Ke c H1 H → Cs H → Acc i acc H → Y i H x H' → (∀ y H4, Ke c H H4 → Cs H4 → TS H H4 → Acc (i + 1) (acc ++ [y]) H4 → R y H4) → (∀ H4, Ke c H H4 → Cs H4 → TS H H4 → Acc (i + 1) acc H4 → R0 H4) →
      g x (wipe σ vs) H' fun σ2 H2 => wipe σ2 vs = wipe σ vs ∧ tt σ2 H2 fun b H3 => if b = true then te σ2 H3 R else R0 H3)
    (hd : ∀ H acc, Ke c H1 H → Cs H → H D = some (.lst acc) → Acc n acc H → Qd H) : LcGo J g tt te vs σ H1 D Qd := by
  have ts : ∀ {H : Hp} {xs ys : List V}, H D = some (.lst xs) → TS H (upd H D (.lst ys)) := by
    intro H xs ys h b zs e
    rw [upd_ne (ne_of e h (fun z => nomatch z))]
    exact e
  have t0 : TS H1 (upd H1 D (.lst [])) := by
    intro b zs e
    rw [upd_ne (ne_of_none e hD)]
    exact e
  refine lc_it w (fun i H => Ke c H1 H ∧ Cs H ∧ ∃ acc, H D = some (.lst acc) ∧ Acc i acc H)
    ⟨ke_upd (Ke.refl _) (.inl hD), hCm _ _ hC0 (fun o e => by rw [upd_ne hDc.symm]; exact e), [], upd_same, hm _ _ _ _ t0 h0⟩ (fun i H _ p => hG H p.1) ?_ ?_
  · rintro i x H H' hi ⟨hK, hC, acc, hL, hA⟩ hY
    refine hs i x H H' acc _ _ hi hK hC hA hY ?_ ?_
    · intro y H4 h4 c4 t4 a4
      have l := hlen i acc H hA
      have e4 : H4 D = some (.lst acc) := h4 D _ hDc hL
      refine ⟨acc, e4, small1000 (by omega), ?_, ?_, acc ++ [y], upd_same, hm _ _ _ _ (ts e4) a4⟩
      · exact ke_upd (hK.trans h4) (.inl hD)
      · exact hCm _ _ c4 (fun o e => by rw [upd_ne hDc.symm]; exact e)
    · intro H4 h4 c4 t4 a4
      exact ⟨hK.trans h4, c4, acc, h4 D _ hDc hL, a4⟩
  · rintro H ⟨hK, hC, acc, hL, hA⟩
    exact hd H acc hK hC hL hA
end
end K30
set_option Elab.async false
set_option linter.all false
set_option maxRecDepth 100000
set_option maxHeartbeats 4000000
/-! The module's facts, properties, the reader in the heap. -/
namespace K30
open PySem PySem.Spec PyProof.Rows L2 K30R
/-- a property of the class at C -/
structure Pr (P : Program) (w : World) (K : PySem.W.Frag) (mg : Str → Option Value) (base : Heap) (k : Nat) (C : Addr) (f : Str) (sp : Sp) : Prop where
  ex : ∃ (p g : Addr) (fd : FuncData), PropOf K C f p g ∧ FnOk P w K mg base CX0 k g fd ["self"] sp ∧ Binds K fd ["self"] []
theorem pe_pr {X : Cx} {k j : Nat} {C : Addr} {f : Str} {sp : Sp} {e : Expr} {pos : Pos} {ta : TE} (c : Cls X.K C) (M : Pr X.prog X.w X.K X.mg X.base k C f sp) (hr : Room j X.A) (hk : k + 1 ≤ j) (he : PE X e ta)
    (hab : attributeBase e f X.env (eval e X.env) = eval e X.env := by rfl) : PE X (.Attribute e f pos) (tProp C sp [] E0 ta) := by
  obtain ⟨p, g, fd, hp, F, hb⟩ := M.ex
  exact pe_prop he c hp F (hr.mono hk) hb .nil pass0 hab
/-- what the walks lean on of the module -/
structure Tx (K : PySem.W.Frag) (mg : Str → Option Value) (C : Addr) : Prop where
  nlen : mg "len" = none
  nisinstance : mg "isinstance" = none
  nrange : mg "range" = none
  nall : mg "all" = none
  nany : mg "any" = none
  nsorted : mg "sorted" = none
  nset : mg "set" = none
  nlist : mg "list" = none
  ntuple : mg "tuple" = none
  nenumerate : mg "enumerate" = none
  nzip : mg "zip" = none
  nmin : mg "min" = none
  nmax : mg "max" = none
  nabs : mg "abs" = none
  nint : mg "int" = none
  nbool : mg "bool" = none
  nstr : mg "str" = none
  cALPHABET : ∃ u, mg "ALPHABET" = some u ∧ RelV (.str "abcdefgh") u
  cMOST_SIGNS : ∃ u, mg "MOST_SIGNS" = some u ∧ RelV (.int 8) u
  cMOST_STANDS : ∃ u, mg "MOST_STANDS" = some u ∧ RelV (.int 200) u
  mReader : mg "Reader" = some (.ref C)
  cl : Cls K C
  nparts : NoAttr K C "parts"
  insC : C8.InsC K C

/-! ### data -/
abbrev Row := List (Option Nat)
/-- a reader's data -/
structure Dat where
  many : Nat
  rows : List Row
  ends : List Nat
structure Dat.Ok (d : Dat) : Prop where
  m1 : 1 ≤ d.many
  m3 : d.many ≤ 3
  n1 : 1 ≤ d.rows.length
  n3 : d.rows.length ≤ 3
  rl : ∀ r ∈ d.rows, r.length = d.many
  gl : ∀ r ∈ d.rows, ∀ o ∈ r, ∀ k, o = some k → k < d.rows.length
  es : d.ends.Pairwise (· < ·)
  el : ∀ e ∈ d.ends, e < d.rows.length
abbrev Dat.n (d : Dat) : Nat := d.rows.length
/-- where a sign leads from a stand -/
def Dat.arr (d : Dat) (s i : Nat) : Option Nat := ((d.rows[s]?).bind (·[i]?)).getD none
theorem Dat.arr_eq {d : Dat} {s i : Nat} {r : Row} {o : Option Nat} (h : d.rows[s]? = some r) (h2 : r[i]? = some o) : d.arr s i = o := by
  unfold Dat.arr
  rw [h]
  show (r[i]?).getD none = o
  rw [h2]
  rfl
theorem Dat.Ok.at_ {d : Dat} (k : d.Ok) {s i : Nat} (hs : s < d.n) (hi : i < d.many) : ∃ r, d.rows[s]? = some r ∧ r[i]? = some (d.arr s i) := by
  have e : d.rows[s]? = some d.rows[s] := List.getElem?_eq_getElem hs
  have hl := k.rl _ (List.getElem_mem hs)
  have e2 : d.rows[s][i]? = some (d.rows[s][i]'(by omega)) := List.getElem?_eq_getElem (by omega)
  exact ⟨_, e, by rw [e2, d.arr_eq e e2]⟩
theorem Dat.Ok.arr_lt {d : Dat} (k : d.Ok) {s i t : Nat} (h : d.arr s i = some t) : t < d.n := by
  unfold Dat.arr at h
  cases e : d.rows[s]? with
  | none => rw [e] at h; cases h
  | some r =>
    rw [e] at h
    have h : (r[i]?).getD none = some t := h
    cases e2 : r[i]? with
    | none => rw [e2] at h; cases h
    | some o =>
      rw [e2] at h
      exact k.gl r (List.mem_of_getElem? e) o (List.mem_of_getElem? e2) t h
/-- the arrows, the ends at an address -/
def ArrAt (rows : List Row) (H : Hp) (a : Addr) : Prop := ∃ ps : List Addr, H a = some (.tup (ps.map V.ref)) ∧ ps.length = rows.length ∧ ∀ (i : Nat) p r, ps[i]? = some p → rows[i]? = some r → H p = some (.tup (r.map oV))
def EndAt (ends : List Nat) (H : Hp) (a : Addr) : Prop := H a = some (.tup (ends.map nV))
def TrioAt (d : Dat) (H : Hp) (t : Addr) : Prop := ∃ ra ea, H t = some (.tup [nV d.many, .ref ra, .ref ea]) ∧ ArrAt d.rows H ra ∧ EndAt d.ends H ea
def RdAt (C : Addr) (d : Dat) (H : Hp) (x : Addr) : Prop := ∃ dx fs t, H x = some (.ins C dx fs) ∧ fs.lookup ("parts" : Str) = some (.ref t) ∧ TrioAt d H t
theorem ArrAt.ts {rows : List Row} {H H' : Hp} {a : Addr} (h : ArrAt rows H a) (s : TS H H') : ArrAt rows H' a := by
  obtain ⟨ps, h1, h2, h3⟩ := h
  exact ⟨ps, s _ _ h1, h2, fun i p r e1 e2 => s _ _ (h3 i p r e1 e2)⟩
theorem TrioAt.ts {d : Dat} {H H' : Hp} {t : Addr} (h : TrioAt d H t) (s : TS H H') : TrioAt d H' t := by
  obtain ⟨ra, ea, h1, h2, h3⟩ := h
  exact ⟨ra, ea, s _ _ h1, h2.ts s, s _ _ h3⟩
theorem RdAt.same {C : Addr} {d : Dat} {H H' : Hp} {x : Addr} (h : RdAt C d H x) (s : Same H H') : RdAt C d H' x := by
  obtain ⟨dx, fs, t, h1, h2, h3⟩ := h
  exact ⟨dx, fs, t, s _ _ h1, h2, h3.ts s.ts⟩
/-- a lot of signs -/
structure Lot (many : Nat) (l : List Nat) : Prop where
  ne : l ≠ []
  up : l.Pairwise (· < ·)
  lt : ∀ i ∈ l, i < many
theorem Lot.len {m : Nat} {l : List Nat} (h : Lot m l) : l.length ≤ m := by
  have key : ∀ (l : List Nat) (lo : Nat), l.Pairwise (· < ·) → (∀ i ∈ l, lo ≤ i ∧ i < m) → l.length ≤ m - lo := by
    intro l
    induction l with
    | nil => intro lo _ _; exact Nat.zero_le _
    | cons x r ih =>
      intro lo hp hi
      obtain ⟨h1, h2⟩ := List.pairwise_cons.mp hp
      have hx := hi x (List.mem_cons_self ..)
      have := ih (x + 1) h2 (fun i hm => ⟨h1 i hm, (hi i (List.mem_cons_of_mem _ hm)).2⟩)
      rw [List.length_cons]
      omega
  exact key l 0 h.up (fun i hi => ⟨Nat.zero_le _, h.lt i hi⟩)
end K30
set_option Elab.async false
set_option linter.all false
set_option maxRecDepth 100000
set_option maxHeartbeats 4000000
/-! The rules that lean on X.K, with K said ahead (a comprehension's element needs it so). -/
namespace K30
open PySem PySem.Spec PyProof.Rows L2 K30R
section
variable {X : Cx} (K : PySem.W.Frag)
theorem zL (hK : X.K = K := by rfl) : IxR X (rIxL K) := by subst hK; exact ix_list
theorem zT (hK : X.K = K := by rfl) : IxR X (rIxT K) := by subst hK; exact ix_tup
theorem zSlL (hK : X.K = K := by rfl) : SlR X (rSlL K) := by subst hK; exact sl_list
theorem zIn (hK : X.K = K := by rfl) : OpR X (compareOp .In) (rIn K false) := by subst hK; exact op_in_seq
theorem zNin (hK : X.K = K := by rfl) : OpR X (compareOp .NotIn) (rIn K true) := by subst hK; exact op_notIn_seq
variable {A : Around} {k : Nat}
theorem zEqD (hr : Room k X.A) (hK : X.K = K := by rfl) : OpR X (compareOp .Eq) (rEqD K) := by subst hK; exact op_eqD (Nat.lt_of_le_of_lt (by omega) hr.un)
theorem zNeD (hr : Room k X.A) (hK : X.K = K := by rfl) : OpR X (compareOp .NotEq) (rNeD K) := by subst hK; exact op_neD (Nat.lt_of_le_of_lt (by omega) hr.un)
theorem zInD (hr : Room k X.A) (hK : X.K = K := by rfl) : OpR X (compareOp .In) (rInD K) := by subst hK; exact op_inD (Nat.lt_of_le_of_lt (by omega) hr.un)
theorem zNinD (hr : Room k X.A) (hK : X.K = K := by rfl) : OpR X (compareOp .NotIn) (rNotInD K) := by subst hK; exact op_notInD (Nat.lt_of_le_of_lt (by omega) hr.un)
theorem zIsi (hK : X.K = K := by rfl) : CallR X (.builtin "isinstance") (rIsi K) := by subst hK; exact call_isi
def rLenS (K : PySem.W.Frag) : List V → Hp → VK → Prop := fun xs H Q => ∃ p ys, xs = [.ref p] ∧ (SqL K H p ys ∨ SqT K H p ys) ∧ Q (.int ys.length) H
theorem zLen (hK : X.K = K := by rfl) : CallR X (.builtin "len") (rLenS K) := by subst hK; exact call_len_seq
def rListOf (K : PySem.W.Frag) : List V → Hp → VK → Prop := fun xs H Q => ∃ p ys, xs = [.ref p] ∧ (SqL K H p ys ∨ SqT K H p ys) ∧ ∀ l, H l = none → Q (.ref l) (upd H l (.lst ys))
theorem zListOf (hK : X.K = K := by rfl) : CallR X (.type "list") (rListOf K) := by subst hK; exact call_list_of
def rTupOf (K : PySem.W.Frag) : List V → Hp → VK → Prop := fun xs H Q => ∃ p ys, xs = [.ref p] ∧ ((SqL K H p ys ∧ ∀ l, H l = none → Q (.ref l) (upd H l (.tup ys))) ∨ (SqT K H p ys ∧ Q (.ref p) H))
theorem zTupOf (hK : X.K = K := by rfl) : CallR X (.type "tuple") (rTupOf K) := by subst hK; exact call_tuple_of
theorem zAll (hc : X.calm = true) (hK : X.K = K := by rfl) : CallR X (.builtin "all") (rAll K) := by subst hK; exact cr_all hc
theorem zAny (hc : X.calm = true) (hK : X.K = K := by rfl) : CallR X (.builtin "any") (rAny K) := by subst hK; exact cr_any hc
theorem zMax (hc : X.calm = true) (hK : X.K = K := by rfl) : CallR X (.builtin "max") (rMax K) := by subst hK; exact cr_max hc
theorem zMinP (hc : X.calm = true) (hr : Room k X.A) (hK : X.K = K := by rfl) : CallR X (.builtin "min") (fun vs H Q => ∃ (a : Addr) (ts : List Addr) (ps : List (Int × Int)), vs = [.ref a] ∧ SqL K H a (ts.map V.ref) ∧ Paired (PrAt H) ts ps ∧ ps ≠ [] ∧
    ∀ t p, t ∈ ts → p ∈ ps → PrAt H t p → (∀ q ∈ ps, prLt q p = false) → Q (.ref t) H) := by subst hK; exact cr_minP hc (Nat.lt_of_le_of_lt (by omega) hr.un)
variable {tg e e2 o : Expr} {te to : TE} {ta : TA}
theorem wL (h : PE X e te) (hK : X.K = K := by rfl) : PI X tg e (iList K te) := by subst hK; exact pi_list h
theorem wT (h : PE X e te) (hK : X.K = K := by rfl) : PI X tg e (iTup K te) := by subst hK; exact pi_tup h
theorem wEnum {p pos tpos : Pos} {elts : List Expr} {kk : Nat} (hm : X.mg "enumerate" = none) (ha : PA X [e] ta) (hg : Gl X "enumerate" := by rfl) (hs : starEach [e] X.env = [(false, eval e X.env)] := by rfl) (hK : X.K = K := by rfl) :
    PI X (.Tuple elts kk tpos) (.Call (.Name "enumerate" p) [e] [] pos) (iEnum K ta) := by subst hK; exact pi_enum hg hm ha hs
theorem wZip {p pos tpos : Pos} {elts : List Expr} {kk : Nat} (hm : X.mg "zip" = none) (ha : PA X [e, e2] ta) (hg : Gl X "zip" := by rfl)
    (hs : starEach [e, e2] X.env = (false, eval e X.env) :: starEach [e2] X.env := by rfl) (hpl : (backTo pos (starEach [e2] X.env)).any (·.1) = false := by rfl) (hK : X.K = K := by rfl) :
    PI X (.Tuple elts kk tpos) (.Call (.Name "zip" p) [e, e2] [] pos) (iZipS K ta) := by subst hK; exact pi_zipS hg hm ha hs hpl
theorem gT {es : List Expr} {kk : Nat} {t : TGs} {n : Nat} {pos : Pos} (hc : X.calm = true) (h : PGs X es t)
    (hn : (assignEach es X.env).length = n := by rfl) (hst : (assignEach es X.env).findIdx? (·.1) = none := by rfl) (hK : X.K = K := by rfl) : PG X (.Tuple es kk pos) (gTup K n t) := by subst hK; exact pg_tup hc h hn hst
theorem zIndex {es : List Expr} {t : TA} {apos cpos : Pos} (ho : PE X o to) (ha : PA X (e :: es) t)
    (hbase : attributeBase o "index" X.env (eval o X.env) = eval o X.env := by rfl)
    (hfew : ((backTo cpos (starEach (e :: es) X.env)).all (fun x => !x.1) && (backToKw cpos (keywordEach [] X.env)).all (fun x => x.1.isSome)
      && decide ((e :: es).length + ([] : List Keyword).length + (if ([] : List Keyword).isEmpty then 0 else 1) < 30)) = true := by rfl)
    (hline : (apos.endLine == cpos.line) = true := by rfl) (hs : starEach (e :: es) X.env = (false, eval e X.env) :: starEach es X.env := by rfl) (hplain : (backTo cpos (starEach es X.env)).any (·.1) = false := by rfl) (hK : X.K = K := by rfl) :
    PE X (.Call (.Attribute o "index" apos) (e :: es) [] cpos) (tBM K "str" (fun x xs H Q => ∃ a b i rest, x = .str a ∧ xs = [.str b] ∧ Builtin.Str.occurrences a b 0 a.length 1 = i :: rest ∧ Q (.int (i : Nat)) H) to t) := by
  subst hK; exact pe_bm PySem.F.plainAttrs_str PySem.F.slot_str_index PySem.F.type_str_index mt_sindex ho ha hbase hfew hline hs hplain
theorem zApp {es : List Expr} {t : TA} {apos cpos : Pos} (ho : PE X o to) (ha : PA X (e :: es) t)
    (hbase : attributeBase o "append" X.env (eval o X.env) = eval o X.env := by rfl)
    (hfew : ((backTo cpos (starEach (e :: es) X.env)).all (fun x => !x.1) && (backToKw cpos (keywordEach [] X.env)).all (fun x => x.1.isSome)
      && decide ((e :: es).length + ([] : List Keyword).length + (if ([] : List Keyword).isEmpty then 0 else 1) < 30)) = true := by rfl)
    (hline : (apos.endLine == cpos.line) = true := by rfl) (hs : starEach (e :: es) X.env = (false, eval e X.env) :: starEach es X.env := by rfl) (hplain : (backTo cpos (starEach es X.env)).any (·.1) = false := by rfl) (hK : X.K = K := by rfl) :
    PE X (.Call (.Attribute o "append" apos) (e :: es) [] cpos) (tBM K "list" rAppend to t) := by
  subst hK; exact pe_bm PySem.F.plainAttrs_list PySem.F.slot_list_append PySem.F.type_list_append mt_append ho ha hbase hfew hline hs hplain
theorem zFld {f : Str} {pos : Pos} (he : PE X e te) (hb : attributeBase e f X.env (eval e X.env) = eval e X.env := by rfl) (hK : X.K = K := by rfl) : PE X (.Attribute e f pos) (tFld K te f) := by subst hK; exact pe_fld he hb
end
theorem hu1 {A : Around} {k : Nat} (hr : Room k A) : A.units + 1 < cLine := hu_of hr
end K30
set_option Elab.async false
set_option linter.all false
set_option maxRecDepth 100000
set_option maxHeartbeats 4000000
namespace K30
open PySem PySem.Spec PyProof.Rows L2 K30R
theorem outs_all {α : Type} (g : α → Option V) : ∀ l : List α, outsTo (fun i => (l[i]?).bind g) l.length = l.filterMap g
  | [] => rfl
  | x :: r => by
    have ih := outs_all g r
    unfold outsTo at ih ⊢
    rw [List.length_cons, List.range_succ_eq_map, List.filterMap_cons, List.filterMap_map]
    have e : ((fun i => ((x :: r)[i]?).bind g) ∘ Nat.succ) = fun i => (r[i]?).bind g := by
      funext i
      simp
    rw [e, ih]
    have e0 : ((x :: r)[0]?).bind g = g x := rfl
    rw [e0, List.filterMap_cons]
theorem outs_map {α : Type} (f : α → V) (l : List α) : outsTo (fun i : Nat => (l[i]?).map f) l.length = l.map f := by
  have e : (fun i : Nat => (l[i]?).map f) = fun i : Nat => (l[i]?).bind fun x => some (f x) := by
    funext i
    cases l[i]? <;> rfl
  rw [e, outs_all]
  exact List.filterMap_eq_map ▸ rfl
theorem outs_range (f : Nat → V) (n : Nat) : outsTo (fun i => some (f i)) n = (List.range n).map f := by
  unfold outsTo
  exact List.filterMap_eq_map ▸ rfl
theorem outs_rangeF (p : Nat → Bool) (f : Nat → V) (n : Nat) : outsTo (fun i => if p i = true then some (f i) else none) n = ((List.range n).filter p).map f := by
  unfold outsTo
  induction (List.range n) with
  | nil => rfl
  | cons x r ih =>
    rw [List.filterMap_cons, ih, List.filter_cons]
    cases h : p x <;> simp
theorem n0 : 0 ≤ sizeLine := Nat.zero_le _
theorem n1 : 1 ≤ sizeLine := small (by decide)
theorem n2 : 2 ≤ sizeLine := small (by decide)
theorem n3 : 3 ≤ sizeLine := small (by decide)
/-- a text's items -/
theorem ltx_it {l : List Nat} {i : Nat} {x : V} (h : ∃ c, (ltx l).cps[i]? = some c ∧ x = .str ⟨#[c]⟩) : ∃ k, l[i]? = some k ∧ k ∈ l ∧ x = .str (sgn k) := by
  obtain ⟨c, h1, rfl⟩ := h
  obtain ⟨k, h2, rfl⟩ := ltx_at h1
  exact ⟨k, h2, List.mem_of_getElem? h2, rfl⟩
end K30
set_option Elab.async false
set_option linter.all false
set_option maxRecDepth 100000
set_option maxHeartbeats 4000000
namespace K30
open PySem PySem.Spec PyProof.Rows L2 K30R
theorem walk_rg {n : Nat} : Walk (Itr 0 n) n (fun _ => True) (fun i H x H' => H' = H ∧ x = nV i) :=
  walk_range.mono (fun _ h => h) (fun i H x H' _ _ y => ⟨y.1, by rw [y.2]; show V.int (0 + (i : Int)) = V.int (i : Int); rw [Int.zero_add]⟩)
theorem abc_cut {n : Nat} (h : n ≤ 8) : cutS ("abcdefgh" : Str) none (some (n : Int)) = ltx (List.range n) := by
  have key : ∀ i ∈ 8 :: abc, cutS ("abcdefgh" : Str) none (some (i : Int)) = ltx (List.range i) := by decide +kernel
  refine key n ?_
  have : n = 0 ∨ n = 1 ∨ n = 2 ∨ n = 3 ∨ n = 4 ∨ n = 5 ∨ n = 6 ∨ n = 7 ∨ n = 8 := by omega
  simp only [abc, List.mem_cons, List.not_mem_nil, or_false]
  omega
theorem ltx_mem {l : List Nat} {k : Nat} : (97 + k ∈ (ltx l).cps.toList) ↔ k ∈ l := by
  rw [ltx_cps, List.mem_map]
  constructor
  · rintro ⟨i, h1, h2⟩
    have : i = k := by omega
    rw [← this]; exact h1
  · intro h
    exact ⟨k, h, rfl⟩
theorem ltx_sing (l : List Nat) : (ltx l).cps.toList.map PySem.Froz.sing = l.map sgn := by
  rw [ltx_cps, List.map_map]
  rfl
/-! ### data of depth -/
theorem dpall {α : Type} {K : PySem.W.Frag} {H : Hp} {f : α → V} {g : α → PyData} : ∀ {l : List α}, (∀ x ∈ l, Dp K H (f x) (g x)) → DpAll K H (l.map f) (l.map g)
  | [], _ => .nil
  | x :: r, h => .cons (h x (List.mem_cons_self ..)) (dpall fun y hy => h y (List.mem_cons_of_mem _ hy))
theorem layall {α : Type} {g : α → PyData} : ∀ {l : List α}, (∀ x ∈ l, (g x).canLay0 = true) → PyData.canLayAll0 (l.map g) = true
  | [], _ => by simp [PyData.canLayAll0]
  | x :: r, h => by
    rw [List.map_cons, PyData.canLayAll0, h x (List.mem_cons_self ..), layall fun y hy => h y (List.mem_cons_of_mem _ hy)]
    rfl
theorem depall {α : Type} {g : α → PyData} {k : Nat} : ∀ {l : List α}, (∀ x ∈ l, (g x).depth ≤ k) → PyData.depthAll (l.map g) ≤ k
  | [], _ => by simp [PyData.depthAll]
  | x :: r, h => by
    rw [List.map_cons, PyData.depthAll]
    have := h x (List.mem_cons_self ..)
    have := depall (g := g) (k := k) (l := r) fun y hy => h y (List.mem_cons_of_mem _ hy)
    omega
theorem shp_list {ds : List PyData} (h : PyData.canLayAll0 ds = true) (h2 : PyData.depthAll ds ≤ 60) : SeqAt.shaped (.list ds) = true := by
  unfold SeqAt.shaped
  rw [PyData.canLay0, h, PyData.depth]
  simp
  omega
theorem shp_tup {ds : List PyData} (h : PyData.canLayAll0 ds = true) (h2 : PyData.depthAll ds ≤ 60) : SeqAt.shaped (.tuple ds) = true := by
  unfold SeqAt.shaped
  rw [PyData.canLay0, h, PyData.depth]
  simp
  omega
theorem lay_sgn {i : Nat} (h : i < 8) : (PyData.str (sgn i)).canLay0 = true := by
  rw [PyData.canLay0]
  have key : ∀ i ∈ abc, PyData.strOk (sgn i) = true := by decide +kernel
  refine key i ?_
  have : i = 0 ∨ i = 1 ∨ i = 2 ∨ i = 3 ∨ i = 4 ∨ i = 5 ∨ i = 6 ∨ i = 7 := by omega
  simp only [abc, List.mem_cons, List.not_mem_nil, or_false]
  exact this
/-- None or a number -/
def oD : Option Nat → PyData
  | none => .none
  | some k => .int (k : Int)
theorem dp_o {K : PySem.W.Frag} {H : Hp} (o : Option Nat) : Dp K H (oV o) (oD o) := by
  cases o with
  | none => exact .non
  | some k => exact .int _
theorem lay_o (o : Option Nat) : (oD o).canLay0 = true := by
  cases o <;> simp [oD, PyData.canLay0]
theorem dep_o (o : Option Nat) : (oD o).depth = 0 := by
  cases o <;> simp [oD, PyData.depth]
theorem eqv_o (a b : Option Nat) : PyData.eqv (oD a) (oD b) = decide (a = b) := by
  cases a <;> cases b <;> simp [oD, PyData.eqv]
  exact Bool.eq_iff_iff.mpr (by simp [Int.ofNat_inj])
theorem eqv_nil (ds : List PyData) : PyData.eqv (.list ds) (.list []) = ds.isEmpty := by
  cases ds <;> simp [PyData.eqv, PyData.eqvAll]
/-! ### sorted texts of one sign -/
def usgn (s : Str) : Nat := s.cps.toList.headD 0 - 97
theorem usgn_sgn (i : Nat) : usgn (sgn i) = i := by
  show 97 + i - 97 = i
  omega
theorem rising_le : ∀ {zs : List Nat} {p : Nat}, risingS (sgn p) (zs.map sgn) = true → (∀ z, z ∈ zs → p ≤ z) ∧ zs.Pairwise (· ≤ ·)
  | [], _, _ => ⟨fun _ h => by simp at h, List.Pairwise.nil⟩
  | z :: r, p, h => by
    rw [List.map_cons, risingS] at h
    have lt : ltCps (sgn z).cps.toList (sgn p).cps.toList = decide (z < p) := by
      show (decide (97 + z < 97 + p) || (97 + z == 97 + p && ltCps [] [])) = _
      have e : ltCps [] [] = false := rfl
      rw [e]
      simp
    rw [lt] at h
    by_cases c : z < p
    · simp [c] at h
    · simp [c] at h
      obtain ⟨h1, h2⟩ := rising_le h
      refine ⟨fun y hy => ?_, List.pairwise_cons.mpr ⟨h1, h2⟩⟩
      rcases List.mem_cons.mp hy with rfl | hy
      · omega
      · have := h1 y hy
        omega
theorem perm_sorted : ∀ {a b : List Nat}, a.Perm b → a.Pairwise (· ≤ ·) → b.Pairwise (· ≤ ·) → a = b
  | [], b, h, _, _ => (List.nil_perm.mp h).symm
  | x :: a, [], h, _, _ => by simp at h
  | x :: a, y :: b, h, h1, h2 => by
    obtain ⟨p1, p2⟩ := List.pairwise_cons.mp h1
    obtain ⟨q1, q2⟩ := List.pairwise_cons.mp h2
    have e : x = y := by
      have hx : x ∈ y :: b := h.subset (List.mem_cons_self ..)
      have hy : y ∈ x :: a := h.symm.subset (List.mem_cons_self ..)
      rcases List.mem_cons.mp hx with e | hx
      · exact e
      · rcases List.mem_cons.mp hy with e | hy
        · exact e.symm
        · have := p1 y hy
          have := q1 x hx
          omega
    subst e
    rw [perm_sorted (List.Perm.cons_inv h) p2 q2]
theorem sorted_signs {l : List Nat} {ys : List Str} (hl : l.Pairwise (· < ·)) (hp : ys.Perm (l.map sgn).reverse) (hs : sortedS ys = true) : ys = l.map sgn := by
  have hm : ∀ y ∈ ys, ∃ i, y = sgn i := by
    intro y hy
    have := hp.subset hy
    rw [List.mem_reverse, List.mem_map] at this
    obtain ⟨i, _, rfl⟩ := this
    exact ⟨i, rfl⟩
  have e1 : (ys.map usgn).map sgn = ys := by
    rw [List.map_map]
    conv => rhs; rw [← List.map_id ys]
    refine List.map_congr_left fun y hy => ?_
    obtain ⟨i, rfl⟩ := hm y hy
    show sgn (usgn (sgn i)) = sgn i
    rw [usgn_sgn]
  have e2 : (ys.map usgn).Perm l := by
    have h1 := (hp.map usgn).trans ((List.reverse_perm _).map usgn)
    rw [List.map_map] at h1
    have e : l.map (usgn ∘ sgn) = l := by
      conv => rhs; rw [← List.map_id l]
      exact List.map_congr_left fun i _ => usgn_sgn i
    rw [e] at h1
    exact h1
  have e3 : (ys.map usgn).Pairwise (· ≤ ·) := by
    cases q : ys.map usgn with
    | nil => exact List.Pairwise.nil
    | cons z r =>
      rw [← e1, q, List.map_cons] at hs
      have hs : risingS (sgn z) (r.map sgn) = true := hs
      obtain ⟨h1, h2⟩ := rising_le hs
      exact List.pairwise_cons.mpr ⟨h1, h2⟩
  have e4 := perm_sorted e2 e3 (hl.imp fun h => Nat.le_of_lt h)
  rw [← e1, e4]
theorem bT {p : Prop} [Decidable p] (h : p) : V.bl (decide p) = V.bl true := by rw [decide_eq_true h]
theorem bF {p : Prop} [Decidable p] (h : ¬ p) : V.bl (decide p) = V.bl false := by rw [decide_eq_false h]
theorem qT {p : Prop} [Decidable p] {Q : VK} {H : Hp} (h : p) (q : Q (.bl true) H) : Q (.bl (decide p)) H := by rw [decide_eq_true h]; exact q
theorem qF {p : Prop} [Decidable p] {Q : VK} {H : Hp} (h : ¬ p) (q : Q (.bl false) H) : Q (.bl (decide p)) H := by rw [decide_eq_false h]; exact q
theorem map_at {α : Type} {f : α → V} {l : List α} {i : Nat} {x : V} (h : (l.map f)[i]? = some x) : ∃ a, l[i]? = some a ∧ a ∈ l ∧ x = f a := by
  rw [List.getElem?_map] at h
  cases q : l[i]? with
  | none => rw [q] at h; cases h
  | some a => rw [q] at h; exact ⟨a, rfl, List.mem_of_getElem? q, (Option.some.inj h).symm⟩
/-! ### comprehensions of truths -/
theorem bls (n : Nat) (b : Bool) : (List.range n).map (fun _ => V.bl b) = (List.replicate n b).map V.bl := by
  rw [List.map_const', List.map_replicate, List.length_range]
theorem all_rep (n : Nat) : (List.replicate n true).all id = true := by
  rw [List.all_eq_true]
  intro x hx
  exact (List.mem_replicate.mp hx).2
theorem any_rep (n : Nat) : (List.replicate n false).any id = false := by
  rw [List.any_eq_false]
  intro x hx
  rw [(List.mem_replicate.mp hx).2]
  decide
end K30
set_option Elab.async false
set_option linter.all false
set_option maxRecDepth 100000
set_option maxHeartbeats 4000000
namespace K30
open PySem PySem.Spec PyProof.Rows L2 K30R
section
variable {P : Program} {w : World} {K : PySem.W.Frag} {mg : Str → Option Value} {base : Heap} {C : Addr}
/-- r.arrows -/
def spArrows (C : Addr) : Sp := fun vs H Q _ => ∃ x dx fs t r0 ra ea, vs = [.ref x] ∧ H x = some (.ins C dx fs) ∧ fs.lookup ("parts" : Str) = some (.ref t) ∧ H t = some (.tup [r0, .ref ra, .ref ea]) ∧ Q (.ref ra) H
abbrev N_goal_of : List Str := ["arrows", "stand", "place"]
abbrev P_goal_of : List Str := ["arrows", "stand", "place"]
theorem sc_goal_of : FnScope N_goal_of P_goal_of (defScope (top 20)) := ⟨rfl, rfl, rfl, by decide +kernel, rfl, by decide +kernel, by decide +kernel⟩
def spGoalOf (d : Dat) : Sp := fun vs H Q _ => ∃ ra s i, vs = [.ref ra, nV s, nV i] ∧ ArrAt d.rows H ra ∧ s < d.n ∧ i < d.many ∧ d.Ok ∧ Q (oV (d.arr s i)) H
theorem cl_goal_of (d : Dat) (D : DefAt K mg "goal_of" 20) : Cl P w K mg base 1 "goal_of" P_goal_of (spGoalOf d) := by
  refine cl_of (N := N_goal_of) D sc_goal_of (fun _ _ _ _ _ _ us hl => match us, hl with | [_, _, _], _ => rfl) ?_ ?_
  · rintro vs H Q E ⟨ra, s, i, rfl, _⟩
    rfl
  · rintro f cdv A outer s H vs Q E hr ⟨ra, s, i, rfl, ⟨ps, h1, h2, h3⟩, hs, hi, ok, q⟩
    refine ⟨_, (pss_one (ps_ret (pe_ifExp (pt_cmpR op_isN (pv 1) pe_non (nomark _)) pe_non (pe_ix (zT K) (pe_ix (zT K) (pv 0) (pv 1) (fun _ _ => rfl)) (pv 2) (fun _ _ => rfl))))), ?_⟩
    obtain ⟨r, e1, e2⟩ := ok.at_ hs hi
    have hps : s < ps.length := by rw [h2]; exact hs
    have e3 : ps[s]? = some ps[s] := List.getElem?_eq_getElem hps
    refine ⟨_, rfl, rfl, false, rfl, ?_⟩
    refine iteF ⟨_, rfl, _, rfl, _, _, _, _, rfl, rfl, SqT.of h1, atI_nat (by rw [List.getElem?_map, e3]; rfl), _, rfl, _, _, _, _, rfl, rfl, SqT.of (h3 s _ r e3 e1), atI_nat (by rw [List.getElem?_map, e2]; rfl), q⟩
abbrev N_goals_by : List Str := ["reader", "stand", "lot", "sign"]
abbrev P_goals_by : List Str := ["reader", "stand", "lot"]
theorem sc_goals_by : FnScope N_goals_by P_goals_by (defScope (top 25)) := ⟨rfl, rfl, rfl, by decide +kernel, rfl, by decide +kernel, by decide +kernel⟩
def spGoalsBy (C : Addr) (d : Dat) : Sp := fun vs H Q _ => ∃ x s l, vs = [.ref x, nV s, .str (ltx l)] ∧ RdAt C d H x ∧ s < d.n ∧ (∀ i ∈ l, i < d.many) ∧ l.length ≤ 100 ∧ d.Ok ∧
  ∀ p H', Same H H' → H p = none → H' p = some (.lst (l.map fun i => oV (d.arr s i))) → Q (.ref p) H'
theorem cl_goals_by (d : Dat) (D : DefAt K mg "goals_by" 25) (T : Tx K mg C) (p_arrows : Pr P w K mg base 1 C "arrows" (spArrows C)) (c_goal_of : Cl P w K mg base 1 "goal_of" P_goal_of (spGoalOf d)) :
    Cl P w K mg base 3 "goals_by" P_goals_by (spGoalsBy C d) := by
  refine cl_of (N := N_goals_by) D sc_goals_by (fun _ _ _ _ _ _ us hl => match us, hl with | [_, _, _], _ => rfl) ?_ ?_
  · rintro vs H Q E ⟨x, s, l, rfl, _⟩
    rfl
  · rintro f cdv A outer s H vs Q E hr ⟨x, s, l, rfl, hx, hs, hl, hlen, ok, q⟩
    refine ⟨_, (pss_one (ps_ret (pe_lc (own := [("sign", 3)]) (g := gName 3) (tt := tYes) rfl sc_goals_by.nd (pi_str (pv 2)) (blkOk_by (N := N_goals_by) (sc := (defScope (top 25))) (by decide +kernel)) (fun _ _ _ _ _ => (pg_name (i := 3) sc_goals_by.nd rfl (Or.inl rfl))) (fun _ _ _ _ _ => pts_nil) (fun _ _ _ _ _ => (pe_cl c_goal_of hr (by omega) (by rfl) (pa_cons (pe_pr T.cl p_arrows hr (by decide) (pv 0)) (pa_cons (pv 1) (pa_cons (zIndex K (C8.pe_gc rfl T.cALPHABET) (pa_cons (pv 3) pa_nil)) pa_nil)))))))), ?_⟩
    refine ⟨_, rfl, ltx l, rfl, fun D hD => ?_⟩
    refine lc_gen walk_str (fun i => (l[i]?).map fun i => oV (d.arr s i)) (by rw [ltx_size]; omega) hD (fun _ _ => trivial) ?_ ?_
    · rintro i v H1 _ R R0 hi hS ⟨rfl, hv⟩ hR _
      obtain ⟨k, e1, e2, rfl⟩ := ltx_it hv
      obtain ⟨rest, eo⟩ := abc_index (i := k) (Nat.lt_of_lt_of_le (hl k e2) (by have := ok.m3; omega))
      obtain ⟨dx, fs, t, x1, x2, ra, ea, t1, t2, t3⟩ := hx.same hS
      refine ⟨rfl, ?_⟩
      refine ⟨_, rfl, x, dx, fs, rfl, x1, x, dx, fs, t, _, ra, ea, rfl, x1, x2, t1, _, rfl, rfl, _, rfl, _, _, k, rest, rfl, rfl, eo, ?_⟩
      refine ⟨ra, s, k, rfl, t2, hs, hl k e2, ok, hR _ (by rw [e1]; rfl) _ (Same.refl _)⟩
    · intro H1 hS hL
      rw [ltx_size, outs_map] at hL
      exact q D H1 hS hD hL
abbrev N_is_reached : List Str := ["ranks", "stand", "turn"]
abbrev P_is_reached : List Str := ["ranks", "stand", "turn"]
theorem sc_is_reached : FnScope N_is_reached P_is_reached (defScope (top 26)) := ⟨rfl, rfl, rfl, by decide +kernel, rfl, by decide +kernel, by decide +kernel⟩
/-- the ranks' dict at an address: the key (s, t) has the value rk s t -/
def RkAt (rk : Nat → Nat → Option Nat) (n : Nat) (H : Hp) (a : Addr) : Prop := ∃ kvs, H a = some (.dT kvs) ∧ kvs.length ≤ 500 ∧ ∀ s t, s < n → t < 2 → valV kvs [.inl (s : Nat), .inl (t : Nat)] = (rk s t).map nV
theorem RkAt.same {rk : Nat → Nat → Option Nat} {n : Nat} {H H' : Hp} {a : Addr} (h : RkAt rk n H a) (e : Same H H') : RkAt rk n H' a := by
  obtain ⟨kvs, h1, h2, h3⟩ := h
  exact ⟨kvs, e _ _ h1, h2, h3⟩
/-- is the spot's rank told? -/
def rcd (rk : Nat → Nat → Option Nat) (t : Nat) (o : Option Nat) : Bool := match o with
  | none => false
  | some s => (rk s t).isSome
theorem rcd_rch (G : Game) (k t : Nat) : rcd (G.rk k) t = fun o => rch (G.W k) o t := by
  funext o
  cases o with
  | none => rfl
  | some s => exact rk_isSome
def spIsReached : Sp := fun vs H Q _ => ∃ a o t rk n, vs = [.ref a, oV o, nV t] ∧ RkAt rk n H a ∧ (∀ s, o = some s → s < n) ∧ t < 2 ∧
  ∀ H', Same H H' → Q (.bl (rcd rk t o)) H'
theorem cl_is_reached (D : DefAt K mg "is_reached" 26) : Cl P w K mg base 1 "is_reached" P_is_reached spIsReached := by
  refine cl_of (N := N_is_reached) D sc_is_reached (fun _ _ _ _ _ _ us hl => match us, hl with | [_, _, _], _ => rfl) ?_ ?_
  · rintro vs H Q E ⟨a, o, t, rk, n, rfl, _⟩
    rfl
  · rintro f cdv A outer s H vs Q E hr ⟨a, o, t, rk, n, rfl, hd, ho, ht, q⟩
    refine ⟨_, (pss_one (ps_ret (pe_and (pe_cmpR op_notN (pv 1) pe_non (nomark _)) (pe_one (pe_cmp (pc_din (hu1 hr) (pe_tup (pa_cons (pv 1) (pa_cons (pv 2) pa_nil))) (pv 0))))))), ?_⟩
    cases o with
    | none => exact ⟨_, rfl, rfl, false, rfl, iteF (q H (Same.refl H))⟩
    | some s =>
      refine ⟨_, rfl, rfl, true, rfl, iteT ?_⟩
      refine ⟨_, rfl, _, rfl, n2, fun p hp => ?_⟩
      obtain ⟨kvs, h1, h2, h3⟩ := hd.same (same_new hp)
      refine ⟨_, rfl, a, _, rfl, .inr ⟨kvs, [.inl (s : Nat), .inl (t : Nat)], p, .inl h1, rfl, upd_same, rfl⟩, ?_⟩
      have e := h3 s t (ho s rfl) ht
      rw [e, Option.isSome_map]
      exact q _ (same_new hp)
end
end K30
set_option Elab.async false
set_option linter.all false
set_option maxRecDepth 100000
set_option maxHeartbeats 4000000
namespace K30
open PySem PySem.Spec PyProof.Rows L2 K30R
section
variable {P : Program} {w : World} {K : PySem.W.Frag} {mg : Str → Option Value} {base : Heap} {C : Addr}
abbrev N_is_number : List Str := ["value", "low", "high"]
abbrev P_is_number : List Str := ["value", "low", "high"]
theorem sc_is_number : FnScope N_is_number P_is_number (defScope (top 11)) := ⟨rfl, rfl, rfl, by decide +kernel, rfl, by decide +kernel, by decide +kernel⟩
def spIsNumber : Sp := fun vs H Q _ => ∃ v lo hi : Int, vs = [.int v, .int lo, .int hi] ∧ lo ≤ v ∧ v ≤ hi ∧ Q (.bl true) H
theorem cl_is_number (D : DefAt K mg "is_number" 11) (T : Tx K mg C) : Cl P w K mg base 1 "is_number" P_is_number spIsNumber := by
  refine cl_of (N := N_is_number) D sc_is_number (fun _ _ _ _ _ _ us hl => match us, hl with | [_, _, _], _ => rfl) ?_ ?_
  · rintro vs H Q E ⟨v, lo, hi, rfl, _⟩
    rfl
  · rintro f cdv A outer s H vs Q E hr ⟨v, lo, hi, rfl, h1, h2, q⟩
    refine ⟨_, (pss_one (ps_ret (pe_and (pe_callB (zIsi K) rfl T.nisinstance (by decide +kernel) (pa_cons (pv 0) (pa_cons (pe_bltn (v := .ty "int") rfl T.nint (by decide +kernel) rfl) pa_nil))) (pe_and (pe_not (pe_callB (zIsi K) rfl T.nisinstance (by decide +kernel) (pa_cons (pv 0) (pa_cons (pe_bltn (v := .ty "bool") rfl T.nbool (by decide +kernel) rfl) pa_nil)))) (pe_one (pe_chain op_le op_le (pv 1) (pv 0) (pv 2))))))), ?_⟩
    refine ⟨_, rfl, _, _, _, _, true, rfl, .ty _, .base (.int _), kit_ty (by decide +kernel), true, rfl, ?_⟩
    refine ⟨_, rfl, _, _, _, _, false, rfl, .ty _, .base (.int _), kit_ty (by decide +kernel), false, rfl, true, rfl, ?_⟩
    refine ⟨_, rfl, _, rfl, _, _, rfl, rfl, true, bT h1, ?_⟩
    exact ⟨_, rfl, _, _, rfl, rfl, qT h2 q⟩
abbrev N_is_goal : List Str := ["value", "size"]
abbrev P_is_goal : List Str := ["value", "size"]
theorem sc_is_goal : FnScope N_is_goal P_is_goal (defScope (top 12)) := ⟨rfl, rfl, rfl, by decide +kernel, rfl, by decide +kernel, by decide +kernel⟩
def spIsGoal : Sp := fun vs H Q _ => ∃ (o : Option Nat) (n : Nat), vs = [oV o, nV n] ∧ (∀ k, o = some k → k < n) ∧ Q (.bl true) H
theorem cl_is_goal (D : DefAt K mg "is_goal" 12) (T : Tx K mg C) (c_is_number : Cl P w K mg base 1 "is_number" P_is_number spIsNumber) : Cl P w K mg base 2 "is_goal" P_is_goal spIsGoal := by
  refine cl_of (N := N_is_goal) D sc_is_goal (fun _ _ _ _ _ _ us hl => match us, hl with | [_, _], _ => rfl) ?_ ?_
  · rintro vs H Q E ⟨o, n, rfl, _⟩
    rfl
  · rintro f cdv A outer s H vs Q E hr ⟨o, n, rfl, h, q⟩
    refine ⟨_, (pss_one (ps_ret (pe_or (pe_cmpR op_isN (pv 0) pe_non (nomark _)) (pe_one (pe_cl c_is_number hr (by omega) (by rfl) (pa_cons (pv 0) (pa_cons pe_int (pa_cons (pe_op op_sub (pv 1) pe_int) pa_nil)))))))), ?_⟩
    cases o with
    | none => exact ⟨_, rfl, rfl, true, rfl, q⟩
    | some k =>
      have := h k rfl
      exact ⟨_, rfl, rfl, false, rfl, _, rfl, _, rfl, _, _, rfl, rfl, _, _, _, rfl, by omega, by omega, q⟩
abbrev N_are_arrows : List Str := ["value", "signs", "row", "goal"]
abbrev P_are_arrows : List Str := ["value", "signs"]
theorem sc_are_arrows : FnScope N_are_arrows P_are_arrows (defScope (top 13)) := ⟨rfl, rfl, rfl, by decide +kernel, rfl, by decide +kernel, by decide +kernel⟩
def spAreArrows : Sp := fun vs H Q _ => ∃ (a : Addr) (rows : List Row) (many : Nat), vs = [.ref a, nV many] ∧ ArrAt rows H a ∧ 1 ≤ rows.length ∧ rows.length ≤ 100 ∧ many ≤ 8 ∧ (∀ r ∈ rows, r.length = many) ∧ (∀ r ∈ rows, ∀ o ∈ r, ∀ k, o = some k → k < rows.length) ∧
  ∀ H', Same H H' → Q (.bl true) H'
theorem cl_are_arrows (D : DefAt K mg "are_arrows" 13) (T : Tx K mg C) (c_is_goal : Cl P w K mg base 2 "is_goal" P_is_goal spIsGoal) : Cl P w K mg base 3 "are_arrows" P_are_arrows spAreArrows := by
  refine cl_of (N := N_are_arrows) D sc_are_arrows (fun _ _ _ _ _ _ us hl => match us, hl with | [_, _], _ => rfl) ?_ ?_
  · rintro vs H Q E ⟨a, rows, many, rfl, _⟩
    rfl
  · rintro f cdv A outer s H vs Q E hr ⟨a, rows, many, rfl, hA, r1, r2, mm, hl, hg, q⟩
    refine ⟨_, (pss_cons (ps_if (PW.pt (pw_or (pt_not (pt_val (pe_callB (zIsi K) rfl T.nisinstance (by decide +kernel) (pa_cons (pv 0) (pa_cons (pe_bltn (v := .ty "tuple") rfl T.ntuple (by decide +kernel) rfl) pa_nil))))) (pw_or1 (pt_not (pt_chain op_le op_le pe_int (pe_callB (zLen K) rfl T.nlen (by decide +kernel) (pa_cons (pv 0) pa_nil)) (C8.pe_gc rfl T.cMOST_STANDS)))))) (pss_one (ps_ret pe_bl)) pss_nil)
      (pss_cons (ps_if (pt_not (pt_val (pe_callB (zAll K rfl) rfl T.nall (by decide +kernel) (pa_cons (pe_lc (own := [("row", 2)]) (g := gName 2) (tt := tYes) rfl sc_are_arrows.nd (wT K (pv 0)) (blkOk_by (N := N_are_arrows) (sc := (defScope (top 13))) (by decide +kernel)) (fun _ _ _ _ _ => (pg_name (i := 2) sc_are_arrows.nd rfl (Or.inl rfl))) (fun _ _ _ _ _ => pts_nil) (fun _ _ _ _ _ => (pe_and (pe_callB (zIsi K) rfl T.nisinstance (by decide +kernel) (pa_cons (pv 2) (pa_cons (pe_bltn (v := .ty "tuple") rfl T.ntuple (by decide +kernel) rfl) pa_nil))) (pe_one (pe_cmpR op_eq (pe_callB (zLen K) rfl T.nlen (by decide +kernel) (pa_cons (pv 2) pa_nil)) (pv 1) (nomark _)))))) pa_nil)))) (pss_one (ps_ret pe_bl)) pss_nil)
      (pss_one (ps_ret (pe_callB (zAll K rfl) rfl T.nall (by decide +kernel) (pa_cons (pe_lc2 (own := [("row", 2), ("goal", 3)]) (vs1 := [3]) (tt := tYes) (tt1 := tYes) rfl sc_are_arrows.nd (wT K (pv 0)) (blkOk_by (N := N_are_arrows) (sc := (defScope (top 13))) (by decide +kernel)) (by decide) (fun _ _ _ _ _ => (pg_name (i := 2) sc_are_arrows.nd rfl (Or.inl rfl))) (fun _ _ _ _ _ => pts_nil) (fun _ _ _ _ _ => (wT K (pv 2))) (fun _ _ _ _ _ => (pg_name (i := 3) sc_are_arrows.nd rfl (Or.inl rfl))) (fun _ _ _ _ _ => pts_nil) (fun _ _ _ _ _ => (pe_cl c_is_goal hr (by omega) (by rfl) (pa_cons (pv 3) (pa_cons (pe_callB (zLen K) rfl T.nlen (by decide +kernel) (pa_cons (pv 0) pa_nil)) pa_nil))))) pa_nil)))))), ?_⟩
    obtain ⟨ps, h1, h2, h3⟩ := hA
    refine ⟨_, rfl, _, _, _, _, true, rfl, .ty _, .base (.tup h1), kit_ty (by decide +kernel), true, rfl, ?_⟩
    refine ⟨_, rfl, a, _, rfl, .inr (SqT.of h1), _, _, rfl, rfl, true, bT (by rw [List.length_map]; omega), _, _, rfl, rfl, true, bT (by rw [List.length_map]; omega), ?_⟩
    refine ⟨_, rfl, a, rfl, ⟨_, SqT.of h1⟩, fun D hD => ?_⟩
    refine lc_gen (walk_tup (xs := ps.map V.ref)) (fun _ => some (.bl true)) (by rw [List.length_map]; omega) hD (fun _ h => SqT.of (h _ _ h1)) ?_ ?_
    · rintro i x H1 _ R R0 hi hS ⟨rfl, hv⟩ hR _
      obtain ⟨p, e1, _, rfl⟩ := map_at hv
      have hi' : i < rows.length := by rw [List.length_map] at hi; omega
      have e2 : rows[i]? = some rows[i] := List.getElem?_eq_getElem hi'
      have e3 := hS _ _ (h3 i p _ e1 e2)
      refine ⟨rfl, ?_⟩
      refine ⟨_, rfl, _, _, _, _, true, rfl, .ty _, .base (.tup e3), kit_ty (by decide +kernel), true, rfl, ?_⟩
      refine ⟨_, rfl, p, _, rfl, .inr (SqT.of e3), _, rfl, rfl, qT ?_ (hR _ rfl _ (Same.refl _))⟩
      rw [List.length_map, hl _ (List.getElem_mem hi')]
      rfl
    intro H1 hS hL
    rw [List.length_map, outs_range, bls] at hL
    refine ⟨D, _, rfl, SqL.of hL, true, by rw [all_rep], ?_⟩
    have h1' := hS _ _ h1
    have h3' : ∀ (i : Nat) p r, ps[i]? = some p → rows[i]? = some r → H1 p = some (.tup (r.map oV)) := fun i p r a b => hS _ _ (h3 i p r a b)
    refine ⟨_, rfl, a, rfl, ⟨_, SqT.of h1'⟩, fun F hF => ?_⟩
    refine ⟨fun i m H => m = rows.length - i ∧ i ≤ rows.length ∧ Same H1 H ∧ ∃ c, c ≤ 8 * i ∧ H F = some (.lst ((List.replicate c true).map V.bl)), ⟨_, rfl, Nat.zero_le _, same_new hF, 0, Nat.le_refl _, upd_same⟩, ?_⟩
    rintro i m H2 ⟨rfl, hi, hS2, c, hc, hF2⟩
    have h1'' := hS2 _ _ h1'
    rcases Nat.lt_or_ge i rows.length with hi | hi
    · refine .inr ⟨⟨_, V.ref ps[i], SqT.of h1'', by rw [List.getElem?_map, List.getElem?_eq_getElem (by omega)]; rfl⟩, fun H' => Same H1 H' ∧ ∃ c, c ≤ 8 * (i + 1) ∧ H' F = some (.lst ((List.replicate c true).map V.bl)), ?_, ?_⟩
      · rintro H' ⟨a1, a2⟩
        exact ⟨_, by omega, rfl, by omega, a1, a2⟩
      · rintro x _ ⟨rfl, hv⟩
        obtain ⟨p, e1, _, rfl⟩ := map_at (hv _ (SqT.of h1''))
        have e2 : rows[i]? = some rows[i] := List.getElem?_eq_getElem hi
        have e3 := h3' i p _ e1 e2
        have hrow : rows[i].length = many := hl _ (List.getElem_mem hi)
        refine ⟨rfl, ?_⟩
        refine ⟨_, rfl, p, rfl, ⟨_, SqT.of (hS2 _ _ e3)⟩, ?_⟩
        refine ⟨fun j k H => k = many - j ∧ j ≤ many ∧ Same H1 H ∧ ∃ c, c ≤ 8 * i + j ∧ H F = some (.lst ((List.replicate c true).map V.bl)), ⟨_, rfl, Nat.zero_le _, hS2, c, by omega, hF2⟩, ?_⟩
        rintro j k H3 ⟨rfl, hj, hS3, c3, hc3, hF3⟩
        have e4 := hS3 _ _ e3
        rcases Nat.lt_or_ge j many with hj | hj
        · refine .inr ⟨⟨_, oV (rows[i][j]'(by omega)), SqT.of e4, by rw [List.getElem?_map, List.getElem?_eq_getElem (by omega)]; rfl⟩, fun H' => Same H1 H' ∧ ∃ c, c ≤ 8 * i + (j + 1) ∧ H' F = some (.lst ((List.replicate c true).map V.bl)), ?_, ?_⟩
          · rintro H' ⟨a1, a2⟩
            exact ⟨_, by omega, rfl, by omega, a1, a2⟩
          · rintro y _ ⟨rfl, hw⟩
            obtain ⟨o, o1, o2, rfl⟩ := map_at (hw _ (SqT.of e4))
            refine ⟨rfl, ?_⟩
            refine ⟨_, rfl, _, rfl, a, _, rfl, .inr (SqT.of (hS3 _ _ h1')), o, rows.length, by rw [List.length_map, h2]; rfl, hg _ (List.getElem_mem hi) o o2, ?_⟩
            refine ⟨_, hF3, ?_, ?_, c3 + 1, by omega, ?_⟩
            · rw [List.length_map, List.length_replicate]
              exact small1000 (by omega)
            · exact same_upd hS3 hF
            · rw [upd_same, List.replicate_succ', List.map_append]
              rfl
        · refine .inl ⟨⟨_, SqT.of e4, by rw [List.length_map]; omega⟩, hS3, c3, by omega, hF3⟩
    · refine .inl ⟨⟨_, SqT.of h1'', by rw [List.length_map]; omega⟩, ?_⟩
      refine ⟨F, _, rfl, SqL.of hF2, ?_⟩
      rw [all_rep]
      exact q _ (hS.trans hS2)
end
end K30
set_option Elab.async false
set_option linter.all false
set_option maxRecDepth 100000
set_option maxHeartbeats 4000000
namespace K30
open PySem PySem.Spec PyProof.Rows L2 K30R
section
variable {P : Program} {w : World} {K : PySem.W.Frag} {mg : Str → Option Value} {base : Heap} {C : Addr}
abbrev N_are_stands : List Str := ["value", "size", "place", "stand"]
abbrev P_are_stands : List Str := ["value", "size"]
theorem sc_are_stands : FnScope N_are_stands P_are_stands (defScope (top 14)) := ⟨rfl, rfl, rfl, by decide +kernel, rfl, by decide +kernel, by decide +kernel⟩
def spAreStands : Sp := fun vs H Q _ => ∃ (a : Addr) (es : List Nat) (n : Nat), vs = [.ref a, nV n] ∧ EndAt es H a ∧ es.length ≤ 100 ∧ (∀ e ∈ es, e < n) ∧ es.Pairwise (· < ·) ∧ ∀ H', Same H H' → Q (.bl true) H'
theorem cl_are_stands (D : DefAt K mg "are_stands" 14) (T : Tx K mg C) (c_is_number : Cl P w K mg base 1 "is_number" P_is_number spIsNumber) : Cl P w K mg base 3 "are_stands" P_are_stands spAreStands := by
  refine cl_of (N := N_are_stands) D sc_are_stands (fun _ _ _ _ _ _ us hl => match us, hl with | [_, _], _ => rfl) ?_ ?_
  · rintro vs H Q E ⟨a, es, n, rfl, _⟩
    rfl
  · rintro f cdv A outer s H vs Q E hr ⟨a, es, n, rfl, h1, hlen, he, hp, q⟩
    refine ⟨_, (pss_cons (ps_if (PW.pt (pw_or (pt_not (pt_val (pe_callB (zIsi K) rfl T.nisinstance (by decide +kernel) (pa_cons (pv 0) (pa_cons (pe_bltn (v := .ty "tuple") rfl T.ntuple (by decide +kernel) rfl) pa_nil))))) (pw_or1 (pt_not (pt_val (pe_callB (zAll K rfl) rfl T.nall (by decide +kernel) (pa_cons (pe_lc (own := [("stand", 3)]) (g := gName 3) (tt := tYes) rfl sc_are_stands.nd (wT K (pv 0)) (blkOk_by (N := N_are_stands) (sc := (defScope (top 14))) (by decide +kernel)) (fun _ _ _ _ _ => (pg_name (i := 3) sc_are_stands.nd rfl (Or.inl rfl))) (fun _ _ _ _ _ => pts_nil) (fun _ _ _ _ _ => (pe_cl c_is_number hr (by omega) (by rfl) (pa_cons (pv 3) (pa_cons pe_int (pa_cons (pe_op op_sub (pv 1) pe_int) pa_nil)))))) pa_nil))))))) (pss_one (ps_ret pe_bl)) pss_nil)
      (pss_one (ps_ret (pe_callB (zAll K rfl) rfl T.nall (by decide +kernel) (pa_cons (pe_lc (own := [("place", 2)]) (g := gName 2) (tt := tYes) rfl sc_are_stands.nd (pi_range1 rfl T.nrange (pa_cons (pe_op op_sub (pe_callB (zLen K) rfl T.nlen (by decide +kernel) (pa_cons (pv 0) pa_nil)) pe_int) pa_nil)) (blkOk_by (N := N_are_stands) (sc := (defScope (top 14))) (by decide +kernel)) (fun _ _ _ _ _ => (pg_name (i := 2) sc_are_stands.nd rfl (Or.inl rfl))) (fun _ _ _ _ _ => pts_nil) (fun _ _ _ _ _ => (pe_cmpR op_lt (pe_ix (zT K) (pv 0) (pv 2) (fun _ _ => rfl)) (pe_ix (zT K) (pv 0) (pe_op op_add (pv 2) pe_int) (fun _ _ => rfl)) (nomark _)))) pa_nil))))), ?_⟩
    have h1 : H a = some (.tup (es.map nV)) := h1
    refine ⟨_, rfl, _, _, _, _, true, rfl, .ty _, .base (.tup h1), kit_ty (by decide +kernel), true, rfl, ?_⟩
    refine ⟨_, rfl, a, rfl, ⟨_, SqT.of h1⟩, fun D hD => ?_⟩
    refine lc_gen (walk_tup (xs := es.map nV)) (fun _ => some (.bl true)) (by rw [List.length_map]; omega) hD (fun _ h => SqT.of (h _ _ h1)) ?_ ?_
    · rintro i x H1 _ R R0 hi hS ⟨rfl, hv⟩ hR _
      obtain ⟨e, e1, e2, rfl⟩ := map_at hv
      have := he e e2
      exact ⟨rfl, _, rfl, _, rfl, _, _, rfl, rfl, _, _, _, rfl, by omega, by omega, hR _ rfl _ (Same.refl _)⟩
    intro H1 hS hL
    rw [List.length_map, outs_range, bls] at hL
    refine ⟨D, _, rfl, SqL.of hL, true, by rw [all_rep], ?_⟩
    have h1' := hS _ _ h1
    refine ⟨_, rfl, a, _, rfl, .inr (SqT.of h1'), _, _, rfl, rfl, ((es.length - 1 : Nat) : Int) + (if es = [] then -1 else 0), ?_, ?_, ?_, fun F hF => ?_⟩
    · rw [List.length_map]
      cases es with
      | nil => rfl
      | cons x r => simp
    · split <;> omega
    · split <;> omega
    have en : (((es.length - 1 : Nat) : Int) + (if es = [] then -1 else 0)).toNat = es.length - 1 := by
      cases es with
      | nil => rfl
      | cons x r => simp
    rw [en]
    refine lc_gen (walk_rg (n := es.length - 1)) (fun _ => some (.bl true)) (by omega) hF (fun _ _ => trivial) ?_ ?_
    · rintro i x H2 _ R R0 hi hS2 ⟨rfl, rfl⟩ hR _
      have h2 := hS2 _ _ h1'
      have i1 : i < es.length := by omega
      have i2 : i + 1 < es.length := by omega
      have g1 : (es.map nV)[i]? = some (nV es[i]) := by rw [List.getElem?_map, List.getElem?_eq_getElem i1]; rfl
      have g2 : (es.map nV)[i + 1]? = some (nV es[i + 1]) := by rw [List.getElem?_map, List.getElem?_eq_getElem i2]; rfl
      have lt : es[i] < es[i + 1] := List.pairwise_iff_getElem.mp hp i (i + 1) i1 i2 (by omega)
      refine ⟨rfl, ?_⟩
      refine ⟨_, rfl, _, rfl, _, _, _, _, rfl, rfl, SqT.of h2, atI_nat g1, _, rfl, _, rfl, _, _, rfl, rfl, _, _, _, _, rfl, rfl, SqT.of h2, atI_nat (j := i + 1) g2, _, _, rfl, rfl, ?_⟩
      exact qT (by omega) (hR _ rfl _ (Same.refl _))
    intro H2 hS2 hL2
    rw [outs_range, bls] at hL2
    refine ⟨F, _, rfl, SqL.of hL2, ?_⟩
    rw [all_rep]
    exact q _ (hS.trans hS2)
abbrev N_is_signs : List Str := ["value"]
abbrev P_is_signs : List Str := ["value"]
theorem sc_is_signs : FnScope N_is_signs P_is_signs (defScope (top 16)) := ⟨rfl, rfl, rfl, by decide +kernel, rfl, by decide +kernel, by decide +kernel⟩
def spIsSigns : Sp := fun vs H Q _ => ∃ n : Nat, vs = [nV n] ∧ 1 ≤ n ∧ n ≤ 8 ∧ Q (.bl true) H
theorem cl_is_signs (D : DefAt K mg "is_signs" 16) (T : Tx K mg C) (c_is_number : Cl P w K mg base 1 "is_number" P_is_number spIsNumber) : Cl P w K mg base 2 "is_signs" P_is_signs spIsSigns := by
  refine cl_of (N := N_is_signs) D sc_is_signs (fun _ _ _ _ _ _ us hl => match us, hl with | [_], _ => rfl) ?_ ?_
  · rintro vs H Q E ⟨n, rfl, _⟩
    rfl
  · rintro f cdv A outer s H vs Q E hr ⟨n, rfl, h1, h2, q⟩
    refine ⟨_, (pss_one (ps_ret (pe_cl c_is_number hr (by omega) (by rfl) (pa_cons (pv 0) (pa_cons pe_int (pa_cons (C8.pe_gc rfl T.cMOST_SIGNS) pa_nil)))))), ?_⟩
    exact ⟨_, rfl, _, _, _, rfl, by omega, by omega, q⟩
abbrev N_check_signs : List Str := ["signs"]
abbrev P_check_signs : List Str := ["signs"]
theorem sc_check_signs : FnScope N_check_signs P_check_signs (defScope (top 17)) := ⟨rfl, rfl, rfl, by decide +kernel, rfl, by decide +kernel, by decide +kernel⟩
def spCheckSigns : Sp := fun vs H Q _ => ∃ n : Nat, vs = [nV n] ∧ 1 ≤ n ∧ n ≤ 8 ∧ Q .non H
theorem cl_check_signs (D : DefAt K mg "check_signs" 17) (c_is_signs : Cl P w K mg base 2 "is_signs" P_is_signs spIsSigns) : Cl P w K mg base 3 "check_signs" P_check_signs spCheckSigns := by
  refine cl_of (N := N_check_signs) D sc_check_signs (fun _ _ _ _ _ _ us hl => match us, hl with | [_], _ => rfl) ?_ ?_
  · rintro vs H Q E ⟨n, rfl, _⟩
    rfl
  · rintro f cdv A outer s H vs Q E hr ⟨n, rfl, h1, h2, q⟩
    refine ⟨_, (pss_one (ps_if (pt_not (pt_val (pe_cl c_is_signs hr (by omega) (by rfl) (pa_cons (pv 0) pa_nil)))) (pss_one ps_never) pss_nil)), ?_⟩
    exact ⟨_, rfl, _, rfl, h1, h2, true, rfl, q⟩
abbrev N_check_reader : List Str := ["reader"]
abbrev P_check_reader : List Str := ["reader"]
theorem sc_check_reader : FnScope N_check_reader P_check_reader (defScope (top 18)) := ⟨rfl, rfl, rfl, by decide +kernel, rfl, by decide +kernel, by decide +kernel⟩
def spCheckReader (C : Addr) : Sp := fun vs H Q _ => ∃ a dx fs, vs = [.ref a] ∧ H a = some (.ins C dx fs) ∧ Q .non H
theorem cl_check_reader (D : DefAt K mg "check_reader" 18) (T : Tx K mg C) : Cl P w K mg base 1 "check_reader" P_check_reader (spCheckReader C) := by
  refine cl_of (N := N_check_reader) D sc_check_reader (fun _ _ _ _ _ _ us hl => match us, hl with | [_], _ => rfl) ?_ ?_
  · rintro vs H Q E ⟨a, dx, fs, rfl, _⟩
    rfl
  · rintro f cdv A outer s H vs Q E hr ⟨a, dx, fs, rfl, h, q⟩
    refine ⟨_, (pss_one (ps_if (pt_not (pt_val (pe_callB (C8.call_isC T.insC) rfl T.nisinstance (by decide +kernel) (pa_cons (pv 0) (pa_cons (pe_glob (v := .ref C) rfl T.mReader rfl) pa_nil))))) (pss_one ps_never) pss_nil)), ?_⟩
    exact ⟨_, rfl, _, _, _, rfl, h, true, rfl, q⟩
abbrev N_is_lot : List Str := ["value", "signs", "letter"]
abbrev P_is_lot : List Str := ["value", "signs"]
theorem sc_is_lot : FnScope N_is_lot P_is_lot (defScope (top 21)) := ⟨rfl, rfl, rfl, by decide +kernel, rfl, by decide +kernel, by decide +kernel⟩
def spIsLot : Sp := fun vs H Q _ => ∃ (l : List Nat) (n : Nat), vs = [.str (ltx l), nV n] ∧ Lot n l ∧ n ≤ 8 ∧ ∀ H', Same H H' → Q (.bl true) H'
theorem cl_is_lot (D : DefAt K mg "is_lot" 21) (T : Tx K mg C) : Cl P w K mg base 1 "is_lot" P_is_lot spIsLot := by
  refine cl_of (N := N_is_lot) D sc_is_lot (fun _ _ _ _ _ _ us hl => match us, hl with | [_, _], _ => rfl) ?_ ?_
  · rintro vs H Q E ⟨l, n, rfl, _⟩
    rfl
  · rintro f cdv A outer s H vs Q E hr ⟨l, n, rfl, hl, hn, q⟩
    refine ⟨_, (pss_cons (ps_if (PW.pt (pw_or (pt_not (pt_val (pe_callB (zIsi K) rfl T.nisinstance (by decide +kernel) (pa_cons (pv 0) (pa_cons (pe_bltn (v := .ty "str") rfl T.nstr (by decide +kernel) rfl) pa_nil))))) (pw_or1 (pt_val (pe_callB (zAny K rfl) rfl T.nany (by decide +kernel) (pa_cons (pe_lc (own := [("letter", 2)]) (g := gName 2) (tt := tYes) rfl sc_is_lot.nd (pi_str (pv 0)) (blkOk_by (N := N_is_lot) (sc := (defScope (top 21))) (by decide +kernel)) (fun _ _ _ _ _ => (pg_name (i := 2) sc_is_lot.nd rfl (Or.inl rfl))) (fun _ _ _ _ _ => pts_nil) (fun _ _ _ _ _ => (pe_cmpR op_notIn_sign (pv 2) (pe_slice sl_str (C8.pe_gc rfl T.cALPHABET) po_none (po_some (pv 1))) (by rfl)))) pa_nil)))))) (pss_one (ps_ret pe_bl)) pss_nil)
      (pss_one (ps_ret (pe_cmpR (zEqD K hr) (pe_callB (cr_sortedTxt rfl) rfl T.nsorted (by decide +kernel) (pa_cons (pe_callTy (call_setT rfl) rfl T.nset (by decide +kernel) (pa_cons (pv 0) pa_nil)) pa_nil)) (pe_callTy (call_listS rfl) rfl T.nlist (by decide +kernel) (pa_cons (pv 0) pa_nil)) (nomark _))))), ?_⟩
    have len := hl.len
    refine ⟨_, rfl, _, _, _, _, true, rfl, .ty _, .base (.str _), kit_ty (by decide +kernel), true, rfl, ?_⟩
    refine ⟨_, rfl, ltx l, rfl, fun D hD => ?_⟩
    refine lc_gen walk_str (fun _ => some (.bl false)) (by rw [ltx_size]; omega) hD (fun _ _ => trivial) ?_ ?_
    · rintro i x H1 _ R R0 hi hS ⟨rfl, hv⟩ hR _
      obtain ⟨k, e1, e2, rfl⟩ := ltx_it hv
      have hk := hl.lt k e2
      refine ⟨rfl, ?_⟩
      refine ⟨_, rfl, _, rfl, _, rfl, _, rfl, small (by decide +kernel), 97 + k, _, rfl, rfl, ?_⟩
      have hm : 97 + k ∈ (cutS ("abcdefgh" : Str) none (some (n : Int))).cps.toList := by
        rw [abc_cut hn, ltx_mem, List.mem_range]; exact hk
      rw [decide_eq_true hm]
      exact hR _ rfl _ (Same.refl _)
    intro H1 hS hL
    rw [ltx_size, outs_range, bls] at hL
    refine ⟨D, _, rfl, SqL.of hL, false, by rw [any_rep], ?_⟩
    have e8 : ∀ c ∈ (ltx l).cps.toList, c < 105 := by
      intro c hc
      rw [ltx_cps, List.mem_map] at hc
      obtain ⟨k, k1, rfl⟩ := hc
      have := hl.lt k k1
      omega
    refine ⟨_, rfl, ltx l, rfl, ?_, ?_, ?_, fun p hp => ?_⟩
    · rw [Array.all_eq_true']
      intro c hc
      have := e8 c (by simpa using hc)
      exact decide_eq_true (by omega)
    · rw [ltx_cps]
      have := hl.up
      exact List.Pairwise.map _ (fun a b h => by intro e; have e : 97 + a = 97 + b := e; omega) this
    · rw [ltx_cps, List.length_map]
      omega
    rw [ltx_sing]
    refine ⟨p, _, rfl, upd_same, by rw [List.length_reverse, List.length_map]; omega, ?_⟩
    intro H2 ys r hS2 hy1 hy2 hr1 hr2
    have ey := sorted_signs hl.up hy1 hy2
    refine ⟨_, rfl, ltx l, rfl, by rw [ltx_len]; exact small (by omega), fun b hb => ?_⟩
    rw [signs_ltx]
    have lay : PyData.canLayAll0 (l.map fun i => PyData.str (sgn i)) = true := layall fun i hi => lay_sgn (by have := hl.lt i hi; omega)
    have shp : SeqAt.shaped (.list (l.map fun i => PyData.str (sgn i))) = true := shp_list lay (Nat.le_trans (depall (k := 0) fun _ _ => by simp [PyData.depth]) (by omega))
    refine ⟨.list (l.map fun i => .str (sgn i)), .list (l.map fun i => .str (sgn i)), .lst (xs := l.map fun i => .str (sgn i)) (SqL.of ?_) (dpall fun _ _ => .str _), .lst (xs := l.map fun i => .str (sgn i)) (SqL.of upd_same) (dpall fun _ _ => .str _), shp, shp, ?_⟩
    · rw [upd_ne (ne_of_none hr2 hb), hr2, ey, List.map_map]
      rfl
    · rw [PySem.SeqAt.eqv_refl _ (by rw [PyData.canLay0]; exact lay)]
      exact q _ ((hS.trans (same_new hp)).trans (Same.trans hS2 (same_new hb)))
end
end K30
set_option Elab.async false
set_option linter.all false
set_option maxRecDepth 100000
set_option maxHeartbeats 4000000
/-! Methods, the constructor, calls by keywords. -/
namespace K30
open PySem PySem.Spec PyProof.Rows L2 K30R
theorem ltx_ne {l : List Nat} (h : l ≠ []) : ¬ (V.str (ltx l) = V.str ("" : Str)) := by
  intro e
  have e : ltx l = ltx [] := V.str.inj e
  exact h (ltx_inj e)
def MdAt (K : PySem.W.Frag) (m qual : Str) (j : Nat) (g : Addr) : Prop := ∃ fd, FunD K m qual (defArgs (inR j)) (defBody (inR j)) (defScope (inR j)) [] [] g fd
structure Mr (P : Program) (w : World) (K : PySem.W.Frag) (mg : Str → Option Value) (base : Heap) (k : Nat) (C : Addr) (ps : List Str) (sp : Sp) : Prop where
  ex : ∃ (f : Addr) (fd : FuncData), Mk K C f ∧ FnOk P w K mg base CX0 k f fd ps sp ∧ Binds K fd ps []
section
variable {P : Program} {w : World} {K : PySem.W.Frag} {mg : Str → Option Value} {base : Heap}
theorem md_ok {m qual : Str} {j : Nat} {g : Addr} {N ps : List Str} {k : Nat} {sp : Sp} (D : MdAt K m qual j g) (S : FnScope N ps (defScope (inR j)))
    (hb : ∀ (kV doc pm : Value) (an : Option Addr) (cdv ct : Value) (us : List Value), us.length = ps.length → bindArgs (PySem.W.fnOf m qual (defArgs (inR j)) (defBody (inR j)) (defScope (inR j)) .none kV doc pm an cdv ct) ⟨us, []⟩ = pure (ps.zip us))
    (len : ∀ vs H Q E, sp vs H Q E → vs.length = ps.length)
    (hbody : ∀ (f : Addr) (cdv : Value) (A : Around) (outer : List Env) (s : Shared) (H : Hp) (vs : List V) (Q : VK) (E : XK), Room k (A.deeper (envOfC qual (defScope (inR j)) s.heap.objs.size f cdv)) → sp vs H Q E →
      ∃ t, PSs (cxOf CX0 P w K mg base N qual (defScope (inR j)) f cdv A outer s H E).nox (defBody (inR j)) t ∧ t { nx := fun _ H' => Q .non H', rt := Q } (start N vs) H) :
    ∃ fd, FnOk P w K mg base CX0 (k + 1) g fd ps sp ∧ Binds K fd ps [] := by
  obtain ⟨fd, F⟩ := D
  refine ⟨fd, F.ok S len ?_, F.bindsN hb⟩
  intro cdv A outer s H vs Q E hr h
  obtain ⟨t, h1, h2⟩ := hbody g cdv A outer s H vs Q E hr h
  exact ⟨t, h1.nox, h2⟩
end
section
variable {X : Cx}
/-- c ? a : b as a test -/
def tIfT (tc ta tb : TT) : TT := fun σ H Q => tc σ H fun c H1 => if c = true then ta σ H1 Q else tb σ H1 Q
theorem pt_ifx {c a b : Expr} {pos : Pos} {tc ta tb : TT} (hc : PT X c tc) (ha : PT X a ta) (hb : PT X b tb) : PT X (.IfExp c a b pos) (tIfT tc ta tb) := by
  refine ⟨fun pins s σ H Q I h => ?_⟩
  refine PyProof.Rows.isTrue_IfExp (thn (hc.run pins s σ H _ I h) fun d s1 ⟨H1, I1, q1⟩ => ?_)
  cases d with
  | true => exact ha.run pins s1 σ H1 Q I1 q1
  | false => exact hb.run pins s1 σ H1 Q I1 q1
theorem pe_mk {k j : Nat} {C : Addr} {x : Str} {ps : List Str} {sp : Sp} {p pos : Pos} {e : Expr} {es : List Expr} {t : TA} (M : Mr X.prog X.w X.K X.mg X.base k C ps sp) (hm : X.mg x = some (.ref C)) (hr : Room j X.A) (hk : k + 1 ≤ j) (hg : Gl X x)
    (ha : PA X (e :: es) t) (hdb : (x == ("__debug__" : Str)) = false := by decide) (he : starEach (e :: es) X.env = (false, eval e X.env) :: starEach es X.env := by rfl) (hpl : (backTo pos (starEach es X.env)).any (·.1) = false := by rfl) :
    PE X (.Call (.Name x p) (e :: es) [] pos) (tMake C sp [] E0 t) := by
  obtain ⟨f, fd, M, F, b⟩ := M.ex
  exact pe_make M F (hr.mono hk) hg hm b .nil pass0 ha hdb he hpl
end
/-- f(last = .., .., first = ..): all by keywords, from the last -/
def kwB {α : Type} (us ws : List α) : List α := match us with
  | [] => ws.reverse
  | _ => []
structure Ck (P : Program) (w : World) (K : PySem.W.Frag) (mg : Str → Option Value) (base : Heap) (k : Nat) (x : Str) (ps : List Str) (sp : Sp) : Prop where
  ex : ∃ (f : Addr) (fd : FuncData), FnOk P w K mg base CX0 k f fd ps sp ∧ mg x = some (.ref f) ∧ PySem.W.keepIn K (.ref f) = true ∧ KBinds K fd ps ps.reverse kwB kwB ∧ FdAt K f fd
theorem Ck.any {P : Program} {w : World} {K : PySem.W.Frag} {mg : Str → Option Value} {base : Heap} {k : Nat} {x : Str} {ps : List Str} {α : Type} {sp : α → Sp} (d0 : α) (c : ∀ d, Ck P w K mg base k x ps (sp d)) : Ck P w K mg base k x ps (spAny sp) := by
  obtain ⟨f, fd, F, hm, kp, b, lk⟩ := (c d0).ex
  have key : ∀ d, FnOk P w K mg base CX0 k f fd ps (sp d) := by
    intro d
    obtain ⟨f', fd', F', hm', _, _, lk'⟩ := (c d).ex
    rw [hm] at hm'
    injection hm' with e
    injection e with e
    subst e
    rw [← lk.same lk']
    exact F'
  exact ⟨f, fd, ⟨fun vs H Q E ⟨d, h⟩ => (key d).len vs H Q E h, fun A outer s H args us vs Q E hr he hb hv ⟨d, h⟩ => (key d).run A outer s H args us vs Q E hr he hb hv h⟩, hm, kp, b, lk⟩
section
variable {P : Program} {w : World} {K : PySem.W.Frag} {mg : Str → Option Value} {base : Heap}
theorem clk_of {x : Str} {i : Nat} {N ps : List Str} {k : Nat} {sp : Sp} (D : DefAt K mg x i) (S : FnScope N ps (defScope (top i)))
    (hb : ∀ (kV doc pm : Value) (an : Option Addr) (cdv ct : Value) (us : List Value), us.length = ps.length → bindArgs (PySem.W.fnOf x x (defArgs (top i)) (defBody (top i)) (defScope (top i)) .none kV doc pm an cdv ct) ⟨us, []⟩ = pure (ps.zip us))
    (hb2 : ∀ (kV doc pm : Value) (an : Option Addr) (cdv ct : Value) (us : List Value), us.length = ps.length → bindArgs (PySem.W.fnOf x x (defArgs (top i)) (defBody (top i)) (defScope (top i)) .none kV doc pm an cdv ct) ⟨[], ps.reverse.zip us⟩ = pure (ps.zip us.reverse))
    (hp : ps ≠ []) (len : ∀ vs H Q E, sp vs H Q E → vs.length = ps.length)
    (hbody : ∀ (f : Addr) (cdv : Value) (A : Around) (outer : List Env) (s : Shared) (H : Hp) (vs : List V) (Q : VK) (E : XK), Room k (A.deeper (envOfC x (defScope (top i)) s.heap.objs.size f cdv)) → sp vs H Q E →
      ∃ t, PSs (cxOf CX0 P w K mg base N x (defScope (top i)) f cdv A outer s H E).nox (defBody (top i)) t ∧ t { nx := fun _ H' => Q .non H', rt := Q } (start N vs) H) : Cl P w K mg base (k + 1) x ps sp ∧ Ck P w K mg base (k + 1) x ps sp := by
  obtain ⟨f, fd, F, hm⟩ := D
  have ok : FnOk P w K mg base CX0 (k + 1) f fd ps sp := by
    refine F.ok S len ?_
    intro cdv A outer s H vs Q E hr h
    obtain ⟨t, h1, h2⟩ := hbody f cdv A outer s H vs Q E hr h
    exact ⟨t, h1.nox, h2⟩
  refine ⟨⟨f, fd, ok, hm, F.kp, F.bindsN hb, F.fdAt⟩, ⟨f, fd, ok, hm, F.kp, ⟨?_, ?_⟩, F.fdAt⟩⟩
  · obtain ⟨oc, od, dV, kV, doc, pm, an, cdv, ct, osl, rfl, lk, hcd, hD, hK⟩ := F.ex
    intro s us ws _ hl
    cases us with
    | cons _ _ => exact absurd (List.eq_nil_of_length_eq_zero hl.symm) hp
    | nil =>
      have hl : ws.reverse.length = ps.length := hl
      rw [List.length_reverse] at hl
      rcases hD with ⟨_, rfl⟩ | ⟨e, _⟩
      · exact .of_eq (hb2 kV doc pm an cdv ct ws hl)
      · exact absurd rfl e
  · intro vs us zs ws r1 r2
    cases r1 with
    | nil => exact r2.reverse
    | cons _ _ => exact .nil
end
section
variable {X : Cx}
theorem pe_ck {k j : Nat} {x : Str} {ps : List Str} {sp : Sp} {p pos : Pos} {kws : List Keyword} {tk : TA} (c : Ck X.prog X.w X.K X.mg X.base k x ps sp) (hr : Room j X.A) (hk : k ≤ j) (hg : Gl X x) (hkw : PK X kws tk)
    (hall : (backToKw pos (keywordEach kws X.env)).all (·.1.isSome) = true := by rfl) (hks : (backToKw pos (keywordEach kws X.env)).filterMap (·.1) = ps.reverse := by rfl) (hdb : (x == ("__debug__" : Str)) = false := by decide)
    (hpl : ((backTo pos (starEach [] X.env)).any (·.1) || (backToKw pos (keywordEach kws X.env)).any (·.1.isNone)) = false := by rfl) : PE X (.Call (.Name x p) [] kws pos) (tCallK sp kwB E0 tNil tk) := by
  obtain ⟨f, fd, F, hm, kp, b, _⟩ := c.ex
  exact pe_clK F hm kp b hr hk hg hkw hall hks hdb hpl
end
end K30
set_option Elab.async false
set_option linter.all false
set_option maxRecDepth 100000
set_option maxHeartbeats 4000000
namespace K30
open PySem PySem.Spec PyProof.Rows L2 K30R
section
variable {P : Program} {w : World} {K : PySem.W.Frag} {mg : Str → Option Value} {base : Heap} {C : Addr}
abbrev N_Rsigns : List Str := ["self"]
abbrev P_Rsigns : List Str := ["self"]
theorem sc_Rsigns : FnScope N_Rsigns P_Rsigns (defScope (inR 1)) := ⟨rfl, rfl, rfl, by decide +kernel, rfl, by decide +kernel, by decide +kernel⟩
/-- a field of the parts -/
def spPart (C : Addr) (j : Nat) : Sp := fun vs H Q _ => ∃ x dx fs t r0 ra ea v, vs = [.ref x] ∧ H x = some (.ins C dx fs) ∧ fs.lookup ("parts" : Str) = some (.ref t) ∧ H t = some (.tup [r0, ra, ea]) ∧ [r0, ra, ea][j]? = some v ∧ Q v H
theorem md_signs {g : Addr} (D : MdAt K "signs" "Reader.signs" 1 g) (T : Tx K mg C) : ∃ fd, FnOk P w K mg base CX0 1 g fd P_Rsigns (spPart C 0) ∧ Binds K fd P_Rsigns [] := by
  refine md_ok (N := N_Rsigns) D sc_Rsigns (fun _ _ _ _ _ _ us hl => match us, hl with | [_], _ => rfl) ?_ ?_
  · rintro vs H Q E ⟨x, dx, fs, t, r0, ra, ea, v, rfl, _⟩
    rfl
  · rintro f cdv A outer s H vs Q E hr ⟨x, dx, fs, t, r0, ra, ea, v, rfl, h1, h2, h3, h4, q⟩
    refine ⟨_, (pss_one (ps_ret (pe_ix (zT K) (zFld K (pv 0)) pe_int (fun _ _ => rfl)))), ?_⟩
    exact ⟨_, rfl, x, C, dx, fs, _, rfl, h1, T.cl, T.nparts, h2, t, _, 0, v, rfl, rfl, SqT.of h3, atI_nat h4, q⟩
abbrev N_Rarrows : List Str := ["self"]
abbrev P_Rarrows : List Str := ["self"]
theorem sc_Rarrows : FnScope N_Rarrows P_Rarrows (defScope (inR 2)) := ⟨rfl, rfl, rfl, by decide +kernel, rfl, by decide +kernel, by decide +kernel⟩
theorem md_arrows {g : Addr} (D : MdAt K "arrows" "Reader.arrows" 2 g) (T : Tx K mg C) : ∃ fd, FnOk P w K mg base CX0 1 g fd P_Rarrows (spPart C 1) ∧ Binds K fd P_Rarrows [] := by
  refine md_ok (N := N_Rarrows) D sc_Rarrows (fun _ _ _ _ _ _ us hl => match us, hl with | [_], _ => rfl) ?_ ?_
  · rintro vs H Q E ⟨x, dx, fs, t, r0, ra, ea, v, rfl, _⟩
    rfl
  · rintro f cdv A outer s H vs Q E hr ⟨x, dx, fs, t, r0, ra, ea, v, rfl, h1, h2, h3, h4, q⟩
    refine ⟨_, (pss_one (ps_ret (pe_ix (zT K) (zFld K (pv 0)) pe_int (fun _ _ => rfl)))), ?_⟩
    exact ⟨_, rfl, x, C, dx, fs, _, rfl, h1, T.cl, T.nparts, h2, t, _, 1, v, rfl, rfl, SqT.of h3, atI_nat (j := 1) h4, q⟩
abbrev N_Rends : List Str := ["self"]
abbrev P_Rends : List Str := ["self"]
theorem sc_Rends : FnScope N_Rends P_Rends (defScope (inR 3)) := ⟨rfl, rfl, rfl, by decide +kernel, rfl, by decide +kernel, by decide +kernel⟩
theorem md_ends {g : Addr} (D : MdAt K "ends" "Reader.ends" 3 g) (T : Tx K mg C) : ∃ fd, FnOk P w K mg base CX0 1 g fd P_Rends (spPart C 2) ∧ Binds K fd P_Rends [] := by
  refine md_ok (N := N_Rends) D sc_Rends (fun _ _ _ _ _ _ us hl => match us, hl with | [_], _ => rfl) ?_ ?_
  · rintro vs H Q E ⟨x, dx, fs, t, r0, ra, ea, v, rfl, _⟩
    rfl
  · rintro f cdv A outer s H vs Q E hr ⟨x, dx, fs, t, r0, ra, ea, v, rfl, h1, h2, h3, h4, q⟩
    refine ⟨_, (pss_one (ps_ret (pe_ix (zT K) (zFld K (pv 0)) pe_int (fun _ _ => rfl)))), ?_⟩
    exact ⟨_, rfl, x, C, dx, fs, _, rfl, h1, T.cl, T.nparts, h2, t, _, 2, v, rfl, rfl, SqT.of h3, atI_nat (j := 2) h4, q⟩
abbrev N_R__len__ : List Str := ["self"]
abbrev P_R__len__ : List Str := ["self"]
theorem sc_R__len__ : FnScope N_R__len__ P_R__len__ (defScope (inR 5)) := ⟨rfl, rfl, rfl, by decide +kernel, rfl, by decide +kernel, by decide +kernel⟩
def spLen (C : Addr) : Sp := fun vs H Q _ => ∃ x d, vs = [.ref x] ∧ RdAt C d H x ∧ Q (nV d.n) H
theorem md_len {g : Addr} (D : MdAt K "__len__" "Reader.__len__" 5 g) (T : Tx K mg C) : ∃ fd, FnOk P w K mg base CX0 1 g fd P_R__len__ (spLen C) ∧ Binds K fd P_R__len__ [] := by
  refine md_ok (N := N_R__len__) D sc_R__len__ (fun _ _ _ _ _ _ us hl => match us, hl with | [_], _ => rfl) ?_ ?_
  · rintro vs H Q E ⟨x, d, rfl, _⟩
    rfl
  · rintro f cdv A outer s H vs Q E hr ⟨x, d, rfl, ⟨dx, fs, t, h1, h2, ra, ea, h3, ⟨ps, h4, h5, _⟩, _⟩, q⟩
    refine ⟨_, (pss_one (ps_ret (pe_callB (zLen K) rfl T.nlen (by decide +kernel) (pa_cons (pe_ix (zT K) (zFld K (pv 0)) pe_int (fun _ _ => rfl)) pa_nil)))), ?_⟩
    refine ⟨_, rfl, x, C, dx, fs, _, rfl, h1, T.cl, T.nparts, h2, t, _, 1, _, rfl, rfl, SqT.of h3, atI_nat (j := 1) rfl, ra, _, rfl, .inr (SqT.of h4), ?_⟩
    rw [List.length_map, h5]
    exact q
abbrev N_R__init__ : List Str := ["self", "signs", "arrows", "ends"]
abbrev P_R__init__ : List Str := ["self", "signs", "arrows", "ends"]
theorem sc_R__init__ : FnScope N_R__init__ P_R__init__ (defScope (inR 0)) := ⟨rfl, rfl, rfl, by decide +kernel, rfl, by decide +kernel, by decide +kernel⟩
def spInit (C : Addr) (d : Dat) : Sp := fun vs H Q _ => ∃ x dx ra ea, vs = [.ref x, nV d.many, .ref ra, .ref ea] ∧ d.Ok ∧ H x = some (.ins C dx []) ∧ ArrAt d.rows H ra ∧ EndAt d.ends H ea ∧
  ∀ H' dx' fs t, (∀ b o, b ≠ x → H b = some o → H' b = some o) → H' x = some (.ins C dx' fs) → fs.lookup ("parts" : Str) = some (.ref t) → TrioAt d H' t → Q .non H'
theorem md_init {g : Addr} (D : MdAt K "__init__" "Reader.__init__" 0 g) (T : Tx K mg C) (c_check_signs : Cl P w K mg base 3 "check_signs" P_check_signs spCheckSigns) (c_are_arrows : Cl P w K mg base 3 "are_arrows" P_are_arrows spAreArrows)
    (c_are_stands : Cl P w K mg base 3 "are_stands" P_are_stands spAreStands) : ∃ fd, FnOk P w K mg base CX0 4 g fd P_R__init__ (spAny (spInit C)) ∧ Binds K fd P_R__init__ [] := by
  refine md_ok (N := N_R__init__) D sc_R__init__ (fun _ _ _ _ _ _ us hl => match us, hl with | [_, _, _, _], _ => rfl) ?_ ?_
  · rintro vs H Q E ⟨d, x, dx, ra, ea, rfl, _⟩
    rfl
  · rintro f cdv A outer s H vs Q E hr ⟨d, x, dx, ra, ea, rfl, ok, h1, h2, h3, q⟩
    refine ⟨_, (pss_cons (ps_expr (pe_cl c_check_signs hr (by omega) (by rfl) (pa_cons (pv 1) pa_nil)))
      (pss_cons (ps_if (pt_not (pt_val (pe_cl c_are_arrows hr (by omega) (by rfl) (pa_cons (pv 2) (pa_cons (pv 1) pa_nil))))) (pss_one ps_never) pss_nil)
      (pss_cons (ps_if (pt_not (pt_val (pe_cl c_are_stands hr (by omega) (by rfl) (pa_cons (pv 3) (pa_cons (pe_callB (zLen K) rfl T.nlen (by decide +kernel) (pa_cons (pv 2) pa_nil)) pa_nil))))) (pss_one ps_never) pss_nil)
      (pss_one (ps_fld (pv 0) (pe_tup (pa_cons (pv 1) (pa_cons (pv 2) (pa_cons (pv 3) pa_nil)))) rfl))))), ?_⟩
    have a1 := ok.m1
    have a2 := ok.m3
    have a3 := ok.n1
    have a4 := ok.n3
    refine ⟨_, rfl, _, rfl, a1, by omega, ?_⟩
    refine ⟨_, rfl, _, rfl, ra, d.rows, d.many, rfl, h2, a3, by omega, by omega, ok.rl, ok.gl, fun H1 hS1 => ⟨true, rfl, ?_⟩⟩
    obtain ⟨ps, t1, t2, t3⟩ := h2.ts hS1.ts
    have e3 : EndAt d.ends H1 ea := hS1 _ _ h3
    refine ⟨_, rfl, _, rfl, ra, _, rfl, .inr (SqT.of t1), ea, d.ends, d.n, ?_, e3, ?_, ok.el, ok.es, fun H2 hS2 => ⟨true, rfl, ?_⟩⟩
    · rw [List.length_map, t2]
      rfl
    · have : ∀ (l : List Nat) (lo : Nat), l.Pairwise (· < ·) → (∀ i ∈ l, lo ≤ i ∧ i < d.n) → l.length ≤ d.n - lo := by
        intro l
        induction l with
        | nil => intro lo _ _; exact Nat.zero_le _
        | cons x r ih =>
          intro lo hp hi
          obtain ⟨p1, p2⟩ := List.pairwise_cons.mp hp
          have hx := hi x (List.mem_cons_self ..)
          have := ih (x + 1) p2 (fun i hm => ⟨p1 i hm, (hi i (List.mem_cons_of_mem _ hm)).2⟩)
          rw [List.length_cons]
          omega
      have z := this d.ends 0 ok.es (fun i hi => ⟨Nat.zero_le _, ok.el i hi⟩)
      have z2 : d.n = d.rows.length := rfl
      omega
    refine ⟨_, rfl, _, rfl, _, rfl, n3, fun p hp => ?_⟩
    have hS3 := hS1.trans (hS2.trans (same_new (o := .tup [nV d.many, .ref ra, .ref ea]) hp))
    have hx := hS3 _ _ h1
    refine ⟨_, rfl, x, C, dx, [], rfl, hx, T.cl, T.nparts, by simp, ?_⟩
    refine q _ dx _ p ?_ upd_same rfl ?_
    · intro b o hb e
      rw [upd_ne hb]
      exact hS3 b o e
    · have px : p ≠ x := by
        intro e
        have z : H2 x = some (.ins C dx []) := (hS1.trans hS2) _ _ h1
        rw [e, z] at hp
        cases hp
      have ts : TS H (upd (upd H2 p (.tup [nV d.many, .ref ra, .ref ea])) x (.ins C dx (putF ("parts" : Str) (.ref p) []))) := by
        intro b zs e
        have nb : b ≠ x := fun z => by rw [z, h1] at e; cases e
        rw [upd_ne nb]
        exact hS3 _ _ e
      refine ⟨ra, ea, ?_, h2.ts ts, ts _ _ h3⟩
      rw [upd_ne px, upd_same]
abbrev N_check_lot : List Str := ["value", "signs"]
abbrev P_check_lot : List Str := ["value", "signs"]
theorem sc_check_lot : FnScope N_check_lot P_check_lot (defScope (top 23)) := ⟨rfl, rfl, rfl, by decide +kernel, rfl, by decide +kernel, by decide +kernel⟩
def spCheckLot : Sp := fun vs H Q _ => ∃ (l : List Nat) (n : Nat), vs = [.str (ltx l), nV n] ∧ Lot n l ∧ n ≤ 8 ∧ ∀ H', Same H H' → Q .non H'
theorem cl_check_lot (D : DefAt K mg "check_lot" 23) (c_is_lot : Cl P w K mg base 1 "is_lot" P_is_lot spIsLot) : Cl P w K mg base 2 "check_lot" P_check_lot spCheckLot := by
  refine cl_of (N := N_check_lot) D sc_check_lot (fun _ _ _ _ _ _ us hl => match us, hl with | [_, _], _ => rfl) ?_ ?_
  · rintro vs H Q E ⟨l, n, rfl, _⟩
    rfl
  · rintro f cdv A outer s H vs Q E hr ⟨l, n, rfl, hl, hn, q⟩
    refine ⟨_, (pss_one (ps_if (PW.pt (pw_or (pt_not (pt_val (pe_cl c_is_lot hr (by omega) (by rfl) (pa_cons (pv 0) (pa_cons (pv 1) pa_nil))))) (pw_or1 (pt_cmpR op_eq (pv 0) pe_str (nomark _))))) (pss_one ps_never) pss_nil)), ?_⟩
    refine ⟨_, rfl, _, rfl, l, n, rfl, hl, hn, fun H1 hS => ⟨true, rfl, _, rfl, rfl, _, rfl, ?_⟩⟩
    rw [decide_eq_false (ltx_ne hl.ne)]
    exact q H1 hS
abbrev N_check_duel : List Str := ["reader", "first", "second"]
abbrev P_check_duel : List Str := ["reader", "first", "second"]
theorem sc_check_duel : FnScope N_check_duel P_check_duel (defScope (top 24)) := ⟨rfl, rfl, rfl, by decide +kernel, rfl, by decide +kernel, by decide +kernel⟩
def spCheckDuel (C : Addr) : Sp := fun vs H Q _ => ∃ x d l m, vs = [.ref x, .str (ltx l), .str (ltx m)] ∧ RdAt C d H x ∧ d.Ok ∧ Lot d.many l ∧ Lot d.many m ∧ ∀ H', Same H H' → Q .non H'
theorem cl_check_duel (D : DefAt K mg "check_duel" 24) (T : Tx K mg C) (c_check_reader : Cl P w K mg base 1 "check_reader" P_check_reader (spCheckReader C)) (c_check_lot : Cl P w K mg base 2 "check_lot" P_check_lot spCheckLot) (p_signs : Pr P w K mg base 1 C "signs" (spPart C 0)) :
    Cl P w K mg base 3 "check_duel" P_check_duel (spCheckDuel C) := by
  refine cl_of (N := N_check_duel) D sc_check_duel (fun _ _ _ _ _ _ us hl => match us, hl with | [_, _, _], _ => rfl) ?_ ?_
  · rintro vs H Q E ⟨x, d, l, m, rfl, _⟩
    rfl
  · rintro f cdv A outer s H vs Q E hr ⟨x, d, l, m, rfl, hx, ok, hl, hm, q⟩
    refine ⟨_, (pss_cons (ps_expr (pe_cl c_check_reader hr (by omega) (by rfl) (pa_cons (pv 0) pa_nil)))
      (pss_cons (ps_expr (pe_cl c_check_lot hr (by omega) (by rfl) (pa_cons (pv 1) (pa_cons (pe_pr T.cl p_signs hr (by decide) (pv 0)) pa_nil))))
      (pss_one (ps_expr (pe_cl c_check_lot hr (by omega) (by rfl) (pa_cons (pv 2) (pa_cons (pe_pr T.cl p_signs hr (by decide) (pv 0)) pa_nil))))))), ?_⟩
    have m8 : d.many ≤ 8 := by have := ok.m3; omega
    obtain ⟨dx, fs, t, h1, h2, ra, ea, h3, _⟩ := hx
    refine ⟨_, rfl, x, dx, fs, rfl, h1, ?_⟩
    refine ⟨_, rfl, _, rfl, x, dx, fs, rfl, h1, x, dx, fs, t, _, _, _, _, rfl, h1, h2, h3, rfl, l, _, rfl, hl, m8, fun H1 hS1 => ?_⟩
    exact ⟨_, rfl, _, rfl, x, dx, fs, rfl, hS1 _ _ h1, x, dx, fs, t, _, _, _, _, rfl, hS1 _ _ h1, h2, hS1 _ _ h3, rfl, m, _, rfl, hm, m8, fun H2 hS2 => q H2 (hS1.trans hS2)⟩
end
end K30
set_option Elab.async false
set_option linter.all false
set_option maxRecDepth 100000
set_option maxHeartbeats 4000000
namespace K30
open PySem PySem.Spec PyProof.Rows L2 K30R
/-! ### spots as pairs in the heap -/
def ky (s t : Nat) : List Key := [.inl (s : Int), .inl (t : Int)]
theorem ky_inj {s t s' t' : Nat} : ky s t = ky s' t' ↔ s = s' ∧ t = t' := by
  constructor
  · intro h
    unfold ky at h
    simp at h
    exact ⟨by omega, by omega⟩
  · rintro ⟨rfl, rfl⟩
    rfl
def spD (e : Nat × Nat) : PyData := .tuple [.int (e.1 : Int), .int (e.2 : Int)]
theorem lay_sp (e : Nat × Nat) : (spD e).canLay0 = true := by simp [spD, PyData.canLay0, PyData.canLayAll0]
theorem dep_sp (e : Nat × Nat) : (spD e).depth ≤ 1 := by simp [spD, PyData.depth, PyData.depthAll]
theorem eqv_sp (a b : Nat × Nat) : PyData.eqv (spD a) (spD b) = decide (a = b) := by
  obtain ⟨a1, a2⟩ := a
  obtain ⟨b1, b2⟩ := b
  simp only [spD, PyData.eqv, PyData.eqvAll, Bool.and_true]
  apply Bool.eq_iff_iff.mpr
  simp only [Bool.and_eq_true, beq_iff_eq, decide_eq_true_eq, Prod.mk.injEq]
  omega
def PairAt (H : Hp) (e : Addr × Nat × Nat) : Prop := H e.1 = some (.tup [nV e.2.1, nV e.2.2])
theorem PairAt.dp {K : PySem.W.Frag} {H : Hp} {e : Addr × Nat × Nat} (h : PairAt H e) : Dp K H (.ref e.1) (spD e.2) := .tup (SqT.of h) (.cons (.int _) (.cons (.int _) .nil))
def LatAt (H : Hp) (q : Addr) (sps : List (Nat × Nat)) : Prop := ∃ ts : List (Addr × Nat × Nat), H q = some (.lst (ts.map fun e => .ref e.1)) ∧ ts.map (·.2) = sps ∧ ∀ e ∈ ts, PairAt H e
theorem LatAt.same {H H' : Hp} {q : Addr} {sps : List (Nat × Nat)} (h : LatAt H q sps) (e : Same H H') : LatAt H' q sps := by
  obtain ⟨ts, h1, h2, h3⟩ := h
  exact ⟨ts, e _ _ h1, h2, fun x hx => e _ _ (h3 x hx)⟩
theorem LatAt.dp {K : PySem.W.Frag} {H : Hp} {q : Addr} {sps : List (Nat × Nat)} (h : LatAt H q sps) : Dp K H (.ref q) (.list (sps.map spD)) := by
  obtain ⟨ts, h1, rfl, h3⟩ := h
  rw [List.map_map]
  exact .lst (SqL.of h1) (dpall fun e he => (h3 e he).dp)
theorem shp_sps (sps : List (Nat × Nat)) : SeqAt.shaped (.list (sps.map spD)) = true := shp_list (layall fun e _ => lay_sp e) (Nat.le_trans (depall (k := 1) fun e _ => dep_sp e) (by omega))
/-- one more at the end -/
theorem LatAt.snoc {H H1 : Hp} {q r : Addr} {sps : List (Nat × Nat)} {s t : Nat} (h : LatAt H q sps) (e : Same H H1) (hr : H1 r = some (.tup [nV s, nV t])) :
    ∃ xs, H1 q = some (.lst xs) ∧ xs.length = sps.length ∧ LatAt (upd H1 q (.lst (xs ++ [.ref r]))) q (sps ++ [(s, t)]) := by
  obtain ⟨ts, h1, rfl, h3⟩ := h
  have hq := e _ _ h1
  refine ⟨_, hq, by simp, ts ++ [(r, s, t)], ?_, by simp, ?_⟩
  · rw [upd_same, List.map_append]
    rfl
  · intro x hx
    have hx1 : PairAt H1 x := by
      rcases List.mem_append.mp hx with hx | hx
      · exact e _ _ (h3 x hx)
      · rw [List.mem_singleton.mp hx]
        exact hr
    have nq : x.1 ≠ q := by
      intro z
      unfold PairAt at hx1
      rw [z, hq] at hx1
      cases hx1
    unfold PairAt
    rw [upd_ne nq]
    exact hx1
/-! ### what a stage adds -/
def news (G : Game) (k i : Nat) : List (Nat × Nat) := (spots i).filter fun p => !G.W k p.1 p.2 && G.cond (G.W k) p.1 p.2
theorem news_succ (G : Game) (k i : Nat) : news G k (i + 1) = (news G k i ++ (if (!G.W k i 0 && G.cond (G.W k) i 0) = true then [(i, 0)] else [])) ++ (if (!G.W k i 1 && G.cond (G.W k) i 1) = true then [(i, 1)] else []) := by
  have e : spots (i + 1) = spots i ++ [(i, 0), (i, 1)] := by
    unfold spots
    rw [List.range_succ, List.flatMap_append]
    rfl
  unfold news
  rw [e, List.filter_append, List.filter_cons, List.filter_cons, List.filter_nil, List.append_assoc]
  congr 1
  cases (!G.W k i 0 && G.cond (G.W k) i 0) <;> cases (!G.W k i 1 && G.cond (G.W k) i 1) <;> rfl
theorem news_len (G : Game) (k i : Nat) : (news G k i).length ≤ 2 * i := by
  have := List.length_filter_le (fun p : Nat × Nat => !G.W k p.1 p.2 && G.cond (G.W k) p.1 p.2) (spots i)
  rw [spots_len] at this
  exact this
theorem mem_news {G : Game} {k i s t : Nat} : (s, t) ∈ news G k i ↔ (s < i ∧ t < 2) ∧ G.W k s t = false ∧ G.cond (G.W k) s t = true := by
  unfold news
  rw [List.mem_filter, mem_spots]
  simp
theorem news_nil {G : Game} {k n : Nat} (h : news G k n = []) : ∀ s t, s < n → t < 2 → G.W (k + 1) s t = G.W k s t := by
  intro s t hs ht
  show (G.W k s t || G.cond (G.W k) s t) = G.W k s t
  cases w : G.W k s t with
  | true => rfl
  | false =>
    cases c : G.cond (G.W k) s t with
    | false => rfl
    | true =>
      have : (s, t) ∈ news G k n := mem_news.mpr ⟨⟨hs, ht⟩, w, c⟩
      rw [h] at this
      cases this
theorem rk_news {G : Game} {k n s t : Nat} (hs : s < n) (ht : t < 2) : G.rk (k + 1) s t = if (s, t) ∈ news G k n then some (k + 1) else G.rk k s t := by
  have e : G.W (k + 1) s t = (G.W k s t || G.cond (G.W k) s t) := rfl
  show (match G.rk k s t with | some r => some r | none => if G.W (k + 1) s t = true then some (k + 1) else none) = _
  cases q : G.rk k s t with
  | some r =>
    have w : G.W k s t = true := by
      rw [← rk_isSome, q]
      rfl
    have nm : ¬ (s, t) ∈ news G k n := fun h => by
      have := (mem_news.mp h).2.1
      rw [w] at this
      cases this
    rw [if_neg nm]
  | none =>
    have w := rk_none.mp q
    show (if G.W (k + 1) s t = true then some (k + 1) else none) = _
    rw [e, w, Bool.false_or]
    cases c : G.cond (G.W k) s t with
    | true => rw [if_pos rfl, if_pos (mem_news.mpr ⟨⟨hs, ht⟩, w, c⟩)]
    | false => rw [if_neg (by decide), if_neg (fun h => by have := (mem_news.mp h).2.2; rw [c] at this; cases this)]
theorem ke_new {c : Addr} {H0 H H' : Hp} (h0 : H0 c = none) (a : Same H0 H) (b : Ke c H H') : Same H0 H' := by
  intro x o e
  exact b x o (fun z => by rw [z, h0] at e; cases e) (a x o e)
theorem all_map' {α : Type} (f : α → Bool) (l : List α) : (l.map f).all id = l.all f := by
  induction l with
  | nil => rfl
  | cons x r ih => simp [ih]
theorem any_map' {α : Type} (f : α → Bool) (l : List α) : (l.map f).any id = l.any f := by
  induction l with
  | nil => rfl
  | cons x r ih => simp [ih]
theorem Dat.Ok.elen {d : Dat} (ok : d.Ok) : d.ends.length ≤ d.n := by
  by_cases h : d.ends = []
  · rw [h]
    exact Nat.zero_le _
  · exact Lot.len ⟨h, ok.es, ok.el⟩
/-! ### parts of the walk of ranks_of -/
section
variable {K : PySem.W.Frag}
theorem reach_lc {σ : L2.St} {H1 : Hp} {D gl p : Addr} {Qd : Hp → Prop} {i4 i13 t n : Nat} {os : List (Option Nat)} {rk : Nat → Nat → Option Nat} (h4 : (wipe σ [i13])[i4]? = some (some (.ref p))) (n4 : i13 ≠ i4) (hl : i13 < σ.length) (hD : H1 D = none) (hg : H1 gl = some (.lst (os.map oV))) (hlen : os.length ≤ 100)
    (hr : RkAt rk n H1 p) (ho : ∀ o ∈ os, ∀ s, o = some s → s < n) (ht : t < 2)
    (hd : ∀ H', Same H1 H' → H' D = some (.lst ((os.map (rcd rk t)).map V.bl)) → Qd H') :
    LcGo (Itl K gl) (gName i13) tYes (tCall spIsReached [] E0 (tCons (tVar i4) (tCons (tVar i13) (tCons (tC (nV t)) tNil)))) [i13] σ H1 D Qd := by
  refine lc_gen (walk_list (xs := os.map oV)) (fun i => (os[i]?).map fun o => V.bl (rcd rk t o)) (by rw [List.length_map]; omega) hD (fun _ h => SqL.of (h _ _ hg)) ?_ ?_
  · rintro i x H2 _ R R0 hi hS ⟨rfl, hv⟩ hR _
    obtain ⟨o, e1, e2, rfl⟩ := map_at hv
    refine ⟨?_, ?_⟩
    · show (((σ.set i13 none).set i13 (some (oV o))).set i13 none) = σ.set i13 none
      rw [List.set_set, List.set_set]
    refine ⟨.ref p, ?_, oV o, ?_, p, o, t, rk, n, rfl, hr.same hS, ho o e2, ht, fun H3 h3 => hR _ (by rw [e1]; rfl) _ h3⟩
    · rw [List.getElem?_set_ne n4]
      exact h4
    · rw [List.getElem?_set_self (by rw [wipe_length]; exact hl)]
  · intro H2 hS hL
    rw [List.length_map, outs_map] at hL
    rw [List.map_map] at hd
    exact hd H2 hS hL
/-- if (s, t) not in ranks and ..: later.append((s, t)) -/
theorem push_if {D : Ends} {σ : L2.St} {H : Hp} {p q : Addr} {kvs : List (List Key × V)} {s t : Nat} {o : Option V} {sps : List (Nat × Nat)} {c2 : Bool} {u : TT} (h4 : σ[4]? = some (some (.ref p))) (h6 : σ[6]? = some (some (.ref q))) (h7 : σ[7]? = some (some (nV s)))
    (hp : H p = some (.dT kvs)) (hv : valV kvs (ky s t) = o) (hl : LatAt H q sps) (hlen : sps.length ≤ 100) (hu : ∀ H2 Q, Same H H2 → Q c2 H2 → u σ H2 Q)
    (hD : ∀ H2, Ke q H H2 → LatAt H2 q (sps ++ if (!o.isSome && c2) = true then [(s, t)] else []) → D.nx σ H2) :
    tIfS (tAnd (tB (tDNotIn (tTup (tCons (tVar 7) (tCons (tC (nV t)) tNil))) (tVar 4))) u) (tDrop (tBM K "list" rAppend (tVar 6) (tCons (tTup (tCons (tVar 7) (tCons (tC (nV t)) tNil))) tNil))) tNext D σ H := by
  refine ⟨_, h7, n2, fun r hr => ?_⟩
  have s1 : Same H (upd H r (.tup [nV s, nV t])) := same_new hr
  refine ⟨_, h4, p, valV kvs (ky s t), rfl, DGet.t (s1 _ _ hp) upd_same, _, rfl, ?_⟩
  rw [hv]
  cases o with
  | some v =>
    refine hD _ s1.ke ?_
    have := hl.same s1
    rw [show (!(some v : Option V).isSome && c2) = false from rfl, if_neg (by decide), List.append_nil]
    exact this
  | none =>
    refine hu _ _ s1 ?_
    cases c2 with
    | false =>
      refine hD _ s1.ke ?_
      rw [show (!(none : Option V).isSome && false) = false from rfl, if_neg (by decide), List.append_nil]
      exact hl.same s1
    | true =>
      refine ⟨_, h6, ?_, _, h7, n2, fun r2 hr2 => ?_⟩
      · obtain ⟨ts, l1, _⟩ := hl
        exact .inl ⟨rfl, _, SqL.of (s1 _ _ l1)⟩
      · have s2 := same_new (o := .tup [nV s, nV t]) hr2
        obtain ⟨xs, x1, x2, x3⟩ := hl.snoc (s := s) (t := t) (s1.trans s2) upd_same
        refine ⟨q, xs, _, rfl, rfl, x1, small1000 (by omega), hD _ (ke_upd (s1.trans s2).ke (.inr rfl)) ?_⟩
        rw [show (!(none : Option V).isSome && true) = true from rfl, if_pos rfl]
        exact x3
end
end K30
set_option Elab.async false
set_option linter.all false
set_option maxRecDepth 100000
set_option maxHeartbeats 4000000
namespace K30
open PySem PySem.Spec PyProof.Rows L2 K30R
def gameOf (d : Dat) (chs : List (List Nat)) (m : List Nat) (b : Bool) : Game := { E := fun s => decide (s ∈ d.ends), f := fun s => ((chs[s]?).getD []).map (d.arr s), g := fun s => m.map (d.arr s), b := b }
structure Chs (d : Dat) (chs : List (List Nat)) : Prop where
  len : chs.length = d.n
  lt : ∀ l ∈ chs, ∀ i ∈ l, i < d.many
  sz : ∀ l ∈ chs, l.length ≤ 100
theorem closed_game {d : Dat} (ok : d.Ok) (chs : List (List Nat)) (m : List Nat) (b : Bool) : Closed (gameOf d chs m b) d.n := by
  intro s hs
  refine ⟨?_, ?_⟩
  · intro o ho s' e
    obtain ⟨i, _, hi⟩ := List.mem_map.mp ho
    exact ok.arr_lt (hi.trans e)
  · intro o ho s' e
    obtain ⟨i, _, hi⟩ := List.mem_map.mp ho
    exact ok.arr_lt (hi.trans e)
/-- the state of the while of ranks_of -/
def WhAt (H : Hp) (x a p : Addr) (mt : Str) (b : Bool) (G : Game) (n μ : Nat) (σ : L2.St) (H' : Hp) : Prop := ∃ k y6 y7 y8 y9 y10 y11 y12 y13 kvs, μ = left G n k ∧ left G n k + k ≤ 2 * n ∧
  σ = [some (.ref x), some (.ref a), some (.str mt), some (.bl b), some (.ref p), some (nV k), y6, y7, y8, y9, y10, y11, y12, y13] ∧ Same H H' ∧ H' p = some (.dT kvs) ∧ kvs.length ≤ 6 * (k + 1) ∧ ∀ s t, s < n → t < 2 → valV kvs (ky s t) = (G.rk k s t).map nV
section
variable {P : Program} {w : World} {K : PySem.W.Frag} {mg : Str → Option Value} {base : Heap} {C : Addr}
abbrev N_ranks_of : List Str := ["reader", "choices", "second", "is_bound", "ranks", "size", "later", "stand", "own", "others", "spot", "end", "turn", "goal"]
abbrev P_ranks_of : List Str := ["reader", "choices", "second", "is_bound"]
theorem sc_ranks_of : FnScope N_ranks_of P_ranks_of (defScope (top 27)) := ⟨rfl, rfl, rfl, by decide +kernel, rfl, by decide +kernel, by decide +kernel⟩
def spRanksOf (C : Addr) (d : Dat) : Sp := fun vs H Q _ => ∃ x a m b chs, vs = [.ref x, .ref a, .str (ltx m), .bl b] ∧ RdAt C d H x ∧ d.Ok ∧ H a = some (.lst (chs.map fun l => .str (ltx l))) ∧ Chs d chs ∧ (∀ i ∈ m, i < d.many) ∧ m.length ≤ 100 ∧
  ∀ p H', Same H H' → RkAt ((gameOf d chs m b).rk (2 * d.n)) d.n H' p → Q (.ref p) H'
theorem cl_ranks_of (d : Dat) (D : DefAt K mg "ranks_of" 27) (T : Tx K mg C) (p_ends : Pr P w K mg base 1 C "ends" (spPart C 2)) (m_len : Ml P w K mg base 1 C "__len__" (spLen C)) (c_goals_by : Cl P w K mg base 3 "goals_by" P_goals_by (spGoalsBy C d))
    (c_is_reached : Cl P w K mg base 1 "is_reached" P_is_reached spIsReached) : Cl P w K mg base 4 "ranks_of" P_ranks_of (spRanksOf C d) := by
  refine cl_of (N := N_ranks_of) D sc_ranks_of (fun _ _ _ _ _ _ us hl => match us, hl with | [_, _, _, _], _ => rfl) ?_ ?_
  · rintro vs H Q E ⟨x, a, m, b, chs, rfl, _⟩
    rfl
  · rintro f cdv A outer s H vs Q E hr ⟨x, a, m, b, chs, rfl, hx, ok, ha, hc, hm, hm2, q⟩
    refine ⟨_, (pss_cons (ps_set (i := 4) sc_ranks_of.nd rfl (Or.inr rfl) (pe_dc2 (own := [("end", 11), ("turn", 12)]) (vs1 := [12]) rfl (hu1 hr) sc_ranks_of.nd (wT K (pe_pr T.cl p_ends hr (by decide) (pv 0))) (blkOk_by (N := N_ranks_of) (sc := (defScope (top 27))) (by decide +kernel)) (by decide) (fun _ _ _ _ _ => (pg_name (i := 11) sc_ranks_of.nd rfl (Or.inl rfl))) (fun _ _ _ _ _ => (wT K (pe_tup (pa_cons pe_int (pa_cons pe_int pa_nil))))) (fun _ _ _ _ _ => (pg_name (i := 12) sc_ranks_of.nd rfl (Or.inl rfl))) (fun _ _ _ _ _ => (pe_tup (pa_cons (pv 11) (pa_cons (pv 12) pa_nil)))) (fun _ _ _ _ _ => pe_int)))
      (pss_cons (ps_set (i := 5) sc_ranks_of.nd rfl (Or.inl rfl) pe_int)
      (pss_cons (ps_while PassesOwn.never (pt_cmpR op_ge (pv 5) pe_int (nomark _)) (pss_cons (ps_par (i := 5) (j := 6) rfl sc_ranks_of.nd rfl rfl (by decide) rfl rfl (pa_cons (pe_op op_add (pv 5) pe_int) (pa_cons (pe_lst pa_nil) pa_nil)) rfl)
      (pss_cons (ps_for PassesOwn.never rfl (pi_range1 rfl T.nrange (pa_cons (pe_callB (call_lenI m_len hr (by decide)) rfl T.nlen (by decide +kernel) (pa_cons (pv 0) pa_nil)) pa_nil)) (pg_name (i := 7) sc_ranks_of.nd rfl (Or.inl rfl)) (pss_cons (ps_setLc (i := 8) (own := [("goal", 13)]) (g := gName 13) (tt := tYes) rfl sc_ranks_of.nd rfl rfl (sw_true rfl rfl rfl (by decide +kernel)) (wL K (pe_cl c_goals_by hr (by omega) (by rfl) (pa_cons (pv 0) (pa_cons (pv 7) (pa_cons (pe_ix (zL K) (pv 1) (pv 7) (fun _ _ => rfl)) pa_nil))))) (blkOk_by (N := N_ranks_of) (sc := (defScope (top 27))) (by decide +kernel)) (fun _ _ _ _ _ => (pg_name (i := 13) sc_ranks_of.nd rfl (Or.inl rfl))) (fun _ _ _ _ _ => pts_nil) (fun _ _ _ _ _ => (pe_cl c_is_reached hr (by omega) (by rfl) (pa_cons (pv 4) (pa_cons (pv 13) (pa_cons pe_int pa_nil))))))
      (pss_cons (ps_setLc (i := 9) (own := [("goal", 13)]) (g := gName 13) (tt := tYes) rfl sc_ranks_of.nd rfl rfl (sw_true rfl rfl rfl (by decide +kernel)) (wL K (pe_cl c_goals_by hr (by omega) (by rfl) (pa_cons (pv 0) (pa_cons (pv 7) (pa_cons (pv 2) pa_nil))))) (blkOk_by (N := N_ranks_of) (sc := (defScope (top 27))) (by decide +kernel)) (fun _ _ _ _ _ => (pg_name (i := 13) sc_ranks_of.nd rfl (Or.inl rfl))) (fun _ _ _ _ _ => pts_nil) (fun _ _ _ _ _ => (pe_cl c_is_reached hr (by omega) (by rfl) (pa_cons (pv 4) (pa_cons (pv 13) (pa_cons pe_int pa_nil))))))
      (pss_cons (ps_if (PW.pt (pw_and (pt_cmp (pc_dnotin (hu1 hr) (pe_tup (pa_cons (pv 7) (pa_cons pe_int pa_nil))) (pv 4))) (pw_and1 (pt_ifx (pt_val (pv 3)) (pt_val (pe_callB (zAll K rfl) rfl T.nall (by decide +kernel) (pa_cons (pv 8) pa_nil))) (pt_val (pe_callB (zAny K rfl) rfl T.nany (by decide +kernel) (pa_cons (pv 8) pa_nil))))))) (pss_one (ps_expr (zApp K (pv 6) (pa_cons (pe_tup (pa_cons (pv 7) (pa_cons pe_int pa_nil))) pa_nil)))) pss_nil)
      (pss_one (ps_if (PW.pt (pw_and (pt_cmp (pc_dnotin (hu1 hr) (pe_tup (pa_cons (pv 7) (pa_cons pe_int pa_nil))) (pv 4))) (pw_and1 (pt_val (pe_callB (zAll K rfl) rfl T.nall (by decide +kernel) (pa_cons (pv 9) pa_nil)))))) (pss_one (ps_expr (zApp K (pv 6) (pa_cons (pe_tup (pa_cons (pv 7) (pa_cons pe_int pa_nil))) pa_nil)))) pss_nil))))))
      (pss_cons (ps_if (pt_cmpR (zEqD K hr) (pv 6) (pe_lst pa_nil) (nomark _)) (pss_one (ps_ret (pv 4))) pss_nil)
      (pss_one (ps_for PassesOwn.never rfl (wL K (pv 6)) (pg_name (i := 10) sc_ranks_of.nd rfl (Or.inl rfl)) (pss_one (ps_dput (hu1 hr) (pv 4) (pv 10) (pv 5) rfl))))))))
      (pss_one (ps_ret (pv 4)))))), ?_⟩
    have an1 := ok.n1
    have an3 := ok.n3
    have ael := ok.elen
    have dn : d.n = d.rows.length := rfl
    have hx0 := hx
    obtain ⟨dx, fs, tt, x1, x2, ra, ea, x3, x4, x5⟩ := hx
    have x5 : H ea = some (.tup (d.ends.map nV)) := x5
    generalize hG : gameOf d chs m b = G at q
    have gE : ∀ s, G.E s = decide (s ∈ d.ends) := fun s => by rw [← hG]; rfl
    -- the dict of the ends
    refine ⟨_, rfl, x, dx, fs, rfl, x1, x, dx, fs, tt, _, _, _, _, rfl, x1, x2, x3, rfl, ea, rfl, ⟨_, SqT.of x5⟩, fun p hp => ?_⟩
    refine ⟨fun i μ H' => μ = d.ends.length - i ∧ i ≤ d.ends.length ∧ Same H H' ∧ ∃ kvs, H' p = some (.dT kvs) ∧ kvs.length ≤ 2 * i ∧ ∀ s t, s < d.n → t < 2 → valV kvs (ky s t) = if s ∈ d.ends.take i then some (nV 0) else none,
      ⟨_, rfl, Nat.zero_le _, same_new hp, [], upd_same, Nat.le_refl _, fun s t _ _ => by simp [valV_nil]⟩, ?_⟩
    rintro i μ H1 ⟨rfl, hi, hS1, kvs, k1, k2, k3⟩
    have x5' := hS1 _ _ x5
    rcases Nat.lt_or_ge i d.ends.length with hi | hi
    · refine .inr ⟨⟨_, nV d.ends[i], SqT.of x5', by rw [List.getElem?_map, List.getElem?_eq_getElem hi]; rfl⟩,
        fun H' => Same H H' ∧ ∃ kvs, H' p = some (.dT kvs) ∧ kvs.length ≤ 2 * (i + 1) ∧ ∀ s t, s < d.n → t < 2 → valV kvs (ky s t) = if s ∈ d.ends.take (i + 1) then some (nV 0) else none, ?_, ?_⟩
      · rintro H' ⟨a1, a2⟩
        exact ⟨_, by omega, rfl, by omega, a1, a2⟩
      · rintro v _ ⟨rfl, hv⟩
        obtain ⟨e, e1, e2, rfl⟩ := map_at (hv _ (SqT.of x5'))
        have et : ∀ s, s ∈ d.ends.take (i + 1) ↔ s ∈ d.ends.take i ∨ s = e := fun s => by
          rw [List.take_add_one, e1]
          simp
        refine ⟨rfl, n2, fun r hr => ⟨r, rfl, ⟨_, SqT.of upd_same⟩, ?_⟩⟩
        have nrp : r ≠ p := fun z => by rw [z, k1] at hr; cases hr
        refine ⟨fun j k H' => k = 2 - j ∧ j ≤ 2 ∧ Same H H' ∧ H' r = some (.tup [.int 0, .int 1]) ∧ ∃ kvs, H' p = some (.dT kvs) ∧ kvs.length ≤ 2 * i + j ∧ ∀ s t, s < d.n → t < 2 → valV kvs (ky s t) = if s ∈ d.ends.take i ∨ (s = e ∧ t < j) then some (nV 0) else none,
          ⟨_, rfl, Nat.zero_le _, hS1.trans (same_new hr), upd_same, kvs, by rw [upd_ne nrp.symm]; exact k1, by omega, fun s t hs ht => by rw [k3 s t hs ht]; simp⟩, ?_⟩
        rintro j k H3 ⟨rfl, hj, hS3, r3, kvs3, l1, l2, l3⟩
        rcases Nat.lt_or_ge j 2 with hj | hj
        · have rj : [V.int 0, V.int 1][j]? = some (nV j) := by
            have : j = 0 ∨ j = 1 := by omega
            rcases this with rfl | rfl <;> rfl
          refine .inr ⟨⟨_, nV j, SqT.of r3, rj⟩,
            fun H' => Same H H' ∧ H' r = some (.tup [.int 0, .int 1]) ∧ ∃ kvs, H' p = some (.dT kvs) ∧ kvs.length ≤ 2 * i + (j + 1) ∧ ∀ s t, s < d.n → t < 2 → valV kvs (ky s t) = if s ∈ d.ends.take i ∨ (s = e ∧ t < j + 1) then some (nV 0) else none, ?_, ?_⟩
          · rintro H' ⟨a1, a2⟩
            exact ⟨_, by omega, rfl, by omega, a1, a2⟩
          · rintro y _ ⟨rfl, hy⟩
            have ey : y = nV j := Option.some.inj ((hy _ (SqT.of r3)).symm.trans rj)
            subst ey
            refine ⟨rfl, _, rfl, _, rfl, n2, fun b2 hb2 => ?_⟩
            have s4 := same_new (o := .tup [nV e, nV j]) hb2
            refine ⟨b2, kvs3, ky e j, rfl, upd_same, s4 _ _ l1, small1000 (by omega), ?_, ?_, _, upd_same, ?_, ?_⟩
            · exact same_upd (hS3.trans s4) hp
            · rw [upd_ne nrp]
              exact s4 _ _ r3
            · have := length_putK kvs3 (ky e j) (V.int 0)
              omega
            · intro s t hs ht
              rw [valV_put, l3 s t hs ht]
              by_cases c : ky s t = ky e j
              · rw [if_pos c]
                obtain ⟨rfl, rfl⟩ := ky_inj.mp c
                rw [if_pos (.inr ⟨rfl, by omega⟩)]
                rfl
              · rw [if_neg c]
                have c' : ¬ (s = e ∧ t = j) := fun z => c (ky_inj.mpr z)
                have : (s ∈ d.ends.take i ∨ (s = e ∧ t < j)) ↔ (s ∈ d.ends.take i ∨ (s = e ∧ t < j + 1)) := by
                  constructor
                  · rintro (z | z)
                    · exact .inl z
                    · exact .inr ⟨z.1, by omega⟩
                  · rintro (z | z)
                    · exact .inl z
                    · exact .inr ⟨z.1, by have := z.2; rcases Nat.lt_or_ge t j with y | y; exact y; exact absurd ⟨z.1, by omega⟩ c'⟩
                simp only [this]
        · refine .inl ⟨⟨_, SqT.of r3, hj⟩, hS3, kvs3, l1, by omega, ?_⟩
          intro s t hs ht
          rw [l3 s t hs ht]
          have : (s ∈ d.ends.take i ∨ (s = e ∧ t < j)) ↔ s ∈ d.ends.take (i + 1) := by
            rw [et]
            constructor
            · rintro (z | z)
              · exact .inl z
              · exact .inr z.1
            · rintro (z | z)
              · exact .inl z
              · exact .inr ⟨z, by omega⟩
          simp only [this]
    · refine .inl ⟨⟨_, SqT.of x5', by rw [List.length_map]; exact hi⟩, ?_⟩
      rw [List.take_of_length_le hi] at k3
      -- the stages
      have w0 : WhAt H x a p (ltx m) b G d.n (left G d.n 0) [some (.ref x), some (.ref a), some (.str (ltx m)), some (.bl b), some (.ref p), some (nV 0), none, none, none, none, none, none, none, none] H1 := by
        refine ⟨0, _, _, _, _, _, _, _, _, kvs, rfl, left_le G d.n 0, rfl, hS1, k1, by omega, fun s t hs ht => ?_⟩
        rw [k3 s t hs ht]
        show _ = ((if G.W 0 s t = true then some 0 else none).map nV)
        have e : G.W 0 s t = decide (s ∈ d.ends) := by
          show (decide (t < 2) && G.E s) = _
          rw [gE, decide_eq_true ht, Bool.true_and]
        rw [e]
        by_cases c : s ∈ d.ends
        · rw [if_pos c, decide_eq_true c]
          rfl
        · rw [if_neg c, decide_eq_false c]
          rfl
      refine ⟨fun μ σ H' => WhAt H x a p (ltx m) b G d.n μ σ H', ⟨_, w0⟩, ?_⟩
      rintro μ σ H2 ⟨k, y6, y7, y8, y9, y10, y11, y12, y13, kv, rfl, hk, rfl, hS2, f1, f2, f3⟩
      refine ⟨_, rfl, _, _, rfl, rfl, true, bT (by omega), ?_⟩
      refine ⟨fun σ' H' => ∃ μ', μ' < left G d.n k ∧ WhAt H x a p (ltx m) b G d.n μ' σ' H', fun σ' H' z => z, ?_⟩
      refine ⟨_, rfl, _, _, rfl, rfl, n0, fun q6 hq6 => ⟨_, _, rfl, ?_⟩⟩
      have sq := same_new (o := .lst []) hq6
      have hxA := (hx0.same hS2).same sq
      refine ⟨_, rfl, x, dx, fs, rfl, sq _ _ (hS2 _ _ x1), x, d, rfl, hxA, _, rfl, by omega, by omega, _, rfl, by omega, by omega, ?_⟩
      refine for_it walk_rg (fun i σ' H' => ∃ y7 y8 y9 y10 y11 y12 y13, σ' = [some (.ref x), some (.ref a), some (.str (ltx m)), some (.bl b), some (.ref p), some (nV (k + 1)), some (.ref q6), y7, y8, y9, y10, y11, y12, y13] ∧ Same H2 H' ∧ LatAt H' q6 (news G k i))
        ⟨_, _, _, _, _, _, _, rfl, sq, [], upd_same, rfl, fun _ h => by cases h⟩ (fun _ _ _ _ _ => trivial) ?_ ?_
      · rintro i v σ' _ H3 hi ⟨y7, y8, y9, y10, y11, y12, y13, rfl, hS3, hL⟩ ⟨rfl, rfl⟩
        have hi : i < d.n := hi
        have hS03 := hS2.trans hS3
        have hx3 := hx0.same hS03
        have hci : i < chs.length := by rw [hc.len]; exact hi
        have eci : chs[i]? = some chs[i] := List.getElem?_eq_getElem hci
        have mci := List.getElem_mem hci
        have efi : G.f i = chs[i].map (d.arr i) := by
          rw [← hG]
          show ((chs[i]?).getD []).map (d.arr i) = _
          rw [eci]
          rfl
        have egi : G.g i = m.map (d.arr i) := by rw [← hG]; rfl
        have ogi : ∀ (l : List Nat), ∀ o ∈ l.map (d.arr i), ∀ s, o = some s → s < d.n := by
          intro l o ho s e
          obtain ⟨j, _, hj⟩ := List.mem_map.mp ho
          exact ok.arr_lt (hj.trans e)
        have rk3 : ∀ H', Same H3 H' → RkAt (G.rk k) d.n H' p := fun H' h => ⟨kv, h _ _ (hS3 _ _ f1), by omega, f3⟩
        -- own
        refine ⟨_, rfl, _, rfl, _, rfl, _, rfl, a, _, _, _, rfl, rfl, SqL.of (hS03 _ _ ha), atI_nat (by rw [List.getElem?_map, eci]; rfl), x, i, chs[i], rfl, hx3, hi, hc.lt _ mci, hc.sz _ mci, ok, fun g1 H4 hS4 hg1 eg1 => ⟨g1, rfl, ⟨_, SqL.of eg1⟩, fun D1 hD1 => ?_⟩⟩
        have eg1' : H4 g1 = some (.lst ((chs[i].map (d.arr i)).map oV)) := by rw [eg1, List.map_map]; rfl
        refine reach_lc (p := p) (t := 1) (n := d.n) (rk := G.rk k) rfl (by decide) (by exact (by decide : 13 < 14)) hD1 eg1' (by rw [List.length_map]; exact hc.sz _ mci) (rk3 _ hS4) (ogi _) (by decide) fun H5 hS5 e5 => ?_
        rw [rcd_rch] at e5
        have hx5 := hx3.same (hS4.trans hS5)
        -- others
        refine ⟨_, rfl, _, rfl, _, rfl, x, i, m, rfl, hx5, hi, hm, hm2, ok, fun g2 H6 hS6 hg2 eg2 => ⟨g2, rfl, ⟨_, SqL.of eg2⟩, fun D2 hD2 => ?_⟩⟩
        have eg2' : H6 g2 = some (.lst ((m.map (d.arr i)).map oV)) := by rw [eg2, List.map_map]; rfl
        refine reach_lc (p := p) (t := 0) (n := d.n) (rk := G.rk k) rfl (by decide) (by exact (by decide : 13 < 14)) hD2 eg2' (by rw [List.length_map]; exact hm2) (rk3 _ (hS4.trans (hS5.trans hS6))) (ogi _) (by decide) fun H7 hS7 e7 => ?_
        rw [rcd_rch] at e7
        have hS37 : Same H3 H7 := hS4.trans (hS5.trans (hS6.trans hS7))
        have e5' := hS7 _ _ (hS6 _ _ e5)
        have c0 : G.cond (G.W k) i 0 = if b = true then (chs[i].map (d.arr i)).all (fun o => rch (G.W k) o 1) else (chs[i].map (d.arr i)).any (fun o => rch (G.W k) o 1) := by
          unfold Game.cond
          rw [if_pos rfl, efi]
          have : G.b = b := by rw [← hG]; rfl
          rw [this]
        have c1 : G.cond (G.W k) i 1 = (m.map (d.arr i)).all (fun o => rch (G.W k) o 0) := by
          unfold Game.cond
          rw [if_neg (by decide), if_pos rfl, egi]
        have nl := news_len G k i
        refine push_if (t := 0) (s := i) (c2 := G.cond (G.W k) i 0) rfl rfl rfl (hS37 _ _ (hS3 _ _ f1)) (f3 i 0 hi (by decide)) (hL.same hS37) (by omega) ?_ ?_
        · intro H8 R hS8 hR
          refine ⟨_, rfl, b, rfl, ?_⟩
          rw [c0] at hR
          cases b with
          | true => exact ⟨_, rfl, D1, _, rfl, SqL.of (hS8 _ _ e5'), _, rfl, by rw [all_map']; exact hR⟩
          | false => exact ⟨_, rfl, D1, _, rfl, SqL.of (hS8 _ _ e5'), _, rfl, by rw [any_map']; exact hR⟩
        intro H8 hK8 hL8
        have nD2 : D2 ≠ q6 := by
          intro z
          obtain ⟨ts, l1, _⟩ := hL
          have := (hS4.trans (hS5.trans hS6)) _ _ l1
          rw [← z, hD2] at this
          cases this
        have hpq : p ≠ q6 := by
          intro z
          rw [← z, f1] at hq6
          cases hq6
        have f8 : H8 p = some (.dT kv) := hK8 _ _ hpq (hS37 _ _ (hS3 _ _ f1))
        refine push_if (t := 1) (s := i) (c2 := G.cond (G.W k) i 1) rfl rfl rfl f8 (f3 i 1 hi (by decide)) hL8 ?_ ?_ ?_
        · rw [List.length_append]
          split <;> simp <;> omega
        · intro H9 R hS9 hR
          rw [c1] at hR
          exact ⟨_, rfl, D2, _, rfl, SqL.of (hS9 _ _ (hK8 _ _ nD2 e7)), _, rfl, by rw [all_map']; exact hR⟩
        intro H9 hK9 hL9
        refine ⟨_, _, _, _, _, _, _, rfl, ke_new hq6 (hS3.trans hS37) (hK8.trans hK9), ?_⟩
        rw [news_succ]
        rw [Option.isSome_map, Option.isSome_map, rk_isSome, rk_isSome] at hL9
        exact hL9
      rintro σ' H3 ⟨y7, y8, y9, y10, y11, y12, y13, rfl, hS3, hL⟩
      have hS03 := hS2.trans hS3
      refine ⟨_, rfl, n0, fun e he => ?_⟩
      have se := same_new (o := .lst []) he
      refine ⟨.list ((news G k d.n).map spD), .list [], (hL.same se).dp, .lst (SqL.of upd_same) .nil, shp_sps _, by decide +kernel, _, rfl, ?_⟩
      rw [eqv_nil]
      by_cases hn : news G k d.n = []
      · rw [hn]
        refine ⟨_, rfl, q p _ (hS03.trans se) ⟨kv, se _ _ (hS3 _ _ f1), by omega, fun s t hs ht => ?_⟩⟩
        rw [rk_stays (by rw [← hG]; exact closed_game ok chs m b) (news_nil hn) (by omega : k ≤ 2 * d.n) hs ht]
        exact f3 s t hs ht
      · have e0 : ((news G k d.n).map spD).isEmpty = false := by
          cases hz : news G k d.n with
          | nil => exact absurd hz hn
          | cons _ _ => rfl
        rw [e0]
        have hL : LatAt H3 q6 (news G k d.n) := hL
        have nlen := news_len G k d.n
        obtain ⟨ts, t1, t2, t3⟩ := hL.same se
        have tl : ts.length = (news G k d.n).length := by rw [← t2, List.length_map]
        have hpq : q6 ≠ p := by
          intro z
          rw [z, f1] at hq6
          cases hq6
        refine ⟨_, rfl, q6, rfl, ⟨_, SqL.of t1⟩, ?_⟩
        refine for_it (walk_list (xs := ts.map fun e => V.ref e.1)) (fun j σ' H' => ∃ z10 kvs', σ' = [some (.ref x), some (.ref a), some (.str (ltx m)), some (.bl b), some (.ref p), some (nV (k + 1)), some (.ref q6), y7, y8, y9, z10, y11, y12, y13] ∧
          Ke p (upd H3 e (.lst [])) H' ∧ H' p = some (.dT kvs') ∧ kvs'.length ≤ kv.length + j ∧ ∀ s t, s < d.n → t < 2 → valV kvs' (ky s t) = if (s, t) ∈ (news G k d.n).take j then some (nV (k + 1)) else (G.rk k s t).map nV)
          ⟨_, kv, rfl, Ke.refl _, se _ _ (hS3 _ _ f1), Nat.le_refl _, fun s t hs ht => by rw [f3 s t hs ht]; simp⟩ ?_ ?_ ?_
        · rintro j σ' H' _ ⟨z10, kvs', rfl, hK, _⟩
          exact SqL.of (hK _ _ hpq t1)
        · rintro j v σ' _ H4 hj ⟨z10, kvs', rfl, hK, g1, g2, g3⟩ ⟨rfl, hv⟩
          obtain ⟨e5, e1, e2, rfl⟩ := map_at hv
          have te := t3 e5 e2
          have ne5 : e5.1 ≠ p := by
            intro z
            have w5 : (upd H3 e (.lst [])) p = some (.dT kv) := se _ _ (hS3 _ _ f1)
            unfold PairAt at te
            rw [z, w5] at te
            cases te
          have hat := hK _ _ ne5 te
          rw [List.length_map, tl] at hj
          have ej : (news G k d.n)[j]? = some e5.2 := by rw [← t2, List.getElem?_map, e1]; rfl
          refine ⟨_, rfl, _, rfl, _, rfl, p, _, rfl, DPut.t (k := ky e5.2.1 e5.2.2) g1 hat (small1000 (by omega)), _, _, rfl, ke_upd hK (.inr rfl), upd_same, ?_, ?_⟩
          · have := length_putK kvs' (ky e5.2.1 e5.2.2) (nV (k + 1))
            omega
          · intro s t hs ht
            rw [valV_put, g3 s t hs ht, List.take_add_one, ej]
            by_cases c : ky s t = ky e5.2.1 e5.2.2
            · rw [if_pos c]
              obtain ⟨rfl, rfl⟩ := ky_inj.mp c
              rw [if_pos (by simp)]
            · rw [if_neg c]
              have c' : ¬ (s, t) = e5.2 := fun z => c (by rw [← z])
              have : (s, t) ∈ (news G k d.n).take j ++ (some e5.2).toList ↔ (s, t) ∈ (news G k d.n).take j := by
                simp [c']
              simp only [this]
        · rintro σ' H4 ⟨z10, kvs', rfl, hK, g1, g2, g3⟩
          rw [List.length_map, tl] at g2 g3
          rw [List.take_length] at g3
          obtain ⟨⟨s1, t1'⟩, hm1⟩ := List.exists_mem_of_ne_nil _ hn
          obtain ⟨⟨m1, m2⟩, m3, m4⟩ := mem_news.mp hm1
          have hW : G.W (k + 1) s1 t1' = true := by
            show (G.W k s1 t1' || G.cond (G.W k) s1 t1') = true
            rw [m4]
            simp
          have ll := left_lt m1 m2 m3 hW
          refine ⟨_, ll, k + 1, _, _, _, _, _, _, _, _, kvs', rfl, by omega, rfl, ke_new hp (hS03.trans se) hK, g1, by omega, fun s t hs ht => ?_⟩
          rw [g3 s t hs ht, rk_news (n := d.n) hs ht]
          split <;> rfl
end
end K30
set_option Elab.async false
set_option linter.all false
set_option maxRecDepth 100000
set_option maxHeartbeats 4000000
namespace K30
open PySem PySem.Spec PyProof.Rows L2 K30R
/-- the duel of two lots -/
def gameB (d : Dat) (l m : List Nat) : Game := gameOf d (List.replicate d.n l) m false
theorem gameB_f {d : Dat} {l m : List Nat} {s : Nat} (hs : s < d.n) : (gameB d l m).f s = l.map (d.arr s) := by
  show (((List.replicate d.n l)[s]?).getD []).map (d.arr s) = _
  rw [List.getElem?_replicate, if_pos hs]
  rfl
theorem gameB_g {d : Dat} {l m : List Nat} {s : Nat} : (gameB d l m).g s = m.map (d.arr s) := rfl
theorem rep_map {α β : Type} (f : α → β) (n : Nat) (x : α) : (List.replicate n x).map f = List.replicate n (f x) := List.map_replicate
theorem rep_flat {α : Type} (n : Nat) (x : α) : (List.replicate n [x]).flatten = List.replicate n x := by
  induction n with
  | zero => rfl
  | succ n ih => rw [List.replicate_succ, List.replicate_succ, List.flatten_cons, ih]; rfl
/-- what one asks of a duel at the heap -/
structure Duel (C : Addr) (d : Dat) (l m : List Nat) (H : Hp) (x : Addr) : Prop where
  rd : RdAt C d H x
  ok : d.Ok
  fst : Lot d.many l
  snd : Lot d.many m
theorem Duel.same {C : Addr} {d : Dat} {l m : List Nat} {H H' : Hp} {x : Addr} (h : Duel C d l m H x) (e : Same H H') : Duel C d l m H' x := ⟨h.rd.same e, h.ok, h.fst, h.snd⟩
theorem Duel.sz {C : Addr} {d : Dat} {l m : List Nat} {H : Hp} {x : Addr} (h : Duel C d l m H x) : l.length ≤ 3 ∧ m.length ≤ 3 := by
  have := h.ok.m3
  have := h.fst.len
  have := h.snd.len
  exact ⟨by omega, by omega⟩
section
variable {P : Program} {w : World} {K : PySem.W.Frag} {mg : Str → Option Value} {base : Heap} {C : Addr}
abbrev N_best_ranks : List Str := ["reader", "first", "second"]
abbrev P_best_ranks : List Str := ["reader", "first", "second"]
theorem sc_best_ranks : FnScope N_best_ranks P_best_ranks (defScope (top 28)) := ⟨rfl, rfl, rfl, by decide +kernel, rfl, by decide +kernel, by decide +kernel⟩
def spBestRanks (C : Addr) (d : Dat) : Sp := fun vs H Q _ => ∃ x l m, vs = [.ref x, .str (ltx l), .str (ltx m)] ∧ Duel C d l m H x ∧ ∀ p H', Same H H' → RkAt ((gameB d l m).rk (2 * d.n)) d.n H' p → Q (.ref p) H'
theorem cl_best_ranks (d : Dat) (D : DefAt K mg "best_ranks" 28) (T : Tx K mg C) (m_len : Ml P w K mg base 1 C "__len__" (spLen C)) (c_ranks_of : Cl P w K mg base 4 "ranks_of" P_ranks_of (spRanksOf C d)) : Cl P w K mg base 5 "best_ranks" P_best_ranks (spBestRanks C d) := by
  refine cl_of (N := N_best_ranks) D sc_best_ranks (fun _ _ _ _ _ _ us hl => match us, hl with | [_, _, _], _ => rfl) ?_ ?_
  · rintro vs H Q E ⟨x, l, m, rfl, _⟩
    rfl
  · rintro f cdv A outer s H vs Q E hr ⟨x, l, m, rfl, hd, q⟩
    refine ⟨_, (pss_one (ps_ret (pe_cl c_ranks_of hr (by omega) (by rfl) (pa_cons (pv 0) (pa_cons (pe_op op_rep (pe_lst (pa_cons (pv 1) pa_nil)) (pe_callB (call_lenI m_len hr (by decide)) rfl T.nlen (by decide +kernel) (pa_cons (pv 0) pa_nil))) (pa_cons (pv 2) (pa_cons pe_bl pa_nil))))))), ?_⟩
    have n3 := hd.ok.n3
    have dn : d.n = d.rows.length := rfl
    have sz := hd.sz
    refine ⟨_, rfl, _, rfl, n1, fun a ha => ?_⟩
    have s1 := same_new (o := .lst [V.str (ltx l)]) ha
    obtain ⟨dx, fs, tt, x1, x2⟩ := id hd.rd
    refine ⟨_, rfl, x, dx, fs, rfl, s1 _ _ x1, x, d, rfl, hd.rd.same s1, _, rfl, by omega, by omega, a, _, _, rfl, rfl, upd_same, by omega, by omega, by simp only [List.length_cons, List.length_nil]; exact small (by omega), fun b hb => ?_⟩
    have s2 := s1.trans (same_new (o := .lst (List.replicate ((d.n : Nat) : Int).toNat [V.str (ltx l)]).flatten) hb)
    refine ⟨_, rfl, x, b, m, false, List.replicate d.n l, rfl, hd.rd.same s2, hd.ok, ?_, ⟨List.length_replicate, ?_, ?_⟩, fun i hi => hd.snd.lt i hi, by omega, fun p H' hS hR => q p H' (s2.trans hS) hR⟩
    · rw [upd_same, rep_flat, rep_map]
      rfl
    · intro l' hl' i hi
      rw [(List.mem_replicate.mp hl').2] at hi
      exact hd.fst.lt i hi
    · intro l' hl'
      rw [(List.mem_replicate.mp hl').2]
      omega
abbrev N_least_turns : List Str := ["reader", "first", "second"]
abbrev P_least_turns : List Str := ["reader", "first", "second"]
theorem sc_least_turns : FnScope N_least_turns P_least_turns (defScope (top 29)) := ⟨rfl, rfl, rfl, by decide +kernel, rfl, by decide +kernel, by decide +kernel⟩
def spLeastTurns (C : Addr) (d : Dat) : Sp := fun vs H Q _ => ∃ x l m, vs = [.ref x, .str (ltx l), .str (ltx m)] ∧ Duel C d l m H x ∧ ∀ H', Same H H' → Q (oV ((gameB d l m).rk (2 * d.n) 0 0)) H'
theorem cl_least_turns (d : Dat) (D : DefAt K mg "least_turns" 29) (T : Tx K mg C) (c_check_duel : Cl P w K mg base 3 "check_duel" P_check_duel (spCheckDuel C)) (c_best_ranks : Cl P w K mg base 5 "best_ranks" P_best_ranks (spBestRanks C d)) :
    Cl P w K mg base 6 "least_turns" P_least_turns (spLeastTurns C d) := by
  refine cl_of (N := N_least_turns) D sc_least_turns (fun _ _ _ _ _ _ us hl => match us, hl with | [_, _, _], _ => rfl) ?_ ?_
  · rintro vs H Q E ⟨x, l, m, rfl, _⟩
    rfl
  · rintro f cdv A outer s H vs Q E hr ⟨x, l, m, rfl, hd, q⟩
    refine ⟨_, (pss_cons (ps_expr (pe_cl c_check_duel hr (by omega) (by rfl) (pa_cons (pv 0) (pa_cons (pv 1) (pa_cons (pv 2) pa_nil)))))
      (pss_one (ps_ret (pe_dget1 (hu1 hr) (pe_cl c_best_ranks hr (by omega) (by rfl) (pa_cons (pv 0) (pa_cons (pv 1) (pa_cons (pv 2) pa_nil)))) (pe_tup (pa_cons pe_int (pa_cons pe_int pa_nil))) ⟨rfl, rfl, rfl, rfl⟩)))), ?_⟩
    have n1' := hd.ok.n1
    have dn : d.n = d.rows.length := rfl
    refine ⟨_, rfl, _, rfl, _, rfl, x, d, l, m, rfl, hd.rd, hd.ok, hd.fst, hd.snd, fun H1 hS1 => ?_⟩
    refine ⟨_, rfl, _, rfl, _, rfl, x, l, m, rfl, hd.same hS1, fun p H2 hS2 hR => ?_⟩
    obtain ⟨kvs, k1, k2, k3⟩ := hR
    refine ⟨p, rfl, ?_, n2, fun b hb => ?_⟩
    · exact .inr ⟨kvs, .inl k1⟩
    · refine ⟨_, DGet.t (k := ky 0 0) (same_new hb _ _ k1) upd_same, ?_⟩
      have e : valV kvs (ky 0 0) = ((gameB d l m).rk (2 * d.n) 0 0).map nV := k3 0 0 (by omega) (by omega)
      rw [e]
      have z := q _ ((hS1.trans hS2).trans (same_new (o := .tup [nV 0, nV 0]) hb))
      cases h : (gameB d l m).rk (2 * d.n) 0 0 with
      | none => rw [h] at z; exact z
      | some r => rw [h] at z; exact z
end
end K30
set_option Elab.async false
set_option linter.all false
set_option maxRecDepth 100000
set_option maxHeartbeats 4000000
namespace K30
open PySem PySem.Spec PyProof.Rows L2 K30R
/-- a scheme's entry -/
def sV : Option Nat → V
  | none => .non
  | some i => .str (sgn i)
/-- what plan tells -/
structure PlOk (d : Dat) (l m : List Nat) (sch : List (Option Nat)) : Prop where
  len : sch.length = d.n
  sub : ∀ o ∈ sch, ∀ i, o = some i → i ∈ l
  low : ∀ s r, s < d.n → (gameB d l m).rk (2 * d.n) s 0 = some (r + 1) → ∃ i s' r', sch[s]? = some (some i) ∧ d.arr s i = some s' ∧ (gameB d l m).rk (2 * d.n) s' 1 = some r' ∧ r' ≤ r
/-- the pairs (rank, place) of those that are reached -/
def prOne (rk : Nat → Nat → Option Nat) (os : List (Option Nat)) (j : Nat) : Option (Int × Int) := match (os[j]?).getD none with
  | none => none
  | some s => match rk s 1 with
    | none => none
    | some r => some ((r : Int), (j : Int))
def prs (rk : Nat → Nat → Option Nat) (os : List (Option Nat)) (i : Nat) : List (Int × Int) := (List.range i).filterMap (prOne rk os)
theorem prs_succ (rk : Nat → Nat → Option Nat) (os : List (Option Nat)) (i : Nat) : prs rk os (i + 1) = prs rk os i ++ (match prOne rk os i with | some y => [y] | none => []) := by
  unfold prs
  rw [List.range_succ, List.filterMap_append]
  cases h : prOne rk os i <;> simp [h]
theorem prs_no {rk : Nat → Nat → Option Nat} {os : List (Option Nat)} {i : Nat} (h : prOne rk os i = none) : prs rk os (i + 1) = prs rk os i := by
  rw [prs_succ, h]
  exact List.append_nil _
theorem prs_yes {rk : Nat → Nat → Option Nat} {os : List (Option Nat)} {i : Nat} {y : Int × Int} (h : prOne rk os i = some y) : prs rk os (i + 1) = prs rk os i ++ [y] := by
  rw [prs_succ, h]
theorem prOne_a {rk : Nat → Nat → Option Nat} {os : List (Option Nat)} {i : Nat} (h : os[i]? = some none) : prOne rk os i = none := by
  unfold prOne
  rw [h]
  rfl
theorem prOne_b {rk : Nat → Nat → Option Nat} {os : List (Option Nat)} {i s : Nat} (h : os[i]? = some (some s)) (h2 : rk s 1 = none) : prOne rk os i = none := by
  unfold prOne
  rw [h]
  show (match rk s 1 with | none => none | some r => some ((r : Int), (i : Int))) = _
  rw [h2]
theorem prOne_c {rk : Nat → Nat → Option Nat} {os : List (Option Nat)} {i s r : Nat} (h : os[i]? = some (some s)) (h2 : rk s 1 = some r) : prOne rk os i = some ((r : Int), (i : Int)) := by
  unfold prOne
  rw [h]
  show (match rk s 1 with | none => none | some r => some ((r : Int), (i : Int))) = _
  rw [h2]
theorem prs_len (rk : Nat → Nat → Option Nat) (os : List (Option Nat)) (i : Nat) : (prs rk os i).length ≤ i := by
  have := List.length_filterMap_le (prOne rk os) (List.range i)
  rw [List.length_range] at this
  exact this
theorem mem_prs {rk : Nat → Nat → Option Nat} {os : List (Option Nat)} {i : Nat} {q : Int × Int} : q ∈ prs rk os i ↔ ∃ j s r, j < i ∧ os[j]? = some (some s) ∧ rk s 1 = some r ∧ q = ((r : Int), (j : Int)) := by
  unfold prs
  rw [List.mem_filterMap]
  constructor
  · rintro ⟨j, hj, h⟩
    rw [List.mem_range] at hj
    unfold prOne at h
    cases e : os[j]? with
    | none => rw [e] at h; cases h
    | some o =>
      cases o with
      | none => rw [e] at h; cases h
      | some s =>
        rw [e] at h
        have h : (match rk s 1 with | none => none | some r => some ((r : Int), (j : Int))) = some q := h
        cases e2 : rk s 1 with
        | none => rw [e2] at h; cases h
        | some r =>
          rw [e2] at h
          exact ⟨j, s, r, hj, e, e2, (Option.some.inj h).symm⟩
  · rintro ⟨j, s, r, hj, e, e2, rfl⟩
    refine ⟨j, List.mem_range.mpr hj, ?_⟩
    unfold prOne
    rw [e]
    show (match rk s 1 with | none => none | some r => some ((r : Int), (j : Int))) = _
    rw [e2]
theorem prLt_le {p q : Int × Int} (h : prLt q p = false) : p.1 ≤ q.1 := by
  unfold prLt at h
  simp at h
  omega
/-- a rank above 0 is told by a sign that leads below -/
theorem low_of {d : Dat} {l m : List Nat} {s r : Nat} (hs : s < d.n) (h : (gameB d l m).rk (2 * d.n) s 0 = some (r + 1)) : ∃ (j : Nat) (s' r' : Nat), ((l.map (d.arr s))[j]?) = some (some s') ∧ (gameB d l m).rk (2 * d.n) s' 1 = some r' ∧ r' ≤ r := by
  obtain ⟨h1, h2, h3⟩ := rk_some.mp h
  have c : (gameB d l m).cond ((gameB d l m).W r) s 0 = true := by
    rcases W_step h2 with z | z
    · rw [h3 r (by omega)] at z; cases z
    · exact z
  have c2 : ((gameB d l m).f s).any (fun o => rch ((gameB d l m).W r) o 1) = true := by
    unfold Game.cond at c
    rw [if_pos rfl, if_neg (show ¬ (gameB d l m).b = true from Bool.false_ne_true)] at c
    exact c
  rw [gameB_f hs, List.any_eq_true] at c2
  obtain ⟨o, ho, hr⟩ := c2
  cases o with
  | none => cases hr
  | some s' =>
    have hr : (gameB d l m).W r s' 1 = true := hr
    obtain ⟨r', e1, e2⟩ := rk_of hr (by omega : r ≤ 2 * d.n)
    obtain ⟨j, hj⟩ := List.mem_iff_getElem?.mp ho
    exact ⟨j, s', r', hj, e1, e2⟩
theorem same_ke {c : Addr} {H H' : Hp} {o : HO} (h : Ke c H H') (e : H c = some o) (e' : H' c = some o) : Same H H' := by
  intro b u hb
  by_cases z : b = c
  · subst z
    rw [e] at hb
    rw [e', ← hb]
  · exact h b u z hb
/-- the state of plan's for -/
def PlInv (d : Dat) (l : List Nat) (rk : Nat → Nat → Option Nat) (x p fd : Addr) (m : List Nat) (H2 : Hp) (i : Nat) (σ' : L2.St) (H' : Hp) : Prop := ∃ (y5 y6 y7 y8 y9 y10 : Option V) (sch : List (Option Nat)), σ' = [some (.ref x), some (.str (ltx l)), some (.str (ltx m)), some (.ref p), some (.ref fd), y5, y6, y7, y8, y9, y10] ∧
  Same H2 H' ∧ H' fd = some (.lst (sch.map sV)) ∧ sch.length = i ∧ (∀ o, o ∈ sch → ∀ j, o = some j → j ∈ l) ∧ (∀ s r, s < i → rk s 0 = some (r + 1) → ∃ i s' r', sch[s]? = some (some i) ∧ d.arr s i = some s' ∧ rk s' 1 = some r' ∧ r' ≤ r)
/-- the pairs in the heap -/
def PrsAt (H : Hp) (ps : List (Int × Int)) (acc : List V) : Prop := ∃ ts : List Addr, acc = ts.map V.ref ∧ Paired (PrAt H) ts ps
theorem paired_snoc {α β : Type} {R : α → β → Prop} : ∀ {xs : List α} {ys : List β} {x : α} {y : β}, Paired R xs ys → R x y → Paired R (xs ++ [x]) (ys ++ [y])
  | [], [], _, _, .nil, h => .cons h .nil
  | _ :: _, _ :: _, _, _, .cons a b, h => .cons a (paired_snoc b h)
theorem paired_mono {α β : Type} {R S : α → β → Prop} (h : ∀ x y, R x y → S x y) : ∀ {xs : List α} {ys : List β}, Paired R xs ys → Paired S xs ys
  | [], [], .nil => .nil
  | _ :: _, _ :: _, .cons a b => .cons (h _ _ a) (paired_mono h b)
theorem PrsAt.ts {H H' : Hp} {ps : List (Int × Int)} {acc : List V} (h : PrsAt H ps acc) (e : TS H H') : PrsAt H' ps acc := by
  obtain ⟨ts, h1, h2⟩ := h
  exact ⟨ts, h1, paired_mono (fun _ _ z => e _ _ z) h2⟩
section
variable {P : Program} {w : World} {K : PySem.W.Frag} {mg : Str → Option Value} {base : Heap} {C : Addr}
abbrev N_plan : List Str := ["reader", "first", "second", "ranks", "found", "stand", "sign", "goals", "some", "at", "goal"]
abbrev P_plan : List Str := ["reader", "first", "second"]
theorem sc_plan : FnScope N_plan P_plan (defScope (top 30)) := ⟨rfl, rfl, rfl, by decide +kernel, rfl, by decide +kernel, by decide +kernel⟩
def spPlan (C : Addr) (d : Dat) : Sp := fun vs H Q _ => ∃ x l m, vs = [.ref x, .str (ltx l), .str (ltx m)] ∧ Duel C d l m H x ∧ ((gameB d l m).rk (2 * d.n) 0 0 = none → ∀ H', Same H H' → Q .non H') ∧
  (∀ r, (gameB d l m).rk (2 * d.n) 0 0 = some r → ∀ p sch H', Same H H' → H' p = some (.tup (sch.map sV)) → PlOk d l m sch → Q (.ref p) H')
theorem cl_plan (d : Dat) (D : DefAt K mg "plan" 30) (T : Tx K mg C) (m_len : Ml P w K mg base 1 C "__len__" (spLen C)) (c_check_duel : Cl P w K mg base 3 "check_duel" P_check_duel (spCheckDuel C)) (c_best_ranks : Cl P w K mg base 5 "best_ranks" P_best_ranks (spBestRanks C d))
    (c_goals_by : Cl P w K mg base 3 "goals_by" P_goals_by (spGoalsBy C d)) (c_is_reached : Cl P w K mg base 1 "is_reached" P_is_reached spIsReached) :
    Cl P w K mg base 6 "plan" P_plan (spPlan C d) ∧ Ck P w K mg base 6 "plan" P_plan (spPlan C d) := by
  refine clk_of (N := N_plan) D sc_plan (fun _ _ _ _ _ _ us hl => match us, hl with | [_, _, _], _ => rfl) (fun _ _ _ _ _ _ us hl => match us, hl with | [_, _, _], _ => rfl) (by decide) ?_ ?_
  · rintro vs H Q E ⟨x, l, m, rfl, _⟩
    rfl
  · rintro f cdv A outer s H vs Q E hr ⟨x, l, m, rfl, hd, q1, q2⟩
    refine ⟨_, (pss_cons (ps_expr (pe_cl c_check_duel hr (by omega) (by rfl) (pa_cons (pv 0) (pa_cons (pv 1) (pa_cons (pv 2) pa_nil)))))
      (pss_cons (ps_asg (pe_tup (pa_cons (pe_cl c_best_ranks hr (by omega) (by rfl) (pa_cons (pv 0) (pa_cons (pv 1) (pa_cons (pv 2) pa_nil)))) (pa_cons (pe_lst pa_nil) pa_nil))) (gT (n := 2) K rfl (pgs_cons (pg_name (i := 3) sc_plan.nd rfl (Or.inr rfl)) (pgs_cons (pg_name (i := 4) sc_plan.nd rfl (Or.inl rfl)) pgs_nil))))
      (pss_cons (ps_if (pt_cmp (pc_dnotin (hu1 hr) (pe_tup (pa_cons pe_int (pa_cons pe_int pa_nil))) (pv 3))) (pss_one (ps_ret pe_non)) pss_nil)
      (pss_cons (ps_for PassesOwn.never rfl (pi_range1 rfl T.nrange (pa_cons (pe_callB (call_lenI m_len hr (by decide)) rfl T.nlen (by decide +kernel) (pa_cons (pv 0) pa_nil)) pa_nil)) (pg_name (i := 5) sc_plan.nd rfl (Or.inl rfl)) (pss_cons (ps_set (i := 6) sc_plan.nd rfl (Or.inl rfl) pe_non)
      (pss_cons (ps_if (pt_cmpR op_gt (pe_dget2 (hu1 hr) (pv 3) (pe_tup (pa_cons (pv 5) (pa_cons pe_int pa_nil))) pe_int ⟨rfl, rfl, rfl, rfl⟩) pe_int (nomark _)) (pss_cons (ps_set (i := 7) sc_plan.nd rfl (Or.inl rfl) (pe_cl c_goals_by hr (by omega) (by rfl) (pa_cons (pv 0) (pa_cons (pv 5) (pa_cons (pv 1) pa_nil)))))
      (pss_cons (ps_setLc (i := 8) (own := [("at", 9), ("goal", 10)]) rfl sc_plan.nd rfl rfl (sw_true rfl rfl rfl (by decide +kernel)) (wEnum K T.nenumerate (pa_cons (pv 7) pa_nil)) (blkOk_by (N := N_plan) (sc := (defScope (top 30))) (by decide +kernel)) (fun _ _ _ _ _ => (gT (n := 2) K rfl (pgs_cons (pg_name (i := 9) sc_plan.nd rfl (Or.inl rfl)) (pgs_cons (pg_name (i := 10) sc_plan.nd rfl (Or.inl rfl)) pgs_nil)))) (fun _ _ _ _ _ => (pts_one (pt_val (pe_cl c_is_reached hr (by omega) (by rfl) (pa_cons (pv 3) (pa_cons (pv 10) (pa_cons pe_int pa_nil))))))) (fun _ _ _ _ _ => (pe_tup (pa_cons (pe_dget (hu1 hr) (pv 3) (pe_tup (pa_cons (pv 10) (pa_cons pe_int pa_nil))) (fun _ _ => rfl)) (pa_cons (pv 9) pa_nil)))))
      (pss_one (ps_set (i := 6) sc_plan.nd rfl (Or.inl rfl) (pe_ix ix_str (pv 1) (pe_ix (zT K) (pe_callB (zMinP K rfl hr) rfl T.nmin (by decide +kernel) (pa_cons (pv 8) pa_nil)) pe_int (fun _ _ => rfl)) (fun _ _ => rfl)))))) pss_nil)
      (pss_one (ps_expr (zApp K (pv 4) (pa_cons (pv 6) pa_nil)))))))
      (pss_one (ps_ret (pe_callTy (zTupOf K) rfl T.ntuple (by decide +kernel) (pa_cons (pv 4) pa_nil)))))))), ?_⟩
    have n1' := hd.ok.n1
    have n3' := hd.ok.n3
    have dn : d.n = d.rows.length := rfl
    have sz := hd.sz
    refine ⟨_, rfl, _, rfl, _, rfl, x, d, l, m, rfl, hd.rd, hd.ok, hd.fst, hd.snd, fun H1 hS1 => ?_⟩
    refine ⟨_, rfl, _, rfl, _, rfl, x, l, m, rfl, hd.same hS1, fun p H2 hS2 hR => ⟨n0, fun fd hfd => ⟨n2, fun r hr => ?_⟩⟩⟩
    have sf := same_new (o := .lst []) hfd
    have sr := same_new (o := .tup [V.ref p, V.ref fd]) hr
    refine ⟨r, _, rfl, .inl (.inl upd_same), rfl, _, _, rfl, _, _, rfl, rfl, n2, fun b hb => ?_⟩
    have sb := same_new (o := .tup [V.int 0, V.int 0]) hb
    generalize hrk : (gameB d l m).rk (2 * d.n) = rk at hR q1 q2
    have hR0 := hR
    obtain ⟨kvs, k1, k2, k3⟩ := hR
    have sp := sf.trans (sr.trans sb)
    have hpf : p ≠ fd := fun z => by rw [z, hfd] at k1; cases k1
    have e00 : valV kvs (ky 0 0) = (rk 0 0).map nV := k3 0 0 (by omega) (by omega)
    refine ⟨_, rfl, p, _, rfl, DGet.t (k := ky 0 0) (sp _ _ k1) upd_same, _, rfl, ?_⟩
    rw [e00, Option.isSome_map]
    cases h0 : rk 0 0 with
    | none => exact q1 h0 _ (hS1.trans (hS2.trans sp))
    | some r00 =>
      have q2 := q2 r00 h0
      obtain ⟨dx, fs, tt, x1, x2⟩ := id hd.rd
      have hd4 := hd.same (hS1.trans (hS2.trans sp))
      have hfd4 := (sr.trans sb) _ _ (upd_same (H := H2) (a := fd) (o := .lst []))
      refine ⟨_, rfl, x, dx, fs, rfl, (hS1.trans (hS2.trans sp)) _ _ x1, x, d, rfl, hd4.rd, _, rfl, by omega, by omega, _, rfl, by omega, by omega, ?_⟩
      refine for_it walk_rg (PlInv d l rk x p fd m H2)
        ⟨_, _, _, _, _, _, [], rfl, sp, hfd4, rfl, fun o ho => (by cases ho), fun s _ h => absurd h (Nat.not_lt_zero s)⟩ (fun _ _ _ _ _ => trivial) ?_ ?_
      · rintro i v σ' _ H4 hi ⟨y5, y6, y7, y8, y9, y10, sch, rfl, hS4, hF, sl, sm, lw⟩ ⟨rfl, rfl⟩
        have hi : i < d.n := hi
        have hS04 := hS1.trans (hS2.trans hS4)
        -- the last step: append
        have fin : ∀ (D : Ends) (o : Option Nat) (H5 : Hp) (y7' y8' y9' y10' : Option V), D.nx = PlInv d l rk x p fd m H2 (i + 1) → Same H4 H5 → (∀ j, o = some j → j ∈ l) → (∀ r, rk i 0 = some (r + 1) → ∃ j s' r', o = some j ∧ d.arr i j = some s' ∧ rk s' 1 = some r' ∧ r' ≤ r) →
            tDrop (tBM K "list" rAppend (tVar 4) (tCons (tVar 6) tNil)) D [some (.ref x), some (.str (ltx l)), some (.str (ltx m)), some (.ref p), some (.ref fd), some (nV i), some (sV o), y7', y8', y9', y10'] H5 := by
          intro D o H5 y7' y8' y9' y10' eD hS5 ho hlow
          have hF5 := hS5 _ _ hF
          refine ⟨_, rfl, .inl ⟨rfl, _, SqL.of hF5⟩, _, rfl, fd, _, _, rfl, rfl, hF5, by rw [List.length_map]; exact small1000 (by omega), ?_⟩
          rw [eD]
          refine ⟨_, _, _, _, _, _, sch ++ [o], rfl, ke_new hfd (hS4.trans hS5) (ke_upd (Ke.refl _) (.inr rfl)), ?_, by rw [List.length_append, sl]; rfl, ?_, ?_⟩
          · rw [upd_same, List.map_append]
            rfl
          · intro o' ho' j e
            rcases List.mem_append.mp ho' with z | z
            · exact sm o' z j e
            · rw [List.mem_singleton.mp z] at e
              exact ho j e
          · intro s r hs hr
            rcases Nat.lt_or_ge s i with z | z
            · obtain ⟨j, s', r', e1, e2, e3, e4⟩ := lw s r z hr
              exact ⟨j, s', r', by rw [List.getElem?_append_left (by omega)]; exact e1, e2, e3, e4⟩
            · have : s = i := by omega
              subst this
              obtain ⟨j, s', r', e1, e2, e3, e4⟩ := hlow r hr
              exact ⟨j, s', r', by rw [List.getElem?_append_right (by omega), sl, Nat.sub_self, e1]; rfl, e2, e3, e4⟩
        have k4 := hS4 _ _ k1
        refine ⟨_, rfl, p, rfl, .inr ⟨kvs, .inl k4⟩, _, rfl, n2, fun c hc => ?_⟩
        have sc := same_new (o := .tup [nV i, V.int 0]) hc
        have ei0 : valV kvs (ky i 0) = (rk i 0).map nV := k3 i 0 hi (by omega)
        refine ⟨_, DGet.t (k := ky i 0) (sc _ _ k4) upd_same, ?_⟩
        rw [ei0]
        cases hri : rk i 0 with
        | none => exact ⟨_, _, rfl, rfl, false, rfl, fin _ none _ _ _ _ _ rfl sc (fun j h => nomatch h) (fun r h => by rw [hri] at h; cases h)⟩
        | some ri =>
          cases ri with
          | zero => exact ⟨_, _, rfl, rfl, false, bF (by omega), fin _ none _ _ _ _ _ rfl sc (fun j h => nomatch h) (fun r h => by rw [hri] at h; cases h)⟩
          | succ ri =>
            refine ⟨_, _, rfl, rfl, true, bT (by omega), ?_⟩
            have hd5 := (hd.same hS04).same sc
            refine ⟨_, rfl, _, rfl, _, rfl, x, i, l, rfl, hd5.rd, hi, fun j hj => hd.fst.lt j hj, by omega, hd.ok, fun g1 H5 hS5 hg1 eg1 => ?_⟩
            have eg1' : H5 g1 = some (.lst ((l.map (d.arr i)).map oV)) := by rw [eg1, List.map_map]; rfl
            have k5 := hS5 _ _ (sc _ _ k4)
            generalize hos : l.map (d.arr i) = os at eg1'
            have osl : os.length = l.length := by rw [← hos, List.length_map]
            refine ⟨_, rfl, g1, _, rfl, SqL.of eg1', fun D1 hD1 => ?_⟩
            have hDp : D1 ≠ p := fun z => by rw [z, k5] at hD1; cases hD1
            have hgp : g1 ≠ p := fun z => by rw [z, k5] at eg1'; cases eg1'
            refine lc_acc walk_enum p (fun H => H p = some (.dT kvs)) (fun i acc H => PrsAt H (prs rk os i) acc) (by rw [List.length_map]; omega) hD1 hDp k5 (fun _ _ a b => b _ a) (fun _ _ _ _ a b => b.ts a) ⟨[], rfl, .nil⟩ ?_ (fun H h => SqL.of (h _ _ hgp eg1')) ?_ ?_
            · rintro j acc H6 ⟨ts, rfl, hp⟩
              have := Paired.length hp
              have := prs_len rk os j
              rw [List.length_map]
              omega
            · rintro j v H6 _ acc R R0 hj hK6 c6 hA ⟨T0, v1, v2, rfl, hT0, rfl, e1, e2⟩ hR hR0'
              cases e1
              obtain ⟨o, o1, o2, rfl⟩ := map_at e2
              have s6 := same_new (o := .tup [V.int (j : Nat), oV o]) hT0
              have ho : ∀ s, o = some s → s < d.n := by
                intro s e
                rw [← hos] at o2
                obtain ⟨j', _, hj'⟩ := List.mem_map.mp o2
                exact hd.ok.arr_lt (hj'.trans e)
              refine ⟨T0, _, rfl, .inl (.inl upd_same), rfl, _, _, rfl, _, _, rfl, rfl, rfl, ?_⟩
              refine ⟨_, rfl, _, rfl, p, o, 1, rk, d.n, rfl, ⟨kvs, s6 _ _ c6, k2, k3⟩, ho, by omega, fun H7 hS7 => ⟨_, rfl, ?_⟩⟩
              have s67 := s6.trans hS7
              cases o with
              | none =>
                refine hR0' _ s67.ke (s67 _ _ c6) s67.ts ?_
                rw [prs_no (prOne_a o1)]
                exact hA.ts s67.ts
              | some s =>
                cases hs1 : rk s 1 with
                | none =>
                  have : rcd rk 1 (some s) = false := by
                    show (rk s 1).isSome = false
                    rw [hs1]
                    rfl
                  rw [this]
                  refine hR0' _ s67.ke (s67 _ _ c6) s67.ts ?_
                  rw [prs_no (prOne_b o1 hs1)]
                  exact hA.ts s67.ts
                | some r1 =>
                  have : rcd rk 1 (some s) = true := by
                    show (rk s 1).isSome = true
                    rw [hs1]
                    rfl
                  rw [this]
                  refine ⟨_, rfl, _, rfl, n2, fun b1 hb1 => ?_⟩
                  have s8 := s67.trans (same_new (o := .tup [oV (some s), V.int 1]) hb1)
                  have es1 : valV kvs (ky s 1) = some (nV r1) := by
                    have := k3 s 1 (ho s rfl) (by omega)
                    rw [hs1] at this
                    exact this
                  refine ⟨p, nV r1, rfl, ?_, _, rfl, n2, fun b2 hb2 => ?_⟩
                  · have := DGet.t (k := ky s 1) (a := p) (s8 _ _ c6) (upd_same (H := H7) (a := b1) (o := .tup [oV (some s), V.int 1]))
                    rw [es1] at this
                    exact this
                  · have s9 := s8.trans (same_new (o := .tup [nV r1, V.int (j : Nat)]) hb2)
                    refine hR _ _ s9.ke (s9 _ _ c6) s9.ts ?_
                    rw [prs_yes (prOne_c o1 hs1)]
                    obtain ⟨ts, rfl, hp⟩ := hA.ts s9.ts
                    exact ⟨ts ++ [b2], by rw [List.map_append]; rfl, paired_snoc hp upd_same⟩
            · intro H6 acc hK6 c6 hL6 hA6
              obtain ⟨ts, rfl, hp⟩ := hA6
              rw [List.length_map] at hp
              obtain ⟨jl, sl', rl, w1, w2, w3⟩ := low_of hi (by rw [hrk]; exact hri)
              rw [hos] at w1
              rw [hrk] at w2
              have hmem : (((rl : Nat) : Int), ((jl : Nat) : Int)) ∈ prs rk os os.length := mem_prs.mpr ⟨jl, sl', rl, (List.getElem?_eq_some_iff.mp w1).1, w1, w2, rfl⟩
              refine ⟨_, rfl, _, rfl, D1, ts, prs rk os os.length, rfl, SqL.of hL6, hp, fun z => (by rw [z] at hmem; cases hmem), fun t pr ht hpr hat hmin => ?_⟩
              obtain ⟨j, s', r', hj, f1, f2, rfl⟩ := mem_prs.mp hpr
              have := prLt_le (hmin _ hmem)
              have hj' : j < l.length := by omega
              have ej : l[j]? = some l[j] := List.getElem?_eq_getElem hj'
              have ea : d.arr i l[j] = some s' := by
                rw [← hos, List.getElem?_map, ej] at f1
                exact Option.some.inj f1
              refine ⟨t, _, _, _, rfl, rfl, SqT.of hat, atI_nat (j := 1) rfl, ltx l, _, 97 + l[j], rfl, rfl, by rw [ltx_len]; exact small (by omega), atI_nat (by rw [ltx_cps, List.getElem?_map, ej]; rfl), ?_⟩
              refine fin _ (some l[j]) _ _ _ _ _ rfl ?_ ?_ ?_
              · exact sc.trans (hS5.trans (same_ke hK6 k5 c6))
              · intro j' e
                cases e
                exact List.getElem_mem hj'
              · intro r hr
                rw [hri] at hr
                cases hr
                exact ⟨l[j], s', r', rfl, ea, f2, by omega⟩
      · rintro σ' H4 ⟨y5, y6, y7, y8, y9, y10, sch, rfl, hS4, hF, sl, sm, lw⟩
        refine ⟨_, rfl, fd, _, rfl, .inl ⟨SqL.of hF, fun u hu => ?_⟩⟩
        have su := same_new (o := .tup (sch.map sV)) hu
        exact q2 u sch _ (hS1.trans (hS2.trans (hS4.trans su))) upd_same ⟨sl, sm, fun s r hs h => by rw [hrk] at h ⊢; exact lw s r hs h⟩
end
end K30
set_option Elab.async false
set_option linter.all false
set_option maxRecDepth 100000
set_option maxHeartbeats 4000000
namespace K30
open PySem PySem.Spec PyProof.Rows L2 K30R
theorem walk_zipS {K : PySem.W.Frag} {z : Str} {b : Addr} {ys : List V} (hn : ys.length = z.cps.size) : Walk (ItzS K z b) z.cps.size (fun H => SqL K H b ys) (fun i H v H' => ∃ T c y, v = .ref T ∧ H T = none ∧ H' = upd H T (.tup [.str ⟨#[c]⟩, y]) ∧ z.cps[i]? = some c ∧ ys[i]? = some y) := by
  refine ⟨fun i H hi q => ⟨hi, ys, ys[i], q, List.getElem?_eq_getElem (by omega)⟩, fun H q => ⟨rfl, ys, q, hn⟩, ?_⟩
  rintro i H v H' hi q ⟨T, c, y, h1, h2, h3, h4, h5⟩
  exact ⟨T, c, y, h1, h2, h3, h4, h5 ys q⟩
/-- what barring tells -/
structure BarOk (d : Dat) (l m : List Nat) (sch : List (Option Nat)) : Prop where
  len : sch.length = d.n
  sub : ∀ (s i : Nat), sch[s]? = some (some i) → i ∈ m ∧ rcd ((gameB d l m).rk (2 * d.n)) 0 (d.arr s i) = false
  some_ : ∀ s, s < d.n → (gameB d l m).rk (2 * d.n) s 1 = none → ∃ i, sch[s]? = some (some i)
/-- nothing more comes behind 2n stages -/
theorem stays_all (G : Game) (n : Nat) (C : Closed G n) : ∀ s t, s < n → t < 2 → ∀ j, 2 * n ≤ j → G.W j s t = G.W (2 * n) s t := by
  have key : ∀ k, (∃ i, i < k ∧ ∀ s t, s < n → t < 2 → G.W (i + 1) s t = G.W i s t) ∨ left G n k + k ≤ 2 * n := by
    intro k
    induction k with
    | zero => exact .inr (left_le G n 0)
    | succ k ih =>
      rcases ih with ⟨i, h1, h2⟩ | h
      · exact .inl ⟨i, by omega, h2⟩
      · by_cases hn : news G k n = []
        · exact .inl ⟨k, by omega, news_nil hn⟩
        · obtain ⟨⟨s1, t1⟩, hm⟩ := List.exists_mem_of_ne_nil _ hn
          obtain ⟨⟨m1, m2⟩, m3, m4⟩ := mem_news.mp hm
          have hW : G.W (k + 1) s1 t1 = true := by
            show (G.W k s1 t1 || G.cond (G.W k) s1 t1) = true
            rw [m4]
            simp
          have := left_lt m1 m2 m3 hW
          exact .inr (by omega)
  intro s t hs ht j hj
  rcases key (2 * n + 1) with ⟨i, h1, h2⟩ | h
  · rw [W_stays' C h2 (by omega : i ≤ j) hs ht, W_stays' C h2 (by omega : i ≤ 2 * n) hs ht]
  · omega
theorem safe_of {d : Dat} (ok : d.Ok) {l m : List Nat} {s : Nat} (hs : s < d.n) (h : (gameB d l m).rk (2 * d.n) s 1 = none) : ∃ i ∈ m, rcd ((gameB d l m).rk (2 * d.n)) 0 (d.arr s i) = false := by
  have w := rk_none.mp h
  have w2 := stays_all (gameB d l m) d.n (closed_game ok _ m false) s 1 hs (by omega) (2 * d.n + 1) (by omega)
  have c : (gameB d l m).cond ((gameB d l m).W (2 * d.n)) s 1 = false := by
    have e : ((gameB d l m).W (2 * d.n) s 1 || (gameB d l m).cond ((gameB d l m).W (2 * d.n)) s 1) = (gameB d l m).W (2 * d.n) s 1 := w2
    rw [w] at e
    simpa using e
  unfold Game.cond at c
  rw [if_neg (by decide), if_pos rfl, gameB_g, List.all_eq_false] at c
  obtain ⟨o, ho, hr⟩ := c
  obtain ⟨i, hi, rfl⟩ := List.mem_map.mp ho
  refine ⟨i, hi, ?_⟩
  rw [rcd_rch]
  simpa using hr
theorem filterMap_if {α β : Type} (c : α → Bool) (f : α → β) (l : List α) : l.filterMap (fun i => if c i = true then none else some (f i)) = (l.filter fun i => !c i).map f := by
  induction l with
  | nil => rfl
  | cons x r ih =>
    rw [List.filterMap_cons, List.filter_cons, ih]
    cases h : c x <;> simp
def BarInv (d : Dat) (rk : Nat → Nat → Option Nat) (x p fd : Addr) (l m : List Nat) (H2 : Hp) (i : Nat) (σ' : L2.St) (H' : Hp) : Prop := ∃ (y5 y6 y7 y8 y9 : Option V) (sch : List (Option Nat)), σ' = [some (.ref x), some (.str (ltx l)), some (.str (ltx m)), some (.ref p), some (.ref fd), y5, y6, y7, y8, y9] ∧
  Same H2 H' ∧ H' fd = some (.lst (sch.map sV)) ∧ sch.length = i ∧ (∀ s i, sch[s]? = some (some i) → i ∈ m ∧ rcd rk 0 (d.arr s i) = false) ∧ (∀ s, s < i → rk s 1 = none → ∃ i, sch[s]? = some (some i))
section
variable {P : Program} {w : World} {K : PySem.W.Frag} {mg : Str → Option Value} {base : Heap} {C : Addr}
abbrev N_barring : List Str := ["reader", "first", "second", "ranks", "found", "stand", "goals", "safe", "sign", "goal"]
abbrev P_barring : List Str := ["reader", "first", "second"]
theorem sc_barring : FnScope N_barring P_barring (defScope (top 31)) := ⟨rfl, rfl, rfl, by decide +kernel, rfl, by decide +kernel, by decide +kernel⟩
def spBarring (C : Addr) (d : Dat) : Sp := fun vs H Q _ => ∃ x l m, vs = [.ref x, .str (ltx l), .str (ltx m)] ∧ Duel C d l m H x ∧ (∀ r, (gameB d l m).rk (2 * d.n) 0 0 = some r → ∀ H', Same H H' → Q .non H') ∧
  ((gameB d l m).rk (2 * d.n) 0 0 = none → ∀ p sch H', Same H H' → H' p = some (.tup (sch.map sV)) → BarOk d l m sch → Q (.ref p) H')
theorem cl_barring (d : Dat) (D : DefAt K mg "barring" 31) (T : Tx K mg C) (m_len : Ml P w K mg base 1 C "__len__" (spLen C)) (c_check_duel : Cl P w K mg base 3 "check_duel" P_check_duel (spCheckDuel C)) (c_best_ranks : Cl P w K mg base 5 "best_ranks" P_best_ranks (spBestRanks C d))
    (c_goals_by : Cl P w K mg base 3 "goals_by" P_goals_by (spGoalsBy C d)) (c_is_reached : Cl P w K mg base 1 "is_reached" P_is_reached spIsReached) :
    Cl P w K mg base 6 "barring" P_barring (spBarring C d) ∧ Ck P w K mg base 6 "barring" P_barring (spBarring C d) := by
  refine clk_of (N := N_barring) D sc_barring (fun _ _ _ _ _ _ us hl => match us, hl with | [_, _, _], _ => rfl) (fun _ _ _ _ _ _ us hl => match us, hl with | [_, _, _], _ => rfl) (by decide) ?_ ?_
  · rintro vs H Q E ⟨x, l, m, rfl, _⟩
    rfl
  · rintro f cdv A outer s H vs Q E hr ⟨x, l, m, rfl, hd, q1, q2⟩
    refine ⟨_, (pss_cons (ps_expr (pe_cl c_check_duel hr (by omega) (by rfl) (pa_cons (pv 0) (pa_cons (pv 1) (pa_cons (pv 2) pa_nil)))))
      (pss_cons (ps_asg (pe_tup (pa_cons (pe_cl c_best_ranks hr (by omega) (by rfl) (pa_cons (pv 0) (pa_cons (pv 1) (pa_cons (pv 2) pa_nil)))) (pa_cons (pe_lst pa_nil) pa_nil))) (gT (n := 2) K rfl (pgs_cons (pg_name (i := 3) sc_barring.nd rfl (Or.inr rfl)) (pgs_cons (pg_name (i := 4) sc_barring.nd rfl (Or.inl rfl)) pgs_nil))))
      (pss_cons (ps_if (pt_cmp (pc_din (hu1 hr) (pe_tup (pa_cons pe_int (pa_cons pe_int pa_nil))) (pv 3))) (pss_one (ps_ret pe_non)) pss_nil)
      (pss_cons (ps_for PassesOwn.never rfl (pi_range1 rfl T.nrange (pa_cons (pe_callB (call_lenI m_len hr (by decide)) rfl T.nlen (by decide +kernel) (pa_cons (pv 0) pa_nil)) pa_nil)) (pg_name (i := 5) sc_barring.nd rfl (Or.inl rfl)) (pss_cons (ps_set (i := 6) sc_barring.nd rfl (Or.inl rfl) (pe_cl c_goals_by hr (by omega) (by rfl) (pa_cons (pv 0) (pa_cons (pv 5) (pa_cons (pv 2) pa_nil)))))
      (pss_cons (ps_setLc (i := 7) (own := [("sign", 8), ("goal", 9)]) rfl sc_barring.nd rfl rfl (sw_true rfl rfl rfl (by decide +kernel)) (wZip K T.nzip (pa_cons (pv 2) (pa_cons (pv 6) pa_nil))) (blkOk_by (N := N_barring) (sc := (defScope (top 31))) (by decide +kernel)) (fun _ _ _ _ _ => (gT (n := 2) K rfl (pgs_cons (pg_name (i := 8) sc_barring.nd rfl (Or.inl rfl)) (pgs_cons (pg_name (i := 9) sc_barring.nd rfl (Or.inl rfl)) pgs_nil)))) (fun _ _ _ _ _ => (pts_one (pt_not (pt_val (pe_cl c_is_reached hr (by omega) (by rfl) (pa_cons (pv 3) (pa_cons (pv 9) (pa_cons pe_int pa_nil)))))))) (fun _ _ _ _ _ => (pv 8)))
      (pss_one (ps_expr (zApp K (pv 4) (pa_cons (pe_ifExp (PW.pt (pw_and (pt_cmpR (zNeD K hr) (pv 7) (pe_lst pa_nil) (nomark _)) (pw_and1 (pt_cmp (pc_dnotin (hu1 hr) (pe_tup (pa_cons (pv 5) (pa_cons pe_int pa_nil))) (pv 3)))))) (pe_ix (zL K) (pv 7) pe_int (fun _ _ => rfl)) pe_non) pa_nil)))))))
      (pss_one (ps_ret (pe_callTy (zTupOf K) rfl T.ntuple (by decide +kernel) (pa_cons (pv 4) pa_nil)))))))), ?_⟩
    have n1' := hd.ok.n1
    have n3' := hd.ok.n3
    have m3' := hd.ok.m3
    have dn : d.n = d.rows.length := rfl
    have sz := hd.sz
    refine ⟨_, rfl, _, rfl, _, rfl, x, d, l, m, rfl, hd.rd, hd.ok, hd.fst, hd.snd, fun H1 hS1 => ?_⟩
    refine ⟨_, rfl, _, rfl, _, rfl, x, l, m, rfl, hd.same hS1, fun p H2 hS2 hR => ⟨n0, fun fd hfd => ⟨n2, fun r hr => ?_⟩⟩⟩
    have sf := same_new (o := .lst []) hfd
    have sr := same_new (o := .tup [V.ref p, V.ref fd]) hr
    refine ⟨r, _, rfl, .inl (.inl upd_same), rfl, _, _, rfl, _, _, rfl, rfl, n2, fun b hb => ?_⟩
    have sb := same_new (o := .tup [V.int 0, V.int 0]) hb
    have hsafe : ∀ s, s < d.n → (gameB d l m).rk (2 * d.n) s 1 = none → ∃ i ∈ m, rcd ((gameB d l m).rk (2 * d.n)) 0 (d.arr s i) = false := fun s hs h => safe_of hd.ok hs h
    generalize hrk : (gameB d l m).rk (2 * d.n) = rk at hR q1 q2 hsafe
    obtain ⟨kvs, k1, k2, k3⟩ := hR
    have sp := sf.trans (sr.trans sb)
    have e00 : valV kvs (ky 0 0) = (rk 0 0).map nV := k3 0 0 (by omega) (by omega)
    refine ⟨_, rfl, p, _, rfl, DGet.t (k := ky 0 0) (sp _ _ k1) upd_same, _, rfl, ?_⟩
    rw [e00, Option.isSome_map]
    cases h0 : rk 0 0 with
    | some r00 => exact q1 r00 h0 _ (hS1.trans (hS2.trans sp))
    | none =>
      have q2 := q2 h0
      obtain ⟨dx, fs, tt, x1, x2⟩ := id hd.rd
      have hd4 := hd.same (hS1.trans (hS2.trans sp))
      have hfd4 := (sr.trans sb) _ _ (upd_same (H := H2) (a := fd) (o := .lst []))
      refine ⟨_, rfl, x, dx, fs, rfl, (hS1.trans (hS2.trans sp)) _ _ x1, x, d, rfl, hd4.rd, _, rfl, by omega, by omega, _, rfl, by omega, by omega, ?_⟩
      refine for_it walk_rg (BarInv d rk x p fd l m H2)
        ⟨_, _, _, _, _, [], rfl, sp, hfd4, rfl, fun s i h => (by cases h), fun s h => absurd h (Nat.not_lt_zero s)⟩ (fun _ _ _ _ _ => trivial) ?_ ?_
      · rintro i v σ' _ H4 hi ⟨y5, y6, y7, y8, y9, sch, rfl, hS4, hF, sl, sm, lw⟩ ⟨rfl, rfl⟩
        have hi : i < d.n := hi
        have hS04 := hS1.trans (hS2.trans hS4)
        have k4 := hS4 _ _ k1
        have hd5 := hd.same hS04
        refine ⟨_, rfl, _, rfl, _, rfl, x, i, m, rfl, hd5.rd, hi, fun j hj => hd.snd.lt j hj, by omega, hd.ok, fun g1 H5 hS5 hg1 eg1 => ?_⟩
        have k5 := hS5 _ _ k4
        refine ⟨_, rfl, _, rfl, ltx m, g1, _, rfl, SqL.of eg1, fun D1 hD1 => ?_⟩
        refine lc_gen (walk_zipS (by rw [List.length_map, ltx_size])) (fun j => (m[j]?).bind fun q => if rcd rk 0 (d.arr i q) = true then none else some (V.str (sgn q))) (by rw [ltx_size]; omega) hD1 (fun H h => SqL.of (h _ _ eg1)) ?_ ?_
        · rintro j v H6 _ R R0 hj hS6 ⟨T0, c, y, rfl, hT0, rfl, e1, e2⟩ hR hR0
          obtain ⟨q, e3, rfl⟩ := ltx_at e1
          obtain ⟨q', f1, f2, rfl⟩ := map_at e2
          have : q = q' := Option.some.inj (e3.symm.trans f1)
          subst this
          have s6 := same_new (o := .tup [V.str ⟨#[97 + q]⟩, oV (d.arr i q)]) hT0
          refine ⟨T0, _, rfl, .inl (.inl upd_same), rfl, _, _, rfl, _, _, rfl, rfl, rfl, ?_⟩
          refine ⟨_, rfl, _, rfl, p, d.arr i q, 0, rk, d.n, rfl, ⟨kvs, s6 _ _ (hS6 _ _ k5), k2, k3⟩, fun s h => hd.ok.arr_lt h, by omega, fun H7 hS7 => ⟨_, rfl, ?_⟩⟩
          cases hq : rcd rk 0 (d.arr i q) with
          | true => exact hR0 (by rw [e3]; show (if rcd rk 0 (d.arr i q) = true then none else some (V.str (sgn q))) = _; rw [if_pos hq]) _ (s6.trans hS7)
          | false => exact ⟨_, rfl, hR _ (by rw [e3]; show (if rcd rk 0 (d.arr i q) = true then none else some (V.str (sgn q))) = _; rw [if_neg (by rw [hq]; decide)]; rfl) _ (s6.trans hS7)⟩
        · intro H6 hS6 hL6
          rw [ltx_size, outs_all, filterMap_if] at hL6
          generalize hsl : (m.filter fun q => !rcd rk 0 (d.arr i q)) = sl6 at hL6
          have m6 : ∀ q, q ∈ sl6 ↔ q ∈ m ∧ rcd rk 0 (d.arr i q) = false := fun q => by rw [← hsl, List.mem_filter]; simp
          have hF6 := hS6 _ _ (hS5 _ _ hF)
          have hS46 := hS5.trans hS6
          -- what is appended
          have fin : ∀ (D : Ends) (o : Option Nat) (H7 : Hp), D.nx = BarInv d rk x p fd l m H2 (i + 1) → Same H4 H7 → (∀ j, o = some j → j ∈ m ∧ rcd rk 0 (d.arr i j) = false) → (rk i 1 = none → ∃ j, o = some j) →
              rAppend (.ref fd) [sV o] H7 (fun _ H1 => D.nx [some (.ref x), some (.str (ltx l)), some (.str (ltx m)), some (.ref p), some (.ref fd), some (nV i), some (.ref g1), some (.ref D1), y8, y9] H1) := by
            intro D o H7 eD hS7 ho hlow
            have hF7 := hS7 _ _ hF
            refine ⟨fd, _, _, rfl, rfl, hF7, by rw [List.length_map]; exact small1000 (by omega), ?_⟩
            rw [eD]
            refine ⟨_, _, _, _, _, sch ++ [o], rfl, ke_new hfd (hS4.trans hS7) (ke_upd (Ke.refl _) (.inr rfl)), ?_, by rw [List.length_append, sl]; rfl, ?_, ?_⟩
            · rw [upd_same, List.map_append]
              rfl
            · intro s j e
              rcases Nat.lt_or_ge s i with z | z
              · rw [List.getElem?_append_left (by omega)] at e
                exact sm s j e
              · rw [List.getElem?_append_right (by omega), sl] at e
                have zs : s = i := by
                  have := (List.getElem?_eq_some_iff.mp e).1
                  simp at this
                  omega
                subst zs
                rw [Nat.sub_self] at e
                have e : o = some j := Option.some.inj e
                exact ho j e
            · intro s hs h
              rcases Nat.lt_or_ge s i with z | z
              · obtain ⟨j, e1⟩ := lw s z h
                exact ⟨j, by rw [List.getElem?_append_left (by omega)]; exact e1⟩
              · have : s = i := by omega
                subst this
                obtain ⟨j, e1⟩ := hlow h
                exact ⟨j, by rw [List.getElem?_append_right (by omega), sl, Nat.sub_self, e1]; rfl⟩
          refine ⟨_, rfl, .inl ⟨rfl, _, SqL.of hF6⟩, _, rfl, n0, fun e he => ?_⟩
          have se := same_new (o := .lst []) he
          have lay : PyData.canLayAll0 (sl6.map fun q => PyData.str (sgn q)) = true := layall fun q hq => lay_sgn (by have := hd.snd.lt q ((m6 q).mp hq).1; omega)
          refine ⟨.list (sl6.map fun q => .str (sgn q)), .list [], .lst (xs := sl6.map fun q => .str (sgn q)) (SqL.of (se _ _ hL6)) (dpall fun _ _ => .str _), .lst (SqL.of upd_same) .nil, shp_list lay (Nat.le_trans (depall (k := 0) fun _ _ => by simp [PyData.depth]) (by omega)), by decide +kernel, _, rfl, ?_⟩
          rw [eqv_nil]
          cases hc : sl6 with
          | nil =>
            refine fin _ none _ rfl (hS46.trans se) (fun j h => nomatch h) (fun h => ?_)
            obtain ⟨j, j1, j2⟩ := hsafe i hi h
            have := (m6 j).mpr ⟨j1, j2⟩
            rw [hc] at this
            cases this
          | cons q6 t6 =>
            have hq6 := (m6 q6).mp (by rw [hc]; exact List.mem_cons_self ..)
            refine ⟨_, rfl, n2, fun b1 hb1 => ?_⟩
            have s8 := se.trans (same_new (o := .tup [nV i, V.int 1]) hb1)
            have ei1 : valV kvs (ky i 1) = (rk i 1).map nV := k3 i 1 hi (by omega)
            refine ⟨_, rfl, p, _, rfl, DGet.t (k := ky i 1) (s8 _ _ (hS6 _ _ k5)) upd_same, _, rfl, ?_⟩
            rw [ei1, Option.isSome_map]
            cases hr1 : rk i 1 with
            | some r1 => exact fin _ none _ rfl (hS46.trans s8) (fun j h => nomatch h) (fun h => by rw [hr1] at h; cases h)
            | none =>
              refine ⟨_, rfl, D1, _, 0, _, rfl, rfl, SqL.of (s8 _ _ hL6), atI_nat (j := 0) (by rw [hc]; rfl), ?_⟩
              exact fin _ (some q6) _ rfl (hS46.trans s8) (fun j h => by cases h; exact hq6) (fun _ => ⟨q6, rfl⟩)
      · rintro σ' H4 ⟨y5, y6, y7, y8, y9, sch, rfl, hS4, hF, sl, sm, lw⟩
        refine ⟨_, rfl, fd, _, rfl, .inl ⟨SqL.of hF, fun u hu => ?_⟩⟩
        have su := same_new (o := .tup (sch.map sV)) hu
        exact q2 u sch _ (hS1.trans (hS2.trans (hS4.trans su))) upd_same ⟨sl, fun s i h => by rw [hrk]; exact sm s i h, fun s hs h => by rw [hrk] at h; exact lw s hs h⟩
end
end K30
set_option Elab.async false
set_option linter.all false
set_option maxRecDepth 100000
set_option maxHeartbeats 4000000
namespace K30
open PySem PySem.Spec PyProof.Rows L2 K30R
section
variable {P : Program} {w : World} {K : PySem.W.Frag} {mg : Str → Option Value} {base : Heap} {C : Addr}
abbrev N_is_plan : List Str := ["value", "reader", "lot", "sign"]
abbrev P_is_plan : List Str := ["value", "reader", "lot"]
theorem sc_is_plan : FnScope N_is_plan P_is_plan (defScope (top 32)) := ⟨rfl, rfl, rfl, by decide +kernel, rfl, by decide +kernel, by decide +kernel⟩
def spIsPlan (C : Addr) : Sp := fun vs H Q _ => ∃ (a x : Addr) (sch : List (Option Nat)) (l : List Nat) (d : Dat), vs = [.ref a, .ref x, .str (ltx l)] ∧ H a = some (.tup (sch.map sV)) ∧ RdAt C d H x ∧ d.Ok ∧ sch.length = d.n ∧ (∀ o ∈ sch, ∀ i, o = some i → i ∈ l) ∧ ∀ H', Same H H' → Q (.bl true) H'
theorem cl_is_plan (D : DefAt K mg "is_plan" 32) (T : Tx K mg C) (m_len : Ml P w K mg base 1 C "__len__" (spLen C)) : Cl P w K mg base 3 "is_plan" P_is_plan (spIsPlan C) := by
  refine cl_of (N := N_is_plan) D sc_is_plan (fun _ _ _ _ _ _ us hl => match us, hl with | [_, _, _], _ => rfl) ?_ ?_
  · rintro vs H Q E ⟨a, x, sch, l, d, rfl, _⟩
    rfl
  · rintro f cdv A outer s H vs Q E hr ⟨a, x, sch, l, d, rfl, h1, hx, ok, hlen, hm, q⟩
    refine ⟨_, (pss_cons (ps_if (PW.pt (pw_or (pt_not (pt_val (pe_callB (zIsi K) rfl T.nisinstance (by decide +kernel) (pa_cons (pv 0) (pa_cons (pe_bltn (v := .ty "tuple") rfl T.ntuple (by decide +kernel) rfl) pa_nil))))) (pw_or1 (pt_cmpR op_ne (pe_callB (zLen K) rfl T.nlen (by decide +kernel) (pa_cons (pv 0) pa_nil)) (pe_callB (call_lenI m_len hr (by decide)) rfl T.nlen (by decide +kernel) (pa_cons (pv 1) pa_nil)) (nomark _))))) (pss_one (ps_ret pe_bl)) pss_nil)
      (pss_one (ps_ret (pe_callB (zAll K rfl) rfl T.nall (by decide +kernel) (pa_cons (pe_lc (own := [("sign", 3)]) (g := gName 3) (tt := tYes) rfl sc_is_plan.nd (wT K (pv 0)) (blkOk_by (N := N_is_plan) (sc := (defScope (top 32))) (by decide +kernel)) (fun _ _ _ _ _ => (pg_name (i := 3) sc_is_plan.nd rfl (Or.inl rfl))) (fun _ _ _ _ _ => pts_nil) (fun _ _ _ _ _ => (pe_or (pe_cmpR op_isN (pv 3) pe_non (nomark _)) (pe_one (pe_and (pe_callB (zIsi K) rfl T.nisinstance (by decide +kernel) (pa_cons (pv 3) (pa_cons (pe_bltn (v := .ty "str") rfl T.nstr (by decide +kernel) rfl) pa_nil))) (pe_and (pe_cmpR op_eq (pe_callB call_len_str rfl T.nlen (by decide +kernel) (pa_cons (pv 3) pa_nil)) pe_int (nomark _)) (pe_one (pe_cmpR op_in_sign (pv 3) (pv 2) (by rfl))))))))) pa_nil))))), ?_⟩
    have n3' := ok.n3
    have dn : d.n = d.rows.length := rfl
    obtain ⟨dx, fs, tt, x1, x2⟩ := id hx
    refine ⟨_, rfl, _, _, _, _, true, rfl, .ty _, .base (.tup h1), kit_ty (by decide +kernel), true, rfl, ?_⟩
    refine ⟨_, rfl, a, _, rfl, .inr (SqT.of h1), _, rfl, x, dx, fs, rfl, x1, x, d, rfl, hx, _, rfl, by omega, by omega, rfl, false, ?_, ?_⟩
    · rw [List.length_map, hlen]
      show V.bl (!decide (V.int (d.n : Int) = V.int (d.n : Int))) = _
      rw [decide_eq_true rfl]
      rfl
    refine ⟨_, rfl, a, rfl, ⟨_, SqT.of h1⟩, fun D hD => ?_⟩
    refine lc_gen (walk_tup (xs := sch.map sV)) (fun _ => some (.bl true)) (by rw [List.length_map]; omega) hD (fun _ h => SqT.of (h _ _ h1)) ?_ ?_
    · rintro i v H1 _ R R0 hi hS ⟨rfl, hv⟩ hR _
      obtain ⟨o, e1, e2, rfl⟩ := map_at hv
      refine ⟨rfl, ?_⟩
      cases o with
      | none => exact ⟨_, rfl, rfl, true, rfl, hR _ rfl _ (Same.refl _)⟩
      | some j =>
        refine ⟨_, rfl, rfl, false, rfl, _, rfl, _, _, _, _, true, rfl, .ty _, .base (.str _), kit_ty (by decide +kernel), true, rfl, ?_⟩
        refine ⟨_, rfl, sgn j, rfl, n1, rfl, true, rfl, _, rfl, _, rfl, 97 + j, ltx l, rfl, rfl, ?_⟩
        exact qT (ltx_mem.mpr (hm _ e2 j rfl)) (hR _ rfl _ (Same.refl _))
    · intro H1 hS hL
      rw [List.length_map, outs_range, bls] at hL
      refine ⟨D, _, rfl, SqL.of hL, ?_⟩
      rw [all_rep]
      exact q _ hS
abbrev N_turns_of : List Str := ["reader", "first", "second", "plan", "choices", "sign"]
abbrev P_turns_of : List Str := ["reader", "first", "second", "plan"]
theorem sc_turns_of : FnScope N_turns_of P_turns_of (defScope (top 33)) := ⟨rfl, rfl, rfl, by decide +kernel, rfl, by decide +kernel, by decide +kernel⟩
def spTurnsOf (C : Addr) (d : Dat) : Sp := fun vs H Q _ => ∃ (x : Addr) (l m : List Nat) (a : Addr) (sch : List (Option Nat)), vs = [.ref x, .str (ltx l), .str (ltx m), .ref a] ∧ Duel C d l m H x ∧ H a = some (.tup (sch.map sV)) ∧ sch.length = d.n ∧ (∀ o ∈ sch, ∀ i, o = some i → i ∈ l) ∧
  ∀ H', Same H H' → Q (oV ((gameOf d (sch.map (pick l)) m true).rk (2 * d.n) 0 0)) H'
theorem cl_turns_of (d : Dat) (D : DefAt K mg "turns_of" 33) (T : Tx K mg C) (c_check_duel : Cl P w K mg base 3 "check_duel" P_check_duel (spCheckDuel C)) (c_is_plan : Cl P w K mg base 3 "is_plan" P_is_plan (spIsPlan C)) (c_ranks_of : Cl P w K mg base 4 "ranks_of" P_ranks_of (spRanksOf C d)) :
    Cl P w K mg base 6 "turns_of" P_turns_of (spTurnsOf C d) ∧ Ck P w K mg base 6 "turns_of" P_turns_of (spTurnsOf C d) := by
  refine clk_of (N := N_turns_of) D sc_turns_of (fun _ _ _ _ _ _ us hl => match us, hl with | [_, _, _, _], _ => rfl) (fun _ _ _ _ _ _ us hl => match us, hl with | [_, _, _, _], _ => rfl) (by decide) ?_ ?_
  · rintro vs H Q E ⟨x, l, m, a, sch, rfl, _⟩
    rfl
  · rintro f cdv A outer s H vs Q E hr ⟨x, l, m, a, sch, rfl, hd, ha, hlen, hm, q⟩
    refine ⟨_, (pss_cons (ps_expr (pe_cl c_check_duel hr (by omega) (by rfl) (pa_cons (pv 0) (pa_cons (pv 1) (pa_cons (pv 2) pa_nil)))))
      (pss_cons (ps_if (pt_not (pt_val (pe_cl c_is_plan hr (by omega) (by rfl) (pa_cons (pv 3) (pa_cons (pv 0) (pa_cons (pv 1) pa_nil)))))) (pss_one ps_never) pss_nil)
      (pss_cons (ps_setLc (i := 4) (own := [("sign", 5)]) (g := gName 5) (tt := tYes) rfl sc_turns_of.nd rfl rfl (sw_true rfl rfl rfl (by decide +kernel)) (wT K (pv 3)) (blkOk_by (N := N_turns_of) (sc := (defScope (top 33))) (by decide +kernel)) (fun _ _ _ _ _ => (pg_name (i := 5) sc_turns_of.nd rfl (Or.inl rfl))) (fun _ _ _ _ _ => pts_nil) (fun _ _ _ _ _ => (pe_ifExp (pt_cmpR op_isN (pv 5) pe_non (nomark _)) (pv 1) (pv 5))))
      (pss_one (ps_ret (pe_dget1 (hu1 hr) (pe_cl c_ranks_of hr (by omega) (by rfl) (pa_cons (pv 0) (pa_cons (pv 4) (pa_cons (pv 2) (pa_cons pe_bl pa_nil))))) (pe_tup (pa_cons pe_int (pa_cons pe_int pa_nil))) ⟨rfl, rfl, rfl, rfl⟩)))))), ?_⟩
    have n1' := hd.ok.n1
    have n3' := hd.ok.n3
    have dn : d.n = d.rows.length := rfl
    have sz := hd.sz
    refine ⟨_, rfl, _, rfl, _, rfl, x, d, l, m, rfl, hd.rd, hd.ok, hd.fst, hd.snd, fun H1 hS1 => ?_⟩
    refine ⟨_, rfl, _, rfl, _, rfl, a, x, sch, l, d, rfl, hS1 _ _ ha, hd.rd.same hS1, hd.ok, hlen, hm, fun H2 hS2 => ⟨true, rfl, ?_⟩⟩
    have ha2 := hS2 _ _ (hS1 _ _ ha)
    refine ⟨_, rfl, a, rfl, ⟨_, SqT.of ha2⟩, fun D hD => ?_⟩
    refine lc_gen (walk_tup (xs := sch.map sV)) (fun j => (sch[j]?).map fun o => V.str (ltx (pick l o))) (by rw [List.length_map]; omega) hD (fun _ h => SqT.of (h _ _ ha2)) ?_ ?_
    · rintro i v H3 _ R R0 hi hS ⟨rfl, hv⟩ hR _
      obtain ⟨o, e1, e2, rfl⟩ := map_at hv
      refine ⟨rfl, ?_⟩
      cases o with
      | none => exact ⟨_, rfl, rfl, true, rfl, _, rfl, hR _ (by rw [e1]; rfl) _ (Same.refl _)⟩
      | some j => exact ⟨_, rfl, rfl, false, rfl, _, rfl, hR _ (by rw [e1]; rfl) _ (Same.refl _)⟩
    · intro H3 hS3 hL
      rw [List.length_map, outs_map] at hL
      have hS03 := hS1.trans (hS2.trans hS3)
      refine ⟨_, rfl, _, rfl, _, rfl, x, D, m, true, sch.map (pick l), rfl, (hd.rd.same hS03), hd.ok, by rw [hL, List.map_map]; rfl, ⟨by rw [List.length_map]; exact hlen, ?_, ?_⟩, fun i hi => hd.snd.lt i hi, by omega, fun p H4 hS4 hR => ?_⟩
      · intro l' hl' i hi
        obtain ⟨o, ho, rfl⟩ := List.mem_map.mp hl'
        cases o with
        | none => exact hd.fst.lt i hi
        | some j =>
          have : i = j := List.mem_singleton.mp hi
          subst this
          exact hd.fst.lt i (hm _ ho i rfl)
      · intro l' hl'
        obtain ⟨o, ho, rfl⟩ := List.mem_map.mp hl'
        cases o with
        | none => show l.length ≤ 100; omega
        | some j => show 1 ≤ 100; omega
      obtain ⟨kvs, k1, k2, k3⟩ := hR
      refine ⟨p, rfl, .inr ⟨kvs, .inl k1⟩, n2, fun b hb => ?_⟩
      refine ⟨_, DGet.t (k := ky 0 0) (same_new hb _ _ k1) upd_same, ?_⟩
      have e : valV kvs (ky 0 0) = ((gameOf d (sch.map (pick l)) m true).rk (2 * d.n) 0 0).map nV := k3 0 0 (by omega) (by omega)
      rw [e]
      have z := q _ ((hS03.trans hS4).trans (same_new (o := .tup [nV 0, nV 0]) hb))
      cases h : (gameOf d (sch.map (pick l)) m true).rk (2 * d.n) 0 0 with
      | none => rw [h] at z; exact z
      | some r => rw [h] at z; exact z
end
end K30
set_option Elab.async false
set_option linter.all false
set_option maxRecDepth 100000
set_option maxHeartbeats 4000000
namespace K30
open PySem PySem.Spec PyProof.Rows L2 K30R
/-- a cask at an address -/
def CkAt (H : Hp) (c : Addr) : Prop := ∃ g m n : Int, H c = some (.lst [.int g, .int m, .int n]) ∧ 0 ≤ g ∧ 0 ≤ m ∧ m < 2147483053
theorem CkAt.keep {H H' : Hp} {c : Addr} (h : CkAt H c) (e : ∀ o, H c = some o → H' c = some o) : CkAt H' c := by
  obtain ⟨g, m, n, h1, h2⟩ := h
  exact ⟨g, m, n, e _ h1, h2⟩
theorem z_a : (0 : Int) < 2147483053 := by decide
theorem z_b : (0 : Int) < 1000723 := by decide
theorem z_c : (0 : Int) < 999667 := by decide
theorem z_d : (0 : Int) < 30011 := by decide
theorem z_t {t : Nat} (h : 0 < t) : (0 : Int) < (t : Int) := by omega
theorem qmod {Q : VK} {H : Hp} {z : Int} {t : Nat} (ht : 0 < t) (q : ∀ r : Nat, r < t → Q (nV r) H) : Q (.int (z % (t : Int))) H := by
  have h1 := Int.emod_nonneg z (by omega : (t : Int) ≠ 0)
  have h2 := Int.emod_lt_of_pos z (by omega : (0 : Int) < t)
  have e : nV (z % (t : Int)).toNat = .int (z % (t : Int)) := by
    show V.int _ = _
    rw [Int.toNat_of_nonneg h1]
  rw [← e]
  exact q _ (by omega)
theorem cell_if {K : PySem.W.Frag} {σ : L2.St} {H : Hp} {Q : VK} {a : Addr} {ns : List Int} {k : Nat} (s0 : σ[0]? = some (some (.ref a))) (s1 : σ[1]? = some (some (nV k))) (ha : SqL K H a (ns.map V.int)) (q : ∀ c : Int, Q (.int c) H) :
    tIf (tTest (tOp (rI0 fun i j => V.bl (decide (i < j))) (tVar 1) (tCB (rLenS K) (tCons (tVar 0) tNil)))) (tCB (fun xs H Q => (∃ i, xs = [V.int i] ∧ Q (V.int i) H) ∨ ∃ k, xs = [V.bl k] ∧ Q (V.int (if k = true then 1 else 0)) H) (tCons (tOp (rIxL K) (tVar 0) (tVar 1)) tNil)) (tC (V.int 0)) σ H Q := by
  refine ⟨_, s1, _, s0, a, _, rfl, .inl ha, _, _, rfl, rfl, _, rfl, ?_⟩
  refine ite2 (fun h => ?_) (fun _ => q 0)
  have h := of_decide_eq_true h
  have hk : k < ns.length := by rw [List.length_map] at h; omega
  exact ⟨_, s0, _, s1, a, _, _, _, rfl, rfl, ha, atI_nat (by rw [List.getElem?_map, List.getElem?_eq_getElem hk]; rfl), .inl ⟨_, rfl, q _⟩⟩
theorem dig_if {σ : L2.St} {H : Hp} {Q : VK} {c : Int} (s2 : σ[2]? = some (some (.int c))) (q : ∀ g : Int, 0 ≤ g → Q (.int g) H) :
    tIf (tOr (tTest (tOp (rI0 fun i j => V.bl (decide (i < j))) (tVar 2) (tC (V.int 0)))) (tTest (tOp (rI0 fun i j => V.bl (decide (j ≤ i))) (tVar 2) (tOp (rI CPow fun i j => V.int (i ^ j.toNat)) (tC (V.int 10)) (tC (V.int 17))))))
      (tCB (fun xs H Q => ∃ i, xs = [V.int i] ∧ Q (V.int (if i < 0 then -i else i)) H) (tCons (tVar 2) tNil)) (tC (V.int 0)) σ H Q := by
  have yes : tCB (fun xs H Q => ∃ i, xs = [V.int i] ∧ Q (V.int (if i < 0 then -i else i)) H) (tCons (tVar 2) tNil) σ H Q := by
    refine ⟨_, s2, _, rfl, q _ ?_⟩
    split <;> omega
  refine ⟨_, s2, _, _, rfl, rfl, _, rfl, ?_⟩
  refine ite2 (fun _ => yes) (fun _ => ?_)
  refine ⟨_, s2, _, _, rfl, rfl, ⟨by decide, by decide, by decide⟩, _, _, rfl, rfl, _, rfl, ?_⟩
  exact ite2 (fun _ => yes) (fun _ => q 0 (Int.le_refl _))
section
variable {P : Program} {w : World} {K : PySem.W.Frag} {mg : Str → Option Value} {base : Heap} {C : Addr}
abbrev N__law_cask : List Str := ["_law_cells", "_law_k", "_law_cell", "_law_mixed", "_law_each", "_law_digits"]
abbrev P__law_cask : List Str := ["_law_cells", "_law_k"]
theorem sc__law_cask : FnScope N__law_cask P__law_cask (defScope (top 35)) := ⟨rfl, rfl, rfl, by decide +kernel, rfl, by decide +kernel, by decide +kernel⟩
def spCask (K : PySem.W.Frag) : Sp := fun vs H Q _ => ∃ (a : Addr) (ns : List Int) (k : Nat), vs = [.ref a, nV k] ∧ SqL K H a (ns.map V.int) ∧ k < 1000 ∧ ns.length ≤ 1000 ∧ ∀ c H', Same H H' → H c = none → CkAt H' c → Q (.ref c) H'
theorem cl_law_cask (D : DefAt K mg "_law_cask" 35) (T : Tx K mg C) : Cl P w K mg base 1 "_law_cask" P__law_cask (spCask K) := by
  refine cl_of (N := N__law_cask) D sc__law_cask (fun _ _ _ _ _ _ us hl => match us, hl with | [_, _], _ => rfl) ?_ ?_
  · rintro vs H Q E ⟨a, ns, k, rfl, _⟩
    rfl
  · rintro f cdv A outer s H vs Q E hr ⟨a, ns, k, rfl, ha, hk, hlen, q⟩
    refine ⟨_, (pss_cons (ps_par (i := 2) (j := 3) rfl sc__law_cask.nd rfl rfl (by decide) rfl rfl (pa_cons (pe_ifExp (pt_cmpR op_lt (pv 1) (pe_callB (zLen K) rfl T.nlen (by decide +kernel) (pa_cons (pv 0) pa_nil)) (nomark _)) (pe_callTy call_int1 rfl T.nint (by decide +kernel) (pa_cons (pe_ix (zL K) (pv 0) (pv 1) (fun _ _ => rfl)) pa_nil)) pe_int) (pa_cons (pe_op op_add (pe_op op_mul pe_int (pe_op op_add (pv 1) pe_int)) pe_int) pa_nil)) rfl)
      (pss_cons (ps_for PassesOwn.never rfl (wL K (pe_slice (zSlL K) (pv 0) po_none (po_some pe_int))) (pg_name (i := 4) sc__law_cask.nd rfl (Or.inl rfl)) (pss_one (ps_set (i := 3) sc__law_cask.nd rfl (Or.inl rfl) (pe_op op_mod (pe_callTy call_int1 rfl T.nint (by decide +kernel) (pa_cons (pe_op op_add (pe_op op_add (pe_op op_mul (pv 3) pe_int) (pe_op op_mod (pe_callTy call_int1 rfl T.nint (by decide +kernel) (pa_cons (pv 4) pa_nil)) pe_int)) (pe_op op_mul pe_int (pv 1))) pa_nil)) pe_int))))
      (pss_cons (ps_set (i := 5) sc__law_cask.nd rfl (Or.inl rfl) (pe_ifExp (PW.pt (pw_or (pt_cmpR op_lt (pv 2) pe_int (nomark _)) (pw_or1 (pt_cmpR op_ge (pv 2) (pe_op op_pow pe_int pe_int) (nomark _))))) (pe_callB call_abs rfl T.nabs (by decide +kernel) (pa_cons (pv 2) pa_nil)) pe_int))
      (pss_one (ps_ret (pe_lst (pa_cons (pv 5) (pa_cons (pe_op op_mod (pe_callTy call_int1 rfl T.nint (by decide +kernel) (pa_cons (pe_op op_add (pv 3) (pe_op op_mul pe_int (pe_op op_mod (pe_callTy call_int1 rfl T.nint (by decide +kernel) (pa_cons (pv 2) pa_nil)) pe_int))) pa_nil)) pe_int) (pa_cons pe_int pa_nil))))))))), ?_⟩
    refine cell_if rfl rfl ha fun cell => ?_
    refine ⟨_, rfl, _, _, rfl, rfl, _, _, rfl, rfl, .inl ⟨by decide, by decide⟩, _, _, rfl, rfl, _, _, rfl, ?_⟩
    refine ⟨_, rfl, _, rfl, a, _, rfl, ha, fun p hp => ⟨p, rfl, ⟨_, SqL.of upd_same⟩, ?_⟩⟩
    refine for_it (walk_list (xs := cutV (ns.map V.int) none (some 6))) (fun i σ' H' => ∃ (mx : Int) (y4 : Option V), σ' = [some (.ref a), some (nV k), some (.int cell), some (.int mx), y4, none] ∧ H' = upd H p (.lst (cutV (ns.map V.int) none (some 6)))) ⟨_, _, rfl, rfl⟩ ?_ ?_ ?_
    · rintro i σ' H' _ ⟨mx, y4, rfl, rfl⟩
      exact SqL.of upd_same
    · rintro i v σ' H1 H2 hi ⟨mx, y4, rfl, rfl⟩ ⟨rfl, hv⟩
      have hm : v ∈ ns.map V.int := List.mem_of_mem_drop (List.mem_of_mem_take (List.mem_of_getElem? hv))
      obtain ⟨z, _, rfl⟩ := List.mem_map.mp hm
      exact ⟨_, rfl, _, _, rfl, rfl, .inr ⟨by decide, by decide⟩, _, rfl, .inl ⟨_, rfl, _, _, rfl, rfl, z_b, _, _, rfl, rfl, _, rfl, _, _, rfl, rfl, .inl ⟨by decide, by decide⟩, _, _, rfl, rfl, .inl ⟨_, rfl, _, _, rfl, rfl, z_a, _, _, rfl, rfl⟩⟩⟩
    · rintro σ' H1 ⟨mx, y4, rfl, rfl⟩
      refine dig_if rfl fun g hg => ?_
      refine ⟨_, rfl, _, rfl, _, rfl, .inl ⟨_, rfl, _, _, rfl, rfl, z_c, _, _, rfl, rfl, .inl ⟨by decide, by decide⟩, _, _, rfl, rfl, .inl ⟨_, rfl, _, _, rfl, rfl, z_a, n3, fun c hc => ?_⟩⟩⟩
      have s1 := same_new (o := .lst (cutV (ns.map V.int) none (some 6))) hp
      exact q c _ (s1.trans (same_new hc)) (s1.free hc) ⟨_, _, _, upd_same, hg, Int.emod_nonneg _ (by decide), Int.emod_lt_of_pos _ (by decide)⟩
abbrev N__law_pull : List Str := ["_law_cask_here", "_law_top", "_law_figure", "_law_base"]
abbrev P__law_pull : List Str := ["_law_cask_here", "_law_top"]
theorem sc__law_pull : FnScope N__law_pull P__law_pull (defScope (top 36)) := ⟨rfl, rfl, rfl, by decide +kernel, rfl, by decide +kernel, by decide +kernel⟩
def spPull : Sp := fun vs H Q _ => ∃ (c : Addr) (t : Nat), vs = [.ref c, nV t] ∧ CkAt H c ∧ 0 < t ∧ t < 1000 ∧ ∀ (r : Nat) H', r < t → Ke c H H' → CkAt H' c → Q (nV r) H'
theorem cl_law_pull (D : DefAt K mg "_law_pull" 36) (T : Tx K mg C) : Cl P w K mg base 1 "_law_pull" P__law_pull spPull := by
  refine cl_of (N := N__law_pull) D sc__law_pull (fun _ _ _ _ _ _ us hl => match us, hl with | [_, _], _ => rfl) ?_ ?_
  · rintro vs H Q E ⟨c, t, rfl, _⟩
    rfl
  · rintro f cdv A outer s H vs Q E hr ⟨c, t, rfl, ⟨g, m, n, h1, h2, h3, h4⟩, ht, ht2, q⟩
    refine ⟨_, (pss_cons (ps_if (pt_cmpR op_gt (pe_ix (zL K) (pv 0) pe_int (fun _ _ => rfl)) pe_int (nomark _)) (pss_cons (ps_set (i := 2) sc__law_pull.nd rfl (Or.inl rfl) (pe_op op_mod (pe_callTy call_int1 rfl T.nint (by decide +kernel) (pa_cons (pe_ix (zL K) (pv 0) pe_int (fun _ _ => rfl)) pa_nil)) (pv 1)))
      (pss_cons (ps_asg (pe_op op_fdiv (pe_ix (zL K) (pv 0) pe_int (fun _ _ => rfl)) (pv 1)) (pg_sub (pv 0) pe_int set_list))
      (pss_one (ps_ret (pv 2))))) pss_nil)
      (pss_cons (ps_asg (pe_op op_add (pe_ix (zL K) (pv 0) pe_int (fun _ _ => rfl)) pe_int) (pg_sub (pv 0) pe_int set_list))
      (pss_cons (ps_set (i := 3) sc__law_pull.nd rfl (Or.inl rfl) (pe_op op_mod (pe_callTy call_int1 rfl T.nint (by decide +kernel) (pa_cons (pe_op op_add (pe_ix (zL K) (pv 0) pe_int (fun _ _ => rfl)) (pe_op op_mul pe_int (pe_ix (zL K) (pv 0) pe_int (fun _ _ => rfl)))) pa_nil)) pe_int))
      (pss_cons (ps_asg (pe_op op_mod (pe_callTy call_int1 rfl T.nint (by decide +kernel) (pa_cons (pe_op op_add (pe_op op_add (pe_op op_mul (pv 3) (pe_op op_add (pe_op op_mod (pe_callTy call_int1 rfl T.nint (by decide +kernel) (pa_cons (pv 3) pa_nil)) pe_int) pe_int)) (pe_op op_mul pe_int (pe_ix (zL K) (pv 0) pe_int (fun _ _ => rfl)))) pe_int) pa_nil)) pe_int) (pg_sub (pv 0) pe_int set_list))
      (pss_one (ps_ret (pe_op op_mod (pe_op op_fdiv (pe_callTy call_int1 rfl T.nint (by decide +kernel) (pa_cons (pe_ix (zL K) (pv 0) pe_int (fun _ _ => rfl)) pa_nil)) pe_int) (pv 1)))))))), ?_⟩
    have a0 : atI [V.int g, .int m, .int n] 0 = some (.int g) := rfl
    refine ⟨_, rfl, c, _, _, _, rfl, rfl, SqL.of h1, a0, _, _, rfl, rfl, _, rfl, ?_⟩
    refine ite2 (fun _ => ?_) (fun _ => ?_)
    · refine ⟨_, rfl, c, _, _, _, rfl, rfl, SqL.of h1, a0, .inl ⟨_, rfl, _, rfl, _, _, rfl, rfl, z_t ht, ?_⟩⟩
      refine ⟨_, rfl, c, _, _, _, rfl, rfl, SqL.of h1, a0, _, rfl, _, _, rfl, rfl, ⟨z_t ht, by omega⟩, _, rfl, c, _, _, 0, rfl, rfl, h1, rfl, _, rfl, ?_⟩
      refine qmod (Q := Q) ht fun r hr => q r _ hr (ke_upd (Ke.refl _) (.inr rfl)) ⟨g / t, m, n, upd_same, Int.ediv_nonneg h2 (by omega), h3, h4⟩
    · refine ⟨_, rfl, c, _, _, _, rfl, rfl, SqL.of h1, (rfl : atI [V.int g, .int m, .int n] 2 = some (.int n)), _, _, rfl, rfl, _, rfl, c, _, _, 2, rfl, rfl, h1, rfl, ?_⟩
      have k1 := ke_upd (H := H) (H' := H) (o := .lst [.int g, .int m, .int (n + 1)]) (Ke.refl (c := c) _) (.inr rfl)
      have e1 : upd H c (.lst [.int g, .int m, .int (n + 1)]) c = some (.lst [.int g, .int m, .int (n + 1)]) := upd_same
      refine ⟨_, rfl, c, _, _, _, rfl, rfl, SqL.of e1, (rfl : atI [V.int g, .int m, .int (n + 1)] 1 = some (.int m)), _, rfl, c, _, _, _, rfl, rfl, SqL.of e1, (rfl : atI [V.int g, .int m, .int (n + 1)] 2 = some (.int (n + 1))), _, _, rfl, rfl, .inl ⟨by decide, by decide⟩, _, _, rfl, rfl, .inl ⟨_, rfl, _, _, rfl, rfl, z_a, ?_⟩⟩
      refine ⟨_, rfl, _, rfl, .inl ⟨_, rfl, _, _, rfl, rfl, z_d, _, _, rfl, rfl, _, _, rfl, rfl, .inl ⟨Int.lt_of_lt_of_le (by decide) (Int.emod_nonneg _ (by decide)), Int.lt_trans (Int.emod_lt_of_pos _ (by decide)) (by decide)⟩, _, rfl, c, _, _, _, rfl, rfl, SqL.of e1, (rfl : atI [V.int g, .int m, .int (n + 1)] 2 = some (.int (n + 1))), _, _, rfl, rfl, .inl ⟨by decide, by decide⟩, _, _, rfl, rfl, _, _, rfl, rfl, .inl ⟨_, rfl, _, _, rfl, rfl, z_a, ?_⟩⟩⟩
      refine ⟨_, rfl, c, _, _, 1, rfl, rfl, e1, rfl, ?_⟩
      refine ⟨_, rfl, c, _, _, _, rfl, rfl, SqL.of upd_same, atI_nat (j := 1) rfl, .inl ⟨_, rfl, _, _, rfl, rfl, ⟨by decide, by decide⟩, _, rfl, _, _, rfl, rfl, z_t ht, ?_⟩⟩
      exact qmod (Q := Q) ht fun r hr => q r _ hr (k1.trans (ke_upd (Ke.refl _) (.inr rfl))) ⟨g, _, n + 1, upd_same, h2, Int.emod_nonneg _ (by decide), Int.emod_lt_of_pos _ (by decide)⟩
abbrev N__law_one_of : List Str := ["_law_cask_here", "_law_some"]
abbrev P__law_one_of : List Str := ["_law_cask_here", "_law_some"]
theorem sc__law_one_of : FnScope N__law_one_of P__law_one_of (defScope (top 37)) := ⟨rfl, rfl, rfl, by decide +kernel, rfl, by decide +kernel, by decide +kernel⟩
def spOneOf : Sp := fun vs H Q _ => ∃ (c a : Addr) (xs : List V), vs = [.ref c, .ref a] ∧ CkAt H c ∧ H a = some (.lst xs) ∧ a ≠ c ∧ xs ≠ [] ∧ xs.length < 1000 ∧ ∀ v H', v ∈ xs → Ke c H H' → CkAt H' c → Q v H'
theorem cl_law_one_of (D : DefAt K mg "_law_one_of" 37) (T : Tx K mg C) (c__law_pull : Cl P w K mg base 1 "_law_pull" P__law_pull spPull) : Cl P w K mg base 2 "_law_one_of" P__law_one_of spOneOf := by
  refine cl_of (N := N__law_one_of) D sc__law_one_of (fun _ _ _ _ _ _ us hl => match us, hl with | [_, _], _ => rfl) ?_ ?_
  · rintro vs H Q E ⟨c, a, xs, rfl, _⟩
    rfl
  · rintro f cdv A outer s H vs Q E hr ⟨c, a, xs, rfl, hc, ha, hac, hne, hlen, q⟩
    refine ⟨_, (pss_one (ps_ret (pe_ix (zL K) (pv 1) (pe_cl c__law_pull hr (by omega) (by rfl) (pa_cons (pv 0) (pa_cons (pe_callB (zLen K) rfl T.nlen (by decide +kernel) (pa_cons (pv 1) pa_nil)) pa_nil))) (fun _ _ => rfl)))), ?_⟩
    have hpos := List.length_pos_iff.mpr hne
    refine ⟨_, rfl, _, rfl, _, rfl, a, xs, rfl, .inl (SqL.of ha), c, xs.length, rfl, hc, hpos, hlen, fun r H' hr hK hC => ?_⟩
    exact ⟨a, xs, r, xs[r], rfl, rfl, SqL.of (hK _ _ hac ha), atI_nat (List.getElem?_eq_getElem hr), q _ _ (List.getElem_mem hr) hK hC⟩
end
end K30
set_option Elab.async false
set_option linter.all false
set_option maxRecDepth 100000
set_option maxHeartbeats 4000000
namespace K30
open PySem PySem.Spec PyProof.Rows L2 K30R
def asgVal : Stmt → Expr
  | .Assign _ e _ => e
  | _ => .Constant .none 0 ⟨0, 0, 0, 0⟩
def lcScope : Expr → Scope
  | .ListComp _ _ sc _ => sc
  | _ => { kind := .function, names := [], isGenerator := false, isCoroutine := false }
def allCells (sc : Scope) : Scope := { sc with names := sc.names.map fun (n, k) => if (k == NameKind.free) = true then (n, NameKind.cell) else (n, k) }
def cs38 : Scope := allCells (lcScope (asgVal ((defBody (top 38)).getD 1 (.Pass ⟨0, 0, 0, 0⟩))))
theorem joinL_one : ∀ l : List Nat, TL.joinL [] (l.map fun i => [97 + i]) = l.map (97 + ·)
  | [] => rfl
  | [_] => rfl
  | x :: y :: r => by
    have ih := joinL_one (y :: r)
    show [97 + x] ++ ([] ++ TL.joinL [] ((y :: r).map fun i => [97 + i])) = _
    rw [ih]
    rfl
theorem join_sgn (l : List Nat) : Txt.join ("" : Str) (l.map sgn) = ltx l := by
  have e := SX.join_S [] (l.map fun i => [97 + i])
  rw [joinL_one, List.map_map] at e
  exact e
/-- marks: pulls -/
theorem pull_lc {σ : L2.St} {H1 : Hp} {D c : Addr} {Qd : Hp → Prop} {n t : Nat} (h0 : σ[0]? = some (some (.ref c))) (hD : H1 D = none) (hC : CkAt H1 c) (ht : 0 < t) (ht2 : t < 1000) (hn : n ≤ 1000)
    (hd : ∀ (ms : List Nat) H', ms.length = n → Ke c H1 H' → CkAt H' c → H' D = some (.lst (ms.map nV)) → Qd H') :
    LcGo (Itr 0 n) (gName 6) tYes (tCall spPull [] E0 (tCons (tVar 0) (tCons (tC (nV t)) tNil))) [6] σ H1 D Qd := by
  have hDc : D ≠ c := by
    intro z
    obtain ⟨g, m, k, h1, _⟩ := hC
    rw [← z, hD] at h1
    cases h1
  refine lc_acc walk_rg c (fun H => CkAt H c) (fun i acc _ => ∃ ms : List Nat, acc = ms.map nV ∧ ms.length = i) hn hD hDc hC (fun _ _ a b => a.keep b) (fun _ _ _ _ _ a => a) ⟨[], rfl, rfl⟩ ?_ (fun _ _ => trivial) ?_ ?_
  · rintro i acc H ⟨ms, rfl, rfl⟩
    rw [List.length_map]
    exact Nat.le_refl _
  · rintro i x H _ acc R R0 hi hK hc ⟨ms, rfl, rfl⟩ ⟨rfl, rfl⟩ hR _
    refine ⟨?_, ?_⟩
    · show (((σ.set 6 none).set 6 (some (nV ms.length))).set 6 none) = σ.set 6 none
      rw [List.set_set, List.set_set]
    refine ⟨.ref c, ?_, c, t, rfl, hc, ht, ht2, fun r H4 hr hK4 hc4 => ?_⟩
    · show (((σ.set 6 none).set 6 (some (nV ms.length))))[0]? = _
      rw [List.getElem?_set_ne (by decide), List.getElem?_set_ne (by decide)]
      exact h0
    · refine hR _ _ hK4 hc4 ?_ ⟨ms ++ [r], by rw [List.map_append]; rfl, by rw [List.length_append]; rfl⟩
      intro b xs e
      refine hK4 b _ ?_ e
      intro z
      obtain ⟨g, m, k, h1, _⟩ := hc
      rw [z, h1] at e
      cases e
  · rintro H acc hK hc hL ⟨ms, rfl, hl⟩
    exact hd ms H hl hK hc hL
theorem ck_ts {c : Addr} {H H' : Hp} (hc : CkAt H c) (h : Ke c H H') : TS H H' := by
  intro b xs e
  refine h b _ ?_ e
  intro z
  obtain ⟨g, m, k, h1, _⟩ := hc
  rw [z, h1] at e
  cases e
theorem ck_ne {c D : Addr} {H : Hp} (hc : CkAt H c) (h : H D = none) : D ≠ c := by
  intro z
  obtain ⟨g, m, k, h1, _⟩ := hc
  rw [← z, h] at h1
  cases h1
theorem CkAt.same {c : Addr} {H H' : Hp} (hc : CkAt H c) (h : Same H H') : CkAt H' c := hc.keep fun _ e => h _ _ e
section
variable {P : Program} {w : World} {K : PySem.W.Frag} {mg : Str → Option Value} {base : Heap} {C : Addr}
abbrev N__law_trio : List Str := ["_law_cask_here", "_law_many", "_law_most", "_law_size", "_law_rows", "_law_marks", "_law_k", "_law_sign"]
abbrev P__law_trio : List Str := ["_law_cask_here", "_law_many", "_law_most"]
theorem sc__law_trio : FnScope N__law_trio P__law_trio (defScope (top 38)) := ⟨rfl, rfl, rfl, by decide +kernel, rfl, by decide +kernel, by decide +kernel⟩
def spTrio : Sp := fun vs H Q _ => ∃ (c : Addr) (m t : Nat), vs = [.ref c, nV m, nV t] ∧ CkAt H c ∧ 1 ≤ m ∧ m ≤ 3 ∧ 1 ≤ t ∧ t ≤ 3 ∧ ∀ (d : Dat) p H', d.Ok → d.many = m → Ke c H H' → CkAt H' c → TrioAt d H' p → Q (.ref p) H'
theorem cl_law_trio (D : DefAt K mg "_law_trio" 38) (T : Tx K mg C) (c__law_pull : Cl P w K mg base 1 "_law_pull" P__law_pull spPull) (c__law_one_of : Cl P w K mg base 2 "_law_one_of" P__law_one_of spOneOf) : Cl P w K mg base 3 "_law_trio" P__law_trio spTrio := by
  refine cl_of (N := N__law_trio) D sc__law_trio (fun _ _ _ _ _ _ us hl => match us, hl with | [_, _, _], _ => rfl) ?_ ?_
  · rintro vs H Q E ⟨c, m, t, rfl, _⟩
    rfl
  · rintro f cdv A outer s H vs Q E hr ⟨c, m, t, rfl, hc, m1, m3, t1, t3, q⟩
    refine ⟨_, (pss_cons (ps_set (i := 3) sc__law_trio.nd rfl (Or.inr rfl) (pe_op op_add pe_int (pe_cl c__law_pull hr (by omega) (by rfl) (pa_cons (pv 0) (pa_cons (pv 2) pa_nil)))))
      (pss_cons (ps_setLc (i := 4) (own := [("_law_k", 6)]) (g := gName 6) (tt := tYes) rfl sc__law_trio.nd rfl rfl (sw_true rfl rfl rfl (by decide +kernel)) (pi_range1 rfl T.nrange (pa_cons (pv 3) pa_nil)) (blkOk_by (N := N__law_trio) (sc := (defScope (top 38))) (by decide +kernel)) (fun _ _ _ _ _ => (pg_name (i := 6) sc__law_trio.nd rfl (Or.inl rfl))) (fun _ _ _ _ _ => pts_nil) (fun _ _ _ _ _ => (pe_callTy (zTupOf K) rfl T.ntuple (by decide +kernel) (pa_cons (pe_lc (own := [("_law_sign", 7)]) (g := gName 7) (tt := tYes) rfl sc__law_trio.nd (pi_range1 rfl T.nrange (pa_cons (pv 1) pa_nil)) (blkOk_by (N := N__law_trio) (sc := cs38) (by decide +kernel)) (fun _ _ _ _ _ => (pg_name (i := 7) sc__law_trio.nd rfl (Or.inl rfl))) (fun _ _ _ _ _ => pts_nil) (fun _ _ _ _ _ => (pe_cl c__law_one_of hr (by omega) (by rfl) (pa_cons (pv 0) (pa_cons (pe_op op_cat (pe_lst (pa_cons pe_non pa_nil)) (pe_op op_rep (pe_listRg rfl rfl T.nlist (prg_1 rfl T.nrange (pv 3))) pe_int)) pa_nil))))) pa_nil))))
      (pss_cons (ps_set (i := 5) sc__law_trio.nd rfl (Or.inr rfl) (pe_lc (own := [("_law_k", 6)]) (g := gName 6) (tt := tYes) rfl sc__law_trio.nd (pi_range1 rfl T.nrange (pa_cons (pv 3) pa_nil)) (blkOk_by (N := N__law_trio) (sc := (defScope (top 38))) (by decide +kernel)) (fun _ _ _ _ _ => (pg_name (i := 6) sc__law_trio.nd rfl (Or.inl rfl))) (fun _ _ _ _ _ => pts_nil) (fun _ _ _ _ _ => (pe_cl c__law_pull hr (by omega) (by rfl) (pa_cons (pv 0) (pa_cons pe_int pa_nil))))))
      (pss_one (ps_ret (pe_tup (pa_cons (pv 1) (pa_cons (pe_callTy (zTupOf K) rfl T.ntuple (by decide +kernel) (pa_cons (pv 4) pa_nil)) (pa_cons (pe_callTy (zTupOf K) rfl T.ntuple (by decide +kernel) (pa_cons (pe_lc (own := [("_law_k", 6)]) (g := gName 6) rfl sc__law_trio.nd (pi_range1 rfl T.nrange (pa_cons (pv 3) pa_nil)) (blkOk_by (N := N__law_trio) (sc := (defScope (top 38))) (by decide +kernel)) (fun _ _ _ _ _ => (pg_name (i := 6) sc__law_trio.nd rfl (Or.inl rfl))) (fun _ _ _ _ _ => (pts_one (pt_cmpR op_eq (pe_ix (zL K) (pv 5) (pv 6) (fun _ _ => rfl)) pe_int (nomark _)))) (fun _ _ _ _ _ => (pv 6))) pa_nil)) pa_nil))))))))), ?_⟩
    refine ⟨_, rfl, _, rfl, c, t, rfl, hc, by omega, by omega, fun r H1 hr hK1 hc1 => ⟨_, _, rfl, rfl, ?_⟩⟩
    -- the rows
    refine ⟨_, rfl, ((1 + r : Nat) : Int), rfl, by omega, by omega, fun D1 hD1 => ?_⟩
    refine lc_acc (walk_rg (n := 1 + r)) c (fun H => CkAt H c) (fun i acc H => ∃ es : List (Addr × Row), acc = es.map (fun e => V.ref e.1) ∧ es.length = i ∧ ∀ e ∈ es, H e.1 = some (.tup (e.2.map oV)) ∧ e.2.length = m ∧ ∀ o ∈ e.2, ∀ k, o = some k → k < 1 + r)
      (by omega) hD1 (ck_ne hc1 hD1) hc1 (fun _ _ a b => a.keep b) ?_ ⟨[], rfl, rfl, fun _ h => by cases h⟩ ?_ (fun _ _ => trivial) ?_ ?_
    · rintro i acc H2 H3 hT ⟨es, rfl, rfl, h⟩
      exact ⟨es, rfl, rfl, fun e he => ⟨hT _ _ (h e he).1, (h e he).2⟩⟩
    · rintro i acc H2 ⟨es, rfl, rfl, _⟩
      rw [List.length_map]
      exact Nat.le_refl _
    · rintro i x _ H2 acc R R0 hi hK2 hc2 hA ⟨rfl, rfl⟩ hR _
      refine ⟨rfl, ?_⟩
      refine ⟨_, rfl, (m : Int), rfl, by omega, by omega, fun D2 hD2 => ?_⟩
      refine lc_acc (walk_rg (n := m)) c (fun H => CkAt H c) (fun i acc _ => ∃ row : Row, acc = row.map oV ∧ row.length = i ∧ ∀ o ∈ row, ∀ k, o = some k → k < 1 + r)
        (by omega) hD2 (ck_ne hc2 hD2) hc2 (fun _ _ a b => a.keep b) (fun _ _ _ _ _ a => a) ⟨[], rfl, rfl, fun _ h => by cases h⟩ ?_ (fun _ _ => trivial) ?_ ?_
      · rintro j acc H3 ⟨row, rfl, rfl, _⟩
        rw [List.length_map]
        exact Nat.le_refl _
      · rintro j y _ H3 acc2 R2 R02 hj hK3 hc3 ⟨row, rfl, rfl, hrow⟩ ⟨rfl, rfl⟩ hR2 _
        refine ⟨rfl, ?_⟩
        refine ⟨_, rfl, n1, fun a1 ha1 => ⟨_, rfl, ((1 + r : Nat) : Int), rfl, .of_le (by omega) (by omega) (by omega) (by omega), fun a2 ha2 => ?_⟩⟩
        have s1 := same_new (o := .lst [V.non]) ha1
        have s2 := s1.trans (same_new (o := .lst (rgV 0 ((1 + r : Nat) : Int))) ha2)
        have rl : (rgV 0 ((1 + r : Nat) : Int)).length = 1 + r := by rw [rgV_length]; omega
        refine ⟨a2, 2, _, rfl, rfl, upd_same, by decide, by decide, ?_, fun a3 ha3 => ?_⟩
        · rw [rl]
          exact small (by show (1 + r) * 2 ≤ 1000; omega)
        have s3 := same_new (o := .lst (List.replicate (2 : Int).toNat (rgV 0 ((1 + r : Nat) : Int))).flatten) ha3
        have fl : (List.replicate (2 : Int).toNat (rgV 0 ((1 + r : Nat) : Int))).flatten.length = 2 * (1 + r) := by
          show ([rgV 0 ((1 + r : Nat) : Int), rgV 0 ((1 + r : Nat) : Int)]).flatten.length = _
          rw [List.flatten_cons, List.flatten_cons, List.flatten_nil, List.append_nil, List.length_append, rl]
          omega
        refine ⟨a1, a3, _, _, rfl, rfl, s3 _ _ (same_new ha2 _ _ upd_same), upd_same, ?_, fun a4 ha4 => ?_⟩
        · rw [fl]
          exact small (by show 1 + 2 * (1 + r) ≤ 1000; omega)
        have s4 := s2.trans (s3.trans (same_new (o := .lst ([V.non] ++ (List.replicate (2 : Int).toNat (rgV 0 ((1 + r : Nat) : Int))).flatten)) ha4))
        have hc4 := hc3.same s4
        refine ⟨c, a4, _, rfl, hc4, upd_same, ?_, by simp, by rw [List.length_append, fl]; show 1 + 2 * (1 + r) < 1000; omega, fun v H5 hv hK5 hc5 => ?_⟩
        · intro z
          exact ck_ne (hc3.same (s2.trans s3)) ha4 z
        · have hv2 : ∃ o : Option Nat, v = oV o ∧ ∀ k, o = some k → k < 1 + r := by
            rcases List.mem_append.mp hv with z | z
            · exact ⟨none, List.mem_singleton.mp z, fun k h => nomatch h⟩
            · obtain ⟨l, hl, hz⟩ := List.mem_flatten.mp z
              rw [(List.mem_replicate.mp hl).2] at hz
              obtain ⟨k, hk, rfl⟩ := List.mem_map.mp hz
              refine ⟨some k, by show V.int (0 + (k : Int)) = V.int (k : Int); rw [Int.zero_add], fun k' e => ?_⟩
              cases e
              rw [List.mem_range] at hk
              omega
          obtain ⟨o, rfl, ho⟩ := hv2
          have hK35 : Ke c H3 H5 := s4.ke.trans hK5
          refine hR2 _ _ hK35 hc5 (ck_ts hc3 hK35) ⟨row ++ [o], by rw [List.map_append]; rfl, by rw [List.length_append]; rfl, ?_⟩
          intro o' ho' k e
          rcases List.mem_append.mp ho' with z | z
          · exact hrow o' z k e
          · rw [List.mem_singleton.mp z] at e
            exact ho k e
      · rintro H3 acc2 hK3 hc3 hL3 ⟨row, rfl, rlen, hrow⟩
        refine ⟨D2, _, rfl, .inl ⟨SqL.of hL3, fun u hu => ?_⟩⟩
        have su := same_new (o := .tup (row.map oV)) hu
        have hK24 := hK3.trans su.ke
        obtain ⟨es, rfl, hes, h⟩ := hA
        have hT := ck_ts hc2 hK24
        refine hR _ _ hK24 (hc3.same su) hT ⟨es ++ [(u, row)], by rw [List.map_append]; rfl, by rw [List.length_append, hes]; rfl, ?_⟩
        intro e he
        rcases List.mem_append.mp he with z | z
        · exact ⟨hT _ _ (h e z).1, (h e z).2⟩
        · rw [List.mem_singleton.mp z]
          exact ⟨upd_same, rlen, hrow⟩
    rintro H2 acc hK2 hc2 hL2 ⟨es, rfl, hes, hE⟩
    -- the marks
    refine ⟨_, rfl, ((1 + r : Nat) : Int), rfl, by omega, by omega, fun D3 hD3 => ?_⟩
    refine pull_lc (n := 1 + r) (t := 2) rfl hD3 hc2 (by decide) (by decide) (by omega) fun ms H3 hms hK3 hc3 hL3 => ?_
    have hD1c := ck_ne hc1 hD1
    have hD3c := ck_ne hc2 hD3
    have hL23 := hK3 _ _ hD1c hL2
    refine ⟨_, rfl, _, rfl, D1, _, rfl, .inl ⟨SqL.of hL23, fun u1 hu1 => ?_⟩⟩
    have su1 := same_new (o := .tup (es.map fun e => V.ref e.1)) hu1
    have hL34 := su1 _ _ hL3
    refine ⟨_, rfl, ((1 + r : Nat) : Int), rfl, by omega, by omega, fun D4 hD4 => ?_⟩
    refine lc_gen (walk_rg (n := 1 + r)) (fun i => if (decide (ms[i]? = some 0)) = true then some (nV i) else none) (by omega) hD4 (fun _ _ => trivial) ?_ ?_
    · rintro i x _ H4 R R0 hi hS4 ⟨rfl, rfl⟩ hR hR0
      have hi : i < 1 + r := hi
      have ei : ms[i]? = some (ms[i]'(by omega)) := List.getElem?_eq_getElem (by omega)
      refine ⟨rfl, ?_⟩
      refine ⟨_, rfl, _, rfl, D3, _, i, _, rfl, rfl, SqL.of (hS4 _ _ hL34), atI_nat (by rw [List.getElem?_map, ei]; rfl), rfl, _, rfl, ?_⟩
      refine ite2 (fun h => ?_) (fun h => ?_)
      · have h := of_decide_eq_true h
        have h0 : ms[i]'(by omega) = 0 := by
          have := V.int.inj h
          omega
        exact ⟨_, rfl, hR _ (by rw [ei, h0]; rfl) _ (Same.refl _)⟩
      · have h0 : ¬ ms[i]? = some 0 := by
          intro z
          rw [ei] at z
          have z := Option.some.inj z
          exact h (decide_eq_true (by show V.int ((ms[i]'(by omega) : Nat) : Int) = V.int 0; rw [z]; rfl))
        exact hR0 (by rw [decide_eq_false h0]; rfl) _ (Same.refl _)
    · intro H4 hS4 hL4
      rw [outs_rangeF] at hL4
      refine ⟨D4, _, rfl, .inl ⟨SqL.of hL4, fun u2 hu2 => ?_⟩⟩
      generalize hen : (List.range (1 + r)).filter (fun i => decide (ms[i]? = some 0)) = ends at hL4
      have su2 := same_new (o := .tup (((List.range (1 + r)).filter (fun i => decide (ms[i]? = some 0))).map nV)) hu2
      rw [hen] at su2
      refine ⟨n3, fun u3 hu3 => ?_⟩
      have su3 := same_new (o := .tup [nV m, V.ref u1, V.ref u2]) hu3
      have s34 : Same H3 _ := su1.trans (hS4.trans (su2.trans su3))
      have rl : (es.map (·.2)).length = 1 + r := by rw [List.length_map, hes]
      have hT3 : TS H2 _ := (ck_ts hc2 hK3).trans s34.ts
      refine q ⟨m, es.map (·.2), ends⟩ u3 _ ⟨m1, m3, ?_, ?_, ?_, ?_, ?_, ?_⟩ rfl (hK1.trans (hK2.trans (hK3.trans s34.ke))) (hc3.same s34) ⟨u1, u2, upd_same, ⟨es.map (·.1), ?_, ?_, ?_⟩, ?_⟩
      · show 1 ≤ (es.map (·.2)).length
        omega
      · show (es.map (·.2)).length ≤ 3
        omega
      · intro row hrow
        obtain ⟨e, he, rfl⟩ := List.mem_map.mp hrow
        exact (hE e he).2.1
      · intro row hrow o ho k ek
        obtain ⟨e, he, rfl⟩ := List.mem_map.mp hrow
        show k < (es.map (·.2)).length
        rw [rl]
        exact (hE e he).2.2 o ho k ek
      · rw [← hen]
        exact List.Pairwise.filter _ List.pairwise_lt_range
      · intro e he
        rw [← hen] at he
        have := (List.mem_filter.mp he).1
        rw [List.mem_range] at this
        show e < (es.map (·.2)).length
        omega
      · rw [List.map_map]
        exact (hS4.trans (su2.trans su3)) _ _ upd_same
      · rw [List.length_map, List.length_map]
      · intro i p row h1 h2
        rw [List.getElem?_map] at h1 h2
        cases he : es[i]? with
        | none => rw [he] at h1; cases h1
        | some e =>
          rw [he] at h1 h2
          cases h1
          cases h2
          exact hT3 _ _ (hE e (List.mem_of_getElem? he)).1
      · exact su3 _ _ (by rw [← hen]; exact upd_same)
abbrev N__law_lots : List Str := ["_law_cask_here", "_law_many", "_law_found", "_law_turn", "_law_marks", "_law_lot", "_law_k"]
abbrev P__law_lots : List Str := ["_law_cask_here", "_law_many"]
theorem sc__law_lots : FnScope N__law_lots P__law_lots (defScope (top 39)) := ⟨rfl, rfl, rfl, by decide +kernel, rfl, by decide +kernel, by decide +kernel⟩
def spLots : Sp := fun vs H Q _ => ∃ (c : Addr) (n : Nat), vs = [.ref c, nV n] ∧ CkAt H c ∧ 1 ≤ n ∧ n ≤ 3 ∧ ∀ (l m : List Nat) p H', Lot n l → Lot n m → Ke c H H' → CkAt H' c → H p = none → H' p = some (.lst [.str (ltx l), .str (ltx m)]) → Q (.ref p) H'
theorem cl_law_lots (D : DefAt K mg "_law_lots" 39) (T : Tx K mg C) (c__law_pull : Cl P w K mg base 1 "_law_pull" P__law_pull spPull) (c__law_one_of : Cl P w K mg base 2 "_law_one_of" P__law_one_of spOneOf) : Cl P w K mg base 3 "_law_lots" P__law_lots spLots := by
  refine cl_of (N := N__law_lots) D sc__law_lots (fun _ _ _ _ _ _ us hl => match us, hl with | [_, _], _ => rfl) ?_ ?_
  · rintro vs H Q E ⟨c, n, rfl, _⟩
    rfl
  · rintro f cdv A outer s H vs Q E hr ⟨c, n, rfl, hc, l1, l3, q⟩
    refine ⟨_, (pss_cons (ps_set (i := 2) sc__law_lots.nd rfl (Or.inl rfl) (pe_lst pa_nil))
      (pss_cons (ps_for PassesOwn.never rfl (pi_range1 rfl T.nrange (pa_cons pe_int pa_nil)) (pg_name (i := 3) sc__law_lots.nd rfl (Or.inl rfl)) (pss_cons (ps_set (i := 4) sc__law_lots.nd rfl (Or.inr rfl) (pe_lc (own := [("_law_k", 6)]) (g := gName 6) (tt := tYes) rfl sc__law_lots.nd (pi_range1 rfl T.nrange (pa_cons (pv 1) pa_nil)) (blkOk_by (N := N__law_lots) (sc := (defScope (top 39))) (by decide +kernel)) (fun _ _ _ _ _ => (pg_name (i := 6) sc__law_lots.nd rfl (Or.inl rfl))) (fun _ _ _ _ _ => pts_nil) (fun _ _ _ _ _ => (pe_cl c__law_pull hr (by omega) (by rfl) (pa_cons (pv 0) (pa_cons pe_int pa_nil))))))
      (pss_cons (ps_set (i := 5) sc__law_lots.nd rfl (Or.inl rfl) (pe_join pe_str (pe_lc (own := [("_law_k", 6)]) (g := gName 6) rfl sc__law_lots.nd (pi_range1 rfl T.nrange (pa_cons (pv 1) pa_nil)) (blkOk_by (N := N__law_lots) (sc := (defScope (top 39))) (by decide +kernel)) (fun _ _ _ _ _ => (pg_name (i := 6) sc__law_lots.nd rfl (Or.inl rfl))) (fun _ _ _ _ _ => (pts_one (pt_cmpR op_gt (pe_ix (zL K) (pv 4) (pv 6) (fun _ _ => rfl)) pe_int (nomark _)))) (fun _ _ _ _ _ => (pe_ix ix_str pe_str (pv 6) (fun _ _ => rfl))))))
      (pss_one (ps_expr (zApp K (pv 2) (pa_cons (pe_ifExp (pt_cmpR op_ne (pv 5) pe_str (nomark _)) (pv 5) (pe_cl c__law_one_of hr (by omega) (by rfl) (pa_cons (pv 0) (pa_cons (pe_callTy (call_listS rfl) rfl T.nlist (by decide +kernel) (pa_cons (pe_slice sl_str pe_str po_none (po_some (pv 1))) pa_nil)) pa_nil)))) pa_nil)))))))
      (pss_one (ps_ret (pv 2))))), ?_⟩
    refine ⟨n0, fun fd hfd => ?_⟩
    have hfc := ck_ne hc hfd
    have s0 := same_new (o := .lst []) hfd
    refine ⟨2, rfl, by decide, by decide, ?_⟩
    refine for_it (walk_rg (n := 2)) (fun i σ' H' => ∃ (y3 y4 y5 : Option V) (ls : List (List Nat)), σ' = [some (.ref c), some (nV n), some (.ref fd), y3, y4, y5, none] ∧ Ke c H H' ∧ CkAt H' c ∧ H' fd = some (.lst (ls.map fun l => V.str (ltx l))) ∧ ls.length = i ∧ ∀ l ∈ ls, Lot n l)
      ⟨_, _, _, [], rfl, s0.ke, hc.same s0, upd_same, rfl, fun _ h => by cases h⟩ (fun _ _ _ _ _ => trivial) ?_ ?_
    · rintro i v σ' _ H1 hi ⟨y3, y4, y5, ls, rfl, hK1, hc1, hF1, hlen, hls⟩ ⟨rfl, rfl⟩
      have hi : i < 2 := hi
      refine ⟨_, rfl, (n : Int), rfl, by omega, by omega, fun D1 hD1 => ?_⟩
      refine pull_lc (n := n) (t := 3) rfl hD1 hc1 (by decide) (by decide) (by omega) fun ms H2 hms hK2 hc2 hL2 => ?_
      refine ⟨⟨_, rfl⟩, _, rfl, (n : Int), rfl, by omega, by omega, fun D2 hD2 => ?_⟩
      refine lc_gen (walk_rg (n := n)) (fun i => if (decide (0 < ms.getD i 0)) = true then some (V.str (sgn i)) else none) (by omega) hD2 (fun _ _ => trivial) ?_ ?_
      · rintro j x _ H3 R R0 hj hS3 ⟨rfl, rfl⟩ hR hR0
        have hj : j < n := hj
        have ej : ms[j]? = some (ms[j]'(by omega)) := List.getElem?_eq_getElem (by omega)
        have ed : ms.getD j 0 = ms[j]'(by omega) := by rw [List.getD_eq_getElem?_getD, ej]; rfl
        refine ⟨rfl, ?_⟩
        refine ⟨_, rfl, _, rfl, D1, _, j, _, rfl, rfl, SqL.of (hS3 _ _ hL2), atI_nat (by rw [List.getElem?_map, ej]; rfl), _, _, rfl, rfl, _, rfl, ?_⟩
        refine ite2 (fun h => ?_) (fun h => ?_)
        · have h := of_decide_eq_true h
          have hp : 0 < ms.getD j 0 := by rw [ed]; omega
          obtain ⟨cc, ec⟩ : ∃ cc, ("abcdefgh" : Str).cps.toList[j]? = some cc ∧ (⟨#[cc]⟩ : Str) = sgn j := by
            have : j = 0 ∨ j = 1 ∨ j = 2 := by omega
            rcases this with rfl | rfl | rfl <;> exact ⟨_, by decide +kernel, rfl⟩
          refine ⟨_, rfl, ("abcdefgh" : Str), j, cc, rfl, rfl, small (by decide +kernel), atI_nat ec.1, ?_⟩
          rw [ec.2]
          exact hR _ (by rw [decide_eq_true hp]; rfl) _ (Same.refl _)
        · have hp : ¬ 0 < ms.getD j 0 := by
            rw [ed]
            intro z
            exact h (decide_eq_true (by omega))
          exact hR0 (by rw [decide_eq_false hp]; rfl) _ (Same.refl _)
      · intro H3 hS3 hL3
        rw [outs_rangeF] at hL3
        generalize hl : (List.range n).filter (fun i => decide (0 < ms.getD i 0)) = l at hL3
        have llen : l.length ≤ n := by
          rw [← hl]
          have := List.length_filter_le (fun i => decide (0 < ms.getD i 0)) (List.range n)
          rw [List.length_range] at this
          exact this
        have lup : l.Pairwise (· < ·) := by rw [← hl]; exact List.Pairwise.filter _ List.pairwise_lt_range
        have llt : ∀ i ∈ l, i < n := by
          intro i hi
          rw [← hl] at hi
          exact List.mem_range.mp (List.mem_filter.mp hi).1
        have hc3 := hc2.same hS3
        have hK13 := hK2.trans hS3.ke
        have hF3 := hK13 _ _ hfc hF1
        refine ⟨("" : Str), D2, l.map sgn, rfl, rfl, .inl (SqL.of (by rw [hL3, List.map_map]; rfl)), ?_, ?_⟩
        · have e : ((l.map sgn).map (·.length)).sum = l.length := by
            clear hl llen lup llt hL3
            induction l with
            | nil => rfl
            | cons x r ih =>
              rw [List.map_cons, List.map_cons, List.sum_cons, ih, List.length_cons]
              show 1 + r.length = r.length + 1
              omega
          rw [e]
          show l.length + (l.map sgn).length * 0 ≤ 16777216
          omega
        rw [join_sgn]
        -- append
        have fin : ∀ (D : Ends) (k : List Nat) (H4 : Hp), (D.nx = fun σ' H' => ∃ (y3 y4 y5 : Option V) (ls : List (List Nat)), σ' = [some (.ref c), some (nV n), some (.ref fd), y3, y4, y5, none] ∧ Ke c H H' ∧ CkAt H' c ∧ H' fd = some (.lst (ls.map fun l => V.str (ltx l))) ∧ ls.length = i + 1 ∧ ∀ l ∈ ls, Lot n l) →
            Ke c H3 H4 → CkAt H4 c → Lot n k → rAppend (.ref fd) [V.str (ltx k)] H4 (fun _ H1 => D.nx [some (.ref c), some (nV n), some (.ref fd), some (nV i), some (.ref D1), some (.str (ltx l)), none] H1) := by
          intro D k H4 eD hK4 hc4 hk
          have hF4 := hK4 _ _ hfc hF3
          refine ⟨fd, _, _, rfl, rfl, hF4, by rw [List.length_map]; exact small1000 (by omega), ?_⟩
          rw [eD]
          refine ⟨_, _, _, ls ++ [k], rfl, ke_upd (hK1.trans (hK13.trans hK4)) (.inl hfd), hc4.keep (fun _ e => by rw [upd_ne hfc.symm]; exact e), ?_, by rw [List.length_append, hlen]; rfl, ?_⟩
          · rw [upd_same, List.map_append]
            rfl
          · intro l' hl'
            rcases List.mem_append.mp hl' with z | z
            · exact hls l' z
            · rw [List.mem_singleton.mp z]
              exact hk
        refine ⟨_, rfl, .inl ⟨rfl, _, SqL.of hF3⟩, _, rfl, rfl, _, rfl, ?_⟩
        by_cases he : l = []
        · have e1 : decide (V.str (ltx l) = V.str ("" : Str)) = true := decide_eq_true (by rw [he]; rfl)
          rw [e1]
          refine ⟨_, rfl, _, rfl, _, rfl, _, rfl, small (by decide +kernel), _, rfl, ?_⟩
          rw [abc_cut (by omega : n ≤ 8)]
          refine ⟨by rw [ltx_len, List.length_range]; exact small (by omega), fun a1 ha1 => ?_⟩
          rw [signs_ltx]
          have s4 := same_new (o := .lst ((List.range n).map fun i => V.str (sgn i))) ha1
          have hc4 := hc3.same s4
          refine ⟨c, a1, _, rfl, hc4, upd_same, ck_ne hc3 ha1, ?_, by rw [List.length_map, List.length_range]; omega, fun v H5 hv hK5 hc5 => ?_⟩
          · intro z
            have := congrArg List.length z
            rw [List.length_map, List.length_range] at this
            have : n = 0 := this
            omega
          · obtain ⟨k, hk, rfl⟩ := List.mem_map.mp hv
            rw [List.mem_range] at hk
            exact fin _ [k] _ rfl (s4.ke.trans hK5) hc5 ⟨by simp, List.pairwise_singleton _ _, fun i hi => by rw [List.mem_singleton.mp hi]; exact hk⟩
        · have e1 : decide (V.str (ltx l) = V.str ("" : Str)) = false := decide_eq_false (ltx_ne he)
          rw [e1]
          exact ⟨_, rfl, fin _ l _ rfl (Ke.refl _) hc3 ⟨he, lup, llt⟩⟩
    · rintro σ' H1 ⟨y3, y4, y5, ls, rfl, hK1, hc1, hF1, hlen, hls⟩
      match ls, hlen with
      | [l, m], _ => exact ⟨_, rfl, q l m fd H1 (hls l (by simp)) (hls m (by simp)) hK1 hc1 hfd hF1⟩
abbrev N__law_near : List Str := ["_law_trio_here", "_law_stand", "_law_lot", "_law_sign"]
abbrev P__law_near : List Str := ["_law_trio_here", "_law_stand", "_law_lot"]
theorem sc__law_near : FnScope N__law_near P__law_near (defScope (top 40)) := ⟨rfl, rfl, rfl, by decide +kernel, rfl, by decide +kernel, by decide +kernel⟩
def spNear (d : Dat) : Sp := fun vs H Q _ => ∃ x s l, vs = [.ref x, nV s, .str (ltx l)] ∧ TrioAt d H x ∧ s < d.n ∧ (∀ i ∈ l, i < d.many) ∧ l.length ≤ 100 ∧ d.Ok ∧
  ∀ p H', Same H H' → H p = none → H' p = some (.lst (l.map fun i => oV (d.arr s i))) → Q (.ref p) H'
theorem cl_law_near (d : Dat) (D : DefAt K mg "_law_near" 40) (T : Tx K mg C) : Cl P w K mg base 1 "_law_near" P__law_near (spNear d) := by
  refine cl_of (N := N__law_near) D sc__law_near (fun _ _ _ _ _ _ us hl => match us, hl with | [_, _, _], _ => rfl) ?_ ?_
  · rintro vs H Q E ⟨x, s, l, rfl, _⟩
    rfl
  · rintro f cdv A outer s H vs Q E hr ⟨x, s, l, rfl, hx, hs, hl, hlen, ok, q⟩
    refine ⟨_, (pss_one (ps_ret (pe_lc (own := [("_law_sign", 3)]) (g := gName 3) (tt := tYes) rfl sc__law_near.nd (pi_str (pv 2)) (blkOk_by (N := N__law_near) (sc := (defScope (top 40))) (by decide +kernel)) (fun _ _ _ _ _ => (pg_name (i := 3) sc__law_near.nd rfl (Or.inl rfl))) (fun _ _ _ _ _ => pts_nil) (fun _ _ _ _ _ => (pe_ix (zT K) (pe_ix (zT K) (pe_ix (zT K) (pv 0) pe_int (fun _ _ => rfl)) (pv 1) (fun _ _ => rfl)) (zIndex K pe_str (pa_cons (pv 3) pa_nil)) (fun _ _ => rfl)))))), ?_⟩
    refine ⟨_, rfl, ltx l, rfl, fun D hD => ?_⟩
    refine lc_gen walk_str (fun i => (l[i]?).map fun i => oV (d.arr s i)) (by rw [ltx_size]; omega) hD (fun _ _ => trivial) ?_ ?_
    · rintro i v H1 _ R R0 hi hS ⟨rfl, hv⟩ hR _
      obtain ⟨k, e1, e2, rfl⟩ := ltx_it hv
      obtain ⟨rest, eo⟩ := abc_index (i := k) (Nat.lt_of_lt_of_le (hl k e2) (by have := ok.m3; omega))
      obtain ⟨ra, ea, t1, ⟨ps, t2, t3, t4⟩, t5⟩ := hx.ts hS.ts
      obtain ⟨r, g1, g2⟩ := ok.at_ hs (hl k e2)
      have hps : s < ps.length := by rw [t3]; exact hs
      have g3 : ps[s]? = some ps[s] := List.getElem?_eq_getElem hps
      refine ⟨rfl, ?_⟩
      refine ⟨_, rfl, x, _, 1, _, rfl, rfl, SqT.of t1, atI_nat (j := 1) rfl, _, rfl, ra, _, _, _, rfl, rfl, SqT.of t2, atI_nat (by rw [List.getElem?_map, g3]; rfl), rfl, _, rfl, _, _, k, rest, rfl, rfl, eo, ?_⟩
      exact ⟨_, _, _, _, rfl, rfl, SqT.of (t4 s _ r g3 g1), atI_nat (by rw [List.getElem?_map, g2]; rfl), hR _ (by rw [e1]; rfl) _ (Same.refl _)⟩
    · intro H1 hS hL
      rw [ltx_size, outs_map] at hL
      exact q D H1 hS hD hL
end
end K30
set_option Elab.async false
set_option linter.all false
set_option maxRecDepth 100000
set_option maxHeartbeats 4000000
namespace K30
open PySem PySem.Spec PyProof.Rows L2 K30R
theorem any_sps (sps : List (Nat × Nat)) (o : Option Nat) (t : Nat) : (sps.map spD).any (fun z => PyData.eqv z (.tuple [oD o, .int (t : Int)])) = match o with | none => false | some s => decide ((s, t) ∈ sps) := by
  cases o with
  | none =>
    rw [List.any_eq_false]
    intro z hz
    obtain ⟨e, _, rfl⟩ := List.mem_map.mp hz
    simp [spD, oD, PyData.eqv, PyData.eqvAll]
  | some s =>
    show (sps.map spD).any (fun z => PyData.eqv z (spD (s, t))) = decide ((s, t) ∈ sps)
    apply Bool.eq_iff_iff.mpr
    rw [List.any_eq_true, decide_eq_true_eq]
    constructor
    · rintro ⟨z, hz, h⟩
      obtain ⟨e, he, rfl⟩ := List.mem_map.mp hz
      rw [eqv_sp, decide_eq_true_eq] at h
      rw [← h]
      exact he
    · intro h
      exact ⟨_, List.mem_map.mpr ⟨_, h, rfl⟩, by rw [eqv_sp]; exact decide_eq_true rfl⟩
theorem any_W {n : Nat} {X : Set2} {sps : List (Nat × Nat)} (sm : ∀ s t, (s, t) ∈ sps ↔ s < n ∧ t < 2 ∧ X s t = true) {o : Option Nat} (ho : ∀ s, o = some s → s < n) {t : Nat} (ht : t < 2) :
    (sps.map spD).any (fun z => PyData.eqv z (.tuple [oD o, .int (t : Int)])) = rch X o t := by
  rw [any_sps]
  cases o with
  | none => rfl
  | some s =>
    show decide ((s, t) ∈ sps) = X s t
    apply Bool.eq_iff_iff.mpr
    rw [decide_eq_true_eq, sm]
    constructor
    · rintro ⟨_, _, h⟩
      exact h
    · intro h
      exact ⟨ho s rfl, ht, h⟩
theorem inV_o (o : Option Nat) (es : List Nat) : inV (oV o) (es.map nV) = match o with | none => false | some s => decide (s ∈ es) := by
  unfold inV
  cases o with
  | none =>
    rw [List.any_eq_false]
    intro z hz
    obtain ⟨e, _, rfl⟩ := List.mem_map.mp hz
    intro h
    cases h
  | some s =>
    show (es.map nV).any (fun y => eqV y (nV s)) = decide (s ∈ es)
    apply Bool.eq_iff_iff.mpr
    rw [List.any_eq_true, decide_eq_true_eq]
    constructor
    · rintro ⟨z, hz, h⟩
      obtain ⟨e, he, rfl⟩ := List.mem_map.mp hz
      have h : ((e : Int) == (s : Int)) = true := h
      have h := eq_of_beq h
      have : e = s := by omega
      rw [← this]
      exact he
    · intro h
      exact ⟨_, List.mem_map.mpr ⟨_, h, rfl⟩, by show ((s : Int) == (s : Int)) = true; exact beq_self_eq_true _⟩
theorem inV_t (bs : List Bool) : inV (.bl true) (bs.map V.bl) = bs.any id := by
  unfold inV
  induction bs with
  | nil => rfl
  | cons b r ih =>
    rw [List.map_cons, List.any_cons, List.any_cons, ih]
    cases b <;> rfl
theorem inV_f (bs : List Bool) : inV (.bl false) (bs.map V.bl) = !bs.all id := by
  unfold inV
  induction bs with
  | nil => rfl
  | cons b r ih =>
    rw [List.map_cons, List.any_cons, List.all_cons, ih]
    cases b <;> rfl
theorem flat_n (es : List Nat) : (es.map nV).all flatV = true := by
  rw [List.all_eq_true]
  intro z hz
  obtain ⟨e, _, rfl⟩ := List.mem_map.mp hz
  rfl
theorem flat_o (es : List (Option Nat)) : (es.map oV).all flatV = true := by
  rw [List.all_eq_true]
  intro z hz
  obtain ⟨e, _, rfl⟩ := List.mem_map.mp hz
  cases e <;> rfl
theorem flat_b (es : List Bool) : (es.map V.bl).all flatV = true := by
  rw [List.all_eq_true]
  intro z hz
  obtain ⟨e, _, rfl⟩ := List.mem_map.mp hz
  rfl
theorem flat_oV (o : Option Nat) : flatV (oV o) = true := by cases o <;> rfl
theorem atI_m1 {α : Type} {xs : List α} {v : α} (h : xs[xs.length - 1]? = some v) : atI xs (-1) = some v := by
  rw [← List.getLast?_eq_getElem?] at h
  obtain ⟨ys, rfl⟩ := List.getLast?_eq_some_iff.mp h
  exact atI_last ys v
theorem filterMap_if2 {α β : Type} (c : α → Bool) (f : α → β) (l : List α) : l.filterMap (fun i => if c i = true then some (f i) else none) = (l.filter c).map f := by
  induction l with
  | nil => rfl
  | cons x r ih =>
    rw [List.filterMap_cons, List.filter_cons, ih]
    cases h : c x <;> simp
def pr2 (k : Nat) : Nat × Nat := (k / 2, k % 2)
theorem mem_pr2 {i s t : Nat} : (s, t) ∈ (List.range i).map pr2 ↔ 2 * s + t < i ∧ t < 2 := by
  rw [List.mem_map]
  constructor
  · rintro ⟨k, hk, h⟩
    rw [List.mem_range] at hk
    unfold pr2 at h
    simp only [Prod.mk.injEq] at h
    omega
  · rintro ⟨h1, h2⟩
    refine ⟨2 * s + t, List.mem_range.mpr h1, ?_⟩
    unfold pr2
    simp only [Prod.mk.injEq]
    omega
def lw (G : Game) (j i : Nat) : List (Nat × Nat) := ((List.range i).map pr2).filter fun p => !G.W j p.1 p.2 && G.cond (G.W j) p.1 p.2
theorem lw_succ (G : Game) (j i : Nat) : lw G j (i + 1) = lw G j i ++ if (!G.W j (i / 2) (i % 2) && G.cond (G.W j) (i / 2) (i % 2)) = true then [(i / 2, i % 2)] else [] := by
  unfold lw
  rw [List.range_succ, List.map_append, List.filter_append]
  congr 1
  rw [List.map_cons, List.map_nil, List.filter_cons, List.filter_nil]
  rfl
theorem lw_len (G : Game) (j i : Nat) : (lw G j i).length ≤ i := by
  have := List.length_filter_le (fun p : Nat × Nat => !G.W j p.1 p.2 && G.cond (G.W j) p.1 p.2) ((List.range i).map pr2)
  rw [List.length_map, List.length_range] at this
  exact this
theorem mem_lw {G : Game} {j i s t : Nat} : (s, t) ∈ lw G j i ↔ (2 * s + t < i ∧ t < 2) ∧ G.W j s t = false ∧ G.cond (G.W j) s t = true := by
  unfold lw
  rw [List.mem_filter, mem_pr2]
  simp
theorem LatAt.upd {H : Hp} {q y : Addr} {sps : List (Nat × Nat)} {zs zs' : List V} (h : LatAt H q sps) (hy : H y = some (.lst zs)) (ne : q ≠ y) : LatAt (upd H y (.lst zs')) q sps := by
  obtain ⟨ts, h1, h2, h3⟩ := h
  refine ⟨ts, by rw [upd_ne ne]; exact h1, h2, fun e he => ?_⟩
  have ht := h3 e he
  unfold PairAt at ht ⊢
  rw [upd_ne (fun z => by rw [z, hy] at ht; cases ht)]
  exact ht
/-- a layer in the heap -/
def LayAt (n : Nat) (G : Game) (H : Hp) (q : Addr) (j : Nat) : Prop := ∃ sps, LatAt H q sps ∧ sps.length ≤ 6 * (j + 1) ∧ ∀ s t, (s, t) ∈ sps ↔ s < n ∧ t < 2 ∧ G.W j s t = true
theorem LayAt.same {n : Nat} {G : Game} {H H' : Hp} {q : Addr} {j : Nat} (h : LayAt n G H q j) (e : Same H H') : LayAt n G H' q j := by
  obtain ⟨sps, h1, h2⟩ := h
  exact ⟨sps, h1.same e, h2⟩
theorem LayAt.upd {n : Nat} {G : Game} {H : Hp} {q y : Addr} {j : Nat} {zs zs' : List V} (h : LayAt n G H q j) (hy : H y = some (.lst zs)) (ne : q ≠ y) : LayAt n G (upd H y (.lst zs')) q j := by
  obtain ⟨sps, h1, h2⟩ := h
  exact ⟨sps, h1.upd hy ne, h2⟩
def LotsAt (l m : List Nat) (H : Hp) (a : Addr) : Prop := H a = some (.lst [.str (ltx l), .str (ltx m)])
/-- the state of the inner for of layers -/
def LyIn (x a p y : Addr) (j : Nat) (q6 : Addr) (H3 : Hp) (sps : List (Nat × Nat)) (σ' : L2.St) (H' : Hp) : Prop := ∃ (y2 y7 y8 y9 y10 : Option V), σ' = [some (.ref x), some (.ref a), y2, some (.ref p), some (.ref y), some (nV j), some (.ref q6), y7, y8, y9, y10] ∧ Same H3 H' ∧ LatAt H' q6 sps
def lotOf (l m : List Nat) (t : Nat) : List Nat := if t = 0 then l else m
section
variable {P : Program} {w : World} {K : PySem.W.Frag} {mg : Str → Option Value} {base : Heap} {C : Addr}
abbrev N__law_layers : List Str := ["_law_trio_here", "_law_lots_here", "_law_k", "_law_pairs_here", "_law_layers_here", "_law_turn", "_law_later", "_law_side", "_law_told", "_law_pair", "_law_goal"]
abbrev P__law_layers : List Str := ["_law_trio_here", "_law_lots_here"]
theorem sc__law_layers : FnScope N__law_layers P__law_layers (defScope (top 41)) := ⟨rfl, rfl, rfl, by decide +kernel, rfl, by decide +kernel, by decide +kernel⟩
def spLayers (d : Dat) : Sp := fun vs H Q _ => ∃ x a l m, vs = [.ref x, .ref a] ∧ TrioAt d H x ∧ d.Ok ∧ LotsAt l m H a ∧ Lot d.many l ∧ Lot d.many m ∧
  ∀ (ls : List Addr) y H', Same H H' → ls.length = 2 * d.n + 1 → H' y = some (.lst (ls.map V.ref)) → (∀ j q, ls[j]? = some q → LayAt d.n (gameB d l m) H' q j) → Q (.ref y) H'
theorem cl_law_layers (d : Dat) (D : DefAt K mg "_law_layers" 41) (T : Tx K mg C) (c__law_near : Cl P w K mg base 1 "_law_near" P__law_near (spNear d)) : Cl P w K mg base 2 "_law_layers" P__law_layers (spLayers d) := by
  refine cl_of (N := N__law_layers) D sc__law_layers (fun _ _ _ _ _ _ us hl => match us, hl with | [_, _], _ => rfl) ?_ ?_
  · rintro vs H Q E ⟨x, a, l, m, rfl, _⟩
    rfl
  · rintro f cdv A outer s H vs Q E hr ⟨x, a, l, m, rfl, hx, ok, ha, hl, hm, q⟩
    refine ⟨_, (pss_cons (ps_setLc (i := 3) (own := [("_law_k", 2)]) (g := gName 2) (tt := tYes) rfl sc__law_layers.nd rfl rfl (sw_true rfl rfl rfl (by decide +kernel)) (pi_range1 rfl T.nrange (pa_cons (pe_op op_mul pe_int (pe_callB (zLen K) rfl T.nlen (by decide +kernel) (pa_cons (pe_ix (zT K) (pv 0) pe_int (fun _ _ => rfl)) pa_nil))) pa_nil)) (blkOk_by (N := N__law_layers) (sc := (defScope (top 41))) (by decide +kernel)) (fun _ _ _ _ _ => (pg_name (i := 2) sc__law_layers.nd rfl (Or.inl rfl))) (fun _ _ _ _ _ => pts_nil) (fun _ _ _ _ _ => (pe_tup (pa_cons (pe_callTy call_int1 rfl T.nint (by decide +kernel) (pa_cons (pe_op op_fdiv (pv 2) pe_int) pa_nil)) (pa_cons (pe_op op_mod (pe_callTy call_int1 rfl T.nint (by decide +kernel) (pa_cons (pv 2) pa_nil)) pe_int) pa_nil)))))
      (pss_cons (ps_set (i := 4) sc__law_layers.nd rfl (Or.inr rfl) (pe_lst (pa_cons (pe_lc (own := [("_law_pair", 9)]) (g := gName 9) rfl sc__law_layers.nd (wL K (pv 3)) (blkOk_by (N := N__law_layers) (sc := (defScope (top 41))) (by decide +kernel)) (fun _ _ _ _ _ => (pg_name (i := 9) sc__law_layers.nd rfl (Or.inl rfl))) (fun _ _ _ _ _ => (pts_one (pt_cmpR (zIn K) (pe_ix (zT K) (pv 9) pe_int (fun _ _ => rfl)) (pe_ix (zT K) (pv 0) pe_int (fun _ _ => rfl)) (by rfl)))) (fun _ _ _ _ _ => (pv 9))) pa_nil)))
      (pss_cons (ps_for PassesOwn.never rfl (pi_range1 rfl T.nrange (pa_cons (pe_op op_mul pe_int (pe_callB (zLen K) rfl T.nlen (by decide +kernel) (pa_cons (pe_ix (zT K) (pv 0) pe_int (fun _ _ => rfl)) pa_nil))) pa_nil)) (pg_name (i := 5) sc__law_layers.nd rfl (Or.inl rfl)) (pss_cons (ps_set (i := 6) sc__law_layers.nd rfl (Or.inl rfl) (pe_callTy (zListOf K) rfl T.nlist (by decide +kernel) (pa_cons (pe_ix (zL K) (pv 4) (pe_un un_neg pe_int) (fun _ _ => rfl)) pa_nil)))
      (pss_cons (ps_for PassesOwn.never rfl (wL K (pv 3)) (gT (n := 2) K rfl (pgs_cons (pg_name (i := 2) sc__law_layers.nd rfl (Or.inl rfl)) (pgs_cons (pg_name (i := 7) sc__law_layers.nd rfl (Or.inr rfl)) pgs_nil))) (pss_cons (ps_setLc (i := 8) (own := [("_law_goal", 10)]) (g := gName 10) (tt := tYes) rfl sc__law_layers.nd rfl rfl (sw_true rfl rfl rfl (by decide +kernel)) (wL K (pe_cl c__law_near hr (by omega) (by rfl) (pa_cons (pv 0) (pa_cons (pv 2) (pa_cons (pe_ix (zL K) (pv 1) (pv 7) (fun _ _ => rfl)) pa_nil))))) (blkOk_by (N := N__law_layers) (sc := (defScope (top 41))) (by decide +kernel)) (fun _ _ _ _ _ => (pg_name (i := 10) sc__law_layers.nd rfl (Or.inl rfl))) (fun _ _ _ _ _ => pts_nil) (fun _ _ _ _ _ => (pe_cmpR (zInD K hr) (pe_tup (pa_cons (pv 10) (pa_cons (pe_op op_sub pe_int (pv 7)) pa_nil))) (pe_ix (zL K) (pv 4) (pe_un un_neg pe_int) (fun _ _ => rfl)) (by rfl))))
      (pss_one (ps_if (PW.pt (pw_and (pt_cmpR (zNinD K hr) (pe_tup (pa_cons (pv 2) (pa_cons (pv 7) pa_nil))) (pv 6) (by rfl)) (pw_and1 (pt_ifx (pt_cmpR op_eq (pv 7) pe_int (nomark _)) (pt_cmpR (zIn K) pe_bl (pv 8) (by rfl)) (pt_cmpR (zNin K) pe_bl (pv 8) (by rfl)))))) (pss_one (ps_expr (zApp K (pv 6) (pa_cons (pe_tup (pa_cons (pv 2) (pa_cons (pv 7) pa_nil))) pa_nil)))) pss_nil))))
      (pss_one (ps_expr (zApp K (pv 4) (pa_cons (pv 6) pa_nil)))))))
      (pss_one (ps_ret (pv 4)))))), ?_⟩
    have an1 := ok.n1
    have an3 := ok.n3
    have am3 := ok.m3
    have dn : d.n = d.rows.length := rfl
    have hll := hl.len
    have hml := hm.len
    obtain ⟨ra, ea, x1, ⟨ps, x2, x3, x4⟩, x5⟩ := id hx
    have x5 : H ea = some (.tup (d.ends.map nV)) := x5
    have ha : H a = some (.lst [.str (ltx l), .str (ltx m)]) := ha
    generalize hG : gameB d l m = G at q
    have ern : ∀ H', Same H H' → H' x = some (.tup [nV d.many, .ref ra, .ref ea]) ∧ H' ra = some (.tup (ps.map V.ref)) := fun H' h => ⟨h _ _ x1, h _ _ x2⟩
    -- the pairs
    refine ⟨_, rfl, x, _, 1, _, rfl, rfl, SqT.of x1, atI_nat (j := 1) rfl, ra, _, rfl, .inr (SqT.of x2), _, _, rfl, rfl, .inl ⟨by decide, by decide⟩, ((2 * d.n : Nat) : Int), ?_, by omega, by omega, fun D1 hD1 => ?_⟩
    · rw [List.length_map, x3]
      rfl
    have hD1a : D1 ≠ a := fun z => by rw [z, ha] at hD1; cases hD1
    refine lc_acc (walk_rg (n := 2 * d.n)) a (fun H => H a = some (.lst [.str (ltx l), .str (ltx m)])) (fun i acc H => ∃ ts : List (Addr × Nat × Nat), acc = ts.map (fun e => V.ref e.1) ∧ ts.map (·.2) = (List.range i).map pr2 ∧ ∀ e ∈ ts, PairAt H e)
      (by omega) hD1 hD1a ha (fun _ _ a b => b _ a) ?_ ⟨[], rfl, rfl, fun _ h => by cases h⟩ ?_ (fun _ _ => trivial) ?_ ?_
    · rintro i acc H2 H3 hT ⟨ts, rfl, h1, h2⟩
      exact ⟨ts, rfl, h1, fun e he => hT _ _ (h2 e he)⟩
    · rintro i acc H2 ⟨ts, rfl, h1, h2⟩
      have := congrArg List.length h1
      rw [List.length_map, List.length_map, List.length_range] at this
      rw [List.length_map]
      omega
    · rintro i v _ H2 acc R R0 hi hK2 hc2 ⟨ts, rfl, h1, h2⟩ ⟨rfl, rfl⟩ hR _
      refine ⟨rfl, ?_⟩
      refine ⟨_, rfl, _, _, rfl, rfl, ⟨by decide, by decide⟩, .inl ⟨_, rfl, _, rfl, .inl ⟨_, rfl, _, _, rfl, rfl, (by decide : (0 : Int) < 2), n2, fun b hb => ?_⟩⟩⟩
      have sb := same_new (o := .tup [nV (i / 2), nV (i % 2)]) hb
      refine hR _ _ sb.ke (sb _ _ hc2) sb.ts ⟨ts ++ [(b, pr2 i)], by rw [List.map_append]; rfl, by rw [List.map_append, h1, List.range_succ, List.map_append]; rfl, ?_⟩
      intro e he
      rcases List.mem_append.mp he with z | z
      · exact sb _ _ (h2 e z)
      · rw [List.mem_singleton.mp z]
        exact upd_same
    rintro H1 acc hK1 hc1 hL1 ⟨ts, rfl, ht1, ht2⟩
    have hS1 : Same H H1 := same_ke hK1 ha hc1
    have tsl : ts.length = 2 * d.n := by
      have := congrArg List.length ht1
      rw [List.length_map, List.length_map, List.length_range] at this
      exact this
    -- the first layer
    refine ⟨_, rfl, D1, rfl, ⟨_, SqL.of hL1⟩, fun D2 hD2 => ?_⟩
    refine lc_gen (walk_list (xs := ts.map fun e => V.ref e.1)) (fun i => (ts[i]?).bind fun e => if decide (e.2.1 ∈ d.ends) = true then some (V.ref e.1) else none) (by rw [List.length_map]; omega) hD2 (fun H h => SqL.of (h _ _ hL1)) ?_ ?_
    · rintro i v _ H2 R R0 hi hS2 ⟨rfl, hv⟩ hR hR0
      obtain ⟨e, e1, e2, rfl⟩ := map_at hv
      have he := hS2 _ _ (ht2 e e2)
      refine ⟨rfl, ?_⟩
      refine ⟨_, rfl, e.1, _, 0, _, rfl, rfl, SqT.of he, atI_nat (j := 0) rfl, _, rfl, x, _, 2, _, rfl, rfl, SqT.of ((hS1.trans hS2) _ _ x1), atI_nat (j := 2) rfl, ea, _, rfl, .inr (SqT.of ((hS1.trans hS2) _ _ x5)), rfl, flat_n _, inV (nV e.2.1) (d.ends.map nV), rfl, ?_⟩
      have iv : inV (nV e.2.1) (d.ends.map nV) = decide (e.2.1 ∈ d.ends) := inV_o (some e.2.1) d.ends
      rw [iv]
      by_cases c : e.2.1 ∈ d.ends
      · rw [decide_eq_true c]
        exact ⟨_, rfl, hR _ (by rw [e1]; show (if decide (e.2.1 ∈ d.ends) = true then some (V.ref e.1) else none) = _; rw [if_pos (decide_eq_true c)]) _ (Same.refl _)⟩
      · rw [decide_eq_false c]
        exact hR0 (by rw [e1]; show (if decide (e.2.1 ∈ d.ends) = true then some (V.ref e.1) else none) = _; rw [if_neg (fun z => c (of_decide_eq_true z))]) _ (Same.refl _)
    intro H2 hS2 hL2
    rw [List.length_map, outs_all, filterMap_if2] at hL2
    have hS02 := hS1.trans hS2
    have lay0 : LayAt d.n G H2 D2 0 := by
      refine ⟨(ts.filter fun e => decide (e.2.1 ∈ d.ends)).map (·.2), ⟨_, hL2, rfl, fun e he => hS2 _ _ (ht2 e (List.mem_filter.mp he).1)⟩, ?_, ?_⟩
      · rw [List.length_map]
        have := List.length_filter_le (fun e : Addr × Nat × Nat => decide (e.2.1 ∈ d.ends)) ts
        omega
      · intro s t
        have hm : (s, t) ∈ (ts.filter fun e => decide (e.2.1 ∈ d.ends)).map (·.2) ↔ (s, t) ∈ (List.range (2 * d.n)).map pr2 ∧ s ∈ d.ends := by
          rw [← ht1, List.mem_map, List.mem_map]
          constructor
          · rintro ⟨e, he, h⟩
            obtain ⟨h1, h2⟩ := List.mem_filter.mp he
            have h2 := of_decide_eq_true h2
            rw [h] at h2
            exact ⟨⟨e, h1, h⟩, h2⟩
          · rintro ⟨⟨e, he, h⟩, h2⟩
            refine ⟨e, List.mem_filter.mpr ⟨he, decide_eq_true ?_⟩, h⟩
            rw [h]
            exact h2
        rw [hm, mem_pr2]
        have w0 : G.W 0 s t = (decide (t < 2) && decide (s ∈ d.ends)) := by rw [← hG]; rfl
        rw [w0, Bool.and_eq_true, decide_eq_true_eq, decide_eq_true_eq]
        constructor
        · rintro ⟨⟨h1, h2⟩, h3⟩
          exact ⟨by omega, h2, h2, h3⟩
        · rintro ⟨h1, h2, _, h3⟩
          exact ⟨⟨by omega, h2⟩, h3⟩
    refine ⟨n1, fun y hy => ?_⟩
    have sy := same_new (o := .lst [V.ref D2]) hy
    have ern2 := ern _ (hS02.trans sy)
    refine ⟨_, rfl, x, _, 1, _, rfl, rfl, SqT.of ern2.1, atI_nat (j := 1) rfl, ra, _, rfl, .inr (SqT.of ern2.2), _, _, rfl, rfl, .inl ⟨by decide, by decide⟩, ((2 * d.n : Nat) : Int), ?_, by omega, by omega, ?_⟩
    · rw [List.length_map, x3]
      rfl
    refine for_it (walk_rg (n := 2 * d.n)) (fun j σ' H' => ∃ (y2 y5 y6 y7 y8 y9 y10 : Option V) (ls : List Addr), σ' = [some (.ref x), some (.ref a), y2, some (.ref D1), some (.ref y), y5, y6, y7, y8, y9, y10] ∧ Same H2 H' ∧ ls.length = j + 1 ∧ H' y = some (.lst (ls.map V.ref)) ∧
        (∀ i q, ls[i]? = some q → q ≠ y ∧ LayAt d.n G H' q i))
      ⟨_, _, _, _, _, _, _, [D2], rfl, sy, rfl, upd_same, fun i q h => ?_⟩ (fun _ _ _ _ _ => trivial) ?_ ?_
    · cases i with
      | succ i => cases h
      | zero =>
        cases h
        exact ⟨fun z => (by rw [← z, hL2] at hy; cases hy), lay0.same sy⟩
    · rintro j v σ' _ H3 hj ⟨y2, y5, y6, y7, y8, y9, y10, ls, rfl, hS3, hlen, hL3, hlay⟩ ⟨rfl, rfl⟩
      have hj : j < 2 * d.n := hj
      obtain ⟨qj, ej⟩ : ∃ qj, ls[j]? = some qj := ⟨_, List.getElem?_eq_getElem (by omega)⟩
      obtain ⟨nqy, sps, lat, sl, sm⟩ := hlay j _ ej
      have lat0 := lat
      obtain ⟨tj, j1, j2, j3⟩ := lat
      have em1 : atI (ls.map V.ref) (-1) = some (V.ref qj) := atI_m1 (by rw [List.length_map, hlen, List.getElem?_map]; show (ls[j]?).map V.ref = _; rw [ej]; rfl)
      refine ⟨_, rfl, 1, rfl, y, _, _, _, rfl, rfl, SqL.of hL3, em1, _, _, rfl, .inl (SqL.of j1), fun q6 hq6 => ?_⟩
      have hL3' := hL3
      have nq6 : q6 ≠ y := fun z => by rw [z, hL3] at hq6; cases hq6
      have s6 := same_new (o := .lst (tj.map fun e => V.ref e.1)) hq6
      have tjl : tj.length = sps.length := by rw [← j2, List.length_map]
      refine ⟨_, rfl, D1, rfl, ⟨_, SqL.of (s6 _ _ (hS3 _ _ (hS2 _ _ hL1)))⟩, ?_⟩
      refine for_it (walk_list (xs := ts.map fun e => V.ref e.1)) (fun i => LyIn x a D1 y j q6 H3 (sps ++ lw G j i))
        ⟨_, _, _, _, _, rfl, s6, ?_⟩ ?_ ?_ ?_
      · show LatAt _ q6 (sps ++ [])
        rw [List.append_nil]
        exact ⟨tj, upd_same, j2, fun e he => s6 _ _ (j3 e he)⟩
      · rintro i σ' H4 hi ⟨z2, z7, z8, z9, z10, rfl, hS4, hL4⟩
        exact SqL.of (hS4 _ _ (hS3 _ _ (hS2 _ _ hL1)))
      · rintro i v σ' _ H4 hi ⟨z2, z7, z8, z9, z10, rfl, hS4, hL4⟩ ⟨rfl, hv⟩
        obtain ⟨e, e1, e2, rfl⟩ := map_at hv
        have hi : i < 2 * d.n := by rw [List.length_map, tsl] at hi; exact hi
        have ee : e.2 = pr2 i := by
          have : (ts.map (·.2))[i]? = some e.2 := by rw [List.getElem?_map, e1]; rfl
          rw [ht1, List.getElem?_map, List.getElem?_range hi] at this
          exact (Option.some.inj this).symm
        have ek : e.2.1 = i / 2 := by rw [ee]; rfl
        have et : e.2.2 = i % 2 := by rw [ee]; rfl
        have hk : i / 2 < d.n := by omega
        have ht : i % 2 < 2 := Nat.mod_lt _ (by decide)
        have hS24 := hS3.trans hS4
        have hS04 := hS02.trans hS24
        have hpe : H4 e.1 = some (.tup [nV (i / 2), nV (i % 2)]) := by
          have := hS24 _ _ (hS2 _ _ (ht2 e e2))
          rw [ek, et] at this
          exact this
        generalize hkk : i / 2 = kk at hk hpe
        generalize htt : i % 2 = sd at ht hpe
        have hx4 := hx.ts hS04.ts
        have hlot : atI [V.str (ltx l), V.str (ltx m)] (sd : Int) = some (V.str (ltx (lotOf l m sd))) := by
          have : sd = 0 ∨ sd = 1 := by omega
          rcases this with rfl | rfl <;> rfl
        have hlo : (∀ i ∈ lotOf l m sd, i < d.many) ∧ (lotOf l m sd).length ≤ 3 := by
          unfold lotOf
          split
          · exact ⟨fun i hi => hl.lt i hi, by omega⟩
          · exact ⟨fun i hi => hm.lt i hi, by omega⟩
        refine ⟨e.1, _, rfl, SqT.of hpe, rfl, _, _, rfl, _, _, rfl, rfl, ?_⟩
        refine ⟨_, rfl, _, rfl, _, rfl, _, rfl, a, _, _, _, rfl, rfl, SqL.of (hS04 _ _ ha), hlot, x, kk, lotOf l m sd, rfl, hx4, hk, hlo.1, by omega, ok, fun g1 H5 hS5 hg1 eg1 => ⟨g1, rfl, ⟨_, SqL.of eg1⟩, fun D3 hD3 => ?_⟩⟩
        generalize hos : (lotOf l m sd).map (d.arr kk) = os
        have eg1' : H5 g1 = some (.lst (os.map oV)) := by rw [eg1, ← hos, List.map_map]; rfl
        have osl : os.length ≤ 3 := by rw [← hos, List.length_map]; exact hlo.2
        have tt1 : (1 : Int) - (sd : Int) = ((1 - sd : Nat) : Int) := by omega
        have hosn : ∀ o ∈ os, ∀ s, o = some s → s < d.n := by
          intro o ho s e
          rw [← hos] at ho
          obtain ⟨i', _, hi'⟩ := List.mem_map.mp ho
          exact ok.arr_lt (hi'.trans e)
        refine lc_gen (walk_list (xs := os.map oV)) (fun i => (os[i]?).map fun o => V.bl (rch (G.W j) o (1 - sd))) (by rw [List.length_map]; omega) hD3 (fun H h => SqL.of (h _ _ eg1')) ?_ ?_
        · rintro i5 v5 _ H6 R R0 hi5 hS6 ⟨rfl, hv5⟩ hR _
          obtain ⟨o, o1, o2, rfl⟩ := map_at hv5
          refine ⟨rfl, ?_⟩
          refine ⟨_, rfl, _, rfl, _, _, rfl, rfl, n2, fun b1 hb1 => ?_⟩
          have sb := same_new (o := .tup [oV o, V.int (1 - (sd : Int))]) hb1
          have s46 := hS5.trans (hS6.trans sb)
          refine ⟨_, rfl, 1, rfl, y, _, _, _, rfl, rfl, SqL.of ((hS4.trans s46) _ _ hL3), em1, .tuple [oD o, .int (1 - (sd : Int))], sps.map spD, .tup (SqT.of upd_same) (.cons (dp_o o) (.cons (.int _) .nil)), (lat0.same (hS4.trans s46)).dp, shp_tup (by simp [PyData.canLayAll0, lay_o, PyData.canLay0]) (by simp [PyData.depthAll, dep_o, PyData.depth]), shp_sps _, ?_⟩
          rw [tt1, any_W sm (hosn _ o2) (by omega)]
          exact hR _ (by rw [o1]; rfl) _ sb
        · intro H6 hS6 hL6
          rw [List.length_map, outs_map] at hL6
          have eb : os.map (fun o => V.bl (rch (G.W j) o (1 - sd))) = (os.map fun o => rch (G.W j) o (1 - sd)).map V.bl := by rw [List.map_map]; rfl
          rw [eb] at hL6
          -- the end of a turn
          have fin : ∀ (D : Ends) (c : Bool) (H8 : Hp), D.nx = LyIn x a D1 y j q6 H3 (sps ++ lw G j (i + 1)) → Same H4 H8 → c = (!G.W j kk sd && G.cond (G.W j) kk sd) →
              (if c = true then tDrop (tBM K "list" rAppend (tVar 6) (tCons (tTup (tCons (tVar 2) (tCons (tVar 7) tNil))) tNil)) D [some (.ref x), some (.ref a), some (nV kk), some (.ref D1), some (.ref y), some (nV j), some (.ref q6), some (nV sd), some (.ref D3), z9, z10] H8
                else tNext D [some (.ref x), some (.ref a), some (nV kk), some (.ref D1), some (.ref y), some (nV j), some (.ref q6), some (nV sd), some (.ref D3), z9, z10] H8) := by
            intro D c H8 eD hS8 ec
            have els := lw_succ G j i
            rw [hkk, htt, ← ec] at els
            cases c with
            | false =>
              rw [if_neg (by decide)] at els ⊢
              show D.nx _ _
              rw [eD, els, List.append_nil]
              exact ⟨_, _, _, _, _, rfl, hS4.trans hS8, hL4.same hS8⟩
            | true =>
              rw [if_pos rfl] at els ⊢
              have hL8 := hL4.same hS8
              obtain ⟨t8, l8, _⟩ := id hL8
              refine ⟨_, rfl, .inl ⟨rfl, _, SqL.of l8⟩, _, rfl, _, rfl, n2, fun b3 hb3 => ?_⟩
              have s9 := same_new (o := .tup [nV kk, nV sd]) hb3
              obtain ⟨xs, v1, v2, v3⟩ := hL8.snoc (s := kk) (t := sd) s9 upd_same
              have lwl := lw_len G j i
              refine ⟨q6, xs, _, rfl, rfl, v1, small1000 (by rw [v2, List.length_append]; omega), ?_⟩
              rw [eD, els, ← List.append_assoc]
              exact ⟨_, _, _, _, _, rfl, ke_new hq6 (hS4.trans (hS8.trans s9)) (ke_upd (Ke.refl _) (.inr rfl)), v3⟩
          refine ⟨_, rfl, _, rfl, n2, fun b2 hb2 => ?_⟩
          have s7 := hS5.trans (hS6.trans (same_new (o := .tup [nV kk, nV sd]) hb2))
          refine ⟨_, rfl, spD (kk, sd), _, .tup (SqT.of upd_same) (.cons (.int _) (.cons (.int _) .nil)), (hL4.same s7).dp, shp_tup (by simp [PyData.canLayAll0, PyData.canLay0]) (by simp [PyData.depthAll, PyData.depth]), shp_sps _, _, rfl, ?_⟩
          have ea2 : ((sps ++ lw G j i).map spD).any (fun z => PyData.eqv z (spD (kk, sd))) = decide ((kk, sd) ∈ sps ++ lw G j i) := any_sps _ (some kk) sd
          have mm : decide ((kk, sd) ∈ sps ++ lw G j i) = G.W j kk sd := by
            apply Bool.eq_iff_iff.mpr
            rw [decide_eq_true_eq, List.mem_append, sm, mem_lw]
            constructor
            · rintro (⟨_, _, h⟩ | ⟨⟨h, _⟩, _⟩)
              · exact h
              · omega
            · intro h
              exact .inl ⟨hk, ht, h⟩
          rw [ea2, mm]
          cases hw : G.W j kk sd with
          | true => exact fin _ false _ rfl s7 (by rw [hw]; rfl)
          | false =>
            have cond : G.cond (G.W j) kk sd = if sd = 0 then (os.map fun o => rch (G.W j) o (1 - sd)).any id else (os.map fun o => rch (G.W j) o (1 - sd)).all id := by
              rw [any_map', all_map', ← hos, ← hG]
              unfold Game.cond lotOf
              have : sd = 0 ∨ sd = 1 := by omega
              rcases this with rfl | rfl
              · rw [if_pos rfl, if_pos rfl, if_pos rfl, gameB_f hk]
                exact if_neg (show ¬ (gameB d l m).b = true from Bool.false_ne_true)
              · rw [if_neg (by decide), if_pos rfl, if_neg (by decide), if_neg (by decide), gameB_g]
            have hL7 := (same_new (o := .tup [nV kk, nV sd]) hb2) _ _ hL6
            refine ⟨_, rfl, rfl, _, rfl, ?_⟩
            refine ite2 (fun h => ?_) (fun h => ?_)
            · have h0 : sd = 0 := by
                have := V.int.inj (of_decide_eq_true h)
                omega
              refine ⟨_, rfl, D3, _, rfl, .inl (SqL.of hL7), rfl, flat_b _, _, rfl, ?_⟩
              exact fin _ _ _ rfl s7 (by rw [hw, inV_t, cond, if_pos h0]; rfl)
            · have h0 : ¬ sd = 0 := by
                intro z
                exact h (decide_eq_true (by rw [z]; rfl))
              refine ⟨_, rfl, D3, _, rfl, .inl (SqL.of hL7), rfl, flat_b _, _, rfl, ?_⟩
              exact fin _ _ _ rfl s7 (by rw [hw, inV_f, cond, if_neg h0]; simp)
      · rintro σ' H4 ⟨z2, z7, z8, z9, z10, rfl, hS4, hL4⟩
        rw [List.length_map, tsl] at hL4
        have hy4 := hS4 _ _ hL3
        refine ⟨_, rfl, .inl ⟨rfl, _, SqL.of hy4⟩, _, rfl, y, _, _, rfl, rfl, hy4, by rw [List.length_map]; exact small1000 (by omega), ?_⟩
        refine ⟨_, _, _, _, _, _, _, ls ++ [q6], rfl, ke_new hy (hS3.trans hS4) (ke_upd (Ke.refl _) (.inr rfl)), by rw [List.length_append, hlen]; rfl, by rw [upd_same, List.map_append]; rfl, ?_⟩
        intro i q' h
        rcases Nat.lt_or_ge i (j + 1) with z | z
        · rw [List.getElem?_append_left (by omega)] at h
          obtain ⟨h1, h2⟩ := hlay i q' h
          exact ⟨h1, (h2.same hS4).upd hy4 h1⟩
        · rw [List.getElem?_append_right (by omega), hlen] at h
          have zi : i = j + 1 := by
            have := (List.getElem?_eq_some_iff.mp h).1
            simp at this
            omega
          subst zi
          rw [Nat.sub_self] at h
          cases h
          refine ⟨nq6, sps ++ lw G j (2 * d.n), hL4.upd hy4 nq6, ?_, ?_⟩
          · have := lw_len G j (2 * d.n)
            rw [List.length_append]
            omega
          · intro s t
            have e : G.W (j + 1) s t = (G.W j s t || G.cond (G.W j) s t) := rfl
            rw [List.mem_append, sm, mem_lw, e]
            constructor
            · rintro (⟨h1, h2, h3⟩ | ⟨⟨h1, h2⟩, h3, h4⟩)
              · exact ⟨h1, h2, by rw [h3]; rfl⟩
              · exact ⟨by omega, h2, by rw [h4]; simp⟩
            · rintro ⟨h1, h2, h3⟩
              cases hw : G.W j s t with
              | true => exact .inl ⟨h1, h2, rfl⟩
              | false =>
                rw [hw, Bool.false_or] at h3
                exact .inr ⟨⟨by omega, h2⟩, rfl, h3⟩
    · rintro σ' H3 ⟨y2, y5, y6, y7, y8, y9, y10, ls, rfl, hS3, hlen, hL3, hlay⟩
      exact ⟨_, rfl, q ls y H3 (hS02.trans hS3) hlen hL3 fun j q' h => (hlay j q' h).2⟩
end
end K30
set_option Elab.async false
set_option linter.all false
set_option maxRecDepth 100000
set_option maxHeartbeats 4000000
namespace K30
open PySem PySem.Spec PyProof.Rows L2 K30R
theorem outs_none (n : Nat) : outsTo (fun _ => none) n = [] := by
  unfold outsTo
  induction (List.range n) with
  | nil => rfl
  | cons x r ih => rw [List.filterMap_cons]; exact ih
theorem inV_sgn {l : List Nat} {i : Nat} (h : i ∈ l) : inV (.str (sgn i)) (l.map fun i => V.str (sgn i)) = true := by
  unfold inV
  rw [List.any_eq_true]
  refine ⟨_, List.mem_map.mpr ⟨i, h, rfl⟩, ?_⟩
  show (sgn i == sgn i) = true
  exact beq_self_eq_true _
theorem flat_s (l : List Nat) : (l.map fun i => V.str (sgn i)).all flatV = true := by
  rw [List.all_eq_true]
  intro z hz
  obtain ⟨e, _, rfl⟩ := List.mem_map.mp hz
  rfl
theorem inV_non (es : List (Option Nat)) : inV .non (es.map oV) = decide (none ∈ es) := by
  unfold inV
  apply Bool.eq_iff_iff.mpr
  rw [List.any_eq_true, decide_eq_true_eq]
  constructor
  · rintro ⟨z, hz, h⟩
    obtain ⟨e, he, rfl⟩ := List.mem_map.mp hz
    cases e with
    | none => exact he
    | some k => cases h
  · intro h
    exact ⟨_, List.mem_map.mpr ⟨_, h, rfl⟩, rfl⟩
/-- what a scheme says at a stand -/
def schAt (sch : List (Option Nat)) (s : Nat) : Option Nat := (sch[s]?).getD none
theorem schAt_get {sch : List (Option Nat)} {s : Nat} (h : s < sch.length) : sch[s]? = some (schAt sch s) := by
  unfold schAt
  rw [List.getElem?_eq_getElem h]
  rfl
/-- the play by a scheme of the first one -/
def gameP (d : Dat) (l m : List Nat) (sch : List (Option Nat)) : Game := gameOf d (sch.map (pick l)) m true
theorem gameP_at {d : Dat} {l m : List Nat} {sch : List (Option Nat)} {s t : Nat} (hs : s < sch.length) : (gameP d l m sch).at_ t s = (if t = 0 then pick l (schAt sch s) else m).map (d.arr s) := by
  unfold Game.at_
  split
  · show ((((sch.map (pick l))[s]?).getD []).map (d.arr s)) = _
    rw [List.getElem?_map, schAt_get hs]
    rfl
  · rfl
/-- the play by a scheme of the second one -/
def gameN (d : Dat) (l m : List Nat) (sch : List (Option Nat)) : Game := { gameB d l m with g := fun s => (pick m (schAt sch s)).map (d.arr s) }
theorem gameN_at {d : Dat} {l m : List Nat} {sch : List (Option Nat)} {s t : Nat} (hs : s < d.n) : (gameN d l m sch).at_ t s = (if t = 0 then l else pick m (schAt sch s)).map (d.arr s) := by
  unfold Game.at_
  split
  · exact gameB_f (m := m) hs
  · rfl
theorem lg_end {G : Game} {k s t : Nat} (h : G.E s = true) : G.lg k (some s) t = some 0 := by
  cases k with
  | zero => exact if_pos h
  | succ k => exact if_pos h
theorem nv_end {G : Game} {k s t : Nat} (h : G.E s = true) : G.nv k (some s) t = false := by
  cases k with
  | zero =>
    show (!G.E s) = false
    rw [h]
    rfl
  | succ k =>
    show (!G.E s && _) = false
    rw [h]
    rfl
/-- the lot that is played -/
def lotBy (l m : List Nat) (sch : List (Option Nat)) (u t s : Nat) : List Nat := if t = u then lotOf l m t else pick (lotOf l m t) (schAt sch s)
theorem lot_if {K : PySem.W.Frag} {σ : L2.St} {H : Hp} {Q : VK} {a sc : Addr} {l m : List Nat} {sch : List (Option Nat)} {u t s : Nat} (s1 : σ[1]? = some (some (.ref a))) (s2 : σ[2]? = some (some (.ref sc))) (s3 : σ[3]? = some (some (nV s))) (s4 : σ[4]? = some (some (nV t)))
    (ha : LotsAt l m H a) (hsc : H sc = some (.tup (sch.map sV))) (hs : s < sch.length) (ht : t < 2) (q : Q (.str (ltx (lotBy l m sch u t s))) H) :
    tIf (tOr (tTest (tOp rEq (tVar 4) (tC (nV u)))) (tTest (tOp (fun x y H Q => y = V.non ∧ Q (V.bl (decide (x = V.non))) H) (tOp (rIxT K) (tVar 2) (tVar 3)) (tC V.non)))) (tOp (rIxL K) (tVar 1) (tVar 4)) (tOp (rIxT K) (tVar 2) (tVar 3)) σ H Q := by
  have hlot : atI [V.str (ltx l), V.str (ltx m)] (t : Int) = some (V.str (ltx (lotOf l m t))) := by
    have : t = 0 ∨ t = 1 := by omega
    rcases this with rfl | rfl <;> rfl
  have ha : H a = some (.lst [.str (ltx l), .str (ltx m)]) := ha
  have hix : atI (sch.map sV) (s : Int) = some (sV (schAt sch s)) := atI_nat (by rw [List.getElem?_map, schAt_get hs]; rfl)
  have two : ∀ Q : VK, Q (.str (ltx (lotOf l m t))) H → tOp (rIxL K) (tVar 1) (tVar 4) σ H Q := fun Q q => ⟨_, s1, _, s4, a, _, t, _, rfl, rfl, SqL.of ha, hlot, q⟩
  refine ⟨_, s4, rfl, _, rfl, ?_⟩
  refine ite2 (fun h => ?_) (fun h => ?_)
  · have e : t = u := by
      have := V.int.inj (of_decide_eq_true h)
      omega
    unfold lotBy at q
    rw [if_pos e] at q
    exact two Q q
  · have e : ¬ t = u := fun z => h (decide_eq_true (by rw [z]))
    unfold lotBy at q
    rw [if_neg e] at q
    refine ⟨_, s2, _, s3, sc, _, s, _, rfl, rfl, SqT.of hsc, hix, rfl, _, rfl, ?_⟩
    cases hc : schAt sch s with
    | none =>
      rw [hc] at q
      exact two Q q
    | some i =>
      rw [hc] at q hix
      exact ⟨_, s2, _, s3, sc, _, s, _, rfl, rfl, SqT.of hsc, hix, q⟩
theorem lotBy_ok {d : Dat} {l m k : List Nat} {sch : List (Option Nat)} {u t s : Nat} (hl : Lot d.many l) (hm : Lot d.many m) (hs : s < sch.length) (hk : ∀ o ∈ sch, ∀ i, o = some i → i ∈ l ∨ i ∈ m) : (∀ i ∈ lotBy l m sch u t s, i < d.many) ∧ (lotBy l m sch u t s).length ≤ d.many + 1 ∧ lotBy l m sch u t s ≠ [] := by
  have h1 : ∀ i ∈ lotOf l m t, i < d.many := by
    unfold lotOf
    split
    · exact fun i hi => hl.lt i hi
    · exact fun i hi => hm.lt i hi
  have h2 : (lotOf l m t).length ≤ d.many + 1 := by
    have := hl.len
    have := hm.len
    unfold lotOf
    split <;> omega
  have h3 : lotOf l m t ≠ [] := by
    unfold lotOf
    split
    · exact hl.ne
    · exact hm.ne
  unfold lotBy
  split
  · exact ⟨h1, h2, h3⟩
  · cases hc : schAt sch s with
    | none => exact ⟨h1, h2, h3⟩
    | some i =>
      have hmem := List.mem_of_getElem? (schAt_get hs)
      rw [hc] at hmem
      refine ⟨fun j hj => ?_, by show 1 ≤ d.many + 1; omega, by simp [pick]⟩
      have : j = i := List.mem_singleton.mp hj
      subst this
      rcases hk _ hmem j rfl with z | z
      · exact hl.lt j z
      · exact hm.lt j z
/-- a scheme, a trio and two lots at the heap -/
structure PlayAt (d : Dat) (l m k : List Nat) (sch : List (Option Nat)) (H : Hp) (x a sc : Addr) : Prop where
  tr : TrioAt d H x
  ok : d.Ok
  lo : LotsAt l m H a
  fst : Lot d.many l
  snd : Lot d.many m
  sc : H sc = some (.tup (sch.map sV))
  len : sch.length = d.n
  sub : ∀ o ∈ sch, ∀ i, o = some i → i ∈ k
theorem PlayAt.same {d : Dat} {l m k : List Nat} {sch : List (Option Nat)} {H H' : Hp} {x a sc : Addr} (h : PlayAt d l m k sch H x a sc) (e : Same H H') : PlayAt d l m k sch H' x a sc :=
  ⟨h.tr.ts e.ts, h.ok, e _ _ h.lo, h.fst, h.snd, e _ _ h.sc, h.len, h.sub⟩
section
variable {P : Program} {w : World} {K : PySem.W.Frag} {mg : Str → Option Value} {base : Heap} {C : Addr}
abbrev N__law_is_scheme : List Str := ["_law_scheme", "_law_trio_here", "_law_lot", "_law_sign"]
abbrev P__law_is_scheme : List Str := ["_law_scheme", "_law_trio_here", "_law_lot"]
theorem sc__law_is_scheme : FnScope N__law_is_scheme P__law_is_scheme (defScope (top 42)) := ⟨rfl, rfl, rfl, by decide +kernel, rfl, by decide +kernel, by decide +kernel⟩
def spIsScheme : Sp := fun vs H Q _ => ∃ (a x : Addr) (sch : List (Option Nat)) (l : List Nat) (d : Dat), vs = [.ref a, .ref x, .str (ltx l)] ∧ H a = some (.tup (sch.map sV)) ∧ TrioAt d H x ∧ d.Ok ∧ sch.length = d.n ∧ (∀ o ∈ sch, ∀ i, o = some i → i ∈ l) ∧ l.length ≤ 100 ∧ ∀ H', Same H H' → Q (.bl true) H'
theorem cl_law_is_scheme (D : DefAt K mg "_law_is_scheme" 42) (T : Tx K mg C) : Cl P w K mg base 1 "_law_is_scheme" P__law_is_scheme spIsScheme := by
  refine cl_of (N := N__law_is_scheme) D sc__law_is_scheme (fun _ _ _ _ _ _ us hl => match us, hl with | [_, _, _], _ => rfl) ?_ ?_
  · rintro vs H Q E ⟨a, x, sch, l, d, rfl, _⟩
    rfl
  · rintro f cdv A outer s H vs Q E hr ⟨a, x, sch, l, d, rfl, h1, hx, ok, hlen, hm, hl, q⟩
    refine ⟨_, (pss_cons (ps_if (PW.pt (pw_or (pt_not (pt_val (pe_callB (zIsi K) rfl T.nisinstance (by decide +kernel) (pa_cons (pv 0) (pa_cons (pe_bltn (v := .ty "tuple") rfl T.ntuple (by decide +kernel) rfl) pa_nil))))) (pw_or1 (pt_cmpR op_ne (pe_callB (zLen K) rfl T.nlen (by decide +kernel) (pa_cons (pv 0) pa_nil)) (pe_callB (zLen K) rfl T.nlen (by decide +kernel) (pa_cons (pe_ix (zT K) (pv 1) pe_int (fun _ _ => rfl)) pa_nil)) (nomark _))))) (pss_one (ps_ret pe_bl)) pss_nil)
      (pss_one (ps_ret (pe_cmpR (zEqD K hr) (pe_lc (own := [("_law_sign", 3)]) (g := gName 3) rfl sc__law_is_scheme.nd (wT K (pv 0)) (blkOk_by (N := N__law_is_scheme) (sc := (defScope (top 42))) (by decide +kernel)) (fun _ _ _ _ _ => (pg_name (i := 3) sc__law_is_scheme.nd rfl (Or.inl rfl))) (fun _ _ _ _ _ => (pts_one (PW.pt (pw_and (pt_cmpR op_notN (pv 3) pe_non (nomark _)) (pw_and1 (PW.pt (pw_or (pt_not (pt_val (pe_callB (zIsi K) rfl T.nisinstance (by decide +kernel) (pa_cons (pv 3) (pa_cons (pe_bltn (v := .ty "str") rfl T.nstr (by decide +kernel) rfl) pa_nil))))) (pw_or1 (pt_cmpR (zNin K) (pv 3) (pe_callTy (call_listS rfl) rfl T.nlist (by decide +kernel) (pa_cons (pv 2) pa_nil)) (by rfl)))))))))) (fun _ _ _ _ _ => (pv 3))) (pe_lst pa_nil) (nomark _))))), ?_⟩
    have n3' := ok.n3
    have dn : d.n = d.rows.length := rfl
    obtain ⟨ra, ea, x1, ⟨ps, x2, x3, x4⟩, x5⟩ := hx
    refine ⟨_, rfl, _, _, _, _, true, rfl, .ty _, .base (.tup h1), kit_ty (by decide +kernel), true, rfl, ?_⟩
    refine ⟨_, rfl, a, _, rfl, .inr (SqT.of h1), _, rfl, x, _, 1, _, rfl, rfl, SqT.of x1, atI_nat (j := 1) rfl, ra, _, rfl, .inr (SqT.of x2), rfl, false, ?_, ?_⟩
    · rw [List.length_map, List.length_map, hlen, x3]
      show V.bl (!decide (V.int (d.n : Int) = V.int (d.n : Int))) = _
      rw [decide_eq_true rfl]
      rfl
    refine ⟨_, rfl, a, rfl, ⟨_, SqT.of h1⟩, fun D hD => ?_⟩
    refine lc_gen (walk_tup (xs := sch.map sV)) (fun _ => none) (by rw [List.length_map]; omega) hD (fun _ h => SqT.of (h _ _ h1)) ?_ ?_
    · rintro i v _ H1 R R0 hi hS ⟨rfl, hv⟩ _ hR0
      obtain ⟨o, e1, e2, rfl⟩ := map_at hv
      refine ⟨rfl, ?_⟩
      cases o with
      | none => exact ⟨_, rfl, rfl, false, rfl, hR0 rfl _ (Same.refl _)⟩
      | some j =>
        have hj := hm _ e2 j rfl
        refine ⟨_, rfl, rfl, true, rfl, ?_⟩
        refine ⟨_, rfl, _, _, _, _, true, rfl, .ty _, .base (.str _), kit_ty (by decide +kernel), true, rfl, ?_⟩
        refine ⟨_, rfl, _, rfl, ltx l, rfl, by rw [ltx_len]; exact small (by omega), fun b hb => ?_⟩
        rw [signs_ltx]
        refine ⟨b, _, rfl, .inl (SqL.of upd_same), rfl, flat_s _, false, ?_, hR0 rfl _ (same_new hb)⟩
        show V.bl (!inV (.str (sgn j)) (l.map fun i => V.str (sgn i))) = _
        rw [inV_sgn hj]
        rfl
    · intro H1 hS hL
      rw [outs_none] at hL
      refine ⟨n0, fun b hb => ?_⟩
      have sb := same_new (o := .lst []) hb
      exact ⟨.list [], .list [], .lst (SqL.of (sb _ _ hL)) .nil, .lst (SqL.of upd_same) .nil, by decide +kernel, by decide +kernel, q _ (hS.trans sb)⟩
abbrev N__law_longest : List Str := ["_law_trio_here", "_law_lots_here", "_law_scheme", "_law_stand", "_law_side", "_law_left", "_law_lot", "_law_told", "_law_goal"]
abbrev P__law_longest : List Str := ["_law_trio_here", "_law_lots_here", "_law_scheme", "_law_stand", "_law_side", "_law_left"]
theorem sc__law_longest : FnScope N__law_longest P__law_longest (defScope (top 43)) := ⟨rfl, rfl, rfl, by decide +kernel, rfl, by decide +kernel, by decide +kernel⟩
def spLg (d : Dat) (N : Nat) : Sp := fun vs H Q _ => ∃ x a sc l m sch o t k, vs = [.ref x, .ref a, .ref sc, oV o, nV t, nV k] ∧ PlayAt d l m l sch H x a sc ∧ (∀ s, o = some s → s < d.n) ∧ t < 2 ∧ k < N ∧ ∀ H', Same H H' → Q (oV ((gameP d l m sch).lg k o t)) H'
theorem cl_law_longest (d : Dat) (D : DefAt K mg "_law_longest" 43) (T : Tx K mg C) (c__law_near : Cl P w K mg base 1 "_law_near" P__law_near (spNear d)) : ∀ N, Cl P w K mg base (N + 2) "_law_longest" P__law_longest (spLg d N)
  | 0 => by
    refine cl_of (N := N__law_longest) D sc__law_longest (fun _ _ _ _ _ _ us hl => match us, hl with | [_, _, _, _, _, _], _ => rfl) ?_ ?_
    · rintro vs H Q E ⟨x, a, sc, l, m, sch, o, t, k, rfl, _⟩
      rfl
    · rintro f cdv A outer s H vs Q E hr ⟨x, a, sc, l, m, sch, o, t, k, rfl, _, _, _, hk, _⟩
      omega
  | N + 1 => by
    have c__law_longest := cl_law_longest d D T c__law_near N
    refine cl_of (N := N__law_longest) D sc__law_longest (fun _ _ _ _ _ _ us hl => match us, hl with | [_, _, _, _, _, _], _ => rfl) ?_ ?_
    · rintro vs H Q E ⟨x, a, sc, l, m, sch, o, t, k, rfl, _⟩
      rfl
    · rintro f cdv A outer s H vs Q E hr ⟨x, a, sc, l, m, sch, o, t, k, rfl, hp, ho, ht, hk, q⟩
      refine ⟨_, (pss_cons (ps_if (pt_cmpR (zIn K) (pv 3) (pe_ix (zT K) (pv 0) pe_int (fun _ _ => rfl)) (by rfl)) (pss_one (ps_ret pe_int)) pss_nil)
      (pss_cons (ps_if (PW.pt (pw_or (pt_cmpR op_isN (pv 3) pe_non (nomark _)) (pw_or1 (pt_cmpR op_eq (pv 5) pe_int (nomark _))))) (pss_one (ps_ret pe_non)) pss_nil)
      (pss_cons (ps_set (i := 6) sc__law_longest.nd rfl (Or.inl rfl) (pe_ifExp (PW.pt (pw_or (pt_cmpR op_eq (pv 4) pe_int (nomark _)) (pw_or1 (pt_cmpR op_isN (pe_ix (zT K) (pv 2) (pv 3) (fun _ _ => rfl)) pe_non (nomark _))))) (pe_ix (zL K) (pv 1) (pv 4) (fun _ _ => rfl)) (pe_ix (zT K) (pv 2) (pv 3) (fun _ _ => rfl))))
      (pss_cons (ps_setLc (i := 7) (own := [("_law_goal", 8)]) (g := gName 8) (tt := tYes) rfl sc__law_longest.nd rfl rfl (sw_true rfl rfl rfl (by decide +kernel)) (wL K (pe_cl c__law_near hr (by omega) (by rfl) (pa_cons (pv 0) (pa_cons (pv 3) (pa_cons (pv 6) pa_nil))))) (blkOk_by (N := N__law_longest) (sc := (defScope (top 43))) (by decide +kernel)) (fun _ _ _ _ _ => (pg_name (i := 8) sc__law_longest.nd rfl (Or.inl rfl))) (fun _ _ _ _ _ => pts_nil) (fun _ _ _ _ _ => (pe_cl c__law_longest hr (by omega) (by rfl) (pa_cons (pv 0) (pa_cons (pv 1) (pa_cons (pv 2) (pa_cons (pv 8) (pa_cons (pe_op op_sub pe_int (pv 4)) (pa_cons (pe_op op_sub (pv 5) pe_int) pa_nil)))))))))
      (pss_one (ps_ret (pe_ifExp (pt_cmpR (zIn K) pe_non (pv 7) (by rfl)) pe_non (pe_op op_add pe_int (pe_callB (zMax K rfl) rfl T.nmax (by decide +kernel) (pa_cons (pv 7) pa_nil)))))))))), ?_⟩
      obtain ⟨ra, ea, x1, x2, x5⟩ := id hp.tr
      have x5 : H ea = some (.tup (d.ends.map nV)) := x5
      have n3' := hp.ok.n3
      have m3' := hp.ok.m3
      have dn : d.n = d.rows.length := rfl
      refine ⟨_, rfl, _, rfl, x, _, 2, _, rfl, rfl, SqT.of x1, atI_nat (j := 2) rfl, ea, _, rfl, .inr (SqT.of x5), flat_oV o, flat_n _, inV (oV o) (d.ends.map nV), rfl, ?_⟩
      rw [inV_o]
      cases o with
      | none =>
        have z := q H (Same.refl H)
        rw [lg_none] at z
        exact ⟨_, rfl, rfl, true, rfl, z⟩
      | some s =>
        have hs := ho s rfl
        show (if decide (s ∈ d.ends) = true then _ else _)
        refine ite2 (fun h => ?_) (fun h => ?_)
        · have h : s ∈ d.ends := of_decide_eq_true h
          have z := q H (Same.refl H)
          rw [lg_end (show (gameP d l m sch).E s = true from decide_eq_true h)] at z
          exact z
        have hE : decide (s ∈ d.ends) = false := by
          cases z : decide (s ∈ d.ends) with
          | true => exact absurd z h
          | false => rfl
        refine ⟨_, rfl, rfl, false, rfl, _, rfl, rfl, _, rfl, ?_⟩
        refine ite2 (fun h => ?_) (fun h => ?_)
        · have hk0 : k = 0 := by
            have := V.int.inj (of_decide_eq_true h)
            omega
          subst hk0
          have z := q H (Same.refl H)
          have e : (gameP d l m sch).lg 0 (some s) t = none := if_neg (show ¬ (gameP d l m sch).E s = true by rw [show (gameP d l m sch).E s = decide (s ∈ d.ends) from rfl, hE]; exact Bool.false_ne_true)
          rw [e] at z
          exact z
        have hk0 : k ≠ 0 := fun z => h (decide_eq_true (by rw [z]; rfl))
        obtain ⟨k', rfl⟩ : ∃ k', k = k' + 1 := ⟨k - 1, by omega⟩
        refine lot_if (l := l) (m := m) (sch := sch) (u := 1) (t := t) (s := s) rfl rfl rfl rfl hp.lo hp.sc (by rw [hp.len]; exact hs) ht ?_
        have lok := lotBy_ok (d := d) (u := 1) (t := t) (k := []) hp.fst hp.snd (by rw [hp.len]; exact hs : s < sch.length) (fun o ho i e => Or.inl (hp.sub o ho i e))
        have elot : (gameP d l m sch).at_ t s = (lotBy l m sch 1 t s).map (d.arr s) := by
          rw [gameP_at (by rw [hp.len]; exact hs)]
          have : t = 0 ∨ t = 1 := by omega
          rcases this with rfl | rfl <;> rfl
        refine ⟨_, rfl, _, rfl, _, rfl, x, s, _, rfl, hp.tr, hs, lok.1, by omega, hp.ok, fun g1 H1 hS1 hg1 eg1 => ⟨g1, rfl, ⟨_, SqL.of eg1⟩, fun D1 hD1 => ?_⟩⟩
        generalize hos : (lotBy l m sch 1 t s).map (d.arr s) = os at elot
        have eg1' : H1 g1 = some (.lst (os.map oV)) := by rw [eg1, ← hos, List.map_map]; rfl
        have osl : os.length ≤ 4 := by rw [← hos, List.length_map]; omega
        have one : os ≠ [] := by
          rw [← hos]
          intro z
          exact lok.2.2 (List.map_eq_nil_iff.mp z)
        have hosn : ∀ o ∈ os, ∀ s, o = some s → s < d.n := by
          intro o ho s e
          rw [← hos] at ho
          obtain ⟨i', _, hi'⟩ := List.mem_map.mp ho
          exact hp.ok.arr_lt (hi'.trans e)
        have et1 : (1 : Int) - (t : Int) = ((1 - t : Nat) : Int) := by omega
        have ek1 : ((k' + 1 : Nat) : Int) - 1 = ((k' : Nat) : Int) := by omega
        refine lc_gen (walk_list (xs := os.map oV)) (fun i => (os[i]?).map fun o => oV ((gameP d l m sch).lg k' o (1 - t))) (by rw [List.length_map]; omega) hD1 (fun H h => SqL.of (h _ _ eg1')) ?_ ?_
        · rintro i v _ H2 R R0 hi hS2 ⟨rfl, hv⟩ hR _
          obtain ⟨o, o1, o2, rfl⟩ := map_at hv
          refine ⟨rfl, ?_⟩
          refine ⟨_, rfl, _, rfl, _, rfl, _, rfl, _, rfl, _, _, rfl, rfl, _, rfl, _, _, rfl, rfl, ?_⟩
          refine ⟨x, a, sc, l, m, sch, o, 1 - t, k', ?_, hp.same (hS1.trans hS2), hosn o o2, by omega, by omega, fun H3 hS3 => hR _ (by rw [o1]; rfl) _ hS3⟩
          show [V.ref x, V.ref a, V.ref sc, oV o, V.int (1 - (t : Int)), V.int (((k' + 1 : Nat) : Int) - 1)] ++ [] = _
          rw [et1, ek1]
          rfl
        · intro H2 hS2 hL2
          rw [List.length_map, outs_map] at hL2
          have eL : os.map (fun o => oV ((gameP d l m sch).lg k' o (1 - t))) = (os.map fun o => (gameP d l m sch).lg k' o (1 - t)).map oV := by rw [List.map_map]; rfl
          rw [eL] at hL2
          have elg : (gameP d l m sch).lg (k' + 1) (some s) t = (mxo (os.map fun o => (gameP d l m sch).lg k' o (1 - t))).map (1 + ·) := by
            show (if (gameP d l m sch).E s = true then some 0 else (mxo (((gameP d l m sch).at_ t s).map fun o => (gameP d l m sch).lg k' o (1 - t))).map (1 + ·)) = _
            rw [if_neg (show ¬ (gameP d l m sch).E s = true by rw [show (gameP d l m sch).E s = decide (s ∈ d.ends) from rfl, hE]; exact Bool.false_ne_true), elot]
          generalize hes : (os.map fun o => (gameP d l m sch).lg k' o (1 - t)) = es at hL2 elg
          have ene : es ≠ [] := by
            rw [← hes]
            intro z
            exact one (List.map_eq_nil_iff.mp z)
          have z := q H2 (hS1.trans hS2)
          rw [elg] at z
          refine ⟨_, rfl, D1, _, rfl, .inl (SqL.of hL2), rfl, flat_o es, inV .non (es.map oV), rfl, ?_⟩
          rw [inV_non]
          cases hx : mxo es with
          | none =>
            rw [hx] at z
            rw [decide_eq_true (mxo_none.mp hx)]
            exact z
          | some M =>
            rw [hx] at z
            have hn : ¬ none ∈ es := fun y => by rw [mxo_none.mpr y] at hx; cases hx
            rw [decide_eq_false hn]
            obtain ⟨m1, m2⟩ := mxo_some hx
            have ens : es = (es.map fun o => o.getD 0).map some := by
              rw [List.map_map]
              conv => lhs; rw [← List.map_id es]
              refine List.map_congr_left fun o ho => ?_
              cases o with
              | none => exact absurd ho hn
              | some v => rfl
            have eint : es.map oV = ((es.map fun o => o.getD 0).map fun n : Nat => (n : Int)).map V.int := by
              conv => lhs; rw [ens]
              rw [List.map_map, List.map_map, List.map_map, List.map_map]
              rfl
            refine ⟨_, rfl, D1, (es.map fun o => o.getD 0).map fun n : Nat => (n : Int), rfl, SqL.of (by rw [hL2, eint]), ?_, fun mm h1 h2 => ?_⟩
            · rw [List.length_map, List.length_map]
              exact List.length_pos_iff.mpr ene
            · have em : mm = (M : Int) := by
                obtain ⟨n1, h3, rfl⟩ := List.mem_map.mp h1
                obtain ⟨o, ho, rfl⟩ := List.mem_map.mp h3
                obtain ⟨a1, e1, e2⟩ := m1 o ho
                have h4 := h2 (M : Int) (List.mem_map.mpr ⟨M, List.mem_map.mpr ⟨some M, m2 ene, rfl⟩, rfl⟩)
                subst e1
                have : (some a1).getD 0 = a1 := rfl
                rw [this] at h4 ⊢
                omega
              subst em
              exact ⟨_, _, rfl, rfl, z⟩
abbrev N__law_never : List Str := ["_law_trio_here", "_law_lots_here", "_law_scheme", "_law_stand", "_law_side", "_law_left", "_law_lot", "_law_told", "_law_goal"]
abbrev P__law_never : List Str := ["_law_trio_here", "_law_lots_here", "_law_scheme", "_law_stand", "_law_side", "_law_left"]
theorem sc__law_never : FnScope N__law_never P__law_never (defScope (top 44)) := ⟨rfl, rfl, rfl, by decide +kernel, rfl, by decide +kernel, by decide +kernel⟩
def spNv (d : Dat) (N : Nat) : Sp := fun vs H Q _ => ∃ x a sc l m sch o t k, vs = [.ref x, .ref a, .ref sc, oV o, nV t, nV k] ∧ PlayAt d l m m sch H x a sc ∧ (∀ s, o = some s → s < d.n) ∧ t < 2 ∧ k < N ∧ ∀ H', Same H H' → Q (.bl ((gameN d l m sch).nv k o t)) H'
theorem cl_law_never (d : Dat) (D : DefAt K mg "_law_never" 44) (T : Tx K mg C) (c__law_near : Cl P w K mg base 1 "_law_near" P__law_near (spNear d)) : ∀ N, Cl P w K mg base (N + 2) "_law_never" P__law_never (spNv d N)
  | 0 => by
    refine cl_of (N := N__law_never) D sc__law_never (fun _ _ _ _ _ _ us hl => match us, hl with | [_, _, _, _, _, _], _ => rfl) ?_ ?_
    · rintro vs H Q E ⟨x, a, sc, l, m, sch, o, t, k, rfl, _⟩
      rfl
    · rintro f cdv A outer s H vs Q E hr ⟨x, a, sc, l, m, sch, o, t, k, rfl, _, _, _, hk, _⟩
      omega
  | N + 1 => by
    have c__law_never := cl_law_never d D T c__law_near N
    refine cl_of (N := N__law_never) D sc__law_never (fun _ _ _ _ _ _ us hl => match us, hl with | [_, _, _, _, _, _], _ => rfl) ?_ ?_
    · rintro vs H Q E ⟨x, a, sc, l, m, sch, o, t, k, rfl, _⟩
      rfl
    · rintro f cdv A outer s H vs Q E hr ⟨x, a, sc, l, m, sch, o, t, k, rfl, hp, ho, ht, hk, q⟩
      refine ⟨_, (pss_cons (ps_if (pt_cmpR (zIn K) (pv 3) (pe_ix (zT K) (pv 0) pe_int (fun _ _ => rfl)) (by rfl)) (pss_one (ps_ret pe_bl)) pss_nil)
      (pss_cons (ps_if (PW.pt (pw_or (pt_cmpR op_isN (pv 3) pe_non (nomark _)) (pw_or1 (pt_cmpR op_eq (pv 5) pe_int (nomark _))))) (pss_one (ps_ret pe_bl)) pss_nil)
      (pss_cons (ps_set (i := 6) sc__law_never.nd rfl (Or.inl rfl) (pe_ifExp (PW.pt (pw_or (pt_cmpR op_eq (pv 4) pe_int (nomark _)) (pw_or1 (pt_cmpR op_isN (pe_ix (zT K) (pv 2) (pv 3) (fun _ _ => rfl)) pe_non (nomark _))))) (pe_ix (zL K) (pv 1) (pv 4) (fun _ _ => rfl)) (pe_ix (zT K) (pv 2) (pv 3) (fun _ _ => rfl))))
      (pss_cons (ps_setLc (i := 7) (own := [("_law_goal", 8)]) (g := gName 8) (tt := tYes) rfl sc__law_never.nd rfl rfl (sw_true rfl rfl rfl (by decide +kernel)) (wL K (pe_cl c__law_near hr (by omega) (by rfl) (pa_cons (pv 0) (pa_cons (pv 3) (pa_cons (pv 6) pa_nil))))) (blkOk_by (N := N__law_never) (sc := (defScope (top 44))) (by decide +kernel)) (fun _ _ _ _ _ => (pg_name (i := 8) sc__law_never.nd rfl (Or.inl rfl))) (fun _ _ _ _ _ => pts_nil) (fun _ _ _ _ _ => (pe_cl c__law_never hr (by omega) (by rfl) (pa_cons (pv 0) (pa_cons (pv 1) (pa_cons (pv 2) (pa_cons (pv 8) (pa_cons (pe_op op_sub pe_int (pv 4)) (pa_cons (pe_op op_sub (pv 5) pe_int) pa_nil)))))))))
      (pss_one (ps_ret (pe_cmpR (zNin K) pe_bl (pv 7) (by rfl)))))))), ?_⟩
      obtain ⟨ra, ea, x1, x2, x5⟩ := id hp.tr
      have x5 : H ea = some (.tup (d.ends.map nV)) := x5
      have n3' := hp.ok.n3
      have m3' := hp.ok.m3
      have dn : d.n = d.rows.length := rfl
      refine ⟨_, rfl, _, rfl, x, _, 2, _, rfl, rfl, SqT.of x1, atI_nat (j := 2) rfl, ea, _, rfl, .inr (SqT.of x5), flat_oV o, flat_n _, inV (oV o) (d.ends.map nV), rfl, ?_⟩
      rw [inV_o]
      cases o with
      | none =>
        have z := q H (Same.refl H)
        have e : (gameN d l m sch).nv k none t = true := by cases k <;> rfl
        rw [e] at z
        exact ⟨_, rfl, rfl, true, rfl, z⟩
      | some s =>
        have hs := ho s rfl
        show (if decide (s ∈ d.ends) = true then _ else _)
        refine ite2 (fun h => ?_) (fun h => ?_)
        · have h : s ∈ d.ends := of_decide_eq_true h
          have z := q H (Same.refl H)
          rw [nv_end (show (gameN d l m sch).E s = true from decide_eq_true h)] at z
          exact z
        have hE : decide (s ∈ d.ends) = false := by
          cases z : decide (s ∈ d.ends) with
          | true => exact absurd z h
          | false => rfl
        refine ⟨_, rfl, rfl, false, rfl, _, rfl, rfl, _, rfl, ?_⟩
        refine ite2 (fun h => ?_) (fun h => ?_)
        · have hk0 : k = 0 := by
            have := V.int.inj (of_decide_eq_true h)
            omega
          subst hk0
          have z := q H (Same.refl H)
          have e : (gameN d l m sch).nv 0 (some s) t = true := by
            show (!(gameN d l m sch).E s) = true
            rw [show (gameN d l m sch).E s = decide (s ∈ d.ends) from rfl, hE]
            rfl
          rw [e] at z
          exact z
        have hk0 : k ≠ 0 := fun z => h (decide_eq_true (by rw [z]; rfl))
        obtain ⟨k', rfl⟩ : ∃ k', k = k' + 1 := ⟨k - 1, by omega⟩
        refine lot_if (l := l) (m := m) (sch := sch) (u := 0) (t := t) (s := s) rfl rfl rfl rfl hp.lo hp.sc (by rw [hp.len]; exact hs) ht ?_
        have lok := lotBy_ok (d := d) (u := 0) (t := t) (k := []) hp.fst hp.snd (by rw [hp.len]; exact hs : s < sch.length) (fun o ho i e => Or.inr (hp.sub o ho i e))
        have elot : (gameN d l m sch).at_ t s = (lotBy l m sch 0 t s).map (d.arr s) := by
          rw [gameN_at hs]
          have : t = 0 ∨ t = 1 := by omega
          rcases this with rfl | rfl <;> rfl
        refine ⟨_, rfl, _, rfl, _, rfl, x, s, _, rfl, hp.tr, hs, lok.1, by omega, hp.ok, fun g1 H1 hS1 hg1 eg1 => ⟨g1, rfl, ⟨_, SqL.of eg1⟩, fun D1 hD1 => ?_⟩⟩
        generalize hos : (lotBy l m sch 0 t s).map (d.arr s) = os at elot
        have eg1' : H1 g1 = some (.lst (os.map oV)) := by rw [eg1, ← hos, List.map_map]; rfl
        have osl : os.length ≤ 4 := by rw [← hos, List.length_map]; omega
        have one : os ≠ [] := by
          rw [← hos]
          intro z
          exact lok.2.2 (List.map_eq_nil_iff.mp z)
        have hosn : ∀ o ∈ os, ∀ s, o = some s → s < d.n := by
          intro o ho s e
          rw [← hos] at ho
          obtain ⟨i', _, hi'⟩ := List.mem_map.mp ho
          exact hp.ok.arr_lt (hi'.trans e)
        have et1 : (1 : Int) - (t : Int) = ((1 - t : Nat) : Int) := by omega
        have ek1 : ((k' + 1 : Nat) : Int) - 1 = ((k' : Nat) : Int) := by omega
        refine lc_gen (walk_list (xs := os.map oV)) (fun i => (os[i]?).map fun o => V.bl ((gameN d l m sch).nv k' o (1 - t))) (by rw [List.length_map]; omega) hD1 (fun H h => SqL.of (h _ _ eg1')) ?_ ?_
        · rintro i v _ H2 R R0 hi hS2 ⟨rfl, hv⟩ hR _
          obtain ⟨o, o1, o2, rfl⟩ := map_at hv
          refine ⟨rfl, ?_⟩
          refine ⟨_, rfl, _, rfl, _, rfl, _, rfl, _, rfl, _, _, rfl, rfl, _, rfl, _, _, rfl, rfl, ?_⟩
          refine ⟨x, a, sc, l, m, sch, o, 1 - t, k', ?_, hp.same (hS1.trans hS2), hosn o o2, by omega, by omega, fun H3 hS3 => hR _ (by rw [o1]; rfl) _ hS3⟩
          show [V.ref x, V.ref a, V.ref sc, oV o, V.int (1 - (t : Int)), V.int (((k' + 1 : Nat) : Int) - 1)] ++ [] = _
          rw [et1, ek1]
          rfl
        · intro H2 hS2 hL2
          rw [List.length_map, outs_map] at hL2
          have eL : os.map (fun o => V.bl ((gameN d l m sch).nv k' o (1 - t))) = (os.map fun o => (gameN d l m sch).nv k' o (1 - t)).map V.bl := by rw [List.map_map]; rfl
          rw [eL] at hL2
          have env : (gameN d l m sch).nv (k' + 1) (some s) t = os.all fun o => (gameN d l m sch).nv k' o (1 - t) := by
            show (!(gameN d l m sch).E s && ((gameN d l m sch).at_ t s).all fun o => (gameN d l m sch).nv k' o (1 - t)) = _
            rw [show (gameN d l m sch).E s = decide (s ∈ d.ends) from rfl, hE, elot]
            rfl
          have z := q H2 (hS1.trans hS2)
          rw [env] at z
          refine ⟨_, rfl, D1, _, rfl, .inl (SqL.of hL2), rfl, flat_b _, ?_⟩
          show Q (.bl (!inV (.bl false) ((os.map fun o => (gameN d l m sch).nv k' o (1 - t)).map V.bl))) H2
          rw [inV_f, all_map', Bool.not_not]
          exact z
end
end K30
set_option Elab.async false
set_option linter.all false
set_option maxRecDepth 100000
set_option maxHeartbeats 4000000
namespace K30
open PySem PySem.Spec PyProof.Rows L2 K30R
theorem planOf {d : Dat} {l m : List Nat} {sch : List (Option Nat)} (hl : Lot d.many l) (h : PlOk d l m sch) : Plan (gameB d l m) (gameP d l m sch).f d.n (2 * d.n) := by
  have ff : ∀ s, s < d.n → (gameP d l m sch).f s = (pick l (schAt sch s)).map (d.arr s) := fun s hs => gameP_at (t := 0) (by rw [h.len]; exact hs)
  have hsub : ∀ s, s < d.n → ∀ i ∈ pick l (schAt sch s), i ∈ l := by
    intro s hs i hi
    cases hc : schAt sch s with
    | none => rw [hc] at hi; exact hi
    | some j =>
      rw [hc] at hi
      have : i = j := List.mem_singleton.mp hi
      subst this
      have hm := List.mem_of_getElem? (schAt_get (by rw [h.len]; exact hs : s < sch.length))
      rw [hc] at hm
      exact h.sub _ hm i rfl
  refine ⟨fun s hs o ho => ?_, fun s hs => ?_, fun s r hs hr o ho => ?_⟩
  · rw [ff s hs] at ho
    rw [gameB_f hs]
    obtain ⟨i, hi, rfl⟩ := List.mem_map.mp ho
    exact List.mem_map.mpr ⟨i, hsub s hs i hi, rfl⟩
  · rw [ff s hs]
    cases hc : schAt sch s with
    | none => exact fun z => hl.ne (List.map_eq_nil_iff.mp z)
    | some j => exact fun z => by cases z
  · obtain ⟨i, s', r', e1, e2, e3, e4⟩ := h.low s r hs hr
    have hc : schAt sch s = some i := by
      unfold schAt
      rw [e1]
      rfl
    rw [ff s hs, hc] at ho
    have : o = d.arr s i := List.mem_singleton.mp ho
    exact ⟨s', r', this.trans e2, e3, e4⟩
theorem gameP_rk {d : Dat} {l m : List Nat} {sch : List (Option Nat)} (ok : d.Ok) (hl : Lot d.many l) (h : PlOk d l m sch) {r M : Nat} (hr : (gameB d l m).rk (2 * d.n) 0 0 = some r) (hM : 2 * d.n ≤ M) : (gameP d l m sch).rk M 0 0 = some r := by
  have n1 : 0 < d.n := ok.n1
  exact plan_rk (G := gameB d l m) (F := (gameP d l m sch).f) rfl (closed_game ok _ m false) (planOf hl h) n1 hr hM
theorem gameP_ne {d : Dat} {l m : List Nat} {sch : List (Option Nat)} (hl : Lot d.many l) (hm : Lot d.many m) (len : sch.length = d.n) : ∀ t s, s < d.n → (gameP d l m sch).at_ t s ≠ [] := by
  intro t s hs
  rw [gameP_at (by rw [len]; exact hs)]
  intro z
  have z := List.map_eq_nil_iff.mp z
  split at z
  · cases hc : schAt sch s with
    | none => rw [hc] at z; exact hl.ne z
    | some j => rw [hc] at z; cases z
  · exact hm.ne z
theorem gameP_lg {d : Dat} {l m : List Nat} {sch : List (Option Nat)} (ok : d.Ok) (hl : Lot d.many l) (hm : Lot d.many m) (len : sch.length = d.n) : (gameP d l m sch).lg (2 * d.n + 1) (some 0) 0 = (gameP d l m sch).rk (2 * d.n + 1) 0 0 := by
  have n1 : 0 < d.n := ok.n1
  exact lg_rk rfl (closed_game ok _ m true) (gameP_ne hl hm len) _ 0 0 n1 (by decide)
theorem rk_last {G : Game} {n : Nat} (C : Closed G n) {s t : Nat} (hs : s < n) (ht : t < 2) : G.rk (2 * n + 1) s t = G.rk (2 * n) s t := by
  show (match G.rk (2 * n) s t with | some r => some r | none => if G.W (2 * n + 1) s t = true then some (2 * n + 1) else none) = _
  cases q : G.rk (2 * n) s t with
  | some r => rfl
  | none =>
    have w := rk_none.mp q
    have w2 := stays_all G n C s t hs ht (2 * n + 1) (by omega)
    rw [w] at w2
    exact if_neg (by rw [w2]; decide)
theorem gameN_nv {d : Dat} {l m : List Nat} {sch : List (Option Nat)} (ok : d.Ok) (h : BarOk d l m sch) (hr : (gameB d l m).rk (2 * d.n) 0 0 = none) (k : Nat) : (gameN d l m sch).nv k (some 0) 0 = true := by
  have n1 : 0 < d.n := ok.n1
  refine bar_never (G := gameB d l m) (B := fun s => (pick m (schAt sch s)).map (d.arr s)) (N := 2 * d.n) rfl (closed_game ok _ m false) (stays_all _ _ (closed_game ok _ m false)) ?_ k 0 0 n1 (by decide) (rk_none.mp hr)
  intro s hs
  have hg := schAt_get (by rw [h.len]; exact hs : s < sch.length)
  cases hc : schAt sch s with
  | none =>
    refine ⟨fun o ho => ho, fun hw o ho => ?_⟩
    obtain ⟨i, hi⟩ := h.some_ s hs (rk_none.mpr hw)
    rw [hg, hc] at hi
    cases hi
  | some i =>
    rw [hc] at hg
    obtain ⟨h1, h2⟩ := h.sub s i hg
    refine ⟨fun o ho => ?_, fun hw o ho => ?_⟩
    · have : o = d.arr s i := List.mem_singleton.mp ho
      rw [this]
      exact List.mem_map.mpr ⟨i, h1, rfl⟩
    · have : o = d.arr s i := List.mem_singleton.mp ho
      rw [this]
      rw [rcd_rch] at h2
      exact h2
/-- lots' items -/
theorem lo0 (l m : List Nat) : atI [V.str (ltx l), V.str (ltx m)] 0 = some (V.str (ltx l)) := rfl
theorem lo1 (l m : List Nat) : atI [V.str (ltx l), V.str (ltx m)] 1 = some (V.str (ltx m)) := rfl
section
variable {P : Program} {w : World} {K : PySem.W.Frag} {mg : Str → Option Value} {base : Heap} {C : Addr}
abbrev N__law_told_right : List Str := ["_law_trio_here", "_law_x", "_law_lots_here", "_law_far", "_law_fewest", "_law_told", "_law_bars_here", "_law_scheme", "_law_k", "_law_layer"]
abbrev P__law_told_right : List Str := ["_law_trio_here", "_law_x", "_law_lots_here"]
theorem sc__law_told_right : FnScope N__law_told_right P__law_told_right (defScope (top 45)) := ⟨rfl, rfl, rfl, by decide +kernel, rfl, by decide +kernel, by decide +kernel⟩
def spToldRight (C : Addr) (d : Dat) : Sp := fun vs H Q _ => ∃ t x a l m, vs = [.ref t, .ref x, .ref a] ∧ TrioAt d H t ∧ Duel C d l m H x ∧ LotsAt l m H a ∧ ∀ H', Same H H' → Q (.bl true) H'
theorem cl_law_told_right (d : Dat) (D : DefAt K mg "_law_told_right" 45) (T : Tx K mg C) (c__law_layers : Cl P w K mg base 2 "_law_layers" P__law_layers (spLayers d)) (c_plan : Cl P w K mg base 6 "plan" P_plan (spPlan C d)) (k_plan : Ck P w K mg base 6 "plan" P_plan (spPlan C d))
    (c_barring : Cl P w K mg base 6 "barring" P_barring (spBarring C d)) (k_barring : Ck P w K mg base 6 "barring" P_barring (spBarring C d)) (c_least_turns : Cl P w K mg base 6 "least_turns" P_least_turns (spLeastTurns C d)) (c_turns_of : Cl P w K mg base 6 "turns_of" P_turns_of (spTurnsOf C d))
    (c__law_is_scheme : Cl P w K mg base 1 "_law_is_scheme" P__law_is_scheme spIsScheme) (c__law_longest : Cl P w K mg base 10 "_law_longest" P__law_longest (spLg d 8)) (c__law_never : Cl P w K mg base 10 "_law_never" P__law_never (spNv d 8)) :
    Cl P w K mg base 11 "_law_told_right" P__law_told_right (spToldRight C d) := by
  refine cl_of (N := N__law_told_right) D sc__law_told_right (fun _ _ _ _ _ _ us hl => match us, hl with | [_, _, _], _ => rfl) ?_ ?_
  · rintro vs H Q E ⟨t, x, a, l, m, rfl, _⟩
    rfl
  · rintro f cdv A outer s H vs Q E hr ⟨t, x, a, l, m, rfl, ht, hd, ha, q⟩
    refine ⟨_, (pss_cons (ps_par (i := 3) (j := 4) rfl sc__law_told_right.nd rfl rfl (by decide) rfl rfl (pa_cons (pe_op op_add (pe_op op_mul pe_int (pe_callB (zLen K) rfl T.nlen (by decide +kernel) (pa_cons (pe_ix (zT K) (pv 0) pe_int (fun _ _ => rfl)) pa_nil))) pe_int) (pa_cons (pe_lc (own := [("_law_k", 8), ("_law_layer", 9)]) rfl sc__law_told_right.nd (wEnum K T.nenumerate (pa_cons (pe_cl c__law_layers hr (by omega) (by rfl) (pa_cons (pv 0) (pa_cons (pv 2) pa_nil))) pa_nil)) (blkOk_by (N := N__law_told_right) (sc := (defScope (top 45))) (by decide +kernel)) (fun _ _ _ _ _ => (gT (n := 2) K rfl (pgs_cons (pg_name (i := 8) sc__law_told_right.nd rfl (Or.inl rfl)) (pgs_cons (pg_name (i := 9) sc__law_told_right.nd rfl (Or.inl rfl)) pgs_nil)))) (fun _ _ _ _ _ => (pts_one (pt_cmpR (zInD K hr) (pe_tup (pa_cons pe_int (pa_cons pe_int pa_nil))) (pv 9) (by rfl)))) (fun _ _ _ _ _ => (pv 8))) pa_nil)) rfl)
      (pss_cons (ps_set (i := 5) sc__law_told_right.nd rfl (Or.inl rfl) (pe_lst (pa_cons (pe_cl c_plan hr (by omega) (by rfl) (pa_cons (pv 1) (pa_cons (pe_ix (zL K) (pv 2) pe_int (fun _ _ => rfl)) (pa_cons (pe_ix (zL K) (pv 2) pe_int (fun _ _ => rfl)) pa_nil)))) (pa_cons (pe_ck k_plan hr (by decide) rfl (pk_cons (pe_ix (zL K) (pv 2) pe_int (fun _ _ => rfl)) (pk_cons (pe_ix (zL K) (pv 2) pe_int (fun _ _ => rfl)) (pk_cons (pv 1) pk_nil)))) pa_nil))))
      (pss_cons (ps_set (i := 6) sc__law_told_right.nd rfl (Or.inl rfl) (pe_lst (pa_cons (pe_cl c_barring hr (by omega) (by rfl) (pa_cons (pv 1) (pa_cons (pe_ix (zL K) (pv 2) pe_int (fun _ _ => rfl)) (pa_cons (pe_ix (zL K) (pv 2) pe_int (fun _ _ => rfl)) pa_nil)))) (pa_cons (pe_ck k_barring hr (by decide) rfl (pk_cons (pe_ix (zL K) (pv 2) pe_int (fun _ _ => rfl)) (pk_cons (pe_ix (zL K) (pv 2) pe_int (fun _ _ => rfl)) (pk_cons (pv 1) pk_nil)))) pa_nil))))
      (pss_cons (ps_if (pt_cmpR (zEqD K hr) (pv 4) (pe_lst pa_nil) (nomark _)) (pss_cons (ps_if (pt_cmpR (zNeD K hr) (pv 5) (pe_lst (pa_cons pe_non (pa_cons pe_non pa_nil))) (nomark _)) (pss_one (ps_ret pe_bl)) pss_nil)
      (pss_cons (ps_for PassesOwn.never rfl (wL K (pv 6)) (pg_name (i := 7) sc__law_told_right.nd rfl (Or.inl rfl)) (pss_one (ps_if (PW.pt (pw_or (pt_not (pt_val (pe_cl c__law_is_scheme hr (by omega) (by rfl) (pa_cons (pv 7) (pa_cons (pv 0) (pa_cons (pe_ix (zL K) (pv 2) pe_int (fun _ _ => rfl)) pa_nil)))))) (pw_or1 (pt_not (pt_val (pe_cl c__law_never hr (by omega) (by rfl) (pa_cons (pv 0) (pa_cons (pv 2) (pa_cons (pv 7) (pa_cons pe_int (pa_cons pe_int (pa_cons (pv 3) pa_nil)))))))))))) (pss_one (ps_ret pe_bl)) pss_nil)))
      (pss_one (ps_ret (pe_cmpR op_isN (pe_cl c_least_turns hr (by omega) (by rfl) (pa_cons (pv 1) (pa_cons (pe_ix (zL K) (pv 2) pe_int (fun _ _ => rfl)) (pa_cons (pe_ix (zL K) (pv 2) pe_int (fun _ _ => rfl)) pa_nil)))) pe_non (nomark _)))))) pss_nil)
      (pss_cons (ps_if (PW.pt (pw_or (pt_cmpR (zNeD K hr) (pv 6) (pe_lst (pa_cons pe_non (pa_cons pe_non pa_nil))) (nomark _)) (pw_or1 (pt_cmpR op_ne (pe_cl c_least_turns hr (by omega) (by rfl) (pa_cons (pv 1) (pa_cons (pe_ix (zL K) (pv 2) pe_int (fun _ _ => rfl)) (pa_cons (pe_ix (zL K) (pv 2) pe_int (fun _ _ => rfl)) pa_nil)))) (pe_ix (zL K) (pv 4) pe_int (fun _ _ => rfl)) (nomark _))))) (pss_one (ps_ret pe_bl)) pss_nil)
      (pss_cons (ps_for PassesOwn.never rfl (wL K (pv 5)) (pg_name (i := 7) sc__law_told_right.nd rfl (Or.inl rfl)) (pss_cons (ps_if (PW.pt (pw_or (pt_not (pt_val (pe_cl c__law_is_scheme hr (by omega) (by rfl) (pa_cons (pv 7) (pa_cons (pv 0) (pa_cons (pe_ix (zL K) (pv 2) pe_int (fun _ _ => rfl)) pa_nil)))))) (pw_or1 (pt_cmpR op_ne (pe_cl c__law_longest hr (by omega) (by rfl) (pa_cons (pv 0) (pa_cons (pv 2) (pa_cons (pv 7) (pa_cons pe_int (pa_cons pe_int (pa_cons (pv 3) pa_nil))))))) (pe_ix (zL K) (pv 4) pe_int (fun _ _ => rfl)) (nomark _))))) (pss_one (ps_ret pe_bl)) pss_nil)
      (pss_one (ps_if (pt_cmpR op_ne (pe_cl c_turns_of hr (by omega) (by rfl) (pa_cons (pv 1) (pa_cons (pe_ix (zL K) (pv 2) pe_int (fun _ _ => rfl)) (pa_cons (pe_ix (zL K) (pv 2) pe_int (fun _ _ => rfl)) (pa_cons (pv 7) pa_nil))))) (pe_ix (zL K) (pv 4) pe_int (fun _ _ => rfl)) (nomark _)) (pss_one (ps_ret pe_bl)) pss_nil))))
      (pss_one (ps_ret pe_bl)))))))), ?_⟩
    have an1 := hd.ok.n1
    have an3 := hd.ok.n3
    have am3 := hd.ok.m3
    have dn : d.n = d.rows.length := rfl
    have sz := hd.sz
    have ok := hd.ok
    have hL : ∀ H', Same H H' → H' a = some (.lst [.str (ltx l), .str (ltx m)]) := fun H' h => h _ _ ha
    obtain ⟨ra, ea, x1, ⟨ps, x2, x3, x4⟩, x5⟩ := id ht
    have hC := closed_game ok (List.replicate d.n l) m false
    -- far, fewest
    refine ⟨_, rfl, t, _, 1, _, rfl, rfl, SqT.of x1, atI_nat (j := 1) rfl, ra, _, rfl, .inr (SqT.of x2), _, _, rfl, rfl, .inl ⟨by decide, by decide⟩, _, _, rfl, rfl, ?_⟩
    refine ⟨_, rfl, _, rfl, t, a, l, m, rfl, ht, ok, ha, hd.fst, hd.snd, fun ls y H1 hS1 hlen hy hlay => ⟨y, _, rfl, SqL.of hy, fun D1 hD1 => ?_⟩⟩
    refine lc_gen walk_enum (fun i => if ((gameB d l m).W i 0 0) = true then some (nV i) else none) (by rw [List.length_map]; omega) hD1 (fun H h => SqL.of (h _ _ hy)) ?_ ?_
    · rintro i v H2 _ R R0 hi hS2 ⟨T0, v1, v2, rfl, hT0, rfl, e1, e2⟩ hR hR0
      cases e1
      obtain ⟨q2, f1, f2, rfl⟩ := map_at e2
      obtain ⟨sps, lat, sl, sm⟩ := hlay i q2 f1
      have s2 := same_new (o := .tup [V.int (i : Nat), V.ref q2]) hT0
      refine ⟨T0, _, rfl, .inl (.inl upd_same), rfl, _, _, rfl, _, _, rfl, rfl, rfl, ?_⟩
      refine ⟨n2, fun b hb => ?_⟩
      have sb := same_new (o := .tup [V.int 0, V.int 0]) hb
      refine ⟨_, rfl, .tuple [oD (some 0), .int ((0 : Nat) : Int)], sps.map spD, .tup (SqT.of upd_same) (.cons (.int _) (.cons (.int _) .nil)), (lat.same (hS2.trans (s2.trans sb))).dp, by decide +kernel, shp_sps _, _, rfl, ?_⟩
      rw [any_W sm (fun s h => by cases h; omega) (by decide)]
      have er : rch ((gameB d l m).W i) (some 0) 0 = (gameB d l m).W i 0 0 := rfl
      rw [er]
      cases hw : (gameB d l m).W i 0 0 with
      | true => exact ⟨_, rfl, hR _ (by rw [if_pos hw]; rfl) _ (s2.trans sb)⟩
      | false => exact hR0 (by rw [if_neg (by rw [hw]; decide)]) _ (s2.trans sb)
    intro H2 hS2 hF
    rw [List.length_map, hlen, outs_rangeF] at hF
    have hF : H2 D1 = some (.lst ((fewest (gameB d l m) (2 * d.n)).map nV)) := hF
    have hS02 := hS1.trans hS2
    refine ⟨nV (2 * d.n + 1), .ref D1, by rw [List.length_map, x3]; rfl, ?_⟩
    have dpF : ∀ H', Same H2 H' → Dp K H' (.ref D1) (.list ((fewest (gameB d l m) (2 * d.n)).map fun k : Nat => PyData.int (k : Int))) := fun H' h => .lst (SqL.of (h _ _ hF)) (dpall fun k _ => .int _)
    have shF : SeqAt.shaped (.list ((fewest (gameB d l m) (2 * d.n)).map fun k : Nat => PyData.int (k : Int))) = true := shp_list (layall fun k _ => by simp [PyData.canLay0]) (Nat.le_trans (depall (k := 0) fun _ _ => by simp [PyData.depth]) (by omega))
    have dpN : ∀ H' p, H' p = some (.lst [V.non, V.non]) → Dp K H' (.ref p) (.list [.none, .none]) := fun H' p h => .lst (SqL.of h) (.cons .non (.cons .non .nil))
    cases hrk : (gameB d l m).rk (2 * d.n) 0 0 with
    | none =>
      have hfw : fewest (gameB d l m) (2 * d.n) = [] := fewest_nil.mpr hrk
      refine ⟨_, rfl, _, rfl, a, _, 0, _, rfl, rfl, SqL.of (hL _ hS02), lo0 l m, _, rfl, a, _, 1, _, rfl, rfl, SqL.of (hL _ hS02), lo1 l m, x, l, m, rfl, hd.same hS02, fun _ H3 hS3 => ?_, fun r h => by rw [hrk] at h; cases h⟩
      have hS03 := hS02.trans hS3
      refine ⟨_, rfl, a, _, 1, _, rfl, rfl, SqL.of (hL _ hS03), lo1 l m, _, rfl, a, _, 0, _, rfl, rfl, SqL.of (hL _ hS03), lo0 l m, _, rfl, x, l, m, rfl, hd.same hS03, fun _ H4 hS4 => ⟨n2, fun p5 hp5 => ?_⟩, fun r h => by rw [hrk] at h; cases h⟩
      have s5 := same_new (o := .lst [V.non, V.non]) hp5
      have hS05 := hS03.trans (hS4.trans s5)
      -- bars
      refine ⟨_, rfl, _, rfl, a, _, 0, _, rfl, rfl, SqL.of (hL _ hS05), lo0 l m, _, rfl, a, _, 1, _, rfl, rfl, SqL.of (hL _ hS05), lo1 l m, x, l, m, rfl, hd.same hS05, fun r h => (by rw [hrk] at h; cases h), fun _ b1 sch1 H6 hS6 hb1 bok1 => ?_⟩
      have hS06 := hS05.trans hS6
      refine ⟨_, rfl, a, _, 1, _, rfl, rfl, SqL.of (hL _ hS06), lo1 l m, _, rfl, a, _, 0, _, rfl, rfl, SqL.of (hL _ hS06), lo0 l m, _, rfl, x, l, m, rfl, hd.same hS06, fun r h => (by rw [hrk] at h; cases h), fun _ b2 sch2 H7 hS7 hb2 bok2 => ⟨n2, fun p6 hp6 => ?_⟩⟩
      have s8 := same_new (o := .lst [V.ref b1, V.ref b2]) hp6
      have hS68 := hS7.trans s8
      have hS08 := hS06.trans hS68
      have hS28 : Same H2 _ := hS3.trans (hS4.trans (s5.trans (hS6.trans hS68)))
      -- fewest == []
      refine ⟨_, rfl, n0, fun e1 he1 => ?_⟩
      have s9 := same_new (o := .lst []) he1
      refine ⟨_, .list [], dpF _ (hS28.trans s9), .lst (SqL.of upd_same) .nil, shF, by decide +kernel, _, rfl, ?_⟩
      rw [eqv_nil, hfw]
      -- told
      refine ⟨_, rfl, n2, fun e2 he2 => ?_⟩
      have s10 := same_new (o := .lst [V.non, V.non]) he2
      refine ⟨.list [.none, .none], .list [.none, .none], dpN _ p5 ((hS6.trans (hS68.trans (s9.trans s10))) _ _ upd_same), dpN _ e2 upd_same, by decide +kernel, by decide +kernel, false, by decide +kernel, ?_⟩
      have hS8B := s9.trans s10
      have hS0B := hS08.trans hS8B
      have hp6B := hS8B _ _ (upd_same (H := H7) (a := p6) (o := .lst [V.ref b1, V.ref b2]))
      have items : ∀ v ∈ [V.ref b1, V.ref b2], ∃ b sch, v = .ref b ∧ BarOk d l m sch ∧ ∀ H', Same H7 H' → H' b = some (.tup (sch.map sV)) := by
        intro v hv
        rcases List.mem_cons.mp hv with z | z
        · exact ⟨b1, sch1, z, bok1, fun H' h => h _ _ (hS7 _ _ hb1)⟩
        · exact ⟨b2, sch2, List.mem_singleton.mp z, bok2, fun H' h => h _ _ hb2⟩
      refine ⟨_, rfl, p6, rfl, ⟨_, SqL.of hp6B⟩, ?_⟩
      refine for_it (walk_list (xs := [V.ref b1, V.ref b2])) (fun i σ' H' => ∃ y7, σ' = [some (.ref t), some (.ref x), some (.ref a), some (nV (2 * d.n + 1)), some (.ref D1), some (.ref p5), some (.ref p6), y7, none, none] ∧ Same H7 H' ∧ H' p6 = some (.lst [V.ref b1, V.ref b2])) ⟨_, rfl, s8.trans hS8B, hp6B⟩ ?_ ?_ ?_
      · rintro i σ' H' _ ⟨y7, rfl, h1, h2⟩
        exact SqL.of h2
      · rintro i v σ' _ H9 hi ⟨y7, rfl, hS9, hp9⟩ ⟨rfl, hv⟩
        obtain ⟨b, sch, rfl, bok, hb⟩ := items v (List.mem_of_getElem? hv)
        have hS09 := hS06.trans (hS7.trans hS9)
        have hsub : ∀ o ∈ sch, ∀ i, o = some i → i ∈ m := by
          intro o ho i e
          obtain ⟨s, hs⟩ := List.mem_iff_getElem?.mp ho
          rw [e] at hs
          exact (bok.sub s i hs).1
        refine ⟨_, rfl, _, rfl, _, rfl, a, _, 1, _, rfl, rfl, SqL.of (hL _ hS09), lo1 l m, b, t, sch, m, d, rfl, hb _ hS9, ht.ts hS09.ts, ok, bok.len, hsub, by omega, fun H10 hS10 => ⟨true, rfl, ?_⟩⟩
        have hS010 := hS09.trans hS10
        refine ⟨_, rfl, _, rfl, _, rfl, _, rfl, t, a, b, l, m, sch, some 0, 0, 2 * d.n + 1, rfl, ⟨ht.ts hS010.ts, ok, hL _ hS010, hd.fst, hd.snd, hb _ (hS9.trans hS10), bok.len, hsub⟩, fun s h => by cases h; omega, by decide, by omega, fun H11 hS11 => ⟨true, by rw [gameN_nv ok bok hrk], ?_⟩⟩
        exact ⟨_, rfl, hS9.trans (hS10.trans hS11), (hS10.trans hS11) _ _ hp9⟩
      · rintro σ' H9 ⟨y7, rfl, hS9, hp9⟩
        have hS09 := hS06.trans (hS7.trans hS9)
        refine ⟨_, rfl, _, rfl, a, _, 0, _, rfl, rfl, SqL.of (hL _ hS09), lo0 l m, _, rfl, a, _, 1, _, rfl, rfl, SqL.of (hL _ hS09), lo1 l m, x, l, m, rfl, hd.same hS09, fun H10 hS10 => ⟨rfl, ?_⟩⟩
        rw [hrk]
        exact q _ (hS09.trans hS10)
    | some r =>
      have hfh : (fewest (gameB d l m) (2 * d.n)).head? = some r := fewest_eq.trans hrk
      have no : ∀ (H' : Hp) (R : Prop), (gameB d l m).rk (2 * d.n) 0 0 = none → R := fun _ _ h => by rw [hrk] at h; cases h
      refine ⟨_, rfl, _, rfl, a, _, 0, _, rfl, rfl, SqL.of (hL _ hS02), lo0 l m, _, rfl, a, _, 1, _, rfl, rfl, SqL.of (hL _ hS02), lo1 l m, x, l, m, rfl, hd.same hS02, fun h => no H _ h, fun _ _ b1 sch1 H3 hS3 hb1 pok1 => ?_⟩
      have hS03 := hS02.trans hS3
      refine ⟨_, rfl, a, _, 1, _, rfl, rfl, SqL.of (hL _ hS03), lo1 l m, _, rfl, a, _, 0, _, rfl, rfl, SqL.of (hL _ hS03), lo0 l m, _, rfl, x, l, m, rfl, hd.same hS03, fun h => no H _ h, fun _ _ b2 sch2 H4 hS4 hb2 pok2 => ⟨n2, fun p5 hp5 => ?_⟩⟩
      have s5 := same_new (o := .lst [V.ref b1, V.ref b2]) hp5
      have hS05 := hS03.trans (hS4.trans s5)
      -- bars
      refine ⟨_, rfl, _, rfl, a, _, 0, _, rfl, rfl, SqL.of (hL _ hS05), lo0 l m, _, rfl, a, _, 1, _, rfl, rfl, SqL.of (hL _ hS05), lo1 l m, x, l, m, rfl, hd.same hS05, fun _ _ H6 hS6 => ?_, fun h => no H _ h⟩
      have hS06 := hS05.trans hS6
      refine ⟨_, rfl, a, _, 1, _, rfl, rfl, SqL.of (hL _ hS06), lo1 l m, _, rfl, a, _, 0, _, rfl, rfl, SqL.of (hL _ hS06), lo0 l m, _, rfl, x, l, m, rfl, hd.same hS06, fun _ _ H7 hS7 => ⟨n2, fun p6 hp6 => ?_⟩, fun h => no H _ h⟩
      have s8 := same_new (o := .lst [V.non, V.non]) hp6
      have hS68 := hS7.trans s8
      have hS08 := hS06.trans hS68
      have hS28 : Same H2 _ := hS3.trans (hS4.trans (s5.trans (hS6.trans hS68)))
      -- fewest == []
      refine ⟨_, rfl, n0, fun e1 he1 => ?_⟩
      have s9 := same_new (o := .lst []) he1
      refine ⟨_, .list [], dpF _ (hS28.trans s9), .lst (SqL.of upd_same) .nil, shF, by decide +kernel, false, ?_, ?_⟩
      · rw [eqv_nil]
        cases hfw : fewest (gameB d l m) (2 * d.n) with
        | nil => rw [hfw] at hfh; cases hfh
        | cons _ _ => rfl
      have hS09 := hS08.trans s9
      have hS29 := hS28.trans s9
      have at0 : atI ((fewest (gameB d l m) (2 * d.n)).map nV) 0 = some (nV r) := by
        refine atI_nat (j := 0) ?_
        rw [List.getElem?_map, ← List.head?_eq_getElem?, hfh]
        rfl
      have nene : ∀ v : V, v = nV r → scal v (nV r) = true ∧ (!decide (v = nV r)) = false := by
        intro v e
        subst e
        exact ⟨rfl, by rw [decide_eq_true rfl]; rfl⟩
      -- bars, least_turns
      refine ⟨_, rfl, n2, fun e2 he2 => ?_⟩
      have s10 := same_new (o := .lst [V.non, V.non]) he2
      refine ⟨.list [.none, .none], .list [.none, .none], dpN _ p6 ((s9.trans s10) _ _ upd_same), dpN _ e2 upd_same, by decide +kernel, by decide +kernel, false, by decide +kernel, ?_⟩
      have hS010 := hS09.trans s10
      refine ⟨_, rfl, _, rfl, a, _, 0, _, rfl, rfl, SqL.of (hL _ hS010), lo0 l m, _, rfl, a, _, 1, _, rfl, rfl, SqL.of (hL _ hS010), lo1 l m, x, l, m, rfl, hd.same hS010, fun H11 hS11 => ?_⟩
      have hS2B := hS29.trans (s10.trans hS11)
      have eq0 : oV ((gameB d l m).rk (2 * d.n) 0 0) = nV r := by rw [hrk]; rfl
      rw [eq0]
      refine ⟨_, rfl, D1, _, 0, _, rfl, rfl, SqL.of (hS2B _ _ hF), at0, rfl, false, by rw [decide_eq_true rfl]; rfl, ?_⟩
      have hS0B := hS010.trans hS11
      have hS4B := s5.trans (hS6.trans (hS68.trans (s9.trans (s10.trans hS11))))
      have hp5B := (hS6.trans (hS68.trans (s9.trans (s10.trans hS11)))) _ _ (upd_same (H := H4) (a := p5) (o := .lst [V.ref b1, V.ref b2]))
      have items : ∀ v ∈ [V.ref b1, V.ref b2], ∃ b sch, v = .ref b ∧ PlOk d l m sch ∧ ∀ H', Same H4 H' → H' b = some (.tup (sch.map sV)) := by
        intro v hv
        rcases List.mem_cons.mp hv with z | z
        · exact ⟨b1, sch1, z, pok1, fun H' h => h _ _ (hS4 _ _ hb1)⟩
        · exact ⟨b2, sch2, List.mem_singleton.mp z, pok2, fun H' h => h _ _ hb2⟩
      refine ⟨_, rfl, p5, rfl, ⟨_, SqL.of hp5B⟩, ?_⟩
      refine for_it (walk_list (xs := [V.ref b1, V.ref b2])) (fun i σ' H' => ∃ y7, σ' = [some (.ref t), some (.ref x), some (.ref a), some (nV (2 * d.n + 1)), some (.ref D1), some (.ref p5), some (.ref p6), y7, none, none] ∧ Same H4 H' ∧ H' p5 = some (.lst [V.ref b1, V.ref b2])) ⟨_, rfl, hS4B, hp5B⟩ ?_ ?_ ?_
      · rintro i σ' H' _ ⟨y7, rfl, h1, h2⟩
        exact SqL.of h2
      · rintro i v σ' _ H9 hi ⟨y7, rfl, hS9, hp9⟩ ⟨rfl, hv⟩
        obtain ⟨b, sch, rfl, pok, hb⟩ := items v (List.mem_of_getElem? hv)
        have hS0C := hS03.trans (hS4.trans hS9)
        have hF9 := (hS3.trans (hS4.trans hS9)) _ _ hF
        refine ⟨_, rfl, _, rfl, _, rfl, a, _, 0, _, rfl, rfl, SqL.of (hL _ hS0C), lo0 l m, b, t, sch, l, d, rfl, hb _ hS9, ht.ts hS0C.ts, ok, pok.len, pok.sub, by omega, fun H12 hS12 => ⟨true, rfl, ?_⟩⟩
        have hS0D := hS0C.trans hS12
        refine ⟨_, rfl, _, rfl, _, rfl, _, rfl, t, a, b, l, m, sch, some 0, 0, 2 * d.n + 1, rfl, ⟨ht.ts hS0D.ts, ok, hL _ hS0D, hd.fst, hd.snd, hb _ (hS9.trans hS12), pok.len, pok.sub⟩, fun s h => (by cases h; omega), by decide, by omega, fun H13 hS13 => ?_⟩
        have eq1 : oV ((gameP d l m sch).lg (2 * d.n + 1) (some 0) 0) = nV r := by rw [gameP_lg ok hd.fst hd.snd pok.len, gameP_rk ok hd.fst pok hrk (by omega)]; rfl
        rw [eq1]
        refine ⟨_, rfl, D1, _, 0, _, rfl, rfl, SqL.of ((hS12.trans hS13) _ _ hF9), at0, rfl, false, by rw [decide_eq_true rfl]; rfl, ?_⟩
        have hS0E := hS0D.trans hS13
        refine ⟨_, rfl, _, rfl, a, _, 0, _, rfl, rfl, SqL.of (hL _ hS0E), lo0 l m, _, rfl, a, _, 1, _, rfl, rfl, SqL.of (hL _ hS0E), lo1 l m, _, rfl, x, l, m, b, sch, rfl, hd.same hS0E, hb _ (hS9.trans (hS12.trans hS13)), pok.len, pok.sub, fun H14 hS14 => ?_⟩
        have eq2 : oV ((gameOf d (sch.map (pick l)) m true).rk (2 * d.n) 0 0) = nV r := by
          have := gameP_rk (M := 2 * d.n) ok hd.fst pok hrk (Nat.le_refl _)
          rw [show (gameOf d (sch.map (pick l)) m true).rk (2 * d.n) 0 0 = some r from this]
          rfl
        rw [eq2]
        refine ⟨_, rfl, D1, _, 0, _, rfl, rfl, SqL.of ((hS12.trans (hS13.trans hS14)) _ _ hF9), at0, rfl, false, by rw [decide_eq_true rfl]; rfl, ?_⟩
        exact ⟨_, rfl, hS9.trans (hS12.trans (hS13.trans hS14)), (hS12.trans (hS13.trans hS14)) _ _ hp9⟩
      · rintro σ' H9 ⟨y7, rfl, hS9, hp9⟩
        exact q _ (hS03.trans (hS4.trans hS9))
end
end K30
set_option Elab.async false
set_option linter.all false
set_option maxRecDepth 100000
set_option maxHeartbeats 4000000
namespace K30
open PySem PySem.Spec PyProof.Rows L2 K30R
theorem SqL_ke {K : PySem.W.Frag} {c a : Addr} {H H' : Hp} {xs : List V} (h : SqL K H a xs) (hc : H c = none) (e : Ke c H H') : SqL K H' a xs := by
  rcases h with (h | ⟨o, h⟩) | h
  · exact .inl (.inl (e _ _ (ne_of_none h hc) h))
  · exact .inl (.inr ⟨o, e _ _ (ne_of_none h hc) h⟩)
  · exact .inr h
theorem RdAt.ke {C c x : Addr} {d : Dat} {H H' : Hp} (h : RdAt C d H x) (hc : CkAt H c) (e : Ke c H H') : RdAt C d H' x := by
  obtain ⟨dx, fs, t, h1, h2, h3⟩ := h
  refine ⟨dx, fs, t, e _ _ ?_ h1, h2, h3.ts (ck_ts hc e)⟩
  intro z
  obtain ⟨g, m, k, hk, _⟩ := hc
  rw [z, hk] at h1
  cases h1
theorem most_if {σ : L2.St} {H : Hp} {Q : VK} {m : Nat} (s2 : σ[2]? = some (some (nV m))) (q : ∀ t : Nat, 1 ≤ t → t ≤ 3 → Q (nV t) H) :
    tIf (tTest (tOp (rI0 fun i j => V.bl (decide (i < j))) (tVar 2) (tC (V.int 3)))) (tC (V.int 3)) (tC (V.int 2)) σ H Q := by
  refine ⟨_, s2, _, _, rfl, rfl, _, rfl, ?_⟩
  exact ite2 (fun _ => q 3 (by decide) (by decide)) (fun _ => q 2 (by decide) (by decide))
theorem n5 : 5 ≤ sizeLine := small (by decide)
/-- what the inner for of right keeps -/
structure RtIn (C : Addr) (d : Dat) (l m : List Nat) (H H' : Hp) (c t x a : Addr) : Prop where
  ke : Ke c H H'
  ck : CkAt H' c
  tr : TrioAt d H' t
  rd : RdAt C d H' x
  lo : LotsAt l m H' a
theorem RtIn.next {C : Addr} {d : Dat} {l m : List Nat} {H H' H2 : Hp} {c t x a : Addr} (h : RtIn C d l m H H' c t x a) (e : Ke c H' H2) (hc : CkAt H2 c) (ne : a ≠ c) : RtIn C d l m H H2 c t x a :=
  ⟨h.ke.trans e, hc, h.tr.ts (ck_ts h.ck e), h.rd.ke h.ck e, e _ _ ne h.lo⟩
theorem RtIn.same {C : Addr} {d : Dat} {l m : List Nat} {H H' H2 : Hp} {c t x a : Addr} (h : RtIn C d l m H H' c t x a) (e : Same H' H2) (ne : a ≠ c) : RtIn C d l m H H2 c t x a := h.next e.ke (h.ck.same e) ne
section
variable {P : Program} {w : World} {K : PySem.W.Frag} {mg : Str → Option Value} {base : Heap} {C : Addr}
abbrev N__law_right : List Str := ["_law_cask_here", "_law_turn", "_law_many", "_law_trio_here", "_law_x", "_law_lots_here", "_law_again", "_law_scheme", "_law_due", "_law_told", "_law_k"]
abbrev P__law_right : List Str := ["_law_cask_here"]
theorem sc__law_right : FnScope N__law_right P__law_right (defScope (top 46)) := ⟨rfl, rfl, rfl, by decide +kernel, rfl, by decide +kernel, by decide +kernel⟩
def spRight : Sp := fun vs H Q _ => ∃ c : Addr, vs = [.ref c] ∧ CkAt H c ∧ ∀ H', Ke c H H' → Q (.bl true) H'
theorem cl_law_right (D : DefAt K mg "_law_right" 46) (T : Tx K mg C) (m_Reader : Mr P w K mg base 4 C P_R__init__ (spAny (spInit C))) (c__law_pull : Cl P w K mg base 1 "_law_pull" P__law_pull spPull) (c__law_one_of : Cl P w K mg base 2 "_law_one_of" P__law_one_of spOneOf)
    (c__law_trio : Cl P w K mg base 3 "_law_trio" P__law_trio spTrio) (c__law_lots : Cl P w K mg base 3 "_law_lots" P__law_lots spLots) (c__law_told_right : Cl P w K mg base 11 "_law_told_right" P__law_told_right (spAny (spToldRight C)))
    (c__law_longest : Cl P w K mg base 10 "_law_longest" P__law_longest (spAny fun d => spLg d 8)) (c_turns_of : Cl P w K mg base 6 "turns_of" P_turns_of (spAny (spTurnsOf C))) (k_turns_of : Ck P w K mg base 6 "turns_of" P_turns_of (spAny (spTurnsOf C))) :
    Cl P w K mg base 12 "_law_right" P__law_right spRight := by
  refine cl_of (N := N__law_right) D sc__law_right (fun _ _ _ _ _ _ us hl => match us, hl with | [_], _ => rfl) ?_ ?_
  · rintro vs H Q E ⟨c, rfl, _⟩
    rfl
  · rintro f cdv A outer s H vs Q E hr ⟨c, rfl, hc, q⟩
    refine ⟨_, (pss_cons (ps_for PassesOwn.never rfl (pi_range1 rfl T.nrange (pa_cons (pe_op op_add pe_int (pe_callTy call_int1 rfl T.nint (by decide +kernel) (pa_cons (pe_cmpR op_eq (pe_cl c__law_pull hr (by omega) (by rfl) (pa_cons (pv 0) (pa_cons pe_int pa_nil))) pe_int (nomark _)) pa_nil))) pa_nil)) (pg_name (i := 1) sc__law_right.nd rfl (Or.inl rfl)) (pss_cons (ps_set (i := 2) sc__law_right.nd rfl (Or.inl rfl) (pe_cl c__law_one_of hr (by omega) (by rfl) (pa_cons (pv 0) (pa_cons (pe_lst (pa_cons pe_int (pa_cons pe_int (pa_cons pe_int (pa_cons pe_int (pa_cons pe_int pa_nil)))))) pa_nil))))
      (pss_cons (ps_set (i := 3) sc__law_right.nd rfl (Or.inl rfl) (pe_cl c__law_trio hr (by omega) (by rfl) (pa_cons (pv 0) (pa_cons (pv 2) (pa_cons (pe_ifExp (pt_cmpR op_lt (pv 2) pe_int (nomark _)) pe_int pe_int) pa_nil)))))
      (pss_cons (ps_asg (pe_tup (pa_cons (pe_mk m_Reader T.mReader hr (by decide) rfl (pa_cons (pe_ix (zT K) (pv 3) pe_int (fun _ _ => rfl)) (pa_cons (pe_ix (zT K) (pv 3) pe_int (fun _ _ => rfl)) (pa_cons (pe_ix (zT K) (pv 3) pe_int (fun _ _ => rfl)) pa_nil)))) (pa_cons (pe_cl c__law_lots hr (by omega) (by rfl) (pa_cons (pv 0) (pa_cons (pv 2) pa_nil))) pa_nil))) (gT (n := 2) K rfl (pgs_cons (pg_name (i := 4) sc__law_right.nd rfl (Or.inl rfl)) (pgs_cons (pg_name (i := 5) sc__law_right.nd rfl (Or.inr rfl)) pgs_nil))))
      (pss_cons (ps_if (pt_not (pt_val (pe_cl c__law_told_right hr (by omega) (by rfl) (pa_cons (pv 3) (pa_cons (pv 4) (pa_cons (pv 5) pa_nil)))))) (pss_one (ps_ret pe_bl)) pss_nil)
      (pss_one (ps_for PassesOwn.never rfl (pi_range1 rfl T.nrange (pa_cons pe_int pa_nil)) (pg_name (i := 6) sc__law_right.nd rfl (Or.inl rfl)) (pss_cons (ps_set (i := 7) sc__law_right.nd rfl (Or.inl rfl) (pe_callTy (zTupOf K) rfl T.ntuple (by decide +kernel) (pa_cons (pe_lc (own := [("_law_k", 10)]) (g := gName 10) (tt := tYes) rfl sc__law_right.nd (wT K (pe_ix (zT K) (pv 3) pe_int (fun _ _ => rfl))) (blkOk_by (N := N__law_right) (sc := (defScope (top 46))) (by decide +kernel)) (fun _ _ _ _ _ => (pg_name (i := 10) sc__law_right.nd rfl (Or.inl rfl))) (fun _ _ _ _ _ => pts_nil) (fun _ _ _ _ _ => (pe_cl c__law_one_of hr (by omega) (by rfl) (pa_cons (pv 0) (pa_cons (pe_op op_cat (pe_op op_rep (pe_callTy (call_listS rfl) rfl T.nlist (by decide +kernel) (pa_cons (pe_ix (zL K) (pv 5) pe_int (fun _ _ => rfl)) pa_nil)) pe_int) (pe_lst (pa_cons pe_non pa_nil))) pa_nil))))) pa_nil)))
      (pss_cons (ps_set (i := 8) sc__law_right.nd rfl (Or.inl rfl) (pe_cl c__law_longest hr (by omega) (by rfl) (pa_cons (pv 3) (pa_cons (pv 5) (pa_cons (pv 7) (pa_cons pe_int (pa_cons pe_int (pa_cons (pe_op op_add (pe_op op_mul pe_int (pe_callB (zLen K) rfl T.nlen (by decide +kernel) (pa_cons (pe_ix (zT K) (pv 3) pe_int (fun _ _ => rfl)) pa_nil))) pe_int) pa_nil))))))))
      (pss_cons (ps_set (i := 9) sc__law_right.nd rfl (Or.inl rfl) (pe_lst (pa_cons (pe_cl c_turns_of hr (by omega) (by rfl) (pa_cons (pv 4) (pa_cons (pe_ix (zL K) (pv 5) pe_int (fun _ _ => rfl)) (pa_cons (pe_ix (zL K) (pv 5) pe_int (fun _ _ => rfl)) (pa_cons (pv 7) pa_nil))))) pa_nil)))
      (pss_cons (ps_expr (zApp K (pv 9) (pa_cons (pe_ck k_turns_of hr (by decide) rfl (pk_cons (pv 7) (pk_cons (pe_ix (zL K) (pv 5) pe_int (fun _ _ => rfl)) (pk_cons (pe_ix (zL K) (pv 5) pe_int (fun _ _ => rfl)) (pk_cons (pv 4) pk_nil))))) pa_nil)))
      (pss_one (ps_if (pt_cmpR (zNeD K hr) (pv 9) (pe_lst (pa_cons (pv 8) (pa_cons (pv 8) pa_nil))) (nomark _)) (pss_one (ps_ret pe_bl)) pss_nil)))))))))))))
      (pss_one (ps_ret pe_bl))), ?_⟩
    refine ⟨_, rfl, c, 6, rfl, hc, by decide, by decide, fun r0 H1 hr0 hK1 hc1 => ?_⟩
    obtain ⟨n, hn, hn2⟩ : ∃ n : Nat, ((1 : Int) + (if decide (nV r0 = V.int 0) = true then 1 else 0)) = (n : Int) ∧ n ≤ 2 := by
      by_cases z : decide (nV r0 = V.int 0) = true
      · exact ⟨2, by rw [if_pos z]; rfl, by decide⟩
      · exact ⟨1, by rw [if_neg z]; rfl, by decide⟩
    refine ⟨rfl, .inr ⟨_, rfl, _, _, rfl, rfl, (n : Int), congrArg (fun z : Int => [V.int z]) hn, by omega, by omega, ?_⟩⟩
    refine for_it (walk_rg (n := n)) (fun i σ' H' => ∃ (y1 y2 y3 y4 y5 y6 y7 y8 y9 : Option V), σ' = [some (.ref c), y1, y2, y3, y4, y5, y6, y7, y8, y9, none] ∧ Ke c H H' ∧ CkAt H' c)
      ⟨_, _, _, _, _, _, _, _, _, rfl, hK1, hc1⟩ (fun _ _ _ _ _ => trivial) ?_ ?_
    · rintro i v σ' _ H2 hi ⟨y1, y2, y3, y4, y5, y6, y7, y8, y9, rfl, hK2, hc2⟩ ⟨rfl, rfl⟩
      -- many
      refine ⟨_, rfl, n5, fun p1 hp1 => ?_⟩
      have s1 := same_new (o := .lst [.int 2, .int 2, .int 2, .int 1, .int 3]) hp1
      refine ⟨c, p1, _, rfl, hc2.same s1, upd_same, ck_ne hc2 hp1, by simp, by decide, fun v3 H3 hv3 hK3 hc3 => ?_⟩
      have hK03 := hK2.trans (s1.ke.trans hK3)
      obtain ⟨mm, rfl, m1, m3⟩ : ∃ m : Nat, v3 = nV m ∧ 1 ≤ m ∧ m ≤ 3 := by
        simp only [List.mem_cons, List.not_mem_nil, or_false] at hv3
        rcases hv3 with z | z | z | z | z
        · exact ⟨2, z, by decide, by decide⟩
        · exact ⟨2, z, by decide, by decide⟩
        · exact ⟨2, z, by decide, by decide⟩
        · exact ⟨1, z, by decide, by decide⟩
        · exact ⟨3, z, by decide, by decide⟩
      -- trio
      refine ⟨_, rfl, _, rfl, ?_⟩
      refine most_if rfl fun t0 t1 t3 => ?_
      refine ⟨c, mm, t0, rfl, hc3, m1, m3, t1, t3, fun d t H4 ok hmany hK4 hc4 hT4 => ?_⟩
      have hK04 := hK03.trans hK4
      -- x, lots
      obtain ⟨ra, ea, x1, x2, x3⟩ := id hT4
      refine ⟨_, rfl, t, _, 0, _, rfl, rfl, SqT.of x1, atI_nat (j := 0) rfl, _, rfl, t, _, 1, _, rfl, rfl, SqT.of x1, atI_nat (j := 1) rfl, _, rfl, t, _, 2, _, rfl, rfl, SqT.of x1, atI_nat (j := 2) rfl, ?_⟩
      intro x dx hx hdx hne
      subst hmany
      have s5 : Same H4 (upd (upd H4 dx (.own x)) x (.ins C dx [])) := (same_new hdx).trans (same_new (by rw [upd_ne hne.symm]; exact hx))
      refine ⟨d, x, dx, ra, ea, rfl, ok, upd_same, x2.ts s5.ts, s5 _ _ x3, fun H5 dx' fs t' h1 h2 h3 h4 => ⟨rfl, ?_⟩⟩
      have s45 : Same H4 H5 := fun b o e => h1 b o (ne_of_none e hx) (s5 b o e)
      have hc5 := hc4.same s45
      refine ⟨_, rfl, _, rfl, c, d.many, rfl, hc5, m1, m3, fun l m a H6 hl hm hK6 hc6 hna ha6 => ⟨n2, fun p2 hp2 => ?_⟩⟩
      have hac : a ≠ c := ck_ne hc5 hna
      have R6 : RtIn C d l m H H6 c t x a := ⟨hK04.trans (s45.ke.trans hK6), hc6, (hT4.ts s45.ts).ts (ck_ts hc5 hK6), RdAt.ke ⟨dx', fs, t', h2, h3, h4⟩ hc5 hK6, ha6⟩
      have R7 := R6.same (same_new (o := .tup [V.ref x, V.ref a]) hp2) hac
      refine ⟨p2, _, rfl, SqT.of upd_same, rfl, _, _, rfl, _, _, rfl, rfl, ?_⟩
      -- told_right
      refine ⟨_, rfl, _, rfl, _, rfl, d, t, x, a, l, m, rfl, R7.tr, ⟨R7.rd, ok, hl, hm⟩, R7.lo, fun H8 hS8 => ⟨true, rfl, ?_⟩⟩
      have R8 := R7.same hS8 hac
      have an1 : 0 < d.n := ok.n1
      have an3 : d.n ≤ 3 := ok.n3
      have am3 := ok.m3
      have ll := hl.len
      refine ⟨2, rfl, by decide, by decide, ?_⟩
      refine for_it (walk_rg (n := 2)) (fun j σ' H' => ∃ (z6 z7 z8 z9 : Option V), σ' = [some (.ref c), some (nV i), some (nV d.many), some (.ref t), some (.ref x), some (.ref a), z6, z7, z8, z9, none] ∧ RtIn C d l m H H' c t x a)
        ⟨_, _, _, _, rfl, R8⟩ (fun _ _ _ _ _ => trivial) ?_ ?_
      · rintro j v σ' _ H9 hj ⟨z6, z7, z8, z9, rfl, R9⟩ ⟨rfl, rfl⟩
        obtain ⟨ra, ea, x1, ⟨ps, x2, x3, x4⟩, x5⟩ := id R9.tr
        have psl : ps.length = d.n := x3
        refine ⟨_, rfl, t, _, 1, _, rfl, rfl, SqT.of x1, atI_nat (j := 1) rfl, ra, rfl, ⟨_, SqT.of x2⟩, fun D1 hD1 => ?_⟩
        refine lc_acc (walk_tup (xs := ps.map V.ref)) c (fun H => CkAt H c) (fun i acc _ => ∃ sch : List (Option Nat), acc = sch.map sV ∧ sch.length = i ∧ ∀ o ∈ sch, ∀ j, o = some j → j ∈ l)
          (by rw [List.length_map]; omega) hD1 (ck_ne R9.ck hD1) R9.ck (fun _ _ a b => a.keep b) (fun _ _ _ _ _ a => a) ⟨[], rfl, rfl, fun _ h => by cases h⟩ ?_ (fun H hk => SqT.of ((ck_ts R9.ck hk) _ _ x2)) ?_ ?_
        · rintro k acc H0 ⟨sch, rfl, rfl, _⟩
          rw [List.length_map]
          exact Nat.le_refl _
        · rintro k v _ H10 acc R R0 hk hK10 hc10 ⟨sch, rfl, rfl, hsch⟩ ⟨rfl, hv⟩ hR _
          have R10 := R9.next hK10 hc10 hac
          refine ⟨rfl, ?_⟩
          refine ⟨_, rfl, _, rfl, a, _, 0, _, rfl, rfl, SqL.of R10.lo, lo0 l m, ltx l, rfl, by rw [ltx_len]; exact small (by omega), fun a1 ha1 => ?_⟩
          rw [signs_ltx]
          have s1 := same_new (o := .lst (l.map fun i => V.str (sgn i))) ha1
          refine ⟨a1, 2, _, rfl, rfl, upd_same, by decide, by decide, ?_, fun a2 ha2 => ⟨n1, fun a3 ha3 => ?_⟩⟩
          · rw [List.length_map]
            exact small (by show l.length * 2 ≤ 1000; omega)
          have s2 := same_new (o := .lst (List.replicate (2 : Int).toNat (l.map fun i => V.str (sgn i))).flatten) ha2
          have s3 := same_new (o := .lst [V.non]) ha3
          have fl : (List.replicate (2 : Int).toNat (l.map fun i => V.str (sgn i))).flatten.length = 2 * l.length := by
            show ([l.map fun i => V.str (sgn i), l.map fun i => V.str (sgn i)]).flatten.length = _
            rw [List.flatten_cons, List.flatten_cons, List.flatten_nil, List.append_nil, List.length_append, List.length_map]
            omega
          refine ⟨a2, a3, _, _, rfl, rfl, s3 _ _ upd_same, upd_same, ?_, fun a4 ha4 => ?_⟩
          · rw [fl]
            exact small (by show 2 * l.length + 1 ≤ 1000; omega)
          have s4 := same_new (o := .lst ((List.replicate (2 : Int).toNat (l.map fun i => V.str (sgn i))).flatten ++ [V.non])) ha4
          have s13 := s1.trans (s2.trans s3)
          have s14 := s13.trans s4
          refine ⟨c, a4, _, rfl, hc10.same s14, upd_same, ck_ne (hc10.same s13) ha4, by simp, by rw [List.length_append, fl]; show 2 * l.length + 1 < 1000; omega, fun v5 H11 hv5 hK11 hc11 => ?_⟩
          obtain ⟨o, rfl, ho⟩ : ∃ o : Option Nat, v5 = sV o ∧ ∀ j, o = some j → j ∈ l := by
            rcases List.mem_append.mp hv5 with z | z
            · obtain ⟨l', hl', hz⟩ := List.mem_flatten.mp z
              rw [(List.mem_replicate.mp hl').2] at hz
              obtain ⟨k', hk', rfl⟩ := List.mem_map.mp hz
              refine ⟨some k', rfl, fun j e => ?_⟩
              cases e
              exact hk'
            · exact ⟨none, List.mem_singleton.mp z, fun k h => nomatch h⟩
          have hKa := s14.ke.trans hK11
          refine hR _ _ hKa hc11 (ck_ts hc10 hKa) ⟨sch ++ [o], by rw [List.map_append]; rfl, by rw [List.length_append]; rfl, ?_⟩
          intro o' ho' k' e
          rcases List.mem_append.mp ho' with z | z
          · exact hsch o' z k' e
          · rw [List.mem_singleton.mp z] at e
            exact ho k' e
        rintro H10 acc hK10 hc10 hL10 ⟨sch, rfl, slen, hsch⟩
        have slen : sch.length = d.n := by rw [slen, List.length_map, psl]
        have R10 := R9.next hK10 hc10 hac
        refine ⟨D1, _, rfl, .inl ⟨SqL.of hL10, fun sc hsc => ?_⟩⟩
        have s11 := same_new (o := .tup (sch.map sV)) hsc
        have R11 := R10.same s11 hac
        have t911 := (ck_ts R9.ck hK10).trans s11.ts
        -- due
        refine ⟨_, rfl, _, rfl, _, rfl, _, rfl, t, _, 1, _, rfl, rfl, SqT.of (t911 _ _ x1), atI_nat (j := 1) rfl, ra, _, rfl, .inr (SqT.of (t911 _ _ x2)), _, _, rfl, rfl, .inl ⟨by decide, by decide⟩, _, _, rfl, rfl, ?_⟩
        refine ⟨d, t, a, sc, l, m, sch, some 0, 0, 2 * d.n + 1, by rw [List.length_map, psl]; rfl, ⟨R11.tr, ok, R11.lo, hl, hm, upd_same, slen, hsch⟩, fun s h => (by cases h; exact an1), by decide, by omega, fun H12 hS12 => ?_⟩
        have R12 := R11.same hS12 hac
        have c12 : H12 sc = some (.tup (sch.map sV)) := hS12 _ _ upd_same
        have eq1 : (gameP d l m sch).lg (2 * d.n + 1) (some 0) 0 = (gameP d l m sch).rk (2 * d.n) 0 0 := by
          rw [gameP_lg ok hl hm slen]
          exact rk_last (closed_game ok _ m true) an1 (by decide)
        rw [eq1]
        generalize hrk : (gameP d l m sch).rk (2 * d.n) 0 0 = r
        have eq2 : oV ((gameOf d (sch.map (pick l)) m true).rk (2 * d.n) 0 0) = oV r := congrArg oV hrk
        have du : ∀ H', RtIn C d l m H H' c t x a → Duel C d l m H' x := fun H' h => ⟨h.rd, ok, hl, hm⟩
        -- told
        refine ⟨_, rfl, _, rfl, a, _, 0, _, rfl, rfl, SqL.of R12.lo, lo0 l m, _, rfl, a, _, 1, _, rfl, rfl, SqL.of R12.lo, lo1 l m, _, rfl, d, x, l, m, sc, sch, rfl, du _ R12, c12, slen, hsch, fun H13 hS13 => ⟨n1, fun p3 hp3 => ?_⟩⟩
        rw [eq2]
        have R13 := R12.same hS13 hac
        have s14 := same_new (o := .lst [oV r]) hp3
        have R14 := R13.same s14 hac
        refine ⟨_, rfl, .inl ⟨rfl, _, SqL.of upd_same⟩, _, rfl, _, rfl, a, _, 1, _, rfl, rfl, SqL.of R14.lo, lo1 l m, _, rfl, a, _, 0, _, rfl, rfl, SqL.of R14.lo, lo0 l m, _, rfl, d, x, l, m, sc, sch, rfl, du _ R14, (hS13.trans s14) _ _ c12, slen, hsch, fun H15 hS15 => ?_⟩
        rw [eq2]
        have e15 : H15 p3 = some (.lst [oV r]) := hS15 _ _ upd_same
        refine ⟨p3, _, _, rfl, rfl, e15, small1000 (by simp), ?_⟩
        have s16 : Same H13 (upd H15 p3 (.lst [oV r, oV r])) := same_upd (s14.trans hS15) hp3
        have R16 := R13.same s16 hac
        have e16 : upd H15 p3 (.lst [oV r, oV r]) p3 = some (.lst [oV r, oV r]) := upd_same
        refine ⟨_, rfl, _, rfl, _, rfl, n2, fun p4 hp4 => ?_⟩
        have s17 := same_new (o := .lst [oV r, oV r]) hp4
        have R17 := R16.same s17 hac
        have dp2 : ∀ H' p, H' p = some (.lst [oV r, oV r]) → Dp K H' (.ref p) (.list [oD r, oD r]) := fun H' p h => .lst (SqL.of h) (.cons (dp_o r) (.cons (dp_o r) .nil))
        have ly : PyData.canLayAll0 [oD r, oD r] = true := by simp [PyData.canLayAll0, lay_o]
        have sh : SeqAt.shaped (.list [oD r, oD r]) = true := shp_list ly (by simp [PyData.depthAll, dep_o])
        refine ⟨.list [oD r, oD r], .list [oD r, oD r], dp2 _ p3 (s17 _ _ e16), dp2 _ p4 upd_same, sh, sh, false, ?_, ?_⟩
        · rw [PySem.SeqAt.eqv_refl _ (by rw [PyData.canLay0]; exact ly)]
          rfl
        exact ⟨_, _, _, _, rfl, R17⟩
      · rintro σ' H9 ⟨z6, z7, z8, z9, rfl, R9⟩
        exact ⟨_, _, _, _, _, _, _, _, _, rfl, R9.ke, R9.ck⟩
    · rintro σ' H2 ⟨y1, y2, y3, y4, y5, y6, y7, y8, y9, rfl, hK2, hc2⟩
      exact q _ hK2
abbrev N_law : List Str := ["_law_cells", "_law_k"]
abbrev P_law : List Str := ["_law_cells"]
theorem sc_law : FnScope N_law P_law (defScope (top 47)) := ⟨rfl, rfl, rfl, by decide +kernel, rfl, by decide +kernel, by decide +kernel⟩
def spLaw (K : PySem.W.Frag) : Sp := fun vs H Q _ => ∃ (a : Addr) (ns : List Int), vs = [.ref a] ∧ SqL K H a (ns.map V.int) ∧ ns.length ≤ 63 ∧ ∀ H', Q (.bl true) H'
theorem cl_law (D : DefAt K mg "law" 47) (T : Tx K mg C) (c__law_cask : Cl P w K mg base 1 "_law_cask" P__law_cask (spCask K)) (c__law_right : Cl P w K mg base 12 "_law_right" P__law_right spRight) : Cl P w K mg base 13 "law" P_law (spLaw K) := by
  refine cl_of (N := N_law) D sc_law (fun _ _ _ _ _ _ us hl => match us, hl with | [_], _ => rfl) ?_ ?_
  · rintro vs H Q E ⟨a, ns, rfl, _⟩
    rfl
  · rintro f cdv A outer s H vs Q E hr ⟨a, ns, rfl, ha, hlen, q⟩
    refine ⟨_, (pss_cons (ps_for PassesOwn.never rfl (pi_range1 rfl T.nrange (pa_cons (pe_callB (call_max2 rfl) rfl T.nmax (by decide +kernel) (pa_cons pe_int (pa_cons (pe_callB (call_min2 rfl) rfl T.nmin (by decide +kernel) (pa_cons (pe_callB (zLen K) rfl T.nlen (by decide +kernel) (pa_cons (pv 0) pa_nil)) (pa_cons pe_int pa_nil))) pa_nil))) pa_nil)) (pg_name (i := 1) sc_law.nd rfl (Or.inl rfl)) (pss_one (ps_if (pt_not (pt_val (pe_cl c__law_right hr (by omega) (by rfl) (pa_cons (pe_cl c__law_cask hr (by omega) (by rfl) (pa_cons (pv 0) (pa_cons (pv 1) pa_nil))) pa_nil)))) (pss_one (ps_ret pe_bl)) pss_nil)))
      (pss_one (ps_ret pe_bl))), ?_⟩
    obtain ⟨N, hN, hN3⟩ : ∃ N : Nat, (if (if (3 : Int) < (((ns.map V.int).length : Nat) : Int) then (3 : Int) else (((ns.map V.int).length : Nat) : Int)) > 1 then (if (3 : Int) < (((ns.map V.int).length : Nat) : Int) then (3 : Int) else (((ns.map V.int).length : Nat) : Int)) else (1 : Int)) = (N : Int) ∧ N ≤ 3 := by
      refine ⟨(if (if (3 : Int) < (((ns.map V.int).length : Nat) : Int) then (3 : Int) else (((ns.map V.int).length : Nat) : Int)) > 1 then (if (3 : Int) < (((ns.map V.int).length : Nat) : Int) then (3 : Int) else (((ns.map V.int).length : Nat) : Int)) else (1 : Int)).toNat, ?_, ?_⟩
      · split <;> split <;> omega
      · split <;> split <;> omega
    refine ⟨_, rfl, a, _, rfl, .inl ha, _, _, rfl, _, _, rfl, (N : Int), by rw [hN], by omega, by omega, ?_⟩
    refine for_it (walk_rg (n := N)) (fun i σ' H' => ∃ (y1 : Option V), σ' = [some (.ref a), y1] ∧ SqL K H' a (ns.map V.int)) ⟨_, rfl, ha⟩ (fun _ _ _ _ _ => trivial) ?_ ?_
    · rintro i v σ' _ H1 hi ⟨y1, rfl, ha1⟩ ⟨rfl, rfl⟩
      have hi : i < N := hi
      refine ⟨_, rfl, _, rfl, a, ns, i, rfl, ha1, by omega, by omega, fun c H2 hS hn hc => ⟨c, rfl, hc, fun H3 hK => ⟨true, rfl, ?_⟩⟩⟩
      refine ⟨_, rfl, SqL_ke ha1 hn (hS.ke.trans hK)⟩
    · rintro σ' H1 ⟨y1, rfl, _⟩
      exact q H1
end
end K30
set_option Elab.async false
set_option linter.all false
set_option maxRecDepth 100000
set_option maxHeartbeats 4000000
/-! The head's facts: where each def stands, the class, its properties. -/
namespace K30
open PySem PySem.Spec PyProof.Rows L2 K30R
def dG (x : Str) (i : Nat) : He5.DefA := ⟨fun K => He.ga K x, x, x, defArgs (top i), defBody (top i), defScope (top i), [], []⟩
def dM (x q : Str) (j : Nat) : He5.DefA := ⟨fun K => He.ma K (He.ga K "Reader") x, x, q, defArgs (inR j), defBody (inR j), defScope (inR j), [], []⟩
def dP (x q : Str) (j : Nat) : He5.DefA := ⟨fun K => He5.wf K (He.ga K "Reader") "property" x, x, q, defArgs (inR j), defBody (inR j), defScope (inR j), [], []⟩
def fn : List He5.DefA := [dG "is_number" 11, dG "is_goal" 12, dG "are_arrows" 13, dG "are_stands" 14, dG "is_signs" 16, dG "check_signs" 17, dG "check_reader" 18, dG "goal_of" 20, dG "is_lot" 21, dG "check_lot" 23, dG "check_duel" 24,
  dG "goals_by" 25, dG "is_reached" 26, dG "ranks_of" 27, dG "best_ranks" 28, dG "least_turns" 29, dG "plan" 30, dG "barring" 31, dG "is_plan" 32, dG "turns_of" 33, dG "_law_cask" 35, dG "_law_pull" 36, dG "_law_one_of" 37, dG "_law_trio" 38,
  dG "_law_lots" 39, dG "_law_near" 40, dG "_law_layers" 41, dG "_law_is_scheme" 42, dG "_law_longest" 43, dG "_law_never" 44, dG "_law_told_right" 45, dG "_law_right" 46, dG "law" 47,
  dM "__init__" "Reader.__init__" 0, dM "__len__" "Reader.__len__" 5, dP "signs" "Reader.signs" 1, dP "arrows" "Reader.arrows" 2, dP "ends" "Reader.ends" 3]
def fa : List He.Fa := [.glo "is_number", .glo "is_goal", .glo "are_arrows", .glo "are_stands", .glo "is_signs", .glo "check_signs", .glo "check_reader", .glo "goal_of", .glo "is_lot", .glo "check_lot", .glo "check_duel",
  .glo "goals_by", .glo "is_reached", .glo "ranks_of", .glo "best_ranks", .glo "least_turns", .glo "plan", .glo "barring", .glo "is_plan", .glo "turns_of", .glo "_law_cask", .glo "_law_pull", .glo "_law_one_of", .glo "_law_trio",
  .glo "_law_lots", .glo "_law_near", .glo "_law_layers", .glo "_law_is_scheme", .glo "_law_longest", .glo "_law_never", .glo "_law_told_right", .glo "_law_right", .glo "law",
  .glo "Reader", .cls "Reader", .mkr "Reader", .noat "Reader" "parts", .meth "Reader" "__len__", .str "ALPHABET" "abcdefgh", .int "MOST_SIGNS" 8, .int "MOST_STANDS" 200,
  .free "len", .free "isinstance", .free "range", .free "all", .free "any", .free "sorted", .free "set", .free "list", .free "tuple", .free "enumerate", .free "zip", .free "min", .free "max", .free "abs", .free "int", .free "bool", .free "str"]
/-- a property of the class -/
def prB (K : PySem.W.Frag) (x : Str) : Bool := He.eqO (PySem.W.findIn K (.ref (He.ga K "Reader")) x) (some (some (.ref (He.ma K (He.ga K "Reader") x)))) && (He.eqO (PySem.W.specialIn K (.ref (He.ma K (He.ga K "Reader") x)) "__get__") (some (some (.builtin "property.__get__"))) &&
  (decide (PySem.W.takesIn K (.ref (He.ma K (He.ga K "Reader") x)) = some true) && (match PySem.W.recIn K (He.ma K (He.ga K "Reader") x) "property" with
    | some (.ref _ :: _) => true
    | _ => false)))
theorem prB_ok {K : PySem.W.Frag} {x : Str} (h : prB K x = true) : PropOf K (He.ga K "Reader") x (He.ma K (He.ga K "Reader") x) (He5.wf K (He.ga K "Reader") "property" x) := by
  obtain ⟨h1, h⟩ := He.ba h
  obtain ⟨h2, h⟩ := He.ba h
  obtain ⟨h3, h4⟩ := He.ba h
  refine ⟨He.eqO_ok h1, He.eqO_ok h2, of_decide_eq_true h3, ?_⟩
  unfold He5.wf
  split at h4
  · rename_i f r e
    exact ⟨r, by rw [e]⟩
  · cases h4
def insB (K : PySem.W.Frag) : Bool := He.eqO (PySem.W.findIn K (.ref (He.ga K "Reader")) "__class__") (some (some (.builtin "object.__class__"))) && (He.eqO (PySem.W.specialIn K (.builtin "object.__class__") "__get__") (some (some (.builtin "getset_descriptor.__get__"))) &&
  (decide (PySem.W.takesIn K (.builtin "object.__class__") = some true) && (decide (PySem.W.mroIn K (He.ga K "Reader") (.type "object") = some true) && decide (PySem.W.kitOne K (.ref (He.ga K "Reader")) (.ref (He.ga K "Reader")) = some true))))
theorem insB_ok {K : PySem.W.Frag} (c : Cls K (He.ga K "Reader")) (h : insB K = true) : C8.InsC K (He.ga K "Reader") := by
  obtain ⟨h1, h⟩ := He.ba h
  obtain ⟨h2, h⟩ := He.ba h
  obtain ⟨h3, h⟩ := He.ba h
  obtain ⟨h4, h5⟩ := He.ba h
  exact ⟨c, He.eqO_ok h1, He.eqO_ok h2, of_decide_eq_true h3, of_decide_eq_true h4, of_decide_eq_true h5⟩
def ex (K : PySem.W.Frag) : Bool := prB K "signs" && (prB K "arrows" && (prB K "ends" && insB K))
abbrev AlH : Type := He.AlD × Bool
def obsH (K : PySem.W.Frag) : AlH := (He5.obsA fa fn K, ex K)
def valH : AlH := (He5.valA fn, true)
def obsHG (g : Addr → Option Obj) : AlH := obsH (He.frG g (He.asD g 6))
def hk : PySem.W.Hook where
  α := AlH
  obs := fun s => obsHG s.heap.get?
  val := fun _ => valH
  says := fun _ h => ∃ K : PySem.W.Frag, K.In h ∧ obsH K = valH
  of := fun _ _ e => ⟨_, He.frG_in, e⟩
  keeps := fun _ _ _ ⟨K, hK, c⟩ k => ⟨K, PySem.W.Frag.In.keeps hK k, c⟩
def ob (s : PySem.W.SharedT) : AlH := obsHG (HandSHeadRun.getT s)
theorem ob_eq (s : PySem.W.SharedT) : ob s = hk.obs s.abs := by
  have e : HandSHeadRun.getT s = s.abs.heap.get? := funext (HandSHeadRun.getT_eq s)
  show obsHG (HandSHeadRun.getT s) = obsHG s.abs.heap.get?
  rw [e]
abbrev R : PySem.W.OpenRow := PySem.W.OpenLaw.row PySem.Challenge.rw_rowreaders_k30_whole_plans
def names1 : List PySem.Str := ["WrongValue", "InvalidSigns", "InvalidArrows", "InvalidEnds", "InvalidPlan", "NotAReader", "MOST_SIGNS", "MOST_STANDS", "ALPHABET", "is_number", "is_goal", "are_arrows", "are_stands", "Reader", "is_signs", "check_signs", "check_reader", "goal_of", "is_lot", "check_lot"]
def names2 : List PySem.Str := ["check_duel", "goals_by", "is_reached", "ranks_of", "best_ranks", "least_turns", "plan", "barring", "is_plan", "turns_of", "_law_cask", "_law_pull", "_law_one_of", "_law_trio", "_law_lots", "_law_near", "_law_layers", "_law_is_scheme", "_law_longest", "_law_never", "_law_told_right", "_law_right"]
def names : List PySem.Str := names1 ++ names2
/-! ### the facts -/
section
variable {P : Program} {w : World} {K : PySem.W.Frag} {mg : Str → Option Value} {h : Heap}
theorem says (c : obsH K = valH) : He5.SaysA fa fn K := congrArg (fun z : AlH => z.1) c
theorem defA (X : K.In h) (G : h.Ns mainGlobals mg) (c : obsH K = valH) (n : Nat) (x : Str) (i : Nat) (h1 : fn[n]? = some (dG x i)) (h2 : fa[n]? = some (.glo x)) : DefAt K mg x i := by
  obtain ⟨fd, F⟩ := (says c).def_ n h1
  exact ⟨He.ga K x, fd, F, He.glo_ok X G ((says c).fact n h2)⟩
theorem fr (X : K.In h) (G : h.Ns mainGlobals mg) (c : obsH K = valH) (n : Nat) (x : Str) (h2 : fa[n]? = some (.free x)) : mg x = none := He.free_ok X G ((says c).fact n h2)
theorem tx (X : K.In h) (G : h.Ns mainGlobals mg) (c : obsH K = valH) : Tx K mg (He.ga K "Reader") := by
  have e : ex K = true := congrArg (fun z : AlH => z.2) c
  obtain ⟨e1, e⟩ := He.ba e
  obtain ⟨e2, e⟩ := He.ba e
  obtain ⟨e3, e4⟩ := He.ba e
  have cl := He.cls_ok ((says c).fact 34 (f := .cls "Reader") rfl)
  obtain ⟨t1, s1⟩ := He.str_ok X G ((says c).fact 38 (f := .str "ALPHABET" "abcdefgh") rfl)
  obtain ⟨t2, s2⟩ := He.int_ok X G ((says c).fact 39 (f := .int "MOST_SIGNS" 8) rfl)
  obtain ⟨t3, s3⟩ := He.int_ok X G ((says c).fact 40 (f := .int "MOST_STANDS" 200) rfl)
  exact ⟨fr X G c 41 _ rfl, fr X G c 42 _ rfl, fr X G c 43 _ rfl, fr X G c 44 _ rfl, fr X G c 45 _ rfl, fr X G c 46 _ rfl, fr X G c 47 _ rfl, fr X G c 48 _ rfl, fr X G c 49 _ rfl, fr X G c 50 _ rfl, fr X G c 51 _ rfl, fr X G c 52 _ rfl, fr X G c 53 _ rfl,
    fr X G c 54 _ rfl, fr X G c 55 _ rfl, fr X G c 56 _ rfl, fr X G c 57 _ rfl, ⟨_, s1, t1, rfl⟩, ⟨_, s2, t2, rfl⟩, ⟨_, s3, t3, rfl⟩, He.glo_ok X G ((says c).fact 33 (f := .glo "Reader") rfl), cl,
    He.noat_ok ((says c).fact 36 (f := .noat "Reader" "parts") rfl), insB_ok cl e4⟩
theorem law_cl {base : Heap} (X : K.In h) (G : h.Ns mainGlobals mg) (c : obsH K = valH) : Cl P w K mg base 13 "law" P_law (spLaw K) := by
  have T := tx X G c
  have e : ex K = true := congrArg (fun z : AlH => z.2) c
  obtain ⟨e1, e⟩ := He.ba e
  obtain ⟨e2, e⟩ := He.ba e
  obtain ⟨e3, e4⟩ := He.ba e
  have d0 : Dat := ⟨1, [], []⟩
  -- the properties, the methods
  obtain ⟨fs, Fs⟩ := (says c).def_ 35 (d := dP "signs" "Reader.signs" 1) rfl
  obtain ⟨fd1, F1, b1⟩ := md_signs (P := P) (w := w) (mg := mg) (base := base) ⟨fs, Fs⟩ T
  have p_signs : Pr P w K mg base 1 (He.ga K "Reader") "signs" (spPart (He.ga K "Reader") 0) := ⟨_, _, fd1, prB_ok e1, F1, b1⟩
  obtain ⟨fa', Fa'⟩ := (says c).def_ 36 (d := dP "arrows" "Reader.arrows" 2) rfl
  obtain ⟨fd2, F2, b2⟩ := md_arrows (P := P) (w := w) (mg := mg) (base := base) ⟨fa', Fa'⟩ T
  have p_arrows : Pr P w K mg base 1 (He.ga K "Reader") "arrows" (spArrows (He.ga K "Reader")) := ⟨_, _, fd2, prB_ok e2, F2.imp (fun vs H Q E ⟨x, dx, fs, t, r0, ra, ea, h1, h2, h3, h4, h5⟩ => ⟨x, dx, fs, t, r0, .ref ra, .ref ea, .ref ra, h1, h2, h3, h4, rfl, h5⟩), b2⟩
  obtain ⟨fe, Fe⟩ := (says c).def_ 37 (d := dP "ends" "Reader.ends" 3) rfl
  obtain ⟨fd3, F3, b3⟩ := md_ends (P := P) (w := w) (mg := mg) (base := base) ⟨fe, Fe⟩ T
  have p_ends : Pr P w K mg base 1 (He.ga K "Reader") "ends" (spPart (He.ga K "Reader") 2) := ⟨_, _, fd3, prB_ok e3, F3, b3⟩
  obtain ⟨fl, Fl⟩ := (says c).def_ 34 (d := dM "__len__" "Reader.__len__" 5) rfl
  obtain ⟨fd4, F4, b4⟩ := md_len (P := P) (w := w) (mg := mg) (base := base) ⟨fl, Fl⟩ T
  have m_len : Ml P w K mg base 1 (He.ga K "Reader") "__len__" (spLen (He.ga K "Reader")) := ⟨_, fd4, He.meth_ok ((says c).fact 37 (f := .meth "Reader" "__len__") rfl), F4, b4⟩
  -- the checks
  have c_is_number := cl_is_number (P := P) (w := w) (base := base) (defA X G c 0 "is_number" 11 rfl rfl) T
  have c_is_goal := cl_is_goal (defA X G c 1 "is_goal" 12 rfl rfl) T c_is_number
  have c_are_arrows := cl_are_arrows (defA X G c 2 "are_arrows" 13 rfl rfl) T c_is_goal
  have c_are_stands := cl_are_stands (defA X G c 3 "are_stands" 14 rfl rfl) T c_is_number
  have c_is_signs := cl_is_signs (defA X G c 4 "is_signs" 16 rfl rfl) T c_is_number
  have c_check_signs := cl_check_signs (defA X G c 5 "check_signs" 17 rfl rfl) c_is_signs
  obtain ⟨fi, Fi⟩ := (says c).def_ 33 (d := dM "__init__" "Reader.__init__" 0) rfl
  obtain ⟨fd5, F5, b5⟩ := md_init (P := P) (w := w) (mg := mg) (base := base) ⟨fi, Fi⟩ T c_check_signs c_are_arrows c_are_stands
  have m_Reader : Mr P w K mg base 4 (He.ga K "Reader") P_R__init__ (spAny (spInit (He.ga K "Reader"))) := ⟨_, fd5, He.mkr_ok ((says c).fact 35 (f := .mkr "Reader") rfl), F5, b5⟩
  have c_check_reader := cl_check_reader (P := P) (w := w) (base := base) (defA X G c 6 "check_reader" 18 rfl rfl) T
  have c_is_lot := cl_is_lot (P := P) (w := w) (base := base) (defA X G c 8 "is_lot" 21 rfl rfl) T
  have c_check_lot := cl_check_lot (defA X G c 9 "check_lot" 23 rfl rfl) c_is_lot
  have c_check_duel := cl_check_duel (defA X G c 10 "check_duel" 24 rfl rfl) T c_check_reader c_check_lot p_signs
  have c_is_reached := cl_is_reached (P := P) (w := w) (base := base) (defA X G c 12 "is_reached" 26 rfl rfl)
  have c_is_plan := cl_is_plan (defA X G c 18 "is_plan" 32 rfl rfl) T m_len
  -- the duels
  have c_goal_of := fun d : Dat => cl_goal_of (P := P) (w := w) (base := base) d (defA X G c 7 "goal_of" 20 rfl rfl)
  have c_goals_by := fun d : Dat => cl_goals_by d (defA X G c 11 "goals_by" 25 rfl rfl) T p_arrows (c_goal_of d)
  have c_ranks_of := fun d : Dat => cl_ranks_of d (defA X G c 13 "ranks_of" 27 rfl rfl) T p_ends m_len (c_goals_by d) c_is_reached
  have c_best_ranks := fun d : Dat => cl_best_ranks d (defA X G c 14 "best_ranks" 28 rfl rfl) T m_len (c_ranks_of d)
  have c_least_turns := fun d : Dat => cl_least_turns d (defA X G c 15 "least_turns" 29 rfl rfl) T c_check_duel (c_best_ranks d)
  have c_plan := fun d : Dat => cl_plan d (defA X G c 16 "plan" 30 rfl rfl) T m_len c_check_duel (c_best_ranks d) (c_goals_by d) c_is_reached
  have c_barring := fun d : Dat => cl_barring d (defA X G c 17 "barring" 31 rfl rfl) T m_len c_check_duel (c_best_ranks d) (c_goals_by d) c_is_reached
  have c_turns_of := fun d : Dat => cl_turns_of d (defA X G c 19 "turns_of" 33 rfl rfl) T c_check_duel c_is_plan (c_ranks_of d)
  -- the law's own
  have c_cask := cl_law_cask (P := P) (w := w) (base := base) (defA X G c 20 "_law_cask" 35 rfl rfl) T
  have c_pull := cl_law_pull (P := P) (w := w) (base := base) (defA X G c 21 "_law_pull" 36 rfl rfl) T
  have c_one_of := cl_law_one_of (defA X G c 22 "_law_one_of" 37 rfl rfl) T c_pull
  have c_trio := cl_law_trio (defA X G c 23 "_law_trio" 38 rfl rfl) T c_pull c_one_of
  have c_lots := cl_law_lots (defA X G c 24 "_law_lots" 39 rfl rfl) T c_pull c_one_of
  have c_near := fun d : Dat => cl_law_near (P := P) (w := w) (base := base) d (defA X G c 25 "_law_near" 40 rfl rfl) T
  have c_layers := fun d : Dat => cl_law_layers d (defA X G c 26 "_law_layers" 41 rfl rfl) T (c_near d)
  have c_is_scheme := cl_law_is_scheme (P := P) (w := w) (base := base) (defA X G c 27 "_law_is_scheme" 42 rfl rfl) T
  have c_longest := fun d : Dat => cl_law_longest d (defA X G c 28 "_law_longest" 43 rfl rfl) T (c_near d) 8
  have c_never := fun d : Dat => cl_law_never d (defA X G c 29 "_law_never" 44 rfl rfl) T (c_near d) 8
  have c_told := fun d : Dat => cl_law_told_right d (defA X G c 30 "_law_told_right" 45 rfl rfl) T (c_layers d) (c_plan d).1 (c_plan d).2 (c_barring d).1 (c_barring d).2 (c_least_turns d) (c_turns_of d).1 c_is_scheme (c_longest d) (c_never d)
  have c_right := cl_law_right (defA X G c 31 "_law_right" 46 rfl rfl) T m_Reader c_pull c_one_of c_trio c_lots (.any d0 c_told) (.any d0 c_longest) (.any d0 fun d => (c_turns_of d).1) (.any d0 fun d => (c_turns_of d).2)
  exact cl_law (defA X G c 32 "law" 47 rfl rfl) T c_cask c_right
theorem facts {f : Addr} (X : K.In h) (G : h.Ns mainGlobals mg) (hfa : mg ("law" : Str) = some (.ref f)) (c : obsH K = valH) :
    ∃ fd : FuncData, (∀ (s : Shared) (v : Value), BindsTo s fd ⟨[v], []⟩ [("_law_cells", v)]) ∧ ∀ base : Heap, K.In base → base.Ns mainGlobals mg → FnOk P w K mg base CX0 13 f fd ["_law_cells"] (spLaw K) := by
  obtain ⟨f0, fd, F, e0⟩ := defA X G c 32 "law" 47 rfl rfl
  have e := hfa.symm.trans e0
  cases e
  have b := FunD.bindsA (ps := ["_law_cells"]) F fun _ _ _ _ _ _ us hl => match us, hl with | [_], _ => rfl
  refine ⟨fd, fun s v => b s [v] rfl, fun base _ _ => ?_⟩
  obtain ⟨f', fd', F', hm, _, _, lk⟩ := (law_cl (P := P) (w := w) (base := base) X G c).ex
  have e2 := hfa.symm.trans hm
  cases e2
  rw [F.fdAt.same lk] at F'
  exact F'
end
end K30
set_option Elab.async false
set_option linter.all false
set_option maxRecDepth 100000
set_option maxHeartbeats 0
namespace K30
open PySem PySem.Spec PyProof.Rows L2
theorem run (w : World) : HandSHeadRun.RunEq R (PySem.W.view R.prog [47]) hk ob 20000 names w := by
  intro os
  kernel_rfl
end K30
open PySem PySem.W PySem.Calls PyProof.Rows
theorem PySem.Challenge.cw_rowreaders_k30_whole_plans_holds : PySem.Challenge.rw_rowreaders_k30_whole_plans.Holds := by
  w_on; o_law
  refine HandSHeadRun.head_any (r := OpenLaw.row PySem.Challenge.rw_rowreaders_k30_whole_plans) (q := view (OpenLaw.row PySem.Challenge.rw_rowreaders_k30_whole_plans).prog [47]) (H := K30.hk) (ob := K30.ob) (M := 20000) (loose := K30.names) (d := HandSHeadRun.topDef (OpenLaw.row PySem.Challenge.rw_rowreaders_k30_whole_plans).prog 47) (kwd := []) K30.ob_eq
    (by kernel_rfl) (fun s => by kernel_rfl) K30.run (by kernel_rfl) (by kernel_rfl) (by kernel_rfl) (by rfl) (by first | assumption | decide +kernel) (by decide +kernel) ⟨rfl, rfl, rfl, rfl, rfl, by decide +kernel⟩ ?hw ?hc
  case hw => w_witness2
  case hc =>
    refine L2.walk_ofE (l := PySem.Challenge.rw_rowreaders_k30_whole_plans) (n := 63) (k := 13) (x := "_law_cells") (CX := L2.CX0) rfl (by decide) (by kernel_rfl) ⟨rfl, by decide, by decide⟩ ?F (fun _ _ _ _ z => z)
    intro w mg fa h Y G hmg0
    obtain ⟨K, KX, c⟩ := Y
    have hmg : mg ("law" : PySem.Str) = some (.ref fa) := by
      have e : (HandSHeadRun.topDef (OpenLaw.row PySem.Challenge.rw_rowreaders_k30_whole_plans).prog 47).name = ("law" : PySem.Str) := by kernel_rfl
      rw [← e]
      exact hmg0
    obtain ⟨fd, hb, hF⟩ := K30.facts (P := (PySem.Challenge.rw_rowreaders_k30_whole_plans).prog) (w := w) KX G hmg c
    exact ⟨K, fd, K30.spLaw K, KX, hb, fun H a ns hl _ hS => ⟨a, ns, rfl, hS, hl, fun _ => rfl⟩, hF⟩
