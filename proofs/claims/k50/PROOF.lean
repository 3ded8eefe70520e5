import PyProof.Rows.All
import Wide.All
import OpenK.AllK
import Wide.FinOn
import HandS.ForMost
import HandS.SortKw
import HandS.IsInst
import HandS.Style
import HandS.Conv
import HandS.Flow
import KE.DataMinMax
import HandS.Walk
import PySem.Challenge.RW_ebbkeep_k50_whole_looking_back
/-! The mathematics of looking back: tariffs, the machine of a lane, the pool's lanes, the works. Plain Lean. -/
namespace K50
/-! ### tariffs -/
structure Tar where
  n : Nat
  r : Nat → Int
  w : Nat → Int
structure Tar.Ok (T : Tar) : Prop where
  n1 : 1 ≤ T.n
  n4 : T.n ≤ 4
  rn : T.r T.n = 0
  w0 : T.w 0 = 0
  rm : ∀ i j, i ≤ j → j ≤ T.n → T.r j ≤ T.r i
  wm : ∀ i j, i ≤ j → j ≤ T.n → T.w i ≤ T.w j
  rb : ∀ j, j ≤ T.n → T.r j ≤ 40000
  wb : ∀ j, j ≤ T.n → T.w j ≤ 40000
def stc (T : Tar) (j : Nat) (t : Int) : Int := T.r j * t + T.w j
/-- the best of the states 0 .. k -/
def idS (T : Tar) (t : Int) : Nat → Nat
  | 0 => 0
  | k + 1 => if stc T (k + 1) t < stc T (idS T t k) t then k + 1 else idS T t k
def idSt (T : Tar) (t : Int) : Nat := idS T t T.n
def idle (T : Tar) (t : Int) : Int := stc T (idSt T t) t
theorem idS_le (T : Tar) (t : Int) : ∀ k, idS T t k ≤ k
  | 0 => Nat.le_refl 0
  | k + 1 => by
    have ih := idS_le T t k
    unfold idS
    split
    · exact Nat.le_refl _
    · omega
theorem idS_min (T : Tar) (t : Int) : ∀ k j, j ≤ k → stc T (idS T t k) t ≤ stc T j t
  | 0, j, h => by
    have e : j = 0 := by omega
    subst e
    exact Int.le_refl _
  | k + 1, j, h => by
    have ih := idS_min T t k
    unfold idS
    split
    · rename_i hlt
      by_cases e : j = k + 1
      · subst e; exact Int.le_refl _
      · have := ih j (by omega)
        omega
    · rename_i hlt
      by_cases e : j = k + 1
      · subst e; omega
      · exact ih j (by omega)
section
variable {T : Tar}
theorem idSt_le (T : Tar) (t : Int) : idSt T t ≤ T.n := idS_le T t T.n
theorem idle_le {j : Nat} (t : Int) (h : j ≤ T.n) : idle T t ≤ T.r j * t + T.w j := idS_min T t T.n j h
theorem idle_eq (T : Tar) (t : Int) : idle T t = T.r (idSt T t) * t + T.w (idSt T t) := rfl
theorem Tar.Ok.r0 (o : T.Ok) {j : Nat} (h : j ≤ T.n) : 0 ≤ T.r j := by
  have := o.rm j T.n h (Nat.le_refl _)
  rw [o.rn] at this
  exact this
theorem Tar.Ok.w0' (o : T.Ok) {j : Nat} (h : j ≤ T.n) : 0 ≤ T.w j := by
  have := o.wm 0 j (Nat.zero_le _) h
  rw [o.w0] at this
  exact this
theorem idle_W (o : T.Ok) (t : Int) : idle T t ≤ T.w T.n := by
  have := idle_le (T := T) t (Nat.le_refl T.n)
  rw [o.rn] at this
  omega
theorem mulnn {a b : Int} (ha : 0 ≤ a) (hb : 0 ≤ b) : 0 ≤ a * b := Int.mul_nonneg ha hb
theorem idle_nn (o : T.Ok) {t : Int} (ht : 0 ≤ t) : 0 ≤ idle T t := by
  have h := idSt_le T t
  rw [idle_eq]
  have h1 := mulnn (o.r0 h) ht
  have h2 := o.w0' h
  omega
theorem idle_wk (o : T.Ok) {t : Int} (ht : 0 ≤ t) : T.w (idSt T t) ≤ idle T t := by
  have h := idSt_le T t
  rw [idle_eq]
  have h1 := mulnn (o.r0 h) ht
  omega
theorem idle_mono (o : T.Ok) {t d : Int} (hd : 0 ≤ d) : idle T t ≤ idle T (t + d) := by
  have h := idSt_le T (t + d)
  have h1 := idle_le (T := T) t h
  rw [idle_eq T (t + d), Int.mul_add]
  have h2 := mulnn (o.r0 h) hd
  omega
/-- growing by at least the new rate -/
theorem idle_grow (t d : Int) : idle T t + T.r (idSt T (t + d)) * d ≤ idle T (t + d) := by
  have h1 := idle_le (T := T) t (idSt_le T (t + d))
  rw [idle_eq T (t + d), Int.mul_add]
  omega
/-- growing by at most the rate of any state that serves -/
theorem idle_step {t d : Int} : idle T (t + d) ≤ idle T t + T.r (idSt T t) * d := by
  have h1 := idle_le (T := T) (t + d) (idSt_le T t)
  rw [Int.mul_add] at h1
  rw [idle_eq T t]
  omega
theorem idS_0 (o : T.Ok) : ∀ k, k ≤ T.n → idS T 0 k = 0
  | 0, _ => rfl
  | k + 1, h => by
    unfold idS
    rw [idS_0 o k (by omega)]
    have h1 := o.w0' h
    rw [if_neg]
    unfold stc
    rw [o.w0]
    simp
    exact h1
theorem idSt_0 (o : T.Ok) : idSt T 0 = 0 := idS_0 o T.n (Nat.le_refl _)
theorem idle_0 (o : T.Ok) : idle T 0 = 0 := by rw [idle_eq, idSt_0 o, o.w0]; simp
theorem idle_r0 (o : T.Ok) {t d : Int} (hd : 0 ≤ d) : idle T (t + d) ≤ idle T t + T.r 0 * d := by
  have h1 := idle_step (T := T) (t := t) (d := d)
  have h2 := o.rm 0 (idSt T t) (Nat.zero_le _) (idSt_le T t)
  have h3 := Int.mul_le_mul_of_nonneg_right h2 hd
  omega
end

/-! ### the machine of a lane: the total since it was needed (none: off), and what looking back has paid -/
def ret (T : Tar) : Option Int → Int
  | none => T.w T.n
  | some t => idle T t
theorem ret_nn {T : Tar} (o : T.Ok) : ∀ {x : Option Int}, (∀ t, x = some t → 0 ≤ t) → 0 ≤ ret T x
  | none, _ => o.w0' (Nat.le_refl _)
  | some t, h => idle_nn o (h t rfl)
abbrev MS := Option Int × Int
/-- one moment -/
def midS (T : Tar) (p : Int) (need : Bool) (x : MS) : MS := if need = true then (some 0, x.2 + (ret T x.1 + T.r 0 * p)) else (x.1.map (· + p), x.2)
/-- .. and a break or none behind it -/
def endS (b : Bool) (x : MS) : MS := if b = true then (none, x.2) else x
section
variable (T : Tar) (P N : Nat → Int) (bs : List Int)
def brk (k : Nat) : Bool := decide ((k : Int) ∈ bs)
def needs (l k : Nat) : Bool := decide ((l : Int) < N k)
def M (l : Nat) : Nat → MS
  | 0 => (none, 0)
  | k + 1 => endS (brk bs k) (midS T (P k) (needs N l k) (M l k))
abbrev mid (l k : Nat) : MS := midS T (P k) (needs N l k) (M T P N bs l k)
/-! ### the law's own count: the last moment in which the lane was needed, and the cost -/
def hasB (q k : Nat) : Bool := bs.any fun j => decide ((q : Int) ≤ j) && decide (j < (k : Int))
def sumP (a : Nat) : Nat → Int
  | 0 => 0
  | d + 1 => sumP a d + P (a + d)
def gapc (q : Option Nat) (k : Nat) : Int := match q with
  | none => T.w T.n
  | some q => if hasB bs q k = true then T.w T.n else idle T (sumP P (q + 1) (k - (q + 1)))
def L (l : Nat) : Nat → Option Nat × Int
  | 0 => (none, 0)
  | k + 1 => if needs N l k = true then (some k, (L l k).2 + (T.r 0 * P k + gapc T P bs (L l k).1 k)) else L l k
end
section
variable {T : Tar} {P N : Nat → Int} {bs : List Int}
theorem L_lt (l : Nat) : ∀ k q, (L T P N bs l k).1 = some q → q < k
  | 0, q, h => by simp [L] at h
  | k + 1, q, h => by
    unfold L at h
    split at h
    · have e : k = q := Option.some.inj h
      omega
    · have := L_lt l k q h
      omega
theorem hasB_self (q : Nat) : hasB bs q q = false := by
  unfold hasB
  rw [List.any_eq_false]
  intro j _
  simp only [Bool.and_eq_true, decide_eq_true_eq]
  omega
theorem hasB_succ {q k : Nat} (h : q ≤ k) : hasB bs q (k + 1) = (hasB bs q k || brk bs k) := by
  unfold hasB brk
  rw [Bool.eq_iff_iff]
  simp only [List.any_eq_true, Bool.or_eq_true, Bool.and_eq_true, decide_eq_true_eq]
  constructor
  · rintro ⟨j, hj, h1, h2⟩
    by_cases e : j = (k : Int)
    · subst e; exact .inr hj
    · exact .inl ⟨j, hj, h1, by omega⟩
  · rintro (⟨j, hj, h1, h2⟩ | hj)
    · exact ⟨j, hj, h1, by omega⟩
    · exact ⟨_, hj, by omega, by omega⟩
/-- what the machine's total is, by the law's own count -/
def totOf (P : Nat → Int) (bs : List Int) (q : Option Nat) (k : Nat) : Option Int := match q with
  | none => none
  | some q => if hasB bs q k = true then none else some (sumP P (q + 1) (k - (q + 1)))
theorem gapc_ret (q : Option Nat) (k : Nat) : gapc T P bs q k = ret T (totOf P bs q k) := by
  cases q with
  | none => rfl
  | some q =>
    unfold gapc totOf
    dsimp only
    split <;> rfl
theorem M_L (l : Nat) : ∀ k, (M T P N bs l k).2 = (L T P N bs l k).2 ∧ (M T P N bs l k).1 = totOf P bs (L T P N bs l k).1 k
  | 0 => ⟨rfl, rfl⟩
  | k + 1 => by
    obtain ⟨h1, h2⟩ := M_L l k
    have e2 : (endS (brk bs k) (midS T (P k) (needs N l k) (M T P N bs l k))).2 = (midS T (P k) (needs N l k) (M T P N bs l k)).2 := by
      unfold endS; split <;> rfl
    have e1 : (endS (brk bs k) (midS T (P k) (needs N l k) (M T P N bs l k))).1 = if brk bs k = true then none else (midS T (P k) (needs N l k) (M T P N bs l k)).1 := by
      unfold endS; split <;> rfl
    show (endS _ _).2 = _ ∧ (endS _ _).1 = _
    rw [e1, e2]
    unfold midS L
    by_cases hn : needs N l k = true
    · rw [if_pos hn, if_pos hn]
      refine ⟨?_, ?_⟩
      · show (M T P N bs l k).2 + (ret T (M T P N bs l k).1 + T.r 0 * P k) = (L T P N bs l k).2 + (T.r 0 * P k + gapc T P bs (L T P N bs l k).1 k)
        rw [gapc_ret, h1, h2]
        omega
      · show (if brk bs k = true then none else some 0) = totOf P bs (some k) (k + 1)
        unfold totOf
        dsimp only
        rw [hasB_succ (Nat.le_refl k), hasB_self, Nat.sub_self]
        simp only [Bool.false_or]
        rfl
    · rw [if_neg hn, if_neg hn]
      refine ⟨h1, ?_⟩
      show (if brk bs k = true then none else (M T P N bs l k).1.map (· + P k)) = _
      rw [h2]
      cases hq : (L T P N bs l k).1 with
      | none => simp [totOf]
      | some q =>
        have hlt := L_lt l k q hq
        unfold totOf
        dsimp only
        rw [hasB_succ (by omega)]
        have es : k + 1 - (q + 1) = (k - (q + 1)) + 1 := by omega
        have et : q + 1 + (k - (q + 1)) = k := by omega
        rw [es]
        show _ = if (hasB bs q k || brk bs k) = true then none else some (sumP P (q + 1) (k - (q + 1)) + P (q + 1 + (k - (q + 1))))
        rw [et]
        cases hasB bs q k <;> cases brk bs k <;> simp
theorem mid_L (l k : Nat) : (mid T P N bs l k).2 = (L T P N bs l (k + 1)).2 := by
  have h := (M_L (T := T) (P := P) (N := N) (bs := bs) l (k + 1)).1
  rw [← h]
  show _ = (endS _ _).2
  unfold endS
  split <;> rfl
/-- totals are not negative -/
theorem M_nn (hP : ∀ k, 0 ≤ P k) (l : Nat) : ∀ k t, (M T P N bs l k).1 = some t → 0 ≤ t
  | 0, t, h => by cases h
  | k + 1, t, h => by
    have ih := M_nn hP l k
    have hp := hP k
    have e1 : (M T P N bs l (k + 1)).1 = if brk bs k = true then none else (midS T (P k) (needs N l k) (M T P N bs l k)).1 := by
      show (endS _ _).1 = _
      unfold endS; split <;> rfl
    rw [e1] at h
    split at h
    · cases h
    · unfold midS at h
      split at h
      · have e : (0 : Int) = t := Option.some.inj h
        omega
      · cases hm : (M T P N bs l k).1 with
        | none =>
          rw [hm] at h
          cases h
        | some u =>
          rw [hm] at h
          have e : u + P k = t := Option.some.inj h
          have := ih u hm
          omega
theorem mid_ge (o : T.Ok) (hP : ∀ k, 0 ≤ P k) (l k : Nat) : (M T P N bs l k).2 ≤ (mid T P N bs l k).2 := by
  unfold mid midS
  split
  · have h1 := ret_nn o (M_nn (N := N) (bs := bs) (T := T) hP l k)
    have h2 := mulnn (o.r0 (Nat.zero_le _)) (hP k)
    show _ ≤ (M T P N bs l k).2 + (ret T (M T P N bs l k).1 + T.r 0 * P k)
    omega
  · exact Int.le_refl _
theorem L_zero (l : Nat) : ∀ m, (∀ i, i < m → N i ≤ (l : Int)) → (L T P N bs l m).2 = 0
  | 0, _ => rfl
  | k + 1, h => by
    have h1 := h k (Nat.lt_succ_self k)
    unfold L
    rw [if_neg (by unfold needs; rw [decide_eq_true_eq]; omega)]
    exact L_zero l k fun i hi => h i (by omega)
end

/-! ### sums -/
def sumN (f : Nat → Int) : Nat → Int
  | 0 => 0
  | n + 1 => sumN f n + f n
theorem sumN_add (f g : Nat → Int) : ∀ n, sumN (fun i => f i + g i) n = sumN f n + sumN g n
  | 0 => rfl
  | n + 1 => by
    show sumN _ n + (f n + g n) = sumN f n + f n + (sumN g n + g n)
    rw [sumN_add f g n]
    omega
theorem sumN_congr {f g : Nat → Int} : ∀ {n}, (∀ i, i < n → f i = g i) → sumN f n = sumN g n
  | 0, _ => rfl
  | n + 1, h => by
    show sumN f n + f n = sumN g n + g n
    rw [sumN_congr fun i hi => h i (by omega), h n (Nat.lt_succ_self n)]
theorem sumN_le {f g : Nat → Int} : ∀ {n}, (∀ i, i < n → f i ≤ g i) → sumN f n ≤ sumN g n
  | 0, _ => Int.le_refl _
  | n + 1, h => by
    show sumN f n + f n ≤ sumN g n + g n
    have h1 := sumN_le (f := f) (g := g) (n := n) fun i hi => h i (by omega)
    have h2 := h n (Nat.lt_succ_self n)
    omega
theorem sumN_two (f : Nat → Int) : ∀ n, sumN (fun i => 2 * f i) n = 2 * sumN f n
  | 0 => rfl
  | n + 1 => by
    show sumN _ n + 2 * f n = 2 * (sumN f n + f n)
    rw [sumN_two f n]
    omega
theorem sumN_cut {f : Nat → Int} {a : Nat} : ∀ {n}, a ≤ n → (∀ i, a ≤ i → i < n → f i = 0) → sumN f n = sumN f a
  | 0, h, _ => by
    have e : a = 0 := by omega
    rw [e]
  | n + 1, h, hz => by
    by_cases e : a = n + 1
    · rw [e]
    · show sumN f n + f n = sumN f a
      rw [hz n (by omega) (Nat.lt_succ_self n), sumN_cut (n := n) (by omega) fun i h1 h2 => hz i h1 (by omega)]
      omega
theorem sumN_zero {f : Nat → Int} {n : Nat} (h : ∀ i, i < n → f i = 0) : sumN f n = 0 := by
  rw [sumN_cut (a := 0) (Nat.zero_le _) fun i _ hi => h i hi]
  rfl

/-! ### a lane of a pool -/
structure Lane where
  st : Nat
  t : Int
  c : Int
def neededL (T : Tar) (p : Int) (x : Lane) : Lane × Int := (⟨0, 0, 0⟩, T.w x.st + T.r 0 * p)
def idleL (T : Tar) (p : Int) (x : Lane) : Lane × Int :=
  if x.st = T.n then (x, 0)
  else if idSt T (x.t + p) = T.n then (⟨T.n, 0, 0⟩, 0)
  else (⟨idSt T (x.t + p), x.t + p, x.c + T.r (idSt T (x.t + p)) * p⟩, T.r (idSt T (x.t + p)) * p)
def stepL (T : Tar) (p : Int) (need : Bool) (x : Lane) : Lane × Int := if need = true then neededL T p x else idleL T p x
/-- the machine x, the pool's lane y, what the lane has cost in all -/
structure PRel (T : Tar) (x : MS) (y : Lane) (sp : Int) : Prop where
  le : y.st ≤ T.n
  off : y.st = T.n → y = ⟨T.n, 0, 0⟩ ∧ sp ≤ 2 * x.2 ∧ (∀ t, x.1 = some t → 0 ≤ t ∧ idle T t = T.w T.n)
  on : y.st < T.n → x.1 = some y.t ∧ 0 ≤ y.t ∧ y.st = idSt T y.t ∧ y.c ≤ idle T y.t ∧ sp + T.w T.n - y.c ≤ 2 * x.2
section
variable {T : Tar} {x : MS} {y : Lane} {sp p : Int}
theorem PRel.two (o : T.Ok) (h : PRel T x y sp) : sp ≤ 2 * x.2 := by
  by_cases e : y.st = T.n
  · exact (h.off e).2.1
  · obtain ⟨_, _, _, h1, h2⟩ := h.on (by have := h.le; omega)
    have := idle_W o y.t
    omega
theorem PRel.start : PRel T (none, 0) ⟨T.n, 0, 0⟩ 0 :=
  ⟨Nat.le_refl _, fun _ => ⟨rfl, by simp, fun t h => by cases h⟩, fun h => absurd h (Nat.lt_irrefl _)⟩
theorem PRel.brk (o : T.Ok) (h : PRel T x y sp) : PRel T (none, x.2) ⟨T.n, 0, 0⟩ sp :=
  have h2 : sp ≤ 2 * x.2 := h.two o
  ⟨Nat.le_refl _, fun _ => ⟨rfl, h2, fun t h => by cases h⟩, fun h => absurd h (Nat.lt_irrefl _)⟩
theorem idle_off_stays (o : T.Ok) {t d : Int} (hd : 0 ≤ d) (h : idle T t = T.w T.n) : idle T (t + d) = T.w T.n := by
  have h1 := idle_mono o (t := t) hd
  have h2 := idle_W o (t + d)
  omega
theorem PRel.step (o : T.Ok) (hp : 0 ≤ p) (need : Bool) (h : PRel T x y sp) : PRel T (midS T p need x) (stepL T p need y).1 (sp + (stepL T p need y).2) := by
  have hr := mulnn (o.r0 (Nat.zero_le _)) hp
  have n1 := o.n1
  cases need with
  | true =>
    show PRel T (some 0, x.2 + (ret T x.1 + T.r 0 * p)) ⟨0, 0, 0⟩ (sp + (T.w y.st + T.r 0 * p))
    refine ⟨Nat.zero_le _, fun e => absurd e (by show ¬ 0 = T.n; omega), fun _ => ⟨rfl, Int.le_refl _, (idSt_0 o).symm, by rw [idle_0 o]; exact Int.le_refl _, ?_⟩⟩
    show sp + (T.w y.st + T.r 0 * p) + T.w T.n - 0 ≤ 2 * (x.2 + (ret T x.1 + T.r 0 * p))
    by_cases e : y.st = T.n
    · obtain ⟨_, h1, h2⟩ := h.off e
      have hret : ret T x.1 = T.w T.n := by
        cases hx : x.1 with
        | none => rfl
        | some t => exact (h2 t hx).2
      rw [hret, e]
      omega
    · obtain ⟨h1, h2, h3, h4, h5⟩ := h.on (by have := h.le; omega)
      have hret : ret T x.1 = idle T y.t := by rw [h1]; rfl
      have hw := idle_wk o h2
      rw [← h3] at hw
      rw [hret]
      omega
  | false =>
    show PRel T (x.1.map (· + p), x.2) (idleL T p y).1 (sp + (idleL T p y).2)
    unfold idleL
    by_cases e : y.st = T.n
    · rw [if_pos e]
      obtain ⟨h0, h1, h2⟩ := h.off e
      refine ⟨h.le, fun _ => ⟨h0, by show sp + 0 ≤ 2 * x.2; omega, fun t ht => ?_⟩, fun hl => absurd hl (by show ¬ y.st < T.n; omega)⟩
      cases hx : x.1 with
      | none => 
        rw [hx] at ht
        cases ht
      | some u =>
        rw [hx] at ht
        have e : u + p = t := Option.some.inj ht
        obtain ⟨h3, h4⟩ := h2 u hx
        subst e
        exact ⟨by omega, idle_off_stays o hp h4⟩
    · rw [if_neg e]
      obtain ⟨h1, h2, h3, h4, h5⟩ := h.on (by have := h.le; omega)
      have hW := idle_W o y.t
      by_cases e2 : idSt T (y.t + p) = T.n
      · rw [if_pos e2]
        refine ⟨Nat.le_refl _, fun _ => ⟨rfl, by show sp + 0 ≤ 2 * x.2; omega, fun t ht => ?_⟩, fun hl => absurd hl (Nat.lt_irrefl _)⟩
        have ht' : some (y.t + p) = some t := by
          have : (x.1.map (· + p)) = some t := ht
          rw [h1] at this
          exact this
        have e3 : y.t + p = t := Option.some.inj ht'
        subst e3
        refine ⟨by omega, ?_⟩
        rw [idle_eq, e2, o.rn]
        omega
      · rw [if_neg e2]
        have hle := idSt_le T (y.t + p)
        have hg := idle_grow (T := T) y.t p
        refine ⟨hle, fun e3 => absurd e3 e2, fun _ => ⟨?_, by show 0 ≤ y.t + p; omega, rfl, ?_, ?_⟩⟩
        · show x.1.map (· + p) = some (y.t + p)
          rw [h1]
          rfl
        · show y.c + T.r (idSt T (y.t + p)) * p ≤ idle T (y.t + p)
          omega
        · show sp + T.r (idSt T (y.t + p)) * p + T.w T.n - (y.c + T.r (idSt T (y.t + p)) * p) ≤ 2 * x.2
          omega
end

/-! ### the works of a lane -/
def stepc (T : Tar) (i j : Nat) : Option Int := if i ≤ j then some 0 else if j = 0 then some (T.w i) else none
/-- what may lead to the state j -/
def Cand (T : Tar) (ws : Nat → Option Int) (p : Int) (j : Nat) (y : Int) : Prop := ∃ i v s, i ≤ T.n ∧ ws i = some v ∧ stepc T i j = some s ∧ y = v + s + T.r j * p
/-- o is the least of the C's, or none -/
def LeastOf (C : Int → Prop) : Option Int → Prop
  | none => ∀ y, ¬ C y
  | some m => C m ∧ ∀ y, C y → m ≤ y
def WStep (T : Tar) (ws : Nat → Option Int) (p : Int) (need : Bool) (ws' : Nat → Option Int) : Prop :=
  ∀ j, j ≤ T.n → if j = 0 ∨ need = false then LeastOf (Cand T ws p j) (ws' j) else ws' j = none
def Has (T : Tar) (ws : Nat → Option Int) (y : Int) : Prop := ∃ j, j ≤ T.n ∧ ws j = some y
/-- after a break -/
def WBrk (T : Tar) (v : Int) (ws' : Nat → Option Int) : Prop := ∀ j, j ≤ T.n → ws' j = if j = T.n then some v else none
inductive WRel (T : Tar) (ws : Nat → Option Int) : MS → Prop
  | off (c : Int) (h1 : ws T.n = some c) (h2 : ∀ j v, j < T.n → ws j = some v → c + T.w T.n ≤ v) : WRel T ws (none, c)
  | on (c t : Int) (ht : 0 ≤ t) (lo : ∀ j v, j ≤ T.n → ws j = some v → c + idle T t ≤ v ∨ c + T.r j * t ≤ v)
      (up0 : ∃ v, ws 0 = some v ∧ v ≤ c + T.r 0 * t) (up : t = 0 ∨ ∀ j, j ≤ T.n → ∃ v, ws j = some v ∧ v ≤ c + T.r j * t) : WRel T ws (some t, c)
section
variable {T : Tar} {ws ws' : Nat → Option Int} {x : MS} {p : Int}
theorem WRel.start (h : WBrk T 0 ws) : WRel T ws (none, 0) := by
  refine .off 0 ?_ fun j v hj e => ?_
  · rw [h T.n (Nat.le_refl _), if_pos rfl]
  · rw [h j (by omega), if_neg (by omega)] at e
    cases e
theorem LeastOf.get {C : Int → Prop} {o : Option Int} {y : Int} (h : LeastOf C o) (hy : C y) : ∃ m, o = some m ∧ C m ∧ m ≤ y := by
  cases o with
  | none => exact absurd hy (h y)
  | some m => exact ⟨m, rfl, h.1, h.2 y hy⟩
/-- the least work is what looking back has paid -/
theorem WRel.least (o : T.Ok) (h : WRel T ws x) : Has T ws x.2 ∧ ∀ y, Has T ws y → x.2 ≤ y := by
  cases h with
  | off c h1 h2 =>
    refine ⟨⟨T.n, Nat.le_refl _, h1⟩, fun y ⟨j, hj, e⟩ => ?_⟩
    by_cases ej : j = T.n
    · subst ej
      rw [h1] at e
      exact Int.le_of_eq (Option.some.inj e)
    · have := h2 j y (by omega) e
      have := o.w0' (Nat.le_refl T.n)
      show c ≤ y
      omega
  | on c t ht lo up0 up =>
    have ge : ∀ y, Has T ws y → c ≤ y := fun y ⟨j, hj, e⟩ => by
      have h1 := idle_nn o ht
      have h2 := mulnn (o.r0 hj) ht
      rcases lo j y hj e with h | h <;> omega
    have le : ∃ v, Has T ws v ∧ v ≤ c := by
      rcases up with e | up
      · obtain ⟨v, h1, h2⟩ := up0
        refine ⟨v, ⟨0, Nat.zero_le _, h1⟩, ?_⟩
        rw [e] at h2
        simp at h2
        exact h2
      · obtain ⟨v, h1, h2⟩ := up T.n (Nat.le_refl _)
        refine ⟨v, ⟨T.n, Nat.le_refl _, h1⟩, ?_⟩
        rw [o.rn] at h2
        omega
    obtain ⟨v, h1, h2⟩ := le
    have e : v = c := Int.le_antisymm h2 (ge v h1)
    subst e
    exact ⟨h1, ge⟩
theorem WRel.brk {v : Int} (hv : v = x.2) (hb : WBrk T v ws') : WRel T ws' (none, x.2) := by
  subst hv
  refine .off _ ?_ fun j v hj e => ?_
  · rw [hb T.n (Nat.le_refl _), if_pos rfl]
  · rw [hb j (by omega), if_neg (by omega)] at e
    cases e
theorem stepc_0 (o : T.Ok) (i : Nat) : stepc T i 0 = some (T.w i) := by
  unfold stepc
  split
  · have e : i = 0 := by omega
    rw [e, o.w0]
  · rw [if_pos rfl]
theorem stepc_le {i j : Nat} (h : i ≤ j) : stepc T i j = some 0 := by unfold stepc; rw [if_pos h]
theorem stepc_pos {i j : Nat} {s : Int} (hj : j ≠ 0) (h : stepc T i j = some s) : i ≤ j ∧ s = 0 := by
  unfold stepc at h
  rw [if_neg hj] at h
  split at h
  · rename_i h1
    exact ⟨h1, (Option.some.inj h).symm⟩
  · cases h
/-- coming back hot -/
theorem WRel.home (o : T.Ok) (h : WRel T ws x) : (∃ y, Cand T ws p 0 y ∧ y ≤ x.2 + (ret T x.1 + T.r 0 * p)) ∧ ∀ y, Cand T ws p 0 y → x.2 + (ret T x.1 + T.r 0 * p) ≤ y := by
  cases h with
  | off c h1 h2 =>
    refine ⟨⟨c + T.w T.n + T.r 0 * p, ⟨T.n, c, _, Nat.le_refl _, h1, stepc_0 o _, rfl⟩, ?_⟩, fun y ⟨i, v, s, hi, e, es, ey⟩ => ?_⟩
    · show _ ≤ c + (T.w T.n + T.r 0 * p)
      omega
    · rw [stepc_0 o] at es
      have es' := Option.some.inj es
      show c + (T.w T.n + T.r 0 * p) ≤ y
      by_cases ei : i = T.n
      · subst ei
        rw [h1] at e
        have := Option.some.inj e
        omega
      · have h3 := h2 i v (by omega) e
        have h4 := o.w0' hi
        omega
  | on c t ht lo up0 up =>
    refine ⟨?_, fun y ⟨i, v, s, hi, e, es, ey⟩ => ?_⟩
    · rcases up with e0 | up
      · obtain ⟨v, h1, h2⟩ := up0
        refine ⟨_, ⟨0, v, _, Nat.zero_le _, h1, stepc_0 o _, rfl⟩, ?_⟩
        show _ ≤ c + (idle T t + T.r 0 * p)
        rw [e0] at h2 ⊢
        rw [idle_0 o, o.w0]
        simp at h2
        omega
      · obtain ⟨v, h1, h2⟩ := up (idSt T t) (idSt_le T t)
        refine ⟨_, ⟨idSt T t, v, _, idSt_le T t, h1, stepc_0 o _, rfl⟩, ?_⟩
        show _ ≤ c + (idle T t + T.r 0 * p)
        rw [idle_eq]
        omega
    · rw [stepc_0 o] at es
      have es' := Option.some.inj es
      show c + (idle T t + T.r 0 * p) ≤ y
      have h3 := o.w0' hi
      have h4 := idle_le (T := T) t hi
      rcases lo i v hi e with h | h <;> omega
theorem WRel.step (o : T.Ok) (hp : 0 ≤ p) (need : Bool) (h : WRel T ws x) (hs : WStep T ws p need ws') : WRel T ws' (midS T p need x) := by
  cases need with
  | true =>
    show WRel T ws' (some 0, x.2 + (ret T x.1 + T.r 0 * p))
    obtain ⟨⟨y, hy, hle⟩, hge⟩ := h.home (p := p) o
    have h0 := hs 0 (Nat.zero_le _)
    rw [if_pos (.inl rfl)] at h0
    obtain ⟨m, e, hm, hmy⟩ := h0.get hy
    have hm' := hge m hm
    refine .on _ 0 (Int.le_refl _) (fun j v hj e' => ?_) ⟨m, e, ?_⟩ (.inl rfl)
    · by_cases ej : j = 0
      · subst ej
        rw [e] at e'
        have := Option.some.inj e'
        refine .inr ?_
        rw [Int.mul_zero]
        omega
      · have h1 := hs j hj
        rw [if_neg (by simp [ej])] at h1
        rw [h1] at e'
        cases e'
    · rw [Int.mul_zero]
      omega
  | false =>
    show WRel T ws' (x.1.map (· + p), x.2)
    have hs' : ∀ j, j ≤ T.n → LeastOf (Cand T ws p j) (ws' j) := fun j hj => by
      have h1 := hs j hj
      rw [if_pos (.inr rfl)] at h1
      exact h1
    have hge := (h.home (p := p) o).2
    cases h with
    | off c h1 h2 =>
      have hW := o.w0' (Nat.le_refl T.n)
      have hr := mulnn (o.r0 (Nat.zero_le _)) hp
      have hnz : T.n ≠ 0 := by have := o.n1; omega
      refine .off c ?_ fun j v hj e => ?_
      · obtain ⟨m, e, ⟨i, v, s, hi, e1, e2, e3⟩, hle⟩ := (hs' T.n (Nat.le_refl _)).get (y := c) ⟨T.n, c, 0, Nat.le_refl _, h1, stepc_le (Nat.le_refl _), by rw [o.rn]; omega⟩
        rw [e]
        have hs0 := (stepc_pos hnz e2).2
        rw [o.rn] at e3
        by_cases ei : i = T.n
        · subst ei
          rw [h1] at e1
          have := Option.some.inj e1
          have e4 : m = c := by omega
          rw [e4]
        · have := h2 i v (by omega) e1
          have e4 : m = c := by omega
          rw [e4]
      · have hl := hs' j (by omega)
        rw [e] at hl
        have hc := hl.1
        by_cases ej : j = 0
        · subst ej
          have := hge v hc
          have this' : c + (T.w T.n + T.r 0 * p) ≤ v := this
          omega
        · obtain ⟨i, u, s, hi, e1, e2, e3⟩ := hc
          obtain ⟨h3, h4⟩ := stepc_pos ej e2
          have h5 := h2 i u (by omega) e1
          have h6 := mulnn (o.r0 (show j ≤ T.n by omega)) hp
          omega
    | on c t ht lo up0 up =>
      show WRel T ws' (some (t + p), c)
      have upAll : ∀ j, j ≤ T.n → ∃ v, ws' j = some v ∧ v ≤ c + T.r j * (t + p) := fun j hj => by
        rw [Int.mul_add]
        rcases up with e0 | up
        · obtain ⟨v, h1, h2⟩ := up0
          obtain ⟨m, e, _, hle⟩ := (hs' j hj).get (y := v + 0 + T.r j * p) ⟨0, v, 0, Nat.zero_le _, h1, stepc_le (Nat.zero_le _), rfl⟩
          refine ⟨m, e, ?_⟩
          rw [e0] at h2 ⊢
          rw [Int.mul_zero] at h2 ⊢
          omega
        · obtain ⟨v, h1, h2⟩ := up j hj
          obtain ⟨m, e, _, hle⟩ := (hs' j hj).get (y := v + 0 + T.r j * p) ⟨j, v, 0, hj, h1, stepc_le (Nat.le_refl _), rfl⟩
          exact ⟨m, e, by omega⟩
      refine .on c (t + p) (by omega) (fun j v hj e => ?_) (upAll 0 (Nat.zero_le _)) (.inr upAll)
      have hl := hs' j hj
      rw [e] at hl
      have hc := hl.1
      by_cases ej : j = 0
      · subst ej
        have h1 : c + (idle T t + T.r 0 * p) ≤ v := hge v hc
        have h2 := idle_r0 o (t := t) hp
        exact .inl (by omega)
      · obtain ⟨i, u, s, hi, e1, e2, e3⟩ := hc
        obtain ⟨h3, h4⟩ := stepc_pos ej e2
        rw [Int.mul_add]
        rcases lo i u hi e1 with h | h
        · -- the path has come home once at least
          by_cases hk : T.r (idSt T t) ≤ T.r j
          · have h5 := idle_step (T := T) (t := t) (d := p)
            have h6 := Int.mul_le_mul_of_nonneg_right hk hp
            exact .inl (by omega)
          · have h5 := Int.mul_le_mul_of_nonneg_right (show T.r j ≤ T.r (idSt T t) by omega) ht
            have h6 := o.w0' (idSt_le T t)
            rw [idle_eq] at h
            exact .inr (by omega)
        · have h5 := Int.mul_le_mul_of_nonneg_right (o.rm i j h3 hj) ht
          exact .inr (by omega)
end
end K50


set_option Elab.async false
set_option maxRecDepth 100000
/-! The text by places, the data in the heap, the facts about the defs. -/
namespace K50
open PySem L2
def top (i : Nat) : Stmt := PySem.Challenge.pw_ebbkeep_k50_whole_looking_back.main.body.getD i (.Pass ⟨0, 0, 0, 0⟩)
abbrev sOff : Stmt := top 2
abbrev sRate : Stmt := top 3
abbrev sWake : Stmt := top 4
abbrev sStc : Stmt := top 5
abbrev sIdS : Stmt := top 6
abbrev sIdC : Stmt := top 7
abbrev sStp : Stmt := top 8
abbrev sNL : Stmt := top 11
abbrev sIL : Stmt := top 12
abbrev sML : Stmt := top 13
abbrev sPI : Stmt := inClass (top 15) 0
abbrev sPS : Stmt := inClass (top 15) 1
abbrev sPE : Stmt := inClass (top 15) 3
abbrev sPSt : Stmt := inClass (top 15) 4
abbrev sPSp : Stmt := inClass (top 15) 5
abbrev sLO : Stmt := top 17
abbrev sNW : Stmt := top 18
abbrev sWI : Stmt := inClass (top 19) 0
abbrev sWS : Stmt := inClass (top 19) 1
abbrev sWE : Stmt := inClass (top 19) 2
abbrev sWL : Stmt := inClass (top 19) 3
abbrev sBI : Stmt := inClass (top 20) 0
abbrev sBR : Stmt := inClass (top 20) 1
abbrev sBS : Stmt := inClass (top 20) 2
abbrev sBE : Stmt := inClass (top 20) 3
abbrev sBC : Stmt := inClass (top 20) 4
abbrev sMix : Stmt := top 22
abbrev sStart : Stmt := top 23
abbrev sDraw : Stmt := top 24
abbrev sSame : Stmt := top 25
abbrev sTar : Stmt := top 26
abbrev sLR : Stmt := top 27
abbrev sLI : Stmt := top 28
abbrev sPrice : Stmt := top 29
abbrev sRun : Stmt := top 30
abbrev sBest : Stmt := top 31
abbrev sLaw : Stmt := top 32
/-- a def of the top as it stands -/
structure DefAt (K : PySem.W.Frag) (mg : Str → Option Value) (x : Str) (st : Stmt) (ps : List Str) (f : Addr) (fd : FuncData) : Prop where
  F : Fun K x x st f fd
  m : mg x = some (.ref f)
  b : Binds K fd ps []
/-- a method as it stands -/
structure MethAt (K : PySem.W.Frag) (C : Addr) (x qual : Str) (st : Stmt) (ps : List Str) (f : Addr) (fd : FuncData) : Prop where
  F : Fun K x qual st f fd
  m : Meth K C x f
  b : Binds K fd ps []
/-- .. and what it promises -/
structure Has1 (P : Program) (w : World) (K : PySem.W.Frag) (mg : Str → Option Value) (base : Heap) (x : Str) (k : Nat) (ps : List Str) (sp : Sp) : Prop where
  ok : ∃ f fd, mg x = some (.ref f) ∧ PySem.W.keepIn K (.ref f) = true ∧ Binds K fd ps [] ∧ FnOk P w K mg base CX0 k f fd ps sp
/-! ### lists of ints by a function -/
def rl (m : Nat) (f : Nat → Int) : List V := (List.range m).map fun i => V.int (f i)
theorem rl_len (m : Nat) (f : Nat → Int) : (rl m f).length = m := by unfold rl; rw [List.length_map, List.length_range]
theorem rl_get {m i : Nat} {f : Nat → Int} (h : i < m) : (rl m f)[i]? = some (.int (f i)) := by
  unfold rl
  rw [List.getElem?_map, List.getElem?_range h]
  rfl
theorem rl_succ (m : Nat) (f : Nat → Int) : rl (m + 1) f = rl m f ++ [.int (f m)] := by
  unfold rl
  rw [List.range_succ, List.map_append]
  rfl
/-- a tariff stands at a -/
def TarAt (H : Hp) (a : Addr) (T : Tar) : Prop := ∃ ra wa, H a = some (.tup [.ref ra, .ref wa]) ∧ H ra = some (.tup (rl T.n T.r)) ∧ H wa = some (.tup (rl (T.n + 1) T.w))
theorem TarAt.same {H H' : Hp} {a : Addr} {T : Tar} (h : TarAt H a T) (s : ∀ b xs, H b = some (.tup xs) → H' b = some (.tup xs)) : TarAt H' a T := by
  obtain ⟨ra, wa, h1, h2, h3⟩ := h
  exact ⟨ra, wa, s _ _ h1, s _ _ h2, s _ _ h3⟩
theorem TarAt.upd {H : Hp} {a p : Addr} {T : Tar} {o : HO} (h : TarAt H a T) (hp : H p = none) : TarAt (upd H p o) a T := h.same fun b xs e => by rw [upd_ne (ne_of_none e hp)]; exact e
end K50


set_option Elab.async false
set_option maxRecDepth 100000
set_option maxHeartbeats 4000000
namespace K50
open PySem L2
section
variable {P : Program} {w : World} {K : PySem.W.Frag} {mg : Str → Option Value} {base : Heap}
/-! ### off, rate, wake, state_cost -/
def spOff : Sp := fun vs H Q _ => ∃ a T, vs = [.ref a] ∧ TarAt H a T ∧ Q (.int (T.n : Int)) H
theorem scOff : FnScope ["tariff"] ["tariff"] (defScope sOff) := ⟨rfl, rfl, rfl, by decide +kernel, rfl, by decide +kernel, by decide +kernel⟩
theorem ok_off {f : Addr} {fd : FuncData} (F : Fun K "off" "off" sOff f fd) (zlen : mg "len" = none) : FnOk P w K mg base CX0 1 f fd ["tariff"] spOff := by
  refine F.ok scOff (fun vs H Q E h => ?_) (fun cdv A outer s H vs Q E hr h => ?_)
  · obtain ⟨a, T, rfl, _⟩ := h
    rfl
  · obtain ⟨a, T, rfl, ⟨ra, wa, h1, h2, h3⟩, q⟩ := h
    refine ⟨_, pss_one (ps_ret (pe_callB call_len_seq (by rfl) zlen PySem.boot_len (pa_cons (pe_ix ix_tup (pv 0) pe_int (fun _ _ => rfl)) pa_nil))), ?_⟩
    refine ⟨_, rfl, a, _, _, _, rfl, rfl, SqT.of h1, atI_nat (j := 0) rfl, ra, _, rfl, .inr (SqT.of h2), ?_⟩
    rw [rl_len]
    exact q
def spRate : Sp := fun vs H Q _ => ∃ a T, ∃ j : Nat, vs = [.ref a, .int (j : Int)] ∧ TarAt H a T ∧ T.Ok ∧ j ≤ T.n ∧ Q (.int (T.r j)) H
theorem scRate : FnScope ["tariff", "state"] ["tariff", "state"] (defScope sRate) := ⟨rfl, rfl, rfl, by decide +kernel, rfl, by decide +kernel, by decide +kernel⟩
theorem ok_rate {f : Addr} {fd : FuncData} (F : Fun K "rate" "rate" sRate f fd) (hOff : Has1 P w K mg base "off" 1 ["tariff"] spOff) : FnOk P w K mg base CX0 2 f fd ["tariff", "state"] spRate := by
  obtain ⟨fO, fdO, mO, kO, bO, GO⟩ := hOff.ok
  refine F.ok scRate (fun vs H Q E h => ?_) (fun cdv A outer s H vs Q E hr h => ?_)
  · obtain ⟨a, T, j, rfl, _⟩ := h
    rfl
  · obtain ⟨a, T, j, rfl, hT, o, hj, q⟩ := h
    obtain ⟨ra, wa, h1, h2, h3⟩ := id hT
    refine ⟨_, pss_one (ps_ret (pe_ifExp (pt_cmpR op_eq (pv 1) (pe_call GO hr (by rfl) mO kO bO .nil pass0 (pa_cons (pv 0) pa_nil)) (nomark _)) pe_int
      (pe_ix ix_tup (pe_ix ix_tup (pv 0) pe_int (fun _ _ => rfl)) (pv 1) (fun _ _ => rfl)))), ?_⟩
    refine ⟨_, rfl, _, rfl, a, T, rfl, hT, rfl, _, rfl, ?_⟩
    by_cases e : j = T.n
    · subst e
      rw [decide_eq_true rfl]
      refine iteT ?_
      rw [o.rn] at q
      exact q
    · have ne : decide (V.int (j : Int) = V.int (T.n : Int)) = false := decide_eq_false fun z => e (by injection z with z; omega)
      rw [ne]
      refine iteF ?_
      exact ⟨_, rfl, a, _, _, _, rfl, rfl, SqT.of h1, atI_nat (j := 0) rfl, _, rfl, ra, _, _, _, rfl, rfl, SqT.of h2, atI_nat (rl_get (by omega)), q⟩
def spWake : Sp := fun vs H Q _ => ∃ a T, ∃ j : Nat, vs = [.ref a, .int (j : Int)] ∧ TarAt H a T ∧ j ≤ T.n ∧ Q (.int (T.w j)) H
theorem scWake : FnScope ["tariff", "state"] ["tariff", "state"] (defScope sWake) := ⟨rfl, rfl, rfl, by decide +kernel, rfl, by decide +kernel, by decide +kernel⟩
theorem ok_wake {f : Addr} {fd : FuncData} (F : Fun K "wake" "wake" sWake f fd) : FnOk P w K mg base CX0 1 f fd ["tariff", "state"] spWake := by
  refine F.ok scWake (fun vs H Q E h => ?_) (fun cdv A outer s H vs Q E hr h => ?_)
  · obtain ⟨a, T, j, rfl, _⟩ := h
    rfl
  · obtain ⟨a, T, j, rfl, ⟨ra, wa, h1, h2, h3⟩, hj, q⟩ := h
    refine ⟨_, pss_one (ps_ret (pe_ix ix_tup (pe_ix ix_tup (pv 0) pe_int (fun _ _ => rfl)) (pv 1) (fun _ _ => rfl))), ?_⟩
    exact ⟨_, rfl, a, _, _, _, rfl, rfl, SqT.of h1, atI_nat (j := 1) rfl, _, rfl, wa, _, _, _, rfl, rfl, SqT.of h3, atI_nat (rl_get (by omega)), q⟩
def spStc : Sp := fun vs H Q _ => ∃ a T, ∃ (j : Nat) (t : Int), vs = [.ref a, .int (j : Int), .int t] ∧ TarAt H a T ∧ T.Ok ∧ j ≤ T.n ∧ Q (.int (stc T j t)) H
theorem scStc : FnScope ["tariff", "state", "total"] ["tariff", "state", "total"] (defScope sStc) := ⟨rfl, rfl, rfl, by decide +kernel, rfl, by decide +kernel, by decide +kernel⟩
theorem rate_in {T : Tar} (o : T.Ok) {j : Nat} (h : j ≤ T.n) (x : Int) : CMul (T.r j) x := by
  have h1 := o.r0 h
  have h2 := o.rb j h
  exact .inl ⟨by omega, by omega⟩
theorem ok_stc {f : Addr} {fd : FuncData} (F : Fun K "state_cost" "state_cost" sStc f fd) (hRate : Has1 P w K mg base "rate" 2 ["tariff", "state"] spRate) (hWake : Has1 P w K mg base "wake" 1 ["tariff", "state"] spWake) :
    FnOk P w K mg base CX0 3 f fd ["tariff", "state", "total"] spStc := by
  obtain ⟨fR, fdR, mR, kR, bR, GR⟩ := hRate.ok
  obtain ⟨fW, fdW, mW, kW, bW, GW⟩ := hWake.ok
  refine F.ok scStc (fun vs H Q E h => ?_) (fun cdv A outer s H vs Q E hr h => ?_)
  · obtain ⟨a, T, j, t, rfl, _⟩ := h
    rfl
  · obtain ⟨a, T, j, t, rfl, hT, o, hj, q⟩ := h
    refine ⟨_, pss_one (ps_ret (pe_op op_add (pe_op op_mul (pe_call GR hr (by rfl) mR kR bR .nil pass0 (pa_cons (pv 0) (pa_cons (pv 1) pa_nil))) (pv 2))
      (pe_call GW (hr.mono (by decide)) (by rfl) mW kW bW .nil pass0 (pa_cons (pv 0) (pa_cons (pv 1) pa_nil))))), ?_⟩
    exact ⟨_, rfl, _, rfl, a, T, j, rfl, hT, o, hj, _, rfl, _, _, rfl, rfl, rate_in o hj _, _, rfl, _, rfl, a, T, j, rfl, hT, hj, _, _, rfl, rfl, q⟩
end
end K50


set_option Elab.async false
set_option maxRecDepth 100000
set_option maxHeartbeats 4000000
namespace K50
open PySem L2
section
variable {P : Program} {w : World} {K : PySem.W.Frag} {mg : Str → Option Value} {base : Heap}
/-! ### idle_state, idle_cost, step_cost -/
def spIdS : Sp := fun vs H Q _ => ∃ a T, ∃ t : Int, vs = [.ref a, .int t] ∧ TarAt H a T ∧ T.Ok ∧ Q (.int (idSt T t : Int)) H
theorem scIdS : FnScope ["tariff", "total", "best", "state"] ["tariff", "total"] (defScope sIdS) := ⟨rfl, rfl, rfl, by decide +kernel, rfl, by decide +kernel, by decide +kernel⟩
theorem ok_idS {f : Addr} {fd : FuncData} (F : Fun K "idle_state" "idle_state" sIdS f fd) (hOff : Has1 P w K mg base "off" 1 ["tariff"] spOff) (hStc : Has1 P w K mg base "state_cost" 3 ["tariff", "state", "total"] spStc) (zr : mg "range" = none) :
    FnOk P w K mg base CX0 4 f fd ["tariff", "total"] spIdS := by
  obtain ⟨fO, fdO, mO, kO, bO, GO⟩ := hOff.ok
  obtain ⟨fS, fdS, mS, kS, bS, GS⟩ := hStc.ok
  refine F.ok scIdS (fun vs H Q E h => ?_) (fun cdv A outer s H vs Q E hr h => ?_)
  · obtain ⟨a, T, t, rfl, _⟩ := h
    rfl
  · obtain ⟨a, T, t, rfl, hT, o, q⟩ := h
    have n4 := o.n4
    refine ⟨_, pss_cons (ps_set (i := 2) scIdS.nd rfl (Or.inl rfl) pe_int)
      (pss_cons (ps_for PassesOwn.never rfl (pi_range2 (by rfl) zr (pa_cons pe_int (pa_cons (pe_op op_add (pe_call GO (hr.mono (by decide)) (by rfl) mO kO bO .nil pass0 (pa_cons (pv 0) pa_nil)) pe_int) pa_nil))) (pg_name (i := 3) scIdS.nd rfl (Or.inl rfl))
        (pss_one (ps_if (pt_cmpR op_lt (pe_call GS hr (by rfl) mS kS bS .nil pass0 (pa_cons (pv 0) (pa_cons (pv 3) (pa_cons (pv 1) pa_nil)))) (pe_call GS hr (by rfl) mS kS bS .nil pass0 (pa_cons (pv 0) (pa_cons (pv 2) (pa_cons (pv 1) pa_nil)))) (nomark _))
          (pss_one (ps_set (i := 2) scIdS.nd rfl (Or.inl rfl) (pv 3))) pss_nil)))
      (pss_one (ps_ret (pv 2)))), ?_⟩
    refine ⟨_, rfl, a, T, rfl, hT, _, _, rfl, rfl, 1, _, rfl, ⟨by decide, by decide, by omega, by omega⟩, ?_⟩
    have en : ((T.n : Int) + 1 - 1).toNat = T.n := by omega
    refine for_range (lo := 1) (n := _) (fun i σ H' => H' = H ∧ ∃ v : Option V, σ = [some (.ref a), some (.int t), some (.int (idS T t i : Int)), v]) ⟨rfl, none, rfl⟩ ?_ ?_
    · rintro i σ H' hi ⟨rfl, v, rfl⟩
      rw [en] at hi
      have e1 : (1 : Int) + (i : Int) = ((i + 1 : Nat) : Int) := by omega
      rw [e1]
      have hle := idS_le T t i
      refine ⟨_, rfl, _, rfl, _, rfl, a, T, i + 1, t, rfl, hT, o, by omega, _, rfl, _, rfl, _, rfl, a, T, idS T t i, t, rfl, hT, o, by omega, _, _, rfl, rfl, _, rfl, ?_⟩
      by_cases hc : stc T (i + 1) t < stc T (idS T t i) t
      · rw [decide_eq_true hc]
        have es : idS T t (i + 1) = i + 1 := by unfold idS; rw [if_pos hc]
        refine iteT ⟨_, rfl, rfl, some (.int ((i + 1 : Nat) : Int)), ?_⟩
        rw [es]
        rfl
      · rw [decide_eq_false hc]
        have es : idS T t (i + 1) = idS T t i := by
          conv => lhs; unfold idS
          rw [if_neg hc]
        refine iteF ⟨rfl, some (.int ((i + 1 : Nat) : Int)), ?_⟩
        rw [es]
        rfl
    · rintro σ H' ⟨rfl, v, rfl⟩
      rw [en]
      exact ⟨_, rfl, q⟩
def spIdC : Sp := fun vs H Q _ => ∃ a T, ∃ t : Int, vs = [.ref a, .int t] ∧ TarAt H a T ∧ T.Ok ∧ Q (.int (idle T t)) H
theorem scIdC : FnScope ["tariff", "total"] ["tariff", "total"] (defScope sIdC) := ⟨rfl, rfl, rfl, by decide +kernel, rfl, by decide +kernel, by decide +kernel⟩
theorem ok_idC {f : Addr} {fd : FuncData} (F : Fun K "idle_cost" "idle_cost" sIdC f fd) (hIdS : Has1 P w K mg base "idle_state" 4 ["tariff", "total"] spIdS) (hStc : Has1 P w K mg base "state_cost" 3 ["tariff", "state", "total"] spStc) :
    FnOk P w K mg base CX0 5 f fd ["tariff", "total"] spIdC := by
  obtain ⟨fO, fdO, mO, kO, bO, GO⟩ := hIdS.ok
  obtain ⟨fS, fdS, mS, kS, bS, GS⟩ := hStc.ok
  refine F.ok scIdC (fun vs H Q E h => ?_) (fun cdv A outer s H vs Q E hr h => ?_)
  · obtain ⟨a, T, t, rfl, _⟩ := h
    rfl
  · obtain ⟨a, T, t, rfl, hT, o, q⟩ := h
    refine ⟨_, pss_one (ps_ret (pe_call GS (hr.mono (by decide)) (by rfl) mS kS bS .nil pass0 (pa_cons (pv 0) (pa_cons (pe_call GO hr (by rfl) mO kO bO .nil pass0 (pa_cons (pv 0) (pa_cons (pv 1) pa_nil))) (pa_cons (pv 1) pa_nil))))), ?_⟩
    exact ⟨_, rfl, _, rfl, _, rfl, a, T, t, rfl, hT, o, _, rfl, a, T, idSt T t, t, rfl, hT, o, idSt_le T t, q⟩
/-- None, or an int -/
def oV : Option Int → V
  | none => .non
  | some i => .int i
def spStp : Sp := fun vs H Q _ => ∃ a T, ∃ i j : Nat, vs = [.ref a, .int (i : Int), .int (j : Int)] ∧ TarAt H a T ∧ i ≤ T.n ∧ Q (oV (stepc T i j)) H
theorem scStp : FnScope ["tariff", "before", "after"] ["tariff", "before", "after"] (defScope sStp) := ⟨rfl, rfl, rfl, by decide +kernel, rfl, by decide +kernel, by decide +kernel⟩
theorem ok_stp {f : Addr} {fd : FuncData} (F : Fun K "step_cost" "step_cost" sStp f fd) (hWake : Has1 P w K mg base "wake" 1 ["tariff", "state"] spWake) : FnOk P w K mg base CX0 2 f fd ["tariff", "before", "after"] spStp := by
  obtain ⟨fW, fdW, mW, kW, bW, GW⟩ := hWake.ok
  refine F.ok scStp (fun vs H Q E h => ?_) (fun cdv A outer s H vs Q E hr h => ?_)
  · obtain ⟨a, T, i, j, rfl, _⟩ := h
    rfl
  · obtain ⟨a, T, i, j, rfl, hT, hi, q⟩ := h
    refine ⟨_, pss_cons (ps_if (pt_cmpR op_ge (pv 2) (pv 1) (nomark _)) (pss_one (ps_ret pe_int)) pss_nil)
      (pss_one (ps_ret (pe_ifExp (pt_cmpR op_eq (pv 2) pe_int (nomark _)) (pe_call GW hr (by rfl) mW kW bW .nil pass0 (pa_cons (pv 0) (pa_cons (pv 1) pa_nil))) pe_non))), ?_⟩
    refine ⟨_, rfl, _, rfl, _, _, rfl, rfl, _, rfl, ?_⟩
    by_cases h1 : i ≤ j
    · rw [decide_eq_true (show (i : Int) ≤ (j : Int) by omega)]
      refine iteT ?_
      rw [stepc_le h1] at q
      exact q
    · rw [decide_eq_false (show ¬ (i : Int) ≤ (j : Int) by omega)]
      refine iteF ?_
      refine ⟨_, rfl, rfl, _, rfl, ?_⟩
      by_cases h2 : j = 0
      · subst h2
        refine iteT ?_
        refine ⟨_, rfl, _, rfl, a, T, i, rfl, hT, hi, ?_⟩
        have e : stepc T i 0 = some (T.w i) := by
          unfold stepc
          rw [if_neg h1, if_pos rfl]
        rw [e] at q
        exact q
      · have ne : decide (V.int (j : Int) = V.int 0) = false := decide_eq_false fun z => h2 (by injection z with z; omega)
        rw [ne]
        refine iteF ?_
        have e : stepc T i j = none := by
          unfold stepc
          rw [if_neg h1, if_neg h2]
        rw [e] at q
        exact q
end
end K50


set_option Elab.async false
set_option maxRecDepth 100000
set_option maxHeartbeats 4000000
/-! Rules that the layer lacks: a target o.f among several; min(xs, default=d), max(xs, default=d) of a list of ints. -/
namespace K50
open PySem PySem.Spec PyProof.Rows L2
/-- o.f as a target -/
def gFld (K : PySem.W.Frag) (to : TE) (f : Str) : TG := fun v σ H Q => to σ H fun x H1 => ∃ a C dx fs, x = .ref a ∧ H1 a = some (.ins C dx fs) ∧ Cls K C ∧ NoAttr K C f ∧ fs.length < 1000 ∧ Q σ (upd H1 a (.ins C dx (putF f v fs)))
section
variable {X : Cx}
theorem pg_fld {o : Expr} {to : TE} {f : Str} {pos : Pos} (ho : PE X o to) : PG X (.Attribute o f pos) (gFld X.K to f) := by
  refine ⟨fun pins s σ H v u Q I r h => ?_⟩
  rw [assign_Attribute]
  refine wpAny_bind (wpAny_holding (thn (ho.run pins s σ H _ I h) fun ov s1 ⟨x, H1, I1, r1, a, C, dx, fs, ex, ea, c, n, l, q1⟩ => ?_))
  subst ex
  obtain rfl : ov = Value.ref a := r1
  refine wpAny_bind (wpAny_standAt (wpAny_bind (wpAny_holding (setattr_ok I1 ea c n l r fun s2 I2 => ?_))))
  exact wpAny_release ⟨σ, _, I2, q1⟩
end
theorem alike_ints (ns : List Int) : PySem.W.AlikeAll (ns.map PyData.int) := by
  refine ⟨fun x hx y hy => ?_, fun x hx => ?_⟩
  · obtain ⟨a, _, rfl⟩ := List.mem_map.mp hx
    obtain ⟨b, _, rfl⟩ := List.mem_map.mp hy
    rfl
  · obtain ⟨a, _, rfl⟩ := List.mem_map.mp hx
    exact fun z => nomatch z
theorem depth_ints : ∀ ns : List Int, PyData.depthAll (ns.map PyData.int) = 0
  | [] => rfl
  | n :: r => by
    show max (PyData.depth (.int n)) (PyData.depthAll (r.map PyData.int)) = 0
    rw [depth_ints r]
    rfl
theorem foldmin_le : ∀ (ns : List Int) (n : Int), ns.foldl min n ≤ n ∧ ∀ y ∈ ns, ns.foldl min n ≤ y
  | [], n => ⟨Int.le_refl _, fun y h => by cases h⟩
  | k :: r, n => by
    obtain ⟨h1, h2⟩ := foldmin_le r (min n k)
    rw [List.foldl_cons]
    refine ⟨by omega, fun y hy => ?_⟩
    rcases List.mem_cons.mp hy with rfl | hy
    · omega
    · exact h2 y hy
theorem foldmin_mem : ∀ (ns : List Int) (n : Int), ns.foldl min n ∈ n :: ns
  | [], n => List.mem_cons_self
  | k :: r, n => by
    rw [List.foldl_cons]
    have h := foldmin_mem r (min n k)
    rcases List.mem_cons.mp h with h | h
    · rw [h]
      by_cases e : n ≤ k
      · rw [show min n k = n by omega]
        exact List.mem_cons_self
      · rw [show min n k = k by omega]
        exact List.mem_cons_of_mem _ List.mem_cons_self
    · exact List.mem_cons_of_mem _ (List.mem_cons_of_mem _ h)
theorem foldmax_le : ∀ (ns : List Int) (n : Int), n ≤ ns.foldl max n ∧ ∀ y ∈ ns, y ≤ ns.foldl max n
  | [], n => ⟨Int.le_refl _, fun y h => by cases h⟩
  | k :: r, n => by
    obtain ⟨h1, h2⟩ := foldmax_le r (max n k)
    rw [List.foldl_cons]
    refine ⟨by omega, fun y hy => ?_⟩
    rcases List.mem_cons.mp hy with rfl | hy
    · omega
    · exact h2 y hy
theorem foldmax_mem : ∀ (ns : List Int) (n : Int), ns.foldl max n ∈ n :: ns
  | [], n => List.mem_cons_self
  | k :: r, n => by
    rw [List.foldl_cons]
    have h := foldmax_mem r (max n k)
    rcases List.mem_cons.mp h with h | h
    · rw [h]
      by_cases e : k ≤ n
      · rw [show max n k = n by omega]
        exact List.mem_cons_self
      · rw [show max n k = k by omega]
        exact List.mem_cons_of_mem _ List.mem_cons_self
    · exact List.mem_cons_of_mem _ (List.mem_cons_of_mem _ h)
/-- min(xs, default=d), max(xs, default=d) -/
def rMinD (K : PySem.W.Frag) : List V → List V → Hp → VK → Prop := fun vs zs H Q => ∃ (a : Addr) (ns : List Int) (d : V), vs = [V.ref a] ∧ zs = [d] ∧ SqL K H a (ns.map V.int) ∧
  (ns = [] → Q d H) ∧ ∀ m, m ∈ ns → (∀ y, y ∈ ns → m ≤ y) → Q (.int m) H
def rMaxD (K : PySem.W.Frag) : List V → List V → Hp → VK → Prop := fun vs zs H Q => ∃ (a : Addr) (ns : List Int) (d : V), vs = [V.ref a] ∧ zs = [d] ∧ SqL K H a (ns.map V.int) ∧
  (ns = [] → Q d H) ∧ ∀ m, m ∈ ns → (∀ y, y ∈ ns → y ≤ m) → Q (.int m) H
section
variable {X : Cx}
theorem cr_minD (hc : X.calm = true) (hu : X.A.units + 1 < cLine) : CallRK X (.builtin "min") [Str.ofString "default"] (rMinD X.K) := by
  intro pins s σ H vs zs us ws Q I r rz h
  obtain ⟨a, ns, d, rfl, rfl, hs, q0, q⟩ := h
  obtain rfl := Vals.ref1 r
  obtain ⟨w1, rfl, e1⟩ := vals1 rz
  obtain ⟨its, rv, hl, _⟩ := I.list hs
  have hi := rv.ints
  refine PySem.W.min_list_default (I.ok.hd hc) hl.isList (xs := ns.map PyData.int) (IntsAre.reads s.heap hi) (alike_ints ns) (by rw [depth_ints]; exact hu) (fun e h' tk hk => ?_) fun y ys i v h' tk bs e hv hr hk => ?_
  · exact ⟨d, H, I.kept hk, e1, q0 (List.map_eq_nil_iff.mp e)⟩
  · cases ns with
    | nil => cases e
    | cons n r =>
      rw [List.map_cons] at e
      injection e with e2 e3
      subst e2 e3
      rw [PySem.W.minD_ints] at hr
      cases hr with
      | int i t => exact ⟨.int _, H, I.kept hk, ⟨_, rfl⟩, q _ (foldmin_mem r n) fun y hy => by
          obtain ⟨h1, h2⟩ := foldmin_le r n
          rcases List.mem_cons.mp hy with rfl | hy
          · exact h1
          · exact h2 y hy⟩
theorem cr_maxD (hc : X.calm = true) (hu : X.A.units + 1 < cLine) : CallRK X (.builtin "max") [Str.ofString "default"] (rMaxD X.K) := by
  intro pins s σ H vs zs us ws Q I r rz h
  obtain ⟨a, ns, d, rfl, rfl, hs, q0, q⟩ := h
  obtain rfl := Vals.ref1 r
  obtain ⟨w1, rfl, e1⟩ := vals1 rz
  obtain ⟨its, rv, hl, _⟩ := I.list hs
  have hi := rv.ints
  refine PySem.W.max_list_default (I.ok.hd hc) hl.isList (xs := ns.map PyData.int) (IntsAre.reads s.heap hi) (alike_ints ns) (by rw [depth_ints]; exact hu) (fun e h' tk hk => ?_) fun y ys i v h' tk bs e hv hr hk => ?_
  · exact ⟨d, H, I.kept hk, e1, q0 (List.map_eq_nil_iff.mp e)⟩
  · cases ns with
    | nil => cases e
    | cons n r =>
      rw [List.map_cons] at e
      injection e with e2 e3
      subst e2 e3
      rw [PySem.W.maxD_ints] at hr
      cases hr with
      | int i t => exact ⟨.int _, H, I.kept hk, ⟨_, rfl⟩, q _ (foldmax_mem r n) fun y hy => by
          obtain ⟨h1, h2⟩ := foldmax_le r n
          rcases List.mem_cons.mp hy with rfl | hy
          · exact h1
          · exact h2 y hy⟩
end
end K50


set_option Elab.async false
set_option maxRecDepth 100000
set_option maxHeartbeats 4000000
namespace K50
open PySem L2
/-! ### the data of LookingBack -/
def ol (m : Nat) (f : Nat → Option Int) : List V := (List.range m).map fun i => oV (f i)
theorem ol_len (m : Nat) (f : Nat → Option Int) : (ol m f).length = m := by unfold ol; rw [List.length_map, List.length_range]
theorem ol_get {m i : Nat} {f : Nat → Option Int} (h : i < m) : (ol m f)[i]? = some (oV (f i)) := by
  unfold ol
  rw [List.getElem?_map, List.getElem?_range h]
  rfl
theorem ol_ext {m : Nat} {f g : Nat → Option Int} (h : ∀ i, i < m → f i = g i) : ol m f = ol m g := by
  unfold ol
  refine List.map_congr_left fun i hi => ?_
  rw [h i (List.mem_range.mp hi)]
theorem ol_of {m : Nat} {f : Nat → Option Int} {xs : List V} (hl : xs.length = m) (h : ∀ i, i < m → xs[i]? = some (oV (f i))) : xs = ol m f := by
  refine List.ext_getElem? fun i => ?_
  by_cases hi : i < m
  · rw [h i hi, ol_get hi]
  · rw [List.getElem?_eq_none (by omega), List.getElem?_eq_none (by rw [ol_len]; omega)]
theorem ol_set {m : Nat} {f g : Nat → Option Int} {j : Nat} {x : Option Int} (hj : j < m) (h1 : g j = x) (h2 : ∀ i, i < m → i ≠ j → g i = f i) : (ol m f).set j (oV x) = ol m g := by
  refine ol_of (by rw [List.length_set, ol_len]) fun i hi => ?_
  by_cases e : i = j
  · subst e
    rw [List.getElem?_set_self (by rw [ol_len]; exact hi), h1]
  · rw [List.getElem?_set_ne (Ne.symm e), ol_get hi, h2 i hi e]
def lbF (ta tl : Addr) (c : Int) : List (Str × V) := [("_tariff", .ref ta), ("_totals", .ref tl), ("_cost", .int c)]
theorem ne_tt : ¬ (("_tariff" : Str) = "_totals") := by decide +kernel
theorem ne_tc : ¬ (("_tariff" : Str) = "_cost") := by decide +kernel
theorem ne_oc : ¬ (("_totals" : Str) = "_cost") := by decide +kernel
theorem lookup_cons {f g : Str} {v : V} {r : List (Str × V)} : List.lookup g ((f, v) :: r) = if g = f then some v else List.lookup g r := by
  show (match g == f with | true => some v | false => List.lookup g r) = _
  by_cases e : g = f
  · rw [if_pos e, beq_iff_eq.mpr e]
  · rw [if_neg e, beq_eq_false_iff_ne.mpr e]
theorem lb_t (ta tl : Addr) (c : Int) : (lbF ta tl c).lookup ("_tariff" : Str) = some (.ref ta) := by unfold lbF; rw [lookup_cons, if_pos rfl]
theorem lb_o (ta tl : Addr) (c : Int) : (lbF ta tl c).lookup ("_totals" : Str) = some (.ref tl) := by unfold lbF; rw [lookup_cons, if_neg (Ne.symm ne_tt), lookup_cons, if_pos rfl]
theorem lb_c (ta tl : Addr) (c : Int) : (lbF ta tl c).lookup ("_cost" : Str) = some (.int c) := by unfold lbF; rw [lookup_cons, if_neg (Ne.symm ne_tc), lookup_cons, if_neg (Ne.symm ne_oc), lookup_cons, if_pos rfl]
theorem lb_no (ta tl : Addr) (c : Int) {m : Str} (h1 : ¬ m = "_tariff") (h2 : ¬ m = "_totals") (h3 : ¬ m = "_cost") : (lbF ta tl c).lookup m = none := by
  unfold lbF
  rw [lookup_cons, if_neg h1, lookup_cons, if_neg h2, lookup_cons, if_neg h3]
  rfl
theorem lb_mk (ta tl : Addr) (c : Int) : putF "_cost" (.int c) (putF "_totals" (.ref tl) (putF "_tariff" (.ref ta) [])) = lbF ta tl c := by
  simp only [putF, lbF, if_neg ne_tt, if_neg ne_tc, if_neg ne_oc]
theorem lb_putc (ta tl : Addr) (c d : Int) : putF "_cost" (.int d) (lbF ta tl c) = lbF ta tl d := by
  simp only [putF, lbF, if_neg ne_tc, if_neg ne_oc, if_true]
theorem lb_puto (ta tl tm : Addr) (c : Int) : putF "_totals" (.ref tm) (lbF ta tl c) = lbF ta tm c := by
  simp only [putF, lbF, if_neg ne_tt, if_true]
structure LbAt (C : Addr) (H : Hp) (p ta tl : Addr) (f : Nat → Option Int) (c : Int) : Prop where
  ob : ∃ dx, H p = some (.ins C dx (lbF ta tl c))
  ls : H tl = some (.lst (ol 40 f))
theorem LbAt.ne {C : Addr} {H : Hp} {p ta tl : Addr} {f : Nat → Option Int} {c : Int} (h : LbAt C H p ta tl f c) : p ≠ tl := by
  obtain ⟨dx, h1⟩ := h.ob
  exact ne_of h1 h.ls (by intro z; cases z)
/-- all but what stood at p and q is kept -/
def Kept2 (H H' : Hp) (p q : Addr) : Prop := ∀ b o, H b = some o → b ≠ p → b ≠ q → H' b = some o
theorem Kept2.refl (H : Hp) (p q : Addr) : Kept2 H H p q := fun _ _ h _ _ => h
theorem Kept2.trans {H H1 H2 : Hp} {p q : Addr} (a : Kept2 H H1 p q) (b : Kept2 H1 H2 p q) : Kept2 H H2 p q := fun c o h h1 h2 => b c o (a c o h h1 h2) h1 h2
theorem Kept2.p {H H' : Hp} {p q : Addr} {o : HO} (k : Kept2 H H' p q) : Kept2 H (upd H' p o) p q := fun c x h h1 h2 => by rw [upd_ne h1]; exact k c x h h1 h2
theorem Kept2.q {H H' : Hp} {p q : Addr} {o : HO} (k : Kept2 H H' p q) : Kept2 H (upd H' q o) p q := fun c x h h1 h2 => by rw [upd_ne h2]; exact k c x h h1 h2
theorem Kept2.new {H H' : Hp} {p q b : Addr} {o : HO} (k : Kept2 H H' p q) (n : H' b = none) : Kept2 H (upd H' b o) p q := fun c x h h1 h2 => by
  have e := k c x h h1 h2
  rw [upd_ne (ne_of_none e n)]; exact e
theorem TarAt.kept {H H' : Hp} {p q a : Addr} {T : Tar} {o u : HO} (h : TarAt H a T) (k : Kept2 H H' p q) (hp : H p = some o) (hq : H q = some u) (np : ∀ xs, o ≠ .tup xs) (nq : ∀ xs, u ≠ .tup xs) : TarAt H' a T :=
  h.same fun b xs e => k b _ e (ne_of e hp (Ne.symm (np xs))) (ne_of e hq (Ne.symm (nq xs)))
/-- what the class must have -/
structure LbTxt (K : PySem.W.Frag) (C : Addr) : Prop where
  cl : Cls K C
  nT : NoAttr K C "_tariff"
  nO : NoAttr K C "_totals"
  nC : NoAttr K C "_cost"
def spBI (C : Addr) : Sp := fun vs H Q _ => ∃ (p dx ta : Addr), vs = [.ref p, .ref ta] ∧ H p = some (.ins C dx []) ∧ ∀ (tl : Addr) (H' : Hp), H tl = none → LbAt C H' p ta tl (fun _ => none) 0 → (∀ b o, H b = some o → b ≠ p → H' b = some o) → Q .non H'
def spBR (C : Addr) : Sp := fun vs H Q _ => ∃ (p ta tl : Addr) (f : Nat → Option Int) (c : Int) (T : Tar) (x : Option Int), vs = [.ref p, oV x] ∧ LbAt C H p ta tl f c ∧ TarAt H ta T ∧ T.Ok ∧ Q (.int (ret T x)) H
def dl (nd : Int) (l : Nat) : Bool := decide ((l : Int) < nd)
def fN (T : Tar) (pr nd : Int) (f : Nat → Option Int) (l : Nat) : Option Int := (midS T pr (dl nd l) (f l, 0)).1
def cN (T : Tar) (pr nd : Int) (f : Nat → Option Int) (l : Nat) : Int := (midS T pr (dl nd l) (f l, 0)).2
def spBS (C : Addr) : Sp := fun vs H Q _ => ∃ (p ta tl : Addr) (f : Nat → Option Int) (c : Int) (T : Tar) (pr nd : Int), vs = [.ref p, .int pr, .int nd] ∧ LbAt C H p ta tl f c ∧ TarAt H ta T ∧ T.Ok ∧
  ∀ H' : Hp, LbAt C H' p ta tl (fN T pr nd f) (c + sumN (cN T pr nd f) 40) → Kept2 H H' p tl → Q (.int (c + sumN (cN T pr nd f) 40)) H'
def spBE (C : Addr) : Sp := fun vs H Q _ => ∃ (p ta tl : Addr) (f : Nat → Option Int) (c : Int), vs = [.ref p] ∧ LbAt C H p ta tl f c ∧ ∀ (tm : Addr) (H' : Hp), H tm = none → LbAt C H' p ta tm (fun _ => none) c → (∀ b o, H b = some o → b ≠ p → H' b = some o) → Q .non H'
def spBC (C : Addr) : Sp := fun vs H Q _ => ∃ (p ta tl : Addr) (f : Nat → Option Int) (c : Int), vs = [.ref p] ∧ LbAt C H p ta tl f c ∧ Q (.int c) H
theorem rep40 : (List.replicate (40 : Int).toNat [V.non]).flatten = ol 40 (fun _ => none) := by decide +kernel
section
variable {P : Program} {w : World} {K : PySem.W.Frag} {mg : Str → Option Value} {base : Heap}
theorem scBI : FnScope ["self", "tariff"] ["self", "tariff"] (defScope sBI) := ⟨rfl, rfl, rfl, by decide +kernel, rfl, by decide +kernel, by decide +kernel⟩
theorem ok_bi {f C : Addr} {fd : FuncData} {t : Tok} (F : Fun K "__init__" "LookingBack.__init__" sBI f fd) (T : LbTxt K C) (mL : mg "LANES" = some (.int 40 t)) : FnOk P w K mg base CX0 1 f fd ["self", "tariff"] (spBI C) := by
  refine F.ok scBI (fun vs H Q E h => ?_) (fun cdv A outer s H vs Q E hr h => ?_)
  · obtain ⟨p, dx, ta, rfl, _⟩ := h
    rfl
  · obtain ⟨p, dx, ta, rfl, hp, k⟩ := h
    refine ⟨_, pss_cons (ps_fld (pv 0) (pv 1) rfl) (pss_cons (ps_fld (pv 0) (pe_op op_rep (pe_lst (pa_cons pe_non pa_nil)) (pe_glob (v := .int 40) rfl mL ⟨_, rfl⟩)) rfl) (pss_one (ps_fld (pv 0) pe_int rfl))), ?_⟩
    refine ⟨_, rfl, _, rfl, p, C, dx, _, rfl, hp, T.cl, T.nT, (by show 0 < 1000; decide), (by show 1 ≤ sizeLine; decide), fun l hl => ?_⟩
    have npl : p ≠ l := fun q => by
      rw [← q, upd_same] at hl
      cases hl
    refine ⟨l, _, _, rfl, rfl, upd_same, by decide, by decide, (by show 1 * (40 : Int).toNat ≤ sizeLine; decide), fun m hm => ?_⟩
    have npm : p ≠ m := fun q => by
      rw [← q, upd_ne npl, upd_same] at hm
      cases hm
    have nlm : l ≠ m := fun q => by
      rw [← q, upd_same] at hm
      cases hm
    refine ⟨_, rfl, p, C, dx, _, rfl, (by rw [upd_ne npm, upd_ne npl]; exact upd_same), T.cl, T.nO, (by show 1 < 1000; decide), _, rfl, p, C, dx, _, rfl, upd_same, T.cl, T.nC, (by show 2 < 1000; decide), ?_⟩
    have hm0 : H m = none := by
      rw [upd_ne nlm.symm, upd_ne npm.symm] at hm
      exact hm
    have hl0 : H l = none := by
      rw [upd_ne npl.symm] at hl
      exact hl
    refine k m _ hm0 ⟨⟨dx, ?_⟩, ?_⟩ fun b o e hb => ?_
    · rw [upd_same, lb_mk]
    · rw [upd_ne npm.symm, upd_ne npm.symm, upd_same, rep40]
    · rw [upd_ne hb, upd_ne hb, upd_ne (ne_of_none e hm0), upd_ne (ne_of_none e hl0), upd_ne hb]
      exact e
theorem scBR : FnScope ["self", "total"] ["self", "total"] (defScope sBR) := ⟨rfl, rfl, rfl, by decide +kernel, rfl, by decide +kernel, by decide +kernel⟩
theorem ok_br {f C : Addr} {fd : FuncData} (F : Fun K "_returning_cost" "LookingBack._returning_cost" sBR f fd) (T : LbTxt K C) (hOff : Has1 P w K mg base "off" 1 ["tariff"] spOff) (hWake : Has1 P w K mg base "wake" 1 ["tariff", "state"] spWake) (hIdC : Has1 P w K mg base "idle_cost" 5 ["tariff", "total"] spIdC) :
    FnOk P w K mg base CX0 6 f fd ["self", "total"] (spBR C) := by
  obtain ⟨fO, fdO, mO, kO, bO, GO⟩ := hOff.ok
  obtain ⟨fW, fdW, mW, kW, bW, GW⟩ := hWake.ok
  obtain ⟨fI, fdI, mI, kI, bI, GI⟩ := hIdC.ok
  refine F.ok scBR (fun vs H Q E h => ?_) (fun cdv A outer s H vs Q E hr h => ?_)
  · obtain ⟨p, ta, tl, g, c, T', x, rfl, _⟩ := h
    rfl
  · obtain ⟨p, ta, tl, g, c, T', x, rfl, B, hT, o, q⟩ := h
    obtain ⟨dx, h1⟩ := B.ob
    have hr1 : Room 1 _ := hr.mono (by decide)
    refine ⟨_, pss_cons (ps_if (pt_cmpR op_isN (pv 1) pe_non (nomark _)) (pss_one (ps_ret (pe_call GW hr1 (by rfl) mW kW bW .nil pass0 (pa_cons (pe_fld (pv 0) rfl) (pa_cons (pe_call GO hr1 (by rfl) mO kO bO .nil pass0 (pa_cons (pe_fld (pv 0) rfl) pa_nil)) pa_nil))))) pss_nil)
      (pss_one (ps_ret (pe_call GI hr (by rfl) mI kI bI .nil pass0 (pa_cons (pe_fld (pv 0) rfl) (pa_cons (pv 1) pa_nil))))), ?_⟩
    refine ⟨_, rfl, rfl, _, rfl, ?_⟩
    cases x with
    | none =>
      refine iteT ?_
      exact ⟨_, rfl, p, C, dx, _, _, rfl, h1, T.cl, T.nT, lb_t _ _ _, _, rfl, p, C, dx, _, _, rfl, h1, T.cl, T.nT, lb_t _ _ _, ta, T', rfl, hT, ta, T', T'.n, rfl, hT, Nat.le_refl _, q⟩
    | some x =>
      refine iteF ?_
      exact ⟨_, rfl, p, C, dx, _, _, rfl, h1, T.cl, T.nT, lb_t _ _ _, _, rfl, ta, T', x, rfl, hT, o, q⟩
theorem scBS : FnScope ["self", "price", "need", "lane", "total"] ["self", "price", "need"] (defScope sBS) := ⟨rfl, rfl, rfl, by decide +kernel, rfl, by decide +kernel, by decide +kernel⟩
theorem ok_bs {f C fR : Addr} {fd fdR : FuncData} {t : Tok} (F : Fun K "step" "LookingBack.step" sBS f fd) (T : LbTxt K C) (mL : mg "LANES" = some (.int 40 t)) (zr : mg "range" = none)
    (hRate : Has1 P w K mg base "rate" 2 ["tariff", "state"] spRate) (MR : Meth K C "_returning_cost" fR) (bR : Binds K fdR ["self", "total"] []) (GR : FnOk P w K mg base CX0 6 fR fdR ["self", "total"] (spBR C)) : FnOk P w K mg base CX0 7 f fd ["self", "price", "need"] (spBS C) := by
  obtain ⟨fA, fdA, mA, kA, bA, GA⟩ := hRate.ok
  refine F.ok scBS (fun vs H Q E h => ?_) (fun cdv A outer s H vs Q E hr h => ?_)
  · obtain ⟨p, ta, tl, g, c, T', pr, nd, rfl, _⟩ := h
    rfl
  · obtain ⟨p, ta, tl, g, c, T', pr, nd, rfl, B, hT, o, k⟩ := h
    obtain ⟨dx0, h10⟩ := B.ob
    refine ⟨_, pss_cons (ps_for PassesOwn.never rfl (pi_range1 rfl zr (pa_cons (pe_glob (v := .int 40) rfl mL ⟨_, rfl⟩) pa_nil)) (pg_name (i := 3) scBS.nd rfl (Or.inl rfl))
        (pss_cons (ps_set (i := 4) scBS.nd rfl (Or.inl rfl) (pe_ix ix_list (pe_fld (pv 0) rfl) (pv 3) (fun _ _ => rfl)))
        (pss_one (ps_if (pt_cmpR op_lt (pv 3) (pv 2) (nomark _))
          (pss_cons (ps_fldaug (pv 0) (pe_op op_add (pe_meth (pv 0) T.cl MR GR hr bR .nil pass0 (pa_cons (pv 4) pa_nil)) (pe_op op_mul (pe_call GA (hr.mono (by decide)) (by rfl) mA kA bA .nil pass0 (pa_cons (pe_fld (pv 0) rfl) (pa_cons pe_int pa_nil))) (pv 1))) in_add)
            (pss_one (ps_asg pe_int (pg_sub (pe_fld (pv 0) rfl) (pv 3) set_list))))
          (pss_one (ps_if (pt_cmpR op_notN (pv 4) pe_non (nomark _)) (pss_one (ps_asg (pe_op op_add (pv 4) (pv 1)) (pg_sub (pe_fld (pv 0) rfl) (pv 3) set_list))) pss_nil))))))
      (pss_one (ps_ret (pe_fld (pv 0) rfl))), ?_⟩
    refine ⟨40, rfl, by decide, by decide, ?_⟩
    refine for_range (lo := 0) (n := _) (fun i σ H' => (∃ v1 v2 : Option V, σ = [some (.ref p), some (.int pr), some (.int nd), v1, v2]) ∧ Kept2 H H' p tl ∧
      LbAt C H' p ta tl (fun l => if l < i then fN T' pr nd g l else g l) (c + sumN (cN T' pr nd g) i)) ⟨⟨none, none, rfl⟩, Kept2.refl _ _ _, ?_⟩ ?_ ?_
    · refine ⟨⟨dx0, ?_⟩, ?_⟩
      · show H p = some (.ins C dx0 (lbF ta tl (c + 0)))
        rw [Int.add_zero]
        exact h10
      · rw [B.ls]
        exact congrArg (fun l => some (HO.lst l)) (ol_ext fun i _ => by rw [if_neg (Nat.not_lt_zero _)])
    · rintro i σ H' hi ⟨⟨v1, v2, rfl⟩, kp, B1⟩
      have hi40 : i < 40 := hi
      have hT1 : TarAt H' ta T' := hT.kept kp h10 B.ls (fun _ z => by cases z) (fun _ z => by cases z)
      obtain ⟨dx, h1⟩ := B1.ob
      have hl := B1.ls
      have npl := B1.ne
      have e0 : (0 : Int) + (i : Int) = (i : Int) := Int.zero_add _
      rw [e0]
      refine ⟨_, rfl, p, C, dx, _, _, rfl, h1, T.cl, T.nO, lb_o _ _ _, _, rfl, tl, _, _, _, rfl, rfl, SqL.of hl, atI_nat (ol_get hi40), ?_⟩
      rw [if_neg (Nat.lt_irrefl _)]
      refine ⟨_, rfl, _, rfl, _, _, rfl, rfl, _, rfl, ?_⟩
      -- the list behind the turn
      have hset : ∀ x : Option Int, fN T' pr nd g i = x → (ol 40 (fun l => if l < i then fN T' pr nd g l else g l)).set i (oV x) = ol 40 (fun l => if l < i + 1 then fN T' pr nd g l else g l) := fun x hx =>
        ol_set hi40 (by rw [if_pos (Nat.lt_succ_self i)]; exact hx) fun j _ hj => by
          by_cases hji : j < i
          · rw [if_pos hji, if_pos (by omega)]
          · rw [if_neg hji, if_neg (by omega)]
      have hix : ixN (ol 40 (fun l => if l < i then fN T' pr nd g l else g l)).length (i : Int) = some i := by
        rw [ol_len]
        unfold ixN
        rw [if_pos (by omega), if_pos (by omega)]
        simp
      by_cases hn : (i : Int) < nd
      · rw [decide_eq_true hn]
        have hd : dl nd i = true := decide_eq_true hn
        have hf : fN T' pr nd g i = some 0 := by unfold fN; rw [hd]; rfl
        have hc : cN T' pr nd g i = ret T' (g i) + T'.r 0 * pr := by
          unfold cN; rw [hd]
          show 0 + (ret T' (g i) + T'.r 0 * pr) = _
          omega
        refine iteT ?_
        refine ⟨_, rfl, p, C, dx, _, _, rfl, h1, T.cl, T.nC, lb_c _ _ _, _, rfl, p, dx, _, rfl, h1, lb_no _ _ _ (by decide +kernel) (by decide +kernel) (by decide +kernel), _, rfl, p, ta, tl, _, _, T', g i, rfl, B1, hT1, o, ?_⟩
        refine ⟨_, rfl, p, C, dx, _, _, rfl, h1, T.cl, T.nT, lb_t _ _ _, ta, T', 0, rfl, hT1, o, Nat.zero_le _, _, rfl, _, _, rfl, rfl, rate_in o (Nat.zero_le _) _, _, _, rfl, rfl, _, _, rfl, rfl, dx, _, h1, (by show 3 < 1000; decide), ?_⟩
        rw [lb_putc]
        refine ⟨_, rfl, p, C, dx, _, _, rfl, upd_same, T.cl, T.nO, lb_o _ _ _, _, rfl, tl, _, _, i, rfl, rfl, (by rw [upd_ne npl.symm]; exact hl), hix, ?_⟩
        refine ⟨⟨_, _, rfl⟩, kp.p.q, ⟨dx, ?_⟩, ?_⟩
        · rw [upd_ne npl, upd_same]
          show _ = some (HO.ins C dx (lbF ta tl (c + (sumN (cN T' pr nd g) i + cN T' pr nd g i))))
          rw [hc, Int.add_assoc]
        · rw [upd_same]
          exact congrArg (fun l => some (HO.lst l)) (hset (some 0) hf)
      · rw [decide_eq_false hn]
        have hd : dl nd i = false := decide_eq_false hn
        have hf : fN T' pr nd g i = (g i).map (· + pr) := by unfold fN; rw [hd]; rfl
        have hc : cN T' pr nd g i = 0 := by unfold cN; rw [hd]; rfl
        have ec : c + sumN (cN T' pr nd g) (i + 1) = c + sumN (cN T' pr nd g) i := by
          show c + (sumN (cN T' pr nd g) i + cN T' pr nd g i) = _
          rw [hc]
          omega
        refine iteF ?_
        refine ⟨_, rfl, rfl, _, rfl, ?_⟩
        cases hg : g i with
        | none =>
          refine iteF ?_
          refine ⟨⟨_, _, rfl⟩, kp, ⟨dx, by rw [ec]; exact h1⟩, ?_⟩
          rw [hl]
          refine congrArg (fun l => some (HO.lst l)) (ol_ext fun j hj => ?_)
          by_cases hji : j < i
          · rw [if_pos hji, if_pos (by omega)]
          · rw [if_neg hji]
            by_cases e : j = i
            · subst e
              rw [if_pos (Nat.lt_succ_self _), hf, hg]
              rfl
            · rw [if_neg (by omega)]
        | some x =>
          refine iteT ?_
          refine ⟨_, rfl, _, rfl, _, _, rfl, rfl, _, rfl, p, C, dx, _, _, rfl, h1, T.cl, T.nO, lb_o _ _ _, _, rfl, tl, _, _, i, rfl, rfl, hl, hix, ?_⟩
          refine ⟨⟨_, _, rfl⟩, kp.q, ⟨dx, by rw [upd_ne npl, ec]; exact h1⟩, ?_⟩
          rw [upd_same]
          exact congrArg (fun l => some (HO.lst l)) (hset (some (x + pr)) (by rw [hf, hg]; rfl))
    · rintro σ H' ⟨⟨v1, v2, rfl⟩, kp, B1⟩
      obtain ⟨dx, h1⟩ := B1.ob
      refine ⟨_, rfl, p, C, dx, _, _, rfl, h1, T.cl, T.nC, lb_c _ _ _, ?_⟩
      refine k H' ⟨⟨dx, h1⟩, ?_⟩ kp
      rw [B1.ls]
      exact congrArg (fun l => some (HO.lst l)) (ol_ext fun j hj => by rw [if_pos (show j < (40 : Int).toNat from hj)])
theorem scBE : FnScope ["self"] ["self"] (defScope sBE) := ⟨rfl, rfl, rfl, by decide +kernel, rfl, by decide +kernel, by decide +kernel⟩
theorem ok_be {f C : Addr} {fd : FuncData} {t : Tok} (F : Fun K "end_break" "LookingBack.end_break" sBE f fd) (T : LbTxt K C) (mL : mg "LANES" = some (.int 40 t)) : FnOk P w K mg base CX0 1 f fd ["self"] (spBE C) := by
  refine F.ok scBE (fun vs H Q E h => ?_) (fun cdv A outer s H vs Q E hr h => ?_)
  · obtain ⟨p, ta, tl, g, c, rfl, _⟩ := h
    rfl
  · obtain ⟨p, ta, tl, g, c, rfl, B, k⟩ := h
    obtain ⟨dx, h1⟩ := B.ob
    refine ⟨_, pss_one (ps_fld (pv 0) (pe_op op_rep (pe_lst (pa_cons pe_non pa_nil)) (pe_glob (v := .int 40) rfl mL ⟨_, rfl⟩)) rfl), ?_⟩
    refine ⟨(by show 1 ≤ sizeLine; decide), fun l hl => ?_⟩
    refine ⟨l, _, _, rfl, rfl, upd_same, by decide, by decide, (by show 1 * (40 : Int).toNat ≤ sizeLine; decide), fun m hm => ?_⟩
    have npl : p ≠ l := ne_of_none h1 hl
    have nlm : l ≠ m := fun q => by
      rw [← q, upd_same] at hm
      cases hm
    have hm0 : H m = none := by
      rw [upd_ne nlm.symm] at hm
      exact hm
    have npm : p ≠ m := ne_of_none h1 hm0
    refine ⟨_, rfl, p, C, dx, _, rfl, (by rw [upd_ne npm, upd_ne npl]; exact h1), T.cl, T.nO, (by show 3 < 1000; decide), ?_⟩
    rw [lb_puto]
    refine k m _ hm0 ⟨⟨dx, upd_same⟩, ?_⟩ fun b o e hb => ?_
    · rw [upd_ne npm.symm, upd_same, rep40]
    · rw [upd_ne hb, upd_ne (ne_of_none e hm0), upd_ne (ne_of_none e hl)]
      exact e
theorem scBC : FnScope ["self"] ["self"] (defScope sBC) := ⟨rfl, rfl, rfl, by decide +kernel, rfl, by decide +kernel, by decide +kernel⟩
theorem ok_bc {f C : Addr} {fd : FuncData} (F : Fun K "cost" "LookingBack.cost" sBC f fd) (T : LbTxt K C) : FnOk P w K mg base CX0 1 f fd ["self"] (spBC C) := by
  refine F.ok scBC (fun vs H Q E h => ?_) (fun cdv A outer s H vs Q E hr h => ?_)
  · obtain ⟨p, ta, tl, g, c, rfl, _⟩ := h
    rfl
  · obtain ⟨p, ta, tl, g, c, rfl, B, q⟩ := h
    obtain ⟨dx, h1⟩ := B.ob
    refine ⟨_, pss_one (ps_ret (pe_fld (pv 0) rfl)), ?_⟩
    exact ⟨_, rfl, p, C, dx, _, _, rfl, h1, T.cl, T.nC, lb_c _ _ _, q⟩
end
end K50


set_option Elab.async false
set_option maxRecDepth 100000
set_option maxHeartbeats 4000000
namespace K50
open PySem L2
/-! ### lanes -/
def laneV (x : Lane) : List V := [.int (x.st : Int), .int x.t, .int x.c]
structure LanesAt (n : Nat) (H : Hp) (la : Addr) (y : Nat → Lane) : Prop where
  ex : ∃ bs : List Addr, bs.length = n ∧ H la = some (.lst (bs.map V.ref)) ∧ ∀ j b, bs[j]? = some b → H b = some (.tup (laneV (y j)))
theorem LanesAt.nil {H : Hp} {la : Addr} {y : Nat → Lane} (h : H la = some (.lst [])) : LanesAt 0 H la y := ⟨[], rfl, h, fun j b e => by simp at e⟩
theorem LanesAt.same {n : Nat} {H H' : Hp} {la : Addr} {y : Nat → Lane} (h : LanesAt n H la y) (s : Same H H') : LanesAt n H' la y := by
  obtain ⟨bs, h1, h2, h3⟩ := h.ex
  exact ⟨bs, h1, s _ _ h2, fun j b e => s _ _ (h3 j b e)⟩
theorem LanesAt.push {n : Nat} {H : Hp} {la u : Addr} {y : Nat → Lane} (h : LanesAt n H la y) (hu : H u = some (.tup (laneV (y n)))) : ∃ xs : List V, H la = some (.lst xs) ∧ xs.length = n ∧ LanesAt (n + 1) (upd H la (.lst (xs ++ [.ref u]))) la y := by
  obtain ⟨bs, h1, h2, h3⟩ := h.ex
  refine ⟨_, h2, by rw [List.length_map, h1], ⟨bs ++ [u], by rw [List.length_append, h1]; rfl, ?_, fun j b e => ?_⟩⟩
  · rw [upd_same, List.map_append]
    rfl
  · have key : H b = some (.tup (laneV (y j))) := by
      by_cases hj : j < bs.length
      · rw [List.getElem?_append_left hj] at e
        exact h3 j b e
      · have hlt := (List.getElem?_eq_some_iff.mp e).1
        rw [List.length_append] at hlt
        have ej : j = bs.length := by
          have : ([u] : List Addr).length = 1 := rfl
          omega
        subst ej
        rw [List.getElem?_append_right (Nat.le_refl _), Nat.sub_self] at e
        have eb : u = b := Option.some.inj e
        subst eb
        rw [h1]
        exact hu
    rw [upd_ne (ne_of key h2 (by intro z; cases z))]
    exact key
/-- behind the heap H0: all that stood there is kept -/
def spLane (g : Tar → Int → Lane → Lane × Int) : Sp := fun vs H Q _ => ∃ (a b : Addr) (T : Tar) (x : Lane) (pr : Int), vs = [.ref a, .ref b, .int pr] ∧ TarAt H a T ∧ T.Ok ∧ H b = some (.tup (laneV x)) ∧ x.st ≤ T.n ∧
  ∀ (u r : Addr) (H' : Hp), Same H H' → H' u = some (.tup (laneV (g T pr x).1)) → H' r = some (.tup [.ref u, .int (g T pr x).2]) → Q (.ref r) H'
theorem sUpd {H H' : Hp} {p : Addr} {o : HO} (s : Same H H') (n : H' p = none) : Same H (upd H' p o) := fun b x e => by
  have e' := s b x e
  rw [upd_ne (ne_of_none e' n)]
  exact e'
section
variable {P : Program} {w : World} {K : PySem.W.Frag} {mg : Str → Option Value} {base : Heap}
theorem scNL : FnScope ["tariff", "lane", "price"] ["tariff", "lane", "price"] (defScope sNL) := ⟨rfl, rfl, rfl, by decide +kernel, rfl, by decide +kernel, by decide +kernel⟩
theorem ok_nl {f : Addr} {fd : FuncData} (F : Fun K "needed_lane" "needed_lane" sNL f fd) (hRate : Has1 P w K mg base "rate" 2 ["tariff", "state"] spRate) (hWake : Has1 P w K mg base "wake" 1 ["tariff", "state"] spWake) :
    FnOk P w K mg base CX0 3 f fd ["tariff", "lane", "price"] (spLane neededL) := by
  obtain ⟨fR, fdR, mR, kR, bR, GR⟩ := hRate.ok
  obtain ⟨fW, fdW, mW, kW, bW, GW⟩ := hWake.ok
  refine F.ok scNL (fun vs H Q E h => ?_) (fun cdv A outer s H vs Q E hr h => ?_)
  · obtain ⟨a, b, T, x, pr, rfl, _⟩ := h
    rfl
  · obtain ⟨a, b, T, x, pr, rfl, hT, o, hb, hx, k⟩ := h
    refine ⟨_, pss_one (ps_ret (pe_tup (pa_cons (pe_tup (pa_cons pe_int (pa_cons pe_int (pa_cons pe_int pa_nil))))
      (pa_cons (pe_op op_add (pe_call GW (hr.mono (by decide)) (by rfl) mW kW bW .nil pass0 (pa_cons (pv 0) (pa_cons (pe_ix ix_tup (pv 1) pe_int (fun _ _ => rfl)) pa_nil)))
        (pe_op op_mul (pe_call GR hr (by rfl) mR kR bR .nil pass0 (pa_cons (pv 0) (pa_cons pe_int pa_nil))) (pv 2))) pa_nil)))), ?_⟩
    refine ⟨(by show 3 ≤ sizeLine; decide), fun u hu => ?_⟩
    have s1 : Same H (upd H u (.tup [.int 0, .int 0, .int 0])) := sUpd (Same.refl H) hu
    have hT1 := hT.upd (o := .tup [.int 0, .int 0, .int 0]) hu
    have hb1 := s1 _ _ hb
    refine ⟨_, rfl, _, rfl, b, _, _, _, rfl, rfl, SqT.of hb1, atI_nat (j := 0) rfl, a, T, x.st, rfl, hT1, hx, ?_⟩
    refine ⟨_, rfl, a, T, 0, rfl, hT1, o, Nat.zero_le _, _, rfl, _, _, rfl, rfl, rate_in o (Nat.zero_le _) _, _, _, rfl, rfl, (by show 2 ≤ sizeLine; decide), fun r hrn => ?_⟩
    exact k u r _ (sUpd s1 hrn) (by rw [upd_ne (ne_of_none upd_same hrn), upd_same]; rfl) (by rw [upd_same]; rfl)
theorem scIL : FnScope ["tariff", "lane", "price", "state", "total", "cost", "cold", "more"] ["tariff", "lane", "price"] (defScope sIL) := ⟨rfl, rfl, rfl, by decide +kernel, rfl, by decide +kernel, by decide +kernel⟩
theorem ok_il {f : Addr} {fd : FuncData} (F : Fun K "idle_lane" "idle_lane" sIL f fd) (hOff : Has1 P w K mg base "off" 1 ["tariff"] spOff) (hRate : Has1 P w K mg base "rate" 2 ["tariff", "state"] spRate) (hIdS : Has1 P w K mg base "idle_state" 4 ["tariff", "total"] spIdS) :
    FnOk P w K mg base CX0 5 f fd ["tariff", "lane", "price"] (spLane idleL) := by
  obtain ⟨fO, fdO, mO, kO, bO, GO⟩ := hOff.ok
  obtain ⟨fR, fdR, mR, kR, bR, GR⟩ := hRate.ok
  obtain ⟨fI, fdI, mI, kI, bI, GI⟩ := hIdS.ok
  refine F.ok scIL (fun vs H Q E h => ?_) (fun cdv A outer s H vs Q E hr h => ?_)
  · obtain ⟨a, b, T, x, pr, rfl, _⟩ := h
    rfl
  · obtain ⟨a, b, T, x, pr, rfl, hT, o, hb, hx, k⟩ := h
    have nd := scIL.nd
    refine ⟨_, pss_cons (ps_asg (pv 1) (pg_tup rfl (pgs_cons (pg_name (i := 3) nd rfl (Or.inl rfl)) (pgs_cons (pg_name (i := 4) nd rfl (Or.inl rfl)) (pgs_cons (pg_name (i := 5) nd rfl (Or.inl rfl)) pgs_nil)))))
      (pss_cons (ps_set (i := 6) nd rfl (Or.inl rfl) (pe_call GO (hr.mono (by decide)) (by rfl) mO kO bO .nil pass0 (pa_cons (pv 0) pa_nil)))
      (pss_cons (ps_if (pt_cmpR op_eq (pv 3) (pv 6) (nomark _)) (pss_one (ps_ret (pe_tup (pa_cons (pv 1) (pa_cons pe_int pa_nil))))) pss_nil)
      (pss_cons (ps_aug (i := 4) nd rfl (Or.inl rfl) (pv 2) ip_add)
      (pss_cons (ps_set (i := 3) nd rfl (Or.inl rfl) (pe_call GI hr (by rfl) mI kI bI .nil pass0 (pa_cons (pv 0) (pa_cons (pv 4) pa_nil))))
      (pss_cons (ps_if (pt_cmpR op_eq (pv 3) (pv 6) (nomark _)) (pss_one (ps_ret (pe_tup (pa_cons (pe_tup (pa_cons (pv 6) (pa_cons pe_int (pa_cons pe_int pa_nil)))) (pa_cons pe_int pa_nil))))) pss_nil)
      (pss_cons (ps_set (i := 7) nd rfl (Or.inl rfl) (pe_op op_mul (pe_call GR (hr.mono (by decide)) (by rfl) mR kR bR .nil pass0 (pa_cons (pv 0) (pa_cons (pv 3) pa_nil))) (pv 2)))
      (pss_one (ps_ret (pe_tup (pa_cons (pe_tup (pa_cons (pv 3) (pa_cons (pv 4) (pa_cons (pe_op op_add (pv 5) (pv 7)) pa_nil)))) (pa_cons (pv 7) pa_nil))))))))))), ?_⟩
    refine ⟨_, rfl, b, _, rfl, SqT.of hb, rfl, _, _, rfl, _, _, rfl, _, _, rfl, rfl, ?_⟩
    refine ⟨_, rfl, a, T, rfl, hT, _, rfl, _, rfl, rfl, _, rfl, ?_⟩
    by_cases e : x.st = T.n
    · rw [decide_eq_true (show V.int (x.st : Int) = V.int (T.n : Int) by rw [e])]
      refine iteT ?_
      refine ⟨_, rfl, (by show 2 ≤ sizeLine; decide), fun r hrn => ?_⟩
      have eg : idleL T pr x = (x, 0) := by unfold idleL; rw [if_pos e]
      refine k b r _ (sUpd (Same.refl H) hrn) ?_ ?_
      · rw [eg, upd_ne (ne_of_none hb hrn)]
        exact hb
      · rw [eg, upd_same]
    · rw [decide_eq_false (fun z : V.int (x.st : Int) = V.int (T.n : Int) => e (by injection z with z; omega))]
      refine iteF ?_
      refine ⟨_, rfl, _, rfl, _, _, rfl, rfl, ?_⟩
      refine ⟨_, rfl, _, rfl, a, T, _, rfl, hT, o, ?_⟩
      refine ⟨_, rfl, _, rfl, rfl, _, rfl, ?_⟩
      by_cases e2 : idSt T (x.t + pr) = T.n
      · rw [decide_eq_true (show V.int ((idSt T (x.t + pr) : Nat) : Int) = V.int (T.n : Int) by rw [e2])]
        refine iteT ?_
        refine ⟨_, rfl, (by show 3 ≤ sizeLine; decide), fun u hu => ⟨(by show 2 ≤ sizeLine; decide), fun r hrn => ?_⟩⟩
        have eg : idleL T pr x = (⟨T.n, 0, 0⟩, 0) := by unfold idleL; rw [if_neg e, if_pos e2]
        refine k u r _ (sUpd (sUpd (Same.refl H) hu) hrn) ?_ ?_
        · rw [eg, upd_ne (ne_of_none upd_same hrn), upd_same]
          rfl
        · rw [eg, upd_same]
      · rw [decide_eq_false (fun z : V.int ((idSt T (x.t + pr) : Nat) : Int) = V.int (T.n : Int) => e2 (by injection z with z; omega))]
        refine iteF ?_
        refine ⟨_, rfl, _, rfl, a, T, _, rfl, hT, o, idSt_le T _, _, rfl, _, _, rfl, rfl, rate_in o (idSt_le T _) _, ?_⟩
        refine ⟨_, rfl, _, rfl, _, rfl, _, rfl, _, _, rfl, rfl, (by show 3 ≤ sizeLine; decide), fun u hu => ⟨_, rfl, (by show 2 ≤ sizeLine; decide), fun r hrn => ?_⟩⟩
        have eg : idleL T pr x = (⟨idSt T (x.t + pr), x.t + pr, x.c + T.r (idSt T (x.t + pr)) * pr⟩, T.r (idSt T (x.t + pr)) * pr) := by unfold idleL; rw [if_neg e, if_neg e2]
        refine k u r _ (sUpd (sUpd (Same.refl H) hu) hrn) ?_ ?_
        · rw [eg, upd_ne (ne_of_none upd_same hrn), upd_same]
          rfl
        · rw [eg, upd_same]
end
end K50


set_option Elab.async false
set_option maxRecDepth 100000
set_option maxHeartbeats 4000000
namespace K50
open PySem L2
/-! ### moved_lanes and the pool -/
def newL (T : Tar) (pr nd : Int) (y : Nat → Lane) (i : Nat) : Lane := (stepL T pr (dl nd i) (y i)).1
def cosL (T : Tar) (pr nd : Int) (y : Nat → Lane) (i : Nat) : Int := (stepL T pr (dl nd i) (y i)).2
def spML : Sp := fun vs H Q _ => ∃ (a la : Addr) (T : Tar) (y : Nat → Lane) (pr nd : Int), vs = [.ref a, .ref la, .int pr, .int nd] ∧ TarAt H a T ∧ T.Ok ∧ LanesAt 40 H la y ∧ (∀ i, i < 40 → (y i).st ≤ T.n) ∧
  ∀ (u r : Addr) (H' : Hp), Same H H' → H u = none → LanesAt 40 H' u (newL T pr nd y) → H' r = some (.tup [.ref u, .int (sumN (cosL T pr nd y) 40)]) → Q (.ref r) H'
def plF (ta la : Addr) (c : Int) : List (Str × V) := [("tariff", .ref ta), ("_lanes", .ref la), ("_spent", .int c)]
theorem ne_pl : ¬ (("tariff" : Str) = "_lanes") := by decide +kernel
theorem ne_ps : ¬ (("tariff" : Str) = "_spent") := by decide +kernel
theorem ne_ls : ¬ (("_lanes" : Str) = "_spent") := by decide +kernel
theorem pl_t (ta la : Addr) (c : Int) : (plF ta la c).lookup ("tariff" : Str) = some (.ref ta) := by unfold plF; rw [lookup_cons, if_pos rfl]
theorem pl_l (ta la : Addr) (c : Int) : (plF ta la c).lookup ("_lanes" : Str) = some (.ref la) := by unfold plF; rw [lookup_cons, if_neg (Ne.symm ne_pl), lookup_cons, if_pos rfl]
theorem pl_s (ta la : Addr) (c : Int) : (plF ta la c).lookup ("_spent" : Str) = some (.int c) := by unfold plF; rw [lookup_cons, if_neg (Ne.symm ne_ps), lookup_cons, if_neg (Ne.symm ne_ls), lookup_cons, if_pos rfl]
theorem pl_no (ta la : Addr) (c : Int) {m : Str} (h1 : ¬ m = "tariff") (h2 : ¬ m = "_lanes") (h3 : ¬ m = "_spent") : (plF ta la c).lookup m = none := by
  unfold plF
  rw [lookup_cons, if_neg h1, lookup_cons, if_neg h2, lookup_cons, if_neg h3]
  rfl
theorem pl_mk (ta la : Addr) (c : Int) : putF "_spent" (.int c) (putF "_lanes" (.ref la) (putF "tariff" (.ref ta) [])) = plF ta la c := by
  simp only [putF, plF, if_neg ne_pl, if_neg ne_ps, if_neg ne_ls]
theorem pl_puts (ta la : Addr) (c d : Int) : putF "_spent" (.int d) (plF ta la c) = plF ta la d := by
  simp only [putF, plF, if_neg ne_ps, if_neg ne_ls, if_true]
theorem pl_putl (ta la lb : Addr) (c : Int) : putF "_lanes" (.ref lb) (plF ta la c) = plF ta lb c := by
  simp only [putF, plF, if_neg ne_pl, if_true]
structure PoolAt (C : Addr) (H : Hp) (p ta la : Addr) (y : Nat → Lane) (c : Int) : Prop where
  ob : ∃ dx, H p = some (.ins C dx (plF ta la c))
  ls : LanesAt 40 H la y
structure PlTxt (K : PySem.W.Frag) (C : Addr) : Prop where
  cl : Cls K C
  nT : NoAttr K C "tariff"
  nL : NoAttr K C "_lanes"
  nS : NoAttr K C "_spent"
def offL (T : Tar) : Lane := ⟨T.n, 0, 0⟩
/-- all but what stood at p is kept -/
def Kept1 (H H' : Hp) (p : Addr) : Prop := ∀ b o, H b = some o → b ≠ p → H' b = some o
def spPI (C : Addr) : Sp := fun vs H Q _ => ∃ (p dx ta : Addr) (T : Tar), vs = [.ref p, .ref ta] ∧ H p = some (.ins C dx []) ∧ TarAt H ta T ∧ ∀ (la : Addr) (H' : Hp), H la = none → PoolAt C H' p ta la (fun _ => offL T) 0 → Kept1 H H' p → Q .non H'
def spPS (C : Addr) : Sp := fun vs H Q _ => ∃ (p ta la : Addr) (T : Tar) (y : Nat → Lane) (c pr nd : Int), vs = [.ref p, .int pr, .int nd] ∧ PoolAt C H p ta la y c ∧ TarAt H ta T ∧ T.Ok ∧ (∀ i, i < 40 → (y i).st ≤ T.n) ∧
  ∀ (v : V) (lb : Addr) (H' : Hp), H lb = none → PoolAt C H' p ta lb (newL T pr nd y) (c + sumN (cosL T pr nd y) 40) → Kept1 H H' p → Q v H'
def spPE (C : Addr) : Sp := fun vs H Q _ => ∃ (p ta la : Addr) (T : Tar) (y : Nat → Lane) (c : Int), vs = [.ref p] ∧ PoolAt C H p ta la y c ∧ TarAt H ta T ∧ ∀ (lb : Addr) (H' : Hp), H lb = none → PoolAt C H' p ta lb (fun _ => offL T) c → Kept1 H H' p → Q .non H'
def spPSt (C : Addr) : Sp := fun vs H Q _ => ∃ (p ta la : Addr) (y : Nat → Lane) (c : Int), vs = [.ref p] ∧ PoolAt C H p ta la y c ∧ ∀ (r : Addr) (H' : Hp), Same H H' → Q (.ref r) H'
def spPSp (C : Addr) : Sp := fun vs H Q _ => ∃ (p ta la : Addr) (y : Nat → Lane) (c : Int), vs = [.ref p] ∧ PoolAt C H p ta la y c ∧ Q (.int c) H
theorem rep40u (u : Addr) : (List.replicate (40 : Int).toNat [V.ref u]).flatten = (List.replicate 40 u).map V.ref := rfl
theorem lanes_rep {H : Hp} {la u : Addr} {x : Lane} (h1 : H la = some (.lst (List.replicate (40 : Int).toNat [V.ref u]).flatten)) (h2 : H u = some (.tup (laneV x))) : LanesAt 40 H la (fun _ => x) := by
  refine ⟨List.replicate 40 u, List.length_replicate, by rw [← rep40u]; exact h1, fun j b e => ?_⟩
  have hm := List.mem_of_getElem? e
  rw [(List.mem_replicate.mp hm).2]
  exact h2
section
variable {P : Program} {w : World} {K : PySem.W.Frag} {mg : Str → Option Value} {base : Heap}
theorem scML : FnScope ["tariff", "lanes", "price", "need", "found", "total", "index", "lane", "cost"] ["tariff", "lanes", "price", "need"] (defScope sML) := ⟨rfl, rfl, rfl, by decide +kernel, rfl, by decide +kernel, by decide +kernel⟩
theorem ok_ml {f : Addr} {fd : FuncData} (F : Fun K "moved_lanes" "moved_lanes" sML f fd) (ze : mg "enumerate" = none) (hN : Has1 P w K mg base "needed_lane" 3 ["tariff", "lane", "price"] (spLane neededL)) (hI : Has1 P w K mg base "idle_lane" 5 ["tariff", "lane", "price"] (spLane idleL)) :
    FnOk P w K mg base CX0 6 f fd ["tariff", "lanes", "price", "need"] spML := by
  obtain ⟨fN, fdN, mN, kN, bN, GN⟩ := hN.ok
  obtain ⟨fI, fdI, mI, kI, bI, GI⟩ := hI.ok
  refine F.ok scML (fun vs H Q E h => ?_) (fun cdv A outer s H vs Q E hr h => ?_)
  · obtain ⟨a, la, T, y, pr, nd, rfl, _⟩ := h
    rfl
  · obtain ⟨a, la, T, y, pr, nd, rfl, hT, o, hL, hst, k⟩ := h
    have nN := scML.nd
    obtain ⟨bs, hbl, hla, hbs⟩ := id hL.ex
    refine ⟨_, pss_cons (ps_set (i := 4) nN rfl (Or.inl rfl) (pe_lst pa_nil))
      (pss_cons (ps_set (i := 5) nN rfl (Or.inl rfl) pe_int)
      (pss_cons (ps_for PassesOwn.never rfl (pi_enum (by rfl) ze (pa_cons (pv 1) pa_nil)) (pg_tup rfl (pgs_cons (pg_name (i := 6) nN rfl (Or.inl rfl)) (pgs_cons (pg_name (i := 7) nN rfl (Or.inl rfl)) pgs_nil)))
        (pss_cons (ps_if (pt_cmpR op_lt (pv 6) (pv 3) (nomark _))
            (pss_one (ps_asg (pe_call GN (hr.mono (by decide)) (by rfl) mN kN bN .nil pass0 (pa_cons (pv 0) (pa_cons (pv 7) (pa_cons (pv 2) pa_nil)))) (pg_tup rfl (pgs_cons (pg_name (i := 7) nN rfl (Or.inl rfl)) (pgs_cons (pg_name (i := 8) nN rfl (Or.inl rfl)) pgs_nil)))))
            (pss_one (ps_asg (pe_call GI hr (by rfl) mI kI bI .nil pass0 (pa_cons (pv 0) (pa_cons (pv 7) (pa_cons (pv 2) pa_nil)))) (pg_tup rfl (pgs_cons (pg_name (i := 7) nN rfl (Or.inl rfl)) (pgs_cons (pg_name (i := 8) nN rfl (Or.inl rfl)) pgs_nil))))))
        (pss_cons (ps_expr (pe_bm PySem.F.plainAttrs_list PySem.F.slot_list_append PySem.F.type_list_append mt_append (pv 4) (pa_cons (pv 7) pa_nil)))
        (pss_one (ps_aug (i := 5) nN rfl (Or.inl rfl) (pv 8) ip_add)))))
      (pss_one (ps_ret (pe_tup (pa_cons (pv 4) (pa_cons (pv 5) pa_nil))))))), ?_⟩
    refine ⟨Nat.zero_le _, fun u hu => ?_⟩
    refine ⟨_, rfl, la, bs.map V.ref, rfl, SqL.of (sUpd (Same.refl H) hu _ _ hla), ?_⟩
    refine for_it (walk_enum (K := K) (a := la) (xs := bs.map V.ref)) (fun i σ H' => (∃ v6 v7 v8 : Option V, σ = [some (.ref a), some (.ref la), some (.int pr), some (.int nd), some (.ref u), some (.int (sumN (cosL T pr nd y) i)), v6, v7, v8]) ∧
      Same H H' ∧ LanesAt i H' u (newL T pr nd y)) ⟨⟨none, none, none, rfl⟩, sUpd (Same.refl H) hu, LanesAt.nil upd_same⟩ (fun i σ H' _ q => SqL.of (q.2.1 _ _ hla)) ?_ ?_
    · rintro i x σ H1 H2 hi ⟨⟨v6, v7, v8, rfl⟩, s1, L1⟩ ⟨tt, x1, x2, rfl, htt, rfl, e1, e2⟩
      have e1' := Option.some.inj e1
      subst e1'
      rw [List.length_map, hbl] at hi
      replace e2 : (bs.map V.ref)[i]? = some x2 := e2
      obtain ⟨b, hb, rfl⟩ : ∃ b, bs[i]? = some b ∧ x2 = V.ref b := by
        rw [List.getElem?_map] at e2
        cases hq : bs[i]? with
        | none =>
          rw [hq] at e2
          cases e2
        | some b =>
          rw [hq] at e2
          exact ⟨b, rfl, (Option.some.inj e2).symm⟩
      have s2 : Same H (upd H1 tt (.tup [.int (i : Nat), .ref b])) := sUpd s1 htt
      have L2' : LanesAt i (upd H1 tt (.tup [.int (i : Nat), .ref b])) u (newL T pr nd y) := L1.same (sUpd (Same.refl H1) htt)
      have hT2 : TarAt (upd H1 tt (.tup [.int (i : Nat), .ref b])) a T := hT.same fun c xs e => s2 _ _ e
      have hbx := s2 _ _ (hbs i b hb)
      refine ⟨tt, _, rfl, SqT.of upd_same, rfl, _, _, rfl, _, _, rfl, rfl, ?_⟩
      refine ⟨_, rfl, _, rfl, _, _, rfl, rfl, _, rfl, ?_⟩
      -- what follows either call
      have fin : ∀ (g : Tar → Int → Lane → Lane × Int), stepL T pr (dl nd i) (y i) = g T pr (y i) → ∀ (v r : Addr) (H3 : Hp), Same (upd H1 tt (.tup [.int (i : Nat), .ref b])) H3 → H3 v = some (.tup (laneV (g T pr (y i)).1)) →
          ∃ xs : List V, H3 u = some (.lst xs) ∧ xs.length = i ∧ Same H (upd H3 u (.lst (xs ++ [.ref v]))) ∧ LanesAt (i + 1) (upd H3 u (.lst (xs ++ [.ref v]))) u (newL T pr nd y) ∧ sumN (cosL T pr nd y) (i + 1) = sumN (cosL T pr nd y) i + (g T pr (y i)).2 := by
        intro g eg v r H3 s3 hv
        have L3 : LanesAt i H3 u (newL T pr nd y) := L2'.same s3
        obtain ⟨xs, h1, h2, h3⟩ := L3.push (u := v) (by
          unfold newL
          rw [eg]
          exact hv)
        refine ⟨xs, h1, h2, fun c q e => ?_, h3, ?_⟩
        · have e3 := s3 _ _ (s2 _ _ e)
          rw [upd_ne (ne_of_none e hu)]
          exact e3
        · show sumN (cosL T pr nd y) i + cosL T pr nd y i = _
          unfold cosL
          rw [eg]
      by_cases hn : (i : Int) < nd
      · rw [decide_eq_true hn]
        have hd : dl nd i = true := decide_eq_true hn
        refine iteT ?_
        refine ⟨_, rfl, _, rfl, _, rfl, a, b, T, y i, pr, rfl, hT2, o, hbx, hst i hi, fun v r H3 s3 hv hr3 => ?_⟩
        refine ⟨r, _, rfl, SqT.of hr3, rfl, _, _, rfl, _, _, rfl, rfl, ?_⟩
        obtain ⟨xs, h1, h2, h3, h4, h5⟩ := fin neededL (by rw [hd]; rfl) v r H3 s3 hv
        refine ⟨_, rfl, .inl ⟨rfl, _, SqL.of h1⟩, _, rfl, u, xs, _, rfl, rfl, h1, (by rw [h2]; exact small1000 (by omega)), ?_⟩
        refine ⟨_, rfl, _, rfl, _, _, rfl, rfl, ?_⟩
        refine ⟨⟨some (.int (i : Int)), some (.ref v), some (.int (neededL T pr (y i)).2), ?_⟩, h3, h4⟩
        rw [h5]
        rfl
      · rw [decide_eq_false hn]
        have hd : dl nd i = false := decide_eq_false hn
        refine iteF ?_
        refine ⟨_, rfl, _, rfl, _, rfl, a, b, T, y i, pr, rfl, hT2, o, hbx, hst i hi, fun v r H3 s3 hv hr3 => ?_⟩
        refine ⟨r, _, rfl, SqT.of hr3, rfl, _, _, rfl, _, _, rfl, rfl, ?_⟩
        obtain ⟨xs, h1, h2, h3, h4, h5⟩ := fin idleL (by rw [hd]; rfl) v r H3 s3 hv
        refine ⟨_, rfl, .inl ⟨rfl, _, SqL.of h1⟩, _, rfl, u, xs, _, rfl, rfl, h1, (by rw [h2]; exact small1000 (by omega)), ?_⟩
        refine ⟨_, rfl, _, rfl, _, _, rfl, rfl, ?_⟩
        refine ⟨⟨some (.int (i : Int)), some (.ref v), some (.int (idleL T pr (y i)).2), ?_⟩, h3, h4⟩
        rw [h5]
        rfl
    · rintro σ H' ⟨⟨v6, v7, v8, rfl⟩, s1, L1⟩
      have en : (bs.map V.ref).length = 40 := by rw [List.length_map, hbl]
      rw [en] at L1 ⊢
      refine ⟨_, rfl, _, rfl, (by show 2 ≤ sizeLine; decide), fun r hrn => ?_⟩
      exact k u r _ (sUpd s1 hrn) hu (L1.same (sUpd (Same.refl H') hrn)) upd_same
end
end K50


set_option Elab.async false
set_option maxRecDepth 100000
set_option maxHeartbeats 4000000
namespace K50
open PySem L2
section
variable {P : Program} {w : World} {K : PySem.W.Frag} {mg : Str → Option Value} {base : Heap}
theorem scPI : FnScope ["self", "tariff"] ["self", "tariff"] (defScope sPI) := ⟨rfl, rfl, rfl, by decide +kernel, rfl, by decide +kernel, by decide +kernel⟩
theorem ok_pi {f C : Addr} {fd : FuncData} {t : Tok} (F : Fun K "__init__" "Pool.__init__" sPI f fd) (T : PlTxt K C) (mL : mg "LANES" = some (.int 40 t)) (hOff : Has1 P w K mg base "off" 1 ["tariff"] spOff) : FnOk P w K mg base CX0 2 f fd ["self", "tariff"] (spPI C) := by
  obtain ⟨fO, fdO, mO, kO, bO, GO⟩ := hOff.ok
  refine F.ok scPI (fun vs H Q E h => ?_) (fun cdv A outer s H vs Q E hr h => ?_)
  · obtain ⟨p, dx, ta, T', rfl, _⟩ := h
    rfl
  · obtain ⟨p, dx, ta, T', rfl, hp, hT, k⟩ := h
    refine ⟨_, pss_cons (ps_fld (pv 0) (pv 1) rfl)
      (pss_cons (ps_fld (pv 0) (pe_op op_rep (pe_lst (pa_cons (pe_tup (pa_cons (pe_call GO hr (by rfl) mO kO bO .nil pass0 (pa_cons (pv 1) pa_nil)) (pa_cons pe_int (pa_cons pe_int pa_nil)))) pa_nil)) (pe_glob (v := .int 40) rfl mL ⟨_, rfl⟩)) rfl)
      (pss_one (ps_fld (pv 0) pe_int rfl))), ?_⟩
    refine ⟨_, rfl, _, rfl, p, C, dx, _, rfl, hp, T.cl, T.nT, (by show 0 < 1000; decide), ?_⟩
    have k0 : Kept1 H (upd H p (.ins C dx (putF "tariff" (.ref ta) []))) p := fun b o e hb => by rw [upd_ne hb]; exact e
    have hT1 : TarAt (upd H p (.ins C dx (putF "tariff" (.ref ta) []))) ta T' := hT.same fun b xs e => k0 b _ e (ne_of e hp (by intro z; cases z))
    refine ⟨_, rfl, ta, T', rfl, hT1, (by show 3 ≤ sizeLine; decide), fun u hu => ⟨(by show 1 ≤ sizeLine; decide), fun l hl => ?_⟩⟩
    have npu : p ≠ u := ne_of_none upd_same hu
    have npl : p ≠ l := ne_of_none (by rw [upd_ne npu]; exact upd_same) hl
    have nul : u ≠ l := ne_of_none upd_same hl
    refine ⟨l, _, _, rfl, rfl, upd_same, by decide, by decide, (by show 1 * (40 : Int).toNat ≤ sizeLine; decide), fun m hm => ?_⟩
    have npm : p ≠ m := ne_of_none (by rw [upd_ne npl, upd_ne npu]; exact upd_same) hm
    have num : u ≠ m := ne_of_none (by rw [upd_ne nul]; exact upd_same) hm
    have nlm : l ≠ m := ne_of_none upd_same hm
    refine ⟨_, rfl, p, C, dx, _, rfl, (by rw [upd_ne npm, upd_ne npl, upd_ne npu]; exact upd_same), T.cl, T.nL, (by show 1 < 1000; decide), _, rfl, p, C, dx, _, rfl, upd_same, T.cl, T.nS, (by show 2 < 1000; decide), ?_⟩
    have hu0 : H u = none := by
      rw [upd_ne npu.symm] at hu
      exact hu
    have hl0 : H l = none := by
      rw [upd_ne nul.symm, upd_ne npl.symm] at hl
      exact hl
    have hm0 : H m = none := by
      rw [upd_ne nlm.symm, upd_ne num.symm, upd_ne npm.symm] at hm
      exact hm
    refine k m _ hm0 ⟨⟨dx, ?_⟩, lanes_rep (u := u) ?_ ?_⟩ fun b o e hb => ?_
    · rw [upd_same, pl_mk]
    · rw [upd_ne npm.symm, upd_ne npm.symm, upd_same]
    · rw [upd_ne npu.symm, upd_ne npu.symm, upd_ne num, upd_ne nul, upd_same]
      rfl
    · rw [upd_ne hb, upd_ne hb, upd_ne (ne_of_none e hm0), upd_ne (ne_of_none e hl0), upd_ne (ne_of_none e hu0), upd_ne hb]
      exact e
theorem scPE : FnScope ["self"] ["self"] (defScope sPE) := ⟨rfl, rfl, rfl, by decide +kernel, rfl, by decide +kernel, by decide +kernel⟩
theorem ok_pe {f C : Addr} {fd : FuncData} {t : Tok} (F : Fun K "end_break" "Pool.end_break" sPE f fd) (T : PlTxt K C) (mL : mg "LANES" = some (.int 40 t)) (hOff : Has1 P w K mg base "off" 1 ["tariff"] spOff) : FnOk P w K mg base CX0 2 f fd ["self"] (spPE C) := by
  obtain ⟨fO, fdO, mO, kO, bO, GO⟩ := hOff.ok
  refine F.ok scPE (fun vs H Q E h => ?_) (fun cdv A outer s H vs Q E hr h => ?_)
  · obtain ⟨p, ta, la, T', y, c, rfl, _⟩ := h
    rfl
  · obtain ⟨p, ta, la, T', y, c, rfl, B, hT, k⟩ := h
    obtain ⟨dx, h1⟩ := B.ob
    refine ⟨_, pss_one (ps_fld (pv 0) (pe_op op_rep (pe_lst (pa_cons (pe_tup (pa_cons (pe_call GO hr (by rfl) mO kO bO .nil pass0 (pa_cons (pe_fld (pv 0) rfl) pa_nil)) (pa_cons pe_int (pa_cons pe_int pa_nil)))) pa_nil)) (pe_glob (v := .int 40) rfl mL ⟨_, rfl⟩)) rfl), ?_⟩
    refine ⟨_, rfl, p, C, dx, _, _, rfl, h1, T.cl, T.nT, pl_t _ _ _, ta, T', rfl, hT, (by show 3 ≤ sizeLine; decide), fun u hu => ⟨(by show 1 ≤ sizeLine; decide), fun l hl => ?_⟩⟩
    have s1 := sUpd (Same.refl H) (o := .tup [.int (T'.n : Int), .int 0, .int 0]) hu
    have s2 := sUpd s1 (o := .lst [.ref u]) hl
    have nul : u ≠ l := ne_of_none upd_same hl
    refine ⟨l, _, _, rfl, rfl, upd_same, by decide, by decide, (by show 1 * (40 : Int).toNat ≤ sizeLine; decide), fun m hm => ?_⟩
    have s3 := sUpd s2 (o := .lst (List.replicate (40 : Int).toNat [V.ref u]).flatten) hm
    have h3 := s3 _ _ h1
    have num : u ≠ m := ne_of_none (by rw [upd_ne nul]; exact upd_same) hm
    refine ⟨_, rfl, p, C, dx, _, rfl, h3, T.cl, T.nL, (by show 3 < 1000; decide), ?_⟩
    have npm : p ≠ m := ne_of h3 upd_same (by intro z; cases z)
    have npu : p ≠ u := ne_of_none h1 hu
    have nlm : l ≠ m := ne_of_none upd_same hm
    have hl0 : H l = none := by
      rw [upd_ne nul.symm] at hl
      exact hl
    have hm0 : H m = none := by
      rw [upd_ne nlm.symm, upd_ne num.symm] at hm
      exact hm
    rw [pl_putl]
    refine k m _ hm0 ⟨⟨dx, upd_same⟩, lanes_rep (u := u) ?_ ?_⟩ fun b o e hb => ?_
    · rw [upd_ne npm.symm, upd_same]
    · rw [upd_ne npu.symm, upd_ne num, upd_ne nul, upd_same]
      rfl
    · rw [upd_ne hb]
      exact s3 _ _ e
theorem scPSt : FnScope ["self", "lane"] ["self"] (defScope sPSt) := ⟨rfl, rfl, rfl, by decide +kernel, rfl, by decide +kernel, by decide +kernel⟩
theorem ok_pst {f C : Addr} {fd : FuncData} (F : Fun K "states" "Pool.states" sPSt f fd) (T : PlTxt K C) (zt : mg "tuple" = none) : FnOk P w K mg base CX0 1 f fd ["self"] (spPSt C) := by
  refine F.ok scPSt (fun vs H Q E h => ?_) (fun cdv A outer s H vs Q E hr h => ?_)
  · obtain ⟨p, ta, la, y, c, rfl, _⟩ := h
    rfl
  · obtain ⟨p, ta, la, y, c, rfl, B, k⟩ := h
    obtain ⟨dx, h1⟩ := B.ob
    obtain ⟨bs, hbl, hla, hbs⟩ := B.ls.ex
    have nd := scPSt.nd
    refine ⟨_, pss_one (ps_ret (pe_callTy call_tuple_of (by rfl) zt (by decide +kernel) (pa_cons
      (pe_lc (own := [("lane", 1)]) (g := gName 1) (tt := tYes) rfl nd (pi_list (pe_fld (pv 0) rfl)) (blkOk_by (N := ["self", "lane"]) (sc := defScope sPSt) (by decide +kernel)) (fun _ _ _ _ _ => pg_name (i := 1) nd rfl (Or.inl rfl)) (fun _ _ _ _ _ => pts_nil)
        (fun _ _ _ _ _ => pe_ix (r := rIxT K) ix_tup (pv 1) pe_int (fun _ _ => rfl))) pa_nil))), ?_⟩
    refine ⟨_, rfl, p, C, dx, _, _, rfl, h1, T.cl, T.nL, pl_l _ _ _, la, rfl, ⟨_, SqL.of hla⟩, fun D hD => ?_⟩
    refine lc_list (K := K) (a := la) (xs := bs.map V.ref) (fun i H' => Same H H' ∧ ∃ acc : List V, H' D = some (.lst acc) ∧ acc.length = i) ⟨sUpd (Same.refl H) hD, [], upd_same, rfl⟩ (fun i H' _ q => SqL.of (q.1 _ _ hla)) ?_ ?_
    · rintro i x H' hx ⟨s1, acc, ha, hl⟩
      have hi := (List.getElem?_eq_some_iff.mp hx).1
      rw [List.length_map, hbl] at hi
      obtain ⟨b, hb, rfl⟩ : ∃ b, bs[i]? = some b ∧ x = V.ref b := by
        rw [List.getElem?_map] at hx
        cases hq : bs[i]? with
        | none =>
          rw [hq] at hx
          cases hx
        | some b =>
          rw [hq] at hx
          exact ⟨b, rfl, (Option.some.inj hx).symm⟩
      refine ⟨rfl, ?_⟩
      refine ⟨_, rfl, b, _, _, _, rfl, rfl, SqT.of (s1 _ _ (hbs i b hb)), atI_nat (j := 0) rfl, acc, ha, (by rw [hl]; exact small1000 (by omega)), fun c o e => ?_, _, upd_same, by rw [List.length_append, hl]; rfl⟩
      have e3 := s1 _ _ e
      rw [upd_ne (ne_of_none e hD)]
      exact e3
    · rintro H' ⟨s1, acc, ha, hl⟩
      exact ⟨D, acc, rfl, .inl ⟨SqL.of ha, fun l hl' => k l _ (sUpd s1 hl')⟩⟩
theorem scPSp : FnScope ["self"] ["self"] (defScope sPSp) := ⟨rfl, rfl, rfl, by decide +kernel, rfl, by decide +kernel, by decide +kernel⟩
theorem ok_psp {f C : Addr} {fd : FuncData} (F : Fun K "spent" "Pool.spent" sPSp f fd) (T : PlTxt K C) : FnOk P w K mg base CX0 1 f fd ["self"] (spPSp C) := by
  refine F.ok scPSp (fun vs H Q E h => ?_) (fun cdv A outer s H vs Q E hr h => ?_)
  · obtain ⟨p, ta, la, y, c, rfl, _⟩ := h
    rfl
  · obtain ⟨p, ta, la, y, c, rfl, B, q⟩ := h
    obtain ⟨dx, h1⟩ := B.ob
    refine ⟨_, pss_one (ps_ret (pe_fld (pv 0) rfl)), ?_⟩
    exact ⟨_, rfl, p, C, dx, _, _, rfl, h1, T.cl, T.nS, pl_s _ _ _, q⟩
theorem scPS : FnScope ["self", "price", "need", "cost"] ["self", "price", "need"] (defScope sPS) := ⟨rfl, rfl, rfl, by decide +kernel, rfl, by decide +kernel, by decide +kernel⟩
theorem ok_ps {f C fS : Addr} {fd fdS : FuncData} (F : Fun K "step" "Pool.step" sPS f fd) (T : PlTxt K C) (hML : Has1 P w K mg base "moved_lanes" 6 ["tariff", "lanes", "price", "need"] spML)
    (MS : Meth K C "states" fS) (bS : Binds K fdS ["self"] []) (GS : FnOk P w K mg base CX0 1 fS fdS ["self"] (spPSt C)) : FnOk P w K mg base CX0 7 f fd ["self", "price", "need"] (spPS C) := by
  obtain ⟨fM, fdM, mM, kM, bM, GM⟩ := hML.ok
  refine F.ok scPS (fun vs H Q E h => ?_) (fun cdv A outer s H vs Q E hr h => ?_)
  · obtain ⟨p, ta, la, T', y, c, pr, nd, rfl, _⟩ := h
    rfl
  · obtain ⟨p, ta, la, T', y, c, pr, nd, rfl, B, hT, o, hst, k⟩ := h
    obtain ⟨dx, h1⟩ := B.ob
    have nN := scPS.nd
    refine ⟨_, pss_cons (ps_asg (pe_call GM hr (by rfl) mM kM bM .nil pass0 (pa_cons (pe_fld (pv 0) rfl) (pa_cons (pe_fld (pv 0) rfl) (pa_cons (pv 1) (pa_cons (pv 2) pa_nil))))) (pg_tup rfl (pgs_cons (pg_fld (pv 0)) (pgs_cons (pg_name (i := 3) nN rfl (Or.inl rfl)) pgs_nil))))
      (pss_cons (ps_fldaug (pv 0) (pv 3) in_add)
      (pss_one (ps_ret (pe_tup (pa_cons (pe_meth0 (pv 0) T.cl MS GS (hr.mono (by decide)) bS .nil pass0) (pa_cons (pv 3) pa_nil)))))), ?_⟩
    refine ⟨_, rfl, p, C, dx, _, _, rfl, h1, T.cl, T.nT, pl_t _ _ _, _, rfl, p, C, dx, _, _, rfl, h1, T.cl, T.nL, pl_l _ _ _, _, rfl, _, rfl, ta, la, T', y, pr, nd, rfl, hT, o, B.ls, hst, fun u r H1 s1 hu0 L1 hr1 => ?_⟩
    have h2 := s1 _ _ h1
    refine ⟨r, _, rfl, SqT.of hr1, rfl, _, _, rfl, _, rfl, p, C, dx, _, rfl, h2, T.cl, T.nL, (by show 3 < 1000; decide), _, _, rfl, rfl, ?_⟩
    rw [pl_putl]
    refine ⟨_, rfl, p, C, dx, _, _, rfl, upd_same, T.cl, T.nS, pl_s _ _ _, _, rfl, _, _, rfl, rfl, dx, _, upd_same, (by show 3 < 1000; decide), ?_⟩
    rw [upd_upd, pl_puts]
    have npu : u ≠ p := by
      obtain ⟨bs, _, hlu, _⟩ := L1.ex
      exact ne_of hlu h2 (by intro z; cases z)
    have L2' : LanesAt 40 (upd H1 p (.ins C dx (plF ta u (c + sumN (cosL T' pr nd y) 40)))) u (newL T' pr nd y) := by
      obtain ⟨bs, hbl, hlu, hbs⟩ := L1.ex
      refine ⟨bs, hbl, by rw [upd_ne npu]; exact hlu, fun j b e => ?_⟩
      have e2 := hbs j b e
      rw [upd_ne (ne_of e2 h2 (by intro z; cases z))]
      exact e2
    have B2 : PoolAt C (upd H1 p (.ins C dx (plF ta u (c + sumN (cosL T' pr nd y) 40)))) p ta u (newL T' pr nd y) (c + sumN (cosL T' pr nd y) 40) := ⟨⟨dx, upd_same⟩, L2'⟩
    refine ⟨_, rfl, p, dx, _, rfl, upd_same, pl_no _ _ _ (by decide +kernel) (by decide +kernel) (by decide +kernel), p, ta, u, _, _, rfl, B2, fun v H3 s3 => ?_⟩
    refine ⟨_, rfl, (by show 2 ≤ sizeLine; decide), fun t ht => ?_⟩
    have s4 := sUpd s3 (o := .tup [.ref v, .int (sumN (cosL T' pr nd y) 40)]) ht
    refine k _ u _ hu0 ⟨⟨dx, s4 _ _ upd_same⟩, L2'.same s4⟩ fun b q e hb => ?_
    refine s4 _ _ ?_
    rw [upd_ne hb]
    exact s1 _ _ e
end
end K50


set_option Elab.async false
set_option maxRecDepth 100000
set_option maxHeartbeats 4000000
namespace K50
open PySem L2
/-! ### least_of, next_work -/
theorem fm_succ (i : Nat) (g : Nat → Option Int) : (List.range (i + 1)).filterMap g = (List.range i).filterMap g ++ (match g i with | some x => [x] | none => []) := by
  rw [List.range_succ, List.filterMap_append]
  congr 1
  cases h : g i with
  | none => simp [h]
  | some x => simp [h]
theorem fm_none {i : Nat} {g : Nat → Option Int} (h : g i = none) : (List.range (i + 1)).filterMap g = (List.range i).filterMap g := by
  rw [fm_succ, h]
  simp
theorem fm_some {i : Nat} {g : Nat → Option Int} {x : Int} (h : g i = some x) : (List.range (i + 1)).filterMap g = (List.range i).filterMap g ++ [x] := by
  rw [fm_succ, h]
theorem fm_mem {i : Nat} {g : Nat → Option Int} {x : Int} : x ∈ (List.range i).filterMap g ↔ ∃ j, j < i ∧ g j = some x := by
  rw [List.mem_filterMap]
  constructor
  · rintro ⟨j, hj, e⟩
    exact ⟨j, List.mem_range.mp hj, e⟩
  · rintro ⟨j, hj, e⟩
    exact ⟨j, List.mem_range.mpr hj, e⟩
theorem fm_len (i : Nat) (g : Nat → Option Int) : ((List.range i).filterMap g).length ≤ i := by
  have h := List.length_filterMap_le g (List.range i)
  rw [List.length_range] at h
  exact h
def spLO : Sp := fun vs H Q _ => ∃ (l : Addr) (T : Tar) (ws : Nat → Option Int), vs = [.ref l] ∧ H l = some (.lst (ol (T.n + 1) ws)) ∧ T.n ≤ 4 ∧ (∃ y, Has T ws y) ∧ ∀ (m : Int) (H' : Hp), Same H H' → LeastOf (Has T ws) (some m) → Q (.int m) H'
/-- what comes from the state i -/
def cnd (T : Tar) (ws : Nat → Option Int) (p : Int) (j i : Nat) : Option Int := match ws i, stepc T i j with
  | some v, some s => some (v + s + T.r j * p)
  | _, _ => none
theorem cnd_cand {T : Tar} {ws : Nat → Option Int} {p : Int} {j : Nat} {y : Int} : (∃ i, i < T.n + 1 ∧ cnd T ws p j i = some y) ↔ Cand T ws p j y := by
  constructor
  · rintro ⟨i, hi, e⟩
    unfold cnd at e
    cases h1 : ws i with
    | none => rw [h1] at e; cases e
    | some v =>
      cases h2 : stepc T i j with
      | none => rw [h1, h2] at e; cases e
      | some s =>
        rw [h1, h2] at e
        exact ⟨i, v, s, by omega, h1, h2, (Option.some.inj e).symm⟩
  · rintro ⟨i, v, s, hi, h1, h2, rfl⟩
    refine ⟨i, by omega, ?_⟩
    unfold cnd
    rw [h1, h2]
def spNW : Sp := fun vs H Q _ => ∃ (a l : Addr) (T : Tar) (ws : Nat → Option Int) (pr : Int) (j : Nat), vs = [.ref a, .ref l, .int pr, .int (j : Int)] ∧ TarAt H a T ∧ T.Ok ∧ H l = some (.lst (ol (T.n + 1) ws)) ∧ j ≤ T.n ∧
  ∀ (o : Option Int) (H' : Hp), Same H H' → LeastOf (Cand T ws pr j) o → Q (oV o) H'
section
variable {P : Program} {w : World} {K : PySem.W.Frag} {mg : Str → Option Value} {base : Heap}
theorem scLO : FnScope ["works", "work"] ["works"] (defScope sLO) := ⟨rfl, rfl, rfl, by decide +kernel, rfl, by decide +kernel, by decide +kernel⟩
theorem ok_lo {f : Addr} {fd : FuncData} (F : Fun K "least_of" "least_of" sLO f fd) (zm : mg "min" = none) : FnOk P w K mg base CX0 1 f fd ["works"] spLO := by
  refine F.ok scLO (fun vs H Q E h => ?_) (fun cdv A outer s H vs Q E hr h => ?_)
  · obtain ⟨l, T, ws, rfl, _⟩ := h
    rfl
  · obtain ⟨l, T, ws, rfl, hl, n4, ⟨y0, hy0⟩, k⟩ := h
    have nd := scLO.nd
    refine ⟨_, pss_one (ps_ret (pe_callB (cr_min rfl) (by rfl) zm (by decide +kernel) (pa_cons
      (pe_lc (own := [("work", 1)]) (g := gName 1) (tt := tTest (tOp (fun x y H Q => y = .non ∧ Q (.bl (!decide (x = .non))) H) (tVar 1) (tC .non))) rfl nd (pi_list (pv 0)) (blkOk_by (N := ["works", "work"]) (sc := defScope sLO) (by decide +kernel)) (fun _ _ _ _ _ => pg_name (i := 1) nd rfl (Or.inl rfl))
        (fun _ _ _ _ _ => pts_one (pt_cmpR op_notN (pv 1) pe_non (nomark _)))
        (fun _ _ _ _ _ => pv 1)) pa_nil))), ?_⟩
    refine ⟨_, rfl, l, rfl, ⟨_, SqL.of hl⟩, fun D hD => ?_⟩
    refine lc_list (K := K) (a := l) (xs := ol (T.n + 1) ws) (fun i H' => Same H H' ∧ H' D = some (.lst (((List.range i).filterMap ws).map V.int))) ⟨sUpd (Same.refl H) hD, upd_same⟩ (fun i H' _ q => SqL.of (q.1 _ _ hl)) ?_ ?_
    · rintro i x H' hx ⟨s1, ha⟩
      have hi := (List.getElem?_eq_some_iff.mp hx).1
      rw [ol_len] at hi
      rw [ol_get hi] at hx
      have ex := Option.some.inj hx
      subst ex
      refine ⟨rfl, _, rfl, rfl, _, rfl, ?_⟩
      cases hw : ws i with
      | none =>
        refine iteF ?_
        refine ⟨s1, ?_⟩
        rw [fm_none hw]
        exact ha
      | some v =>
        refine iteT ?_
        refine ⟨_, rfl, _, ha, ?_, fun c o e => ?_, ?_⟩
        · rw [List.length_map]
          exact small1000 (Nat.le_trans (fm_len i ws) (by omega))
        · have e3 := s1 _ _ e
          rw [upd_ne (ne_of_none e hD)]
          exact e3
        · rw [upd_same, fm_some hw, List.map_append]
          rfl
    · rintro H' ⟨s1, ha⟩
      rw [ol_len] at ha
      obtain ⟨j0, hj0, e0⟩ := hy0
      have hmem : y0 ∈ (List.range (T.n + 1)).filterMap ws := fm_mem.mpr ⟨j0, by omega, e0⟩
      refine ⟨D, _, rfl, SqL.of ha, List.length_pos_of_mem hmem, fun m hm hle => k m H' s1 ⟨?_, fun y hy => ?_⟩⟩
      · obtain ⟨j, hj, e⟩ := fm_mem.mp hm
        exact ⟨j, by omega, e⟩
      · obtain ⟨j, hj, e⟩ := hy
        exact hle y (fm_mem.mpr ⟨j, by omega, e⟩)
theorem scNW : FnScope ["tariff", "works", "price", "state", "found", "before", "work", "step"] ["tariff", "works", "price", "state"] (defScope sNW) := ⟨rfl, rfl, rfl, by decide +kernel, rfl, by decide +kernel, by decide +kernel⟩
theorem ok_nw {f : Addr} {fd : FuncData} (F : Fun K "next_work" "next_work" sNW f fd) (ze : mg "enumerate" = none) (zm : mg "min" = none) (hStp : Has1 P w K mg base "step_cost" 2 ["tariff", "before", "after"] spStp) (hRate : Has1 P w K mg base "rate" 2 ["tariff", "state"] spRate) :
    FnOk P w K mg base CX0 3 f fd ["tariff", "works", "price", "state"] spNW := by
  obtain ⟨fS, fdS, mS, kS, bS, GS⟩ := hStp.ok
  obtain ⟨fR, fdR, mR, kR, bR, GR⟩ := hRate.ok
  refine F.ok scNW (fun vs H Q E h => ?_) (fun cdv A outer s H vs Q E hr h => ?_)
  · obtain ⟨a, l, T, ws, pr, j, rfl, _⟩ := h
    rfl
  · obtain ⟨a, l, T, ws, pr, j, rfl, hT, o, hl, hj, k⟩ := h
    have nN := scNW.nd
    have n4 := o.n4
    refine ⟨_, pss_cons (ps_set (i := 4) nN rfl (Or.inl rfl) (pe_lst pa_nil))
      (pss_cons (ps_for PassesOwn.never rfl (pi_enum (by rfl) ze (pa_cons (pv 1) pa_nil)) (pg_tup rfl (pgs_cons (pg_name (i := 5) nN rfl (Or.inl rfl)) (pgs_cons (pg_name (i := 6) nN rfl (Or.inl rfl)) pgs_nil)))
        (pss_cons (ps_set (i := 7) nN rfl (Or.inl rfl) (pe_call GS hr (by rfl) mS kS bS .nil pass0 (pa_cons (pv 0) (pa_cons (pv 5) (pa_cons (pv 3) pa_nil)))))
        (pss_one (ps_if (PW.pt (pw_and (pt_cmpR op_notN (pv 6) pe_non (nomark _)) (pw_and1 (pt_cmpR op_notN (pv 7) pe_non (nomark _)))))
          (pss_one (ps_expr (pe_bm PySem.F.plainAttrs_list PySem.F.slot_list_append PySem.F.type_list_append mt_append (pv 4) (pa_cons
            (pe_op op_add (pe_op op_add (pv 6) (pv 7)) (pe_op op_mul (pe_call GR hr (by rfl) mR kR bR .nil pass0 (pa_cons (pv 0) (pa_cons (pv 3) pa_nil))) (pv 2))) pa_nil)))) pss_nil))))
      (pss_one (ps_ret (pe_callBK (cr_minD rfl (hu_of hr)) (by rfl) zm (by decide +kernel) (pa_cons (pv 4) pa_nil) (pk_cons pe_non pk_nil))))), ?_⟩
    refine ⟨Nat.zero_le _, fun u hu => ?_⟩
    refine ⟨_, rfl, l, _, rfl, SqL.of (sUpd (Same.refl H) hu _ _ hl), ?_⟩
    refine for_it (walk_enum (K := K) (a := l) (xs := ol (T.n + 1) ws)) (fun i σ H' => (∃ v5 v6 v7 : Option V, σ = [some (.ref a), some (.ref l), some (.int pr), some (.int (j : Int)), some (.ref u), v5, v6, v7]) ∧
      Same H H' ∧ H' u = some (.lst (((List.range i).filterMap (cnd T ws pr j)).map V.int))) ⟨⟨none, none, none, rfl⟩, sUpd (Same.refl H) hu, upd_same⟩ (fun i σ H' _ q => SqL.of (q.2.1 _ _ hl)) ?_ ?_
    · rintro i x σ H1 H2 hi ⟨⟨v5, v6, v7, rfl⟩, s1, hu1⟩ ⟨tt, x1, x2, rfl, htt, rfl, e1, e2⟩
      have e1' := Option.some.inj e1
      subst e1'
      rw [ol_len] at hi
      replace e2 : (ol (T.n + 1) ws)[i]? = some x2 := e2
      rw [ol_get hi] at e2
      have e2' := Option.some.inj e2
      subst e2'
      have s2 : Same H (upd H1 tt (.tup [.int (i : Nat), oV (ws i)])) := sUpd s1 htt
      have hT2 : TarAt (upd H1 tt (.tup [.int (i : Nat), oV (ws i)])) a T := hT.same fun c xs e => s2 _ _ e
      have hu2 : (upd H1 tt (.tup [.int (i : Nat), oV (ws i)])) u = some (.lst (((List.range i).filterMap (cnd T ws pr j)).map V.int)) := by
        rw [upd_ne (ne_of_none hu1 htt)]
        exact hu1
      refine ⟨tt, _, rfl, SqT.of upd_same, rfl, _, _, rfl, _, _, rfl, rfl, ?_⟩
      refine ⟨_, rfl, _, rfl, _, rfl, a, T, i, j, rfl, hT2, by omega, ?_⟩
      refine ⟨_, rfl, rfl, _, rfl, ?_⟩
      cases hw : ws i with
      | none =>
        refine iteF ?_
        refine iteF ?_
        have hc : cnd T ws pr j i = none := by unfold cnd; rw [hw]
        refine ⟨⟨_, _, _, rfl⟩, ?_⟩
        rw [← hw]
        refine ⟨s2, ?_⟩
        rw [fm_none hc]
        exact hu2
      | some v =>
        refine iteT ?_
        refine ⟨_, rfl, rfl, _, rfl, ?_⟩
        rw [← hw]
        cases hs : stepc T i j with
        | none =>
          refine iteF ?_
          have hc : cnd T ws pr j i = none := by unfold cnd; rw [hw, hs]
          refine ⟨⟨_, _, _, rfl⟩, s2, ?_⟩
          rw [fm_none hc]
          exact hu2
        | some st =>
          refine iteT ?_
          have hc : cnd T ws pr j i = some (v + st + T.r j * pr) := by unfold cnd; rw [hw, hs]
          refine ⟨_, rfl, .inl ⟨rfl, _, SqL.of hu2⟩, _, rfl, _, rfl, _, _, (by rw [hw]; rfl), rfl, _, rfl, _, rfl, a, T, j, rfl, hT2, o, hj, _, rfl, _, _, rfl, rfl, rate_in o hj _, _, _, rfl, rfl, u, _, _, rfl, rfl, hu2, ?_, ?_⟩
          · rw [List.length_map]
            exact small1000 (Nat.le_trans (fm_len i _) (by omega))
          · refine ⟨⟨_, _, _, rfl⟩, fun c q e => ?_, ?_⟩
            · rw [upd_ne (ne_of_none e hu)]
              exact s2 _ _ e
            · rw [upd_same, fm_some hc, List.map_append]
              rfl
    · rintro σ H' ⟨⟨v5, v6, v7, rfl⟩, s1, hu1⟩
      rw [ol_len] at hu1
      refine ⟨_, rfl, u, _, _, rfl, rfl, SqL.of hu1, fun e => ?_, fun m hm hle => ?_⟩
      · refine k none H' s1 fun y hy => ?_
        have := fm_mem.mpr (cnd_cand.mpr hy)
        rw [e] at this
        cases this
      · refine k (some m) H' s1 ⟨cnd_cand.mp (fm_mem.mp hm), fun y hy => hle y (fm_mem.mpr (cnd_cand.mpr hy))⟩
end
end K50


set_option Elab.async false
set_option maxRecDepth 100000
set_option maxHeartbeats 4000000
namespace K50
open PySem L2
/-! ### the class Works -/
def wkF (ta wl : Addr) : List (Str × V) := [("_tariff", .ref ta), ("_works", .ref wl)]
theorem ne_tw : ¬ (("_tariff" : Str) = "_works") := by decide +kernel
theorem wk_t (ta wl : Addr) : (wkF ta wl).lookup ("_tariff" : Str) = some (.ref ta) := by unfold wkF; rw [lookup_cons, if_pos rfl]
theorem wk_w (ta wl : Addr) : (wkF ta wl).lookup ("_works" : Str) = some (.ref wl) := by unfold wkF; rw [lookup_cons, if_neg (Ne.symm ne_tw), lookup_cons, if_pos rfl]
theorem wk_no (ta wl : Addr) {m : Str} (h1 : ¬ m = "_tariff") (h2 : ¬ m = "_works") : (wkF ta wl).lookup m = none := by
  unfold wkF
  rw [lookup_cons, if_neg h1, lookup_cons, if_neg h2]
  rfl
theorem wk_mk (ta wl : Addr) : putF "_works" (.ref wl) (putF "_tariff" (.ref ta) []) = wkF ta wl := by
  simp only [putF, wkF, if_neg ne_tw]
theorem wk_putw (ta wl wm : Addr) : putF "_works" (.ref wm) (wkF ta wl) = wkF ta wm := by
  simp only [putF, wkF, if_neg ne_tw, if_true]
structure WkAt (C : Addr) (H : Hp) (p ta wl : Addr) (T : Tar) (ws : Nat → Option Int) : Prop where
  ob : ∃ dx, H p = some (.ins C dx (wkF ta wl))
  ls : H wl = some (.lst (ol (T.n + 1) ws))
structure WkTxt (K : PySem.W.Frag) (C : Addr) : Prop where
  cl : Cls K C
  nT : NoAttr K C "_tariff"
  nW : NoAttr K C "_works"
/-- the list that __init__ and end_break make -/
def brkW (T : Tar) (v : Int) (j : Nat) : Option Int := if j = T.n then some v else none
theorem brkW_ok (T : Tar) (v : Int) : WBrk T v (brkW T v) := fun _ _ => rfl
theorem rep_non : ∀ n : Nat, (List.replicate n [V.non]).flatten = List.replicate n V.non
  | 0 => rfl
  | n + 1 => by
    rw [List.replicate_succ, List.flatten_cons, rep_non n, List.replicate_succ]
    rfl
theorem brk_list (T : Tar) (v : Int) : (List.replicate (T.n : Int).toNat [V.non]).flatten ++ [V.int v] = ol (T.n + 1) (brkW T v) := by
  rw [rep_non]
  have en : (T.n : Int).toNat = T.n := Int.toNat_natCast _
  rw [en]
  refine ol_of (by rw [List.length_append, List.length_replicate]; rfl) fun i hi => ?_
  by_cases h : i < T.n
  · rw [List.getElem?_append_left (by rw [List.length_replicate]; exact h), List.getElem?_replicate, if_pos h]
    unfold brkW
    rw [if_neg (by omega)]
    rfl
  · have e : i = T.n := by omega
    subst e
    rw [List.getElem?_append_right (by rw [List.length_replicate]; exact Nat.le_refl _), List.length_replicate, Nat.sub_self]
    unfold brkW
    rw [if_pos rfl]
    rfl
def spWI (C : Addr) : Sp := fun vs H Q _ => ∃ (p dx ta : Addr) (T : Tar), vs = [.ref p, .ref ta] ∧ H p = some (.ins C dx []) ∧ TarAt H ta T ∧ T.n ≤ 4 ∧ ∀ (wl : Addr) (H' : Hp), H wl = none → WkAt C H' p ta wl T (brkW T 0) → Kept1 H H' p → Q .non H'
def spWS (C : Addr) : Sp := fun vs H Q _ => ∃ (p ta wl : Addr) (T : Tar) (ws : Nat → Option Int) (pr : Int) (nd : Bool), vs = [.ref p, .int pr, .bl nd] ∧ WkAt C H p ta wl T ws ∧ TarAt H ta T ∧ T.Ok ∧
  ∀ (v : V) (wm : Addr) (ws' : Nat → Option Int) (H' : Hp), H wm = none → WStep T ws pr nd ws' → WkAt C H' p ta wm T ws' → Kept1 H H' p → Q v H'
def spWE (C : Addr) : Sp := fun vs H Q _ => ∃ (p ta wl : Addr) (T : Tar) (ws : Nat → Option Int), vs = [.ref p] ∧ WkAt C H p ta wl T ws ∧ TarAt H ta T ∧ T.n ≤ 4 ∧ (∃ y, Has T ws y) ∧
  ∀ (v : V) (m : Int) (wm : Addr) (H' : Hp), H wm = none → LeastOf (Has T ws) (some m) → WkAt C H' p ta wm T (brkW T m) → Kept1 H H' p → Q v H'
def spWL (C : Addr) : Sp := fun vs H Q _ => ∃ (p ta wl : Addr) (T : Tar) (ws : Nat → Option Int), vs = [.ref p] ∧ WkAt C H p ta wl T ws ∧ T.n ≤ 4 ∧ (∃ y, Has T ws y) ∧ ∀ (m : Int) (H' : Hp), Same H H' → LeastOf (Has T ws) (some m) → Q (.int m) H'
section
variable {P : Program} {w : World} {K : PySem.W.Frag} {mg : Str → Option Value} {base : Heap}
theorem scWI : FnScope ["self", "tariff"] ["self", "tariff"] (defScope sWI) := ⟨rfl, rfl, rfl, by decide +kernel, rfl, by decide +kernel, by decide +kernel⟩
theorem ok_wi {f C : Addr} {fd : FuncData} (F : Fun K "__init__" "Works.__init__" sWI f fd) (T : WkTxt K C) (hOff : Has1 P w K mg base "off" 1 ["tariff"] spOff) : FnOk P w K mg base CX0 2 f fd ["self", "tariff"] (spWI C) := by
  obtain ⟨fO, fdO, mO, kO, bO, GO⟩ := hOff.ok
  refine F.ok scWI (fun vs H Q E h => ?_) (fun cdv A outer s H vs Q E hr h => ?_)
  · obtain ⟨p, dx, ta, T', rfl, _⟩ := h
    rfl
  · obtain ⟨p, dx, ta, T', rfl, hp, hT, n4, k⟩ := h
    refine ⟨_, pss_cons (ps_fld (pv 0) (pv 1) rfl)
      (pss_one (ps_fld (pv 0) (pe_op op_cat (pe_op op_rep (pe_lst (pa_cons pe_non pa_nil)) (pe_call GO hr (by rfl) mO kO bO .nil pass0 (pa_cons (pv 1) pa_nil))) (pe_lst (pa_cons pe_int pa_nil))) rfl)), ?_⟩
    refine ⟨_, rfl, _, rfl, p, C, dx, _, rfl, hp, T.cl, T.nT, (by show 0 < 1000; decide), ?_⟩
    have k0 : Kept1 H (upd H p (.ins C dx (putF "_tariff" (.ref ta) []))) p := fun b o e hb => by rw [upd_ne hb]; exact e
    have hT1 : TarAt (upd H p (.ins C dx (putF "_tariff" (.ref ta) []))) ta T' := hT.same fun b xs e => k0 b _ e (ne_of e hp (by intro z; cases z))
    refine ⟨(by show 1 ≤ sizeLine; decide), fun l hl => ?_⟩
    have s1 := sUpd (Same.refl _) (o := .lst [.non]) hl
    have en : (T'.n : Int).toNat = T'.n := Int.toNat_natCast _
    refine ⟨_, rfl, ta, T', rfl, hT1.same fun b xs e => s1 _ _ e, l, _, _, rfl, rfl, upd_same, by omega, by omega, (by
      rw [en]
      show 1 * T'.n ≤ sizeLine
      exact Nat.le_of_lt (small1000 (by omega))), fun m hm => ?_⟩
    have s2 := sUpd s1 (o := .lst (List.replicate (T'.n : Int).toNat [V.non]).flatten) hm
    refine ⟨(by show 1 ≤ sizeLine; decide), fun q hq => ?_⟩
    have s3 := sUpd s2 (o := .lst [.int 0]) hq
    have nmq : m ≠ q := ne_of_none upd_same hq
    refine ⟨m, q, _, _, rfl, rfl, by rw [upd_ne nmq]; exact upd_same, upd_same, ?_, fun r hrn => ?_⟩
    · rw [rep_non, List.length_replicate, en]
      show T'.n + 1 ≤ sizeLine
      exact Nat.le_of_lt (small1000 (by omega))
    have s4 := sUpd s3 (o := .lst ((List.replicate (T'.n : Int).toNat [V.non]).flatten ++ [V.int 0])) hrn
    have hp4 := s4 p _ upd_same
    have npr : p ≠ r := ne_of_none (s3 p _ upd_same) hrn
    have hr0 : H r = none := by
      have h5 := s3.free hrn
      rw [upd_ne npr.symm] at h5
      exact h5
    refine ⟨_, rfl, p, C, dx, _, rfl, hp4, T.cl, T.nW, (by show 1 < 1000; decide), ?_⟩
    refine k r _ hr0 ⟨⟨dx, ?_⟩, ?_⟩ fun b o e hb => ?_
    · rw [upd_same, wk_mk]
    · rw [upd_ne npr.symm, upd_same, brk_list]
    · rw [upd_ne hb]
      exact s4 _ _ (k0 b o e hb)
theorem scWE : FnScope ["self"] ["self"] (defScope sWE) := ⟨rfl, rfl, rfl, by decide +kernel, rfl, by decide +kernel, by decide +kernel⟩
theorem ok_we {f C : Addr} {fd : FuncData} (F : Fun K "end_break" "Works.end_break" sWE f fd) (T : WkTxt K C) (zt : mg "tuple" = none) (hOff : Has1 P w K mg base "off" 1 ["tariff"] spOff) (hLO : Has1 P w K mg base "least_of" 1 ["works"] spLO) : FnOk P w K mg base CX0 2 f fd ["self"] (spWE C) := by
  obtain ⟨fO, fdO, mO, kO, bO, GO⟩ := hOff.ok
  obtain ⟨fL, fdL, mL, kL, bL, GL⟩ := hLO.ok
  refine F.ok scWE (fun vs H Q E h => ?_) (fun cdv A outer s H vs Q E hr h => ?_)
  · obtain ⟨p, ta, wl, T', ws, rfl, _⟩ := h
    rfl
  · obtain ⟨p, ta, wl, T', ws, rfl, B, hT, n4, hy, k⟩ := h
    obtain ⟨dx, h1⟩ := B.ob
    refine ⟨_, pss_cons (ps_fld (pv 0) (pe_op op_cat (pe_op op_rep (pe_lst (pa_cons pe_non pa_nil)) (pe_call GO hr (by rfl) mO kO bO .nil pass0 (pa_cons (pe_fld (pv 0) rfl) pa_nil))) (pe_lst (pa_cons (pe_call GL hr (by rfl) mL kL bL .nil pass0 (pa_cons (pe_fld (pv 0) rfl) pa_nil)) pa_nil))) rfl)
      (pss_one (ps_ret (pe_callTy call_tuple_of (by rfl) zt (by decide +kernel) (pa_cons (pe_fld (pv 0) rfl) pa_nil)))), ?_⟩
    refine ⟨(by show 1 ≤ sizeLine; decide), fun l hl => ?_⟩
    have s1 := sUpd (Same.refl H) (o := .lst [.non]) hl
    have en : (T'.n : Int).toNat = T'.n := Int.toNat_natCast _
    refine ⟨_, rfl, p, C, dx, _, _, rfl, s1 _ _ h1, T.cl, T.nT, wk_t _ _, ta, T', rfl, hT.same fun b xs e => s1 _ _ e, l, _, _, rfl, rfl, upd_same, by omega, by omega, (by
      rw [en]
      show 1 * T'.n ≤ sizeLine
      exact Nat.le_of_lt (small1000 (by omega))), fun m hm => ?_⟩
    have s2 := sUpd s1 (o := .lst (List.replicate (T'.n : Int).toNat [V.non]).flatten) hm
    refine ⟨_, rfl, p, C, dx, _, _, rfl, s2 _ _ h1, T.cl, T.nW, wk_w _ _, wl, T', ws, rfl, s2 _ _ B.ls, n4, hy, fun v H3 s3 hv => ?_⟩
    have hm3 := s3 m _ upd_same
    have s23 : Same H H3 := s2.trans s3
    refine ⟨(by show 1 ≤ sizeLine; decide), fun q hq => ?_⟩
    have s4 := sUpd s23 (o := .lst [.int v]) hq
    have nmq : m ≠ q := ne_of_none hm3 hq
    refine ⟨m, q, _, _, rfl, rfl, by rw [upd_ne nmq]; exact hm3, upd_same, ?_, fun r hrn => ?_⟩
    · rw [rep_non, List.length_replicate, en]
      show T'.n + 1 ≤ sizeLine
      exact Nat.le_of_lt (small1000 (by omega))
    have s5 := sUpd s4 (o := .lst ((List.replicate (T'.n : Int).toNat [V.non]).flatten ++ [V.int v])) hrn
    have hp5 := s5 p _ h1
    have npr : p ≠ r := ne_of_none (s4 p _ h1) hrn
    have hr0 : H r = none := s4.free hrn
    refine ⟨_, rfl, p, C, dx, _, rfl, hp5, T.cl, T.nW, (by show 2 < 1000; decide), ?_⟩
    rw [wk_putw]
    refine ⟨_, rfl, p, C, dx, _, _, rfl, upd_same, T.cl, T.nW, wk_w _ _, r, _, rfl, .inl ⟨SqL.of (by rw [upd_ne npr.symm]; exact upd_same), fun t ht => ?_⟩⟩
    have npt : p ≠ t := ne_of_none upd_same ht
    have nrt : r ≠ t := ne_of_none (by rw [upd_ne npr.symm]; exact upd_same) ht
    refine k _ v r _ hr0 hv ⟨⟨dx, by rw [upd_ne npt]; exact upd_same⟩, ?_⟩ fun b o e hb => ?_
    · rw [upd_ne nrt, upd_ne npr.symm, upd_same, brk_list]
    · have e5 := s5 _ _ e
      have e6 : (upd (upd (upd (upd H3 q (.lst [.int v])) r (.lst ((List.replicate (T'.n : Int).toNat [V.non]).flatten ++ [V.int v]))) p (.ins C dx (wkF ta r))) t (.tup ((List.replicate (T'.n : Int).toNat [V.non]).flatten ++ [V.int v]))) b = _ := upd_ne (ne_of_none (by rw [upd_ne hb]; exact e5) ht)
      rw [e6, upd_ne hb]
      exact e5
theorem scWL : FnScope ["self"] ["self"] (defScope sWL) := ⟨rfl, rfl, rfl, by decide +kernel, rfl, by decide +kernel, by decide +kernel⟩
theorem ok_wl {f C : Addr} {fd : FuncData} (F : Fun K "least" "Works.least" sWL f fd) (T : WkTxt K C) (hLO : Has1 P w K mg base "least_of" 1 ["works"] spLO) : FnOk P w K mg base CX0 2 f fd ["self"] (spWL C) := by
  obtain ⟨fL, fdL, mL, kL, bL, GL⟩ := hLO.ok
  refine F.ok scWL (fun vs H Q E h => ?_) (fun cdv A outer s H vs Q E hr h => ?_)
  · obtain ⟨p, ta, wl, T', ws, rfl, _⟩ := h
    rfl
  · obtain ⟨p, ta, wl, T', ws, rfl, B, n4, hy, k⟩ := h
    obtain ⟨dx, h1⟩ := B.ob
    refine ⟨_, pss_one (ps_ret (pe_call GL hr (by rfl) mL kL bL .nil pass0 (pa_cons (pe_fld (pv 0) rfl) pa_nil))), ?_⟩
    exact ⟨_, rfl, p, C, dx, _, _, rfl, h1, T.cl, T.nW, wk_w _ _, wl, T', ws, rfl, B.ls, n4, hy, k⟩
theorem scWS : FnScope ["self", "price", "is_needed", "works", "state", "can"] ["self", "price", "is_needed"] (defScope sWS) := ⟨rfl, rfl, rfl, by decide +kernel, rfl, by decide +kernel, by decide +kernel⟩
theorem ok_ws {f C : Addr} {fd : FuncData} (F : Fun K "step" "Works.step" sWS f fd) (T : WkTxt K C) (zt : mg "tuple" = none) (zr : mg "range" = none) (hOff : Has1 P w K mg base "off" 1 ["tariff"] spOff) (hNW : Has1 P w K mg base "next_work" 3 ["tariff", "works", "price", "state"] spNW) :
    FnOk P w K mg base CX0 4 f fd ["self", "price", "is_needed"] (spWS C) := by
  obtain ⟨fO, fdO, mO, kO, bO, GO⟩ := hOff.ok
  obtain ⟨fN, fdN, mN, kN, bN, GN⟩ := hNW.ok
  refine F.ok scWS (fun vs H Q E h => ?_) (fun cdv A outer s H vs Q E hr h => ?_)
  · obtain ⟨p, ta, wl, T', ws, pr, nd, rfl, _⟩ := h
    rfl
  · obtain ⟨p, ta, wl, T', ws, pr, nd, rfl, B, hT, o, k⟩ := h
    obtain ⟨dx, h1⟩ := B.ob
    have nN := scWS.nd
    have n4 := o.n4
    refine ⟨_, pss_cons (ps_set (i := 3) nN rfl (Or.inl rfl) (pe_lst pa_nil))
      (pss_cons (ps_for PassesOwn.never rfl (pi_range1 rfl zr (pa_cons (pe_op op_add (pe_call GO (hr.mono (by decide)) (by rfl) mO kO bO .nil pass0 (pa_cons (pe_fld (pv 0) rfl) pa_nil)) pe_int) pa_nil)) (pg_name (i := 4) nN rfl (Or.inl rfl))
        (pss_cons (ps_set (i := 5) nN rfl (Or.inl rfl) (pe_or (pe_cmpR op_eq (pv 4) pe_int (nomark _)) (pe_one (pe_not (pv 2)))))
        (pss_one (ps_expr (pe_bm PySem.F.plainAttrs_list PySem.F.slot_list_append PySem.F.type_list_append mt_append (pv 3) (pa_cons
          (pe_ifExp (pt_val (pv 5)) (pe_call GN hr (by rfl) mN kN bN .nil pass0 (pa_cons (pe_fld (pv 0) rfl) (pa_cons (pe_fld (pv 0) rfl) (pa_cons (pv 1) (pa_cons (pv 4) pa_nil))))) pe_non) pa_nil))))))
      (pss_cons (ps_fld (pv 0) (pv 3) rfl)
      (pss_one (ps_ret (pe_callTy call_tuple_of (by rfl) zt (by decide +kernel) (pa_cons (pv 3) pa_nil)))))), ?_⟩
    refine ⟨Nat.zero_le _, fun u hu => ?_⟩
    have s1 := sUpd (Same.refl H) (o := .lst []) hu
    have en : ((T'.n : Int) + 1).toNat = T'.n + 1 := by omega
    refine ⟨_, rfl, p, C, dx, _, _, rfl, s1 _ _ h1, T.cl, T.nT, wk_t _ _, ta, T', rfl, hT.same fun b xs e => s1 _ _ e, _, _, rfl, rfl, _, rfl, by omega, by omega, ?_⟩
    refine for_range (lo := 0) (n := _) (fun i σ H' => (∃ v4 v5 : Option V, σ = [some (.ref p), some (.int pr), some (.bl nd), some (.ref u), v4, v5]) ∧ Same H H' ∧
      ∃ ws' : Nat → Option Int, H' u = some (.lst (ol i ws')) ∧ ∀ j, j < i → if j = 0 ∨ nd = false then LeastOf (Cand T' ws pr j) (ws' j) else ws' j = none)
      ⟨⟨none, none, rfl⟩, s1, fun _ => none, upd_same, fun j hj => absurd hj (Nat.not_lt_zero _)⟩ ?_ ?_
    · rintro i σ H' hi ⟨⟨v4, v5, rfl⟩, s2, ws', hu2, hws⟩
      rw [en] at hi
      have e0 : (0 : Int) + (i : Int) = (i : Int) := Int.zero_add _
      rw [e0]
      have hT2 : TarAt H' ta T' := hT.same fun b xs e => s2 _ _ e
      -- how a turn ends
      have fin : ∀ (x : Option Int) (H3 : Hp), Same H' H3 → (if i = 0 ∨ nd = false then LeastOf (Cand T' ws pr i) x else x = none) → H3 u = some (.lst (ol i ws')) ∧ Same H (upd H3 u (.lst (ol i ws' ++ [oV x]))) ∧
          ∃ ws'' : Nat → Option Int, (upd H3 u (.lst (ol i ws' ++ [oV x]))) u = some (.lst (ol (i + 1) ws'')) ∧ ∀ j, j < i + 1 → if j = 0 ∨ nd = false then LeastOf (Cand T' ws pr j) (ws'' j) else ws'' j = none := by
        intro x H3 s3 hx
        refine ⟨s3 _ _ hu2, fun c q e => ?_, fun j => if j = i then x else ws' j, ?_, fun j hj => ?_⟩
        · rw [upd_ne (ne_of_none e hu)]
          exact s3 _ _ (s2 _ _ e)
        · rw [upd_same]
          refine congrArg (fun l => some (HO.lst l)) (ol_of (by rw [List.length_append, ol_len]; rfl) fun j hj => ?_)
          by_cases hji : j < i
          · rw [List.getElem?_append_left (by rw [ol_len]; exact hji), ol_get hji, if_neg (by omega)]
          · have ej : j = i := by omega
            subst ej
            rw [List.getElem?_append_right (by rw [ol_len]; exact Nat.le_refl _), ol_len, Nat.sub_self, if_pos rfl]
            rfl
        · by_cases hji : j = i
          · subst hji
            simp only [if_true]
            exact hx
          · simp only [if_neg hji]
            exact hws j (by omega)
      have hlen : (ol i ws').length < sizeLine := by rw [ol_len]; exact small1000 (by omega)
      refine ⟨_, rfl, rfl, _, rfl, ?_⟩
      -- the call, where the state can be had
      have call : (i = 0 ∨ nd = false) → ∀ {v5' : Option V} (R : VK), (∀ (o : Option Int) (H3 : Hp), Same H' H3 → LeastOf (Cand T' ws pr i) o → R (oV o) H3) →
          tCall spNW [] E0 (tCons (tFld K (tVar 0) "_tariff") (tCons (tFld K (tVar 0) "_works") (tCons (tVar 1) (tCons (tVar 4) tNil)))) [some (.ref p), some (.int pr), some (.bl nd), some (.ref u), some (.int (i : Int)), v5'] H' R := fun _ v5' R hR =>
        ⟨_, rfl, p, C, dx, _, _, rfl, s2 _ _ h1, T.cl, T.nT, wk_t _ _, _, rfl, p, C, dx, _, _, rfl, s2 _ _ h1, T.cl, T.nW, wk_w _ _, _, rfl, _, rfl, ta, wl, T', ws, pr, i, rfl, hT2, o, s2 _ _ B.ls, by omega, hR⟩
      have turn : (i = 0 ∨ nd = false) → tDrop (tBM K "list" rAppend (tVar 3) (tCons (tIf (tB (tVar 5)) (tCall spNW [] E0 (tCons (tFld K (tVar 0) "_tariff") (tCons (tFld K (tVar 0) "_works") (tCons (tVar 1) (tCons (tVar 4) tNil))))) (tC .non)) tNil))
          { nx := fun σ H' => (∃ v4 v5 : Option V, σ = [some (.ref p), some (.int pr), some (.bl nd), some (.ref u), v4, v5]) ∧ Same H H' ∧
              ∃ ws' : Nat → Option Int, H' u = some (.lst (ol (i + 1) ws')) ∧ ∀ j, j < i + 1 → if j = 0 ∨ nd = false then LeastOf (Cand T' ws pr j) (ws' j) else ws' j = none, rt := Q }
          [some (.ref p), some (.int pr), some (.bl nd), some (.ref u), some (.int (i : Int)), some (.bl true)] H' := fun hc => by
        refine ⟨_, rfl, .inl ⟨rfl, _, SqL.of hu2⟩, _, rfl, true, rfl, ?_⟩
        refine iteT (call hc _ fun x H3 s3 hl => ?_)
        obtain ⟨f1, f2, f3⟩ := fin x H3 s3 (by rw [if_pos hc]; exact hl)
        exact ⟨u, _, _, rfl, rfl, f1, hlen, ⟨_, _, rfl⟩, f2, f3⟩
      by_cases h0 : i = 0
      · rw [decide_eq_true (show V.int (i : Int) = V.int 0 by rw [h0]; rfl)]
        exact iteT (turn (.inl h0))
      · rw [decide_eq_false (fun z : V.int (i : Int) = V.int 0 => h0 (by injection z with z; omega))]
        refine iteF ?_
        refine ⟨_, rfl, nd, rfl, ?_⟩
        cases nd with
        | false => exact turn (.inr rfl)
        | true =>
          refine ⟨_, rfl, .inl ⟨rfl, _, SqL.of hu2⟩, _, rfl, false, rfl, ?_⟩
          refine iteF ?_
          obtain ⟨f1, f2, f3⟩ := fin none H' (Same.refl _) (by rw [if_neg (by simp [h0])])
          exact ⟨u, _, _, rfl, rfl, f1, hlen, ⟨_, _, rfl⟩, f2, f3⟩
    · rintro σ H' ⟨⟨v4, v5, rfl⟩, s2, ws', hu2, hws⟩
      rw [en] at hu2 hws
      refine ⟨_, rfl, _, rfl, p, C, dx, _, rfl, s2 _ _ h1, T.cl, T.nW, (by show 2 < 1000; decide), ?_⟩
      rw [wk_putw]
      have npu : u ≠ p := ne_of hu2 (s2 _ _ h1) (by intro z; cases z)
      refine ⟨_, rfl, u, _, rfl, .inl ⟨SqL.of (by rw [upd_ne npu]; exact hu2), fun t ht => ?_⟩⟩
      have npt : p ≠ t := ne_of_none upd_same ht
      have nut : u ≠ t := ne_of_none (by rw [upd_ne npu]; exact hu2) ht
      refine k _ u ws' _ hu (fun j hj => hws j (by omega)) ⟨⟨dx, by rw [upd_ne npt]; exact upd_same⟩, by rw [upd_ne nut, upd_ne npu]; exact hu2⟩ fun b q e hb => ?_
      have e5 := s2 _ _ e
      have e6 : (upd H' p (.ins C dx (wkF ta u))) b = some q := by rw [upd_ne hb]; exact e5
      rw [upd_ne (ne_of_none e6 ht)]
      exact e6
end
end K50


set_option Elab.async false
set_option maxRecDepth 100000
set_option maxHeartbeats 4000000
namespace K50
open PySem PySem.Spec PyProof.Rows L2
/-! ### an int is no bool -/
section
variable {X : Cx}
theorem op_isIB : OpR X (compareOp .Is) (fun x y H Q => ∃ (i : Int) (b : Bool), x = .int i ∧ y = .bl b ∧ Q (.bl false) H) := by
  intro pins s σ H x y v u Q I rx ry h
  obtain ⟨i, b, rfl, rfl, q⟩ := h
  obtain ⟨t, rfl⟩ := rx
  cases (show u = Value.bool b from ry)
  exact wpAny_is_other rfl (fun z => nomatch z) ⟨.bl false, H, I, rfl, q⟩
end
/-! ### the list that draws are made from -/
def dV (l : Addr) (i x c y : Int) : List V := [.ref l, .int i, .int x, .int c, .int y]
structure DrawAt (H : Hp) (d l : Addr) (ns : List Int) : Prop where
  ls : H l = some (.lst (ns.map V.int))
  ex : ∃ (i : Nat) (x c y : Int), H d = some (.lst (dV l (i : Int) x c y)) ∧ i ≤ ns.length ∧ 0 ≤ x
theorem DrawAt.same {H H' : Hp} {d l : Addr} {ns : List Int} (h : DrawAt H d l ns) (s : Same H H') : DrawAt H' d l ns := by
  obtain ⟨i, x, c, y, h1, h2, h3⟩ := h.ex
  exact ⟨s _ _ h.ls, i, x, c, y, s _ _ h1, h2, h3⟩
theorem DrawAt.ne {H : Hp} {d l : Addr} {ns : List Int} (h : DrawAt H d l ns) : l ≠ d := by
  obtain ⟨i, x, c, y, h1, _⟩ := h.ex
  refine ne_of h.ls h1 fun z => ?_
  injection z with z
  cases ns with
  | nil => cases z
  | cons n r =>
    injection z with z _
    cases z
def spMix : Sp := fun vs H Q _ => ∃ n : Int, vs = [.int n] ∧ ∀ m : Int, Q (.int m) H
def spStart (K : PySem.W.Frag) : Sp := fun vs H Q _ => ∃ (a : Addr) (ns : List Int), vs = [.ref a] ∧ SqL K H a (ns.map V.int) ∧ ∀ (d l : Addr) (H' : Hp), Same H H' → DrawAt H' d l ns → Q (.ref d) H'
def spDraw : Sp := fun vs H Q _ => ∃ (d l : Addr) (ns : List Int) (m : Int), vs = [.ref d, .int m] ∧ DrawAt H d l ns ∧ 0 < m ∧ m < 1073741824 ∧ ∀ (v : Int) (H' : Hp), 0 ≤ v → v < m → DrawAt H' d l ns → Kept1 H H' d → Q (.int v) H'
def spSame : Sp := fun vs H Q _ => ∃ a b : Int, vs = [.int a, .int b] ∧ Q (.bl (decide (a = b))) H
section
variable {P : Program} {w : World} {K : PySem.W.Frag} {mg : Str → Option Value} {base : Heap}
theorem scMix : FnScope ["_law_number", "_law_one"] ["_law_number"] (defScope sMix) := ⟨rfl, rfl, rfl, by decide +kernel, rfl, by decide +kernel, by decide +kernel⟩
theorem ok_mix {f : Addr} {fd : FuncData} (F : Fun K "_law_mix" "_law_mix" sMix f fd) (zi : mg "int" = none) : FnOk P w K mg base CX0 1 f fd ["_law_number"] spMix := by
  refine F.ok scMix (fun vs H Q E h => ?_) (fun cdv A outer s H vs Q E hr h => ?_)
  · obtain ⟨n, rfl, _⟩ := h
    rfl
  · obtain ⟨n, rfl, q⟩ := h
    refine ⟨_, pss_cons (ps_set (i := 1) scMix.nd rfl (Or.inl rfl) (pe_op op_mod (pe_callTy call_int1 (by rfl) zi (by decide +kernel) (pa_cons (pe_op op_add (pe_op op_mul (pe_callTy call_int1 (by rfl) zi (by decide +kernel) (pa_cons (pv 0) pa_nil)) pe_int) pe_int) pa_nil)) pe_int))
      (pss_one (ps_ret (pe_op op_mod (pe_callTy call_int1 (by rfl) zi (by decide +kernel) (pa_cons (pe_op op_add (pe_op op_add (pe_op op_mul (pv 1) pe_int) (pe_op op_mul (pe_op op_fdiv (pv 1) pe_int) pe_int)) pe_int) pa_nil)) pe_int))), ?_⟩
    refine ⟨_, rfl, .inl ⟨_, rfl, _, _, rfl, rfl, .inr ⟨by decide, by decide⟩, _, _, rfl, rfl, .inl ⟨_, rfl, _, _, rfl, rfl, (by show (0 : Int) < 2147483647; decide), ?_⟩⟩⟩
    refine ⟨_, rfl, _, _, rfl, rfl, .inr ⟨by decide, by decide⟩, _, rfl, _, _, rfl, rfl, ⟨by decide, by decide⟩, _, _, rfl, rfl, .inr ⟨by decide, by decide⟩, _, _, rfl, rfl, _, _, rfl, rfl, .inl ⟨_, rfl, _, _, rfl, rfl, (by show (0 : Int) < 2147483629; decide), ?_⟩⟩
    exact q _
theorem scStart : FnScope ["_law_script"] ["_law_script"] (defScope sStart) := ⟨rfl, rfl, rfl, by decide +kernel, rfl, by decide +kernel, by decide +kernel⟩
theorem ok_start {f : Addr} {fd : FuncData} (F : Fun K "_law_start" "_law_start" sStart f fd) (zl : mg "list" = none) : FnOk P w K mg base CX0 1 f fd ["_law_script"] (spStart K) := by
  refine F.ok scStart (fun vs H Q E h => ?_) (fun cdv A outer s H vs Q E hr h => ?_)
  · obtain ⟨a, ns, rfl, _⟩ := h
    rfl
  · obtain ⟨a, ns, rfl, hS, k⟩ := h
    refine ⟨_, pss_one (ps_ret (pe_lst (pa_cons (pe_callTy call_list_of (by rfl) zl (by decide +kernel) (pa_cons (pv 0) pa_nil)) (pa_cons pe_int (pa_cons pe_int (pa_cons pe_int (pa_cons pe_int pa_nil))))))), ?_⟩
    refine ⟨_, rfl, a, _, rfl, .inl hS, fun l hl => ⟨(by show 5 ≤ sizeLine; decide), fun d hd => ?_⟩⟩
    have s2 := sUpd (sUpd (Same.refl H) (o := .lst (ns.map V.int)) hl) (o := .lst (dV l 0 0 0 0)) hd
    refine k d l _ s2 ⟨?_, 0, 0, 0, 0, upd_same, Nat.zero_le _, Int.le_refl _⟩
    rw [upd_ne (ne_of_none upd_same hd), upd_same]
theorem scDraw : FnScope ["_law_d", "_law_many", "_law_value"] ["_law_d", "_law_many"] (defScope sDraw) := ⟨rfl, rfl, rfl, by decide +kernel, rfl, by decide +kernel, by decide +kernel⟩
theorem ok_draw {f : Addr} {fd : FuncData} (F : Fun K "_law_draw" "_law_draw" sDraw f fd) (zi : mg "int" = none) (zn : mg "len" = none) (hMix : Has1 P w K mg base "_law_mix" 1 ["_law_number"] spMix) : FnOk P w K mg base CX0 2 f fd ["_law_d", "_law_many"] spDraw := by
  obtain ⟨fM, fdM, mM, kM, bM, GM⟩ := hMix.ok
  refine F.ok scDraw (fun vs H Q E h => ?_) (fun cdv A outer s H vs Q E hr h => ?_)
  · obtain ⟨d, l, ns, m, rfl, _⟩ := h
    rfl
  · obtain ⟨d, l, ns, m, rfl, D, m0, m1, k⟩ := h
    have nld := D.ne
    obtain ⟨i, x, c, y, h1, hi, hx⟩ := D.ex
    have hls := D.ls
    have nd := scDraw.nd
    refine ⟨_, pss_cons (ps_asg (pe_op op_add (pe_ix ix_list (pv 0) pe_int (fun _ _ => rfl)) pe_int) (pg_sub (pv 0) pe_int set_list))
      (pss_cons (ps_if (pt_cmpR op_eq (pe_ix ix_list (pv 0) pe_int (fun _ _ => rfl)) pe_int (nomark _))
        (pss_one (ps_if (pt_cmpR op_lt (pe_ix ix_list (pv 0) pe_int (fun _ _ => rfl)) (pe_callB call_len_seq (by rfl) zn PySem.boot_len (pa_cons (pe_ix ix_list (pv 0) pe_int (fun _ _ => rfl)) pa_nil)) (nomark _))
          (pss_cons (ps_asg (pe_ix ix_list (pe_ix ix_list (pv 0) pe_int (fun _ _ => rfl)) (pe_ix ix_list (pv 0) pe_int (fun _ _ => rfl)) (fun _ _ => rfl)) (pg_sub (pv 0) pe_int set_list))
          (pss_cons (ps_asg (pe_op op_add (pe_ix ix_list (pv 0) pe_int (fun _ _ => rfl)) pe_int) (pg_sub (pv 0) pe_int set_list))
          (pss_one (ps_if (pt_cmpR op_ge (pe_ix ix_list (pv 0) pe_int (fun _ _ => rfl)) (pe_op op_pow pe_int pe_int) (nomark _))
            (pss_one (ps_asg (pe_ix ix_list (pv 0) pe_int (fun _ _ => rfl)) (pg_sub (pv 0) pe_int set_list))) pss_nil)))) pss_nil)) pss_nil)
      (pss_cons (ps_if (pt_cmpR op_gt (pe_ix ix_list (pv 0) pe_int (fun _ _ => rfl)) pe_int (nomark _))
        (pss_cons (ps_set (i := 2) nd rfl (Or.inl rfl) (pe_op op_mod (pe_callTy call_int1 (by rfl) zi (by decide +kernel) (pa_cons (pe_ix ix_list (pv 0) pe_int (fun _ _ => rfl)) pa_nil)) (pv 1)))
        (pss_cons (ps_asg (pe_op op_fdiv (pe_ix ix_list (pv 0) pe_int (fun _ _ => rfl)) (pv 1)) (pg_sub (pv 0) pe_int set_list))
        (pss_one (ps_ret (pv 2))))) pss_nil)
      (pss_one (ps_ret (pe_op op_mod (pe_callTy call_int1 (by rfl) zi (by decide +kernel) (pa_cons
        (pe_call GM hr (by rfl) mM kM bM .nil pass0 (pa_cons (pe_call GM hr (by rfl) mM kM bM .nil pass0 (pa_cons (pe_op op_add (pe_callTy call_int1 (by rfl) zi (by decide +kernel) (pa_cons (pe_ix ix_list (pv 0) pe_int (fun _ _ => rfl)) pa_nil))
          (pe_op op_mul pe_int (pe_ix ix_list (pv 0) pe_int (fun _ _ => rfl)))) pa_nil)) pa_nil)) pa_nil)) (pv 1)))))), ?_⟩
    -- d[3] = d[3] + 1
    refine ⟨_, rfl, d, _, _, _, rfl, rfl, SqL.of h1, atI_nat (j := 3) rfl, _, _, rfl, rfl, _, rfl, d, _, _, 3, rfl, rfl, h1, rfl, ?_⟩
    have hls1 : ∀ o, (upd H d o) l = some (.lst (ns.map V.int)) := fun o => by rw [upd_ne nld]; exact hls
    -- the end, once the middle is done
    have fin : ∀ (i' : Nat) (x' c' y' : Int), i' ≤ ns.length → 0 ≤ x' →
        tSeq (tIfS (tTest (tOp (fun x y H Q => ∃ i j, x = V.int i ∧ y = V.int j ∧ Q (V.bl (decide (j < i))) H) (tOp (rIxL K) (tVar 0) (tC (.int 2))) (tC (.int 0))))
            (tSeq (tAsg (tOp (rI (fun _ j => 0 < j) fun i j => .int (i % j)) (tCB (fun xs H Q => (∃ i, xs = [.int i] ∧ Q (.int i) H) ∨ ∃ k, xs = [.bl k] ∧ Q (.int (if k then 1 else 0)) H) (tCons (tOp (rIxL K) (tVar 0) (tC (.int 2))) tNil)) (tVar 1)) (gName 2))
              (tSeq (tAsg (tOp (rI CDiv fun i j => .int (i / j)) (tOp (rIxL K) (tVar 0) (tC (.int 2))) (tVar 1)) (gSub (tVar 0) (tC (.int 2)) rSetL)) (tRet (tVar 2)))) tNext)
          (tRet (tOp (rI (fun _ j => 0 < j) fun i j => .int (i % j)) (tCB (fun xs H Q => (∃ i, xs = [.int i] ∧ Q (.int i) H) ∨ ∃ k, xs = [.bl k] ∧ Q (.int (if k then 1 else 0)) H) (tCons
            (tCall spMix [] E0 (tCons (tCall spMix [] E0 (tCons (tOp (rI0 fun i j => .int (i + j)) (tCB (fun xs H Q => (∃ i, xs = [.int i] ∧ Q (.int i) H) ∨ ∃ k, xs = [.bl k] ∧ Q (.int (if k then 1 else 0)) H) (tCons (tOp (rIxL K) (tVar 0) (tC (.int 4))) tNil))
              (tOp (rI CMul fun i j => .int (i * j)) (tC (.int 7919)) (tOp (rIxL K) (tVar 0) (tC (.int 3))))) tNil)) tNil)) tNil)) (tVar 1)))
          { nx := fun _ H' => Q .non H', rt := Q } [some (.ref d), some (.int m), none] (upd H d (.lst (dV l (i' : Int) x' c' y'))) := fun i' x' c' y' hi' hx' => by
      refine ⟨_, rfl, d, _, _, _, rfl, rfl, SqL.of upd_same, atI_nat (j := 2) rfl, _, _, rfl, rfl, _, rfl, ?_⟩
      by_cases hp : (0 : Int) < x'
      · rw [decide_eq_true hp]
        refine iteT ?_
        refine ⟨_, rfl, d, _, _, _, rfl, rfl, SqL.of upd_same, atI_nat (j := 2) rfl, .inl ⟨_, rfl, _, rfl, _, _, rfl, rfl, m0, ?_⟩⟩
        refine ⟨_, rfl, d, _, _, _, rfl, rfl, SqL.of upd_same, atI_nat (j := 2) rfl, _, rfl, _, _, rfl, rfl, ⟨m0, m1⟩, _, rfl, d, _, _, 2, rfl, rfl, upd_same, rfl, ?_⟩
        rw [upd_upd]
        refine ⟨_, rfl, k _ _ (Int.emod_nonneg _ (by omega)) (Int.emod_lt_of_pos _ m0) ⟨hls1 _, i', x' / m, c', y', upd_same, hi', Int.ediv_nonneg hx' (by omega)⟩ fun b o e hb => ?_⟩
        rw [upd_ne hb]
        exact e
      · rw [decide_eq_false hp]
        refine iteF ?_
        refine ⟨_, rfl, d, _, _, _, rfl, rfl, SqL.of upd_same, atI_nat (j := 4) rfl, .inl ⟨_, rfl, _, rfl, d, _, _, _, rfl, rfl, SqL.of upd_same, atI_nat (j := 3) rfl, _, _, rfl, rfl, .inl ⟨by decide, by decide⟩, _, _, rfl, rfl, _, rfl, fun u1 => ⟨_, rfl, fun u2 => .inl ⟨_, rfl, _, rfl, _, _, rfl, rfl, m0, ?_⟩⟩⟩⟩
        refine k _ _ (Int.emod_nonneg _ (by omega)) (Int.emod_lt_of_pos _ m0) ⟨hls1 _, i', x', c', y', upd_same, hi', hx'⟩ fun b o e hb => ?_
        rw [upd_ne hb]
        exact e
    -- if d[2] == 0
    refine ⟨_, rfl, d, _, _, _, rfl, rfl, SqL.of upd_same, atI_nat (j := 2) rfl, rfl, _, rfl, ?_⟩
    refine ite2 (fun _ => ?_) (fun _ => fin i x (c + 1) y hi hx)
    refine ⟨_, rfl, d, _, _, _, rfl, rfl, SqL.of upd_same, atI_nat (j := 1) rfl, _, rfl, d, _, _, _, rfl, rfl, SqL.of upd_same, atI_nat (j := 0) rfl, l, _, rfl, .inl (SqL.of (hls1 _)), _, _, rfl, rfl, _, rfl, ?_⟩
    rw [List.length_map]
    by_cases hlt : (i : Int) < (ns.length : Int)
    · rw [decide_eq_true hlt]
      refine iteT ?_
      have hlt' : i < ns.length := by omega
      have hget : (ns.map V.int)[i]? = some (V.int ns[i]) := by rw [List.getElem?_map, List.getElem?_eq_getElem hlt']; rfl
      refine ⟨_, rfl, d, _, _, _, rfl, rfl, SqL.of upd_same, atI_nat (j := 0) rfl, _, rfl, d, _, _, _, rfl, rfl, SqL.of upd_same, atI_nat (j := 1) rfl, l, _, _, _, rfl, rfl, SqL.of (hls1 _), atI_nat hget, _, rfl, d, _, _, 4, rfl, rfl, upd_same, rfl, ?_⟩
      rw [upd_upd]
      refine ⟨_, rfl, d, _, _, _, rfl, rfl, SqL.of upd_same, atI_nat (j := 1) rfl, _, _, rfl, rfl, _, rfl, d, _, _, 1, rfl, rfl, upd_same, rfl, ?_⟩
      rw [upd_upd]
      refine ⟨_, rfl, d, _, _, _, rfl, rfl, SqL.of upd_same, atI_nat (j := 4) rfl, _, _, rfl, rfl, ⟨by decide, by decide, by decide⟩, _, _, rfl, rfl, _, rfl, ?_⟩
      have ei : (i : Int) + 1 = ((i + 1 : Nat) : Int) := by omega
      by_cases hg : (10 : Int) ^ (18 : Int).toNat ≤ ns[i]
      · rw [decide_eq_true hg]
        refine iteT ?_
        refine ⟨_, rfl, d, _, _, _, rfl, rfl, SqL.of upd_same, atI_nat (j := 4) rfl, _, rfl, d, _, _, 2, rfl, rfl, upd_same, rfl, ?_⟩
        rw [upd_upd]
        have h0 : (0 : Int) ≤ ns[i] := Int.le_trans (by decide) hg
        have := fin (i + 1) ns[i] (c + 1) ns[i] hlt' h0
        rw [← ei] at this
        exact this
      · rw [decide_eq_false hg]
        refine iteF ?_
        have := fin (i + 1) x (c + 1) ns[i] hlt' hx
        rw [← ei] at this
        exact this
    · rw [decide_eq_false hlt]
      exact iteF (fin i x (c + 1) y hi hx)
theorem scSame : FnScope ["_law_actual", "_law_due", "_law_k"] ["_law_actual", "_law_due"] (defScope sSame) := ⟨rfl, rfl, rfl, by decide +kernel, rfl, by decide +kernel, by decide +kernel⟩
theorem ok_same {f : Addr} {fd : FuncData} (F : Fun K "_law_same" "_law_same" sSame f fd) (zx : mg "isinstance" = none) (zs : mg "str" = none) (zi : mg "int" = none) (zb : mg "bool" = none) : FnOk P w K mg base CX0 1 f fd ["_law_actual", "_law_due"] spSame := by
  refine F.ok scSame (fun vs H Q E h => ?_) (fun cdv A outer s H vs Q E hr h => ?_)
  · obtain ⟨a, b, rfl, _⟩ := h
    rfl
  · obtain ⟨a, b, rfl, q⟩ := h
    refine ⟨_, pss_cons (ps_if (pt_cmpR op_isN (pv 1) pe_non (nomark _)) pss_never pss_nil)
      (pss_cons (ps_if (pt_cmpR op_isIB (pv 1) pe_bl (nomark _)) pss_never pss_nil)
      (pss_cons (ps_if (pt_cmpR op_isIB (pv 1) pe_bl (nomark _)) pss_never pss_nil)
      (pss_cons (ps_if (pt_val (pe_callB call_isi (by rfl) zx (by decide +kernel) (pa_cons (pv 1) (pa_cons (pe_bltn (v := .ty "str") (by rfl) zs (by decide +kernel) rfl) pa_nil)))) pss_never pss_nil)
      (pss_cons (ps_if (pt_val (pe_callB call_isi (by rfl) zx (by decide +kernel) (pa_cons (pv 1) (pa_cons (pe_bltn (v := .ty "int") (by rfl) zi (by decide +kernel) rfl) pa_nil))))
        (pss_one (ps_ret (pe_and (pe_callB call_isi (by rfl) zx (by decide +kernel) (pa_cons (pv 0) (pa_cons (pe_bltn (v := .ty "int") (by rfl) zi (by decide +kernel) rfl) pa_nil)))
          (pe_and (pe_not (pe_callB call_isi (by rfl) zx (by decide +kernel) (pa_cons (pv 0) (pa_cons (pe_bltn (v := .ty "bool") (by rfl) zb (by decide +kernel) rfl) pa_nil)))) (pe_one (pe_cmpR op_eq (pv 0) (pv 1) (nomark _))))))) pss_nil)
      pss_never)))), ?_⟩
    refine ⟨_, rfl, rfl, _, rfl, iteF ?_⟩
    refine ⟨_, rfl, _, _, rfl, rfl, _, rfl, iteF ?_⟩
    refine ⟨_, rfl, _, _, rfl, rfl, _, rfl, iteF ?_⟩
    refine ⟨_, rfl, _, _, _, _, false, rfl, .ty "str", .base (.int _), kit_ty (by decide +kernel), _, rfl, iteF ?_⟩
    refine ⟨_, rfl, _, _, _, _, true, rfl, .ty "int", .base (.int _), kit_ty (by decide +kernel), _, rfl, iteT ?_⟩
    refine ⟨_, rfl, _, _, _, _, true, rfl, .ty "int", .base (.int _), kit_ty (by decide +kernel), _, rfl, iteT ?_⟩
    refine ⟨_, rfl, _, _, _, _, false, rfl, .ty "bool", .base (.int _), kit_ty (by decide +kernel), _, rfl, _, rfl, iteT ?_⟩
    refine ⟨_, rfl, _, rfl, rfl, ?_⟩
    have e : decide (V.int a = V.int b) = decide (a = b) := by
      by_cases h : a = b
      · rw [decide_eq_true h, decide_eq_true (by rw [h])]
      · rw [decide_eq_false h, decide_eq_false (fun z => h (by injection z))]
    show Q (.bl (decide (V.int a = V.int b))) H
    rw [e]
    exact q
end
end K50


set_option Elab.async false
set_option maxRecDepth 100000
set_option maxHeartbeats 4000000
namespace K50
open PySem PySem.Spec PyProof.Rows L2
/-! ### the law's tariff -/
theorem rl_ext {m : Nat} {f g : Nat → Int} (h : ∀ i, i < m → f i = g i) : rl m f = rl m g := by
  unfold rl
  refine List.map_congr_left fun i hi => ?_
  rw [h i (List.mem_range.mp hi)]
theorem rl_of {m : Nat} {f : Nat → Int} {xs : List V} (hl : xs.length = m) (h : ∀ i, i < m → xs[i]? = some (.int (f i))) : xs = rl m f := by
  refine List.ext_getElem? fun i => ?_
  by_cases hi : i < m
  · rw [h i hi, rl_get hi]
  · rw [List.getElem?_eq_none (by omega), List.getElem?_eq_none (by rw [rl_len]; omega)]
theorem rl_rev (m : Nat) (h : Nat → Int) : (rl m fun j => h (j + 1)).reverse = rl m fun j => h (m - j) := by
  refine rl_of (by rw [List.length_reverse, rl_len]) fun i hi => ?_
  rw [List.getElem?_reverse (by rw [rl_len]; exact hi), rl_len, rl_get (by omega)]
  rw [show m - 1 - i + 1 = m - i by omega]
/-- a ladder: from 0 upwards, each step at most 10000 -/
structure Lad (h : Nat → Int) (i : Nat) : Prop where
  z : h 0 = 0
  up : ∀ a b, a ≤ b → b ≤ i → h a ≤ h b
  le : ∀ a, a ≤ i → h a ≤ 10000 * (a : Int)
theorem Lad.start : Lad (fun _ => 0) 0 := ⟨rfl, fun _ _ _ _ => Int.le_refl _, fun a _ => by omega⟩
/-- one step more -/
def ext1 (h : Nat → Int) (i : Nat) (x : Int) (j : Nat) : Int := if j = i + 1 then x else h j
theorem Lad.step {h : Nat → Int} {i : Nat} {x : Int} (L : Lad h i) (h1 : h i ≤ x) (h2 : x ≤ h i + 10000) : Lad (ext1 h i x) (i + 1) := by
  refine ⟨?_, fun a b hab hb => ?_, fun a ha => ?_⟩
  · unfold ext1
    rw [if_neg (by omega)]
    exact L.z
  · unfold ext1
    by_cases eb : b = i + 1
    · rw [if_pos eb]
      by_cases ea : a = i + 1
      · rw [if_pos ea]
        exact Int.le_refl _
      · rw [if_neg ea]
        exact Int.le_trans (L.up a i (by omega) (Nat.le_refl _)) h1
    · rw [if_neg eb, if_neg (by omega)]
      exact L.up a b hab (by omega)
  · unfold ext1
    by_cases ea : a = i + 1
    · rw [if_pos ea]
      have := L.le i (Nat.le_refl _)
      omega
    · rw [if_neg ea]
      exact L.le a (by omega)
def mkT (m : Nat) (h1 h2 : Nat → Int) : Tar := ⟨m, fun j => h1 (m - j), h2⟩
theorem mkT_ok {m : Nat} {h1 h2 : Nat → Int} (a : 1 ≤ m) (b : m ≤ 4) (L1 : Lad h1 m) (L2 : Lad h2 m) : (mkT m h1 h2).Ok := by
  refine ⟨a, b, ?_, L2.z, fun i j hij hj => ?_, fun i j hij hj => L2.up i j hij hj, fun j hj => ?_, fun j hj => ?_⟩
  · show h1 (m - m) = 0
    rw [Nat.sub_self]
    exact L1.z
  · have hj' : j ≤ m := hj
    exact L1.up (m - j) (m - i) (by omega) (by omega)
  · have hj' : j ≤ m := hj
    have := L1.le (m - j) (by omega)
    show h1 (m - j) ≤ 40000
    omega
  · have hj' : j ≤ m := hj
    have := L2.le j hj'
    show h2 j ≤ 40000
    omega
def spTar : Sp := fun vs H Q _ => ∃ (d l : Addr) (ns : List Int), vs = [.ref d] ∧ DrawAt H d l ns ∧ ∀ (a : Addr) (T : Tar) (H' : Hp), T.Ok → TarAt H' a T → DrawAt H' d l ns → Kept1 H H' d → Q (.ref a) H'
theorem Kept1.refl (H : Hp) (p : Addr) : Kept1 H H p := fun _ _ e _ => e
theorem Kept1.trans {H H1 H2 : Hp} {p : Addr} (a : Kept1 H H1 p) (b : Kept1 H1 H2 p) : Kept1 H H2 p := fun c o e h => b c o (a c o e h) h
theorem Kept1.same {H H1 H2 : Hp} {p : Addr} (a : Kept1 H H1 p) (b : Same H1 H2) : Kept1 H H2 p := fun c o e h => b c o (a c o e h)
theorem DrawAt.tr {H : Hp} {d l : Addr} {ns : List Int} (h : DrawAt H d l ns) : ∃ o, H d = some o ∧ ∀ xs, o ≠ .tup xs := by
  obtain ⟨i, x, c, y, h1, _⟩ := h.ex
  exact ⟨_, h1, fun xs z => by cases z⟩
section
variable {P : Program} {w : World} {K : PySem.W.Frag} {mg : Str → Option Value} {base : Heap}
theorem scTar : FnScope ["_law_d", "_law_many", "_law_small", "_law_rates", "_law_wakes", "_law_last", "_law_k"] ["_law_d"] (defScope sTar) := ⟨rfl, rfl, rfl, by decide +kernel, rfl, by decide +kernel, by decide +kernel⟩
theorem ok_tar {f : Addr} {fd : FuncData} (F : Fun K "_law_tariff" "_law_tariff" sTar f fd) (zr : mg "range" = none) (zt : mg "tuple" = none) (hD : Has1 P w K mg base "_law_draw" 2 ["_law_d", "_law_many"] spDraw) : FnOk P w K mg base CX0 3 f fd ["_law_d"] spTar := by
  obtain ⟨fD, fdD, mD, kD, bD, GD⟩ := hD.ok
  refine F.ok scTar (fun vs H Q E h => ?_) (fun cdv A outer s H vs Q E hr h => ?_)
  · obtain ⟨d, l, ns, rfl, _⟩ := h
    rfl
  · obtain ⟨d, l, ns, rfl, D, k⟩ := h
    have nN := scTar.nd
    refine ⟨_, pss_cons (ps_set (i := 1) nN rfl (Or.inl rfl) (pe_op op_add pe_int (pe_call GD hr (by rfl) mD kD bD .nil pass0 (pa_cons (pv 0) (pa_cons pe_int pa_nil)))))
      (pss_cons (ps_set (i := 2) nN rfl (Or.inl rfl) (pe_cmpR op_gt (pe_call GD hr (by rfl) mD kD bD .nil pass0 (pa_cons (pv 0) (pa_cons pe_int pa_nil))) pe_int (nomark _)))
      (pss_cons (ps_set (i := 3) nN rfl (Or.inl rfl) (pe_lst pa_nil))
      (pss_cons (ps_set (i := 4) nN rfl (Or.inl rfl) (pe_lst (pa_cons pe_int pa_nil)))
      (pss_cons (ps_set (i := 5) nN rfl (Or.inl rfl) pe_int)
      (pss_cons (ps_for PassesOwn.never rfl (pi_range1 rfl zr (pa_cons (pv 1) pa_nil)) (pg_name (i := 6) nN rfl (Or.inl rfl))
        (pss_cons (ps_set (i := 5) nN rfl (Or.inl rfl) (pe_op op_add (pe_op op_add (pv 5) pe_int) (pe_call GD hr (by rfl) mD kD bD .nil pass0 (pa_cons (pv 0) (pa_cons (pe_ifExp (pt_val (pv 2)) pe_int (pe_op op_fdiv pe_int (pv 1))) pa_nil)))))
        (pss_one (ps_expr (pe_bm PySem.F.plainAttrs_list PySem.F.slot_list_append PySem.F.type_list_append mt_append (pv 3) (pa_cons (pv 5) pa_nil))))))
      (pss_cons (ps_set (i := 5) nN rfl (Or.inl rfl) pe_int)
      (pss_cons (ps_for PassesOwn.never rfl (pi_range1 rfl zr (pa_cons (pv 1) pa_nil)) (pg_name (i := 6) nN rfl (Or.inl rfl))
        (pss_cons (ps_set (i := 5) nN rfl (Or.inl rfl) (pe_op op_add (pe_op op_add (pv 5) pe_int) (pe_call GD hr (by rfl) mD kD bD .nil pass0 (pa_cons (pv 0) (pa_cons (pe_ifExp (pt_val (pv 2)) pe_int (pe_op op_fdiv pe_int (pv 1))) pa_nil)))))
        (pss_one (ps_expr (pe_bm PySem.F.plainAttrs_list PySem.F.slot_list_append PySem.F.type_list_append mt_append (pv 4) (pa_cons (pv 5) pa_nil))))))
      (pss_one (ps_ret (pe_tup (pa_cons (pe_callTy call_tuple_of (by rfl) zt (by decide +kernel) (pa_cons (pe_revL (pv 3)) pa_nil)) (pa_cons (pe_callTy call_tuple_of (by rfl) zt (by decide +kernel) (pa_cons (pv 4) pa_nil)) pa_nil)))))))))))), ?_⟩
    -- many, small
    refine ⟨_, rfl, d, l, ns, 4, rfl, D, by decide, by decide, fun v0 H1 a0 b0 D1 k1 => ⟨_, _, rfl, rfl, ?_⟩⟩
    refine ⟨_, rfl, d, l, ns, 3, rfl, D1, by decide, by decide, fun v1 H2 a1 b1 D2 k2 => ⟨_, _, rfl, rfl, ?_⟩⟩
    have k12 := k1.trans k2
    obtain ⟨m, hm⟩ : ∃ m : Nat, (1 : Int) + v0 = (m : Int) := ⟨(1 + v0).toNat, by omega⟩
    dsimp only
    rw [hm]
    have m1 : 1 ≤ m := by omega
    have m4 : m ≤ 4 := by omega
    generalize hsm : decide ((0 : Int) < v1) = sm
    -- rates, wakes
    refine ⟨Nat.zero_le _, fun ra hra => ⟨(by show 1 ≤ sizeLine; decide), fun wa hwa => ?_⟩⟩
    have s1 := sUpd (Same.refl H2) (o := .lst []) hra
    have s2 := sUpd s1 (o := .lst [.int 0]) hwa
    have nrw : ra ≠ wa := ne_of_none upd_same hwa
    have hd2 : ∀ b : Addr, H2 b = none → b ≠ d := fun b hb z => by
      obtain ⟨o, h1, _⟩ := D2.tr
      rw [z, h1] at hb
      cases hb
    have nrd := hd2 ra hra
    have hwa0 := s1.free hwa
    have nwd := hd2 wa hwa0
    have nrl : ra ≠ l := fun z => by
      have := D2.ls
      rw [← z, hra] at this
      cases this
    have nwl : wa ≠ l := fun z => by
      have := D2.ls
      rw [← z, hwa0] at this
      cases this
    -- the bound of a draw
    have bnd : ∀ c0 : Int, 0 < c0 → c0 ≤ 10000 → 0 < (if sm = true then c0 else 10000 / (m : Int)) ∧ (if sm = true then c0 else 10000 / (m : Int)) ≤ 10000 := fun c0 h1 h2 => by
      cases sm with
      | true => exact ⟨h1, h2⟩
      | false =>
        have e : m = 1 ∨ m = 2 ∨ m = 3 ∨ m = 4 := by omega
        rw [if_neg Bool.false_ne_true]
        rcases e with e | e | e | e <;> subst e <;> exact ⟨by decide, by decide⟩
    have arg : ∀ (c : Int) (x3 x4 x5 x6 : Option V) (H' : Hp) (R : VK), R (.int (if sm = true then c else 10000 / (m : Int))) H' → tIf (tB (tVar 2)) (tC (.int c)) (tOp (rI CDiv fun i j => .int (i / j)) (tC (.int 10000)) (tVar 1)) [some (.ref d), some (.int (m : Int)), some (.bl sm), x3, x4, x5, x6] H' R := by
      intro c x3 x4 x5 x6 H' R hR
      refine ⟨_, rfl, sm, rfl, ?_⟩
      cases sm with
      | true => exact iteT hR
      | false => exact iteF ⟨_, rfl, _, _, rfl, rfl, ⟨by omega, by omega⟩, hR⟩
    have app : ∀ (h : Nat → Int) (i : Nat) (x : Int), (rl i fun j => h (j + 1)) ++ [V.int x] = rl (i + 1) fun j => ext1 h i x (j + 1) := fun h i x => by
      rw [rl_succ]
      congr 1
      · exact rl_ext fun j hj => by unfold ext1; rw [if_neg (by omega)]
      · unfold ext1
        rw [if_pos rfl]
    have app2 : ∀ (h : Nat → Int) (i : Nat) (x : Int), rl (i + 1) h ++ [V.int x] = rl (i + 1 + 1) (ext1 h i x) := fun h i x => by
      rw [rl_succ (i + 1)]
      congr 1
      · exact rl_ext fun j hj => by unfold ext1; rw [if_neg (by omega)]
      · unfold ext1
        rw [if_pos rfl]
    -- the first ladder
    refine ⟨_, rfl, (m : Int), rfl, by omega, by omega, ?_⟩
    have em : (m : Int).toNat = m := Int.toNat_natCast _
    refine for_range (lo := 0) (n := _) (fun i σ H' => (∃ v6 : Option V, ∃ h : Nat → Int, Lad h i ∧ σ = [some (.ref d), some (.int (m : Int)), some (.bl sm), some (.ref ra), some (.ref wa), some (.int (h i)), v6] ∧ H' ra = some (.lst (rl i fun j => h (j + 1)))) ∧
      H' wa = some (.lst [.int 0]) ∧ DrawAt H' d l ns ∧ ∀ b o, H2 b = some o → b ≠ d → H' b = some o)
      ⟨⟨none, _, Lad.start, rfl, by rw [upd_ne nrw]; exact upd_same⟩, upd_same, D2.same s2, fun b o e _ => s2 _ _ e⟩ ?_ ?_
    · rintro i σ H' hi ⟨⟨v6, h, Lh, rfl, hr1⟩, hw1, D', kp⟩
      rw [em] at hi
      obtain ⟨c1, c2⟩ := bnd 5 (by decide) (by decide)
      refine ⟨_, rfl, _, _, rfl, rfl, _, rfl, arg 5 _ _ _ _ _ _ ?_⟩
      refine ⟨d, l, ns, _, rfl, D', c1, by omega, fun v H3 hv0 hv1 D3 k3 => ⟨_, _, rfl, rfl, ?_⟩⟩
      have hr3 := k3 _ _ hr1 nrd
      have hw3 := k3 _ _ hw1 nwd
      refine ⟨_, rfl, .inl ⟨rfl, _, SqL.of hr3⟩, _, rfl, ra, _, _, rfl, rfl, hr3, (by rw [rl_len]; exact small1000 (by omega)), ?_⟩
      refine ⟨⟨some (.int ((0 : Int) + (i : Int))), ext1 h i (h i + 1 + v), Lh.step (by omega) (by omega), ?_, ?_⟩, by rw [upd_ne nrw.symm]; exact hw3, ⟨?_, ?_⟩, fun b o e hb => ?_⟩
      · unfold ext1
        rw [if_pos rfl]
        rfl
      · rw [upd_same, app]
      · rw [upd_ne nrl.symm]
        exact D3.ls
      · obtain ⟨i', x', c', y', h1, h2, h3⟩ := D3.ex
        exact ⟨i', x', c', y', by rw [upd_ne nrd.symm]; exact h1, h2, h3⟩
      · rw [upd_ne (ne_of_none e hra)]
        exact k3 _ _ (kp b o e hb) hb
    · rintro σ H' ⟨⟨v6, h1, L1, rfl, hr1⟩, hw1, D', kp⟩
      rw [em] at L1 hr1
      refine ⟨_, rfl, (m : Int), rfl, by omega, by omega, ?_⟩
      refine for_range (lo := 0) (n := _) (fun i σ H'' => (∃ v6 : Option V, ∃ h : Nat → Int, Lad h i ∧ σ = [some (.ref d), some (.int (m : Int)), some (.bl sm), some (.ref ra), some (.ref wa), some (.int (h i)), v6] ∧ H'' wa = some (.lst (rl (i + 1) h))) ∧
        H'' ra = some (.lst (rl m fun j => h1 (j + 1))) ∧ DrawAt H'' d l ns ∧ ∀ b o, H2 b = some o → b ≠ d → H'' b = some o)
        ⟨⟨v6, _, Lad.start, rfl, hw1⟩, hr1, D', kp⟩ ?_ ?_
      · rintro i σ H'' hi ⟨⟨v6, h, Lh, rfl, hw2⟩, hr2, D'', kp2⟩
        rw [em] at hi
        obtain ⟨c1, c2⟩ := bnd 14 (by decide) (by decide)
        refine ⟨_, rfl, _, _, rfl, rfl, _, rfl, arg 14 _ _ _ _ _ _ ?_⟩
        refine ⟨d, l, ns, _, rfl, D'', c1, by omega, fun v H3 hv0 hv1 D3 k3 => ⟨_, _, rfl, rfl, ?_⟩⟩
        have hr3 := k3 _ _ hr2 nrd
        have hw3 := k3 _ _ hw2 nwd
        refine ⟨_, rfl, .inl ⟨rfl, _, SqL.of hw3⟩, _, rfl, wa, _, _, rfl, rfl, hw3, (by rw [rl_len]; exact small1000 (by omega)), ?_⟩
        refine ⟨⟨some (.int ((0 : Int) + (i : Int))), ext1 h i (h i + 1 + v), Lh.step (by omega) (by omega), ?_, ?_⟩, by rw [upd_ne nrw]; exact hr3, ⟨?_, ?_⟩, fun b o e hb => ?_⟩
        · unfold ext1
          rw [if_pos rfl]
          rfl
        · rw [upd_same, app2]
        · rw [upd_ne nwl.symm]
          exact D3.ls
        · obtain ⟨i', x', c', y', h1', h2, h3⟩ := D3.ex
          exact ⟨i', x', c', y', by rw [upd_ne nwd.symm]; exact h1', h2, h3⟩
        · rw [upd_ne (ne_of_none e hwa0)]
          exact k3 _ _ (kp2 b o e hb) hb
      · rintro σ H'' ⟨⟨v6, h2, L2', rfl, hw2⟩, hr2, D'', kp2⟩
        rw [em] at L2' hw2
        refine ⟨_, rfl, ra, _, rfl, SqL.of hr2, fun q1 hq1 => ⟨q1, _, rfl, .inl ⟨SqL.of upd_same, fun q2 hq2 => ?_⟩⟩⟩
        have s3 := sUpd (Same.refl H'') (o := .lst (rl m fun j => h1 (j + 1)).reverse) hq1
        have s4 := sUpd s3 (o := .tup (rl m fun j => h1 (j + 1)).reverse) hq2
        refine ⟨_, rfl, wa, _, rfl, .inl ⟨SqL.of (s4 _ _ hw2), fun q3 hq3 => ⟨(by show 2 ≤ sizeLine; decide), fun q4 hq4 => ?_⟩⟩⟩
        have s5 := sUpd s4 (o := .tup (rl (m + 1) h2)) hq3
        have s6 := sUpd s5 (o := .tup [.ref q2, .ref q3]) hq4
        refine k q4 (mkT m h1 h2) _ (mkT_ok m1 m4 L1 L2') ⟨q2, q3, upd_same, ?_, ?_⟩ (D''.same s6) fun b o e hb => s6 _ _ (kp2 _ _ (k12 b o e hb) hb)
        · rw [upd_ne (ne_of_none (by rw [upd_ne (ne_of_none upd_same hq3)]; exact upd_same) hq4), upd_ne (ne_of_none upd_same hq3), upd_same, rl_rev]
          rfl
        · rw [upd_ne (ne_of_none upd_same hq4), upd_same]
          rfl
end
end K50


set_option Elab.async false
set_option maxRecDepth 100000
set_option maxHeartbeats 4000000
namespace K50
open PySem PySem.Spec PyProof.Rows L2
/-! ### the law's idle cost, its prices, its run -/
def nl (m : Nat) (f : Nat → Int) : List Int := (List.range m).map f
theorem rl_nl (m : Nat) (f : Nat → Int) : rl m f = (nl m f).map V.int := by
  unfold rl nl
  rw [List.map_map]
  rfl
theorem nl_mem {m : Nat} {f : Nat → Int} {x : Int} : x ∈ nl m f ↔ ∃ j, j < m ∧ f j = x := by
  unfold nl
  rw [List.mem_map]
  constructor
  · rintro ⟨j, hj, e⟩
    exact ⟨j, List.mem_range.mp hj, e⟩
  · rintro ⟨j, hj, e⟩
    exact ⟨j, List.mem_range.mpr hj, e⟩
theorem nl_len (m : Nat) (f : Nat → Int) : (nl m f).length = m := by unfold nl; rw [List.length_map, List.length_range]
def spLI : Sp := fun vs H Q _ => ∃ a T, ∃ t : Int, vs = [.ref a, .int t] ∧ TarAt H a T ∧ T.Ok ∧ ∀ H', Same H H' → Q (.int (idle T t)) H'
def spPrice : Sp := fun vs H Q _ => ∃ (d l : Addr) (ns : List Int) (hi : Bool), vs = [.ref d, .bl hi] ∧ DrawAt H d l ns ∧ ∀ (v : Int) (H' : Hp), 1 ≤ v → v ≤ 100 → DrawAt H' d l ns → Kept1 H H' d → Q (.int v) H'
def setF (f : Nat → Int) (i : Nat) (x : Int) (j : Nat) : Int := if j = i then x else f j
theorem rl_set (f : Nat → Int) (i : Nat) (x : Int) : rl i f ++ [V.int x] = rl (i + 1) (setF f i x) := by
  rw [rl_succ]
  congr 1
  · exact rl_ext fun j hj => by unfold setF; rw [if_neg (by omega)]
  · unfold setF
    rw [if_pos rfl]
section
variable {P : Program} {w : World} {K : PySem.W.Frag} {mg : Str → Option Value} {base : Heap}
theorem scLR : FnScope ["_law_tariff_here", "_law_state"] ["_law_tariff_here", "_law_state"] (defScope sLR) := ⟨rfl, rfl, rfl, by decide +kernel, rfl, by decide +kernel, by decide +kernel⟩
theorem ok_lr {f : Addr} {fd : FuncData} (F : Fun K "_law_rate" "_law_rate" sLR f fd) (zn : mg "len" = none) : FnOk P w K mg base CX0 1 f fd ["_law_tariff_here", "_law_state"] spRate := by
  refine F.ok scLR (fun vs H Q E h => ?_) (fun cdv A outer s H vs Q E hr h => ?_)
  · obtain ⟨a, T, j, rfl, _⟩ := h
    rfl
  · obtain ⟨a, T, j, rfl, hT, o, hj, q⟩ := h
    obtain ⟨ra, wa, h1, h2, h3⟩ := id hT
    refine ⟨_, pss_one (ps_ret (pe_ifExp (pt_cmpR op_eq (pv 1) (pe_callB call_len_seq (by rfl) zn PySem.boot_len (pa_cons (pe_ix ix_tup (pv 0) pe_int (fun _ _ => rfl)) pa_nil)) (nomark _)) pe_int
      (pe_ix ix_tup (pe_ix ix_tup (pv 0) pe_int (fun _ _ => rfl)) (pv 1) (fun _ _ => rfl)))), ?_⟩
    refine ⟨_, rfl, _, rfl, a, _, _, _, rfl, rfl, SqT.of h1, atI_nat (j := 0) rfl, ra, _, rfl, .inr (SqT.of h2), rfl, _, rfl, ?_⟩
    rw [rl_len]
    by_cases e : j = T.n
    · subst e
      rw [decide_eq_true rfl]
      refine iteT ?_
      rw [o.rn] at q
      exact q
    · have ne : decide (V.int (j : Int) = V.int (T.n : Int)) = false := decide_eq_false fun z => e (by injection z with z; omega)
      rw [ne]
      refine iteF ?_
      exact ⟨_, rfl, a, _, _, _, rfl, rfl, SqT.of h1, atI_nat (j := 0) rfl, _, rfl, ra, _, _, _, rfl, rfl, SqT.of h2, atI_nat (rl_get (by omega)), q⟩
theorem scLI : FnScope ["_law_tariff_here", "_law_total", "_law_state"] ["_law_tariff_here", "_law_total"] (defScope sLI) := ⟨rfl, rfl, rfl, by decide +kernel, rfl, by decide +kernel, by decide +kernel⟩
theorem ok_li {f : Addr} {fd : FuncData} (F : Fun K "_law_idle_cost" "_law_idle_cost" sLI f fd) (zm : mg "min" = none) (zr : mg "range" = none) (zn : mg "len" = none) (hR : Has1 P w K mg base "_law_rate" 1 ["_law_tariff_here", "_law_state"] spRate) :
    FnOk P w K mg base CX0 2 f fd ["_law_tariff_here", "_law_total"] spLI := by
  obtain ⟨fR, fdR, mR, kR, bR, GR⟩ := hR.ok
  refine F.ok scLI (fun vs H Q E h => ?_) (fun cdv A outer s H vs Q E hr h => ?_)
  · obtain ⟨a, T, t, rfl, _⟩ := h
    rfl
  · obtain ⟨a, T, t, rfl, hT, o, k⟩ := h
    obtain ⟨ra, wa, h1, h2, h3⟩ := id hT
    have nd := scLI.nd
    have n4 := o.n4
    refine ⟨_, pss_one (ps_ret (pe_callB (cr_min rfl) (by rfl) zm (by decide +kernel) (pa_cons
      (pe_lc (own := [("_law_state", 2)]) (g := gName 2) (tt := tYes) rfl nd (pi_range1 rfl zr (pa_cons (pe_callB call_len_seq (by rfl) zn PySem.boot_len (pa_cons (pe_ix ix_tup (pv 0) pe_int (fun _ _ => rfl)) pa_nil)) pa_nil))
        (blkOk_by (N := ["_law_tariff_here", "_law_total", "_law_state"]) (sc := defScope sLI) (by decide +kernel)) (fun _ _ _ _ _ => pg_name (i := 2) nd rfl (Or.inl rfl)) (fun _ _ _ _ _ => pts_nil)
        (fun _ _ _ _ _ => pe_op op_add (pe_op op_mul (pe_call GR hr (by rfl) mR kR bR .nil pass0 (pa_cons (pv 0) (pa_cons (pv 2) pa_nil))) (pv 1)) (pe_ix (r := rIxT K) ix_tup (pe_ix (r := rIxT K) ix_tup (pv 0) pe_int (fun _ _ => rfl)) (pv 2) (fun _ _ => rfl)))) pa_nil))), ?_⟩
    refine ⟨_, rfl, a, _, _, _, rfl, rfl, SqT.of h1, atI_nat (j := 1) rfl, wa, _, rfl, .inr (SqT.of h3), ?_⟩
    rw [rl_len]
    refine ⟨_, rfl, by omega, by omega, fun D hD => ?_⟩
    have en : (((T.n + 1 : Nat) : Int)).toNat = T.n + 1 := Int.toNat_natCast _
    refine lc_range (lo := 0) (n := _) (fun i H' => Same H H' ∧ H' D = some (.lst (rl i fun j => stc T j t))) ⟨sUpd (Same.refl H) hD, upd_same⟩ ?_ ?_
    · rintro i H' hi ⟨s1, ha⟩
      rw [en] at hi
      have e0 : (0 : Int) + (i : Int) = (i : Int) := Int.zero_add _
      rw [e0]
      have hT1 : TarAt H' a T := hT.same fun c xs e => s1 _ _ e
      refine ⟨rfl, _, rfl, _, rfl, a, T, i, rfl, hT1, o, by omega, _, rfl, _, _, rfl, rfl, rate_in o (by omega) _, _, rfl, a, _, _, _, rfl, rfl, SqT.of (s1 _ _ h1), atI_nat (j := 1) rfl, _, rfl, wa, _, _, _, rfl, rfl, SqT.of (s1 _ _ h3), atI_nat (rl_get (by omega)), _, _, rfl, rfl, _, ha, (by rw [rl_len]; exact small1000 (by omega)), fun c q e => ?_, ?_⟩
      · rw [upd_ne (ne_of_none e hD)]
        exact s1 _ _ e
      · rw [upd_same, rl_succ]
        rfl
    · rintro H' ⟨s1, ha⟩
      rw [en, rl_nl] at ha
      refine ⟨D, _, rfl, SqL.of ha, (by rw [nl_len]; omega), fun m hm hle => ?_⟩
      have e : m = idle T t := by
        obtain ⟨j, hj, ej⟩ := nl_mem.mp hm
        have h5 := idS_min T t T.n j (by omega)
        have h6 := hle (idle T t) (nl_mem.mpr ⟨idSt T t, Nat.lt_succ_of_le (idSt_le T t), rfl⟩)
        have h7 : idle T t ≤ stc T j t := h5
        omega
      rw [e]
      exact k H' s1
theorem scPrice : FnScope ["_law_d", "_law_high"] ["_law_d", "_law_high"] (defScope sPrice) := ⟨rfl, rfl, rfl, by decide +kernel, rfl, by decide +kernel, by decide +kernel⟩
theorem ok_price {f : Addr} {fd : FuncData} (F : Fun K "_law_price" "_law_price" sPrice f fd) (hD : Has1 P w K mg base "_law_draw" 2 ["_law_d", "_law_many"] spDraw) : FnOk P w K mg base CX0 3 f fd ["_law_d", "_law_high"] spPrice := by
  obtain ⟨fD, fdD, mD, kD, bD, GD⟩ := hD.ok
  refine F.ok scPrice (fun vs H Q E h => ?_) (fun cdv A outer s H vs Q E hr h => ?_)
  · obtain ⟨d, l, ns, hi, rfl, _⟩ := h
    rfl
  · obtain ⟨d, l, ns, hi, rfl, D, k⟩ := h
    refine ⟨_, pss_one (ps_ret (pe_ifExp (pt_val (pv 1)) (pe_ix ix_list (pe_lst (pa_cons pe_int (pa_cons pe_int (pa_cons pe_int (pa_cons pe_int
        (pa_cons (pe_op op_add pe_int (pe_call GD hr (by rfl) mD kD bD .nil pass0 (pa_cons (pv 0) (pa_cons pe_int pa_nil)))) (pa_cons (pe_op op_add pe_int (pe_call GD hr (by rfl) mD kD bD .nil pass0 (pa_cons (pv 0) (pa_cons pe_int pa_nil)))) pa_nil)))))))
        (pe_call GD hr (by rfl) mD kD bD .nil pass0 (pa_cons (pv 0) (pa_cons pe_int pa_nil))) (fun _ _ => rfl))
      (pe_op op_add pe_int (pe_call GD hr (by rfl) mD kD bD .nil pass0 (pa_cons (pv 0) (pa_cons pe_int pa_nil)))))), ?_⟩
    refine ⟨_, rfl, hi, rfl, ?_⟩
    cases hi with
    | true =>
      refine iteT ?_
      refine ⟨_, rfl, d, l, ns, 100, rfl, D, by decide, by decide, fun v1 H1 a1 b1 D1 k1 => ⟨_, _, rfl, rfl, ?_⟩⟩
      refine ⟨_, rfl, d, l, ns, 5, rfl, D1, by decide, by decide, fun v2 H2 a2 b2 D2 k2 => ⟨_, _, rfl, rfl, (by show 6 ≤ sizeLine; decide), fun u hu => ?_⟩⟩
      have s3 := sUpd (Same.refl H2) (o := .lst [.int 1, .int 1, .int 2, .int 100, .int (1 + v1), .int (1 + v2)]) hu
      have nud : u ≠ d := fun z => by
        obtain ⟨o, h1, _⟩ := D2.tr
        rw [z, h1] at hu
        cases hu
      refine ⟨_, rfl, d, l, ns, 6, rfl, D2.same s3, by decide, by decide, fun v3 H3 a3 b3 D3 k3 => ?_⟩
      have hu3 := k3 _ _ upd_same nud
      have kp : Kept1 H H3 d := fun b o e hb => k3 _ _ (s3 _ _ (k2 _ _ (k1 b o e hb) hb)) hb
      have e : v3 = 0 ∨ v3 = 1 ∨ v3 = 2 ∨ v3 = 3 ∨ v3 = 4 ∨ v3 = 5 := by omega
      rcases e with e | e | e | e | e | e <;> subst e
      · exact ⟨u, _, _, _, rfl, rfl, SqL.of hu3, atI_nat (j := 0) rfl, k _ _ (by decide) (by decide) D3 kp⟩
      · exact ⟨u, _, _, _, rfl, rfl, SqL.of hu3, atI_nat (j := 1) rfl, k _ _ (by decide) (by decide) D3 kp⟩
      · exact ⟨u, _, _, _, rfl, rfl, SqL.of hu3, atI_nat (j := 2) rfl, k _ _ (by decide) (by decide) D3 kp⟩
      · exact ⟨u, _, _, _, rfl, rfl, SqL.of hu3, atI_nat (j := 3) rfl, k _ _ (by decide) (by decide) D3 kp⟩
      · exact ⟨u, _, _, _, rfl, rfl, SqL.of hu3, atI_nat (j := 4) rfl, k _ _ (by omega) (by omega) D3 kp⟩
      · exact ⟨u, _, _, _, rfl, rfl, SqL.of hu3, atI_nat (j := 5) rfl, k _ _ (by omega) (by omega) D3 kp⟩
    | false =>
      refine iteF ?_
      exact ⟨_, rfl, d, l, ns, 3, rfl, D, by decide, by decide, fun v1 H1 a1 b1 D1 k1 => ⟨_, _, rfl, rfl, k _ _ (by omega) (by omega) D1 k1⟩⟩
end
end K50


set_option Elab.async false
set_option maxRecDepth 100000
set_option maxHeartbeats 4000000
namespace K50
open PySem PySem.Spec PyProof.Rows L2
/-! ### _law_run -/
theorem dp_ints {K : PySem.W.Frag} {H : Hp} : ∀ ns : List Int, DpAll K H (ns.map V.int) (ns.map PyData.int)
  | [] => .nil
  | n :: r => .cons (.int n) (dp_ints r)
def spRun : Sp := fun vs H Q _ => ∃ (d l : Addr) (ns : List Int) (most : Int), vs = [.ref d, .int 12, .int most] ∧ DrawAt H d l ns ∧ 0 ≤ most ∧ most ≤ 40 ∧
  ∀ (r pa na ba : Addr) (m : Nat) (P N : Nat → Int) (bs : List Int) (H' : Hp), m ≤ 12 → (∀ k, 1 ≤ P k ∧ P k ≤ 100) → (∀ k, 0 ≤ N k ∧ N k ≤ 40) → bs.length ≤ 12 → H' r = some (.tup [.ref pa, .ref na, .ref ba]) →
    H' pa = some (.lst (rl m P)) → H' na = some (.lst (rl m N)) → H' ba = some (.lst (bs.map V.int)) → Kept1 H H' d → Q (.ref r) H'
section
variable {P : Program} {w : World} {K : PySem.W.Frag} {mg : Str → Option Value} {base : Heap}
theorem scRun : FnScope ["_law_d", "_law_moments", "_law_most", "_law_many", "_law_high", "_law_k", "_law_prices", "_law_needs", "_law_choice", "_law_breaks"] ["_law_d", "_law_moments", "_law_most"] (defScope sRun) := ⟨rfl, rfl, rfl, by decide +kernel, rfl, by decide +kernel, by decide +kernel⟩
theorem ok_run {f : Addr} {fd : FuncData} (F : Fun K "_law_run" "_law_run" sRun f fd) (zr : mg "range" = none) (hD : Has1 P w K mg base "_law_draw" 2 ["_law_d", "_law_many"] spDraw) (hP : Has1 P w K mg base "_law_price" 3 ["_law_d", "_law_high"] spPrice) :
    FnOk P w K mg base CX0 4 f fd ["_law_d", "_law_moments", "_law_most"] spRun := by
  obtain ⟨fD, fdD, mD, kD, bD, GD⟩ := hD.ok
  obtain ⟨fP, fdP, mP, kP, bP, GP⟩ := hP.ok
  refine F.ok scRun (fun vs H Q E h => ?_) (fun cdv A outer s H vs Q E hr h => ?_)
  · obtain ⟨d, l, ns, most, rfl, _⟩ := h
    rfl
  · obtain ⟨d, l, ns, most, rfl, D, q0, q1, k⟩ := h
    have nN := scRun.nd
    have hr2 : Room 2 _ := hr.mono (by decide)
    refine ⟨_, pss_cons (ps_set (i := 3) nN rfl (Or.inl rfl) (pe_call GD hr2 (by rfl) mD kD bD .nil pass0 (pa_cons (pv 0) (pa_cons (pe_op op_add (pv 1) pe_int) pa_nil))))
      (pss_cons (ps_set (i := 4) nN rfl (Or.inr rfl) (pe_cmpR op_eq (pe_call GD hr2 (by rfl) mD kD bD .nil pass0 (pa_cons (pv 0) (pa_cons pe_int pa_nil))) pe_int (nomark _)))
      (pss_cons (ps_setLc (i := 6) (own := [("_law_k", 5)]) (g := gName 5) (tt := tYes) rfl nN rfl rfl (sw_true rfl rfl rfl (by decide +kernel)) (pi_range1 rfl zr (pa_cons (pv 3) pa_nil))
        (blkOk_by (N := ["_law_d", "_law_moments", "_law_most", "_law_many", "_law_high", "_law_k", "_law_prices", "_law_needs", "_law_choice", "_law_breaks"]) (sc := defScope sRun) (by decide +kernel)) (fun _ _ _ _ _ => pg_name (i := 5) nN rfl (Or.inl rfl)) (fun _ _ _ _ _ => pts_nil)
        (fun _ _ _ _ _ => pe_call GP hr (by rfl) mP kP bP .nil pass0 (pa_cons (pv 0) (pa_cons (pv 4) pa_nil))))
      (pss_cons (ps_set (i := 7) nN rfl (Or.inl rfl) (pe_lst pa_nil))
      (pss_cons (ps_for PassesOwn.never rfl (pi_range1 rfl zr (pa_cons (pv 3) pa_nil)) (pg_name (i := 5) nN rfl (Or.inl rfl))
        (pss_cons (ps_set (i := 8) nN rfl (Or.inl rfl) (pe_call GD hr2 (by rfl) mD kD bD .nil pass0 (pa_cons (pv 0) (pa_cons pe_int pa_nil))))
        (pss_one (ps_if (pt_cmpR op_eq (pv 8) pe_int (nomark _))
          (pss_one (ps_expr (pe_bm PySem.F.plainAttrs_list PySem.F.slot_list_append PySem.F.type_list_append mt_append (pv 7) (pa_cons (pe_call GD hr2 (by rfl) mD kD bD .nil pass0 (pa_cons (pv 0) (pa_cons (pe_op op_add (pv 2) pe_int) pa_nil))) pa_nil))))
          (pss_one (ps_if (PW.pt (pw_and (pt_cmpR op_eq (pv 8) pe_int (nomark _)) (pw_and1 (pt_cmpR (op_neD hr.units) (pv 7) (pe_lst pa_nil) (nomark _)))))
            (pss_one (ps_expr (pe_bm PySem.F.plainAttrs_list PySem.F.slot_list_append PySem.F.type_list_append mt_append (pv 7) (pa_cons (pe_ix ix_list (pv 7) (pe_un un_neg pe_int) (fun _ _ => rfl)) pa_nil))))
            (pss_one (ps_expr (pe_bm PySem.F.plainAttrs_list PySem.F.slot_list_append PySem.F.type_list_append mt_append (pv 7) (pa_cons pe_int pa_nil))))))))))
      (pss_cons (ps_setLc (i := 9) (own := [("_law_k", 5)]) (g := gName 5) (tt := tTest (tOp rEq (tCall spDraw [] E0 (tCons (tVar 0) (tCons (tC (.int 7)) tNil))) (tC (.int 1)))) rfl nN rfl rfl (sw_true rfl rfl rfl (by decide +kernel)) (pi_range1 rfl zr (pa_cons (pv 3) pa_nil))
        (blkOk_by (N := ["_law_d", "_law_moments", "_law_most", "_law_many", "_law_high", "_law_k", "_law_prices", "_law_needs", "_law_choice", "_law_breaks"]) (sc := defScope sRun) (by decide +kernel)) (fun _ _ _ _ _ => pg_name (i := 5) nN rfl (Or.inl rfl))
        (fun _ _ _ _ _ => pts_one (pt_cmpR op_eq (pe_call GD hr2 (by rfl) mD kD bD .nil pass0 (pa_cons (pv 0) (pa_cons pe_int pa_nil))) pe_int (nomark _)))
        (fun _ _ _ _ _ => pv 5))
      (pss_one (ps_ret (pe_tup (pa_cons (pv 6) (pa_cons (pv 7) (pa_cons (pv 9) pa_nil))))))))))), ?_⟩
    -- many, high
    refine ⟨_, rfl, _, rfl, _, _, rfl, rfl, d, l, ns, _, rfl, D, by decide, by decide, fun v0 H1 a0 b0 D1 k1 => ?_⟩
    refine ⟨_, rfl, d, l, ns, 2, rfl, D1, by decide, by decide, fun v1 H2 a1 b1 D2 k2 => ⟨rfl, ?_⟩⟩
    obtain ⟨m, rfl⟩ : ∃ m : Nat, v0 = (m : Int) := ⟨v0.toNat, by omega⟩
    have m12 : m ≤ 12 := by
      have : (m : Int) < 12 + 1 := b0
      omega
    have em : (m : Int).toNat = m := Int.toNat_natCast _
    have k12 := k1.trans k2
    dsimp only
    generalize hhi : decide (V.int v1 = V.int 0) = hi
    have hd2 : ∀ (H' : Hp) (b : Addr), DrawAt H' d l ns → H' b = none → b ≠ d ∧ b ≠ l := by
      intro H' b D' hb
      refine ⟨fun z => ?_, fun z => ?_⟩
      · obtain ⟨o, h1, _⟩ := D'.tr
        rw [z, h1] at hb
        cases hb
      · have h1 := D'.ls
        rw [← z, hb] at h1
        cases h1
    have dput : ∀ (H' : Hp) (b : Addr) (o : HO), DrawAt H' d l ns → b ≠ d → b ≠ l → DrawAt (upd H' b o) d l ns := fun H' b o D' nd nl => by
      obtain ⟨i', x', c', y', h1, h2, h3⟩ := D'.ex
      exact ⟨by rw [upd_ne nl.symm]; exact D'.ls, i', x', c', y', by rw [upd_ne nd.symm]; exact h1, h2, h3⟩
    -- prices
    refine ⟨_, rfl, (m : Int), rfl, by omega, by omega, fun pa hpa => ?_⟩
    obtain ⟨npd, npl⟩ := hd2 _ _ D2 hpa
    refine lc_range (lo := 0) (n := _) (fun i H' => (∃ PP : Nat → Int, (∀ j, 1 ≤ PP j ∧ PP j ≤ 100) ∧ H' pa = some (.lst (rl i PP))) ∧ DrawAt H' d l ns ∧ Kept1 H2 H' d)
      ⟨⟨fun _ => 1, fun _ => ⟨Int.le_refl 1, by show (1 : Int) ≤ 100; decide⟩, upd_same⟩, dput _ _ _ D2 npd npl, fun b o e _ => sUpd (Same.refl H2) hpa _ _ e⟩ ?_ ?_
    · rintro i H' hi' ⟨⟨PP, hPP, hp1⟩, D', kp⟩
      rw [em] at hi'
      refine ⟨rfl, _, rfl, _, rfl, d, l, ns, hi, rfl, D', fun v H3 c1 c2 D3 k3 => ?_⟩
      have hp3 := k3 _ _ hp1 npd
      refine ⟨_, hp3, (by rw [rl_len]; exact small1000 (by omega)), ⟨setF PP i v, fun j => ?_, by rw [upd_same, rl_set]⟩, dput _ _ _ D3 npd npl, fun b o e hb => ?_⟩
      · unfold setF
        by_cases e : j = i
        · rw [if_pos e]; exact ⟨c1, c2⟩
        · rw [if_neg e]; exact hPP j
      · rw [upd_ne (ne_of_none e hpa)]
        exact k3 _ _ (kp b o e hb) hb
    rintro H3 ⟨⟨PP, hPP, hp3⟩, D3, k3⟩
    rw [em] at hp3
    -- needs
    refine ⟨Nat.zero_le _, fun na hna => ?_⟩
    obtain ⟨nnd, nnl⟩ := hd2 _ _ D3 hna
    have npn : pa ≠ na := ne_of_none hp3 hna
    refine ⟨_, rfl, (m : Int), rfl, by omega, by omega, ?_⟩
    refine for_range (lo := 0) (n := _) (fun i σ H' => (∃ v5 v8 : Option V, σ = [some (.ref d), some (.int 12), some (.int most), some (.int (m : Int)), some (.bl hi), v5, some (.ref pa), some (.ref na), v8, none]) ∧
      (∃ NN : Nat → Int, (∀ j, 0 ≤ NN j ∧ NN j ≤ 40) ∧ H' na = some (.lst (rl i NN))) ∧ H' pa = some (.lst (rl m PP)) ∧ DrawAt H' d l ns ∧ Kept1 H3 H' d)
      ⟨⟨none, none, rfl⟩, ⟨fun _ => 0, fun _ => ⟨Int.le_refl 0, by show (0 : Int) ≤ 40; decide⟩, upd_same⟩, by rw [upd_ne npn]; exact hp3, dput _ _ _ D3 nnd nnl, fun b o e _ => sUpd (Same.refl H3) hna _ _ e⟩ ?_ ?_
    · rintro i σ H' hi' ⟨⟨v5, v8, rfl⟩, ⟨NN, hNN, hn1⟩, hp1, D', kp⟩
      rw [em] at hi'
      have hset : ∀ (x : Int), 0 ≤ x → x ≤ 40 → ∀ j, 0 ≤ setF NN i x j ∧ setF NN i x j ≤ 40 := fun x x0 x1 j => by
        unfold setF
        by_cases e : j = i
        · rw [if_pos e]; exact ⟨x0, x1⟩
        · rw [if_neg e]; exact hNN j
      refine ⟨_, rfl, d, l, ns, 4, rfl, D', by decide, by decide, fun v H4 c1 c2 D4 k4 => ?_⟩
      have hn4 := k4 _ _ hn1 nnd
      have hp4 := k4 _ _ hp1 npd
      have hlen : (rl i NN).length < sizeLine := by rw [rl_len]; exact small1000 (by omega)
      -- the end of a turn
      have fin : ∀ (x : Int) (H5 : Hp), 0 ≤ x → x ≤ 40 → H5 na = some (.lst (rl i NN)) → H5 pa = some (.lst (rl m PP)) → DrawAt H5 d l ns → Kept1 H3 H5 d →
          (∃ v5' v8' : Option V, [some (.ref d), some (.int 12), some (.int most), some (.int (m : Int)), some (.bl hi), some (.int ((0 : Int) + (i : Int))), some (.ref pa), some (.ref na), some (.int v), none] = [some (V.ref d), some (.int 12), some (.int most), some (.int (m : Int)), some (.bl hi), v5', some (.ref pa), some (.ref na), v8', none]) ∧
          (∃ NN' : Nat → Int, (∀ j, 0 ≤ NN' j ∧ NN' j ≤ 40) ∧ (upd H5 na (.lst (rl i NN ++ [V.int x]))) na = some (.lst (rl (i + 1) NN'))) ∧ (upd H5 na (.lst (rl i NN ++ [V.int x]))) pa = some (.lst (rl m PP)) ∧ DrawAt (upd H5 na (.lst (rl i NN ++ [V.int x]))) d l ns ∧ Kept1 H3 (upd H5 na (.lst (rl i NN ++ [V.int x]))) d := by
        intro x H5 x0 x1 h1 h2 h3 h4
        refine ⟨⟨_, _, rfl⟩, ⟨setF NN i x, hset x x0 x1, by rw [upd_same, rl_set]⟩, by rw [upd_ne npn]; exact h2, dput _ _ _ h3 nnd nnl, fun b o e hb => ?_⟩
        rw [upd_ne (ne_of_none e hna)]
        exact h4 b o e hb
      refine ⟨_, rfl, rfl, _, rfl, ?_⟩
      refine ite2 (fun _ => ?_) (fun _ => ?_)
      · refine ⟨_, rfl, .inl ⟨rfl, _, SqL.of hn4⟩, _, rfl, _, rfl, _, _, rfl, rfl, d, l, ns, _, rfl, D4, by omega, by omega, fun x H5 x0 x1 D5 k5 => ?_⟩
        have hn5 := k5 _ _ hn4 nnd
        exact ⟨na, _, _, rfl, rfl, hn5, hlen, fin x H5 x0 (by omega) hn5 (k5 _ _ hp4 npd) D5 ((kp.trans k4).trans k5)⟩
      · refine ⟨_, rfl, rfl, _, rfl, ?_⟩
        have zero : ∀ H5 : Hp, H5 na = some (.lst (rl i NN)) → H5 pa = some (.lst (rl m PP)) → DrawAt H5 d l ns → Kept1 H3 H5 d → tDrop (tBM K "list" rAppend (tVar 7) (tCons (tC (.int 0)) tNil)) { nx := fun σ H' => (∃ v5 v8 : Option V, σ = [some (.ref d), some (.int 12), some (.int most), some (.int (m : Int)), some (.bl hi), v5, some (.ref pa), some (.ref na), v8, none]) ∧ (∃ NN : Nat → Int, (∀ j, 0 ≤ NN j ∧ NN j ≤ 40) ∧ H' na = some (.lst (rl (i + 1) NN))) ∧ H' pa = some (.lst (rl m PP)) ∧ DrawAt H' d l ns ∧ Kept1 H3 H' d, rt := Q }
            [some (.ref d), some (.int 12), some (.int most), some (.int (m : Int)), some (.bl hi), some (.int ((0 : Int) + (i : Int))), some (.ref pa), some (.ref na), some (.int v), none] H5 := fun H5 h1 h2 h3 h4 =>
          ⟨_, rfl, .inl ⟨rfl, _, SqL.of h1⟩, na, _, _, rfl, rfl, h1, hlen, fin 0 H5 (by decide) (by decide) h1 h2 h3 h4⟩
        refine ite2 (fun _ => ?_) (fun _ => iteF (zero H4 hn4 hp4 D4 (kp.trans k4)))
        refine ⟨_, rfl, Nat.zero_le _, fun q hq => ?_⟩
        have s5 := sUpd (Same.refl H4) (o := .lst []) hq
        have hn5 := s5 _ _ hn4
        have hp5 := s5 _ _ hp4
        have D5 := D4.same s5
        have k5 := (kp.trans k4).same s5
        refine ⟨.list ((nl i NN).map PyData.int), .list [], .lst (SqL.of hn5) (by rw [rl_nl]; exact dp_ints _), .lst (SqL.of upd_same) .nil, PySem.W.ke_shaped_ints _, by decide, _, rfl, ?_⟩
        cases i with
        | zero => exact iteF (zero _ hn5 hp5 D5 k5)
        | succ i0 =>
          refine ite2 (fun _ => ?_) (fun _ => zero _ hn5 hp5 D5 k5)
          have hlast : atI (rl (i0 + 1) NN) (-1) = some (V.int (NN i0)) := by
            rw [rl_succ]
            exact atI_last _ _
          exact ⟨_, rfl, .inl ⟨rfl, _, SqL.of hn5⟩, _, rfl, _, rfl, na, _, _, _, rfl, rfl, SqL.of hn5, hlast, na, _, _, rfl, rfl, hn5, hlen, fin (NN i0) _ (hNN i0).1 (hNN i0).2 hn5 hp5 D5 k5⟩
    · rintro σ H5 ⟨⟨v5, v8, rfl⟩, ⟨NN, hNN, hn5⟩, hp5, D5, k5⟩
      rw [em] at hn5
      -- breaks
      refine ⟨_, rfl, (m : Int), rfl, by omega, by omega, fun ba hba => ?_⟩
      obtain ⟨nbd, nbl⟩ := hd2 _ _ D5 hba
      have npb : pa ≠ ba := ne_of_none hp5 hba
      have nnb : na ≠ ba := ne_of_none hn5 hba
      refine lc_range (lo := 0) (n := _) (fun i H' => (∃ bs : List Int, bs.length ≤ i ∧ H' ba = some (.lst (bs.map V.int))) ∧ H' pa = some (.lst (rl m PP)) ∧ H' na = some (.lst (rl m NN)) ∧ DrawAt H' d l ns ∧ Kept1 H5 H' d)
        ⟨⟨[], Nat.le_refl _, upd_same⟩, by rw [upd_ne npb]; exact hp5, by rw [upd_ne nnb]; exact hn5, dput _ _ _ D5 nbd nbl, fun b o e _ => sUpd (Same.refl H5) hba _ _ e⟩ ?_ ?_
      · rintro i H' hi' ⟨⟨bs, hbl, hb1⟩, hp1, hn1, D', kp⟩
        rw [em] at hi'
        refine ⟨rfl, _, rfl, d, l, ns, 7, rfl, D', by decide, by decide, fun v H6 c1 c2 D6 k6 => ⟨rfl, _, rfl, ?_⟩⟩
        have hb6 := k6 _ _ hb1 nbd
        have hp6 := k6 _ _ hp1 npd
        have hn6 := k6 _ _ hn1 nnd
        refine ite2 (fun _ => ?_) (fun _ => ⟨⟨bs, by omega, hb6⟩, hp6, hn6, D6, kp.trans k6⟩)
        refine ⟨_, rfl, _, hb6, (by rw [List.length_map]; exact small1000 (by omega)), ⟨bs ++ [(0 : Int) + (i : Int)], by rw [List.length_append]; exact Nat.succ_le_succ hbl, ?_⟩, by rw [upd_ne npb]; exact hp6, by rw [upd_ne nnb]; exact hn6, dput _ _ _ D6 nbd nbl, fun b o e hb => ?_⟩
        · rw [upd_same, List.map_append]
          rfl
        · rw [upd_ne (ne_of_none e hba)]
          exact k6 _ _ (kp b o e hb) hb
      · rintro H6 ⟨⟨bs, hbl, hb6⟩, hp6, hn6, D6, k6⟩
        rw [em] at hbl
        refine ⟨_, rfl, _, rfl, _, rfl, (by show 3 ≤ sizeLine; decide), fun r hrn => ?_⟩
        have s7 := sUpd (Same.refl H6) (o := .tup [.ref pa, .ref na, .ref ba]) hrn
        exact k r pa na ba m PP NN bs _ m12 hPP hNN (by omega) upd_same (s7 _ _ hp6) (s7 _ _ hn6) (s7 _ _ hb6) ((((k12.trans k3).trans k5).trans k6).same s7)
end
end K50


set_option Elab.async false
set_option maxRecDepth 100000
set_option maxHeartbeats 4000000
namespace K50
open PySem PySem.Spec PyProof.Rows L2
/-! ### _law_best -/
/-- max(xs, default=0) of ints that are not negative -/
def rMax0 (K : PySem.W.Frag) : List V → List V → Hp → VK → Prop := fun vs zs H Q => ∃ (a : Addr) (ns : List Int), vs = [V.ref a] ∧ zs = [.int 0] ∧ SqL K H a (ns.map V.int) ∧ (∀ y, y ∈ ns → 0 ≤ y) ∧
  ∀ m : Int, 0 ≤ m → (m = 0 ∨ m ∈ ns) → (∀ y, y ∈ ns → y ≤ m) → Q (.int m) H
section
variable {X : Cx}
theorem cr_max0 (hc : X.calm = true) (hu : X.A.units + 1 < cLine) : CallRK X (.builtin "max") [Str.ofString "default"] (rMax0 X.K) := by
  intro pins s σ H vs zs us ws Q I r rz h
  obtain ⟨a, ns, e1, e2, hs, hp, q⟩ := h
  exact cr_maxD hc hu pins s σ H vs zs us ws Q I r rz ⟨a, ns, .int 0, e1, e2, hs, fun e => q 0 (Int.le_refl _) (.inl rfl) (fun y hy => by rw [e] at hy; cases hy), fun m hm hle => q m (hp m hm) (.inr hm) hle⟩
end
theorem cut_rl {m b i : Nat} (P : Nat → Int) (hb : b ≤ i) (hi : i ≤ m) : cutV (rl m P) (some (b : Int)) (some (i : Int)) = (nl (i - b) fun j => P (b + j)).map V.int := by
  unfold cutV
  rw [rl_len, HT.sIx_nat, HT.sIx_nat]
  have e1 : min b m = b := by omega
  have e2 : min i m = i := by omega
  rw [e1, e2, ← rl_nl]
  refine rl_of (by rw [List.length_take, List.length_drop, rl_len]; omega) fun j hj => ?_
  rw [List.getElem?_take, if_pos hj, List.getElem?_drop, rl_get (by omega)]
theorem nl_sum (P : Nat → Int) (b : Nat) : ∀ d : Nat, (nl d fun j => P (b + j)).sum = sumP P b d
  | 0 => rfl
  | d + 1 => by
    have e : nl (d + 1) (fun j => P (b + j)) = nl d (fun j => P (b + j)) ++ [P (b + d)] := by
      unfold nl
      rw [List.range_succ, List.map_append]
      rfl
    rw [e, List.sum_append, nl_sum P b d]
    show sumP P b d + (P (b + d) + 0) = sumP P b d + P (b + d)
    omega
def lastV : Option Nat → Int
  | none => -1
  | some q => (q : Int)
def bOf : Option Nat → Nat
  | none => 0
  | some q => q + 1
theorem lastV_b (o : Option Nat) : lastV o + 1 = (bOf o : Int) := by
  cases o with
  | none => rfl
  | some q => rfl
def inB (q k : Nat) (x : Int) : Bool := decide ((q : Int) ≤ x) && decide (x < (k : Int))
theorem hasB_len {bs : List Int} {q k : Nat} : decide ((0 : Int) < ((bs.filter (inB q k)).length : Int)) = hasB bs q k := by
  unfold hasB
  rw [Bool.eq_iff_iff, decide_eq_true_eq, List.any_eq_true]
  constructor
  · intro h
    have h' : 0 < (bs.filter (inB q k)).length := by omega
    obtain ⟨x, hx⟩ := List.exists_mem_of_length_pos h'
    obtain ⟨h1, h2⟩ := List.mem_filter.mp hx
    exact ⟨x, h1, h2⟩
  · rintro ⟨x, h1, h2⟩
    have := List.length_pos_of_mem (List.mem_filter.mpr ⟨h1, (show inB q k x = true from h2)⟩)
    omega
theorem take_filter {bs : List Int} {p : Int → Bool} {j : Nat} {x : Int} (h : bs[j]? = some x) : (bs.take (j + 1)).filter p = (bs.take j).filter p ++ (if p x = true then [x] else []) := by
  rw [List.take_add_one, h, List.filter_append]
  congr 1
  show List.filter p [x] = _
  by_cases e : p x = true
  · rw [if_pos e, List.filter_cons_of_pos e]
    rfl
  · rw [if_neg e, List.filter_cons_of_neg e]
    rfl
def spBest : Sp := fun vs H Q _ => ∃ (a pa na ba : Addr) (T : Tar) (m : Nat) (PP NN : Nat → Int) (bs : List Int), vs = [.ref a, .ref pa, .ref na, .ref ba] ∧ TarAt H a T ∧ T.Ok ∧ H pa = some (.lst (rl m PP)) ∧ H na = some (.lst (rl m NN)) ∧ H ba = some (.lst (bs.map V.int)) ∧
  m ≤ 12 ∧ bs.length ≤ 12 ∧ (∀ k, 0 ≤ NN k ∧ NN k ≤ 40) ∧ ∀ H', Same H H' → Q (.int (sumN (fun l => (L T PP NN bs l m).2) 40)) H'
section
variable {P : Program} {w : World} {K : PySem.W.Frag} {mg : Str → Option Value} {base : Heap}
theorem scBest : FnScope ["_law_tariff_here", "_law_prices", "_law_needs", "_law_breaks", "_law_cost", "_law_lane", "_law_last", "_law_k", "_law_gap", "_law_j"] ["_law_tariff_here", "_law_prices", "_law_needs", "_law_breaks"] (defScope sBest) := ⟨rfl, rfl, rfl, by decide +kernel, rfl, by decide +kernel, by decide +kernel⟩
theorem ok_best {f : Addr} {fd : FuncData} (F : Fun K "_law_best" "_law_best" sBest f fd) (zr : mg "range" = none) (zm : mg "max" = none) (zn : mg "len" = none) (zs : mg "sum" = none) (hI : Has1 P w K mg base "_law_idle_cost" 2 ["_law_tariff_here", "_law_total"] spLI) :
    FnOk P w K mg base CX0 3 f fd ["_law_tariff_here", "_law_prices", "_law_needs", "_law_breaks"] spBest := by
  obtain ⟨fI, fdI, mI, kI, bI, GI⟩ := hI.ok
  refine F.ok scBest (fun vs H Q E h => ?_) (fun cdv A outer s H vs Q E hr h => ?_)
  · obtain ⟨a, pa, na, ba, T, m, PP, NN, bs, rfl, _⟩ := h
    rfl
  · obtain ⟨a, pa, na, ba, T, m, PP, NN, bs, rfl, hT, o, hp, hn, hb, m12, b12, hNN, k⟩ := h
    have nN := scBest.nd
    obtain ⟨ra, wa, t1, t2, t3⟩ := id hT
    refine ⟨_, pss_cons (ps_set (i := 4) nN rfl (Or.inl rfl) pe_int)
      (pss_cons (ps_for PassesOwn.never rfl (pi_range1 (by rfl) zr (pa_cons (pe_callBK (cr_max0 rfl (hu_of hr)) (by rfl) zm (by decide +kernel) (pa_cons (pv 2) pa_nil) (pk_cons pe_int pk_nil)) pa_nil)) (pg_name (i := 5) nN rfl (Or.inl rfl))
        (pss_cons (ps_set (i := 6) nN rfl (Or.inr rfl) (pe_un un_neg pe_int))
        (pss_one (ps_for PassesOwn.never rfl (pi_range1 (by rfl) zr (pa_cons (pe_callB call_len_seq (by rfl) zn PySem.boot_len (pa_cons (pv 1) pa_nil)) pa_nil)) (pg_name (i := 7) nN rfl (Or.inr rfl))
          (pss_one (ps_if (pt_cmpR op_gt (pe_ix ix_list (pv 2) (pv 7) (fun _ _ => rfl)) (pv 5) (nomark _))
            (pss_cons (ps_set (i := 4) nN rfl (Or.inl rfl) (pe_op op_add (pv 4) (pe_op op_mul (pe_ix ix_tup (pe_ix ix_tup (pv 0) pe_int (fun _ _ => rfl)) pe_int (fun _ _ => rfl)) (pe_ix ix_list (pv 1) (pv 7) (fun _ _ => rfl)))))
            (pss_cons (ps_set (i := 8) nN rfl (Or.inl rfl) (pe_callB (cr_sum rfl) (by rfl) zs (by decide +kernel) (pa_cons (pe_slice sl_list (pv 1) (po_some (pe_op op_add (pv 6) pe_int)) (po_some (pv 7))) pa_nil)))
            (pss_cons (ps_if (PW.pt (pw_or (pt_cmpR op_lt (pv 6) pe_int (nomark _)) (pw_or1 (pt_cmpR op_gt (pe_callB call_len_seq (by rfl) zn PySem.boot_len (pa_cons
                (pe_lc (own := [("_law_j", 9)]) (g := gName 9) rfl nN (pi_list (pv 3))
                  (blkOk_by (N := ["_law_tariff_here", "_law_prices", "_law_needs", "_law_breaks", "_law_cost", "_law_lane", "_law_last", "_law_k", "_law_gap", "_law_j"]) (sc := defScope sBest) (by decide +kernel)) (fun _ _ _ _ _ => pg_name (i := 9) nN rfl (Or.inl rfl))
                  (fun _ _ _ _ _ => pts_one (PW.pt (pw_and (pt_cmpR op_le (pv 6) (pv 9) (nomark _)) (pw_and1 (pt_cmpR op_lt (pv 9) (pv 7) (nomark _)))))) (fun _ _ _ _ _ => pv 9)) pa_nil)) pe_int (nomark _)))))
              (pss_one (ps_set (i := 4) nN rfl (Or.inl rfl) (pe_op op_add (pv 4) (pe_ix ix_tup (pe_ix ix_tup (pv 0) pe_int (fun _ _ => rfl)) (pe_un un_neg pe_int) (fun _ _ => rfl)))))
              (pss_one (ps_set (i := 4) nN rfl (Or.inl rfl) (pe_op op_add (pv 4) (pe_call GI hr (by rfl) mI kI bI .nil pass0 (pa_cons (pv 0) (pa_cons (pv 8) pa_nil)))))))
            (pss_one (ps_set (i := 6) nN rfl (Or.inr rfl) (pv 7)))))) pss_nil))))))
      (pss_one (ps_ret (pv 4)))), ?_⟩
    refine ⟨_, rfl, na, nl m NN, rfl, rfl, SqL.of (by rw [← rl_nl]; exact hn), fun y hy => ?_, fun mx x0 xin xle => ⟨mx, rfl, by omega, ?_, ?_⟩⟩
    · obtain ⟨j, _, e⟩ := nl_mem.mp hy
      rw [← e]
      exact (hNN j).1
    · rcases xin with e | e
      · omega
      · obtain ⟨j, _, e⟩ := nl_mem.mp e
        have := (hNN j).2
        omega
    have x40 : mx ≤ 40 := by
      rcases xin with e | e
      · omega
      · obtain ⟨j, _, e⟩ := nl_mem.mp e
        have := (hNN j).2
        omega
    refine for_range (lo := 0) (n := _) (fun l σ H' => (∃ v5 v6 v7 v8 v9 : Option V, σ = [some (.ref a), some (.ref pa), some (.ref na), some (.ref ba), some (.int (sumN (fun l => (L T PP NN bs l m).2) l)), v5, v6, v7, v8, v9]) ∧ Same H H')
      ⟨⟨none, none, none, none, none, rfl⟩, Same.refl H⟩ ?_ ?_
    · rintro l σ H1 hl ⟨⟨v5, v6, v7, v8, v9, rfl⟩, s1⟩
      have e0 : (0 : Int) + (l : Int) = (l : Int) := Int.zero_add _
      rw [e0]
      refine ⟨_, rfl, _, rfl, pa, _, rfl, .inl (SqL.of (s1 _ _ hp)), ?_⟩
      rw [rl_len]
      refine ⟨_, rfl, by omega, by omega, ?_⟩
      have em : (m : Int).toNat = m := Int.toNat_natCast _
      refine for_range (lo := 0) (n := _) (fun i σ H' => (∃ v7 v8 v9 : Option V, σ = [some (.ref a), some (.ref pa), some (.ref na), some (.ref ba), some (.int (sumN (fun l => (L T PP NN bs l m).2) l + (L T PP NN bs l i).2)), some (.int (l : Int)), some (.int (lastV (L T PP NN bs l i).1)), v7, v8, v9]) ∧ Same H H')
        ⟨⟨v7, v8, v9, ?_⟩, s1⟩ ?_ ?_
      · show _ = [_, _, _, _, some (V.int (sumN (fun l => (L T PP NN bs l m).2) l + 0)), _, some (V.int (-1)), _, _, _]
        rw [Int.add_zero]
        rfl
      · rintro i σ H2 hi ⟨⟨v7, v8, v9, rfl⟩, s2⟩
        rw [em] at hi
        have e0 : (0 : Int) + (i : Int) = (i : Int) := Int.zero_add _
        rw [e0]
        refine ⟨_, rfl, _, rfl, na, _, _, _, rfl, rfl, SqL.of (s2 _ _ hn), atI_nat (rl_get hi), _, rfl, _, _, rfl, rfl, _, rfl, ?_⟩
        by_cases hnd : (l : Int) < NN i
        · rw [decide_eq_true hnd]
          refine iteT ?_
          have hneed : needs NN l i = true := decide_eq_true hnd
          have eL : L T PP NN bs l (i + 1) = (some i, (L T PP NN bs l i).2 + (T.r 0 * PP i + gapc T PP bs (L T PP NN bs l i).1 i)) := by
            conv => lhs; unfold L
            rw [if_pos hneed]
          have hlt := L_lt (T := T) (P := PP) (N := NN) (bs := bs) l i
          generalize hq : (L T PP NN bs l i).1 = qo at *
          generalize hc : (L T PP NN bs l i).2 = c at *
          have hbo : bOf qo ≤ i := by
            cases qo with
            | none => exact Nat.zero_le _
            | some q => exact hlt q rfl
          -- cost = cost + tariff[0][0] * prices[k]
          refine ⟨_, rfl, _, rfl, a, _, _, _, rfl, rfl, SqT.of (s2 _ _ t1), atI_nat (j := 0) rfl, ra, _, _, _, rfl, rfl, SqT.of (s2 _ _ t2), atI_nat (j := 0) (rl_get (by have := o.n1; omega)), _, rfl, _, rfl, pa, _, _, _, rfl, rfl, SqL.of (s2 _ _ hp), atI_nat (rl_get hi),
            _, _, rfl, rfl, rate_in o (Nat.zero_le _) _, _, _, rfl, rfl, ?_⟩
          -- gap = sum(prices[last + 1:k])
          refine ⟨_, rfl, _, rfl, _, _, rfl, rfl, _, rfl, _, rfl, _, rfl, pa, _, rfl, SqL.of (s2 _ _ hp), fun g hg => ?_⟩
          rw [lastV_b, cut_rl PP hbo (Nat.le_of_lt hi)]
          refine ⟨g, _, rfl, SqL.of upd_same, ?_⟩
          rw [nl_sum]
          have s3 := s2.trans (sUpd (Same.refl H2) (o := .lst ((nl (i - bOf qo) fun j => PP (bOf qo + j)).map V.int)) hg)
          -- the ends of the turn
          have hlastW : atI (rl (T.n + 1) T.w) (-1) = some (V.int (T.w T.n)) := by
            rw [rl_succ]
            exact atI_last _ _
          have last : ∀ (x : Int) (v : Option V), x = gapc T PP bs qo i → [some (V.ref a), some (.ref pa), some (.ref na), some (.ref ba), some (.int (sumN (fun l => (L T PP NN bs l m).2) l + c + T.r 0 * PP i + x)), some (.int (l : Int)), some (.int (i : Int)), some (.int (i : Int)), some (.int (sumP PP (bOf qo) (i - bOf qo))), v] =
              [some (V.ref a), some (.ref pa), some (.ref na), some (.ref ba), some (.int (sumN (fun l => (L T PP NN bs l m).2) l + (L T PP NN bs l (i + 1)).2)), some (.int (l : Int)), some (.int (lastV (L T PP NN bs l (i + 1)).1)), some (.int (i : Int)), some (.int (sumP PP (bOf qo) (i - bOf qo))), v] := by
            intro x v hx
            rw [eL, hx]
            show _ = [_, _, _, _, some (V.int (sumN (fun l => (L T PP NN bs l m).2) l + (c + (T.r 0 * PP i + gapc T PP bs qo i)))), _, some (V.int (i : Int)), _, _, _]
            rw [← Int.add_assoc c, ← Int.add_assoc (sumN _ l), ← Int.add_assoc (sumN _ l)]
          generalize hg3 : upd H2 g (.lst ((nl (i - bOf qo) fun j => PP (bOf qo + j)).map V.int)) = H3 at *
          cases qo with
          | none =>
            refine ⟨_, rfl, _, _, rfl, rfl, _, rfl, ?_⟩
            refine iteT ?_
            refine iteT ?_
            refine ⟨_, rfl, _, rfl, a, _, _, _, rfl, rfl, SqT.of (s3 _ _ t1), atI_nat (j := 1) rfl, _, rfl, wa, _, _, _, rfl, rfl, SqT.of (s3 _ _ t3), hlastW, _, _, rfl, rfl, ?_⟩
            exact ⟨_, rfl, ⟨_, _, _, last (T.w T.n) v9 rfl⟩, s3⟩
          | some q =>
            refine ⟨_, rfl, _, _, rfl, rfl, _, rfl, ?_⟩
            rw [decide_eq_false (show ¬ lastV (some q) < 0 from by show ¬ (q : Int) < 0; omega)]
            refine iteF ?_
            have hb3 := s3 _ _ hb
            refine ⟨_, rfl, ba, rfl, ⟨_, SqL.of hb3⟩, fun D hD => ?_⟩
            refine lc_list (K := K) (a := ba) (xs := bs.map V.int) (fun j H' => Same H3 H' ∧ H' D = some (.lst (((bs.take j).filter (inB q i)).map V.int))) ⟨sUpd (Same.refl H3) hD, upd_same⟩ (fun j H' _ z => SqL.of (z.1 _ _ hb3)) ?_ ?_
            · rintro j x H' hx ⟨s4, hD4⟩
              have hj := (List.getElem?_eq_some_iff.mp hx).1
              rw [List.length_map] at hj
              have hbj : bs[j]? = some bs[j] := List.getElem?_eq_getElem hj
              rw [List.getElem?_map, hbj] at hx
              have ex : V.int bs[j] = x := Option.some.inj hx
              subst ex
              generalize bs[j] = y at *
              have skip : inB q i y = false → Same H3 H' ∧ H' D = some (.lst (((bs.take (j + 1)).filter (inB q i)).map V.int)) := fun e => ⟨s4, by
                rw [take_filter hbj, e, if_neg Bool.false_ne_true, List.append_nil]
                exact hD4⟩
              refine ⟨rfl, ?_⟩
              refine ⟨_, rfl, _, rfl, _, _, rfl, rfl, _, rfl, ?_⟩
              by_cases h1 : (q : Int) ≤ y
              · rw [decide_eq_true (show lastV (some q) ≤ y from h1)]
                refine iteT ?_
                refine ⟨_, rfl, _, rfl, _, _, rfl, rfl, _, rfl, ?_⟩
                by_cases h2 : y < (i : Int)
                · rw [decide_eq_true h2]
                  refine iteT ?_
                  have e : inB q i y = true := by
                    unfold inB
                    rw [decide_eq_true h1, decide_eq_true h2]
                    rfl
                  refine ⟨_, rfl, _, hD4, ?_, fun b z hz => ?_, ?_⟩
                  · rw [List.length_map]
                    have h3 := List.length_filter_le (inB q i) (bs.take j)
                    rw [List.length_take] at h3
                    exact small1000 (by omega)
                  · rw [upd_ne (ne_of_none hz hD)]
                    exact s4 _ _ hz
                  · rw [upd_same, take_filter hbj, e, if_pos rfl, List.map_append]
                    rfl
                · rw [decide_eq_false h2]
                  refine iteF (skip ?_)
                  unfold inB
                  rw [decide_eq_false h2, Bool.and_false]
              · rw [decide_eq_false (show ¬ lastV (some q) ≤ y from h1)]
                refine iteF (iteF (skip ?_))
                unfold inB
                rw [decide_eq_false h1, Bool.false_and]
            · rintro H' ⟨s4, hD4⟩
              rw [List.length_map, List.take_length] at hD4
              have s5 := s3.trans s4
              refine ⟨D, _, rfl, .inl (SqL.of hD4), _, _, rfl, rfl, _, rfl, ?_⟩
              rw [List.length_map, hasB_len]
              have eg : gapc T PP bs (some q) i = if hasB bs q i = true then T.w T.n else idle T (sumP PP (q + 1) (i - (q + 1))) := rfl
              cases hB : hasB bs q i with
              | true =>
                rw [hB, if_pos rfl] at eg
                refine iteT ?_
                refine ⟨_, rfl, _, rfl, a, _, _, _, rfl, rfl, SqT.of (s5 _ _ t1), atI_nat (j := 1) rfl, _, rfl, wa, _, _, _, rfl, rfl, SqT.of (s5 _ _ t3), hlastW, _, _, rfl, rfl, ?_⟩
                exact ⟨_, rfl, ⟨_, _, _, last (T.w T.n) v9 eg.symm⟩, s5⟩
              | false =>
                rw [hB, if_neg Bool.false_ne_true] at eg
                refine iteF ?_
                refine ⟨_, rfl, _, rfl, _, rfl, a, T, _, rfl, hT.same fun b xs z => s5 _ _ z, o, fun H6 s6 => ⟨_, _, rfl, rfl, ?_⟩⟩
                exact ⟨_, rfl, ⟨_, _, _, last _ v9 eg.symm⟩, s5.trans s6⟩
        · rw [decide_eq_false hnd]
          have hneed : ¬ needs NN l i = true := by
            unfold needs
            rw [decide_eq_true_eq]
            exact hnd
          refine iteF ⟨⟨some (.int (i : Int)), v8, v9, ?_⟩, s2⟩
          have eL : L T PP NN bs l (i + 1) = L T PP NN bs l i := by
            conv => lhs; unfold L
            rw [if_neg hneed]
          rw [eL]
          rfl
      · rintro σ H2 ⟨⟨v7, v8, v9, rfl⟩, s2⟩
        rw [em]
        exact ⟨⟨_, _, _, _, _, rfl⟩, s2⟩
    · rintro σ H1 ⟨⟨v5, v6, v7, v8, v9, rfl⟩, s1⟩
      refine ⟨_, rfl, ?_⟩
      have e : sumN (fun l => (L T PP NN bs l m).2) mx.toNat = sumN (fun l => (L T PP NN bs l m).2) 40 := (sumN_cut (by omega) fun l h1 _ => L_zero l m fun i hi => by
        have := xle (NN i) (nl_mem.mpr ⟨i, hi, rfl⟩)
        omega).symm
      rw [e]
      exact k H1 s1
end
end K50


set_option Elab.async false
set_option maxRecDepth 100000
set_option maxHeartbeats 4000000
namespace K50
open PySem PySem.Spec PyProof.Rows L2
/-! ### what a step of one object leaves of the others -/
structure RunAt (H : Hp) (r pa na ba : Addr) (m : Nat) (PP NN : Nat → Int) (bs : List Int) : Prop where
  t : H r = some (.tup [.ref pa, .ref na, .ref ba])
  p : H pa = some (.lst (rl m PP))
  n : H na = some (.lst (rl m NN))
  b : H ba = some (.lst (bs.map V.int))
  m12 : m ≤ 12
  b12 : bs.length ≤ 12
theorem ne_pt : ¬ (("tariff" : Str) = "_tariff") := by decide +kernel
theorem lbF_ne_plF (ta tl : Addr) (c : Int) (tb la : Addr) (d : Int) : lbF ta tl c ≠ plF tb la d := fun h => by
  unfold lbF plF at h
  injection h with h _
  injection h with h _
  exact ne_pt h.symm
theorem lbF_ne_wkF (ta tl : Addr) (c : Int) (tb wl : Addr) : lbF ta tl c ≠ wkF tb wl := fun h => by
  have : (3 : Nat) = 2 := congrArg List.length h
  exact absurd this (by decide)
theorem plF_ne_wkF (ta tl : Addr) (c : Int) (tb wl : Addr) : plF ta tl c ≠ wkF tb wl := fun h => by
  have : (3 : Nat) = 2 := congrArg List.length h
  exact absurd this (by decide)
section
variable {H H' : Hp} {CB CP CW lb ta tl pl la wk wl r pa na ba q q' : Addr} {f : Nat → Option Int} {c sp : Int} {y : Nat → Lane} {T : Tar} {ws : Nat → Option Int} {m : Nat} {PP NN : Nat → Int} {bs : List Int}
theorem LbAt.same (h : LbAt CB H lb ta tl f c) (s : Same H H') : LbAt CB H' lb ta tl f c := by
  obtain ⟨dx, h1⟩ := h.ob
  exact ⟨⟨dx, s _ _ h1⟩, s _ _ h.ls⟩
theorem PoolAt.same (h : PoolAt CP H pl ta la y sp) (s : Same H H') : PoolAt CP H' pl ta la y sp := by
  obtain ⟨dx, h1⟩ := h.ob
  exact ⟨⟨dx, s _ _ h1⟩, h.ls.same s⟩
theorem WkAt.same (h : WkAt CW H wk ta wl T ws) (s : Same H H') : WkAt CW H' wk ta wl T ws := by
  obtain ⟨dx, h1⟩ := h.ob
  exact ⟨⟨dx, s _ _ h1⟩, s _ _ h.ls⟩
theorem RunAt.same (h : RunAt H r pa na ba m PP NN bs) (s : Same H H') : RunAt H' r pa na ba m PP NN bs := ⟨s _ _ h.t, s _ _ h.p, s _ _ h.n, s _ _ h.b, h.m12, h.b12⟩
/-! #### an instance has been written -/
theorem LbAt.k1 {C dx : Addr} {fs : List (Str × V)} (h : LbAt CB H lb ta tl f c) (hq : H q = some (.ins C dx fs)) (k : Kept1 H H' q) (ne : ∀ a b d, fs ≠ lbF a b d) : LbAt CB H' lb ta tl f c := by
  obtain ⟨dx', h1⟩ := h.ob
  exact ⟨⟨dx', k _ _ h1 (ne_of h1 hq fun z => by injection z with _ _ z; exact ne _ _ _ z.symm)⟩, k _ _ h.ls (ne_of h.ls hq (by intro z; cases z))⟩
theorem PoolAt.k1 {C dx : Addr} {fs : List (Str × V)} (h : PoolAt CP H pl ta la y sp) (hq : H q = some (.ins C dx fs)) (k : Kept1 H H' q) (ne : ∀ a b d, fs ≠ plF a b d) : PoolAt CP H' pl ta la y sp := by
  obtain ⟨dx', h1⟩ := h.ob
  obtain ⟨as, e1, e2, e3⟩ := h.ls.ex
  exact ⟨⟨dx', k _ _ h1 (ne_of h1 hq fun z => by injection z with _ _ z; exact ne _ _ _ z.symm)⟩, ⟨as, e1, k _ _ e2 (ne_of e2 hq (by intro z; cases z)), fun j b e => k _ _ (e3 j b e) (ne_of (e3 j b e) hq (by intro z; cases z))⟩⟩
theorem WkAt.k1 {C dx : Addr} {fs : List (Str × V)} (h : WkAt CW H wk ta wl T ws) (hq : H q = some (.ins C dx fs)) (k : Kept1 H H' q) (ne : ∀ a b, fs ≠ wkF a b) : WkAt CW H' wk ta wl T ws := by
  obtain ⟨dx', h1⟩ := h.ob
  exact ⟨⟨dx', k _ _ h1 (ne_of h1 hq fun z => by injection z with _ _ z; exact ne _ _ z.symm)⟩, k _ _ h.ls (ne_of h.ls hq (by intro z; cases z))⟩
theorem RunAt.k1 {C dx : Addr} {fs : List (Str × V)} (h : RunAt H r pa na ba m PP NN bs) (hq : H q = some (.ins C dx fs)) (k : Kept1 H H' q) : RunAt H' r pa na ba m PP NN bs :=
  ⟨k _ _ h.t (ne_of h.t hq (by intro z; cases z)), k _ _ h.p (ne_of h.p hq (by intro z; cases z)), k _ _ h.n (ne_of h.n hq (by intro z; cases z)), k _ _ h.b (ne_of h.b hq (by intro z; cases z)), h.m12, h.b12⟩
theorem TarAt.k1 {C dx : Addr} {fs : List (Str × V)} (h : TarAt H ta T) (hq : H q = some (.ins C dx fs)) (k : Kept1 H H' q) : TarAt H' ta T := h.same fun b xs e => k _ _ e (ne_of e hq (by intro z; cases z))
/-! #### looking back has stepped -/
theorem ol40_ne {f : Nat → Option Int} {xs : List V} (h : xs.length ≤ 39) : xs ≠ ol 40 f := fun e => by
  have := congrArg List.length e
  rw [ol_len] at this
  omega
theorem lst_ne40 {f : Nat → Option Int} {xs : List V} (h : xs.length ≤ 39) : HO.lst xs ≠ HO.lst (ol 40 f) := fun z => by
  injection z with z
  exact ol40_ne h z
theorem PoolAt.k2 (h : PoolAt CP H pl ta la y sp) (B : LbAt CB H lb q' tl f c) (k : Kept2 H H' lb tl) : PoolAt CP H' pl ta la y sp := by
  obtain ⟨dx', h1⟩ := h.ob
  obtain ⟨dx, b1⟩ := B.ob
  obtain ⟨as, e1, e2, e3⟩ := h.ls.ex
  have ne : (as.map V.ref) ≠ ol 40 f := fun z => by
    have z0 : (as.map V.ref)[0]? = (ol 40 f)[0]? := by rw [z]
    rw [ol_get (by decide), List.getElem?_map] at z0
    cases ha : as[0]? with
    | none =>
      rw [ha] at z0
      cases z0
    | some a0 =>
      rw [ha] at z0
      have z1 : V.ref a0 = oV (f 0) := Option.some.inj z0
      cases hf : f 0 with
      | none =>
        rw [hf] at z1
        cases z1
      | some _ =>
        rw [hf] at z1
        cases z1
  exact ⟨⟨dx', k _ _ h1 (ne_of h1 b1 fun z => by injection z with _ _ z; exact lbF_ne_plF _ _ _ _ _ _ z.symm) (ne_of h1 B.ls (by intro z; cases z))⟩,
    ⟨as, e1, k _ _ e2 (ne_of e2 b1 (by intro z; cases z)) (ne_of e2 B.ls fun z => by injection z with z; exact ne z), fun j b e => k _ _ (e3 j b e) (ne_of (e3 j b e) b1 (by intro z; cases z)) (ne_of (e3 j b e) B.ls (by intro z; cases z))⟩⟩
theorem WkAt.k2 (h : WkAt CW H wk ta wl T ws) (o : T.n ≤ 4) (B : LbAt CB H lb q' tl f c) (k : Kept2 H H' lb tl) : WkAt CW H' wk ta wl T ws := by
  obtain ⟨dx', h1⟩ := h.ob
  obtain ⟨dx, b1⟩ := B.ob
  exact ⟨⟨dx', k _ _ h1 (ne_of h1 b1 fun z => by injection z with _ _ z; exact lbF_ne_wkF _ _ _ _ _ z.symm) (ne_of h1 B.ls (by intro z; cases z))⟩,
    k _ _ h.ls (ne_of h.ls b1 (by intro z; cases z)) (ne_of h.ls B.ls (lst_ne40 (by rw [ol_len]; omega)))⟩
theorem RunAt.k2 (h : RunAt H r pa na ba m PP NN bs) (B : LbAt CB H lb q' tl f c) (k : Kept2 H H' lb tl) : RunAt H' r pa na ba m PP NN bs := by
  obtain ⟨dx, b1⟩ := B.ob
  have m12 := h.m12
  have b12 := h.b12
  exact ⟨k _ _ h.t (ne_of h.t b1 (by intro z; cases z)) (ne_of h.t B.ls (by intro z; cases z)),
    k _ _ h.p (ne_of h.p b1 (by intro z; cases z)) (ne_of h.p B.ls (lst_ne40 (by rw [rl_len]; omega))),
    k _ _ h.n (ne_of h.n b1 (by intro z; cases z)) (ne_of h.n B.ls (lst_ne40 (by rw [rl_len]; omega))),
    k _ _ h.b (ne_of h.b b1 (by intro z; cases z)) (ne_of h.b B.ls (lst_ne40 (by rw [List.length_map]; omega))), m12, b12⟩
theorem TarAt.k2 (h : TarAt H ta T) (B : LbAt CB H lb q' tl f c) (k : Kept2 H H' lb tl) : TarAt H' ta T := by
  obtain ⟨dx, b1⟩ := B.ob
  exact h.same fun b xs e => k _ _ e (ne_of e b1 (by intro z; cases z)) (ne_of e B.ls (by intro z; cases z))
end
/-! ### one moment, in numbers -/
theorem midS_c (T : Tar) (p : Int) (need : Bool) (x : MS) : midS T p need x = ((midS T p need (x.1, 0)).1, x.2 + (midS T p need (x.1, 0)).2) := by
  unfold midS
  cases need with
  | true =>
    show (some 0, x.2 + (ret T x.1 + T.r 0 * p)) = (some 0, x.2 + (0 + (ret T x.1 + T.r 0 * p)))
    rw [Int.zero_add]
  | false =>
    show (x.1.map (· + p), x.2) = (x.1.map (· + p), x.2 + 0)
    rw [Int.add_zero]
section
variable {T : Tar} {P N : Nat → Int} {bs : List Int}
abbrev costM (T : Tar) (P N : Nat → Int) (bs : List Int) (i : Nat) : Int := sumN (fun l => (M T P N bs l i).2) 40
abbrev dueM (T : Tar) (P N : Nat → Int) (bs : List Int) (i : Nat) : Int := sumN (fun l => (mid T P N bs l i).2) 40
theorem due_L (i : Nat) : sumN (fun l => (L T P N bs l (i + 1)).2) 40 = dueM T P N bs i := sumN_congr fun l _ => (mid_L l i).symm
theorem mid_f (l i : Nat) : (mid T P N bs l i).1 = fN T (P i) (N i) (fun l => (M T P N bs l i).1) l := by
  show (midS T (P i) (needs N l i) (M T P N bs l i)).1 = _
  rw [midS_c]
  rfl
theorem mid_c (l i : Nat) : (mid T P N bs l i).2 = (M T P N bs l i).2 + cN T (P i) (N i) (fun l => (M T P N bs l i).1) l := by
  show (midS T (P i) (needs N l i) (M T P N bs l i)).2 = _
  rw [midS_c]
  rfl
theorem due_step (i : Nat) : costM T P N bs i + sumN (cN T (P i) (N i) (fun l => (M T P N bs l i).1)) 40 = dueM T P N bs i := by
  rw [← sumN_add]
  exact sumN_congr fun l _ => (mid_c l i).symm
theorem cost_due (o : T.Ok) (hP : ∀ k, 0 ≤ P k) (i : Nat) : costM T P N bs i ≤ dueM T P N bs i := sumN_le fun l _ => mid_ge o hP l i
theorem M_succ (l i : Nat) : M T P N bs l (i + 1) = endS (brk bs i) (mid T P N bs l i) := rfl
theorem cost_succ (i : Nat) : costM T P N bs (i + 1) = dueM T P N bs i := sumN_congr fun l _ => by
  rw [M_succ]
  unfold endS
  split <;> rfl
theorem due_one (i m : Nat) (h : ∀ j, j < m → N j ≤ 1) (hi : i < m) : dueM T P N bs i = (mid T P N bs 0 i).2 := by
  have e : dueM T P N bs i = sumN (fun l => (mid T P N bs l i).2) 1 := sumN_cut (by decide) fun l h1 _ => by
    rw [mid_L]
    exact L_zero l (i + 1) fun j hj => by
      have := h j (by omega)
      omega
  rw [e]
  show 0 + (mid T P N bs 0 i).2 = _
  rw [Int.zero_add]
end
/-- the pool's lanes and what each has cost -/
def PAll (T : Tar) (x : Nat → MS) (y : Nat → Lane) (sp : Int) : Prop := ∃ sps : Nat → Int, sp = sumN sps 40 ∧ ∀ l, l < 40 → PRel T (x l) (y l) (sps l)
section
variable {T : Tar} {P N : Nat → Int} {bs : List Int} {y : Nat → Lane} {sp : Int} {x : Nat → MS}
theorem PAll.st (h : PAll T x y sp) : ∀ i, i < 40 → (y i).st ≤ T.n := by
  obtain ⟨sps, _, h⟩ := h
  exact fun i hi => (h i hi).le
theorem PAll.step (o : T.Ok) (hP : ∀ k, 0 ≤ P k) {i : Nat} (h : PAll T (fun l => M T P N bs l i) y sp) : PAll T (fun l => mid T P N bs l i) (newL T (P i) (N i) y) (sp + sumN (cosL T (P i) (N i) y) 40) := by
  obtain ⟨sps, e, h⟩ := h
  refine ⟨fun l => sps l + cosL T (P i) (N i) y l, by rw [sumN_add, e], fun l hl => ?_⟩
  exact (h l hl).step o (hP i) (needs N l i)
theorem PAll.two (o : T.Ok) (h : PAll T x y sp) : sp ≤ 2 * sumN (fun l => (x l).2) 40 := by
  obtain ⟨sps, e, h⟩ := h
  rw [e, ← sumN_two]
  exact sumN_le fun l hl => (h l hl).two o
theorem PAll.brk (o : T.Ok) (h : PAll T x y sp) : PAll T (fun l => (none, (x l).2)) (fun _ => offL T) sp := by
  obtain ⟨sps, e, h⟩ := h
  exact ⟨sps, e, fun l hl => (h l hl).brk o⟩
theorem PAll.start : PAll T (fun _ => (none, 0)) (fun _ => offL T) 0 := ⟨fun _ => 0, (sumN_zero fun _ _ => rfl).symm, fun _ _ => PRel.start⟩
end
theorem cut_pre {m i : Nat} (P : Nat → Int) (hi : i ≤ m) : cutV (rl m P) none (some (i : Int)) = rl i P := by
  unfold cutV
  rw [rl_len, HT.sIx_none, HT.sIx_nat]
  have e1 : min i m = i := by omega
  rw [e1]
  refine rl_of (by rw [List.length_take, List.length_drop, rl_len]; omega) fun j hj => ?_
  rw [List.getElem?_take, if_pos (by omega), List.getElem?_drop, Nat.zero_add, rl_get (by omega)]
theorem inV_brk (bs : List Int) (k : Nat) : inV (V.int (k : Int)) (bs.map V.int) = brk bs k := by
  unfold inV brk
  rw [Bool.eq_iff_iff, List.any_eq_true, decide_eq_true_eq]
  constructor
  · rintro ⟨y, hy, e⟩
    obtain ⟨b, hb, rfl⟩ := List.mem_map.mp hy
    have e' : (b == (k : Int)) = true := e
    rw [beq_iff_eq] at e'
    rw [← e']
    exact hb
  · intro h
    refine ⟨_, List.mem_map.mpr ⟨_, h, rfl⟩, ?_⟩
    show ((k : Int) == (k : Int)) = true
    exact beq_self_eq_true _
theorem flat_ints (bs : List Int) : (bs.map V.int).all flatV = true := by
  rw [List.all_eq_true]
  intro x hx
  obtain ⟨b, _, rfl⟩ := List.mem_map.mp hx
  rfl
end K50


set_option Elab.async false
set_option maxRecDepth 100000
set_option maxHeartbeats 8000000
namespace K50
open PySem PySem.Spec PyProof.Rows L2
/-! ### the law -/
/-- a method and what it promises; an __init__ -/
structure HasM (P : Program) (w : World) (K : PySem.W.Frag) (mg : Str → Option Value) (base : Heap) (C : Addr) (x : Str) (k : Nat) (ps : List Str) (sp : Sp) : Prop where
  ok : ∃ f fd, Meth K C x f ∧ Binds K fd ps [] ∧ FnOk P w K mg base CX0 k f fd ps sp
structure HasI (P : Program) (w : World) (K : PySem.W.Frag) (mg : Str → Option Value) (base : Heap) (C : Addr) (k : Nat) (ps : List Str) (sp : Sp) : Prop where
  ok : ∃ f fd, Mk K C f ∧ Binds K fd ps [] ∧ FnOk P w K mg base CX0 k f fd ps sp
def spLaw (K : PySem.W.Frag) : Sp := fun vs H Q _ => ∃ (a : Addr) (ns : List Int), vs = [.ref a] ∧ SqL K H a (ns.map V.int) ∧ ns.length ≤ 63 ∧ ∀ H', Q (.bl true) H'
/-- what holds between two moments -/
structure Sta (CB CP CW : Addr) (H : Hp) (ta r lb pl wk pa na ba : Addr) (T : Tar) (m : Nat) (PP NN : Nat → Int) (bs : List Int) (x : Nat → MS) : Prop where
  t : TarAt H ta T
  r : RunAt H r pa na ba m PP NN bs
  b : ∃ tl, LbAt CB H lb ta tl (fun l => (x l).1) (sumN (fun l => (x l).2) 40)
  p : ∃ la y sp, PoolAt CP H pl ta la y sp ∧ PAll T x y sp
  w : ∃ wl ws, WkAt CW H wk ta wl T ws ∧ WRel T ws (x 0)
theorem Sta.same {CB CP CW : Addr} {H H' : Hp} {ta r lb pl wk pa na ba : Addr} {T : Tar} {m : Nat} {PP NN : Nat → Int} {bs : List Int} {x : Nat → MS} (h : Sta CB CP CW H ta r lb pl wk pa na ba T m PP NN bs x) (s : Same H H') : Sta CB CP CW H' ta r lb pl wk pa na ba T m PP NN bs x := by
  obtain ⟨h1, h2, ⟨tl, h3⟩, ⟨la, y, sp, h4, h5⟩, ⟨wl, ws, h6, h7⟩⟩ := h
  exact ⟨h1.same fun b xs e => s _ _ e, h2.same s, ⟨tl, h3.same s⟩, ⟨la, y, sp, h4.same s, h5⟩, ⟨wl, ws, h6.same s, h7⟩⟩
section
variable {P : Program} {w : World} {K : PySem.W.Frag} {mg : Str → Option Value} {base : Heap}
theorem scLaw : FnScope ["_law_script", "_law_d", "_law_tariff_here", "_law_run_here", "_law_back", "_law_pool", "_law_works", "_law_last", "_law_k", "_law_due"] ["_law_script"] (defScope sLaw) := ⟨rfl, rfl, rfl, by decide +kernel, rfl, by decide +kernel, by decide +kernel⟩
theorem ok_law {f CB CP CW : Addr} {fd : FuncData} (F : Fun K "law" "law" sLaw f fd) (zr : mg "range" = none) (zn : mg "len" = none) (zm : mg "max" = none)
    (hSt : Has1 P w K mg base "_law_start" 1 ["_law_script"] (spStart K)) (hTa : Has1 P w K mg base "_law_tariff" 3 ["_law_d"] spTar) (hDr : Has1 P w K mg base "_law_draw" 2 ["_law_d", "_law_many"] spDraw)
    (hRu : Has1 P w K mg base "_law_run" 4 ["_law_d", "_law_moments", "_law_most"] spRun) (hSa : Has1 P w K mg base "_law_same" 1 ["_law_actual", "_law_due"] spSame)
    (hBe : Has1 P w K mg base "_law_best" 3 ["_law_tariff_here", "_law_prices", "_law_needs", "_law_breaks"] spBest)
    (mB : mg "LookingBack" = some (.ref CB)) (TB : LbTxt K CB) (mP : mg "Pool" = some (.ref CP)) (TP : PlTxt K CP) (mW : mg "Works" = some (.ref CW)) (TW : WkTxt K CW)
    (hBI : HasI P w K mg base CB 1 ["self", "tariff"] (spBI CB)) (hPI : HasI P w K mg base CP 2 ["self", "tariff"] (spPI CP)) (hWI : HasI P w K mg base CW 2 ["self", "tariff"] (spWI CW))
    (hBS : HasM P w K mg base CB "step" 7 ["self", "price", "need"] (spBS CB)) (hBE : HasM P w K mg base CB "end_break" 1 ["self"] (spBE CB)) (hBC : HasM P w K mg base CB "cost" 1 ["self"] (spBC CB))
    (hPS : HasM P w K mg base CP "step" 7 ["self", "price", "need"] (spPS CP)) (hPE : HasM P w K mg base CP "end_break" 2 ["self"] (spPE CP)) (hPP : HasM P w K mg base CP "spent" 1 ["self"] (spPSp CP))
    (hWS : HasM P w K mg base CW "step" 4 ["self", "price", "is_needed"] (spWS CW)) (hWE : HasM P w K mg base CW "end_break" 2 ["self"] (spWE CW)) (hWL : HasM P w K mg base CW "least" 2 ["self"] (spWL CW)) :
    FnOk P w K mg base CX0 8 f fd ["_law_script"] (spLaw K) := by
  obtain ⟨f1, fd1, m1, k1, b1, G1⟩ := hSt.ok
  obtain ⟨f2, fd2, m2, k2, b2, G2⟩ := hTa.ok
  obtain ⟨f3, fd3, m3, k3, b3, G3⟩ := hDr.ok
  obtain ⟨f4, fd4, m4, k4, b4, G4⟩ := hRu.ok
  obtain ⟨f5, fd5, m5, k5, b5, G5⟩ := hSa.ok
  obtain ⟨f6, fd6, m6, k6, b6, G6⟩ := hBe.ok
  obtain ⟨fBI, fdBI, MBI, bBI, GBI⟩ := hBI.ok
  obtain ⟨fPI, fdPI, MPI, bPI, GPI⟩ := hPI.ok
  obtain ⟨fWI, fdWI, MWI, bWI, GWI⟩ := hWI.ok
  obtain ⟨fBS, fdBS, MBS, bBS, GBS⟩ := hBS.ok
  obtain ⟨fBE, fdBE, MBE, bBE, GBE⟩ := hBE.ok
  obtain ⟨fBC, fdBC, MBC, bBC, GBC⟩ := hBC.ok
  obtain ⟨fPS, fdPS, MPS, bPS, GPS⟩ := hPS.ok
  obtain ⟨fPE, fdPE, MPE, bPE, GPE⟩ := hPE.ok
  obtain ⟨fPP, fdPP, MPP, bPP, GPP⟩ := hPP.ok
  obtain ⟨fWS, fdWS, MWS, bWS, GWS⟩ := hWS.ok
  obtain ⟨fWE, fdWE, MWE, bWE, GWE⟩ := hWE.ok
  obtain ⟨fWL, fdWL, MWL, bWL, GWL⟩ := hWL.ok
  refine F.ok scLaw (fun vs H Q E h => ?_) (fun cdv A outer s H vs Q E hr h => ?_)
  · obtain ⟨a, ns, rfl, _⟩ := h
    rfl
  · obtain ⟨sc, ns, rfl, hS, hlen, k⟩ := h
    have nN := scLaw.nd
    have r1 : Room 1 _ := hr.mono (by decide)
    have r2 : Room 2 _ := hr.mono (by decide)
    have r3 : Room 3 _ := hr.mono (by decide)
    have r4 : Room 4 _ := hr.mono (by decide)
    refine ⟨_, pss_cons (ps_set (i := 1) nN rfl (Or.inl rfl) (pe_call G1 r1 (by rfl) m1 k1 b1 .nil pass0 (pa_cons (pv 0) pa_nil)))
      (pss_cons (ps_set (i := 2) nN rfl (Or.inl rfl) (pe_call G2 r3 (by rfl) m2 k2 b2 .nil pass0 (pa_cons (pv 1) pa_nil)))
      (pss_cons (ps_set (i := 3) nN rfl (Or.inl rfl) (pe_call G4 r4 (by rfl) m4 k4 b4 .nil pass0 (pa_cons (pv 1) (pa_cons pe_int (pa_cons (pe_ix ix_list (pe_lst (pa_cons pe_int (pa_cons pe_int (pa_cons pe_int pa_nil)))) (pe_call G3 r2 (by rfl) m3 k3 b3 .nil pass0 (pa_cons (pv 1) (pa_cons pe_int pa_nil))) (fun _ _ => rfl)) pa_nil)))))
      (pss_cons (ps_set (i := 4) nN rfl (Or.inl rfl) (pe_make MBI GBI r2 (by rfl) mB bBI .nil pass0 (pa_cons (pv 2) pa_nil)))
      (pss_cons (ps_set (i := 5) nN rfl (Or.inl rfl) (pe_make MPI GPI r3 (by rfl) mP bPI .nil pass0 (pa_cons (pv 2) pa_nil)))
      (pss_cons (ps_set (i := 6) nN rfl (Or.inl rfl) (pe_make MWI GWI r3 (by rfl) mW bWI .nil pass0 (pa_cons (pv 2) pa_nil)))
      (pss_cons (ps_set (i := 7) nN rfl (Or.inl rfl) pe_int)
      (pss_cons (ps_if (pt_not (pt_val (pe_call G5 r1 (by rfl) m5 k5 b5 .nil pass0 (pa_cons (pe_meth0 (pv 4) TB.cl MBC GBC r1 bBC .nil pass0) (pa_cons pe_int pa_nil))))) (pss_one (ps_ret pe_bl)) pss_nil)
      (pss_cons (ps_for PassesOwn.never rfl (pi_range1 (by rfl) zr (pa_cons (pe_callB call_len_seq (by rfl) zn PySem.boot_len (pa_cons (pe_ix ix_tup (pv 3) pe_int (fun _ _ => rfl)) pa_nil)) pa_nil)) (pg_name (i := 8) nN rfl (Or.inl rfl))
        (pss_cons (ps_set (i := 9) nN rfl (Or.inl rfl) (pe_call G6 r3 (by rfl) m6 k6 b6 .nil pass0 (pa_cons (pv 2) (pa_cons (pe_slice sl_list (pe_ix ix_tup (pv 3) pe_int (fun _ _ => rfl)) po_none (po_some (pe_op op_add (pv 8) pe_int)))
            (pa_cons (pe_slice sl_list (pe_ix ix_tup (pv 3) pe_int (fun _ _ => rfl)) po_none (po_some (pe_op op_add (pv 8) pe_int))) (pa_cons (pe_ix ix_tup (pv 3) pe_int (fun _ _ => rfl)) pa_nil))))))
        (pss_cons (ps_if (PW.pt (pw_or (pt_not (pt_val (pe_call G5 r1 (by rfl) m5 k5 b5 .nil pass0 (pa_cons (pe_meth (pv 4) TB.cl MBS GBS hr bBS .nil pass0 (pa_cons (pe_ix ix_list (pe_ix ix_tup (pv 3) pe_int (fun _ _ => rfl)) (pv 8) (fun _ _ => rfl)) (pa_cons (pe_ix ix_list (pe_ix ix_tup (pv 3) pe_int (fun _ _ => rfl)) (pv 8) (fun _ _ => rfl)) pa_nil))) (pa_cons (pv 9) pa_nil)))))
            (pw_or1 (pt_cmpR op_lt (pv 9) (pv 7) (nomark _))))) (pss_one (ps_ret pe_bl)) pss_nil)
        (pss_cons (ps_expr (pe_meth (pv 5) TP.cl MPS GPS hr bPS .nil pass0 (pa_cons (pe_ix ix_list (pe_ix ix_tup (pv 3) pe_int (fun _ _ => rfl)) (pv 8) (fun _ _ => rfl)) (pa_cons (pe_ix ix_list (pe_ix ix_tup (pv 3) pe_int (fun _ _ => rfl)) (pv 8) (fun _ _ => rfl)) pa_nil))))
        (pss_cons (ps_expr (pe_meth (pv 6) TW.cl MWS GWS r4 bWS .nil pass0 (pa_cons (pe_ix ix_list (pe_ix ix_tup (pv 3) pe_int (fun _ _ => rfl)) (pv 8) (fun _ _ => rfl)) (pa_cons (pe_cmpR op_gt (pe_ix ix_list (pe_ix ix_tup (pv 3) pe_int (fun _ _ => rfl)) (pv 8) (fun _ _ => rfl)) pe_int (nomark _)) pa_nil))))
        (pss_cons (ps_if (PW.pt (pw_or (pt_cmpR op_gt (pe_meth0 (pv 5) TP.cl MPP GPP r1 bPP .nil pass0) (pe_op op_mul pe_int (pv 9)) (nomark _))
            (pw_or1 (PW.pt (pw_and (pt_cmpR op_lt (pe_callB (cr_max rfl) (by rfl) zm (by decide +kernel) (pa_cons (pe_ix ix_tup (pv 3) pe_int (fun _ _ => rfl)) pa_nil)) pe_int (nomark _))
              (pw_and1 (pt_not (pt_val (pe_call G5 r1 (by rfl) m5 k5 b5 .nil pass0 (pa_cons (pe_meth0 (pv 6) TW.cl MWL GWL r2 bWL .nil pass0) (pa_cons (pv 9) pa_nil)))))))))) ) (pss_one (ps_ret pe_bl)) pss_nil)
        (pss_cons (ps_set (i := 7) nN rfl (Or.inl rfl) (pv 9))
        (pss_one (ps_if (pt_cmpR op_in_seq (pv 8) (pe_ix ix_tup (pv 3) pe_int (fun _ _ => rfl)) (by rfl))
          (pss_cons (ps_expr (pe_meth0 (pv 5) TP.cl MPE GPE r2 bPE .nil pass0))
          (pss_cons (ps_expr (pe_meth0 (pv 6) TW.cl MWE GWE r2 bWE .nil pass0))
          (pss_one (ps_if (PW.pt (pw_or (pt_cmpR op_notN (pe_meth0 (pv 4) TB.cl MBE GBE r1 bBE .nil pass0) pe_non (nomark _)) (pw_or1 (pt_not (pt_val (pe_call G5 r1 (by rfl) m5 k5 b5 .nil pass0 (pa_cons (pe_meth0 (pv 4) TB.cl MBC GBC r1 bBC .nil pass0) (pa_cons (pv 9) pa_nil)))))))) (pss_one (ps_ret pe_bl)) pss_nil)))) pss_nil)))))))))
      (pss_one (ps_ret (pe_call G5 r1 (by rfl) m5 k5 b5 .nil pass0 (pa_cons (pe_meth0 (pv 4) TB.cl MBC GBC r1 bBC .nil pass0) (pa_cons (pv 7) pa_nil))))))))))))), ?_⟩
    -- d, tariff, run
    refine ⟨_, rfl, sc, ns, rfl, hS, fun d l H1 s1 D1 => ?_⟩
    refine ⟨_, rfl, d, l, ns, rfl, D1, fun ta T H2 o t2 D2 k2' => ?_⟩
    refine ⟨_, rfl, (by show 3 ≤ sizeLine; decide), fun u hu => ?_⟩
    have s3 := sUpd (Same.refl H2) (o := .lst [.int 1, .int 4, .int 40]) hu
    have nud : u ≠ d := fun z => by
      obtain ⟨o', h1, _⟩ := D2.tr
      rw [z, h1] at hu
      cases hu
    refine ⟨_, rfl, d, l, ns, 3, rfl, D2.same s3, by decide, by decide, fun v H3 v0 v1 D3 k3' => ?_⟩
    have hu3 := k3' _ _ upd_same nud
    have t3 : TarAt H3 ta T := (t2.same fun b xs e => s3 _ _ e).same fun b xs e => k3' _ _ e (by
      obtain ⟨o', h1, h2⟩ := (D2.same s3).tr
      exact ne_of e h1 fun z => h2 xs z.symm)
    have most : ∃ x : Int, atI [V.int 1, V.int 4, V.int 40] v = some (.int x) ∧ 0 ≤ x ∧ x ≤ 40 := by
      have e : v = 0 ∨ v = 1 ∨ v = 2 := by omega
      rcases e with e | e | e <;> subst e
      · exact ⟨1, rfl, by decide, by decide⟩
      · exact ⟨4, rfl, by decide, by decide⟩
      · exact ⟨40, rfl, by decide, by decide⟩
    obtain ⟨x, hx, x0, x1⟩ := most
    refine ⟨u, _, _, _, rfl, rfl, SqL.of hu3, hx, d, l, ns, x, rfl, D3, x0, x1, fun r pa na ba m PP NN bs H4 m12 hPP hNN b12 e1 e2 e3 e4 k4' => ?_⟩
    have t4 : TarAt H4 ta T := t3.same fun b xs e => k4' _ _ e (by
      obtain ⟨o', h1, h2⟩ := D3.tr
      exact ne_of e h1 fun z => h2 xs z.symm)
    have R4 : RunAt H4 r pa na ba m PP NN bs := ⟨e1, e2, e3, e4, m12, b12⟩
    -- the three objects
    refine ⟨_, rfl, fun lb dxb nb ndb neb => ?_⟩
    refine ⟨lb, dxb, ta, rfl, upd_same, fun tl H5 htl B5 kb => ⟨rfl, ?_⟩⟩
    have s5 : Same H4 H5 := Same.made nb ndb kb
    refine ⟨_, rfl, fun pl dxp np ndp nep => ?_⟩
    refine ⟨pl, dxp, ta, T, rfl, upd_same, (t4.same fun b xs e => s5 _ _ e).same fun b xs e => (by rw [upd_ne (ne_of_none e np), upd_ne (ne_of_none e ndp)]; exact e), fun la H6 hla B6 kp => ⟨rfl, ?_⟩⟩
    have s6 : Same H5 H6 := Same.made np ndp kp
    refine ⟨_, rfl, fun wk dxw nw ndw new => ?_⟩
    refine ⟨wk, dxw, ta, T, rfl, upd_same, (t4.same fun b xs e => s6 _ _ (s5 _ _ e)).same fun b xs e => (by rw [upd_ne (ne_of_none e nw), upd_ne (ne_of_none e ndw)]; exact e), o.n4, fun wl H7 hwl B7 kw => ⟨rfl, ?_⟩⟩
    have s7 : Same H6 H7 := Same.made nw ndw kw
    have c0 : costM T PP NN bs 0 = 0 := sumN_zero fun _ _ => rfl
    have Z : Sta CB CP CW H7 ta r lb pl wk pa na ba T m PP NN bs (fun l => M T PP NN bs l 0) := by
      refine ⟨t4.same fun b xs e => s7 _ _ (s6 _ _ (s5 _ _ e)), ((R4.same s5).same s6).same s7, ⟨tl, ?_⟩, ⟨la, _, 0, B6.same s7, PAll.start⟩, ⟨wl, _, B7, WRel.start (brkW_ok T 0)⟩⟩
      show LbAt CB H7 lb ta tl _ (costM T PP NN bs 0)
      rw [c0]
      exact (B5.same s6).same s7
    -- nothing has been told
    obtain ⟨tl0, B0⟩ := Z.b
    obtain ⟨dB0, hB0⟩ := B0.ob
    refine ⟨_, rfl, lb, dB0, _, rfl, hB0, lb_no _ _ _ (by decide +kernel) (by decide +kernel) (by decide +kernel), lb, ta, tl0, _, _, rfl, B0, _, _, rfl, _, rfl, iteNS c0 ?_⟩
    have hP0 : ∀ j, 0 ≤ PP j := fun j => by have := (hPP j).1; omega
    -- the moments
    refine ⟨_, rfl, r, _, _, _, rfl, rfl, SqT.of Z.r.t, atI_nat (j := 0) rfl, pa, _, rfl, .inl (SqL.of Z.r.p), ?_⟩
    rw [rl_len]
    refine ⟨_, rfl, by omega, by omega, ?_⟩
    have em : (m : Int).toNat = m := Int.toNat_natCast _
    refine for_range (lo := 0) (n := _) (fun i σ H' => (∃ v8 v9 : Option V, σ = [some (.ref sc), some (.ref d), some (.ref ta), some (.ref r), some (.ref lb), some (.ref pl), some (.ref wk), some (.int (costM T PP NN bs i)), v8, v9]) ∧
      Sta CB CP CW H' ta r lb pl wk pa na ba T m PP NN bs (fun l => M T PP NN bs l i)) ⟨⟨none, none, by rw [c0]; rfl⟩, Z⟩ ?_ ?_
    · rintro i σ H' hi ⟨⟨v8, v9, rfl⟩, Z1⟩
      rw [em] at hi
      have e0 : (0 : Int) + (i : Int) = (i : Int) := Int.zero_add _
      rw [e0]
      have ei : (i : Int) + 1 = ((i + 1 : Nat) : Int) := by omega
      -- due
      refine ⟨_, rfl, _, rfl, r, _, _, _, rfl, rfl, SqT.of Z1.r.t, atI_nat (j := 0) rfl, _, rfl, _, _, rfl, rfl, _, rfl, pa, _, rfl, SqL.of Z1.r.p, fun p1 np1 => ?_⟩
      rw [ei, cut_pre PP hi]
      have Z2 := Z1.same (sUpd (Same.refl H') (o := .lst (rl (i + 1) PP)) np1)
      refine ⟨_, rfl, r, _, _, _, rfl, rfl, SqT.of Z2.r.t, atI_nat (j := 1) rfl, _, rfl, _, _, rfl, rfl, _, rfl, na, _, rfl, SqL.of Z2.r.n, fun p2 np2 => ?_⟩
      rw [ei, cut_pre NN hi]
      have np12 : p1 ≠ p2 := ne_of_none upd_same np2
      have Z3 := Z2.same (sUpd (Same.refl _) (o := .lst (rl (i + 1) NN)) np2)
      refine ⟨_, rfl, r, _, _, _, rfl, rfl, SqT.of Z3.r.t, atI_nat (j := 2) rfl, ta, p1, p2, ba, T, i + 1, PP, NN, bs, rfl, Z3.t, o, by rw [upd_ne np12]; exact upd_same, upd_same, Z3.r.b, by omega, b12, hNN, fun H8 s8 => ?_⟩
      rw [due_L i]
      have Z4 := Z3.same s8
      -- back.step
      obtain ⟨tl1, B1⟩ := Z4.b
      obtain ⟨dB1, hB1⟩ := B1.ob
      obtain ⟨la1, y1, sp1, Q1, A1⟩ := Z4.p
      obtain ⟨wl1, ws1, W1, X1⟩ := Z4.w
      refine ⟨_, rfl, lb, dB1, _, rfl, hB1, lb_no _ _ _ (by decide +kernel) (by decide +kernel) (by decide +kernel), _, rfl, r, _, _, _, rfl, rfl, SqT.of Z4.r.t, atI_nat (j := 0) rfl, _, rfl, pa, _, _, _, rfl, rfl, SqL.of Z4.r.p, atI_nat (rl_get hi),
        _, rfl, r, _, _, _, rfl, rfl, SqT.of Z4.r.t, atI_nat (j := 1) rfl, _, rfl, na, _, _, _, rfl, rfl, SqL.of Z4.r.n, atI_nat (rl_get hi), lb, ta, tl1, _, _, T, _, _, rfl, B1, Z4.t, o, fun H9 B9 k9 => ?_⟩
      have t9 := Z4.t.k2 B1 k9
      have R9 := Z4.r.k2 B1 k9
      have Q9 := Q1.k2 B1 k9
      have W9 := W1.k2 o.n4 B1 k9
      refine ⟨_, rfl, _, _, rfl, _, rfl, iteNS (due_step i) ?_⟩
      refine ⟨_, rfl, _, rfl, _, _, rfl, rfl, _, rfl, ?_⟩
      have hge := cost_due (N := NN) (bs := bs) o hP0 i
      rw [decide_eq_false (show ¬ dueM T PP NN bs i < costM T PP NN bs i by omega)]
      refine iteF ?_
      -- pool.step
      obtain ⟨dP9, hP9⟩ := Q9.ob
      refine ⟨_, rfl, pl, dP9, _, rfl, hP9, pl_no _ _ _ (by decide +kernel) (by decide +kernel) (by decide +kernel), _, rfl, r, _, _, _, rfl, rfl, SqT.of R9.t, atI_nat (j := 0) rfl, _, rfl, pa, _, _, _, rfl, rfl, SqL.of R9.p, atI_nat (rl_get hi),
        _, rfl, r, _, _, _, rfl, rfl, SqT.of R9.t, atI_nat (j := 1) rfl, _, rfl, na, _, _, _, rfl, rfl, SqL.of R9.n, atI_nat (rl_get hi), pl, ta, la1, T, y1, sp1, _, _, rfl, Q9, t9, o, A1.st, fun v10 la2 H10 nla2 Q10 k10 => ?_⟩
      have t10 := t9.k1 hP9 k10
      have R10 := R9.k1 hP9 k10
      have B10 := B9.k1 hP9 k10 fun a b d z => lbF_ne_plF _ _ _ _ _ _ z.symm
      have W10 := W9.k1 hP9 k10 fun a b => plF_ne_wkF _ _ _ _ _
      -- works.step
      obtain ⟨dW10, hW10⟩ := W10.ob
      refine ⟨_, rfl, wk, dW10, _, rfl, hW10, wk_no _ _ (by decide +kernel) (by decide +kernel), _, rfl, r, _, _, _, rfl, rfl, SqT.of R10.t, atI_nat (j := 0) rfl, _, rfl, pa, _, _, _, rfl, rfl, SqL.of R10.p, atI_nat (rl_get hi),
        _, rfl, r, _, _, _, rfl, rfl, SqT.of R10.t, atI_nat (j := 1) rfl, _, rfl, na, _, _, _, rfl, rfl, SqL.of R10.n, atI_nat (rl_get hi), _, _, rfl, rfl, wk, ta, wl1, T, ws1, _, _, rfl, W10, t10, o, fun v11 wl2 ws2 H11 nwl2 hstep W11 k11 => ?_⟩
      have X11 : WRel T ws2 (mid T PP NN bs 0 i) := X1.step o (hP0 i) (needs NN 0 i) hstep
      have t11 := t10.k1 hW10 k11
      have R11 := R10.k1 hW10 k11
      have B11 := B10.k1 hW10 k11 fun a b d z => lbF_ne_wkF _ _ _ _ _ z.symm
      have Q11 := Q10.k1 hW10 k11 fun a b d z => plF_ne_wkF _ _ _ _ _ z.symm
      have A11 := A1.step (N := NN) (bs := bs) o hP0
      have Z11 : Sta CB CP CW H11 ta r lb pl wk pa na ba T m PP NN bs (fun l => mid T PP NN bs l i) := by
        refine ⟨t11, R11, ⟨tl1, ?_⟩, ⟨la2, _, _, Q11, A11⟩, ⟨wl2, ws2, W11, X11⟩⟩
        have h1 : (fun l => (mid T PP NN bs l i).1) = fN T (PP i) (NN i) (fun l => (M T PP NN bs l i).1) := funext fun l => mid_f l i
        show LbAt CB H11 lb ta tl1 (fun l => (mid T PP NN bs l i).1) (dueM T PP NN bs i)
        rw [h1, ← due_step]
        exact B11
      -- the pool has spent at most twice as much
      obtain ⟨dP11, hP11⟩ := Q11.ob
      have two := A11.two o
      refine ⟨_, rfl, pl, dP11, _, rfl, hP11, pl_no _ _ _ (by decide +kernel) (by decide +kernel) (by decide +kernel), pl, ta, la2, _, _, rfl, Q11, _, rfl, _, _, rfl, rfl, .inl ⟨by decide, by decide⟩, _, _, rfl, rfl, _, rfl, ?_⟩
      rw [decide_eq_false (show ¬ 2 * dueM T PP NN bs i < sp1 + sumN (cosL T (PP i) (NN i) y1) 40 by
        have two' : sp1 + sumN (cosL T (PP i) (NN i) y1) 40 ≤ 2 * dueM T PP NN bs i := two
        omega)]
      refine iteF ?_
      refine ⟨_, rfl, r, _, _, _, rfl, rfl, SqT.of R11.t, atI_nat (j := 1) rfl, na, nl m NN, rfl, SqL.of (by rw [← rl_nl]; exact R11.n), (by rw [nl_len]; omega), fun mx hmx hle => ?_⟩
      refine ⟨_, _, rfl, rfl, _, rfl, ?_⟩
      refine ite2 (fun hlow => ?_) (fun _ => iteF ?_)
      rotate_left
      -- nothing more is asked
      clear two hP11 Q11 B11 R11 t11 W11 k11
      generalize H11 = HH at Z11
      have ZZ := Z11
      clear Z11
      rotate_left
      -- the least work of the lane
      obtain ⟨dW11, hW11⟩ := W11.ob
      obtain ⟨hasx, lex⟩ := X11.least o
      refine ⟨_, rfl, wk, dW11, _, rfl, hW11, wk_no _ _ (by decide +kernel) (by decide +kernel), wk, ta, wl2, T, ws2, rfl, W11, o.n4, ⟨_, hasx⟩, fun mm HH s12 hl => ?_⟩
      have hmx2 : mx < 2 := of_decide_eq_true hlow
      have hone : dueM T PP NN bs i = (mid T PP NN bs 0 i).2 := due_one i m (fun j hj => by
        have := hle (NN j) (nl_mem.mpr ⟨j, hj, rfl⟩)
        omega) hi
      have hmm : mm = dueM T PP NN bs i := by
        rw [hone]
        exact Int.le_antisymm (hl.2 _ hasx) (lex _ hl.1)
      have ZZ := Z11.same s12
      refine ⟨_, rfl, _, _, rfl, _, rfl, iteNS hmm ?_⟩
      clear hl s12
      all_goals
        -- last = due; the break
        have hcs : costM T PP NN bs (i + 1) = dueM T PP NN bs i := cost_succ i
        refine ⟨_, rfl, ?_⟩
        refine ⟨_, rfl, _, rfl, r, _, _, _, rfl, rfl, SqT.of ZZ.r.t, atI_nat (j := 2) rfl, ba, _, rfl, .inl (SqL.of ZZ.r.b), rfl, flat_ints bs, _, rfl, ?_⟩
        rw [if_neg Bool.false_ne_true, inV_brk]
        cases hb : brk bs i with
        | false =>
          refine iteF ?_
          refine ⟨⟨some (.int (i : Int)), some (.int (dueM T PP NN bs i)), ?_⟩, ?_⟩
          · rw [hcs]
            rfl
          · have hx : (fun l => M T PP NN bs l (i + 1)) = fun l => mid T PP NN bs l i := funext fun l => by
              rw [M_succ, hb]
              rfl
            rw [hx]
            exact ZZ
        | true =>
          refine iteT ?_
          obtain ⟨la3, y3, sp3, Q12, A12⟩ := ZZ.p
          obtain ⟨dP12, hP12⟩ := Q12.ob
          refine ⟨_, rfl, pl, dP12, _, rfl, hP12, pl_no _ _ _ (by decide +kernel) (by decide +kernel) (by decide +kernel), pl, ta, la3, T, _, _, rfl, Q12, ZZ.t, fun la4 H12 nla4 Q13 k12' => ?_⟩
          obtain ⟨tl3, B12⟩ := ZZ.b
          obtain ⟨wl3, ws3, W12, X12⟩ := ZZ.w
          have t13 := ZZ.t.k1 hP12 k12'
          have R13 := ZZ.r.k1 hP12 k12'
          have B13 := B12.k1 hP12 k12' fun a b d z => lbF_ne_plF _ _ _ _ _ _ z.symm
          have W13 := W12.k1 hP12 k12' fun a b => plF_ne_wkF _ _ _ _ _
          obtain ⟨dW13, hW13⟩ := W13.ob
          obtain ⟨hasx', lex'⟩ := X12.least o
          refine ⟨_, rfl, wk, dW13, _, rfl, hW13, wk_no _ _ (by decide +kernel) (by decide +kernel), wk, ta, wl3, T, ws3, rfl, W13, t13, o.n4, ⟨_, hasx'⟩, fun v12 m13 wl4 H13 nwl4 hl' W14 k13 => ?_⟩
          have hm13 : m13 = (mid T PP NN bs 0 i).2 := Int.le_antisymm (hl'.2 _ hasx') (lex' _ hl'.1)
          have t14 := t13.k1 hW13 k13
          have R14 := R13.k1 hW13 k13
          have B14 := B13.k1 hW13 k13 fun a b d z => lbF_ne_wkF _ _ _ _ _ z.symm
          have Q14 := Q13.k1 hW13 k13 fun a b d z => plF_ne_wkF _ _ _ _ _ z.symm
          obtain ⟨dB14, hB14⟩ := B14.ob
          refine ⟨_, rfl, lb, dB14, _, rfl, hB14, lb_no _ _ _ (by decide +kernel) (by decide +kernel) (by decide +kernel), lb, ta, tl3, _, _, rfl, B14, fun tl4 H14 ntl4 B15 k14 => ?_⟩
          refine ⟨rfl, _, rfl, iteNS rfl ?_⟩
          obtain ⟨dB15, hB15⟩ := B15.ob
          refine ⟨_, rfl, lb, dB15, _, rfl, hB15, lb_no _ _ _ (by decide +kernel) (by decide +kernel) (by decide +kernel), lb, ta, tl4, _, _, rfl, B15, _, rfl, _, _, rfl, _, rfl, iteNS rfl ?_⟩
          refine ⟨⟨some (.int (i : Int)), some (.int (dueM T PP NN bs i)), ?_⟩, ?_⟩
          · rw [hcs]
            rfl
          · have hx : (fun l => M T PP NN bs l (i + 1)) = fun l => ((none : Option Int), (mid T PP NN bs l i).2) := funext fun l => by
              rw [M_succ, hb]
              rfl
            rw [hx]
            have k14' : Kept1 H13 H14 lb := k14
            refine ⟨t14.k1 hB14 k14', R14.k1 hB14 k14', ⟨tl4, B15⟩, ⟨la4, _, _, Q14.k1 hB14 k14' fun a b d => lbF_ne_plF _ _ _ _ _ _, A12.brk o⟩, ⟨wl4, _, W14.k1 hB14 k14' fun a b => lbF_ne_wkF _ _ _ _ _, WRel.brk hm13 (brkW_ok T m13)⟩⟩
    · rintro σ H' ⟨⟨v8, v9, rfl⟩, Z1⟩
      obtain ⟨tl1, B1⟩ := Z1.b
      obtain ⟨dB1, hB1⟩ := B1.ob
      refine ⟨_, rfl, lb, dB1, _, rfl, hB1, lb_no _ _ _ (by decide +kernel) (by decide +kernel) (by decide +kernel), lb, ta, tl1, _, _, rfl, B1, _, rfl, _, _, rfl, ?_⟩
      rw [decide_eq_true rfl]
      exact k H'
end
end K50


set_option Elab.async false
set_option maxRecDepth 100000
set_option maxHeartbeats 4000000
/-! What the top has written, and the end. -/
namespace K50
open PySem L2
def BindF (x qual : Str) (st : Stmt) (ps : List Str) : Prop := ∀ (kV doc pm : Value) (an : Option Addr) (cdv ct : Value) (us : List Value), us.length = ps.length →
  bindArgs (PySem.W.fnOf x qual (defArgs st) (defBody st) (defScope st) .none kV doc pm an cdv ct) ⟨us, []⟩ = pure (ps.zip us)
def HasDef (K : PySem.W.Frag) (mg : Str → Option Value) (x : Str) (st : Stmt) (ps : List Str) : Prop := ∃ f fd, Fun K x x st f fd ∧ mg x = some (.ref f) ∧ Binds K fd ps []
def HasMet (K : PySem.W.Frag) (C : Addr) (x qual : Str) (st : Stmt) (ps : List Str) : Prop := ∃ f fd, Fun K x qual st f fd ∧ Meth K C x f ∧ Binds K fd ps []
def HasIni (K : PySem.W.Frag) (C : Addr) (qual : Str) (st : Stmt) (ps : List Str) : Prop := ∃ f fd, Fun K "__init__" qual st f fd ∧ Mk K C f ∧ Binds K fd ps []
section
variable {K : PySem.W.Frag} {h : Heap} {mg : Str → Option Value} {x qual : Str} {st : Stmt} {ps : List Str} {f C : Addr} {oc kV doc pm cdv ct : Value} {od an : Option Addr} {osl : Array (Option Value)}
theorem mkD (X : K.In h) (G : h.Ns mainGlobals mg) (b : BindF x x st ps) (a : PySem.W.nsIn K mainGlobals x = some (some (.ref f)))
    (l : K.lookup f = some ⟨oc, od, .func (PySem.W.fnOf x x (defArgs st) (defBody st) (defScope st) .none kV doc pm an cdv ct), osl⟩) (c : PySem.W.codeIn K cdv x = true) (k : PySem.W.keepIn K (.ref f) = true) : HasDef K mg x st ps :=
  ⟨f, _, fun_mk l c k, PySem.W.mg_of X G a, (fun_mk l c k).binds b⟩
theorem mkM (b : BindF x qual st ps) (a : PySem.W.findIn K (.ref C) x = some (some (.ref f))) (i : PySem.W.isFn K (.ref f) = true)
    (l : K.lookup f = some ⟨oc, od, .func (PySem.W.fnOf x qual (defArgs st) (defBody st) (defScope st) .none kV doc pm an cdv ct), osl⟩) (c : PySem.W.codeIn K cdv qual = true) (k : PySem.W.keepIn K (.ref f) = true) : HasMet K C x qual st ps :=
  ⟨f, _, fun_mk l c k, ⟨a, i, k⟩, (fun_mk l c k).binds b⟩
theorem mkI (b : BindF "__init__" qual st ps) (m : PySem.W.makesIn K C = true) (kc : PySem.W.keepIn K (.ref C) = true) (a : PySem.W.findIn K (.ref C) "__init__" = some (some (.ref f))) (i : PySem.W.isFn K (.ref f) = true)
    (l : K.lookup f = some ⟨oc, od, .func (PySem.W.fnOf "__init__" qual (defArgs st) (defBody st) (defScope st) .none kV doc pm an cdv ct), osl⟩) (c : PySem.W.codeIn K cdv qual = true) (k : PySem.W.keepIn K (.ref f) = true) : HasIni K C qual st ps :=
  ⟨f, _, fun_mk l c k, ⟨m, a, i, kc⟩, (fun_mk l c k).binds b⟩
theorem mkC (pg : PySem.W.plainGet K C Str.empty = true) (hd : PySem.W.hasDictIn K C = true) (po : PySem.W.plainOver K C = true) (sa : PySem.W.findIn K (.ref C) "__setattr__" = some (some (.builtin "object.__setattr__"))) : Cls K C := ⟨pg, hd, po, sa⟩
end
theorem bd_sOff : BindF "off" "off" sOff ["tariff"] := fun _ _ _ _ _ _ us hl => match us, hl with | [_], _ => rfl
theorem bd_sRate : BindF "rate" "rate" sRate ["tariff", "state"] := fun _ _ _ _ _ _ us hl => match us, hl with | [_, _], _ => rfl
theorem bd_sWake : BindF "wake" "wake" sWake ["tariff", "state"] := fun _ _ _ _ _ _ us hl => match us, hl with | [_, _], _ => rfl
theorem bd_sStc : BindF "state_cost" "state_cost" sStc ["tariff", "state", "total"] := fun _ _ _ _ _ _ us hl => match us, hl with | [_, _, _], _ => rfl
theorem bd_sIdS : BindF "idle_state" "idle_state" sIdS ["tariff", "total"] := fun _ _ _ _ _ _ us hl => match us, hl with | [_, _], _ => rfl
theorem bd_sIdC : BindF "idle_cost" "idle_cost" sIdC ["tariff", "total"] := fun _ _ _ _ _ _ us hl => match us, hl with | [_, _], _ => rfl
theorem bd_sStp : BindF "step_cost" "step_cost" sStp ["tariff", "before", "after"] := fun _ _ _ _ _ _ us hl => match us, hl with | [_, _, _], _ => rfl
theorem bd_sNL : BindF "needed_lane" "needed_lane" sNL ["tariff", "lane", "price"] := fun _ _ _ _ _ _ us hl => match us, hl with | [_, _, _], _ => rfl
theorem bd_sIL : BindF "idle_lane" "idle_lane" sIL ["tariff", "lane", "price"] := fun _ _ _ _ _ _ us hl => match us, hl with | [_, _, _], _ => rfl
theorem bd_sML : BindF "moved_lanes" "moved_lanes" sML ["tariff", "lanes", "price", "need"] := fun _ _ _ _ _ _ us hl => match us, hl with | [_, _, _, _], _ => rfl
theorem bd_sLO : BindF "least_of" "least_of" sLO ["works"] := fun _ _ _ _ _ _ us hl => match us, hl with | [_], _ => rfl
theorem bd_sNW : BindF "next_work" "next_work" sNW ["tariff", "works", "price", "state"] := fun _ _ _ _ _ _ us hl => match us, hl with | [_, _, _, _], _ => rfl
theorem bd_sMix : BindF "_law_mix" "_law_mix" sMix ["_law_number"] := fun _ _ _ _ _ _ us hl => match us, hl with | [_], _ => rfl
theorem bd_sStart : BindF "_law_start" "_law_start" sStart ["_law_script"] := fun _ _ _ _ _ _ us hl => match us, hl with | [_], _ => rfl
theorem bd_sDraw : BindF "_law_draw" "_law_draw" sDraw ["_law_d", "_law_many"] := fun _ _ _ _ _ _ us hl => match us, hl with | [_, _], _ => rfl
theorem bd_sSame : BindF "_law_same" "_law_same" sSame ["_law_actual", "_law_due"] := fun _ _ _ _ _ _ us hl => match us, hl with | [_, _], _ => rfl
theorem bd_sTar : BindF "_law_tariff" "_law_tariff" sTar ["_law_d"] := fun _ _ _ _ _ _ us hl => match us, hl with | [_], _ => rfl
theorem bd_sLR : BindF "_law_rate" "_law_rate" sLR ["_law_tariff_here", "_law_state"] := fun _ _ _ _ _ _ us hl => match us, hl with | [_, _], _ => rfl
theorem bd_sLI : BindF "_law_idle_cost" "_law_idle_cost" sLI ["_law_tariff_here", "_law_total"] := fun _ _ _ _ _ _ us hl => match us, hl with | [_, _], _ => rfl
theorem bd_sPrice : BindF "_law_price" "_law_price" sPrice ["_law_d", "_law_high"] := fun _ _ _ _ _ _ us hl => match us, hl with | [_, _], _ => rfl
theorem bd_sRun : BindF "_law_run" "_law_run" sRun ["_law_d", "_law_moments", "_law_most"] := fun _ _ _ _ _ _ us hl => match us, hl with | [_, _, _], _ => rfl
theorem bd_sBest : BindF "_law_best" "_law_best" sBest ["_law_tariff_here", "_law_prices", "_law_needs", "_law_breaks"] := fun _ _ _ _ _ _ us hl => match us, hl with | [_, _, _, _], _ => rfl
theorem bd_sPI : BindF "__init__" "Pool.__init__" sPI ["self", "tariff"] := fun _ _ _ _ _ _ us hl => match us, hl with | [_, _], _ => rfl
theorem bd_sPS : BindF "step" "Pool.step" sPS ["self", "price", "need"] := fun _ _ _ _ _ _ us hl => match us, hl with | [_, _, _], _ => rfl
theorem bd_sPE : BindF "end_break" "Pool.end_break" sPE ["self"] := fun _ _ _ _ _ _ us hl => match us, hl with | [_], _ => rfl
theorem bd_sPSt : BindF "states" "Pool.states" sPSt ["self"] := fun _ _ _ _ _ _ us hl => match us, hl with | [_], _ => rfl
theorem bd_sPSp : BindF "spent" "Pool.spent" sPSp ["self"] := fun _ _ _ _ _ _ us hl => match us, hl with | [_], _ => rfl
theorem bd_sWI : BindF "__init__" "Works.__init__" sWI ["self", "tariff"] := fun _ _ _ _ _ _ us hl => match us, hl with | [_, _], _ => rfl
theorem bd_sWS : BindF "step" "Works.step" sWS ["self", "price", "is_needed"] := fun _ _ _ _ _ _ us hl => match us, hl with | [_, _, _], _ => rfl
theorem bd_sWE : BindF "end_break" "Works.end_break" sWE ["self"] := fun _ _ _ _ _ _ us hl => match us, hl with | [_], _ => rfl
theorem bd_sWL : BindF "least" "Works.least" sWL ["self"] := fun _ _ _ _ _ _ us hl => match us, hl with | [_], _ => rfl
theorem bd_sBI : BindF "__init__" "LookingBack.__init__" sBI ["self", "tariff"] := fun _ _ _ _ _ _ us hl => match us, hl with | [_, _], _ => rfl
theorem bd_sBR : BindF "_returning_cost" "LookingBack._returning_cost" sBR ["self", "total"] := fun _ _ _ _ _ _ us hl => match us, hl with | [_, _], _ => rfl
theorem bd_sBS : BindF "step" "LookingBack.step" sBS ["self", "price", "need"] := fun _ _ _ _ _ _ us hl => match us, hl with | [_, _, _], _ => rfl
theorem bd_sBE : BindF "end_break" "LookingBack.end_break" sBE ["self"] := fun _ _ _ _ _ _ us hl => match us, hl with | [_], _ => rfl
theorem bd_sBC : BindF "cost" "LookingBack.cost" sBC ["self"] := fun _ _ _ _ _ _ us hl => match us, hl with | [_], _ => rfl
theorem all_mk {l : PySem.W.OpenLaw} {w : World} {K : PySem.W.Frag} {h : Heap} {mg : Str → Option Value} {fa CP CW CB fl : Addr} {tok : Tok} {oc kV doc pm cdv ct : Value} {od an : Option Addr} {osl : Array (Option Value)} (X : K.In h) (G : h.Ns mainGlobals mg) (hfa : mg "law" = some (.ref fa))
    (h_sOff : HasDef K mg "off" sOff ["tariff"])
    (h_sRate : HasDef K mg "rate" sRate ["tariff", "state"])
    (h_sWake : HasDef K mg "wake" sWake ["tariff", "state"])
    (h_sStc : HasDef K mg "state_cost" sStc ["tariff", "state", "total"])
    (h_sIdS : HasDef K mg "idle_state" sIdS ["tariff", "total"])
    (h_sIdC : HasDef K mg "idle_cost" sIdC ["tariff", "total"])
    (h_sStp : HasDef K mg "step_cost" sStp ["tariff", "before", "after"])
    (h_sNL : HasDef K mg "needed_lane" sNL ["tariff", "lane", "price"])
    (h_sIL : HasDef K mg "idle_lane" sIL ["tariff", "lane", "price"])
    (h_sML : HasDef K mg "moved_lanes" sML ["tariff", "lanes", "price", "need"])
    (h_sLO : HasDef K mg "least_of" sLO ["works"])
    (h_sNW : HasDef K mg "next_work" sNW ["tariff", "works", "price", "state"])
    (h_sMix : HasDef K mg "_law_mix" sMix ["_law_number"])
    (h_sStart : HasDef K mg "_law_start" sStart ["_law_script"])
    (h_sDraw : HasDef K mg "_law_draw" sDraw ["_law_d", "_law_many"])
    (h_sSame : HasDef K mg "_law_same" sSame ["_law_actual", "_law_due"])
    (h_sTar : HasDef K mg "_law_tariff" sTar ["_law_d"])
    (h_sLR : HasDef K mg "_law_rate" sLR ["_law_tariff_here", "_law_state"])
    (h_sLI : HasDef K mg "_law_idle_cost" sLI ["_law_tariff_here", "_law_total"])
    (h_sPrice : HasDef K mg "_law_price" sPrice ["_law_d", "_law_high"])
    (h_sRun : HasDef K mg "_law_run" sRun ["_law_d", "_law_moments", "_law_most"])
    (h_sBest : HasDef K mg "_law_best" sBest ["_law_tariff_here", "_law_prices", "_law_needs", "_law_breaks"])
    (g_CP : PySem.W.nsIn K mainGlobals "Pool" = some (some (.ref CP)))
    (c_CP : Cls K CP)
    (n_CP_0 : PySem.W.findIn K (.ref CP) "tariff" = some none)
    (n_CP_1 : PySem.W.findIn K (.ref CP) "_lanes" = some none)
    (n_CP_2 : PySem.W.findIn K (.ref CP) "_spent" = some none)
    (h_sPI : HasIni K CP "Pool.__init__" sPI ["self", "tariff"])
    (h_sPS : HasMet K CP "step" "Pool.step" sPS ["self", "price", "need"])
    (h_sPE : HasMet K CP "end_break" "Pool.end_break" sPE ["self"])
    (h_sPSt : HasMet K CP "states" "Pool.states" sPSt ["self"])
    (h_sPSp : HasMet K CP "spent" "Pool.spent" sPSp ["self"])
    (g_CW : PySem.W.nsIn K mainGlobals "Works" = some (some (.ref CW)))
    (c_CW : Cls K CW)
    (n_CW_0 : PySem.W.findIn K (.ref CW) "_tariff" = some none)
    (n_CW_1 : PySem.W.findIn K (.ref CW) "_works" = some none)
    (h_sWI : HasIni K CW "Works.__init__" sWI ["self", "tariff"])
    (h_sWS : HasMet K CW "step" "Works.step" sWS ["self", "price", "is_needed"])
    (h_sWE : HasMet K CW "end_break" "Works.end_break" sWE ["self"])
    (h_sWL : HasMet K CW "least" "Works.least" sWL ["self"])
    (g_CB : PySem.W.nsIn K mainGlobals "LookingBack" = some (some (.ref CB)))
    (c_CB : Cls K CB)
    (n_CB_0 : PySem.W.findIn K (.ref CB) "_tariff" = some none)
    (n_CB_1 : PySem.W.findIn K (.ref CB) "_totals" = some none)
    (n_CB_2 : PySem.W.findIn K (.ref CB) "_cost" = some none)
    (h_sBI : HasIni K CB "LookingBack.__init__" sBI ["self", "tariff"])
    (h_sBR : HasMet K CB "_returning_cost" "LookingBack._returning_cost" sBR ["self", "total"])
    (h_sBS : HasMet K CB "step" "LookingBack.step" sBS ["self", "price", "need"])
    (h_sBE : HasMet K CB "end_break" "LookingBack.end_break" sBE ["self"])
    (h_sBC : HasMet K CB "cost" "LookingBack.cost" sBC ["self"])
    (z_range : PySem.W.nsIn K mainGlobals "range" = some none)
    (z_len : PySem.W.nsIn K mainGlobals "len" = some none)
    (z_max : PySem.W.nsIn K mainGlobals "max" = some none)
    (z_min : PySem.W.nsIn K mainGlobals "min" = some none)
    (z_sum : PySem.W.nsIn K mainGlobals "sum" = some none)
    (z_tuple : PySem.W.nsIn K mainGlobals "tuple" = some none)
    (z_list : PySem.W.nsIn K mainGlobals "list" = some none)
    (z_int : PySem.W.nsIn K mainGlobals "int" = some none)
    (z_str : PySem.W.nsIn K mainGlobals "str" = some none)
    (z_bool : PySem.W.nsIn K mainGlobals "bool" = some none)
    (z_isinstance : PySem.W.nsIn K mainGlobals "isinstance" = some none)
    (z_enumerate : PySem.W.nsIn K mainGlobals "enumerate" = some none)
    (l_lanes : PySem.W.nsIn K mainGlobals "LANES" = some (some (.int 40 tok)))
    (a_law : PySem.W.nsIn K mainGlobals "law" = some (some (.ref fl)))
    (l_law : K.lookup fl = some ⟨oc, od, .func (PySem.W.fnOf "law" "law" (defArgs sLaw) (defBody sLaw) (defScope sLaw) .none kV doc pm an cdv ct), osl⟩) (c_law : PySem.W.codeIn K cdv "law" = true) (k_law : PySem.W.keepIn K (.ref fl) = true)
    : ∃ fd : FuncData, (∀ (s : Shared) (v : Value), BindsTo s fd ⟨[v], []⟩ [("_law_script", v)]) ∧ ∀ base : Heap, K.In base → base.Ns mainGlobals mg → FnOk l.prog w K mg base CX0 8 fa fd ["_law_script"] (spLaw K) := by
  have e := hfa.symm.trans (PySem.W.mg_of X G a_law)
  cases e
  refine ⟨PySem.W.fnOf "law" "law" (defArgs sLaw) (defBody sLaw) (defScope sLaw) .none kV doc pm an cdv ct, fun s v => .of_eq rfl, fun base _ _ => ?_⟩
  have m_range := PySem.W.mg_none_of X G z_range
  have m_len := PySem.W.mg_none_of X G z_len
  have m_max := PySem.W.mg_none_of X G z_max
  have m_min := PySem.W.mg_none_of X G z_min
  have m_sum := PySem.W.mg_none_of X G z_sum
  have m_tuple := PySem.W.mg_none_of X G z_tuple
  have m_list := PySem.W.mg_none_of X G z_list
  have m_int := PySem.W.mg_none_of X G z_int
  have m_str := PySem.W.mg_none_of X G z_str
  have m_bool := PySem.W.mg_none_of X G z_bool
  have m_isinstance := PySem.W.mg_none_of X G z_isinstance
  have m_enumerate := PySem.W.mg_none_of X G z_enumerate
  have m_lanes := PySem.W.mg_of X G l_lanes
  have TP : PlTxt K CP := ⟨c_CP, n_CP_0, n_CP_1, n_CP_2⟩
  have TW : WkTxt K CW := ⟨c_CW, n_CW_0, n_CW_1⟩
  have TB : LbTxt K CB := ⟨c_CB, n_CB_0, n_CB_1, n_CB_2⟩
  have H_sOff : Has1 l.prog w K mg base "off" 1 ["tariff"] spOff := by
    obtain ⟨f, fd, F, m, b⟩ := h_sOff
    exact ⟨f, fd, m, F.kp, b, ok_off F m_len⟩
  have H_sRate : Has1 l.prog w K mg base "rate" 2 ["tariff", "state"] spRate := by
    obtain ⟨f, fd, F, m, b⟩ := h_sRate
    exact ⟨f, fd, m, F.kp, b, ok_rate F H_sOff⟩
  have H_sWake : Has1 l.prog w K mg base "wake" 1 ["tariff", "state"] spWake := by
    obtain ⟨f, fd, F, m, b⟩ := h_sWake
    exact ⟨f, fd, m, F.kp, b, ok_wake F⟩
  have H_sStc : Has1 l.prog w K mg base "state_cost" 3 ["tariff", "state", "total"] spStc := by
    obtain ⟨f, fd, F, m, b⟩ := h_sStc
    exact ⟨f, fd, m, F.kp, b, ok_stc F H_sRate H_sWake⟩
  have H_sIdS : Has1 l.prog w K mg base "idle_state" 4 ["tariff", "total"] spIdS := by
    obtain ⟨f, fd, F, m, b⟩ := h_sIdS
    exact ⟨f, fd, m, F.kp, b, ok_idS F H_sOff H_sStc m_range⟩
  have H_sIdC : Has1 l.prog w K mg base "idle_cost" 5 ["tariff", "total"] spIdC := by
    obtain ⟨f, fd, F, m, b⟩ := h_sIdC
    exact ⟨f, fd, m, F.kp, b, ok_idC F H_sIdS H_sStc⟩
  have H_sStp : Has1 l.prog w K mg base "step_cost" 2 ["tariff", "before", "after"] spStp := by
    obtain ⟨f, fd, F, m, b⟩ := h_sStp
    exact ⟨f, fd, m, F.kp, b, ok_stp F H_sWake⟩
  have H_sNL : Has1 l.prog w K mg base "needed_lane" 3 ["tariff", "lane", "price"] (spLane neededL) := by
    obtain ⟨f, fd, F, m, b⟩ := h_sNL
    exact ⟨f, fd, m, F.kp, b, ok_nl F H_sRate H_sWake⟩
  have H_sIL : Has1 l.prog w K mg base "idle_lane" 5 ["tariff", "lane", "price"] (spLane idleL) := by
    obtain ⟨f, fd, F, m, b⟩ := h_sIL
    exact ⟨f, fd, m, F.kp, b, ok_il F H_sOff H_sRate H_sIdS⟩
  have H_sML : Has1 l.prog w K mg base "moved_lanes" 6 ["tariff", "lanes", "price", "need"] spML := by
    obtain ⟨f, fd, F, m, b⟩ := h_sML
    exact ⟨f, fd, m, F.kp, b, ok_ml F m_enumerate H_sNL H_sIL⟩
  have H_sLO : Has1 l.prog w K mg base "least_of" 1 ["works"] spLO := by
    obtain ⟨f, fd, F, m, b⟩ := h_sLO
    exact ⟨f, fd, m, F.kp, b, ok_lo F m_min⟩
  have H_sNW : Has1 l.prog w K mg base "next_work" 3 ["tariff", "works", "price", "state"] spNW := by
    obtain ⟨f, fd, F, m, b⟩ := h_sNW
    exact ⟨f, fd, m, F.kp, b, ok_nw F m_enumerate m_min H_sStp H_sRate⟩
  have H_sMix : Has1 l.prog w K mg base "_law_mix" 1 ["_law_number"] spMix := by
    obtain ⟨f, fd, F, m, b⟩ := h_sMix
    exact ⟨f, fd, m, F.kp, b, ok_mix F m_int⟩
  have H_sStart : Has1 l.prog w K mg base "_law_start" 1 ["_law_script"] (spStart K) := by
    obtain ⟨f, fd, F, m, b⟩ := h_sStart
    exact ⟨f, fd, m, F.kp, b, ok_start F m_list⟩
  have H_sDraw : Has1 l.prog w K mg base "_law_draw" 2 ["_law_d", "_law_many"] spDraw := by
    obtain ⟨f, fd, F, m, b⟩ := h_sDraw
    exact ⟨f, fd, m, F.kp, b, ok_draw F m_int m_len H_sMix⟩
  have H_sSame : Has1 l.prog w K mg base "_law_same" 1 ["_law_actual", "_law_due"] spSame := by
    obtain ⟨f, fd, F, m, b⟩ := h_sSame
    exact ⟨f, fd, m, F.kp, b, ok_same F m_isinstance m_str m_int m_bool⟩
  have H_sTar : Has1 l.prog w K mg base "_law_tariff" 3 ["_law_d"] spTar := by
    obtain ⟨f, fd, F, m, b⟩ := h_sTar
    exact ⟨f, fd, m, F.kp, b, ok_tar F m_range m_tuple H_sDraw⟩
  have H_sLR : Has1 l.prog w K mg base "_law_rate" 1 ["_law_tariff_here", "_law_state"] spRate := by
    obtain ⟨f, fd, F, m, b⟩ := h_sLR
    exact ⟨f, fd, m, F.kp, b, ok_lr F m_len⟩
  have H_sLI : Has1 l.prog w K mg base "_law_idle_cost" 2 ["_law_tariff_here", "_law_total"] spLI := by
    obtain ⟨f, fd, F, m, b⟩ := h_sLI
    exact ⟨f, fd, m, F.kp, b, ok_li F m_min m_range m_len H_sLR⟩
  have H_sPrice : Has1 l.prog w K mg base "_law_price" 3 ["_law_d", "_law_high"] spPrice := by
    obtain ⟨f, fd, F, m, b⟩ := h_sPrice
    exact ⟨f, fd, m, F.kp, b, ok_price F H_sDraw⟩
  have H_sRun : Has1 l.prog w K mg base "_law_run" 4 ["_law_d", "_law_moments", "_law_most"] spRun := by
    obtain ⟨f, fd, F, m, b⟩ := h_sRun
    exact ⟨f, fd, m, F.kp, b, ok_run F m_range H_sDraw H_sPrice⟩
  have H_sBest : Has1 l.prog w K mg base "_law_best" 3 ["_law_tariff_here", "_law_prices", "_law_needs", "_law_breaks"] spBest := by
    obtain ⟨f, fd, F, m, b⟩ := h_sBest
    exact ⟨f, fd, m, F.kp, b, ok_best F m_range m_max m_len m_sum H_sLI⟩
  have H_sPI : HasI l.prog w K mg base CP 2 ["self", "tariff"] (spPI CP) := by
    obtain ⟨f, fd, F, m, b⟩ := h_sPI
    exact ⟨f, fd, m, b, ok_pi F TP m_lanes H_sOff⟩
  have H_sPS : HasM l.prog w K mg base CP "step" 7 ["self", "price", "need"] (spPS CP) := by
    obtain ⟨f, fd, F, m, b⟩ := h_sPS
    obtain ⟨f2, fd2, F2, m2, b2⟩ := h_sPSt
    exact ⟨f, fd, m, b, ok_ps F TP H_sML m2 b2 (ok_pst F2 TP m_tuple)⟩
  have H_sPE : HasM l.prog w K mg base CP "end_break" 2 ["self"] (spPE CP) := by
    obtain ⟨f, fd, F, m, b⟩ := h_sPE
    exact ⟨f, fd, m, b, ok_pe F TP m_lanes H_sOff⟩
  have H_sPSp : HasM l.prog w K mg base CP "spent" 1 ["self"] (spPSp CP) := by
    obtain ⟨f, fd, F, m, b⟩ := h_sPSp
    exact ⟨f, fd, m, b, ok_psp F TP⟩
  have H_sWI : HasI l.prog w K mg base CW 2 ["self", "tariff"] (spWI CW) := by
    obtain ⟨f, fd, F, m, b⟩ := h_sWI
    exact ⟨f, fd, m, b, ok_wi F TW H_sOff⟩
  have H_sWS : HasM l.prog w K mg base CW "step" 4 ["self", "price", "is_needed"] (spWS CW) := by
    obtain ⟨f, fd, F, m, b⟩ := h_sWS
    exact ⟨f, fd, m, b, ok_ws F TW m_tuple m_range H_sOff H_sNW⟩
  have H_sWE : HasM l.prog w K mg base CW "end_break" 2 ["self"] (spWE CW) := by
    obtain ⟨f, fd, F, m, b⟩ := h_sWE
    exact ⟨f, fd, m, b, ok_we F TW m_tuple H_sOff H_sLO⟩
  have H_sWL : HasM l.prog w K mg base CW "least" 2 ["self"] (spWL CW) := by
    obtain ⟨f, fd, F, m, b⟩ := h_sWL
    exact ⟨f, fd, m, b, ok_wl F TW H_sLO⟩
  have H_sBI : HasI l.prog w K mg base CB 1 ["self", "tariff"] (spBI CB) := by
    obtain ⟨f, fd, F, m, b⟩ := h_sBI
    exact ⟨f, fd, m, b, ok_bi F TB m_lanes⟩
  have H_sBS : HasM l.prog w K mg base CB "step" 7 ["self", "price", "need"] (spBS CB) := by
    obtain ⟨f, fd, F, m, b⟩ := h_sBS
    obtain ⟨f2, fd2, F2, m2, b2⟩ := h_sBR
    exact ⟨f, fd, m, b, ok_bs F TB m_lanes m_range H_sRate m2 b2 (ok_br F2 TB H_sOff H_sWake H_sIdC)⟩
  have H_sBE : HasM l.prog w K mg base CB "end_break" 1 ["self"] (spBE CB) := by
    obtain ⟨f, fd, F, m, b⟩ := h_sBE
    exact ⟨f, fd, m, b, ok_be F TB m_lanes⟩
  have H_sBC : HasM l.prog w K mg base CB "cost" 1 ["self"] (spBC CB) := by
    obtain ⟨f, fd, F, m, b⟩ := h_sBC
    exact ⟨f, fd, m, b, ok_bc F TB⟩
  exact ok_law (fun_mk (st := sLaw) l_law c_law k_law) m_range m_len m_max H_sStart H_sTar H_sDraw H_sRun H_sSame H_sBest (PySem.W.mg_of X G g_CB) TB (PySem.W.mg_of X G g_CP) TP (PySem.W.mg_of X G g_CW) TW
    H_sBI H_sPI H_sWI H_sBS H_sBE H_sBC H_sPS H_sPE H_sPSp H_sWS H_sWE H_sWL
theorem walk {l : PySem.W.OpenLaw} {q : Program} {loose : List Str} {XP : (Str → Option Value) → Heap → Prop} {YP : World → Heap → Prop} {d : DefRec} {K : Params → PySem.W.Frag} (hn : l.most = some 63) (hdf : d.params.defaults = [])
    (hY : ∀ (w : World) (h : Heap), YP w h → (K w.params).In h)
    (F : ∀ (w : World) (mg : Str → Option Value) (fa : Addr) (h : Heap), (K w.params).In h → h.Ns mainGlobals mg → mg d.name = some (.ref fa) →
      ∃ fd : FuncData, (∀ (s : Shared) (u : Value), BindsTo s fd ⟨[u], []⟩ [("_law_script", u)]) ∧ ∀ base : Heap, (K w.params).In base → base.Ns mainGlobals mg → FnOk l.prog w (K w.params) mg base CX0 8 fa fd ["_law_script"] (spLaw (K w.params))) :
    PySem.W.WalkO q loose XP YP l.row.toRowW d [] (fun f vs => PySem.call f vs) :=
  L2.walk_of (n := 63) (k := 8) (x := "_law_script") (CX := fun _ => CX0) (sp := fun w => spLaw (K w.params)) hn (by decide) hdf ⟨rfl, by decide, by decide⟩ hY F (fun _ _ a ns hl _ hS => ⟨a, ns, rfl, hS, hl, fun _ => rfl⟩) fun _ _ _ _ _ z => z
end K50

open PySem PySem.W PyProof.Rows
set_option maxRecDepth 100000 in
set_option maxHeartbeats 0 in
theorem PySem.Challenge.cw_ebbkeep_k50_whole_looking_back_holds : PySem.Challenge.rw_ebbkeep_k50_whole_looking_back.Holds := by
  w_on; o_law; k_head; (case hw => w_witness2)
  k_fill
  refine K50.walk (l := PySem.Challenge.rw_ebbkeep_k50_whole_looking_back) rfl rfl (fun w h Y => PySem.W.kIn_of Y) ?F
  case F =>
    intro w mg fa h KX G hmg
    refine' K50.all_mk KX G hmg (K50.mkD KX G K50.bd_sOff ?a_sOff ?l_sOff ?c_sOff ?k_sOff) (K50.mkD KX G K50.bd_sRate ?a_sRate ?l_sRate ?c_sRate ?k_sRate) (K50.mkD KX G K50.bd_sWake ?a_sWake ?l_sWake ?c_sWake ?k_sWake) (K50.mkD KX G K50.bd_sStc ?a_sStc ?l_sStc ?c_sStc ?k_sStc) (K50.mkD KX G K50.bd_sIdS ?a_sIdS ?l_sIdS ?c_sIdS ?k_sIdS) (K50.mkD KX G K50.bd_sIdC ?a_sIdC ?l_sIdC ?c_sIdC ?k_sIdC) (K50.mkD KX G K50.bd_sStp ?a_sStp ?l_sStp ?c_sStp ?k_sStp) (K50.mkD KX G K50.bd_sNL ?a_sNL ?l_sNL ?c_sNL ?k_sNL) (K50.mkD KX G K50.bd_sIL ?a_sIL ?l_sIL ?c_sIL ?k_sIL) (K50.mkD KX G K50.bd_sML ?a_sML ?l_sML ?c_sML ?k_sML) (K50.mkD KX G K50.bd_sLO ?a_sLO ?l_sLO ?c_sLO ?k_sLO) (K50.mkD KX G K50.bd_sNW ?a_sNW ?l_sNW ?c_sNW ?k_sNW) (K50.mkD KX G K50.bd_sMix ?a_sMix ?l_sMix ?c_sMix ?k_sMix) (K50.mkD KX G K50.bd_sStart ?a_sStart ?l_sStart ?c_sStart ?k_sStart) (K50.mkD KX G K50.bd_sDraw ?a_sDraw ?l_sDraw ?c_sDraw ?k_sDraw) (K50.mkD KX G K50.bd_sSame ?a_sSame ?l_sSame ?c_sSame ?k_sSame) (K50.mkD KX G K50.bd_sTar ?a_sTar ?l_sTar ?c_sTar ?k_sTar) (K50.mkD KX G K50.bd_sLR ?a_sLR ?l_sLR ?c_sLR ?k_sLR) (K50.mkD KX G K50.bd_sLI ?a_sLI ?l_sLI ?c_sLI ?k_sLI) (K50.mkD KX G K50.bd_sPrice ?a_sPrice ?l_sPrice ?c_sPrice ?k_sPrice) (K50.mkD KX G K50.bd_sRun ?a_sRun ?l_sRun ?c_sRun ?k_sRun) (K50.mkD KX G K50.bd_sBest ?a_sBest ?l_sBest ?c_sBest ?k_sBest) ?g_CP (K50.mkC ?pg_CP ?hd_CP ?po_CP ?sa_CP) ?n_CP_0 ?n_CP_1 ?n_CP_2 (K50.mkI K50.bd_sPI ?m_sPI ?kc_sPI ?a_sPI ?i_sPI ?l_sPI ?c_sPI ?k_sPI) (K50.mkM K50.bd_sPS ?a_sPS ?i_sPS ?l_sPS ?c_sPS ?k_sPS) (K50.mkM K50.bd_sPE ?a_sPE ?i_sPE ?l_sPE ?c_sPE ?k_sPE) (K50.mkM K50.bd_sPSt ?a_sPSt ?i_sPSt ?l_sPSt ?c_sPSt ?k_sPSt) (K50.mkM K50.bd_sPSp ?a_sPSp ?i_sPSp ?l_sPSp ?c_sPSp ?k_sPSp) ?g_CW (K50.mkC ?pg_CW ?hd_CW ?po_CW ?sa_CW) ?n_CW_0 ?n_CW_1 (K50.mkI K50.bd_sWI ?m_sWI ?kc_sWI ?a_sWI ?i_sWI ?l_sWI ?c_sWI ?k_sWI) (K50.mkM K50.bd_sWS ?a_sWS ?i_sWS ?l_sWS ?c_sWS ?k_sWS) (K50.mkM K50.bd_sWE ?a_sWE ?i_sWE ?l_sWE ?c_sWE ?k_sWE) (K50.mkM K50.bd_sWL ?a_sWL ?i_sWL ?l_sWL ?c_sWL ?k_sWL) ?g_CB (K50.mkC ?pg_CB ?hd_CB ?po_CB ?sa_CB) ?n_CB_0 ?n_CB_1 ?n_CB_2 (K50.mkI K50.bd_sBI ?m_sBI ?kc_sBI ?a_sBI ?i_sBI ?l_sBI ?c_sBI ?k_sBI) (K50.mkM K50.bd_sBR ?a_sBR ?i_sBR ?l_sBR ?c_sBR ?k_sBR) (K50.mkM K50.bd_sBS ?a_sBS ?i_sBS ?l_sBS ?c_sBS ?k_sBS) (K50.mkM K50.bd_sBE ?a_sBE ?i_sBE ?l_sBE ?c_sBE ?k_sBE) (K50.mkM K50.bd_sBC ?a_sBC ?i_sBC ?l_sBC ?c_sBC ?k_sBC) ?z_range ?z_len ?z_max ?z_min ?z_sum ?z_tuple ?z_list ?z_int ?z_str ?z_bool ?z_isinstance ?z_enumerate ?l_lanes ?a_law ?l_law ?c_law ?k_law
    (case a_sOff => k_is)
    (case l_sOff => k_is)
    (case c_sOff => k_is)
    (case k_sOff => k_is)
    (case a_sRate => k_is)
    (case l_sRate => k_is)
    (case c_sRate => k_is)
    (case k_sRate => k_is)
    (case a_sWake => k_is)
    (case l_sWake => k_is)
    (case c_sWake => k_is)
    (case k_sWake => k_is)
    (case a_sStc => k_is)
    (case l_sStc => k_is)
    (case c_sStc => k_is)
    (case k_sStc => k_is)
    (case a_sIdS => k_is)
    (case l_sIdS => k_is)
    (case c_sIdS => k_is)
    (case k_sIdS => k_is)
    (case a_sIdC => k_is)
    (case l_sIdC => k_is)
    (case c_sIdC => k_is)
    (case k_sIdC => k_is)
    (case a_sStp => k_is)
    (case l_sStp => k_is)
    (case c_sStp => k_is)
    (case k_sStp => k_is)
    (case a_sNL => k_is)
    (case l_sNL => k_is)
    (case c_sNL => k_is)
    (case k_sNL => k_is)
    (case a_sIL => k_is)
    (case l_sIL => k_is)
    (case c_sIL => k_is)
    (case k_sIL => k_is)
    (case a_sML => k_is)
    (case l_sML => k_is)
    (case c_sML => k_is)
    (case k_sML => k_is)
    (case a_sLO => k_is)
    (case l_sLO => k_is)
    (case c_sLO => k_is)
    (case k_sLO => k_is)
    (case a_sNW => k_is)
    (case l_sNW => k_is)
    (case c_sNW => k_is)
    (case k_sNW => k_is)
    (case a_sMix => k_is)
    (case l_sMix => k_is)
    (case c_sMix => k_is)
    (case k_sMix => k_is)
    (case a_sStart => k_is)
    (case l_sStart => k_is)
    (case c_sStart => k_is)
    (case k_sStart => k_is)
    (case a_sDraw => k_is)
    (case l_sDraw => k_is)
    (case c_sDraw => k_is)
    (case k_sDraw => k_is)
    (case a_sSame => k_is)
    (case l_sSame => k_is)
    (case c_sSame => k_is)
    (case k_sSame => k_is)
    (case a_sTar => k_is)
    (case l_sTar => k_is)
    (case c_sTar => k_is)
    (case k_sTar => k_is)
    (case a_sLR => k_is)
    (case l_sLR => k_is)
    (case c_sLR => k_is)
    (case k_sLR => k_is)
    (case a_sLI => k_is)
    (case l_sLI => k_is)
    (case c_sLI => k_is)
    (case k_sLI => k_is)
    (case a_sPrice => k_is)
    (case l_sPrice => k_is)
    (case c_sPrice => k_is)
    (case k_sPrice => k_is)
    (case a_sRun => k_is)
    (case l_sRun => k_is)
    (case c_sRun => k_is)
    (case k_sRun => k_is)
    (case a_sBest => k_is)
    (case l_sBest => k_is)
    (case c_sBest => k_is)
    (case k_sBest => k_is)
    (case g_CP => k_is)
    (case pg_CP => k_is)
    (case hd_CP => k_is)
    (case po_CP => k_is)
    (case sa_CP => k_is)
    (case n_CP_0 => k_is)
    (case n_CP_1 => k_is)
    (case n_CP_2 => k_is)
    (case m_sPI => k_is)
    (case kc_sPI => k_is)
    (case a_sPI => k_is)
    (case i_sPI => k_is)
    (case l_sPI => k_is)
    (case c_sPI => k_is)
    (case k_sPI => k_is)
    (case a_sPS => k_is)
    (case i_sPS => k_is)
    (case l_sPS => k_is)
    (case c_sPS => k_is)
    (case k_sPS => k_is)
    (case a_sPE => k_is)
    (case i_sPE => k_is)
    (case l_sPE => k_is)
    (case c_sPE => k_is)
    (case k_sPE => k_is)
    (case a_sPSt => k_is)
    (case i_sPSt => k_is)
    (case l_sPSt => k_is)
    (case c_sPSt => k_is)
    (case k_sPSt => k_is)
    (case a_sPSp => k_is)
    (case i_sPSp => k_is)
    (case l_sPSp => k_is)
    (case c_sPSp => k_is)
    (case k_sPSp => k_is)
    (case g_CW => k_is)
    (case pg_CW => k_is)
    (case hd_CW => k_is)
    (case po_CW => k_is)
    (case sa_CW => k_is)
    (case n_CW_0 => k_is)
    (case n_CW_1 => k_is)
    (case m_sWI => k_is)
    (case kc_sWI => k_is)
    (case a_sWI => k_is)
    (case i_sWI => k_is)
    (case l_sWI => k_is)
    (case c_sWI => k_is)
    (case k_sWI => k_is)
    (case a_sWS => k_is)
    (case i_sWS => k_is)
    (case l_sWS => k_is)
    (case c_sWS => k_is)
    (case k_sWS => k_is)
    (case a_sWE => k_is)
    (case i_sWE => k_is)
    (case l_sWE => k_is)
    (case c_sWE => k_is)
    (case k_sWE => k_is)
    (case a_sWL => k_is)
    (case i_sWL => k_is)
    (case l_sWL => k_is)
    (case c_sWL => k_is)
    (case k_sWL => k_is)
    (case g_CB => k_is)
    (case pg_CB => k_is)
    (case hd_CB => k_is)
    (case po_CB => k_is)
    (case sa_CB => k_is)
    (case n_CB_0 => k_is)
    (case n_CB_1 => k_is)
    (case n_CB_2 => k_is)
    (case m_sBI => k_is)
    (case kc_sBI => k_is)
    (case a_sBI => k_is)
    (case i_sBI => k_is)
    (case l_sBI => k_is)
    (case c_sBI => k_is)
    (case k_sBI => k_is)
    (case a_sBR => k_is)
    (case i_sBR => k_is)
    (case l_sBR => k_is)
    (case c_sBR => k_is)
    (case k_sBR => k_is)
    (case a_sBS => k_is)
    (case i_sBS => k_is)
    (case l_sBS => k_is)
    (case c_sBS => k_is)
    (case k_sBS => k_is)
    (case a_sBE => k_is)
    (case i_sBE => k_is)
    (case l_sBE => k_is)
    (case c_sBE => k_is)
    (case k_sBE => k_is)
    (case a_sBC => k_is)
    (case i_sBC => k_is)
    (case l_sBC => k_is)
    (case c_sBC => k_is)
    (case k_sBC => k_is)
    (case z_range => k_is)
    (case z_len => k_is)
    (case z_max => k_is)
    (case z_min => k_is)
    (case z_sum => k_is)
    (case z_tuple => k_is)
    (case z_list => k_is)
    (case z_int => k_is)
    (case z_str => k_is)
    (case z_bool => k_is)
    (case z_isinstance => k_is)
    (case z_enumerate => k_is)
    (case l_lanes => k_is)
    (case a_law => k_is)
    (case l_law => k_is)
    (case c_law => k_is)
    (case k_law => k_is)
#print axioms PySem.Challenge.cw_ebbkeep_k50_whole_looking_back_holds

