import PyProof.Rows.All
import Wide.All
import OpenK.AllK
import Wide.FinOn
import KE.KExcSuper
import KE.KSuper
import HandS.ForMost
import HandS.ForExc
import HandS.ExcInit
import HandS.HeadWalk
import KE.KOpsOwn
import PyProof.InstNe
import KE.KExcIs
import HandS.ExcField
import HandS.ExcIs
import HandS.WideBits
import HandS.Walk
import HandS.Zip
import HandS.TupAny
import HandS.Style
import HandS.IsInst
import HandS.Deep
import HandS.More
import HandS.RaiseMore
import HandS.SortInts
import HandS.NoneIn
import HandS.OwnEq
import HandS.HeadHook4
import HandS.Head0
import HandS.Head1
import HandS.Head2
import HandS.Lambda
import HandS.DeepEq
import PySem.Challenge.RW_laneswap_k42_whole_histories_of_desks
/-! MathA -/
/-! Words, sums, spans, counts: plain Lean. -/
set_option autoImplicit false
namespace L2.Lk
/-! ### the span of a list of words -/
def Spn : List Nat → Nat → Prop
  | [], x => x = 0
  | w :: ws, x => Spn ws x ∨ Spn ws (x ^^^ w)
theorem xx (a b : Nat) : a ^^^ b ^^^ b = a := by rw [Nat.xor_assoc, Nat.xor_self, Nat.xor_zero]
theorem xor_r (a b c : Nat) : a ^^^ b ^^^ c = a ^^^ c ^^^ b := by rw [Nat.xor_assoc, Nat.xor_comm b c, ← Nat.xor_assoc]
theorem xor_eq_zero_iff {a b : Nat} : a ^^^ b = 0 ↔ a = b := by
  constructor
  · intro h
    have := congrArg (fun z => z ^^^ b) h
    simp only [xx, Nat.zero_xor] at this
    exact this
  · rintro rfl
    exact Nat.xor_self _
theorem sp_zero : ∀ ws, Spn ws 0
  | [] => rfl
  | _ :: ws => .inl (sp_zero ws)
theorem sp_xor : ∀ {ws : List Nat} {x y : Nat}, Spn ws x → Spn ws y → Spn ws (x ^^^ y)
  | [], x, y, hx, hy => by
    have hx : x = 0 := hx
    have hy : y = 0 := hy
    subst hx hy
    exact rfl
  | w :: ws, x, y, hx, hy => by
    rcases hx with hx | hx <;> rcases hy with hy | hy
    · exact .inl (sp_xor hx hy)
    · refine .inr ?_
      have := sp_xor hx hy
      rwa [← Nat.xor_assoc] at this
    · refine .inr ?_
      have := sp_xor hx hy
      rwa [xor_r] at this
    · refine .inl ?_
      have := sp_xor hx hy
      rwa [← Nat.xor_assoc, xor_r x w y, xx] at this
theorem sp_head (w : Nat) (ws : List Nat) : Spn (w :: ws) w := .inr (by rw [Nat.xor_self]; exact sp_zero ws)
theorem sp_tail {w x : Nat} {ws : List Nat} (h : Spn ws x) : Spn (w :: ws) x := .inl h
theorem sp_mem : ∀ {ws : List Nat} {w : Nat}, w ∈ ws → Spn ws w
  | a :: ws, w, h => by
    rcases List.mem_cons.mp h with e | h
    · rw [e]; exact sp_head a ws
    · exact .inl (sp_mem h)
/-- what holds of 0 and the words and stays by sums holds of the span -/
theorem sp_ind {P : Nat → Prop} (h0 : P 0) (hx : ∀ x y, P x → P y → P (x ^^^ y)) : ∀ {ws : List Nat}, (∀ w ∈ ws, P w) → ∀ {x}, Spn ws x → P x
  | [], _, x, h => by
    have h : x = 0 := h
    rw [h]; exact h0
  | w :: ws, hw, x, h => by
    rcases h with h | h
    · exact sp_ind h0 hx (fun v hv => hw v (List.mem_cons_of_mem _ hv)) h
    · have := hx _ _ (sp_ind h0 hx (fun v hv => hw v (List.mem_cons_of_mem _ hv)) h) (hw w List.mem_cons_self)
      rwa [xx] at this
theorem sp_mono {vs ws : List Nat} (h : ∀ w ∈ ws, Spn vs w) {x : Nat} (hx : Spn ws x) : Spn vs x := sp_ind (P := Spn vs) (sp_zero vs) (fun _ _ => sp_xor) h hx
theorem sp_sub {vs ws : List Nat} (h : ∀ w ∈ ws, w ∈ vs) {x : Nat} (hx : Spn ws x) : Spn vs x := sp_mono (fun w hw => sp_mem (h w hw)) hx
theorem sp_same {vs ws : List Nat} (h : ∀ w, w ∈ ws ↔ w ∈ vs) (x : Nat) : Spn ws x ↔ Spn vs x := ⟨sp_sub fun w hw => (h w).mp hw, sp_sub fun w hw => (h w).mpr hw⟩
theorem sp_lt {ws : List Nat} {n x : Nat} (h : ∀ w ∈ ws, w < 2 ^ n) (hx : Spn ws x) : x < 2 ^ n := sp_ind (P := fun x => x < 2 ^ n) (Nat.two_pow_pos n) (fun _ _ a b => Nat.xor_lt_two_pow a b) h hx
theorem sp_nil {x : Nat} : Spn [] x ↔ x = 0 := Iff.rfl
theorem sp_cons {w x : Nat} {ws : List Nat} : Spn (w :: ws) x ↔ Spn ws x ∨ Spn ws (x ^^^ w) := Iff.rfl
/-- a word of the span adds nothing -/
theorem sp_cons_in {w : Nat} {ws : List Nat} (h : Spn ws w) (x : Nat) : Spn (w :: ws) x ↔ Spn ws x := by
  constructor
  · rintro (hx | hx)
    · exact hx
    · have := sp_xor hx h
      rwa [xx] at this
  · exact .inl
theorem sp_append {A B : List Nat} {x : Nat} : Spn (A ++ B) x ↔ ∃ a b, Spn A a ∧ Spn B b ∧ x = a ^^^ b := by
  constructor
  · intro h
    refine sp_ind (P := fun x => ∃ a b, Spn A a ∧ Spn B b ∧ x = a ^^^ b) ⟨0, 0, sp_zero _, sp_zero _, rfl⟩ ?_ ?_ h
    · rintro x y ⟨a, b, ha, hb, rfl⟩ ⟨c, d, hc, hd, rfl⟩
      refine ⟨a ^^^ c, b ^^^ d, sp_xor ha hc, sp_xor hb hd, ?_⟩
      rw [Nat.xor_assoc, Nat.xor_assoc]
      congr 1
      rw [← Nat.xor_assoc, Nat.xor_comm b c, Nat.xor_assoc]
    · intro w hw
      rcases List.mem_append.mp hw with hw | hw
      · exact ⟨w, 0, sp_mem hw, sp_zero _, by simp⟩
      · exact ⟨0, w, sp_zero _, sp_mem hw, by simp⟩
  · rintro ⟨a, b, ha, hb, rfl⟩
    exact sp_xor (sp_mono (fun w hw => sp_mem (List.mem_append_left _ hw)) ha) (sp_mono (fun w hw => sp_mem (List.mem_append_right _ hw)) hb)
/-! ### linear functions -/
def Lin (f : Nat → Nat) : Prop := ∀ x y, f (x ^^^ y) = f x ^^^ f y
theorem Lin.zero {f : Nat → Nat} (h : Lin f) : f 0 = 0 := by
  have := h 0 0
  rw [Nat.xor_self, Nat.xor_self] at this
  exact this
theorem sp_map {f : Nat → Nat} (h : Lin f) : ∀ {ws : List Nat} {y : Nat}, Spn (ws.map f) y ↔ ∃ x, Spn ws x ∧ y = f x
  | [], y => by
    constructor
    · intro e
      exact ⟨0, rfl, (show y = 0 from e).trans h.zero.symm⟩
    · rintro ⟨x, e, rfl⟩
      rw [show x = 0 from e]
      exact h.zero
  | w :: ws, y => by
    constructor
    · rintro (e | e)
      · obtain ⟨x, hx, rfl⟩ := (sp_map h).mp e
        exact ⟨x, .inl hx, rfl⟩
      · obtain ⟨x, hx, q⟩ := (sp_map h).mp e
        refine ⟨x ^^^ w, .inr (by rw [xx]; exact hx), ?_⟩
        rw [h, ← q, xx]
    · rintro ⟨x, hx | hx, rfl⟩
      · exact .inl ((sp_map h).mpr ⟨x, hx, rfl⟩)
      · exact .inr ((sp_map h).mpr ⟨x ^^^ w, hx, by rw [h]⟩)
/-! ### counting -/
open Classical in
noncomputable def Ct : Nat → (Nat → Prop) → Nat
  | 0, p => if p 0 then 1 else 0
  | N + 1, p => Ct N p + Ct N fun x => p (x ^^^ 2 ^ N)
theorem ct_congr : ∀ {N : Nat} {p q : Nat → Prop}, (∀ x, x < 2 ^ N → (p x ↔ q x)) → Ct N p = Ct N q
  | 0, p, q, h => by
    unfold Ct
    have := h 0 (by decide)
    by_cases hp : p 0
    · rw [if_pos hp, if_pos (this.mp hp)]
    · rw [if_neg hp, if_neg fun z => hp (this.mpr z)]
  | N + 1, p, q, h => by
    unfold Ct
    have e1 : ∀ x, x < 2 ^ N → x < 2 ^ (N + 1) := fun x hx => Nat.lt_of_lt_of_le hx (Nat.pow_le_pow_right (by decide) (Nat.le_succ N))
    have e2 : 2 ^ N < 2 ^ (N + 1) := Nat.pow_lt_pow_right (by decide) (Nat.lt_succ_self N)
    rw [ct_congr (N := N) (p := p) (q := q) fun x hx => h x (e1 x hx), ct_congr (N := N) fun x hx => h _ (Nat.xor_lt_two_pow (e1 x hx) e2)]
theorem ct_iff {N : Nat} {p q : Nat → Prop} (h : ∀ x, p x ↔ q x) : Ct N p = Ct N q := ct_congr fun x _ => h x
theorem ct_mono : ∀ {N : Nat} {p q : Nat → Prop}, (∀ x, p x → q x) → Ct N p ≤ Ct N q
  | 0, p, q, h => by
    unfold Ct
    by_cases hp : p 0
    · rw [if_pos hp, if_pos (h 0 hp)]
      exact Nat.le_refl _
    · rw [if_neg hp]; exact Nat.zero_le _
  | N + 1, p, q, h => Nat.add_le_add (ct_mono h) (ct_mono fun x => h _)
theorem ct_true : ∀ {N : Nat} {p : Nat → Prop}, (∀ x, x < 2 ^ N → p x) → Ct N p = 2 ^ N
  | 0, p, h => if_pos (h 0 (by decide))
  | N + 1, p, h => by
    have e1 : ∀ x, x < 2 ^ N → x < 2 ^ (N + 1) := fun x hx => Nat.lt_of_lt_of_le hx (Nat.pow_le_pow_right (by decide) (Nat.le_succ N))
    have e2 : 2 ^ N < 2 ^ (N + 1) := Nat.pow_lt_pow_right (by decide) (Nat.lt_succ_self N)
    unfold Ct
    rw [ct_true (N := N) fun x hx => h x (e1 x hx), ct_true (N := N) (p := fun x => p (x ^^^ 2 ^ N)) fun x hx => h _ (Nat.xor_lt_two_pow (e1 x hx) e2), Nat.pow_succ]
    omega
theorem ct_false : ∀ {N : Nat} {p : Nat → Prop}, (∀ x, ¬ p x) → Ct N p = 0
  | 0, p, h => if_neg (h 0)
  | N + 1, p, h => by
    unfold Ct
    rw [ct_false (N := N) h, ct_false (N := N) fun x => h _]
theorem ct_or : ∀ {N : Nat} {p q : Nat → Prop}, (∀ x, p x → q x → False) → Ct N (fun x => p x ∨ q x) = Ct N p + Ct N q
  | 0, p, q, h => by
    unfold Ct
    by_cases hp : p 0
    · have hq : ¬ q 0 := fun z => h 0 hp z
      rw [if_pos hp, if_neg hq, if_pos (.inl hp)]
    · by_cases hq : q 0
      · rw [if_neg hp, if_pos hq, if_pos (.inr hq)]
      · rw [if_neg hp, if_neg hq, if_neg (by rintro (z | z); exact hp z; exact hq z)]
  | N + 1, p, q, h => by
    unfold Ct
    rw [ct_or (N := N) h, ct_or (N := N) (p := fun x => p (x ^^^ 2 ^ N)) (q := fun x => q (x ^^^ 2 ^ N)) fun x => h _]
    omega
/-- a shift by a word changes no count -/
theorem ct_shift : ∀ {N : Nat} {p : Nat → Prop} {w : Nat}, w < 2 ^ N → Ct N (fun x => p (x ^^^ w)) = Ct N p
  | 0, p, w, h => by
    have : w = 0 := by simpa using h
    subst this
    exact ct_iff fun x => by rw [Nat.xor_zero]
  | N + 1, p, w, h => by
    have key : ∀ {v : Nat}, v < 2 ^ N → Ct (N + 1) (fun x => p (x ^^^ v)) = Ct (N + 1) p := fun {v} hv => by
      unfold Ct
      have a := ct_shift (N := N) (p := p) hv
      have b := ct_shift (N := N) (p := fun x => p (x ^^^ 2 ^ N)) hv
      have b2 : Ct N (fun x => p (x ^^^ 2 ^ N ^^^ v)) = Ct N (fun x => p (x ^^^ v ^^^ 2 ^ N)) := ct_iff fun x => by rw [xor_r]
      rw [a, b2, b]
    by_cases hw : w < 2 ^ N
    · exact key hw
    · have hv : w ^^^ 2 ^ N < 2 ^ N := by
        refine Nat.lt_pow_two_of_testBit _ fun i hi => ?_
        rw [Nat.testBit_xor, Nat.testBit_two_pow]
        by_cases e : N = i
        · subst e
          have : w.testBit N = true := by
            have h1 : 2 ^ N ≤ w := Nat.le_of_not_lt hw
            rw [Nat.testBit_eq_decide_div_mod_eq]
            have h2 : w / 2 ^ N = 1 := by
              rw [Nat.pow_succ] at h
              have : w / 2 ^ N < 2 := (Nat.div_lt_iff_lt_mul (Nat.two_pow_pos N)).mpr (by omega)
              have : 1 ≤ w / 2 ^ N := (Nat.le_div_iff_mul_le (Nat.two_pow_pos N)).mpr (by omega)
              omega
            rw [h2]
            decide
          rw [this]
          simp
        · have : w.testBit i = false := Nat.testBit_lt_two_pow (Nat.lt_of_lt_of_le h (Nat.pow_le_pow_right (by decide) (by omega)))
          rw [this]
          simp [e]
      have e : Ct (N + 1) (fun x => p (x ^^^ w)) = Ct (N + 1) (fun x => p (x ^^^ 2 ^ N)) := by
        have := key (v := w ^^^ 2 ^ N) hv
        have c := ct_shift_aux p w N hv
        exact c
      rw [e]
      unfold Ct
      rw [show Ct N (fun x => p (x ^^^ 2 ^ N ^^^ 2 ^ N)) = Ct N p from ct_iff fun x => by rw [xx], Nat.add_comm]
where
  ct_shift_aux (p : Nat → Prop) (w N : Nat) (hv : w ^^^ 2 ^ N < 2 ^ N) : Ct (N + 1) (fun x => p (x ^^^ w)) = Ct (N + 1) (fun x => p (x ^^^ 2 ^ N)) := by
    have e1 : ∀ x, x ^^^ w = x ^^^ (w ^^^ 2 ^ N) ^^^ 2 ^ N := fun x => by rw [← Nat.xor_assoc, xx]
    unfold Ct
    have a := ct_shift (N := N) (p := fun x => p (x ^^^ 2 ^ N)) hv
    have b := ct_shift (N := N) (p := fun x => p (x ^^^ 2 ^ N ^^^ 2 ^ N)) hv
    have a2 : Ct N (fun x => p (x ^^^ w)) = Ct N (fun x => p (x ^^^ (w ^^^ 2 ^ N) ^^^ 2 ^ N)) := ct_iff fun x => by rw [e1]
    have b2 : Ct N (fun x => p (x ^^^ 2 ^ N ^^^ w)) = Ct N (fun x => p (x ^^^ (w ^^^ 2 ^ N) ^^^ 2 ^ N ^^^ 2 ^ N)) := ct_iff fun x => by rw [e1, xor_r x (2 ^ N) (w ^^^ 2 ^ N)]
    rw [a2, b2, a, b]
end L2.Lk
/-! MathB -/
set_option autoImplicit false
namespace L2.Lk
/-! ### spans counted -/
theorem ct_cons_in {N w : Nat} {ws : List Nat} (h : Spn ws w) : Ct N (Spn (w :: ws)) = Ct N (Spn ws) := ct_iff (sp_cons_in h)
theorem ct_cons_out {N w : Nat} {ws : List Nat} (hw : w < 2 ^ N) (h : ¬ Spn ws w) : Ct N (Spn (w :: ws)) = 2 * Ct N (Spn ws) := by
  have e : Ct N (Spn (w :: ws)) = Ct N (fun x => Spn ws x ∨ Spn ws (x ^^^ w)) := ct_iff fun x => Iff.rfl
  rw [e, ct_or fun x h1 h2 => h ?_, ct_shift (p := Spn ws) hw]
  · omega
  · have := sp_xor h1 h2
    rwa [← Nat.xor_assoc, Nat.xor_self, Nat.zero_xor] at this
theorem ct_nil {N : Nat} : Ct N (Spn []) = 1 := by
  induction N with
  | zero => exact if_pos rfl
  | succ N ih =>
    unfold Ct
    rw [ih]
    have : Ct N (fun x => Spn [] (x ^^^ 2 ^ N)) = 0 := by
      have e : Ct N (fun x => Spn [] (x ^^^ 2 ^ N)) = Ct N (fun _ => False) := ct_congr fun x hx => by
        refine ⟨fun z => ?_, False.elim⟩
        have z : x ^^^ 2 ^ N = 0 := z
        have := xor_eq_zero_iff.mp z
        omega
      rw [e, ct_false fun _ => id]
    rw [this]
open Classical in
/-- the rank, word by word -/
noncomputable def rk : List Nat → Nat
  | [] => 0
  | w :: ws => rk ws + if Spn ws w then 0 else 1
theorem rk_in {w : Nat} {ws : List Nat} (h : Spn ws w) : rk (w :: ws) = rk ws := by rw [rk, if_pos h]; rfl
theorem rk_out {w : Nat} {ws : List Nat} (h : ¬ Spn ws w) : rk (w :: ws) = rk ws + 1 := by rw [rk, if_neg h]
theorem ct_rk : ∀ {N : Nat} {ws : List Nat}, (∀ w ∈ ws, w < 2 ^ N) → Ct N (Spn ws) = 2 ^ rk ws
  | N, [], _ => ct_nil
  | N, w :: ws, h => by
    have ih := ct_rk (N := N) (ws := ws) fun v hv => h v (List.mem_cons_of_mem _ hv)
    by_cases hs : Spn ws w
    · rw [ct_cons_in hs, rk_in hs, ih]
    · rw [ct_cons_out (h w List.mem_cons_self) hs, rk_out hs, ih, Nat.pow_succ, Nat.mul_comm]
theorem two_pow_inj {a b : Nat} (h : 2 ^ a = 2 ^ b) : a = b := by
  rcases Nat.lt_trichotomy a b with q | q | q
  · exact absurd h (Nat.ne_of_lt (Nat.pow_lt_pow_right (by decide) q))
  · exact q
  · exact absurd h.symm (Nat.ne_of_lt (Nat.pow_lt_pow_right (by decide) q))
theorem two_pow_le {a b : Nat} (h : 2 ^ a ≤ 2 ^ b) : a ≤ b := by
  rcases Nat.lt_or_ge b a with q | q
  · exact absurd h (Nat.not_le_of_lt (Nat.pow_lt_pow_right (by decide) q))
  · exact q
/-- a bound for a list's words -/
theorem bound (ws : List Nat) : ∃ N, ∀ w ∈ ws, w < 2 ^ N := by
  induction ws with
  | nil => exact ⟨0, fun w h => by cases h⟩
  | cons a ws ih =>
    obtain ⟨N, h⟩ := ih
    refine ⟨N + a, fun w hw => ?_⟩
    rcases List.mem_cons.mp hw with e | hw
    · rw [e]
      exact Nat.lt_of_lt_of_le Nat.lt_two_pow_self (Nat.pow_le_pow_right (by decide) (Nat.le_add_left _ _))
    · exact Nat.lt_of_lt_of_le (h w hw) (Nat.pow_le_pow_right (by decide) (Nat.le_add_right _ _))
theorem bound2 (vs ws : List Nat) : ∃ N, (∀ w ∈ vs, w < 2 ^ N) ∧ ∀ w ∈ ws, w < 2 ^ N := by
  obtain ⟨N, h⟩ := bound (vs ++ ws)
  exact ⟨N, fun w hw => h w (List.mem_append_left _ hw), fun w hw => h w (List.mem_append_right _ hw)⟩
theorem rk_same {vs ws : List Nat} (h : ∀ x, Spn vs x ↔ Spn ws x) : rk vs = rk ws := by
  obtain ⟨N, h1, h2⟩ := bound2 vs ws
  exact two_pow_inj (by rw [← ct_rk h1, ← ct_rk h2]; exact ct_iff h)
theorem rk_mono {vs ws : List Nat} (h : ∀ x, Spn vs x → Spn ws x) : rk vs ≤ rk ws := by
  obtain ⟨N, h1, h2⟩ := bound2 vs ws
  exact two_pow_le (by rw [← ct_rk h1, ← ct_rk h2]; exact ct_mono h)
theorem rk_le_len : ∀ ws : List Nat, rk ws ≤ ws.length
  | [] => Nat.le_refl 0
  | w :: ws => by
    have := rk_le_len ws
    by_cases h : Spn ws w
    · rw [rk_in h, List.length_cons]; omega
    · rw [rk_out h, List.length_cons]; omega
theorem rk_cons_le {w : Nat} {ws : List Nat} : rk ws ≤ rk (w :: ws) := rk_mono fun _ => sp_tail
/-- equal rank, one inside the other: the same -/
theorem rk_eq_same {vs ws : List Nat} (h : ∀ x, Spn vs x → Spn ws x) (e : rk vs = rk ws) (x : Nat) : Spn vs x ↔ Spn ws x := by
  refine ⟨h x, fun hx => ?_⟩
  by_cases q : Spn vs x
  · exact q
  · have h1 : rk (x :: vs) = rk vs + 1 := rk_out q
    have h2 : rk (x :: vs) ≤ rk ws := rk_mono fun y hy => sp_mono (vs := ws) (ws := x :: vs) (fun w hw => by
      rcases List.mem_cons.mp hw with e | hw
      · rw [e]; exact hx
      · exact h w (sp_mem hw)) hy
    omega
/-- the units -/
def units (n : Nat) : List Nat := (List.range n).map fun i => 2 ^ i
theorem sp_units : ∀ {n x : Nat}, Spn (units n) x ↔ x < 2 ^ n := by
  intro n x
  constructor
  · refine fun h => sp_lt (fun w hw => ?_) h
    obtain ⟨i, hi, rfl⟩ := List.mem_map.mp hw
    exact Nat.pow_lt_pow_right (by decide) (List.mem_range.mp hi)
  · induction n generalizing x with
    | zero =>
      intro h
      have : x = 0 := by simpa using h
      rw [this]; exact sp_zero _
    | succ n ih =>
      intro h
      have e : units (n + 1) = units n ++ [2 ^ n] := by unfold units; rw [List.range_succ, List.map_append]; rfl
      rw [e, sp_append]
      by_cases hx : x < 2 ^ n
      · exact ⟨x, 0, ih hx, sp_zero _, by simp⟩
      · refine ⟨x ^^^ 2 ^ n, 2 ^ n, ih ?_, sp_head _ _, by rw [xx]⟩
        refine Nat.lt_pow_two_of_testBit _ fun i hi => ?_
        rw [Nat.testBit_xor, Nat.testBit_two_pow]
        by_cases e : n = i
        · subst e
          have h2 : x / 2 ^ n = 1 := by
            rw [Nat.pow_succ] at h
            have : x / 2 ^ n < 2 := (Nat.div_lt_iff_lt_mul (Nat.two_pow_pos n)).mpr (by omega)
            have : 1 ≤ x / 2 ^ n := (Nat.le_div_iff_mul_le (Nat.two_pow_pos n)).mpr (by omega)
            omega
          rw [Nat.testBit_eq_decide_div_mod_eq, h2]
          simp
        · rw [Nat.testBit_lt_two_pow (Nat.lt_of_lt_of_le h (Nat.pow_le_pow_right (by decide) (by omega)))]
          simp [e]
theorem rk_all {n : Nat} {ws : List Nat} (hb : ∀ w ∈ ws, w < 2 ^ n) : rk ws = n ↔ ∀ x, x < 2 ^ n → Spn ws x := by
  have hc := ct_rk hb
  have hu : ∀ w ∈ units n, w < 2 ^ n := fun w hw => sp_units.mp (sp_mem hw)
  have hn : rk (units n) = n := two_pow_inj (by rw [← ct_rk hu]; exact ct_true fun x hx => sp_units.mpr hx)
  constructor
  · intro e x hx
    have := rk_eq_same (vs := ws) (ws := units n) (fun y hy => sp_units.mpr (sp_lt hb hy)) (by rw [e, hn]) x
    exact this.mpr (sp_units.mpr hx)
  · intro h
    rw [← hn]
    exact rk_same fun x => ⟨fun hx => sp_units.mpr (sp_lt hb hx), fun hx => h x (sp_units.mp hx)⟩
theorem rk_units (n : Nat) : rk (units n) = n := (rk_all fun _ hw => sp_units.mp (sp_mem hw)).mpr fun _ hx => sp_units.mpr hx
theorem rk_le {n : Nat} {ws : List Nat} (hb : ∀ w ∈ ws, w < 2 ^ n) : rk ws ≤ n := by
  have : rk ws ≤ rk (units n) := rk_mono fun x hx => sp_units.mpr (sp_lt hb hx)
  rwa [rk_units] at this
/-- a map: the words it sends to 0, counted -/
theorem ct_ker {N : Nat} {f : Nat → Nat} (hf : Lin f) : ∀ {ws : List Nat}, (∀ w ∈ ws, w < 2 ^ N) → Ct N (fun x => Spn ws x ∧ f x = 0) * 2 ^ rk (ws.map f) = 2 ^ rk ws
  | [], _ => by
    have : Ct N (fun x => Spn [] x ∧ f x = 0) = Ct N (Spn []) := ct_iff fun x => ⟨And.left, fun h => ⟨h, by rw [show x = 0 from h]; exact hf.zero⟩⟩
    rw [this, ct_nil]
    rfl
  | w :: ws, h => by
    have ih := ct_ker (N := N) hf (ws := ws) fun v hv => h v (List.mem_cons_of_mem _ hv)
    have hw := h w List.mem_cons_self
    by_cases hs : Spn ws w
    · have hs' : Spn (ws.map f) (f w) := (sp_map hf).mpr ⟨w, hs, rfl⟩
      rw [List.map_cons, rk_in hs, rk_in hs', ← ih]
      congr 1
      exact ct_iff fun x => by rw [sp_cons_in hs]
    · have e : Ct N (fun x => Spn (w :: ws) x ∧ f x = 0) = Ct N (fun x => Spn ws x ∧ f x = 0) + Ct N (fun x => Spn ws (x ^^^ w) ∧ f x = 0) := by
        rw [← ct_or]
        · refine ct_iff fun x => ?_
          rw [sp_cons]
          constructor
          · rintro ⟨a | a, b⟩
            · exact .inl ⟨a, b⟩
            · exact .inr ⟨a, b⟩
          · rintro (⟨a, b⟩ | ⟨a, b⟩)
            · exact ⟨.inl a, b⟩
            · exact ⟨.inr a, b⟩
        · rintro x ⟨a, _⟩ ⟨b, _⟩
          refine hs ?_
          have := sp_xor a b
          rwa [← Nat.xor_assoc, Nat.xor_self, Nat.zero_xor] at this
      rw [List.map_cons, rk_out hs, e]
      by_cases hs' : Spn (ws.map f) (f w)
      · obtain ⟨b, hb, eb⟩ := (sp_map hf).mp hs'
        rw [rk_in hs']
        have hb2 : b < 2 ^ N := sp_lt (fun v hv => h v (List.mem_cons_of_mem _ hv)) hb
        have e2 : Ct N (fun x => Spn ws (x ^^^ w) ∧ f x = 0) = Ct N (fun x => Spn ws x ∧ f x = 0) := by
          rw [← ct_shift (p := fun x => Spn ws x ∧ f x = 0) (Nat.xor_lt_two_pow hw hb2)]
          refine ct_iff fun x => ?_
          have e3 : f (x ^^^ (w ^^^ b)) = f x := by rw [hf, hf w b, eb, Nat.xor_self, Nat.xor_zero]
          rw [e3, ← Nat.xor_assoc]
          constructor
          · rintro ⟨a, c⟩
            exact ⟨sp_xor a hb, c⟩
          · rintro ⟨a, c⟩
            refine ⟨?_, c⟩
            have := sp_xor a hb
            rwa [xx] at this
        rw [e2, Nat.pow_succ, ← ih, Nat.add_mul]
        omega
      · rw [rk_out hs']
        have e2 : Ct N (fun x => Spn ws (x ^^^ w) ∧ f x = 0) = 0 := ct_false fun x => by
          rintro ⟨a, b⟩
          refine hs' ((sp_map hf).mpr ⟨x ^^^ w, a, ?_⟩)
          rw [hf, b, Nat.zero_xor]
        rw [e2, Nat.add_zero, Nat.pow_succ, Nat.pow_succ, ← Nat.mul_assoc, ih]
theorem rk_map_le {f : Nat → Nat} (hf : Lin f) (ws : List Nat) : rk (ws.map f) ≤ rk ws := by
  obtain ⟨N, h⟩ := bound ws
  have := ct_ker hf h
  refine two_pow_le ?_
  rw [← this]
  have h1 : 1 ≤ Ct N (fun x => Spn ws x ∧ f x = 0) := by
    rw [← ct_nil (N := N)]
    refine ct_mono fun x hx => ?_
    rw [show x = 0 from hx]
    exact ⟨sp_zero _, hf.zero⟩
  exact Nat.le_mul_of_pos_left _ h1
/-- one to one on a span: the rank stays -/
theorem rk_map_inj {f : Nat → Nat} (hf : Lin f) {ws : List Nat} : rk (ws.map f) = rk ws ↔ ∀ x, Spn ws x → f x = 0 → x = 0 := by
  obtain ⟨N, h⟩ := bound ws
  have hk := ct_ker hf h
  constructor
  · intro e x hx h0
    by_cases q : x = 0
    · exact q
    · exfalso
      rw [e] at hk
      have h1 : Ct N (fun x => Spn ws x ∧ f x = 0) = 1 := Nat.eq_of_mul_eq_mul_right (Nat.two_pow_pos (rk ws)) (by rw [hk, Nat.one_mul])
      have h2 : Ct N (Spn [x]) ≤ Ct N (fun x => Spn ws x ∧ f x = 0) := ct_mono fun y hy => by
        rcases hy with hy | hy
        · rw [show y = 0 from hy]; exact ⟨sp_zero _, hf.zero⟩
        · have : y = x := xor_eq_zero_iff.mp hy
          rw [this]; exact ⟨hx, h0⟩
      rw [ct_cons_out (ws := []) (sp_lt h hx) (show ¬ Spn [] x from q), ct_nil] at h2
      omega
  · intro hi
    have h1 : Ct N (fun x => Spn ws x ∧ f x = 0) = 1 := by
      rw [← ct_nil (N := N)]
      refine ct_iff fun x => ⟨fun ⟨a, b⟩ => hi x a b, fun hx => ?_⟩
      rw [show x = 0 from hx]
      exact ⟨sp_zero _, hf.zero⟩
    rw [h1, Nat.one_mul] at hk
    exact two_pow_inj hk
/-- the kernel and the rank together -/
theorem rk_ker {f : Nat → Nat} (hf : Lin f) {m : Nat} {ks : List Nat} (hk : ∀ x, Spn ks x ↔ x < 2 ^ m ∧ f x = 0) : rk ks + rk ((units m).map f) = m := by
  have hu : ∀ w ∈ units m, w < 2 ^ m := fun w hw => sp_units.mp (sp_mem hw)
  have h := ct_ker hf hu
  have hb : ∀ w ∈ ks, w < 2 ^ m := fun w hw => ((hk w).mp (sp_mem hw)).1
  have e : Ct m (fun x => Spn (units m) x ∧ f x = 0) = Ct m (Spn ks) := ct_iff fun x => by rw [sp_units, hk]
  rw [e, ct_rk hb, rk_units, ← Nat.pow_add] at h
  exact two_pow_inj h
/-- spans that share only 0 -/
theorem rk_append {A : List Nat} : ∀ {B : List Nat}, (∀ x, Spn A x → Spn B x → x = 0) → rk (B ++ A) = rk B + rk A
  | [], _ => by show rk A = 0 + rk A; omega
  | w :: B, h => by
    have ih := rk_append (A := A) (B := B) fun x ha hb => h x ha (.inl hb)
    have hw : Spn (B ++ A) w ↔ Spn B w := by
      constructor
      · intro hs
        obtain ⟨b, a, hb, ha, e⟩ := sp_append.mp hs
        have e2 : a = b ^^^ w := by rw [e, ← Nat.xor_assoc, Nat.xor_self, Nat.zero_xor]
        have ha0 : a = 0 := h a ha (.inr (by rw [e2, xx]; exact hb))
        rw [e, ha0, Nat.xor_zero]
        exact hb
      · exact fun hs => sp_append.mpr ⟨w, 0, hs, sp_zero _, by simp⟩
    by_cases hs : Spn B w
    · rw [List.cons_append, rk_in hs, rk_in (hw.mpr hs), ih]
    · rw [List.cons_append, rk_out hs, rk_out (fun z => hs (hw.mp z)), ih]
      omega
end L2.Lk
/-! MathC -/
set_option autoImplicit false
namespace L2.Lk
/-! ### the lowest bit, the highest bit -/
def top (r : Nat) : Nat := Nat.log2 r
def tz (r : Nat) : Nat := if h : r = 0 then 0 else if r % 2 = 1 then 0 else tz (r / 2) + 1
termination_by r
decreasing_by omega
theorem tz_odd {r : Nat} (h : r % 2 = 1) : tz r = 0 := by
  rw [tz]
  by_cases h0 : r = 0
  · rw [dif_pos h0]
  · rw [dif_neg h0, if_pos h]
theorem tz_even {r : Nat} (h0 : r ≠ 0) (h : r % 2 = 0) : tz r = tz (r / 2) + 1 := by
  rw [tz, dif_neg h0, if_neg (by omega)]
theorem tz_bit : ∀ {r : Nat}, r ≠ 0 → r.testBit (tz r) = true := by
  intro r
  induction r using Nat.strongRecOn with
  | _ r ih =>
    intro h0
    by_cases h : r % 2 = 1
    · rw [tz_odd h, Nat.testBit_zero]
      simp [h]
    · rw [tz_even h0 (by omega), Nat.testBit_succ]
      exact ih (r / 2) (by omega) (by omega)
/-- r & -r, as Python's ints have it -/
theorem low_eq : ∀ {r : Nat}, r ≠ 0 → r - (r &&& (r - 1)) = 2 ^ tz r ∧ (r &&& (r - 1)) ≤ r := by
  intro r
  induction r using Nat.strongRecOn with
  | _ r ih =>
    intro h0
    have hd : (r &&& (r - 1)) / 2 = r / 2 &&& (r - 1) / 2 := Nat.and_div_two
    have hm : (r &&& (r - 1)) % 2 = 0 := by
      rcases Nat.mod_two_eq_zero_or_one (r &&& (r - 1)) with e | e
      · exact e
      · have := Nat.and_mod_two_eq_one.mp e
        omega
    by_cases h : r % 2 = 1
    · have e1 : (r - 1) / 2 = r / 2 := by omega
      rw [e1, Nat.and_self] at hd
      rw [tz_odd h]
      omega
    · have e1 : (r - 1) / 2 = r / 2 - 1 := by omega
      rw [e1] at hd
      obtain ⟨i1, i2⟩ := ih (r / 2) (by omega) (by omega)
      rw [tz_even h0 (by omega), Nat.pow_succ]
      omega
theorem and_pow_ne {w k : Nat} : (w &&& 2 ^ k ≠ 0) ↔ w.testBit k = true := by
  constructor
  · intro h
    cases q : w.testBit k with
    | true => rfl
    | false =>
      refine absurd (Nat.eq_of_testBit_eq fun i => ?_) h
      rw [Nat.testBit_and, Nat.testBit_two_pow, Nat.zero_testBit]
      by_cases e : k = i
      · subst e; rw [q]; rfl
      · simp [e]
  · intro h e
    have := congrArg (fun z => z.testBit k) e
    simp only [Nat.testBit_and, Nat.testBit_two_pow_self, h, Nat.zero_testBit] at this
    cases this
theorem lt_by_top {s x : Nat} (q : s ^^^ x ≠ 0) (h : s.testBit (top (s ^^^ x)) = false) : s < x := by
  have h3 : (s ^^^ x).testBit (top (s ^^^ x)) = true := Nat.testBit_log2 q
  generalize e : top (s ^^^ x) = t at *
  rw [Nat.testBit_xor, h] at h3
  have h3 : x.testBit t = true := by simpa using h3
  rw [Nat.testBit_eq_decide_div_mod_eq] at h h3
  have h1 : s / 2 ^ t % 2 ≠ 1 := by simpa using h
  have h2 : x / 2 ^ t % 2 = 1 := by simpa using h3
  have h4 : s / 2 ^ (t + 1) = x / 2 ^ (t + 1) := by
    have : (s ^^^ x) / 2 ^ (t + 1) = 0 := Nat.div_eq_of_lt (by rw [← e]; exact Nat.lt_log2_self)
    rw [Nat.xor_div_two_pow] at this
    exact xor_eq_zero_iff.mp this
  rw [Nat.pow_succ, ← Nat.div_div_eq_div_mul, ← Nat.div_div_eq_div_mul] at h4
  have h5 : s / 2 ^ t < x / 2 ^ t := by omega
  rcases Nat.lt_or_ge s x with z | z
  · exact z
  · have := Nat.div_le_div_right (c := 2 ^ t) z
    omega
/-! ### one row taken off -/
/-- xor with r where the bit t is 1 -/
def off (t r x : Nat) : Nat := if x.testBit t then x ^^^ r else x
theorem off_lin (t r : Nat) : Lin (off t r) := by
  intro x y
  unfold off
  rw [Nat.testBit_xor]
  cases x.testBit t <;> cases y.testBit t <;> simp
  · rw [← Nat.xor_assoc]
  · rw [xor_r]
  · rw [← Nat.xor_assoc, xor_r x r y, xx]
/-- rows taken off one behind the other; a row's bit is told by g -/
def offs (g : Nat → Nat) : List Nat → Nat → Nat
  | [], x => x
  | r :: rs, x => offs g rs (off (g r) r x)
theorem offs_lin (g : Nat → Nat) : ∀ rs, Lin (offs g rs)
  | [], _, _ => rfl
  | r :: rs, x, y => by
    show offs g rs (off (g r) r (x ^^^ y)) = _
    rw [off_lin, offs_lin g rs]
    rfl
theorem offs_append (g : Nat → Nat) : ∀ {as bs : List Nat} {x : Nat}, offs g (as ++ bs) x = offs g bs (offs g as x)
  | [], _, _ => rfl
  | a :: as, bs, x => by
    show offs g (as ++ bs) (off (g a) a x) = _
    rw [offs_append g]
    rfl
theorem offs_foldl (g : Nat → Nat) : ∀ {rs : List Nat} {x : Nat}, offs g rs x = rs.foldl (fun x r => off (g r) r x) x
  | [], _ => rfl
  | r :: rs, x => offs_foldl g (rs := rs) (x := off (g r) r x)
/-- what is taken off lies in the span -/
theorem offs_sp (g : Nat → Nat) : ∀ (rs : List Nat) (x : Nat), Spn rs (x ^^^ offs g rs x)
  | [], x => Nat.xor_self x
  | r :: rs, x => by
    have ih := offs_sp g rs (off (g r) r x)
    show Spn (r :: rs) (x ^^^ offs g rs (off (g r) r x))
    cases h : x.testBit (g r) with
    | false =>
      have e : off (g r) r x = x := by unfold off; rw [h]; rfl
      rw [e] at ih ⊢
      exact .inl ih
    | true =>
      have e : off (g r) r x = x ^^^ r := by unfold off; rw [h]; rfl
      rw [e] at ih ⊢
      refine .inr ?_
      rwa [xor_r]
theorem offs_same {g : Nat → Nat} {rs : List Nat} {x : Nat} (h : ∀ r ∈ rs, x.testBit (g r) = false) : offs g rs x = x := by
  induction rs with
  | nil => rfl
  | cons r rs ih =>
    show offs g rs (off (g r) r x) = x
    have e : off (g r) r x = x := by unfold off; rw [h r List.mem_cons_self]; rfl
    rw [e]
    exact ih fun s hs => h s (List.mem_cons_of_mem _ hs)
/-- each row's bit is 0 in the rows behind it, and 1 in it -/
def Ech (g : Nat → Nat) (rs : List Nat) : Prop := rs.Pairwise (fun a b => b.testBit (g a) = false) ∧ ∀ r ∈ rs, r.testBit (g r) = true
theorem Ech.tail {g : Nat → Nat} {r : Nat} {rs : List Nat} (h : Ech g (r :: rs)) : Ech g rs := ⟨(List.pairwise_cons.mp h.1).2, fun s hs => h.2 s (List.mem_cons_of_mem _ hs)⟩
/-- behind it the bits are 0 -/
theorem offs_bits {g : Nat → Nat} : ∀ {rs : List Nat} {x : Nat}, Ech g rs → ∀ r ∈ rs, (offs g rs x).testBit (g r) = false
  | r :: rs, x, h, s, hs => by
    show (offs g rs (off (g r) r x)).testBit (g s) = false
    rcases List.mem_cons.mp hs with e | hs
    · subst e
      have h0 : (off (g s) s x).testBit (g s) = false := by
        unfold off
        cases q : x.testBit (g s) with
        | false => simpa using q
        | true =>
          have := h.2 s List.mem_cons_self
          simp [Nat.testBit_xor, q, this]
      have hr : ∀ y, y.testBit (g s) = false → ∀ {ts : List Nat}, (∀ b ∈ ts, b.testBit (g s) = false) → (offs g ts y).testBit (g s) = false := by
        intro y hy ts
        induction ts generalizing y with
        | nil => intro _; exact hy
        | cons t ts ih =>
          intro ht
          refine ih _ ?_ fun b hb => ht b (List.mem_cons_of_mem _ hb)
          unfold off
          split
          · rw [Nat.testBit_xor, hy, ht t List.mem_cons_self]; rfl
          · exact hy
      exact hr _ h0 (List.pairwise_cons.mp h.1).1
    · exact offs_bits h.tail s hs
/-- a word of the span is taken off whole -/
theorem offs_zero {g : Nat → Nat} {rs : List Nat} (h : Ech g rs) {x : Nat} (hx : Spn rs x) : offs g rs x = 0 := by
  have hz : offs g rs 0 = 0 := (offs_lin g rs).zero
  refine sp_ind (P := fun x => offs g rs x = 0) hz (fun x y a b => by rw [offs_lin g rs, a, b, Nat.xor_self]) (fun r hr => ?_) hx
  obtain ⟨as, bs, e⟩ := List.append_of_mem hr
  subst e
  rw [offs_append]
  have h1 : offs g as r = r := offs_same fun a ha => (List.pairwise_append.mp h.1).2.2 a ha r List.mem_cons_self
  rw [h1]
  show offs g bs (off (g r) r r) = 0
  have e : off (g r) r r = 0 := by unfold off; rw [h.2 r hr]; exact Nat.xor_self r
  rw [e]
  exact (offs_lin g bs).zero
theorem offs_iff {g : Nat → Nat} {rs : List Nat} (h : Ech g rs) {x : Nat} : Spn rs x ↔ offs g rs x = 0 := by
  refine ⟨offs_zero h, fun e => ?_⟩
  have := offs_sp g rs x
  rwa [e, Nat.xor_zero] at this
/-- words that differ by the span have one rest -/
theorem offs_coset {g : Nat → Nat} {rs : List Nat} (h : Ech g rs) {x y : Nat} (hx : Spn rs (x ^^^ y)) : offs g rs x = offs g rs y := by
  have := offs_zero h hx
  rw [offs_lin g rs] at this
  exact xor_eq_zero_iff.mp this
theorem offs_idem {g : Nat → Nat} {rs : List Nat} (h : Ech g rs) (x : Nat) : offs g rs (offs g rs x) = offs g rs x := offs_same (offs_bits h)
theorem ech_snoc {g : Nat → Nat} {rs : List Nat} {w : Nat} (h : Ech g rs) (h1 : ∀ r ∈ rs, w.testBit (g r) = false) (h2 : w.testBit (g w) = true) : Ech g (rs ++ [w]) := by
  refine ⟨List.pairwise_append.mpr ⟨h.1, List.pairwise_singleton _ _, fun a ha b hb => ?_⟩, fun r hr => ?_⟩
  · rw [List.mem_singleton.mp hb]; exact h1 a ha
  · rcases List.mem_append.mp hr with hr | hr
    · exact h.2 r hr
    · rw [List.mem_singleton.mp hr]; exact h2
/-- such rows are independent -/
theorem ech_rk {g : Nat → Nat} : ∀ {rs : List Nat}, Ech g rs → rk rs = rs.length
  | [], _ => rfl
  | r :: rs, h => by
    have hn : ¬ Spn rs r := fun hs => by
      have h1 : r.testBit (g r) = false := sp_ind (P := fun x => x.testBit (g r) = false) (Nat.zero_testBit _) (fun x y a b => by rw [Nat.testBit_xor, a, b]; rfl) (List.pairwise_cons.mp h.1).1 hs
      rw [h.2 r List.mem_cons_self] at h1
      cases h1
    rw [rk_out hn, ech_rk h.tail, List.length_cons]
/-! ### the law's basis -/
def lleft (rows : List Nat) (w : Nat) : Nat := offs tz rows w
def lbasis (ws : List Nat) : List Nat := ws.foldl (fun rows w => if lleft rows w = 0 then rows else rows ++ [lleft rows w]) []
def lsize (ws : List Nat) : Nat := (lbasis ws).length
theorem lbasis_inv : ∀ {ws rows : List Nat}, Ech tz rows → Ech tz (ws.foldl (fun rows w => if lleft rows w = 0 then rows else rows ++ [lleft rows w]) rows) ∧
    ∀ x, Spn (ws.foldl (fun rows w => if lleft rows w = 0 then rows else rows ++ [lleft rows w]) rows) x ↔ Spn (rows ++ ws) x
  | [], rows, h => ⟨h, fun x => by rw [List.append_nil]; exact Iff.rfl⟩
  | w :: ws, rows, h => by
    rw [List.foldl_cons]
    have hl := offs_sp tz rows w
    by_cases e : lleft rows w = 0
    · rw [if_pos e]
      obtain ⟨h1, h2⟩ := lbasis_inv (ws := ws) h
      refine ⟨h1, fun x => (h2 x).trans ?_⟩
      have hw : Spn rows w := (offs_iff h).mpr e
      constructor
      · refine sp_sub fun v hv => ?_
        rcases List.mem_append.mp hv with hv | hv
        · exact List.mem_append_left _ hv
        · exact List.mem_append_right _ (List.mem_cons_of_mem _ hv)
      · refine sp_mono fun v hv => ?_
        rcases List.mem_append.mp hv with hv | hv
        · exact sp_mem (List.mem_append_left _ hv)
        · rcases List.mem_cons.mp hv with rfl | hv
          · exact sp_sub (fun u hu => List.mem_append_left _ hu) hw
          · exact sp_mem (List.mem_append_right _ hv)
    · rw [if_neg e]
      have h' : Ech tz (rows ++ [lleft rows w]) := ech_snoc h (offs_bits h) (tz_bit e)
      obtain ⟨h1, h2⟩ := lbasis_inv (ws := ws) h'
      refine ⟨h1, fun x => (h2 x).trans ?_⟩
      have a1 : Spn (rows ++ w :: ws) (lleft rows w) := by
        have s1 : Spn (rows ++ w :: ws) (w ^^^ lleft rows w) := sp_sub (fun u hu => List.mem_append_left _ hu) hl
        have s2 : Spn (rows ++ w :: ws) w := sp_mem (List.mem_append_right _ List.mem_cons_self)
        have := sp_xor s1 s2
        rwa [Nat.xor_comm w (lleft rows w), xx] at this
      have a2 : Spn (rows ++ [lleft rows w] ++ ws) w := by
        have s1 : Spn (rows ++ [lleft rows w] ++ ws) (w ^^^ lleft rows w) := sp_sub (fun u hu => List.mem_append_left _ (List.mem_append_left _ hu)) hl
        have s2 : Spn (rows ++ [lleft rows w] ++ ws) (lleft rows w) := sp_mem (List.mem_append_left _ (List.mem_append_right _ List.mem_cons_self))
        have := sp_xor s1 s2
        rwa [xx] at this
      constructor
      · refine sp_mono fun v hv => ?_
        rcases List.mem_append.mp hv with hv | hv
        · rcases List.mem_append.mp hv with hv | hv
          · exact sp_mem (List.mem_append_left _ hv)
          · rw [List.mem_singleton.mp hv]; exact a1
        · exact sp_mem (List.mem_append_right _ (List.mem_cons_of_mem _ hv))
      · refine sp_mono fun v hv => ?_
        rcases List.mem_append.mp hv with hv | hv
        · exact sp_mem (List.mem_append_left _ (List.mem_append_left _ hv))
        · rcases List.mem_cons.mp hv with rfl | hv
          · exact a2
          · exact sp_mem (List.mem_append_right _ hv)
theorem ech_nil {g : Nat → Nat} : Ech g [] := ⟨List.Pairwise.nil, fun r hr => by cases hr⟩
theorem lbasis_ech (ws : List Nat) : Ech tz (lbasis ws) := (lbasis_inv (ws := ws) ech_nil).1
theorem lbasis_sp (ws : List Nat) (x : Nat) : Spn (lbasis ws) x ↔ Spn ws x := (lbasis_inv (ws := ws) ech_nil).2 x
theorem lsize_rk (ws : List Nat) : lsize ws = rk ws := by
  unfold lsize
  rw [← ech_rk (lbasis_ech ws)]
  exact rk_same (lbasis_sp ws)
/-! ### the program's rows -/
structure Red (rows : List Nat) : Prop where
  asc : rows.Pairwise (· < ·)
  pos : ∀ r ∈ rows, r ≠ 0
  one : ∀ r ∈ rows, ∀ s ∈ rows, s ≠ r → s.testBit (top r) = false
theorem top_bit {r : Nat} (h : r ≠ 0) : r.testBit (top r) = true := Nat.testBit_log2 h
theorem lt_top {r : Nat} : r < 2 ^ (top r + 1) := Nat.lt_log2_self
theorem top_le {r : Nat} (h : r ≠ 0) : 2 ^ top r ≤ r := Nat.log2_self_le h
theorem top_lt {r n : Nat} (h0 : r ≠ 0) (h : r < 2 ^ n) : top r < n := (Nat.log2_lt h0).mpr h
theorem above_top {r i : Nat} (h : top r < i) : r.testBit i = false := Nat.testBit_lt_two_pow (Nat.lt_of_lt_of_le lt_top (Nat.pow_le_pow_right (by decide) h))
theorem Red.ech {rows : List Nat} (h : Red rows) : Ech top rows := by
  refine ⟨?_, fun r hr => top_bit (h.pos r hr)⟩
  refine List.Pairwise.imp_of_mem (R := (· < ·)) (fun {a b} ha hb hab => h.one a ha b hb (Nat.ne_of_gt hab)) h.asc
def clr (rows : List Nat) (w : Nat) : Nat := offs top rows w
theorem red_nil : Red [] := ⟨List.Pairwise.nil, (fun r hr => by cases hr), (fun r hr => by cases hr)⟩
theorem Red.nodup {rows : List Nat} (h : Red rows) : rows.Nodup := h.asc.imp fun hab => Nat.ne_of_lt hab
/-- the rows below 2^m span what the span has below 2^m -/
theorem red_filter {rows : List Nat} (h : Red rows) (m : Nat) : Red (rows.filter fun r => decide (r < 2 ^ m)) ∧ ∀ x, Spn (rows.filter fun r => decide (r < 2 ^ m)) x ↔ Spn rows x ∧ x < 2 ^ m := by
  have hm : ∀ r, r ∈ rows.filter (fun r => decide (r < 2 ^ m)) → r ∈ rows ∧ r < 2 ^ m := fun r hr => by simpa using hr
  have hR : Red (rows.filter fun r => decide (r < 2 ^ m)) := ⟨h.asc.filter _, fun r hr => h.pos r (hm r hr).1, fun r hr s hs e => h.one r (hm r hr).1 s (hm s hs).1 e⟩
  refine ⟨hR, fun x => ⟨fun hx => ⟨sp_sub (fun w hw => (hm w hw).1) hx, sp_lt (fun w hw => (hm w hw).2) hx⟩, fun ⟨hx, hl⟩ => ?_⟩⟩
  have key : ∀ {rs : List Nat} {y : Nat}, (∀ r ∈ rs, r ≠ 0) → y < 2 ^ m → offs top rs y = offs top (rs.filter fun r => decide (r < 2 ^ m)) y := by
    intro rs
    induction rs with
    | nil => intro y _ _; rfl
    | cons r rs ih =>
      intro y hp hy
      by_cases hr : r < 2 ^ m
      · rw [List.filter_cons_of_pos (by simpa using hr)]
        refine ih (fun s hs => hp s (List.mem_cons_of_mem _ hs)) ?_
        unfold off
        split
        · exact Nat.xor_lt_two_pow hy hr
        · exact hy
      · rw [List.filter_cons_of_neg (by simpa using hr)]
        show offs top rs (off (top r) r y) = _
        have e : off (top r) r y = y := by
          unfold off
          have h1 : m ≤ top r := by
            rcases Nat.lt_or_ge (top r) m with q | q
            · exact absurd (Nat.lt_of_lt_of_le lt_top (Nat.pow_le_pow_right (by decide) q)) hr
            · exact q
          rw [Nat.testBit_lt_two_pow (Nat.lt_of_lt_of_le hy (Nat.pow_le_pow_right (by decide) h1))]
          rfl
        rw [e]
        exact ih (fun s hs => hp s (List.mem_cons_of_mem _ hs)) hy
  refine (offs_iff hR.ech).mpr ?_
  rw [← key h.pos hl]
  exact offs_zero h.ech hx
/-- each top in the span is a row's -/
theorem red_top {rows : List Nat} (h : Red rows) {x : Nat} (hx : Spn rows x) (h0 : x ≠ 0) : ∃ r ∈ rows, top r = top x := by
  by_cases q : ∃ r ∈ rows, top r = top x
  · exact q
  · exfalso
    have hf := ((red_filter h (top x + 1)).2 x).mpr ⟨hx, lt_top⟩
    have hl : x < 2 ^ top x := sp_lt (fun w hw => by
      have hw' : w ∈ rows ∧ w < 2 ^ (top x + 1) := by simpa using hw
      have h1 : top w < top x + 1 := top_lt (h.pos w hw'.1) hw'.2
      have h2 : top w ≠ top x := fun e => q ⟨w, hw'.1, e⟩
      exact Nat.lt_of_lt_of_le lt_top (Nat.pow_le_pow_right (by decide) (by omega))) hf
    exact absurd (top_le h0) (Nat.not_le_of_lt hl)
theorem xor_top {a b : Nat} (h : top a = top b) (ha : a ≠ 0) (hb : b ≠ 0) : a ^^^ b < 2 ^ top a := by
  refine Nat.lt_pow_two_of_testBit _ fun i hi => ?_
  rw [Nat.testBit_xor]
  by_cases e : i = top a
  · subst e
    rw [top_bit ha, h, top_bit hb]
    rfl
  · rw [above_top (r := a) (by omega), above_top (r := b) (by omega)]
    rfl
theorem red_sub {A B : List Nat} (ha : Red A) (hb : Red B) (h : ∀ x, Spn A x ↔ Spn B x) {r : Nat} (hr : r ∈ A) : r ∈ B := by
  have r0 := ha.pos r hr
  obtain ⟨s, hs, e⟩ := red_top hb ((h r).mp (sp_mem hr)) r0
  have s0 := hb.pos s hs
  by_cases q : r ^^^ s = 0
  · rw [xor_eq_zero_iff.mp q]; exact hs
  · exfalso
    have hx : Spn A (r ^^^ s) := sp_xor (sp_mem hr) ((h s).mpr (sp_mem hs))
    have hlt : r ^^^ s < 2 ^ top r := xor_top e.symm r0 s0
    have ht : top (r ^^^ s) < top r := top_lt q hlt
    obtain ⟨a, haA, ea⟩ := red_top ha hx q
    obtain ⟨b, hbB, eb⟩ := red_top hb ((h _).mp hx) q
    have h1 : r.testBit (top (r ^^^ s)) = false := by
      rw [← ea]
      exact ha.one a haA r hr (fun z => by have := congrArg top z; omega)
    have h2 : s.testBit (top (r ^^^ s)) = false := by
      rw [← eb]
      exact hb.one b hbB s hs (fun z => by have := congrArg top z; omega)
    have h3 := top_bit q
    rw [Nat.testBit_xor, h1, h2] at h3
    cases h3
theorem asc_ext : ∀ {A B : List Nat}, A.Pairwise (· < ·) → B.Pairwise (· < ·) → (∀ x, x ∈ A ↔ x ∈ B) → A = B
  | [], [], _, _, _ => rfl
  | [], b :: B, _, _, h => absurd ((h b).mpr List.mem_cons_self) (by simp)
  | a :: A, [], _, _, h => absurd ((h a).mp List.mem_cons_self) (by simp)
  | a :: A, b :: B, ha, hb, h => by
    have ha' := List.pairwise_cons.mp ha
    have hb' := List.pairwise_cons.mp hb
    have e : a = b := by
      rcases List.mem_cons.mp ((h a).mp List.mem_cons_self) with q | q
      · exact q
      · rcases List.mem_cons.mp ((h b).mpr List.mem_cons_self) with q2 | q2
        · exact q2.symm
        · have := hb'.1 a q
          have := ha'.1 b q2
          omega
    subst e
    rw [asc_ext ha'.2 hb'.2 fun x => ?_]
    constructor
    · intro hx
      rcases List.mem_cons.mp ((h x).mp (List.mem_cons_of_mem _ hx)) with q | q
      · have := ha'.1 x hx
        omega
      · exact q
    · intro hx
      rcases List.mem_cons.mp ((h x).mpr (List.mem_cons_of_mem _ hx)) with q | q
      · have := hb'.1 x hx
        omega
      · exact q
/-- a span has one list of rows -/
theorem red_unique {A B : List Nat} (ha : Red A) (hb : Red B) (h : ∀ x, Spn A x ↔ Spn B x) : A = B :=
  asc_ext ha.asc hb.asc fun x => ⟨red_sub ha hb h, red_sub hb ha fun x => (h x).symm⟩
/-- the first row is the least word but 0 -/
theorem red_least {r : Nat} {rows : List Nat} (h : Red (r :: rows)) {x : Nat} (hx : Spn (r :: rows) x) (h0 : x ≠ 0) : r ≤ x := by
  obtain ⟨s, hs, e⟩ := red_top h hx h0
  have s0 := h.pos s hs
  have hrs : r ≤ s := by
    rcases List.mem_cons.mp hs with q | q
    · rw [q]; exact Nat.le_refl _
    · exact Nat.le_of_lt ((List.pairwise_cons.mp h.asc).1 s q)
  refine Nat.le_trans hrs ?_
  by_cases q : s ^^^ x = 0
  · rw [xor_eq_zero_iff.mp q]; exact Nat.le_refl _
  · have hy : Spn (r :: rows) (s ^^^ x) := sp_xor (sp_mem hs) hx
    have hlt : s ^^^ x < 2 ^ top s := xor_top e s0 h0
    have ht : top (s ^^^ x) < top s := top_lt q hlt
    obtain ⟨a, ha, ea⟩ := red_top h hy q
    have h1 : s.testBit (top (s ^^^ x)) = false := by
      rw [← ea]
      exact h.one a ha s hs (fun z => by have := congrArg top z; omega)
    exact Nat.le_of_lt (lt_by_top q h1)
/-- rows of the span of ws -/
def RowsOf (ws rows : List Nat) : Prop := Red rows ∧ ∀ x, Spn rows x ↔ Spn ws x
theorem RowsOf.len {ws rows : List Nat} (h : RowsOf ws rows) : rows.length = rk ws := by
  rw [← ech_rk h.1.ech]
  exact rk_same h.2
theorem RowsOf.lt {ws rows : List Nat} {n : Nat} (h : RowsOf ws rows) (hb : ∀ w ∈ ws, w < 2 ^ n) : ∀ r ∈ rows, r < 2 ^ n := fun r hr => sp_lt hb ((h.2 r).mp (sp_mem hr))
theorem RowsOf.len_le {ws rows : List Nat} {n : Nat} (h : RowsOf ws rows) (hb : ∀ w ∈ ws, w < 2 ^ n) : rows.length ≤ n := by rw [h.len]; exact rk_le hb
end L2.Lk
/-! MathD -/
set_option autoImplicit false
namespace L2.Lk
/-! ### a row more -/
theorem clr_sp (rows : List Nat) (w : Nat) : Spn rows (w ^^^ clr rows w) := offs_sp top rows w
theorem grown_zero {rows : List Nat} {w : Nat} (h : Red rows) (e : clr rows w = 0) : RowsOf (w :: rows) rows :=
  ⟨h, fun x => (sp_cons_in ((offs_iff h.ech).mpr e) x).symm⟩
theorem grown_red {rows ns : List Nat} {w : Nat} (h : Red rows) (e : clr rows w ≠ 0)
    (hp : ns.Perm (rows.map (fun row => if row.testBit (top (clr rows w)) then row ^^^ clr rows w else row) ++ [clr rows w])) (hs : ns.Pairwise (· ≤ ·)) : RowsOf (w :: rows) ns := by
  have hl : ∀ r ∈ rows, (clr rows w).testBit (top r) = false := offs_bits h.ech
  generalize ec : clr rows w = c at *
  have hsp : Spn rows (w ^^^ c) := by rw [← ec]; exact clr_sp rows w
  let f : Nat → Nat := fun row => if row.testBit (top c) then row ^^^ c else row
  -- the changed rows
  have hne : ∀ r ∈ rows, top r ≠ top c := fun r hr z => by
    have := hl r hr
    rw [z, top_bit e] at this
    cases this
  have hf : ∀ r ∈ rows, f r ≠ 0 ∧ top (f r) = top r ∧ (f r).testBit (top c) = false ∧ ∀ s ∈ rows, s ≠ r → (f r).testBit (top s) = false := fun r hr => by
    have r0 := h.pos r hr
    cases q : r.testBit (top c) with
    | false =>
      have ef : f r = r := by show (if r.testBit (top c) then _ else _) = _; rw [q]; rfl
      rw [ef]
      exact ⟨r0, rfl, q, fun s hs hsr => h.one s hs r hr (Ne.symm hsr)⟩
    | true =>
      have ef : f r = r ^^^ c := by show (if r.testBit (top c) then _ else _) = _; rw [q]; rfl
      rw [ef]
      have hlt : top c < top r := by
        rcases Nat.lt_trichotomy (top c) (top r) with z | z | z
        · exact z
        · exact absurd z.symm (hne r hr)
        · rw [above_top z] at q; cases q
      have hb : (r ^^^ c).testBit (top r) = true := by rw [Nat.testBit_xor, top_bit r0, hl r hr]; rfl
      have h0 : r ^^^ c ≠ 0 := fun z => by rw [z, Nat.zero_testBit] at hb; cases hb
      have hub : r ^^^ c < 2 ^ (top r + 1) := Nat.xor_lt_two_pow lt_top (Nat.lt_of_lt_of_le lt_top (Nat.pow_le_pow_right (by decide) (by omega)))
      have ht : top (r ^^^ c) = top r := by
        have h1 : top (r ^^^ c) < top r + 1 := top_lt h0 hub
        have h2 : ¬ top (r ^^^ c) < top r := fun z => by rw [above_top z] at hb; cases hb
        omega
      refine ⟨h0, ht, by rw [Nat.testBit_xor, q, top_bit e]; rfl, fun s hs hsr => ?_⟩
      rw [Nat.testBit_xor, h.one s hs r hr (Ne.symm hsr), hl s hs]
      rfl
  have hm : ∀ x, x ∈ ns ↔ (∃ r ∈ rows, x = f r) ∨ x = c := fun x => by
    rw [hp.mem_iff, List.mem_append, List.mem_map, List.mem_singleton]
    constructor
    · rintro (⟨r, hr, rfl⟩ | rfl)
      · exact .inl ⟨r, hr, rfl⟩
      · exact .inr rfl
    · rintro (⟨r, hr, rfl⟩ | rfl)
      · exact .inl ⟨r, hr, rfl⟩
      · exact .inr rfl
  have hinj : ∀ r ∈ rows, ∀ s ∈ rows, f r = f s → r = s := fun r hr s hs z => by
    by_cases q : r = s
    · exact q
    · have h1 := top_bit (hf r hr).1
      rw [(hf r hr).2.1, z, (hf s hs).2.2.2 r hr q] at h1
      cases h1
  have hnd : ns.Nodup := by
    rw [hp.nodup_iff, List.nodup_append]
    refine ⟨?_, List.nodup_cons.mpr ⟨by simp, List.nodup_nil⟩, ?_⟩
    · have : ∀ {l : List Nat}, l.Nodup → (∀ r ∈ l, r ∈ rows) → (l.map f).Nodup := by
        intro l
        induction l with
        | nil => intro _ _; exact List.nodup_nil
        | cons a l ih =>
          intro hn hl
          rw [List.map_cons, List.nodup_cons]
          refine ⟨fun hm => ?_, ih (List.nodup_cons.mp hn).2 fun r hr => hl r (List.mem_cons_of_mem _ hr)⟩
          obtain ⟨b, hb, eb⟩ := List.mem_map.mp hm
          have := hinj b (hl b (List.mem_cons_of_mem _ hb)) a (hl a List.mem_cons_self) eb
          exact (List.nodup_cons.mp hn).1 (this ▸ hb)
      exact this h.nodup fun r hr => hr
    · intro a ha b hb
      rw [List.mem_singleton.mp hb]
      obtain ⟨r, hr, er⟩ := List.mem_map.mp ha
      intro z
      have h1 := (hf r hr).2.2.1
      rw [show f r = c from er.trans z, top_bit e] at h1
      cases h1
  have hRed : Red ns := by
    refine ⟨?_, fun x hx => ?_, fun x hx y hy hxy => ?_⟩
    · exact List.Pairwise.imp (fun ⟨h1, h2⟩ => Nat.lt_of_le_of_ne h1 h2) (List.Pairwise.and hs hnd)
    · rcases (hm x).mp hx with ⟨r, hr, rfl⟩ | rfl
      · exact (hf r hr).1
      · exact e
    · rcases (hm x).mp hx with ⟨r, hr, rfl⟩ | rfl
      · rw [(hf r hr).2.1]
        rcases (hm y).mp hy with ⟨s, hs', rfl⟩ | rfl
        · exact (hf s hs').2.2.2 r hr (fun z => hxy (by rw [z]))
        · exact hl r hr
      · rcases (hm y).mp hy with ⟨s, hs', rfl⟩ | rfl
        · exact (hf s hs').2.2.1
        · exact absurd rfl hxy
  refine ⟨hRed, fun x => ⟨sp_mono fun y hy => ?_, sp_mono fun y hy => ?_⟩⟩
  · have hc : Spn (w :: rows) c := by
      have := sp_xor (ws := w :: rows) (.inl hsp) (sp_head w rows)
      rwa [Nat.xor_comm w c, xx] at this
    rcases (hm y).mp hy with ⟨r, hr, rfl⟩ | rfl
    · show Spn _ (if r.testBit (top c) then r ^^^ c else r)
      split
      · exact sp_xor (sp_mem (List.mem_cons_of_mem _ hr)) hc
      · exact sp_mem (List.mem_cons_of_mem _ hr)
    · exact hc
  · have hcn : Spn ns c := sp_mem ((hm c).mpr (.inr rfl))
    have hrn : ∀ r ∈ rows, Spn ns r := fun r hr => by
      have h1 : Spn ns (f r) := sp_mem ((hm _).mpr (.inl ⟨r, hr, rfl⟩))
      cases q : r.testBit (top c) with
      | false =>
        have ef : f r = r := by show (if r.testBit (top c) then _ else _) = _; rw [q]; rfl
        rwa [ef] at h1
      | true =>
        have ef : f r = r ^^^ c := by show (if r.testBit (top c) then _ else _) = _; rw [q]; rfl
        rw [ef] at h1
        have := sp_xor h1 hcn
        rwa [xx] at this
    rcases List.mem_cons.mp hy with rfl | hy
    · have := sp_xor (sp_mono hrn hsp) hcn
      rwa [xx] at this
    · exact hrn y hy
theorem rowsOf_nil : RowsOf [] [] := ⟨red_nil, fun _ => Iff.rfl⟩
theorem RowsOf.same {vs ws rows : List Nat} (h : RowsOf vs rows) (e : ∀ x, Spn vs x ↔ Spn ws x) : RowsOf ws rows := ⟨h.1, fun x => (h.2 x).trans (e x)⟩
theorem rowsOf_step {vs rows rows' : List Nat} {w : Nat} (h : RowsOf vs rows) (h' : RowsOf (w :: rows) rows') : RowsOf (vs ++ [w]) rows' := h'.same fun x => by
  constructor
  · refine sp_mono fun y hy => ?_
    rcases List.mem_cons.mp hy with rfl | hy
    · exact sp_mem (List.mem_append_right _ List.mem_cons_self)
    · exact sp_sub (fun u hu => List.mem_append_left _ hu) ((h.2 y).mp (sp_mem hy))
  · refine sp_mono fun y hy => ?_
    rcases List.mem_append.mp hy with hy | hy
    · exact .inl ((h.2 y).mpr (sp_mem hy))
    · rw [List.mem_singleton.mp hy]; exact sp_head _ _
/-! ### images -/
def img : List Nat → Nat → Nat
  | [], _ => 0
  | c :: cs, x => (if x.testBit 0 then c else 0) ^^^ img cs (x / 2)
theorem img_lin : ∀ cs, Lin (img cs)
  | [], _, _ => (Nat.xor_self 0).symm
  | c :: cs, x, y => by
    show (if (x ^^^ y).testBit 0 then c else 0) ^^^ img cs ((x ^^^ y) / 2) = ((if x.testBit 0 then c else 0) ^^^ img cs (x / 2)) ^^^ ((if y.testBit 0 then c else 0) ^^^ img cs (y / 2))
    rw [Nat.xor_div_two, img_lin cs, Nat.testBit_xor]
    generalize img cs (x / 2) = a
    generalize img cs (y / 2) = b
    cases x.testBit 0 <;> cases y.testBit 0 <;> simp
    · rw [← Nat.xor_assoc, ← Nat.xor_assoc, Nat.xor_comm c a]
    · rw [Nat.xor_assoc]
    · rw [← Nat.xor_assoc, Nat.xor_comm c a, xx]
theorem img_zero (cs : List Nat) : img cs 0 = 0 := (img_lin cs).zero
theorem img_snoc : ∀ {cs : List Nat} {c x : Nat}, img (cs ++ [c]) x = img cs x ^^^ (if x.testBit cs.length then c else 0)
  | [], c, x => by show (if x.testBit 0 then c else 0) ^^^ 0 = 0 ^^^ _; rw [Nat.xor_zero, Nat.zero_xor]; rfl
  | d :: cs, c, x => by
    show (if x.testBit 0 then d else 0) ^^^ img (cs ++ [c]) (x / 2) = ((if x.testBit 0 then d else 0) ^^^ img cs (x / 2)) ^^^ _
    rw [img_snoc, Nat.xor_assoc]
    congr 2
    rw [List.length_cons, Nat.testBit_succ]
theorem img_pow : ∀ {cs : List Nat} {i c : Nat}, cs[i]? = some c → img cs (2 ^ i) = c
  | d :: cs, 0, c, h => by
    have h : d = c := by simpa using h
    subst h
    show (if (2 ^ 0).testBit 0 then d else 0) ^^^ img cs (2 ^ 0 / 2) = d
    rw [show (2 ^ 0 / 2 : Nat) = 0 from rfl, img_zero, Nat.xor_zero]
    rfl
  | d :: cs, i + 1, c, h => by
    have h : cs[i]? = some c := by simpa using h
    show (if (2 ^ (i + 1)).testBit 0 then d else 0) ^^^ img cs (2 ^ (i + 1) / 2) = c
    rw [show (2 ^ (i + 1) / 2 : Nat) = 2 ^ i by rw [Nat.pow_succ]; omega, img_pow h, Nat.testBit_two_pow_of_ne (by omega)]
    simp
theorem img_units (cs : List Nat) : (units cs.length).map (img cs) = cs := by
  apply List.ext_getElem?
  intro i
  unfold units
  rw [List.map_map, List.getElem?_map]
  by_cases h : i < cs.length
  · rw [List.getElem?_range h, List.getElem?_eq_getElem h]
    show some (img cs (2 ^ i)) = _
    rw [img_pow (List.getElem?_eq_getElem h)]
  · rw [List.getElem?_eq_none (by simpa using h), List.getElem?_eq_none (by simpa using h)]
    rfl
theorem img_lt {cs : List Nat} {n : Nat} (h : ∀ c ∈ cs, c < 2 ^ n) : ∀ x, img cs x < 2 ^ n := by
  induction cs with
  | nil => intro _; exact Nat.two_pow_pos n
  | cons c cs ih =>
    intro x
    refine Nat.xor_lt_two_pow ?_ (ih (fun d hd => h d (List.mem_cons_of_mem _ hd)) _)
    split
    · exact h c List.mem_cons_self
    · exact Nat.two_pow_pos n
theorem img_sp (cs : List Nat) : ∀ x, Spn cs (img cs x) := by
  induction cs with
  | nil => intro _; exact rfl
  | cons c cs ih =>
    intro x
    refine sp_xor ?_ (.inl (ih _))
    split
    · exact sp_head _ _
    · exact sp_zero _
/-- the sum of the units of some bits -/
def bsum (bs : List Nat) : Nat := bs.foldl (fun x b => x ^^^ 2 ^ b) 0
theorem img_bsum {cs : List Nat} {g : Nat → Nat} : ∀ {bs : List Nat} {x t : Nat}, img cs x = t → (∀ b ∈ bs, cs[b]? = some (g b)) → img cs (bs.foldl (fun x b => x ^^^ 2 ^ b) x) = bs.foldl (fun t b => t ^^^ g b) t
  | [], x, t, e, _ => e
  | b :: bs, x, t, e, h => by
    refine img_bsum (bs := bs) ?_ fun c hc => h c (List.mem_cons_of_mem _ hc)
    rw [img_lin, e, img_pow (h b List.mem_cons_self)]
/-! ### pairs of an image and its word -/
theorem shl_lin (m : Nat) : Lin (fun x => x * 2 ^ m) := fun x y => by
  show (x ^^^ y) * 2 ^ m = x * 2 ^ m ^^^ y * 2 ^ m
  rw [← Nat.shiftLeft_eq, ← Nat.shiftLeft_eq, ← Nat.shiftLeft_eq, Nat.shiftLeft_xor_distrib]
theorem add_xor {a m b : Nat} (h : b < 2 ^ m) : a * 2 ^ m + b = a * 2 ^ m ^^^ b := by
  apply Nat.eq_of_testBit_eq
  intro i
  rw [Nat.mul_comm, Nat.testBit_xor, Nat.testBit_two_pow_mul_add a h]
  by_cases q : i < m
  · rw [if_pos q, Nat.testBit_two_pow_mul]
    simp [Nat.not_le_of_lt q]
  · rw [if_neg q, Nat.testBit_two_pow_mul, Nat.testBit_lt_two_pow (Nat.lt_of_lt_of_le h (Nat.pow_le_pow_right (by decide) (Nat.le_of_not_lt q)))]
    simp [Nat.le_of_not_lt q]
def prf (m : Nat) (cs : List Nat) (x : Nat) : Nat := img cs x * 2 ^ m ^^^ x
theorem prf_lin (m : Nat) (cs : List Nat) : Lin (prf m cs) := fun x y => by
  unfold prf
  rw [img_lin, show (img cs x ^^^ img cs y) * 2 ^ m = img cs x * 2 ^ m ^^^ img cs y * 2 ^ m from shl_lin m (img cs x) (img cs y), Nat.xor_assoc, Nat.xor_assoc]
  congr 1
  rw [← Nat.xor_assoc, ← Nat.xor_assoc, Nat.xor_comm (img cs y * 2 ^ m) x]
def pcol (cs : List Nat) : List Nat := (units cs.length).map (prf cs.length cs)
theorem pcol_sp {cs : List Nat} {y : Nat} : Spn (pcol cs) y ↔ ∃ x, x < 2 ^ cs.length ∧ y = prf cs.length cs x := by
  unfold pcol
  rw [sp_map (prf_lin _ _)]
  constructor
  · rintro ⟨x, hx, e⟩; exact ⟨x, sp_units.mp hx, e⟩
  · rintro ⟨x, hx, e⟩; exact ⟨x, sp_units.mpr hx, e⟩
theorem prf_eq {m x : Nat} {cs : List Nat} (h : x < 2 ^ m) : prf m cs x = img cs x * 2 ^ m + x := (add_xor h).symm
theorem prf_small {m x : Nat} {cs : List Nat} (h : x < 2 ^ m) : prf m cs x < 2 ^ m ↔ img cs x = 0 := by
  rw [prf_eq h]
  constructor
  · intro z
    by_cases q : img cs x = 0
    · exact q
    · have : 1 * 2 ^ m ≤ img cs x * 2 ^ m := Nat.mul_le_mul_right _ (Nat.pos_of_ne_zero q)
      omega
  · intro z
    rw [z]
    omega
/-- the kernel's rows -/
def KerOf (cs ks : List Nat) : Prop := Red ks ∧ ∀ x, Spn ks x ↔ x < 2 ^ cs.length ∧ img cs x = 0
theorem ker_of {cs rows : List Nat} (h : RowsOf (pcol cs) rows) : KerOf cs (rows.filter fun r => decide (r < 2 ^ cs.length)) := by
  obtain ⟨h1, h2⟩ := red_filter h.1 cs.length
  refine ⟨h1, fun x => (h2 x).trans ?_⟩
  rw [h.2, pcol_sp]
  constructor
  · rintro ⟨⟨y, hy, rfl⟩, hl⟩
    have h0 := (prf_small hy).mp hl
    rw [prf_eq hy, h0, Nat.zero_mul, Nat.zero_add]
    exact ⟨hy, h0⟩
  · rintro ⟨hx, h0⟩
    refine ⟨⟨x, hx, ?_⟩, hx⟩
    rw [prf_eq hx, h0, Nat.zero_mul, Nat.zero_add]
theorem KerOf.rank {cs ks : List Nat} (h : KerOf cs ks) : ks.length + rk cs = cs.length := by
  have := rk_ker (img_lin cs) h.2
  rwa [img_units, ech_rk h.1.ech] at this
theorem KerOf.nil {cs ks : List Nat} (h : KerOf cs ks) : ks = [] ↔ rk cs = cs.length := by
  have := h.rank
  rw [← List.length_eq_zero_iff]
  omega
/-- one to one: the rest of a word is its origin -/
theorem solved_eq {cs rows : List Nat} {w x : Nat} (h : RowsOf (pcol cs) rows) (hi : rk cs = cs.length) (hx : x < 2 ^ cs.length) (e : img cs x = w) : clr rows (w * 2 ^ cs.length) = x := by
  have hk := ker_of h
  have hn := hk.nil.mpr hi
  have h1 : Spn rows (w * 2 ^ cs.length ^^^ x) := (h.2 _).mpr (pcol_sp.mpr ⟨x, hx, by rw [← e]; rfl⟩)
  have h2 : clr rows (w * 2 ^ cs.length) = clr rows x := offs_coset h.1.ech h1
  rw [h2]
  refine offs_same fun r hr => ?_
  have h3 : ¬ r < 2 ^ cs.length := fun z => by
    have : r ∈ rows.filter fun r => decide (r < 2 ^ cs.length) := by simpa using ⟨hr, z⟩
    rw [hn] at this
    cases this
  have h4 : cs.length ≤ top r := by
    rcases Nat.lt_or_ge (top r) cs.length with q | q
    · exact absurd (Nat.lt_of_lt_of_le lt_top (Nat.pow_le_pow_right (by decide) q)) h3
    · exact q
  exact Nat.testBit_lt_two_pow (Nat.lt_of_lt_of_le hx (Nat.pow_le_pow_right (by decide) h4))
/-- both ways: one to one and onto, for as many columns as bits -/
theorem inv_iff {cs : List Nat} (hb : ∀ c ∈ cs, c < 2 ^ cs.length) : rk cs = cs.length ↔ ∀ y, y < 2 ^ cs.length → ∃ x, x < 2 ^ cs.length ∧ img cs x = y := by
  rw [rk_all hb]
  constructor
  · intro h y hy
    have := h y hy
    rw [← img_units cs, sp_map (img_lin cs)] at this
    obtain ⟨x, hx, e⟩ := this
    exact ⟨x, sp_units.mp hx, e.symm⟩
  · intro h y hy
    obtain ⟨x, _, e⟩ := h y hy
    rw [← e]
    exact img_sp cs x
theorem img_inj {cs : List Nat} (hi : rk cs = cs.length) {x y : Nat} (hx : x < 2 ^ cs.length) (hy : y < 2 ^ cs.length) (e : img cs x = img cs y) : x = y := by
  have h := (rk_map_inj (img_lin cs) (ws := units cs.length)).mp (by rw [img_units, rk_units, hi])
  refine xor_eq_zero_iff.mp (h _ (sp_units.mpr (Nat.xor_lt_two_pow hx hy)) ?_)
  rw [img_lin, e, Nat.xor_self]
end L2.Lk
/-! MathE -/
set_option autoImplicit false
namespace L2.Lk
/-! ### the law's tagged rows -/
def ltag1 : List (Nat × Nat) → Nat → Nat → Nat × Nat
  | [], w, t => (w, t)
  | (r, m) :: rs, w, t => if w.testBit (tz r) then ltag1 rs (w ^^^ r) (t ^^^ m) else ltag1 rs w t
def ltagn : List Nat → Nat → List (Nat × Nat) → List Nat → List (Nat × Nat) × List Nat
  | [], _, rows, found => (rows, found)
  | c :: cs, i, rows, found => if (ltag1 rows c (2 ^ i)).1 = 0 then ltagn cs (i + 1) rows (found ++ [(ltag1 rows c (2 ^ i)).2]) else ltagn cs (i + 1) (rows ++ [ltag1 rows c (2 ^ i)]) found
def ltagged (cs : List Nat) : List (Nat × Nat) × List Nat := ltagn cs 0 [] []
def lker (cs : List Nat) : List Nat := (ltagged cs).2
def lbacks (cs : List Nat) : List Nat := (List.range cs.length).map fun i => (ltag1 (ltagged cs).1 (2 ^ i) 0).2
theorem ltag1_fst : ∀ {rows : List (Nat × Nat)} {w t : Nat}, (ltag1 rows w t).1 = lleft (rows.map (·.1)) w
  | [], _, _ => rfl
  | (r, m) :: rs, w, t => by
    show (if w.testBit (tz r) then ltag1 rs (w ^^^ r) (t ^^^ m) else ltag1 rs w t).1 = offs tz (rs.map (·.1)) (off (tz r) r w)
    unfold off
    split
    · exact ltag1_fst
    · exact ltag1_fst
theorem ltag1_inv {cs : List Nat} {i : Nat} : ∀ {rows : List (Nat × Nat)} {w t : Nat}, (∀ p ∈ rows, p.2 < 2 ^ i ∧ img cs p.2 = p.1) → ∀ {u : Nat}, img cs t = w ^^^ u →
    img cs (ltag1 rows w t).2 = (ltag1 rows w t).1 ^^^ u ∧ (∃ d, d < 2 ^ i ∧ (ltag1 rows w t).2 = t ^^^ d)
  | [], w, t, _, u, e => ⟨e, 0, Nat.two_pow_pos i, (Nat.xor_zero t).symm⟩
  | (r, m) :: rs, w, t, h, u, e => by
    have hm := h (r, m) List.mem_cons_self
    have hr : ∀ p ∈ rs, p.2 < 2 ^ i ∧ img cs p.2 = p.1 := fun p hp => h p (List.mem_cons_of_mem _ hp)
    unfold ltag1
    split
    · have e' : img cs (t ^^^ m) = w ^^^ r ^^^ u := by rw [img_lin, e, hm.2, xor_r]
      obtain ⟨a, d, hd, b⟩ := ltag1_inv (w := w ^^^ r) (t := t ^^^ m) hr e'
      exact ⟨a, m ^^^ d, Nat.xor_lt_two_pow hm.1 hd, by rw [b, Nat.xor_assoc]⟩
    · exact ltag1_inv hr e
structure TagI (cs : List Nat) (i : Nat) (rows : List (Nat × Nat)) (found : List Nat) : Prop where
  mark : ∀ p ∈ rows, p.2 < 2 ^ i ∧ img cs p.2 = p.1
  zero : ∀ f ∈ found, f < 2 ^ i ∧ img cs f = 0 ∧ f ≠ 0
  ech : Ech tz (rows.map (·.1))
  sp : ∀ x, Spn (rows.map (·.1)) x ↔ Spn (cs.take i) x
  asc : found.Pairwise (fun a b => top a < top b)
  len : rows.length + found.length = i
theorem TagI.start (cs : List Nat) : TagI cs 0 [] [] := ⟨(fun p hp => by cases hp), (fun p hp => by cases hp), ech_nil, (fun x => Iff.rfl), List.Pairwise.nil, rfl⟩
theorem TagI.step {cs : List Nat} {i c : Nat} {rows : List (Nat × Nat)} {found : List Nat} (h : TagI cs i rows found) (hc : cs[i]? = some c) :
    if (ltag1 rows c (2 ^ i)).1 = 0 then TagI cs (i + 1) rows (found ++ [(ltag1 rows c (2 ^ i)).2]) else TagI cs (i + 1) (rows ++ [ltag1 rows c (2 ^ i)]) found := by
  obtain ⟨h1, d, hd, h2⟩ := ltag1_inv (cs := cs) (i := i) (rows := rows) (w := c) (t := 2 ^ i) h.mark (u := 0) (by rw [img_pow hc, Nat.xor_zero])
  rw [Nat.xor_zero] at h1
  have hf := ltag1_fst (rows := rows) (w := c) (t := 2 ^ i)
  generalize ltag1 rows c (2 ^ i) = p at *
  obtain ⟨w, t⟩ := p
  dsimp only at *
  have up : 2 ^ i < 2 ^ (i + 1) := Nat.pow_lt_pow_right (by decide) (Nat.lt_succ_self i)
  have tlt : t < 2 ^ (i + 1) := by rw [h2]; exact Nat.xor_lt_two_pow up (Nat.lt_trans hd up)
  have tb : t.testBit i = true := by rw [h2, Nat.testBit_xor, Nat.testBit_two_pow_self, Nat.testBit_lt_two_pow hd]; rfl
  have t0 : t ≠ 0 := fun z => by rw [z, Nat.zero_testBit] at tb; cases tb
  have tt : top t = i := by
    have a : top t < i + 1 := top_lt t0 tlt
    have b : ¬ top t < i := fun z => by rw [above_top z] at tb; cases tb
    omega
  have hi : i < cs.length := (List.getElem?_eq_some_iff.mp hc).1
  have take : cs.take (i + 1) = cs.take i ++ [c] := by
    rw [List.take_add_one, hc]
    rfl
  have mk2 : ∀ q ∈ rows, q.2 < 2 ^ (i + 1) ∧ img cs q.2 = q.1 := fun q hq => ⟨Nat.lt_trans (h.mark q hq).1 up, (h.mark q hq).2⟩
  have z2 : ∀ f ∈ found, f < 2 ^ (i + 1) ∧ img cs f = 0 ∧ f ≠ 0 := fun f hf => ⟨Nat.lt_trans (h.zero f hf).1 up, (h.zero f hf).2⟩
  have base := offs_sp tz (rows.map (·.1)) c
  split
  · rename_i e
    have hin : Spn (rows.map (·.1)) c := (offs_iff h.ech).mpr (hf.symm.trans e)
    refine ⟨mk2, fun f hf => ?_, h.ech, fun x => (h.sp x).trans ?_, List.pairwise_append.mpr ⟨h.asc, List.pairwise_singleton _ _, fun a ha b hb => ?_⟩, by rw [List.length_append, List.length_singleton, ← h.len]; omega⟩
    · rcases List.mem_append.mp hf with hf | hf
      · exact z2 f hf
      · rw [List.mem_singleton.mp hf]
        exact ⟨tlt, h1.trans e, t0⟩
    · rw [take]
      constructor
      · exact sp_sub fun u hu => List.mem_append_left _ hu
      · refine sp_mono fun u hu => ?_
        rcases List.mem_append.mp hu with hu | hu
        · exact sp_mem hu
        · rw [List.mem_singleton.mp hu]
          exact (h.sp c).mp hin
    · rw [List.mem_singleton.mp hb, tt]
      exact top_lt (h.zero a ha).2.2 (h.zero a ha).1
  · rename_i e
    have ew : w = lleft (rows.map (·.1)) c := hf
    refine ⟨fun q hq => ?_, z2, ?_, fun x => ?_, h.asc, by rw [List.length_append, List.length_singleton, ← h.len]; omega⟩
    · rcases List.mem_append.mp hq with hq | hq
      · exact mk2 q hq
      · rw [List.mem_singleton.mp hq]
        exact ⟨tlt, h1⟩
    · rw [List.map_append]
      exact ech_snoc h.ech (fun r hr => by show w.testBit _ = false; rw [ew]; exact offs_bits h.ech r hr) (tz_bit e)
    · rw [List.map_append, take]
      have cw : ∀ {l : List Nat}, (∀ y, Spn (rows.map (·.1)) y → Spn l y) → Spn l (c ^^^ w) := fun hl => by
        have := hl _ base
        rw [ew]
        exact this
      constructor
      · refine sp_mono fun u hu => ?_
        rcases List.mem_append.mp hu with hu | hu
        · exact sp_sub (fun u hu => List.mem_append_left _ hu) ((h.sp u).mp (sp_mem hu))
        · have eu : u = w := by simpa using hu
          rw [eu]
          have s1 : Spn (cs.take i ++ [c]) (c ^^^ w) := cw fun y hy => sp_sub (fun u hu => List.mem_append_left _ hu) ((h.sp y).mp hy)
          have s2 : Spn (cs.take i ++ [c]) c := sp_mem (List.mem_append_right _ List.mem_cons_self)
          have := sp_xor s1 s2
          rwa [Nat.xor_comm c w, xx] at this
      · refine sp_mono fun u hu => ?_
        rcases List.mem_append.mp hu with hu | hu
        · exact sp_sub (fun u hu => List.mem_append_left _ hu) ((h.sp u).mpr (sp_mem hu))
        · rw [List.mem_singleton.mp hu]
          have s1 : Spn (rows.map (·.1) ++ [w]) (c ^^^ w) := cw fun y hy => sp_sub (fun u hu => List.mem_append_left _ hu) hy
          have s2 : Spn (rows.map (·.1) ++ [w]) w := sp_mem (List.mem_append_right _ List.mem_cons_self)
          have := sp_xor s1 s2
          rwa [xx] at this
theorem ltagn_inv {cs : List Nat} : ∀ {ds : List Nat} {i : Nat} {rows : List (Nat × Nat)} {found : List Nat}, cs.drop i = ds → i ≤ cs.length → TagI cs i rows found → TagI cs cs.length (ltagn ds i rows found).1 (ltagn ds i rows found).2
  | [], i, rows, found, e, hi, h => by
    have hi2 : cs.length ≤ i := List.drop_eq_nil_iff.mp e
    have : i = cs.length := by omega
    rw [← this]; exact h
  | d :: ds, i, rows, found, e, hi, h => by
    have hc : cs[i]? = some d := by
      have := List.getElem?_drop (xs := cs) (i := i) (j := 0)
      rw [e] at this
      simpa using this.symm
    have hlt : i < cs.length := (List.getElem?_eq_some_iff.mp hc).1
    have hd : cs.drop (i + 1) = ds := by
      rw [← List.drop_drop, e]
      rfl
    have hs := h.step hc
    unfold ltagn
    split
    · rename_i q
      rw [if_pos q] at hs
      exact ltagn_inv hd hlt hs
    · rename_i q
      rw [if_neg q] at hs
      exact ltagn_inv hd hlt hs
theorem ltagged_inv (cs : List Nat) : TagI cs cs.length (ltagged cs).1 (ltagged cs).2 := ltagn_inv (i := 0) rfl (Nat.zero_le _) (TagI.start cs)
theorem asc_rk : ∀ {l : List Nat}, l.Pairwise (fun a b => top a < top b) → (∀ f ∈ l, f ≠ 0) → rk l = l.length := by
  intro l h0 hz
  have he : Ech top l.reverse := by
    refine ⟨List.pairwise_reverse.mpr (h0.imp fun {a b} hab => above_top hab), fun r hr => top_bit (hz r (List.mem_reverse.mp hr))⟩
  rw [← List.length_reverse, ← ech_rk he]
  exact rk_same fun x => (sp_same (fun w => List.mem_reverse) x).symm
theorem lker_sp (cs : List Nat) (x : Nat) : Spn (lker cs) x ↔ x < 2 ^ cs.length ∧ img cs x = 0 := by
  have h := ltagged_inv cs
  let ks := (List.range (2 ^ cs.length)).filter fun x => decide (img cs x = 0)
  have hks : ∀ y, Spn ks y ↔ y < 2 ^ cs.length ∧ img cs y = 0 := fun y => by
    constructor
    · refine sp_ind (P := fun y => y < 2 ^ cs.length ∧ img cs y = 0) ⟨Nat.two_pow_pos _, img_zero cs⟩ (fun a b ha hb => ⟨Nat.xor_lt_two_pow ha.1 hb.1, by rw [img_lin, ha.2, hb.2, Nat.xor_self]⟩) fun w hw => ?_
      simpa [ks] using hw
    · intro hy
      exact sp_mem (by simpa [ks] using hy)
  have h1 : rk ks + rk cs = cs.length := by
    have := rk_ker (img_lin cs) hks
    rwa [img_units] at this
  have h2 : rk (lker cs) = (lker cs).length := asc_rk h.asc fun f hf => (h.zero f hf).2.2
  have h3 : ((ltagged cs).1.map (·.1)).length = rk cs := by
    rw [← ech_rk h.ech]
    refine rk_same fun y => (h.sp y).trans ?_
    rw [List.take_length]
  rw [List.length_map] at h3
  have h4 : rk (lker cs) = rk ks := by
    have := h.len
    show _ = _
    have e : (lker cs).length = (ltagged cs).2.length := rfl
    omega
  rw [rk_eq_same (vs := lker cs) (ws := ks) (fun y hy => (hks y).mpr (sp_ind (P := fun y => y < 2 ^ cs.length ∧ img cs y = 0) ⟨Nat.two_pow_pos _, img_zero cs⟩ (fun a b ha hb => ⟨Nat.xor_lt_two_pow ha.1 hb.1, by rw [img_lin, ha.2, hb.2, Nat.xor_self]⟩) (fun w hw => ⟨(h.zero w hw).1, (h.zero w hw).2.1⟩) hy)) h4 x]
  exact hks x
theorem lbacks_len (cs : List Nat) : (lbacks cs).length = cs.length := by unfold lbacks; simp
/-- the words whose images are the units -/
theorem lbacks_at {cs : List Nat} (hb : ∀ c ∈ cs, c < 2 ^ cs.length) (hi : rk cs = cs.length) {i : Nat} (h : i < cs.length) : ∃ x, (lbacks cs)[i]? = some x ∧ x < 2 ^ cs.length ∧ img cs x = 2 ^ i := by
  have ht := ltagged_inv cs
  refine ⟨(ltag1 (ltagged cs).1 (2 ^ i) 0).2, ?_, ?_⟩
  · unfold lbacks
    rw [List.getElem?_map, List.getElem?_range h]
    rfl
  · obtain ⟨h1, d, hd, h2⟩ := ltag1_inv (cs := cs) (i := cs.length) (rows := (ltagged cs).1) (w := 2 ^ i) (t := 0) ht.mark (u := 2 ^ i) (by rw [img_zero, Nat.xor_self])
    refine ⟨by rw [h2, Nat.zero_xor]; exact hd, ?_⟩
    rw [h1, ltag1_fst]
    have h3 : lleft ((ltagged cs).1.map (·.1)) (2 ^ i) = 0 := by
      refine offs_zero ht.ech ((ht.sp _).mpr ?_)
      rw [List.take_length]
      exact (rk_all hb).mp hi _ (Nat.pow_lt_pow_right (by decide) h)
    rw [h3, Nat.zero_xor]
theorem lbacks_lt {cs : List Nat} (hb : ∀ c ∈ cs, c < 2 ^ cs.length) (hi : rk cs = cs.length) : ∀ x ∈ lbacks cs, x < 2 ^ cs.length := fun x hx => by
  obtain ⟨i, hl, e⟩ := List.mem_iff_getElem.mp hx
  rw [lbacks_len] at hl
  obtain ⟨y, h1, h2, _⟩ := lbacks_at hb hi hl
  rw [List.getElem?_eq_getElem (by rw [lbacks_len]; exact hl)] at h1
  have := Option.some.inj h1
  rw [e] at this
  rw [this]; exact h2
theorem lbacks_units {cs : List Nat} (hb : ∀ c ∈ cs, c < 2 ^ cs.length) (hi : rk cs = cs.length) : (lbacks cs).map (img cs) = units cs.length := by
  apply List.ext_getElem?
  intro i
  unfold units
  rw [List.getElem?_map, List.getElem?_map]
  by_cases h : i < cs.length
  · obtain ⟨y, h1, _, h3⟩ := lbacks_at hb hi h
    rw [h1, List.getElem?_range h]
    show some (img cs y) = some (2 ^ i)
    rw [h3]
  · rw [List.getElem?_eq_none (by rw [lbacks_len]; omega), List.getElem?_eq_none (by simp; omega)]
    rfl
theorem lbacks_rk {cs : List Nat} (hb : ∀ c ∈ cs, c < 2 ^ cs.length) (hi : rk cs = cs.length) : rk (lbacks cs) = cs.length := by
  have h1 : rk (lbacks cs) ≤ cs.length := rk_le (lbacks_lt hb hi)
  have h2 := rk_map_le (img_lin cs) (lbacks cs)
  rw [lbacks_units hb hi, rk_units] at h2
  omega
/-- another list of such words is it -/
theorem backs_unique {cs bs : List Nat} (hb : ∀ c ∈ cs, c < 2 ^ cs.length) (hi : rk cs = cs.length) (hl : bs.length = cs.length) (h : ∀ i x, bs[i]? = some x → x < 2 ^ cs.length ∧ img cs x = 2 ^ i) : bs = lbacks cs := by
  apply List.ext_getElem?
  intro i
  by_cases q : i < cs.length
  · obtain ⟨y, h1, h2, h3⟩ := lbacks_at hb hi q
    rw [h1, List.getElem?_eq_getElem (by rw [hl]; exact q)]
    obtain ⟨a, b⟩ := h i _ (List.getElem?_eq_getElem (by rw [hl]; exact q))
    rw [img_inj hi a h2 (b.trans h3.symm)]
  · rw [List.getElem?_eq_none (by rw [hl]; omega), List.getElem?_eq_none (by rw [lbacks_len]; omega)]
/-! ### the law's list of a span -/
def llisted (ws : List Nat) : List Nat := ws.foldl (fun found w => found ++ found.map fun x => x ^^^ w) [0]
theorem llisted_inv {g : Nat → Nat} : ∀ {ws pre : List Nat} {found : List Nat}, Ech g (pre ++ ws) → found.Nodup → (∀ x, x ∈ found ↔ Spn pre x) →
    (ws.foldl (fun found w => found ++ found.map fun x => x ^^^ w) found).Nodup ∧ ∀ x, x ∈ ws.foldl (fun found w => found ++ found.map fun x => x ^^^ w) found ↔ Spn (pre ++ ws) x
  | [], pre, found, _, hn, hm => by rw [List.append_nil]; exact ⟨hn, hm⟩
  | w :: ws, pre, found, h, hn, hm => by
    rw [List.foldl_cons]
    have e : pre ++ w :: ws = pre ++ [w] ++ ws := by simp
    rw [e] at h ⊢
    have hpw : ∀ a ∈ pre, w.testBit (g a) = false := fun a ha => (List.pairwise_append.mp (List.pairwise_append.mp h.1).1).2.2 a ha w List.mem_cons_self
    have hpe : Ech g pre := ⟨(List.pairwise_append.mp (List.pairwise_append.mp h.1).1).1, fun r hr => h.2 r (List.mem_append_left _ (List.mem_append_left _ hr))⟩
    have hww : w.testBit (g w) = true := h.2 w (List.mem_append_left _ (List.mem_append_right _ List.mem_cons_self))
    have hns : ¬ Spn pre w := fun hs => by
      have h1 := offs_zero hpe hs
      rw [offs_same hpw] at h1
      rw [h1, Nat.zero_testBit] at hww
      cases hww
    refine llisted_inv h ?_ fun x => ?_
    · rw [List.nodup_append]
      refine ⟨hn, ?_, ?_⟩
      · have : ∀ {l : List Nat}, l.Nodup → (l.map fun x => x ^^^ w).Nodup := by
          intro l
          induction l with
          | nil => intro _; exact List.nodup_nil
          | cons a l ih =>
            intro hl
            rw [List.map_cons, List.nodup_cons]
            refine ⟨fun hm => ?_, ih (List.nodup_cons.mp hl).2⟩
            obtain ⟨b, hb, eb⟩ := List.mem_map.mp hm
            have : b = a := by
              have := congrArg (fun z => z ^^^ w) eb
              simpa only [xx] using this
            exact (List.nodup_cons.mp hl).1 (this ▸ hb)
        exact this hn
      · intro a ha b hb z
        obtain ⟨c, hc, ec⟩ := List.mem_map.mp hb
        have h1 := (hm a).mp ha
        have h2 := (hm c).mp hc
        rw [z, ← ec] at h1
        have := sp_xor h1 h2
        rw [Nat.xor_comm c w, xx] at this
        exact hns this
    · rw [List.mem_append, List.mem_map, sp_append]
      constructor
      · rintro (hx | ⟨y, hy, rfl⟩)
        · exact ⟨x, 0, (hm x).mp hx, sp_zero _, by simp⟩
        · exact ⟨y, w, (hm y).mp hy, sp_head _ _, rfl⟩
      · rintro ⟨a, b, ha, hb, rfl⟩
        rcases hb with hb | hb
        · rw [show b = 0 from hb, Nat.xor_zero]
          exact .inl ((hm a).mpr ha)
        · rw [xor_eq_zero_iff.mp hb]
          exact .inr ⟨a, (hm a).mpr ha, rfl⟩
theorem llisted_ok (ws : List Nat) : (llisted (lbasis ws)).Nodup ∧ ∀ x, x ∈ llisted (lbasis ws) ↔ Spn ws x := by
  have h := llisted_inv (ws := lbasis ws) (pre := []) (found := [0]) (g := tz) (by simpa using lbasis_ech ws) (List.nodup_cons.mpr ⟨by simp, List.nodup_nil⟩) fun x => by rw [List.mem_singleton]; exact Iff.rfl
  exact ⟨h.1, fun x => (h.2 x).trans (by rw [List.nil_append]; exact lbasis_sp ws x)⟩
/-- the second of them in order is the least but 0 -/
theorem second_least {ws s : List Nat} (hp : s.Perm (llisted (lbasis ws))) (hs : s.Pairwise (· ≤ ·)) (hn : ∃ x, Spn ws x ∧ x ≠ 0) : ∃ k, s[1]? = some k ∧ Spn ws k ∧ k ≠ 0 ∧ ∀ x, Spn ws x → x ≠ 0 → k ≤ x := by
  obtain ⟨h1, h2⟩ := llisted_ok ws
  have hnd : s.Nodup := hp.nodup_iff.mpr h1
  have hm : ∀ x, x ∈ s ↔ Spn ws x := fun x => hp.mem_iff.trans (h2 x)
  have hlt : s.Pairwise (· < ·) := List.Pairwise.imp (fun ⟨a, b⟩ => Nat.lt_of_le_of_ne a b) (List.Pairwise.and hs hnd)
  cases s with
  | nil => exact absurd ((hm 0).mpr (sp_zero _)) (by simp)
  | cons a s =>
    have ha : a = 0 := by
      rcases List.mem_cons.mp ((hm 0).mpr (sp_zero _)) with e | e
      · exact e.symm
      · have := (List.pairwise_cons.mp hlt).1 0 e
        omega
    cases s with
    | nil =>
      obtain ⟨x, hx, h0⟩ := hn
      have := (hm x).mpr hx
      rw [ha] at this
      exact absurd (List.mem_singleton.mp this) h0
    | cons b s =>
      refine ⟨b, rfl, (hm b).mp (by simp), ?_, fun x hx h0 => ?_⟩
      · have := (List.pairwise_cons.mp hlt).1 b List.mem_cons_self
        omega
      · have h3 := (hm x).mpr hx
        rcases List.mem_cons.mp h3 with e | h3
        · omega
        · rcases List.mem_cons.mp h3 with e | h3
          · omega
          · exact Nat.le_of_lt ((List.pairwise_cons.mp (List.pairwise_cons.mp hlt).2).1 x h3)
end L2.Lk
/-! MathF -/
set_option autoImplicit false
namespace L2.Lk
/-! ### meets -/
def both (n : Nat) (A B : List Nat) : List Nat := (A.map fun r => r * 2 ^ n + r) ++ B.map fun r => r * 2 ^ n
theorem meet_of {n : Nat} {A B M : List Nat} (hA : ∀ r ∈ A, r < 2 ^ n) (h : RowsOf (both n A B) M) :
    Red (M.filter fun r => decide (r < 2 ^ n)) ∧ ∀ x, Spn (M.filter fun r => decide (r < 2 ^ n)) x ↔ Spn A x ∧ Spn B x := by
  obtain ⟨h1, h2⟩ := red_filter h.1 n
  refine ⟨h1, fun x => (h2 x).trans ?_⟩
  have eA : A.map (fun r => r * 2 ^ n + r) = A.map (fun r => r * 2 ^ n ^^^ r) := List.map_congr_left fun r hr => add_xor (hA r hr)
  have lA : Lin (fun r => r * 2 ^ n ^^^ r) := fun x y => by
    show (x ^^^ y) * 2 ^ n ^^^ (x ^^^ y) = (x * 2 ^ n ^^^ x) ^^^ (y * 2 ^ n ^^^ y)
    rw [show (x ^^^ y) * 2 ^ n = x * 2 ^ n ^^^ y * 2 ^ n from shl_lin n x y, Nat.xor_assoc, Nat.xor_assoc]
    congr 1
    rw [← Nat.xor_assoc, ← Nat.xor_assoc, Nat.xor_comm (y * 2 ^ n) x]
  rw [h.2]
  unfold both
  rw [eA, sp_append]
  have key : ∀ a b, a < 2 ^ n → (a * 2 ^ n ^^^ a) ^^^ b * 2 ^ n = (a ^^^ b) * 2 ^ n + a := fun a b ha => by
    rw [add_xor ha, show (a ^^^ b) * 2 ^ n = a * 2 ^ n ^^^ b * 2 ^ n from shl_lin n a b, xor_r]
  constructor
  · rintro ⟨⟨p, q, hp, hq, rfl⟩, hl⟩
    obtain ⟨a, ha, rfl⟩ := (sp_map lA).mp hp
    obtain ⟨b, hb, rfl⟩ := (sp_map (shl_lin n)).mp hq
    have ha2 : a < 2 ^ n := sp_lt hA ha
    rw [key a b ha2] at hl ⊢
    have h0 : a ^^^ b = 0 := by
      by_cases z : a ^^^ b = 0
      · exact z
      · have : 1 * 2 ^ n ≤ (a ^^^ b) * 2 ^ n := Nat.mul_le_mul_right _ (Nat.pos_of_ne_zero z)
        omega
    rw [h0, Nat.zero_mul, Nat.zero_add]
    refine ⟨ha, ?_⟩
    rw [xor_eq_zero_iff.mp h0]; exact hb
  · rintro ⟨ha, hb⟩
    have ha2 : x < 2 ^ n := sp_lt hA ha
    refine ⟨⟨x * 2 ^ n ^^^ x, x * 2 ^ n, (sp_map lA).mpr ⟨x, ha, rfl⟩, (sp_map (shl_lin n)).mpr ⟨x, hb, rfl⟩, ?_⟩, ha2⟩
    rw [key x x ha2, Nat.xor_self, Nat.zero_mul, Nat.zero_add]
/-! ### things -/
inductive Thing where
  | spread (n : Nat) (s l : List Nat)
  | space (n : Nat) (u : List Nat)
  | store (n : Nat) (c : List Nat) (b : Nat)
def Thing.bits : Thing → Nat
  | .spread n _ _ => n
  | .space n _ => n
  | .store n _ _ => n
def Lt (n : Nat) (ws : List Nat) : Prop := ∀ w ∈ ws, w < 2 ^ n
def Thing.Wf : Thing → Prop
  | .spread n s l => n ≤ 4 ∧ s.length ≤ 8 ∧ l.length ≤ 8 ∧ Lt n s ∧ Lt n l ∧ rk (s ++ l) = n
  | .space n u => n ≤ 4 ∧ u.length ≤ 8 ∧ Lt n u
  | .store n c b => n ≤ 4 ∧ c.length = n ∧ Lt n c ∧ rk c = n ∧ b ≤ n
theorem Thing.Wf.bits {t : Thing} (h : t.Wf) : t.bits ≤ 4 := by cases t <;> exact h.1
/-- other names of the entries -/
def Thing.moved (cs : List Nat) : Thing → Thing
  | .spread n s l => .spread n (s.map (img cs)) (l.map (img cs))
  | .space n u => .space n (u.map (img cs))
  | .store n c b => .store n ((lbacks cs).map (img c)) b
theorem Lt.map {n : Nat} {cs ws : List Nat} (h : Lt n cs) : Lt n (ws.map (img cs)) := fun w hw => by
  obtain ⟨x, _, rfl⟩ := List.mem_map.mp hw
  exact img_lt h x
theorem rk_img {cs ws : List Nat} (hi : rk cs = cs.length) (h : Lt cs.length ws) : rk (ws.map (img cs)) = rk ws :=
  (rk_map_inj (img_lin cs)).mpr fun x hx h0 => img_inj hi (sp_lt h hx) (Nat.two_pow_pos _) (h0.trans (img_zero cs).symm)
theorem Thing.moved_wf {cs : List Nat} {t : Thing} (h : t.Wf) (hl : cs.length = t.bits) (hb : Lt cs.length cs) (hi : rk cs = cs.length) : (t.moved cs).Wf := by
  cases t with
  | spread n s l =>
    obtain ⟨h1, h2, h3, h4, h5, h6⟩ := h
    have hl : cs.length = n := hl
    rw [hl] at hb
    refine ⟨h1, by rw [List.length_map]; exact h2, by rw [List.length_map]; exact h3, hb.map, hb.map, ?_⟩
    rw [← List.map_append, rk_img hi (by rw [hl]; intro w hw; rcases List.mem_append.mp hw with hw | hw; exact h4 w hw; exact h5 w hw), h6]
  | space n u =>
    obtain ⟨h1, h2, h3⟩ := h
    have hl : cs.length = n := hl
    rw [hl] at hb
    exact ⟨h1, by rw [List.length_map]; exact h2, hb.map⟩
  | store n c b =>
    obtain ⟨h1, h2, h3, h4, h5⟩ := h
    have hl : cs.length = n := hl
    refine ⟨h1, by rw [List.length_map, lbacks_len]; exact hl, h3.map, ?_, h5⟩
    have hc : rk c = c.length := by rw [h4, h2]
    rw [rk_img hc (by rw [h2, ← hl]; exact lbacks_lt hb hi), lbacks_rk hb hi, hl]
theorem Thing.moved_bits (cs : List Nat) (t : Thing) : (t.moved cs).bits = t.bits := by cases t <;> rfl
/-! ### promises about two things, by the law's own words -/
def alikeB (s l s2 l2 : List Nat) : Bool := decide (l.length = l2.length) && decide (lsize s = lsize s2) && (s2 ++ List.zipWith (fun a b => a ^^^ b) l l2).all fun w => decide (lleft (lbasis s) w = 0)
def freeB (l c : List Nat) (b : Nat) : Bool := decide (lsize ((lbasis l).map fun w => img c w &&& (2 ^ b - 1)) = (lbasis l).length)
def stepsB (s u : List Nat) (k : Nat) : Bool := decide (lsize (s ++ u) - lsize s ≤ k)
theorem lleft_iff {ws : List Nat} {x : Nat} : lleft (lbasis ws) x = 0 ↔ Spn ws x := by
  rw [← lbasis_sp]
  exact (offs_iff (lbasis_ech ws)).symm
theorem alike_iff {s l s2 l2 R1 R2 : List Nat} (h1 : RowsOf s R1) (h2 : RowsOf s2 R2) :
    alikeB s l s2 l2 = true ↔ l.length = l2.length ∧ R1 = R2 ∧ ∀ w ∈ List.zipWith (fun a b => a ^^^ b) l l2, clr R1 w = 0 := by
  unfold alikeB
  rw [Bool.and_eq_true, Bool.and_eq_true, decide_eq_true_eq, decide_eq_true_eq, List.all_eq_true]
  have hc : ∀ w, clr R1 w = 0 ↔ Spn s w := fun w => (offs_iff h1.1.ech).symm.trans (h1.2 w)
  constructor
  · rintro ⟨⟨e1, e2⟩, h⟩
    have hm : ∀ w, w ∈ s2 ++ List.zipWith (fun a b => a ^^^ b) l l2 → Spn s w := fun w hw => lleft_iff.mp (of_decide_eq_true (h w hw))
    refine ⟨e1, ?_, fun w hw => (hc w).mpr (hm w (List.mem_append_right _ hw))⟩
    rw [lsize_rk, lsize_rk] at e2
    have hs : ∀ x, Spn s2 x ↔ Spn s x := rk_eq_same (fun x hx => sp_mono (fun w hw => hm w (List.mem_append_left _ hw)) hx) e2.symm
    exact red_unique h1.1 h2.1 fun x => (h1.2 x).trans ((hs x).symm.trans (h2.2 x).symm)
  · rintro ⟨e1, e2, h⟩
    have hs : ∀ x, Spn s x ↔ Spn s2 x := fun x => (h1.2 x).symm.trans (by rw [e2]; exact h2.2 x)
    refine ⟨⟨e1, by rw [lsize_rk, lsize_rk]; exact rk_same hs⟩, fun w hw => decide_eq_true (lleft_iff.mpr ?_)⟩
    rcases List.mem_append.mp hw with hw | hw
    · exact (hs w).mpr (sp_mem hw)
    · exact (hc w).mp (h w hw)
theorem img_and (c : List Nat) (m : Nat) : ∀ x, img (c.map fun w => w &&& m) x = img c x &&& m := by
  induction c with
  | nil => intro x; exact (Nat.zero_and m).symm
  | cons a c ih =>
    intro x
    show (if x.testBit 0 then a &&& m else 0) ^^^ img (c.map fun w => w &&& m) (x / 2) = ((if x.testBit 0 then a else 0) ^^^ img c (x / 2)) &&& m
    rw [ih, Nat.and_xor_distrib_right]
    congr 1
    split
    · rfl
    · exact (Nat.zero_and m).symm
theorem free_iff {l c : List Nat} {b : Nat} : freeB l c b = true ↔ ∀ x, Spn l x → img (c.map fun w => w &&& (2 ^ b - 1)) x = 0 → x = 0 := by
  unfold freeB
  rw [decide_eq_true_eq]
  have e : (lbasis l).map (fun w => img c w &&& (2 ^ b - 1)) = (lbasis l).map (img (c.map fun w => w &&& (2 ^ b - 1))) := List.map_congr_left fun w _ => (img_and c _ w).symm
  rw [e, lsize_rk, ← ech_rk (lbasis_ech l), rk_map_inj (img_lin _)]
  constructor
  · intro h x hx; exact h x ((lbasis_sp l x).mpr hx)
  · intro h x hx; exact h x ((lbasis_sp l x).mp hx)
theorem clr_lin (R : List Nat) : Lin (clr R) := offs_lin top R
theorem rk_clr {R l : List Nat} (h : Red R) : rk (l.map (clr R)) + R.length = rk (l ++ R) := by
  have hd : ∀ x, Spn R x → Spn (l.map (clr R)) x → x = 0 := fun x h1 h2 => by
    obtain ⟨y, _, e⟩ := (sp_map (clr_lin R)).mp h2
    have h3 : clr R x = 0 := offs_zero h.ech h1
    rw [e] at h3 ⊢
    rw [show clr R (clr R y) = clr R y from offs_idem h.ech y] at h3
    exact h3
  have h1 := rk_append hd
  rw [ech_rk h.ech] at h1
  rw [← h1]
  refine rk_same fun x => ⟨sp_mono fun w hw => ?_, sp_mono fun w hw => ?_⟩
  · rcases List.mem_append.mp hw with hw | hw
    · obtain ⟨y, hy, rfl⟩ := List.mem_map.mp hw
      have s1 : Spn (l ++ R) (y ^^^ clr R y) := sp_sub (fun u hu => List.mem_append_right _ hu) (clr_sp R y)
      have := sp_xor s1 (sp_mem (List.mem_append_left R hy))
      rwa [Nat.xor_comm y, xx] at this
    · exact sp_mem (List.mem_append_right _ hw)
  · rcases List.mem_append.mp hw with hw | hw
    · have s1 : Spn (l.map (clr R) ++ R) (w ^^^ clr R w) := sp_sub (fun u hu => List.mem_append_right _ hu) (clr_sp R w)
      have := sp_xor s1 (sp_mem (List.mem_append_left R (List.mem_map.mpr ⟨w, hw, rfl⟩)))
      rwa [xx] at this
    · exact sp_mem (List.mem_append_right _ hw)
/-- the steps of sums: partners less twins -/
theorem steps_eq {n : Nat} {s l u ur R1 R2 K1 K2 rows : List Nat} (hs : Lt n s) (hl : Lt n l) (hu : Lt n u) (ho : rk (s ++ l) = n) (h1 : RowsOf s R1) (hur : RowsOf u ur) (h2 : RowsOf (s ++ ur) R2)
    (k1 : KerOf (l.map (clr R1)) K1) (k2 : KerOf (l.map (clr R2)) K2) (hr : RowsOf (K1 ++ K2) rows) : (rows.length : Int) - (K1.length : Int) = ((lsize (s ++ u) - lsize s : Nat) : Int) ∧ K1.length ≤ rows.length := by
  have a1 := k1.rank
  have a2 := k2.rank
  rw [List.length_map] at a1 a2
  have b1 := rk_clr (l := l) h1.1
  have b2 := rk_clr (l := l) h2.1
  have hall : ∀ x, x < 2 ^ n → Spn (s ++ l) x := (rk_all (fun w hw => by rcases List.mem_append.mp hw with hw | hw; exact hs w hw; exact hl w hw)).mp ho
  have c1 : rk (l ++ R1) = n := by
    rw [← ho]
    refine rk_same fun x => ⟨sp_mono fun w hw => ?_, sp_mono fun w hw => ?_⟩
    · rcases List.mem_append.mp hw with hw | hw
      · exact sp_mem (List.mem_append_right _ hw)
      · exact sp_sub (fun u hu => List.mem_append_left _ hu) ((h1.2 w).mp (sp_mem hw))
    · rcases List.mem_append.mp hw with hw | hw
      · exact sp_sub (fun u hu => List.mem_append_right _ hu) ((h1.2 w).mpr (sp_mem hw))
      · exact sp_mem (List.mem_append_left _ hw)
  have hsu : Lt n (s ++ u) := fun w hw => by rcases List.mem_append.mp hw with hw | hw; exact hs w hw; exact hu w hw
  have d2 : ∀ x, Spn R2 x ↔ Spn (s ++ u) x := fun x => (h2.2 x).trans ⟨sp_mono fun w hw => by
      rcases List.mem_append.mp hw with hw | hw
      · exact sp_mem (List.mem_append_left _ hw)
      · exact sp_sub (fun u hu => List.mem_append_right _ hu) ((hur.2 w).mp (sp_mem hw)), sp_mono fun w hw => by
      rcases List.mem_append.mp hw with hw | hw
      · exact sp_mem (List.mem_append_left _ hw)
      · exact sp_sub (fun u hu => List.mem_append_right _ hu) ((hur.2 w).mpr (sp_mem hw))⟩
  have r2lt : Lt n R2 := fun w hw => sp_lt hsu ((d2 w).mp (sp_mem hw))
  have c2 : rk (l ++ R2) = n := by
    refine (rk_all (fun w hw => by rcases List.mem_append.mp hw with hw | hw; exact hl w hw; exact r2lt w hw)).mpr fun x hx => sp_mono (fun w hw => ?_) (hall x hx)
    rcases List.mem_append.mp hw with hw | hw
    · exact sp_sub (fun u hu => List.mem_append_right _ hu) ((d2 w).mpr (sp_mem (List.mem_append_left _ hw)))
    · exact sp_mem (List.mem_append_left _ hw)
  have e1 : R1.length = rk s := h1.len
  have e2 : R2.length = rk (s ++ u) := (RowsOf.mk_len h2 d2)
  have m1 : rk s ≤ rk (s ++ u) := rk_mono fun x hx => sp_sub (fun u hu => List.mem_append_left _ hu) hx
  -- twins are partners
  have sub : ∀ x, Spn K1 x → Spn K2 x := fun x hx => by
    obtain ⟨p1, p2⟩ := (k1.2 x).mp hx
    refine (k2.2 x).mpr ⟨by rwa [List.length_map] at p1 ⊢, ?_⟩
    have f : ∀ (R : List Nat) (x : Nat), img (l.map (clr R)) x = clr R (img l x) := fun R => by
      induction l with
      | nil => intro x; exact (clr_lin R).zero.symm
      | cons a l ih =>
        intro x
        show (if x.testBit 0 then clr R a else 0) ^^^ img (l.map (clr R)) (x / 2) = clr R ((if x.testBit 0 then a else 0) ^^^ img l (x / 2))
        rw [clr_lin R, img_map_clr R l (x / 2)]
        congr 1
        split
        · rfl
        · exact (clr_lin R).zero.symm
    rw [f] at p2 ⊢
    have q1 : Spn R1 (img l x) := (offs_iff h1.1.ech).mpr p2
    exact offs_zero h2.1.ech ((d2 _).mpr (sp_sub (fun u hu => List.mem_append_left _ hu) ((h1.2 _).mp q1)))
  have g : rows.length = K2.length := by
    rw [hr.len, ← ech_rk k2.1.ech]
    refine rk_same fun x => ⟨sp_mono fun w hw => ?_, sp_sub fun w hw => List.mem_append_right _ hw⟩
    rcases List.mem_append.mp hw with hw | hw
    · exact sub w (sp_mem hw)
    · exact sp_mem hw
  rw [lsize_rk, lsize_rk]
  omega
where
  RowsOf.mk_len {ws vs rows : List Nat} (h : RowsOf ws rows) (e : ∀ x, Spn rows x ↔ Spn vs x) : rows.length = rk vs := by
    rw [← ech_rk h.1.ech]
    exact rk_same e
  img_map_clr (R : List Nat) : ∀ (l : List Nat) (x : Nat), img (l.map (clr R)) x = clr R (img l x)
    | [], x => (clr_lin R).zero.symm
    | a :: l, x => by
      show (if x.testBit 0 then clr R a else 0) ^^^ img (l.map (clr R)) (x / 2) = clr R ((if x.testBit 0 then a else 0) ^^^ img l (x / 2))
      rw [clr_lin R, img_map_clr R l (x / 2)]
      congr 1
      split
      · rfl
      · exact (clr_lin R).zero.symm
end L2.Lk
/-! RExc -/
set_option Elab.async false
set_option linter.all false
set_option maxRecDepth 100000
set_option maxHeartbeats 2000000
namespace L2.Lk
open PySem PySem.Spec PyProof.Rows
/-! ### an own error class whose __init__ says super().__init__(..) -/
structure SupC (P : Program) (K : PySem.W.Frag) (mg : Str → Option Value) (C : Addr) (qual : Str) (st : Stmt) (fI : Addr) (fd : FuncData) : Prop where
  T : OexC K C
  vE : PySem.W.subIn K (.ref C) (.type "ValueError") = some true
  sup : PySem.W.ks_superIn K C C "__init__" = some (some (.builtin "ValueError.__init__"))
  any : PySem.W.nsIn K cStatics "thirdparty.any" = some none
  nsup : mg "super" = none
  top : (P.main.scope.names.lookup ("super" : Str)).isSome = false
  fn : ∃ (oc : Value) (od an : Option Addr) (kV doc pm ct : Value) (osl : Array (Option Value)) (cda cc : Addr) (o1 : Value) (o2 : Option Addr) (vs : Array Value) (o3 : Array (Option Value)) (file : Str) (tf : Tok) (p1 : Value) (p2 : Option Addr) (p3 : Array (Option Value)),
    fd = PySem.W.ksFn "__init__" qual (defArgs st) (defBody st) (defScope st) .none kV doc pm an (.ref cda) ct cc ∧
    K.lookup fI = some ⟨oc, od, .func fd, osl⟩ ∧ PySem.W.codeIn K (.ref cda) qual = true ∧
    K.lookup cda = some ⟨o1, o2, .fields vs, o3⟩ ∧ vs[2]? = some (.str file tf) ∧ ((P.main.file : Str) == file) = true ∧
    K.lookup cc = some ⟨p1, p2, .cell (some (.ref C)), p3⟩
/-- the names of such a def: all local, besides __class__ -/
structure SupS (N : List Str) (ar : Arg) (sc : Scope) (st : Stmt) : Prop where
  kind : sc.kind = .function
  co : sc.isCoroutine = false
  gen : sc.isGenerator = false
  nd : N.Nodup
  loc : ∀ x ∈ N, sc.names.lookup x = some .local
  nocell : ∀ y ∈ sc.names, y.2 ≠ .cell
  free : ∀ y, sc.names.lookup y = some .free → y = "__class__"
  sup : sc.names.lookup ("super" : Str) = some .globalImplicit
  cls : sc.names.lookup ("__class__" : Str) = some .free
  hd : ((defArgs st).posonlyargs ++ (defArgs st).args).head? = some ar
  ar0 : N[0]? = some ar.arg
section
variable {P : Program} {w : World} {K : PySem.W.Frag} {mg : Str → Option Value} {base : Heap}
/-- the context of such an __init__ -/
def cxS (CX : CXT) (P : Program) (w : World) (K : PySem.W.Frag) (mg : Str → Option Value) (base : Heap) (N : List Str) (qual : Str) (scope : Scope) (f cc : Addr) (cd : Value) (A : Around) (outer : List Env) (s : Shared) (H : Hp) (E : XK) : Cx where
  prog := P
  w := w
  K := K
  mg := mg
  base := base
  A := A.deeper (PySem.W.ksEnv qual scope s.heap.objs.size f cd cc)
  N := N
  s_0 := s
  H_0 := H
  env := PySem.W.ksEnv qual scope s.heap.objs.size f cd cc
  outer := outer
  stack := PySem.W.ksEnv qual scope s.heap.objs.size f cd cc :: outer
  ex := []
  calm := true
  fn := fun _ => false
  pn := []
  xe := fun e s' => wpAny (model P w) (A.deeper (PySem.W.ksEnv qual scope s.heap.objs.size f cd cc)) (leaving (PySem.W.ksEnv qual scope s.heap.objs.size f cd cc) e) (fun _ s'' => CX outer H s E e s'') (fun e' s'' => CX outer H s E e' s'') s'
theorem invS_start {CX : CXT} {N : List Str} {qual : Str} {st : Stmt} {ar : Arg} {f cc : Addr} {cd p1 : Value} {p2 : Option Addr} {p3 : Array (Option Value)} {dd : Option Value} {A : Around} {outer : List Env} {s : Shared} {h1 : Heap} {t1 : Nat} {H : Hp} {E : XK} {us : List Value} {vs : List V}
    (S : SupS N ar (defScope st) st) (hd : A.handled = none) (e0 : Env0 P w K mg base A outer s H) (hl : vs.length = N.length) (r : Vals vs us) (hcc : K.lookup cc = some ⟨p1, p2, .cell dd, p3⟩)
    (hns : h1.Ns s.heap.objs.size (fun y => (N.zip us).reverse.lookup y)) (hk : ∀ b o, s.heap.get? b = some o → h1.get? b = some o) :
    Inv (cxS CX P w K mg base N qual (defScope st) f cc cd A outer s H E) [] (start N vs) H { s with heap := h1, toks := t1 } := by
  have noA : ∀ b : Addr, b ∉ (cxS CX P w K mg base N qual (defScope st) f cc cd A outer s H E).ex := fun b z => absurd (show b ∈ ([] : List Addr) from z) (by simp)
  have hcell : ∀ y c, ([("__class__", cc)] : List (Str × Addr)).lookup y = some c → y = "__class__" ∧ c = cc := fun y c h => by
    have h2 := PySem.mem_of_lookup h
    have h3 : (y, c) = ((("__class__" : Str), cc) : Str × Addr) := List.mem_singleton.mp h2
    exact ⟨congrArg Prod.fst h3, congrArg Prod.snd h3⟩
  have KX : K.In s.heap := e0.mod.kin.keeps fun b o e => (e0.bs b o e).1
  have hcb := e0.mod.kin cc _ hcc
  have hH : H cc = none := (e0.bs cc _ hcb).2
  have hs1 := (e0.bs cc _ hcb).1
  refine ⟨⟨e0.mod, S.kind, rfl, rfl, Nat.le_refl _, fun y z c h1 h2 => ?_, fun y hy => ?_, fun y c h _ => ?_, fun _ => hd, Around.frames_deeper e0.frames, .inr ⟨rfl, rfl⟩, fun b z => absurd z (noA b), e0.bs, e0.bsz, fun b _ _ => noA b, fun b z => absurd z (noA b), e0.funs, e0.frf⟩,
    rfl, e0.bare, Un.kept hk, ⟨_, hns, fun i y v h1 h2 h3 => ?_⟩, fun y c h => ?_, e0.hok.fresh (Nat.le_refl _), fun y c h => ?_, fun p hp => absurd (show p ∈ ([] : List (Addr × Obj)) from hp) (by simp), e0.hok.kept hk, ?_⟩
  · exact (hcell y c h1).1.trans (hcell z c h2).1.symm
  · have hy : (defScope st).names.lookup y = some .cell ∨ (defScope st).names.lookup y = some .free := hy
    rcases hy with hy | hy
    · exact absurd rfl (S.nocell _ (PySem.mem_of_lookup hy))
    · rw [S.free y hy]
      exact ⟨cc, rfl⟩
  · have z : false = true := h
    cases z
  · have hi : i < vs.length := by
      unfold start at h2
      by_cases hi : i < vs.length
      · exact hi
      · rw [List.getElem?_append_right (by simpa using hi)] at h2
        rw [List.getElem?_replicate] at h2
        split at h2 <;> cases h2
    have ha : vs[i]? = some v := by
      unfold start at h2
      rw [List.getElem?_append_left (by simpa using hi), List.getElem?_map] at h2
      cases e : vs[i]? with
      | none => rw [e] at h2; cases h2
      | some a => rw [e] at h2; cases h2; rfl
    obtain ⟨u, hu, rv⟩ := r.get ha
    have hy : N[i]? = some y := h1
    refine ⟨u, rv, .inl ⟨S.loc y (List.mem_of_getElem? hy), ?_⟩⟩
    show (N.zip us).reverse.lookup y = some u
    have q : bindL (fun _ => some NameKind.local) (N.zip us) (fun _ => none) y = some u := bindL_get S.nd hy hu rfl
    have nd2 : ∀ {l : List (Str × Value)}, (l.map (·.1)).Nodup → (y, u) ∈ l → l.lookup y = some u := by
      intro l
      induction l with
      | nil => intro _ h; cases h
      | cons a l ih =>
        intro hn hm
        rw [List.map_cons, List.nodup_cons] at hn
        rw [List.lookup_cons]
        rcases List.mem_cons.mp hm with e | hm
        · rw [← e]; simp
        · have : (y == a.1) = false := by
            refine beq_eq_false_iff_ne.mpr fun z => hn.1 ?_
            rw [← z]
            exact List.mem_map.mpr ⟨_, hm, rfl⟩
          rw [this]
          exact ih hn.2 hm
    have hlu : N.length = us.length := by rw [← hl]; exact r.length
    refine nd2 ?_ (List.mem_reverse.mpr ?_)
    · rw [List.map_reverse, List.map_fst_zip (Nat.le_of_eq hlu)]
      exact (List.reverse_perm N).nodup_iff.mpr S.nd
    · have hz : (N.zip us)[i]? = some (y, u) := by rw [List.getElem?_zip_eq_some]; exact ⟨hy, hu⟩
      exact List.mem_of_getElem? hz
  · obtain ⟨_, e2⟩ := hcell y c h
    rw [e2]
    exact ⟨dd, _, hk _ _ hs1, rfl⟩
  · rw [(hcell y c h).2]
    exact hH
  · unfold start
    show _ = N.length
    rw [List.length_append, List.length_map, List.length_replicate]
    omega
/-- super().__init__(..), bound: called -/
theorem mw_call {X : Cx} {pins : List (Addr × Obj)} {σ : St} {H : Hp} {s : Shared} {a C u : Addr} {us : List Value} {Q : Value → Shared → Prop} {E : Value → Shared → Prop} {A : Around} (T : OexC X.K C) (I : Inv X pins σ H s) (e : H a = some (exo a C none)) (hu : s.heap.get? u = some (PySem.W.kxs_mw "ValueError.__init__" a))
    (hl : us.length ≤ sizeLine) (h : ∀ s', Inv X pins σ H s' → Q .none s') :
    wpAny (model X.prog X.w) A (call (.ref u) us) Q E s := by
  obtain ⟨nm, q, N, bs, bm, sn, sub, ab, col, dd, k0, k1, k2, k3, k5, hC, hbm⟩ := T.cls
  obtain ⟨t1, ho⟩ := exo_at I.hok e
  obtain ⟨hp, g, d, t, os⟩ := s
  refine wpAny_call (codeAny_of_tree ?_)
  show wpAny _ A.in1 (callAny (.ref u) ⟨us, []⟩) _ _ _
  simp only [callAny]
  refine wpAny_bind (wpAny_load hu ?_)
  simp only [PySem.W.kxs_mw, show (Value.type "method-wrapper" == Value.type "method" || Value.type "method-wrapper" == Value.type "builtin_function_or_method" || Value.type "method-wrapper" == Value.type "method-wrapper") = true by decide, if_true]
  refine PySem.W.KFB.if_so (by decide) ?_
  refine wpAny_bind (PySem.W.check_bound_init F.excBase_ValueError.toExcCallFacts (I.kIn _ _ hC) ho rfl ?_)
  refine wpAny_bind (wpAny_pure (wpAny_pure ?_))
  refine ⟨plainId_quiet F.excBase_ValueError.init.plain _, codeAny_builtin F.excBase_ValueError.initEntry ?_⟩
  refine PySem.W.exc_init_tree (cls := .ref C) (t0 := t1) (dv := none) (c2 := .none) (c3 := .none) (b4 := .bool false) ho hl fun h' k hx _ => ?_
  have J := I.write (t' := t) (x := a) (e := a) (o := exo a C none) (by rw [e]; exact True.intro) (.inl rfl) k ⟨_, hx⟩ (exo_ok hx)
  have eu : upd H a (exo a C none) = H := by
    funext b
    by_cases hb : b = a
    · rw [hb, upd_same, e]
    · rw [upd_ne hb]
  rw [eu] at J
  exact h _ J

theorem sup_ok {CX : CXT} {k : Nat} {C fI : Addr} {qual : Str} {st : Stmt} {ar : Arg} {fd : FuncData} {N : List Str} {sp : Sp} {e : Expr} {es : List Expr} {rest : List Stmt} {p0 p1 p2 p4 p5 : Pos} (F : SupC P K mg C qual st fI fd) (S : SupS N ar (defScope st) st)
    (hbody : defBody st = .Expr (.Call (.Attribute (.Call (.Name "super" p0) [] [] p1) "__init__" p2) (e :: es) [] p4) p5 :: rest)
    (len : ∀ vs H Q E, sp vs H Q E → vs.length = N.length)
    (he : ∀ env : Env, starEach (e :: es) env = (false, eval e env) :: starEach es env) (hpl : ∀ env : Env, (backTo p4 (starEach es env)).any (·.1) = false)
    (hc : ∀ env : Env, env.scope = defScope st → eval (.Call (.Attribute (.Call (.Name "super" p0) [] [] p1) "__init__" p2) (e :: es) [] p4) env = (do
      let ov ← attributeBase (.Call (.Name "super" p0) [] [] p1) "__init__" env (eval (.Call (.Name "super" p0) [] [] p1) env)
      standAt p2.atName
      let (f, first) ← holding [ov] (getMethod ov "__init__" (plainOf (.Call (.Name "super" p0) [] [] p1) env))
      callWith p4 f first (backTo p4 (starEach (e :: es) env)) []))
    (hsw : ∀ env : Env, swapsWith (.Call (.Attribute (.Call (.Name "super" p0) [] [] p1) "__init__" p2) (e :: es) [] p4) none p5.line env = pure false)
    (hb : ∀ (cc : Addr) (cd : Value) (A : Around) (outer : List Env) (s : Shared) (H : Hp) (vs : List V) (Q : VK) (E : XK), sp vs H Q E →
      ∃ (ta : TA) (tr : TS) (a : Addr), PA (cxS CX P w K mg base N qual (defScope st) fI cc cd A outer s H E) (e :: es) ta ∧ PSs (cxS CX P w K mg base N qual (defScope st) fI cc cd A outer s H E) rest tr ∧ vs[0]? = some (.ref a) ∧ H a = some (exo a C none) ∧
        ta (start N vs) H fun us H1 => us.length ≤ 1000 ∧ H1 a = some (exo a C none) ∧ tr { nx := fun _ H' => Q .non H', rt := Q } (start N vs) H1) :
    FnOk P w K mg base CX (k + 1) fI fd N sp := by
  refine ⟨len, fun A outer s H args us vs Q E hr e0 hbi r hsp => ?_⟩
  obtain ⟨oc, od, an, kV, doc, pm, ct, osl, cda, cc, o1, o2, fvs, o3, file, tf, q1, q2, q3, rfl, lk, hcd, lkc, hvs, hfile, lcc⟩ := F.fn
  have hl := len _ _ _ _ hsp
  have KX : K.In s.heap := e0.mod.kin.keeps fun b o e => (e0.bs b o e).1
  have lim : s.heap.NoLimit := e0.mod.nolimit.keeps fun b o e => (e0.bs b o e).1
  have hloc : ∀ y ∈ N.zip us, (defScope st).names.lookup y.1 = some .local := fun ⟨n, v⟩ hy => S.loc n (List.of_mem_zip hy).1
  obtain ⟨ta, tr, a, hPA, hPS, h0, ha, hta⟩ := hb cc (.ref cda) A outer s H vs Q E hsp
  refine PySem.ks_codeAny_call_defAt (body := defBody st) (binds := N.zip us) hr.depth (KX _ _ lk) rfl lim (PySem.W.codeRec_of KX hcd) rfl hbi S.nocell hloc (fun h1 hns hk => ?_) S.co S.gen S.kind
  have I : Inv (cxS CX P w K mg base N qual (defScope st) fI cc (.ref cda) A outer s H E) [] (start N vs) H { s with heap := h1, toks := s.toks + (N.zip us).length } := invS_start S hr.hd e0 hl r lcc hns hk

  have hcls : ∃ nm q N bs bm sn sub ab col dd k0 k1 k2 k3 k5, K.lookup C = some (excClassObj nm q C N bs bm true sn sub ab col dd k0 k1 k2 k3 k5 "ValueError.__new__") ∧ PySem.HandSPX.refsVE bm = true := F.T.cls
  obtain ⟨nm, qn, NN, bs, bm, sn, sub, ab, col, dd, k0, k1, k2, k3, k5, hC, hbm⟩ := hcls
  have hcl : PySem.W.clsIn K C = some { name := nm, bases := bs, mro := .ref C :: bm, ns := NN, qualname := qn, hasDict := true, slotNames := sn, subclasses := sub, abstract := ab, collection := col, hasDel := false } := by unfold PySem.W.clsIn; rw [hC] <;> rfl
  have X1 : K.In h1 := I.kIn
  obtain ⟨t1, hx⟩ := exo_at I.hok ha
  have hal : PySem.W.alongIn K "__init__" (((Value.ref C :: bm).dropWhile (· != .ref C)).drop 1) = some (some (.builtin "ValueError.__init__")) := by
    have q := F.sup
    unfold PySem.W.ks_superIn at q
    rw [hcl] at q
    exact q
  have hself : PySem.W.mroIn K C (.ref C) = some true := by
    unfold PySem.W.mroIn
    rw [hcl, Option.bind_some]
    simp
  have II : PySem.W.InstAt h1 a ({ cls := .ref C, dict := none, data := .fields #[.ref t1, .none, .none, .none, .bool false, .none] } : Obj) C none := ⟨hx, rfl, rfl, trivial⟩
  show _root_.PySem.wpAt (model P w) (A.deeper (PySem.W.ksEnv qual (defScope st) s.heap.objs.size fI (.ref cda) cc)) (.func (defBody st) (PySem.W.ksEnv qual (defScope st) s.heap.objs.size fI (.ref cda) cc)) (execs (defBody st) (PySem.W.ksEnv qual (defScope st) s.heap.objs.size fI (.ref cda) cc)) _ _ _
  rw [show execs (defBody st) (PySem.W.ksEnv qual (defScope st) s.heap.objs.size fI (.ref cda) cc) = execs (.Expr (.Call (.Attribute (.Call (.Name "super" p0) [] [] p1) "__init__" p2) (e :: es) [] p4) p5 :: rest) (PySem.W.ksEnv qual (defScope st) s.heap.objs.size fI (.ref cda) cc) by rw [hbody]]
  refine PySem.ks_wpAt_execs_cons (PySem.ks_wpAt_Expr_any (PySem.ks_wpAt_MethodCall (pl := plainOf (.Call (.Name "super" p0) [] [] p1) (PySem.W.ksEnv qual (defScope st) s.heap.objs.size fI (.ref cda) cc)) ?_ (hc _ rfl)) I.quiet (hsw _))
  -- super()
  obtain ⟨m, hns1, hlo⟩ := id I.loc
  obtain ⟨mb, hb1, hb2⟩ := I.ok.mod.blt
  refine PySem.ks_wpAt_super_base (f := fI) (cc := cda) (ar := ar) (env := PySem.W.ksEnv qual (defScope st) s.heap.objs.size fI (.ref cda) cc) S.sup S.cls (by decide +kernel) rfl (X1 _ _ lk) rfl S.hd rfl (X1 _ _ lkc) rfl hvs hfile F.top ?_
  refine PySem.W.ks_loadName_global S.kind S.sup (PySem.Calls.loadGlobal_builtin (env := PySem.W.ksEnv qual (defScope st) s.heap.objs.size fI (.ref cda) cc) (I.ok.mod.glob.keeps I.bk) F.nsup (hb1.keeps I.bk) ((hb2 _ (by decide +kernel)).trans (by decide +kernel)) ⟨rfl, ?_⟩)
  refine wpAny_loadName_free S.kind S.cls rfl ⟨_, X1 _ _ lcc, rfl⟩ ?_
  have hst : (start N vs)[0]? = some (some (.ref a)) := by
    unfold start
    rw [List.getElem?_append_left (by rw [List.length_map]; exact (List.getElem?_eq_some_iff.mp h0).1), List.getElem?_map, h0]
    rfl
  obtain ⟨u0, ru0, lo⟩ := hlo 0 ar.arg (.ref a) S.ar0 hst (.inl (S.loc _ (List.mem_of_getElem? S.ar0)))
  obtain rfl : u0 = Value.ref a := ru0
  have hm : m ar.arg = some (.ref a) := by
    rcases lo with ⟨_, z⟩ | ⟨z, _⟩
    · exact z
    · have zl : (defScope st).names.lookup ar.arg = some .local := S.loc _ (List.mem_of_getElem? S.ar0)
      have z' : (defScope st).names.lookup ar.arg = some .cell ∨ (defScope st).names.lookup ar.arg = some .free := z
      rw [zl] at z'
      rcases z' with z' | z' <;> cases z'
  refine wpAny_loadName_local S.kind (S.loc _ (List.mem_of_getElem? S.ar0)) hns1 hm ?_
  refine PySem.ks_wpAny_isType_cls (X1 _ _ hC) rfl ⟨rfl, ?_⟩
  refine PySem.ks_wpAny_call_super (X1 _ _ hC) rfl hx rfl (fun c z => by cases z) (PySem.W.looks_mroIn X1 hself) (fun h2 hso k2 => ?_)
  have I2 := I.kept (h' := h2) (t' := s.toks + (N.zip us).length) k2
  have X2 : K.In h2 := I2.kIn
  refine PySem.W.kxs_getMethod PySem.W.kxs_ValueError hso (PySem.W.looks_opaque X2 F.any) (l₀ := .ref C :: bm) (fun A Q E s k q => wpAny_bind ((PySem.W.looks_clsIn X2 hcl) A _ E s k (wpAny_pure q))) rfl X2 hal ((II.type (M := model P w)).keeps k2 |>.andThen (PySem.W.looks_subIn X2 F.vE)) (PySem.W.ks_ne X1 II hcl) (by decide +kernel) ?_

  have k3 : ∀ b o, h2.get? b = some o → (h2.push (PySem.W.kxs_mw "ValueError.__init__" a)).get? b = some o := fun b o z => Heap.get?_push_of_some _ z
  have I3 := I2.kept (h' := h2.push (PySem.W.kxs_mw "ValueError.__init__" a)) (t' := s.toks + (N.zip us).length + 1) k3
  have hu : (h2.push (PySem.W.kxs_mw "ValueError.__init__" a)).get? h2.objs.size = some (PySem.W.kxs_mw "ValueError.__init__" a) := Heap.get?_push_at rfl rfl
  have hnu : H h2.objs.size = none := I2.hok.fresh (Nat.le_refl _)
  have I4 := I3.pins_of (pins' := [(h2.objs.size, PySem.W.kxs_mw "ValueError.__init__" a)]) (fun q hq => by
    obtain rfl := List.mem_singleton.mp hq
    refine ⟨hu, hnu, Nat.ne_of_gt I2.lt, I2.nofs (Nat.le_refl _), fun v z => ?_⟩
    cases z)
  show wpAny _ _ (callWith p4 (.ref h2.objs.size) [] (backTo p4 (starEach (e :: es) (PySem.W.ksEnv qual (defScope st) s.heap.objs.size fI (.ref cda) cc))) []) _ _ _
  have hpl2 : (backTo p4 (starEach (e :: es) (PySem.W.ksEnv qual (defScope st) s.heap.objs.size fI (.ref cda) cc))).any (·.1) = false := by
    rw [he]
    show (false || (backTo p4 (starEach es (PySem.W.ksEnv qual (defScope st) s.heap.objs.size fI (.ref cda) cc))).any (·.1)) = false
    rw [hpl]
    rfl
  have hrun := hPA.run p4 _ _ _ _ _ I4 hta
  refine PySem.W.kxs_callWith (i := "ValueError.__init__") (x := a) hpl2 ?_
  rw [he]
  refine PySem.Calls.evalArgs_plain ?_
  rw [he] at hrun
  refine thn hrun fun us1 s1 hh => ?_
  obtain ⟨vs1, H1, J, r1, hz, ha1, htr⟩ := hh
  obtain ⟨hu1, _⟩ := J.pin (h2.objs.size, PySem.W.kxs_mw "ValueError.__init__" a) (List.mem_append_right _ List.mem_cons_self)
  refine ⟨hu1, ?_⟩
  show wpAny _ _ (call (.ref h2.objs.size) ([] ++ us1)) _ _ _
  rw [List.nil_append]
  refine mw_call F.T J ha1 hu1 (by rw [← Paired.length r1, sizeLine_eq]; omega) fun s5 J5 => ?_
  have J6 : Inv (cxS CX P w K mg base N qual (defScope st) fI cc (.ref cda) A outer s H E) [] (start N vs) H1 s5 := J5.pins_of fun q hq => nomatch hq
  show _root_.PySem.wpAt (model P w) (A.deeper (PySem.W.ksEnv qual (defScope st) s.heap.objs.size fI (.ref cda) cc)) (.func (defBody st) (PySem.W.ksEnv qual (defScope st) s.heap.objs.size fI (.ref cda) cc)) (execs rest (PySem.W.ksEnv qual (defScope st) s.heap.objs.size fI (.ref cda) cc)) _ _ _
  refine wpAt_of_wpAny (wpAny_mono (hPS.run [] s5 (start N vs) H1 _ J6 htr) (fun fl s' hs => ?_) fun e s' hs => hs)
  have fin : ∀ {sg' : L2.St} {H' : Hp} {v : V} {u : Value}, Inv (cxS CX P w K mg base N qual (defScope st) fI cc (.ref cda) A outer s H E) [] sg' H' s' → RelV v u → Q v H' → CE outer P w H s Q u s' :=
    fun {sg' H' v u} J rv q => ⟨v, H', J.os, J.bare, J.base, J.hok, rv, q⟩
  cases fl with
  | ret u =>
    obtain ⟨v, sg', H', J, rv, q⟩ := hs
    exact fin J rv q
  | next =>
    obtain ⟨sg', H', J, q⟩ := hs
    exact fin (v := V.non) (u := Value.none) J rfl q
  | brk =>
    obtain ⟨_, _, _, q⟩ := hs
    exact False.elim q
  | cont =>
    obtain ⟨_, _, _, q⟩ := hs
    exact False.elim q
end
end L2.Lk
/-! ROps -/
set_option Elab.async false
set_option linter.all false
set_option maxRecDepth 100000
set_option maxHeartbeats 2000000
namespace L2.Lk
open PySem PySem.Spec PyProof.Rows
/-! ### a def at f keeps sp -/
def Ok (P : Program) (w : World) (K : PySem.W.Frag) (mg : Str → Option Value) (base : Heap) (k : Nat) (f : Addr) (ps : List Str) (sp : Sp) : Prop :=
  PySem.W.keepIn K (.ref f) = true ∧ ∃ fd, FnOk P w K mg base (L2.CX P w) k f fd ps sp ∧ Binds K fd ps []
section
variable {P : Program} {w : World} {K : PySem.W.Frag} {mg : Str → Option Value} {base : Heap} {j k : Nat} {f : Addr} {ps : List Str} {sp sp' : Sp}
theorem Ok.mono (h : Ok P w K mg base j f ps sp) (l : j ≤ k) : Ok P w K mg base k f ps sp :=
  let ⟨a, fd, b, c⟩ := h; ⟨a, fd, b.mono l, c⟩
theorem Ok.imp (h : Ok P w K mg base k f ps sp) (i : ∀ vs H Q E, sp' vs H Q E → sp vs H Q E) : Ok P w K mg base k f ps sp' :=
  let ⟨a, fd, b, c⟩ := h; ⟨a, fd, b.imp i, c⟩
end
section
variable {X : Cx} {k : Nat} {f C : Addr} {ps : List Str} {sp : Sp} {E : XK} {x m : Str} {p pos apos : Pos} {e o : Expr} {es : List Expr} {ta : TE} {t : TA}
theorem run_ok {pins : List (Addr × Obj)} {σ : St} {H : Hp} {s : Shared} {Q : VK} {us : List Value} {vs : List V} (F : Ok X.prog X.w X.K X.mg X.base k f ps sp) (hr : Room k X.A) (hx : Passes (L2.CX X.prog X.w) X E)
    (I : Inv X pins σ H s) (r : Vals vs us) (h : sp vs H Q E) : wpAny (model X.prog X.w) X.A (call (.ref f) us) (EP X pins σ Q) X.xe s := by
  obtain ⟨_, fd, F, b⟩ := F
  exact run_fn (dvs := []) F hr b .nil hx I r (by rw [List.append_nil]; exact h)
/-- f(e, ..) -/
def tCl (sp : Sp) (E : XK) (t : TA) : TE := fun σ H Q => t σ H fun vs H1 => sp vs H1 Q E
theorem pe_cl (F : Ok X.prog X.w X.K X.mg X.base k f ps sp) (hm : X.mg x = some (.ref f)) (hr : Room k X.A) (hx : Passes (L2.CX X.prog X.w) X E) (ha : PA X (e :: es) t) (hg : Gl X x := by rfl)
    (hdb : (x == ("__debug__" : Str)) = false := by decide) (he : starEach (e :: es) X.env = (false, eval e X.env) :: starEach es X.env := by rfl) (hpl : (backTo pos (starEach es X.env)).any (·.1) = false := by rfl) :
    PE X (.Call (.Name x p) (e :: es) [] pos) (tCl sp E t) := by
  refine ⟨fun pins s σ H Q I h => ?_⟩
  refine wpAny_Call_Name_kw (ld_glob I hg hm ?_ hdb)
  refine PySem.W.callWith_K (h₀ := X.base) I.ok.mod.kin F.1 (thn (ha.run pos pins s σ H _ I h) fun us s1 ⟨vs, H1, I1, r, q⟩ => ⟨I1.kIn, ?_⟩) he hpl
  exact run_ok F hr hx I1 r q
/-- o.m(e, ..), of an instance of C -/
def tMt (C : Addr) (m : Str) (sp : Sp) (E : XK) (ta : TE) (t : TA) : TE := fun σ H Q => ta σ H fun x H1 => ∃ a dx fs, x = .ref a ∧ H1 a = some (.ins C dx fs) ∧ fs.lookup m = none ∧ t σ H1 fun vs H2 => sp (x :: vs) H2 Q E
theorem pe_mt {pl : Sem Bool} (F : Ok X.prog X.w X.K X.mg X.base k f ps sp) (c : Cls X.K C) (hm : Meth X.K C m f) (hr : Room k X.A) (hx : Passes (L2.CX X.prog X.w) X E) (he : PE X o ta) (ha : PA X (e :: es) t)
    (hst : starEach (e :: es) X.env = (false, eval e X.env) :: starEach es X.env := by rfl) (hpl : (backTo pos (starEach es X.env)).any (·.1) = false := by rfl)
    (ht : eval (.Call (.Attribute o m apos) (e :: es) [] pos) X.env = (do
      let ov ← eval o X.env
      standAt apos.atName
      let (f, first) ← holding [ov] (getMethod ov m pl)
      callWith pos f first (backTo pos (starEach (e :: es) X.env)) (backToKw pos (keywordEach [] X.env))) := by rfl) :
    PE X (.Call (.Attribute o m apos) (e :: es) [] pos) (tMt C m sp E ta t) := by
  refine ⟨fun pins s σ H Q I h => ?_⟩
  refine PySem.W.methodCall_KW (pl := pl) (thn (he.run pins s σ H _ I h) fun u s1 ⟨x, H1, I1, rx, a, dx, fs, ex, ea, l, q⟩ => ?_) ht
  subst ex
  obtain rfl : u = Value.ref a := rx
  refine getmeth_ok I1 ea c hm l ?_
  refine PySem.W.callWith_K (first := [.ref a]) (h₀ := X.base) I.ok.mod.kin hm.kp (thn (ha.run pos pins s1 σ H1 _ I1 q) fun us s2 ⟨vs, H2, I2, r, q2⟩ => ⟨I2.kIn, ?_⟩) hst hpl
  exact run_ok (us := .ref a :: us) (vs := .ref a :: vs) F hr hx I2 (.cons rfl r) q2
theorem pe_mt0 {pl : Sem Bool} (F : Ok X.prog X.w X.K X.mg X.base k f ps sp) (c : Cls X.K C) (hm : Meth X.K C m f) (hr : Room k X.A) (hx : Passes (L2.CX X.prog X.w) X E) (he : PE X o ta)
    (ht : eval (.Call (.Attribute o m apos) [] [] pos) X.env = (do
      let ov ← eval o X.env
      standAt apos.atName
      let (f, first) ← holding [ov] (getMethod ov m pl)
      callWith pos f first (backTo pos (starEach [] X.env)) (backToKw pos (keywordEach [] X.env))) := by rfl) :
    PE X (.Call (.Attribute o m apos) [] [] pos) (tMt C m sp E ta tNil) := by
  refine ⟨fun pins s σ H Q I h => ?_⟩
  refine PySem.W.methodCall_KW (pl := pl) (thn (he.run pins s σ H _ I h) fun u s1 ⟨x, H1, I1, rx, a, dx, fs, ex, ea, l, q⟩ => ?_) ht
  subst ex
  obtain rfl : u = Value.ref a := rx
  refine getmeth_ok I1 ea c hm l ?_
  exact PySem.W.callWith_K0 (first := [.ref a]) I1.kIn hm.kp (run_ok (us := [.ref a]) (vs := [.ref a]) F hr hx I1 (.cons rfl .nil) q)
/-- C(e, ..) -/
def tMk (C : Addr) (sp : Sp) (E : XK) (t : TA) : TE := fun σ H Q => t σ H fun vs H1 => ∀ x dx, H1 x = none → H1 dx = none → dx ≠ x →
  sp (.ref x :: vs) (upd (upd H1 dx (.own x)) x (.ins C dx [])) (fun v H2 => v = .non ∧ Q (.ref x) H2) E
theorem pe_mk (F : Ok X.prog X.w X.K X.mg X.base k f ps sp) (M : Mk X.K C f) (hm : X.mg x = some (.ref C)) (hr : Room (k + 1) X.A) (hx : Passes (L2.CX X.prog X.w) X E) (ha : PA X (e :: es) t) (hg : Gl X x := by rfl)
    (hdb : (x == ("__debug__" : Str)) = false := by decide) (he : starEach (e :: es) X.env = (false, eval e X.env) :: starEach es X.env := by rfl) (hpl : (backTo pos (starEach es X.env)).any (·.1) = false := by rfl) :
    PE X (.Call (.Name x p) (e :: es) [] pos) (tMk C sp E t) := by
  refine ⟨fun pins s σ H Q I h => ?_⟩
  obtain ⟨_, fd, F, b⟩ := F
  refine wpAny_Call_Name_kw (ld_glob I hg hm ?_ hdb)
  refine PySem.W.callWith_K (h₀ := X.base) I.ok.mod.kin M.kp (thn (ha.run pos pins s σ H _ I h) fun us s1 ⟨vs, H1, I1, r, q⟩ => ⟨I1.kIn, ?_⟩) he hpl
  exact run_make (dvs := []) M F hr b .nil hx I1 r (fun x dx h1 h2 h3 => by rw [List.append_nil]; exact q x dx h1 h2 h3)
theorem pe_mk0 (F : Ok X.prog X.w X.K X.mg X.base k f ps sp) (M : Mk X.K C f) (hm : X.mg x = some (.ref C)) (hr : Room (k + 1) X.A) (hx : Passes (L2.CX X.prog X.w) X E) (hg : Gl X x := by rfl)
    (hdb : (x == ("__debug__" : Str)) = false := by decide) : PE X (.Call (.Name x p) [] [] pos) (tMk C sp E tNil) := by
  refine ⟨fun pins s σ H Q I h => ?_⟩
  obtain ⟨_, fd, F, b⟩ := F
  refine wpAny_Call_Name_kw (ld_glob I hg hm ?_ hdb)
  exact PySem.W.callWith_K0 I.kIn M.kp (run_make (dvs := []) (us := []) (vs := []) M F hr b .nil hx I .nil (fun x dx h1 h2 h3 => h x dx h1 h2 h3))
/-! ### operators by own methods -/
theorem inst_of {pins : List (Addr × Obj)} {σ : St} {H : Hp} {s : Shared} {a dx : Addr} {fs : List (Str × V)} (I : Inv X pins σ H s) (e : H a = some (.ins C dx fs)) : ∃ ox od, PySem.W.InstAt s.heap a ox C (some od) := by
  obtain ⟨mA, J, _⟩ := ins_get I.hok e
  obtain ⟨od, J, _⟩ := J.look
  exact ⟨_, od, J⟩
theorem un_inv (F : Ok X.prog X.w X.K X.mg X.base k f ps sp) (hm : Meth X.K C "__invert__" f) (hr : Room k X.A) (hx : Passes (L2.CX X.prog X.w) X E) :
    UnR X (unaryOp .Invert) (fun x H Q => ∃ a dx fs, x = .ref a ∧ H a = some (.ins C dx fs) ∧ sp [x] H Q E) := by
  intro pins s σ H x v Q I rx h
  obtain ⟨a, dx, fs, rfl, e, h⟩ := h
  obtain rfl : v = Value.ref a := rx
  obtain ⟨ox, od, J⟩ := inst_of I e
  obtain ⟨m, hF⟩ := I.fr
  exact PySem.W.ksp_inv hF I.ok.mod.kin J hm.at_ hm.fn (run_ok (vs := [.ref a]) F hr hx I (.cons rfl .nil) h)
/-- a * b, a & b of two instances of C -/
def rBin (C : Addr) (sp : Sp) (E : XK) : R2 := fun x y H Q => ∃ a dx fs b dy gs, x = .ref a ∧ y = .ref b ∧ H a = some (.ins C dx fs) ∧ H b = some (.ins C dy gs) ∧ sp [x, y] H (fun v H' => (∃ p, v = .ref p) ∧ Q v H') E
theorem op_own {op : Operator} (F : Ok X.prog X.w X.K X.mg X.base k f ps sp) (hm : Meth X.K C (PySem.dunder op.info.2) f) (hc : PySem.W.selfFirst X.K C = true) (hr : Room k X.A) (hx : Passes (L2.CX X.prog X.w) X E) :
    OpR X (binaryOp op) (rBin C sp E) := by
  intro pins s σ H x y v u Q I rx ry h
  obtain ⟨a, dx, fs, b, dy, gs, rfl, rfl, e1, e2, h⟩ := h
  obtain rfl : v = Value.ref a := rx
  obtain rfl : u = Value.ref b := ry
  obtain ⟨ox, od, J⟩ := inst_of I e1
  obtain ⟨oy, oe, J'⟩ := inst_of I e2
  obtain ⟨m, hF⟩ := I.fr
  refine PySem.W.binop_K hF I.ok.mod.kin J J'.type hc hm.at_ hm.fn (thn (run_ok (vs := [.ref a, .ref b]) F hr hx I (.cons rfl (.cons rfl .nil)) h) fun w s' q => ?_)
  obtain ⟨z, H', I', rz, ⟨p, ep⟩, q⟩ := q
  subst ep
  obtain rfl : w = Value.ref p := rz
  exact ⟨.ref p, H', I', rfl, q⟩
/-- a == b of two instances of C -/
def rEqO (C : Addr) (sp : Sp) (E : XK) : R2 := fun x y H Q => ∃ a dx fs b dy gs, x = .ref a ∧ y = .ref b ∧ H a = some (.ins C dx fs) ∧ H b = some (.ins C dy gs) ∧ sp [x, y] H (fun v H' => (∃ c, v = .bl c) ∧ Q v H') E
theorem op_eqO (F : Ok X.prog X.w X.K X.mg X.base k f ps sp) (hm : Meth X.K C "__eq__" f) (hr : Room k X.A) (hx : Passes (L2.CX X.prog X.w) X E) : OpR X (compareOp .Eq) (rEqO C sp E) := by
  intro pins s σ H x y v u Q I rx ry h
  obtain ⟨a, dx, fs, b, dy, gs, rfl, rfl, e1, e2, h⟩ := h
  obtain rfl : v = Value.ref a := rx
  obtain rfl : u = Value.ref b := ry
  obtain ⟨ox, od, J⟩ := inst_of I e1
  obtain ⟨oy, oe, J'⟩ := inst_of I e2
  obtain ⟨m, hF⟩ := I.fr
  show wpAny (model X.prog X.w) X.A (richCompare .Eq (.ref a) (.ref b)) (EP X pins σ Q) X.xe s
  refine PySem.W.cmp_K (op := .Eq) (tb := .ref C) hr.units0 hF I.ok.mod.kin J J'.type (by simp [PySem.W.notFirst]) hm.at_ hm.fn (thn (run_ok (vs := [.ref a, .ref b]) F hr hx I (.cons rfl (.cons rfl .nil)) h) fun w s' q => ?_)
  obtain ⟨z, H', I', rz, ⟨c, ep⟩, q⟩ := q
  subst ep
  obtain rfl : w = Value.bool c := rz
  exact ⟨.bl c, H', I', rfl, q⟩
/-- a class over object with own == and no own != -/
def neIn (K : PySem.W.Frag) (C f : Addr) : Bool := match K.lookup C with
  | some ⟨.type "type", _, .cls cd, sl⟩ => (match cd.mro, sl.toList with
    | .ref C' :: [.type "object"], [_, _, _, _, some (.builtin _), _] => C' == C && (!cd.hasDel && (PySem.W.nsOkIn K cd.ns && (PySem.W.nsIn K cd.ns "__eq__" == some (some (.ref f)) && PySem.W.nsIn K cd.ns "__ne__" == some none)))
    | _, _ => false)
  | _ => false
theorem look_eq : typeLookup (.type "object") "__eq__" = pure (some (.builtin "object.__eq__")) := by rw [typeLookup_type, builtinLookup_eq_fast]; kernel_rfl
theorem ns_val_of {K : PySem.W.Frag} {h : Heap} {N : Addr} {mg : Str → Option Value} {n : Str} {v : Value} (X : K.In h) (G : h.Ns N mg) (e : PySem.W.nsIn K N n = some (some v)) : mg n = some v := by
  obtain ⟨o, es, ep, ho, hd, _, hf⟩ := G
  unfold PySem.W.nsIn at e
  split at e
  · rename_i c d es' n' sl q
    have := X _ _ q
    rw [ho] at this
    cases this
    cases hd
    split at e
    · rename_i en he
      cases e
      rw [← hf]
      unfold nsFind findBy
      rw [← Array.find?_toList, he]
      rfl
    · split at e <;> cases e
  · cases e
theorem neIn_ok {K : PySem.W.Frag} {h : Heap} {a : Addr} {ox : Obj} {od : Option Obj} (X : K.In h) (I : PySem.W.InstAt h a ox C od) (e : neIn K C f = true) (ff : PySem.W.isFn K (.ref f) = true) : h.OwnEqNoNe a C f "object" [.type "object"] := by
  unfold neIn at e
  split at e
  · rename_i dd cd sl ho
    split at e
    · rename_i C' k0 k1 k2 k3 n k5 hm hs
      simp only [Bool.and_eq_true, beq_iff_eq, Bool.not_eq_true'] at e
      obtain ⟨rfl, hdel, hok, he, hn⟩ := e
      obtain ⟨nm, bs, mro, ns, qn, hd, sn, sub, ab, col, del⟩ := cd
      dsimp only at hm hdel hok he hn
      subst hm hdel
      have hsl : sl = #[k0, k1, k2, k3, some (.builtin n), k5] := by
        obtain ⟨l⟩ := sl
        simp only at hs
        rw [hs]
      subst hsl
      have hNs : h.Ns ns (h.nsMap ns) := .of_isNs (PySem.W.isNs_of_in X hok)
      have ht : (K.lookup f).map (·.cls) = some (.type "function") := beq_iff_eq.mp ff
      cases z : K.lookup f with
      | none => rw [z] at ht; cases ht
      | some of =>
        rw [z] at ht
        have hne : h.nsMap ns "__ne__" = none := PySem.W.nsMap_none_of_in X hok hn
        have heq : h.nsMap ns "__eq__" = some (.ref f) := ns_val_of X hNs he
        exact ⟨ox, of, nm, qn, ns, bs, hd, sn, sub, ab, col, dd, k0, k1, k2, k3, k5, n, _, _, I.at_, I.cls, X _ _ ho, hNs, heq, X _ _ z, Option.some.inj ht, PySem.F.cmp_object.mro, look_eq, hne⟩
    · cases e
  · cases e
/-- a != b of two instances of C, by the own == -/
theorem op_neO (F : Ok X.prog X.w X.K X.mg X.base k f ps sp) (ff : PySem.W.isFn X.K (.ref f) = true) (hn : neIn X.K C f = true) (hr : Room (k + 1) X.A) (hx : Passes (L2.CX X.prog X.w) X E) :
    OpR X (compareOp .NotEq) (fun x y H Q => ∃ a dx fs b dy gs, x = .ref a ∧ y = .ref b ∧ H a = some (.ins C dx fs) ∧ H b = some (.ins C dy gs) ∧ sp [x, y] H (fun v H' => ∃ c, v = .bl c ∧ Q (.bl (!c)) H') E) := by
  intro pins s σ H x y v u Q I rx ry h
  obtain ⟨a, dx, fs, b, dy, gs, rfl, rfl, e1, e2, h⟩ := h
  obtain rfl : v = Value.ref a := rx
  obtain rfl : u = Value.ref b := ry
  obtain ⟨ox, od, J⟩ := inst_of I e1
  obtain ⟨oy, oe, J'⟩ := inst_of I e2
  have X1 := neIn_ok I.kIn J hn ff
  obtain ⟨_, fd, F, hb⟩ := F
  obtain ⟨hp, g, d, t, os⟩ := s
  refine PySem.compareOp_ne_ownEq PySem.F.cmp_object X1 J'.at_ J'.cls (Nat.lt_of_le_of_lt (Nat.add_le_add_left (by decide : 1 ≤ 64) _) hr.units) ?_
  have r2 : Vals [V.ref a, V.ref b] [Value.ref a, Value.ref b] := .cons rfl (.cons rfl .nil)
  have hl : ([Value.ref a, Value.ref b] ++ []).length = ps.length := by
    have := F.len _ _ _ _ h
    simpa using this
  have e0 : Env0 X.prog X.w X.K X.mg X.base X.A.in1 X.stack ⟨hp, g, d, t, os⟩ H := by
    have e := I.env0
    exact ⟨e.frames, e.mod, e.bs, e.bsz, e.funs, e.frf, e.hok, e.bare⟩
  have bb := hb ⟨hp, g, d, t, os⟩ [.ref a, .ref b] I.kIn hl
  rw [List.append_nil] at bb
  refine wpAny_call (codeAny_mono (F.run X.A.in1 X.stack ⟨hp, g, d, t, os⟩ H ⟨[.ref a, .ref b], []⟩ [.ref a, .ref b] [.ref a, .ref b] _ E hr.in1 e0 bb r2 h) fun r s' hq => ?_)
  cases r with
  | error e => exact hx pins σ H _ e s' I hq
  | ok fl =>
    cases fl with
    | ret w =>
      obtain ⟨z, H', I', rz, c, ez, q⟩ := I.after hq
      subst ez
      obtain rfl : w = Value.bool c := rz
      exact ⟨c, rfl, .bl (!c), H', I', rfl, q⟩
    | next => exact False.elim hq
    | brk => exact False.elim hq
    | cont => exact False.elim hq
/-- a call from deeper in the same frame -/
theorem run_okA {A : Around} {pins : List (Addr × Obj)} {σ : St} {H : Hp} {s : Shared} {Q : VK} {us : List Value} {vs : List V} (F : Ok X.prog X.w X.K X.mg X.base k f ps sp) (hr : Room k A) (hfr : A.frames = X.A.frames) (hx : Passes (L2.CX X.prog X.w) X E)
    (I : Inv X pins σ H s) (r : Vals vs us) (h : sp vs H Q E) : wpAny (model X.prog X.w) A (call (.ref f) us) (EP X pins σ Q) X.xe s := by
  obtain ⟨_, fd, F, hb⟩ := F
  have hl : us.length = ps.length := by rw [← r.length]; exact F.len _ _ _ _ h
  have e0 : Env0 X.prog X.w X.K X.mg X.base A X.stack s H := by
    have e := I.env0
    exact ⟨by rw [hfr]; exact e.frames, e.mod, e.bs, e.bsz, e.funs, e.frf, e.hok, e.bare⟩
  have bb := hb s us I.kIn (by rw [List.append_nil]; exact hl)
  rw [List.append_nil] at bb
  refine wpAny_call (codeAny_mono (F.run A X.stack s H ⟨us, []⟩ us vs _ E hr e0 bb r h) fun r s' hq => ?_)
  cases r with
  | error e => exact hx pins σ H _ e s' I hq
  | ok fl =>
    cases fl with
    | ret w => exact I.after hq
    | next => exact False.elim hq
    | brk => exact False.elim hq
    | cont => exact False.elim hq
/-- a[b] by the own __getitem__ -/
theorem ix_own (F : Ok X.prog X.w X.K X.mg X.base k f ps sp) (hm : Meth X.K C "__getitem__" f) (hf : PySem.W.fnIn X.K f = true) (hr : Room (k + 1) X.A) (hx : Passes (L2.CX X.prog X.w) X E) {a b : Expr} {ta tb : TE} {pos : Pos} (ha : PE X a ta) (hb : PE X b tb)
    (hs : ∀ o i, subscripted b true o i = runValue (.builtin "lifetime.subscript" ⟨[o, i], []⟩) := by intro _ _; with_unfolding_all rfl) :
    PE X (.Subscript a b pos) (tOp (fun x y H Q => ∃ p dx fs, x = .ref p ∧ H p = some (.ins C dx fs) ∧ sp [x, y] H Q E) ta tb) := by
  refine ⟨fun pins s σ H Q I h => ?_⟩
  refine Subscript_ (binT ha hb I h fun v u s2 x y H2 I2 rx ry q => ?_)
  obtain ⟨p, dx, fs, rfl, e, q⟩ := q
  obtain rfl : v = Value.ref p := rx
  obtain ⟨ox, od, J⟩ := inst_of I2 e
  obtain ⟨m, hF⟩ := I2.fr
  exact PySem.W.sub_K hF I2.ok.mod.kin J hm.at_ hf hm.fn (run_okA (vs := [.ref p, y]) F hr.in1 rfl hx I2 (.cons rfl (.cons ry .nil)) q) (hs _ _)
/-- a in o, a not in o by the own __contains__ -/
theorem in_own (F : Ok X.prog X.w X.K X.mg X.base k f ps sp) (hm : Meth X.K C "__contains__" f) (hr : Room k X.A) (hx : Passes (L2.CX X.prog X.w) X E) :
    OpR X (compareOp .In) (fun x y H Q => ∃ p dx fs, y = .ref p ∧ H p = some (.ins C dx fs) ∧ sp [y, x] H (fun v H' => ∃ c, v = .bl c ∧ Q (.bl c) H') E) := by
  intro pins s σ H x y v u Q I rx ry h
  obtain ⟨p, dx, fs, rfl, e, h⟩ := h
  obtain rfl : u = Value.ref p := ry
  obtain ⟨ox, od, J⟩ := inst_of I e
  obtain ⟨m, hF⟩ := I.fr
  refine PySem.W.in_K hF I.ok.mod.kin J hm.at_ hm.fn (thn (run_ok (vs := [.ref p, x]) F hr hx I (.cons rfl (.cons rx .nil)) h) fun w s' q => ?_)
  obtain ⟨z, H', I', rz, c, ez, q⟩ := q
  subst ez
  obtain rfl : w = Value.bool c := rz
  exact wpAny_truthy_bool ⟨.bl c, H', I', rfl, q⟩
theorem notin_own (F : Ok X.prog X.w X.K X.mg X.base k f ps sp) (hm : Meth X.K C "__contains__" f) (hr : Room k X.A) (hx : Passes (L2.CX X.prog X.w) X E) :
    OpR X (compareOp .NotIn) (fun x y H Q => ∃ p dx fs, y = .ref p ∧ H p = some (.ins C dx fs) ∧ sp [y, x] H (fun v H' => ∃ c, v = .bl c ∧ Q (.bl (!c)) H') E) := by
  intro pins s σ H x y v u Q I rx ry h
  obtain ⟨p, dx, fs, rfl, e, h⟩ := h
  obtain rfl : u = Value.ref p := ry
  obtain ⟨ox, od, J⟩ := inst_of I e
  obtain ⟨m, hF⟩ := I.fr
  refine PySem.W.notIn_K hF I.ok.mod.kin J hm.at_ hm.fn (thn (run_ok (vs := [.ref p, x]) F hr hx I (.cons rfl (.cons rx .nil)) h) fun w s' q => ?_)
  obtain ⟨z, H', I', rz, c, ez, q⟩ := q
  subst ez
  obtain rfl : w = Value.bool c := rz
  exact wpAny_truthy_bool ⟨.bl (!c), H', I', rfl, q⟩
/-- len(o) by the own __len__ -/
theorem len_own (F : Ok X.prog X.w X.K X.mg X.base k f ps sp) (hm : Meth X.K C "__len__" f) (hr : Room (k + 1) X.A) (hx : Passes (L2.CX X.prog X.w) X E) :
    CallR X (.builtin "len") (fun vs H Q => ∃ p dx fs, vs = [.ref p] ∧ H p = some (.ins C dx fs) ∧ sp vs H (fun v H' => ∃ n : Nat, v = .int n ∧ n < 1000000 ∧ Q (.int n) H') E) := by
  intro pins s σ H vs us Q I r h
  obtain ⟨p, dx, fs, rfl, e, h⟩ := h
  cases r with
  | cons r1 r2 =>
    cases r2
    rename_i u
    obtain rfl : u = Value.ref p := r1
    obtain ⟨ox, od, J⟩ := inst_of I e
    obtain ⟨m, hF⟩ := I.fr
    refine PySem.W.len_K hF I.ok.mod.kin J hm.at_ hm.fn (thn (run_okA (vs := [.ref p]) F hr.in1 rfl hx I (.cons rfl .nil) h) fun w s' q => ?_)
    obtain ⟨z, H', I', rz, n, ez, hn, q⟩ := q
    subst ez
    obtain ⟨t, rfl⟩ := rz
    exact ⟨⟨Int.natCast_nonneg _, by omega⟩, .int n, H', I'.tok _, ⟨_, rfl⟩, q⟩
end
end L2.Lk
/-! RTry -/
set_option Elab.async false
set_option linter.all false
set_option maxRecDepth 100000
set_option maxHeartbeats 2000000
namespace L2.Lk
open PySem PySem.Spec PyProof.Rows
/-! ### try .. several clauses except X as n (slot i) -/
def endA (i : Nat) (D : Ends) : Ends := { nx := fun σ' H' => D.nx (σ'.set i none) H', rt := D.rt, bk := fun σ' H' => D.bk (σ'.set i none) H', ct := fun σ' H' => D.ct (σ'.set i none) H' }
def wManyA (K : PySem.W.Frag) (i : Nat) (Wout : WX) (D : Ends) : List (Value × (Addr → Value → Option Addr → TS)) → WX
  | [] => Wout
  | (c, ts) :: r => fun cls d σ H => ∃ b, PySem.W.exmOne K cls c = some b ∧ (b = true → ∀ a, H a = none → ts a cls d (endA i D) (σ.set i (some (.ref a))) H) ∧ (b = false → wManyA K i Wout D r cls d σ H)
inductive HdsA (X : Cx) (n : Str) : List ExceptHandler → List (Value × (Addr → Value → Option Addr → TS)) → Prop
  | nil : HdsA X n [] []
  | cons {x : Str} {c : Value} {ts : Addr → Value → Option Addr → TS} {b₀ : Stmt} {suite : List Stmt} {np pos' : Pos} {hds : List ExceptHandler} {l : List (Value × (Addr → Value → Option Addr → TS))} (hc : Names X x c)
      (hsu : ∀ (a : Addr) (oe : Obj) (cls : Value) (d : Option Addr) (pn : List (Addr × Obj)), Zc cls d oe → (∃ vs, oe.data = .fields vs) → PSs (X.suite a ((a, oe) :: pn)) (b₀ :: suite) (ts a cls d)) (r : HdsA X n hds l) :
      HdsA X n (.ExceptHandler (some (.Name x np)) (some n) (b₀ :: suite) pos' :: hds) ((c, ts) :: l)
section
variable {X : Cx} {n : Str} {i : Nat} {body : List Stmt} {h₀ : ExceptHandler} {hds : List ExceptHandler} {l : List (Value × (Addr → Value → Option Addr → TS))} {pos : Pos} {tb : WX → TS} {Wout : WX}
theorem ps_try_manyA (hs : X.stack = X.env :: X.outer) (hf : X.env.frame = some X.env.locals) (hN : X.N.Nodup) (hi : X.N[i]? = some n) (hln : X.env.kindOf n = some .local) (tk : Takes X Wout)
    (hb : ∀ (W : WX) (pn : List (Addr × Obj)) (xe : Value → Shared → Prop), Takes (X.tr pn xe) W → PassesOwn (model X.prog X.w) X.A X.env xe → PSs (X.tr pn xe) body (tb W))
    (hh : HdsA X n (h₀ :: hds) l) : PS X (.Try body (h₀ :: hds) [] [] pos) (fun D σ H => tb (wManyA X.K i Wout D l) D σ H) := by
  refine ⟨fun pins s σ H D I h => ?_⟩
  have ok := I.ok
  have hfr : X.A.frames = some (X.env :: X.outer) := by rw [ok.frames, hs]
  have hloc : Loc X.env.scope n := .inl hln
  refine wpAny_Try_except ?_
  refine wpAny_mono ((hb (wManyA X.K i Wout D l) (X.pn ++ pins) (fun e s₁ => wpAny (model X.prog X.w) X.A (noteFrame e X.env) (fun _ s₂ => wpAny (model X.prog X.w) X.A (setFlight e none) (fun _ s₃ =>
    wpAny (model X.prog X.w) X.A (handleBy e X.env (h₀ :: hds)) (SP X pins D) X.xe s₃) X.xe s₂) X.xe s₁) (fun u s' xx => ?_) PassesOwn.looking).run [] s σ H D (I.toTry _) h) (fun f s1 hsp => ?_) (fun e s1 he => he)
  · -- the catch
    obtain ⟨a, B, sI, pins', σ', H', cls, d, rfl, J', nb, up, sky, na, os, ag, w⟩ := xx
    have J : Inv X pins σ' H' sI := J'.ofTry ok
    have sky' : Sky B (X.env :: X.outer) a (Zc cls d) X.env.locals s'.heap := by rw [← hs]; exact sky
    show wpAny (model X.prog X.w) X.A (noteFrame (.ref a) X.env) _ _ _
    refine Sky.land Zc.steady hfr hf sky' fun h3 fl3 up3 => ?_
    have J3 : Inv X pins σ' H' { s' with heap := h3 } := J.landed nb fl3.1 (up.trans up3) os ag
    obtain ⟨oe3, vs3, he3, hz3, hd3⟩ := fl3.there
    have notFr : ∀ {h : Heap} {o : Obj} {vs : Array Value}, h.FunFrames B (X.env :: X.outer) → h.get? a = some o → o.data = .fields vs → a ∉ frs (X.env :: X.outer) := fun {h o vs} ff e dd hm => by
      obtain ⟨_, o', e', hnf⟩ := ff.mem hm
      rw [e] at e'; cases e'
      exact hnf _ dd
    have nfr := notFr fl3.2.2.1 he3 hd3
    have nL : a ≠ X.env.locals := fun z => nfr (List.mem_filterMap.mpr ⟨X.env, List.mem_cons_self, by rw [hf, z]⟩)
    have nF : a ∉ X.fs := fun hm => by
      obtain ⟨e, he, q⟩ := List.mem_filterMap.mp hm
      exact nfr (List.mem_filterMap.mpr ⟨e, List.mem_cons_of_mem _ he, q⟩)
    have S3 := J3.suite he3 hd3 na nL nF
    have go : ∀ {hds' : List ExceptHandler} {l' : List (Value × (Addr → Value → Option Addr → TS))}, HdsA X n hds' l' → wManyA X.K i Wout D l' cls d σ' H' →
        wpAny (model X.prog X.w) X.A (handleBy (.ref a) X.env hds') (SP X pins D) X.xe { s' with heap := h3 } := by
      intro hds' l' hk
      induction hk with
      | nil =>
        intro w
        refine wpAny_handleBy_nil ?_
        obtain ⟨k1, k2, k3, oe, vs, T, oT, ts', he, hz, hd, h1, hr⟩ := id fl3
        unfold PySem.passOn
        refine wpAny_bind (wpAny_field he hd h1 ?_)
        rw [if_neg (show ¬ ((Value.ref T == Value.none) = true) from by simp)]
        have fin : wpAny (model X.prog X.w) X.A (setFlight (.ref a) X.env.frame) (fun _ s4 => wpAny (model X.prog X.w) X.A (throw (.ref a) : Sem Flow) (SP X pins D) X.xe s4) X.xe { s' with heap := h3 } := by
          rw [hf]
          refine HandSPX.setFlight_upZ fl3 fun h4 hh4 up4 => wpAny_throw (tk _ _ ?_)
          exact ⟨a, B, sI, pins, σ', H', cls, d, rfl, J, nb, (up.trans up3).trans up4, .inr (.inr (by rw [hs]; exact hh4)), na, os, ag, w⟩
        first
          | exact wpAny_bind (wpAny_pure (wpAny_bind fin))
          | exact wpAny_bind fin
      | @cons x c ts b₀ suite np pos' hds2 l2 hc hsu r ih =>
        intro w
        obtain ⟨b, hb1, hyes, hno⟩ := w
        refine wpAny_handleBy_cons (codeAny_handlers_test ?_) (by intro q; cases q)
        have LT : PySem.W.Looks (model X.prog X.w) h3 (typeOf (.ref a)) cls := fun A Q E s k q => wpAny_typeOf_ref (k _ _ he3) (by rw [hz3.1]; exact q)
        have LM := PySem.W.exm_one (M := model X.prog X.w) (J3.kIn) LT hb1
        have test : ∀ {Q : Value → Shared → Prop} {E : Value → Shared → Prop}, Q c { s' with heap := h3 } → wpAny (model X.prog X.w) (X.A.mark (some (.ref a))) (eval (.Name x np) X.env) Q E { s' with heap := h3 } := fun {Q E} q => by
          obtain ⟨hg, hdbg, hm | ⟨hm, hv, hnn⟩⟩ := hc
          · exact ld_glob (X := X.suite a ((a, oe3) :: (X.pn ++ pins))) S3 hg hm q hdbg
          · exact ld_blt (X := X.suite a ((a, oe3) :: (X.pn ++ pins))) S3 hg hm hv q hnn hdbg
        refine test (LM.here ?_)
        cases b with
        | true =>
          refine codeAny_handlers_suite_as ?_
          refine HandSPX.lands_againZ fl3 fun h4 fl4 up4 => ?_
          have J4 : Inv X pins σ' H' { s' with heap := h4 } := J.landed nb fl4.1 ((up.trans up3).trans up4) os ag
          obtain ⟨oe4, vs4, he4, hz4, hd4⟩ := fl4.there
          have S4 := J4.suite he4 hd4 na nL nF
          refine store_ok (X := X.suite a ((a, oe4) :: (X.pn ++ pins))) (v := .ref a) S4 hN hi hloc rfl (fun s5 S5 => ?_) (.inr hln)
          refine wpAny_mono ((hsu a oe4 cls d (X.pn ++ pins) hz4 ⟨_, hd4⟩).run [] s5 _ H' _ S5 (hyes rfl a na)) (fun f s6 hsp => ?_) (fun _ _ z => False.elim z)
          have end_ : ∀ {σ6 : St} {H6 : Hp} {Q : Shared → Prop}, Inv (X.suite a ((a, oe4) :: (X.pn ++ pins))) [] σ6 H6 s6 → (∀ s7, Inv X pins (σ6.set i none) H6 s7 → Q s7) →
              wpAny (model X.prog X.w) X.A (do bindName X.env n .none; unbindBehindTheSuite X.env n pos') (fun _ s7 => Q s7) X.xe s6 := fun {σ6 H6 Q} S6 hq => gone_ok (S6.unsuite ok) hN hi hln hq
          cases f with
          | next =>
            obtain ⟨σ6, H6, S6, q6⟩ := hsp
            exact end_ S6 fun s7 J7 => ⟨_, _, J7, q6⟩
          | brk =>
            obtain ⟨σ6, H6, S6, q6⟩ := hsp
            exact end_ S6 fun s7 J7 => ⟨_, _, J7, q6⟩
          | cont =>
            obtain ⟨σ6, H6, S6, q6⟩ := hsp
            exact end_ S6 fun s7 J7 => ⟨_, _, J7, q6⟩
          | ret u =>
            obtain ⟨v6, σ6, H6, S6, r6, q6⟩ := hsp
            exact end_ S6 fun s7 J7 => ⟨_, _, _, J7, r6, q6⟩
        | false =>
          show wpAny _ X.A (handleBy (.ref a) X.env hds2) _ _ _
          exact ih (hno rfl)
    exact go hh w
  · cases f with
    | next =>
      obtain ⟨σ', H', J', q⟩ := hsp
      exact wpAny_execs_nil ⟨σ', H', J'.ofTry ok, q⟩
    | brk =>
      obtain ⟨σ', H', J', q⟩ := hsp
      exact ⟨σ', H', J'.ofTry ok, q⟩
    | cont =>
      obtain ⟨σ', H', J', q⟩ := hsp
      exact ⟨σ', H', J'.ofTry ok, q⟩
    | ret u =>
      obtain ⟨v, σ', H', J', r, q⟩ := hsp
      exact ⟨v, σ', H', J'.ofTry ok, r, q⟩
end
/-! ### isinstance of a caught error, with or without a dict -/
theorem clsIn_some_of_dict {K : PySem.W.Frag} {D : Addr} (h : PySem.W.hasDictIn K D = true) : (PySem.W.clsIn K D).isSome = true := by
  unfold PySem.W.hasDictIn at h
  cases q : PySem.W.clsIn K D with
  | none => rw [q] at h; cases h
  | some cd => rfl
def rIsE2 (K : PySem.W.Frag) (a D : Addr) (d : Option Addr) : List V → Hp → VK → Prop := fun xs H Q => ∃ (c : V) (cv : Value) (b : Bool), xs = [.ref a, c] ∧ (∀ u, RelV c u → u = cv) ∧ PySem.W.kitOne K (.ref D) cv = some b ∧ (d = none ∨ ∃ dd fs, d = some dd ∧ H dd = some (.xd fs)) ∧ Q (.bl b) H
theorem call_isE2 {X : Cx} {a D : Addr} {d : Option Addr} {oe : Obj} {pn : List (Addr × Obj)} (C : ExcC X.K D) (hz : Zc (.ref D) d oe) (hf : ∃ vs, oe.data = .fields vs) : CallR (X.suite a ((a, oe) :: pn)) (.builtin "isinstance") (rIsE2 X.K a D d) := by
  intro pins s σ H xs us Q I r h
  obtain ⟨c, cv, b, rfl, hcv, e, hd, q⟩ := h
  cases r with
  | cons rx rr =>
    cases rr with
    | cons rt rr =>
      cases rr
      cases rx
      have ec := hcv _ rt
      subst ec
      obtain ⟨hget, _⟩ := I.pin (a, oe) (List.mem_append.mpr (.inl List.mem_cons_self))
      obtain ⟨vs, hv⟩ := hf
      have J : ∃ od, PySem.W.InstAt s.heap a oe D od := by
        obtain ⟨oc, od, oda, osl⟩ := oe
        obtain ⟨h1, h2⟩ := hz
        dsimp only at h1 h2 hv
        subst h1 h2 hv
        rcases hd with hd | ⟨dd, fs, hd, hh⟩
        · subst hd
          exact ⟨none, hget, rfl, rfl, trivial⟩
        · subst hd
          obtain ⟨mA, ⟨od, es, ep, ho, _⟩, _⟩ := I.hok dd _ hh
          exact ⟨some od, hget, rfl, rfl, ho⟩
      obtain ⟨od, J⟩ := J
      exact PySem.W.kia_one (PySem.W.kitx_exc (od := od) (clsIn_some_of_dict C.hd) C.hg C.hk C.hs C.ha C.hn C.ht C.hm) I.kIn J e (fun z => nomatch z) fun tk => ⟨.bl b, H, I.kept (t' := tk) fun _ _ z => z, rfl, q⟩
end L2.Lk
/-! NOps -/
set_option Elab.async false
set_option linter.all false
set_option maxRecDepth 100000
set_option maxHeartbeats 2000000
namespace L2.Lk
open PySem PySem.Spec PyProof.Rows
/-! ### ints that are naturals -/
abbrev nV (n : Nat) : V := .int (n : Int)
abbrev wl (ws : List Nat) : List V := ws.map nV
def rN (g : Nat → Nat → V) : R2 := fun x y H Q => ∃ a b : Nat, x = nV a ∧ y = nV b ∧ Q (g a b) H
def rNc (C : Nat → Nat → Prop) (g : Nat → Nat → V) : R2 := fun x y H Q => ∃ a b : Nat, x = nV a ∧ y = nV b ∧ C a b ∧ Q (g a b) H
section
variable {X : Cx}
theorem rn_of {f : Value → Value → Sem Value} {h : Int → Int → V} {g : Nat → Nat → V} (r : OpR X f (rI0 h)) (e : ∀ a b : Nat, h a b = g a b) : OpR X f (rN g) := fun pins s σ H x y v u Q I rx ry q => by
  obtain ⟨a, b, rfl, rfl, q⟩ := q
  exact r pins s σ H _ _ v u Q I rx ry ⟨_, _, rfl, rfl, by rw [e]; exact q⟩
theorem rn_ofc {f : Value → Value → Sem Value} {D : Int → Int → Prop} {C : Nat → Nat → Prop} {h : Int → Int → V} {g : Nat → Nat → V} (r : OpR X f (rI D h)) (d : ∀ a b : Nat, C a b → D a b) (e : ∀ a b : Nat, C a b → h a b = g a b) : OpR X f (rNc C g) := fun pins s σ H x y v u Q I rx ry q => by
  obtain ⟨a, b, rfl, rfl, c, q⟩ := q
  exact r pins s σ H _ _ v u Q I rx ry ⟨_, _, rfl, rfl, d _ _ c, by rw [e _ _ c]; exact q⟩
theorem bxor (a b : Nat) : Builtin.bitXor (a : Int) (b : Int) = ((a ^^^ b : Nat) : Int) := by
  rw [Bits.bitXor_pp (Int.natCast_nonneg _) (Int.natCast_nonneg _), Int.toNat_natCast, Int.toNat_natCast]
theorem band (a b : Nat) : Builtin.bitAnd (a : Int) (b : Int) = ((a &&& b : Nat) : Int) := by
  rw [bitAnd_pp (Int.natCast_nonneg _) (Int.natCast_nonneg _), Int.toNat_natCast, Int.toNat_natCast]
theorem pow_cast (j : Nat) : ((2 : Int) ^ j) = ((2 ^ j : Nat) : Int) := by norm_cast
theorem pow_cast' (j : Nat) : ((2 : Int) ^ ((j : Nat) : Int).toNat) = ((2 ^ j : Nat) : Int) := by rw [Int.toNat_natCast, pow_cast]
theorem op_addM : OpR X (binaryOp .Add) (rN fun a b => nV (a + b)) := rn_of op_add fun a b => by show V.int _ = V.int _; norm_cast
theorem op_mulM : OpR X (binaryOp .Mult) (rNc (fun a _ => a < 2 ^ 64) fun a b => nV (a * b)) := rn_ofc op_mul (fun a b h => .inl ⟨by omega, by omega⟩) fun a b _ => by show V.int _ = V.int _; norm_cast
theorem op_subM : OpR X (binaryOp .Sub) (rNc (fun a b => b ≤ a) fun a b => nV (a - b)) := rn_ofc (D := fun _ _ => True) (h := fun i j => .int (i - j)) (fun pins s σ H x y v u Q I rx ry q => by
  obtain ⟨a, b, rfl, rfl, _, q⟩ := q
  exact op_sub pins s σ H _ _ v u Q I rx ry ⟨_, _, rfl, rfl, q⟩) (fun _ _ _ => trivial) fun a b h => by show V.int _ = V.int _; congr 1; omega
theorem op_xorM : OpR X (binaryOp .BitXor) (rN fun a b => nV (a ^^^ b)) := rn_of op_xor fun a b => congrArg V.int (bxor a b)
theorem op_andM' : OpR X (binaryOp .BitAnd) (rN fun a b => nV (a &&& b)) := rn_of op_and fun a b => congrArg V.int (band a b)
theorem op_shlM : OpR X (binaryOp .LShift) (rNc (fun a b => a < 2 ^ 64 ∧ b ≤ 1000000) fun a b => nV (a * 2 ^ b)) := rn_ofc op_shl (fun a b h => ⟨by omega, by omega, by omega⟩) fun a b _ => by
  show V.int _ = V.int _
  rw [pow_cast']; norm_cast
theorem op_shrM : OpR X (binaryOp .RShift) (rN fun a b => nV (a / 2 ^ b)) := fun pins s σ H x y v u Q I rx ry q => by
  obtain ⟨a, b, rfl, rfl, q⟩ := q
  refine op_shr pins s σ H _ _ v u Q I rx ry ⟨_, _, rfl, rfl, by omega, ?_⟩
  show Q (.int ((a : Int) / 2 ^ ((b : Nat) : Int).toNat)) H
  rw [pow_cast', ← Int.natCast_ediv]
  exact q
theorem op_modM : OpR X (binaryOp .Mod) (rNc (fun _ b => 0 < b) fun a b => nV (a % b)) := rn_ofc op_mod (fun a b h => by omega) fun a b _ => by show V.int _ = V.int _; norm_cast
theorem op_fdivM : OpR X (binaryOp .FloorDiv) (rNc (fun _ b => 0 < b ∧ b < 1073741824) fun a b => nV (a / b)) := rn_ofc op_fdiv (fun a b h => ⟨by omega, by omega⟩) fun a b _ => by show V.int _ = V.int _; norm_cast
theorem dec_cast {a b : Nat} : decide (nV a = nV b) = decide (a = b) := by
  by_cases h : a = b
  · subst h; simp
  · rw [decide_eq_false h, decide_eq_false fun z => h (by injection z with z; omega)]
theorem op_eqM : OpR X (compareOp .Eq) (rN fun a b => .bl (decide (a = b))) := fun pins s σ H x y v u Q I rx ry q => by
  obtain ⟨a, b, rfl, rfl, q⟩ := q
  exact op_eq pins s σ H _ _ v u Q I rx ry ⟨rfl, by rw [dec_cast]; exact q⟩
theorem op_neM : OpR X (compareOp .NotEq) (rN fun a b => .bl (!decide (a = b))) := fun pins s σ H x y v u Q I rx ry q => by
  obtain ⟨a, b, rfl, rfl, q⟩ := q
  exact op_ne pins s σ H _ _ v u Q I rx ry ⟨rfl, by rw [dec_cast]; exact q⟩
theorem op_ltM : OpR X (compareOp .Lt) (rN fun a b => .bl (decide (a < b))) := rn_of op_lt fun a b => congrArg V.bl (by simp)
theorem op_leM : OpR X (compareOp .LtE) (rN fun a b => .bl (decide (a ≤ b))) := rn_of op_le fun a b => congrArg V.bl (by simp)
theorem op_gtM : OpR X (compareOp .Gt) (rN fun a b => .bl (decide (b < a))) := rn_of op_gt fun a b => congrArg V.bl (by simp)
theorem op_geM : OpR X (compareOp .GtE) (rN fun a b => .bl (decide (b ≤ a))) := rn_of op_ge fun a b => congrArg V.bl (by simp)
/-- r & -r -/
theorem low_int {r : Nat} (h : r ≠ 0) : Builtin.bitAnd (r : Int) (-(r : Int)) = ((2 ^ tz r : Nat) : Int) := by
  obtain ⟨e1, e2⟩ := low_eq h
  have hn : ¬ (0 : Int) ≤ -(r : Int) := by omega
  have hb : (Builtin.bitNot (-(r : Int))).toNat = r - 1 := by unfold Builtin.bitNot; omega
  unfold Builtin.bitAnd
  rw [decide_eq_true (show (0 : Int) ≤ (r : Int) by omega), decide_eq_false hn]
  show (r : Int) - ((((r : Int)).toNat &&& (Builtin.bitNot (-(r : Int))).toNat : Nat) : Int) = _
  rw [hb, Int.toNat_natCast]
  omega
/-- a & -a, as a rule on a and what -a gave -/
theorem op_low : OpR X (binaryOp .BitAnd) (fun x y H Q => ∃ a : Nat, a ≠ 0 ∧ x = nV a ∧ y = .int (-(a : Int)) ∧ Q (nV (2 ^ tz a)) H) := fun pins s σ H x y v u Q I rx ry q => by
  obtain ⟨a, h0, rfl, rfl, q⟩ := q
  exact op_and pins s σ H _ _ v u Q I rx ry ⟨_, _, rfl, rfl, (congrArg (fun z => Q (.int z) H) (low_int h0)).mpr q⟩
/-- a.bit_length() -/
def bl (n : Nat) : Nat := if n = 0 then 0 else Nat.log2 n + 1
theorem bits_cast (n : Nat) : Builtin.Int.intBits (n : Int) = bl n := by
  unfold Builtin.Int.intBits bl
  by_cases h0 : n = 0
  · subst h0; rfl
  · rw [if_neg h0, if_neg (by simpa using h0)]
    rfl
def tBitsN (to : TE) : TE := fun σ H Q => to σ H fun x H1 => ∃ n : Nat, x = nV n ∧ Q (nV (bl n)) H1
theorem pe_bitsN {o : Expr} {to : TE} {apos pos : Pos} (ho : PE X o to) (hbase : attributeBase o "bit_length" X.env (eval o X.env) = eval o X.env := by rfl) (hline : (apos.endLine == pos.line) = true := by rfl) : PE X (.Call (.Attribute o "bit_length" apos) [] [] pos) (tBitsN to) := by
  refine ⟨fun pins s σ H Q I h => ?_⟩
  refine PySem.Call_method0 hbase hline (thn (ho.run pins s σ H _ I h) fun v s1 hv => ?_)
  obtain ⟨x, H1, I1, r1, n, rfl, q⟩ := hv
  obtain ⟨t, rfl⟩ := _root_.id r1
  rw [← bits_cast] at q
  refine ⟨"int", _, PySem.F.plainAttrs_int, PyProof.Rows.slot_int_bit_length, PyProof.Rows.type_int_bit_length, typeIs_int _ _ _, (fun _ e => nomatch e), ?_⟩
  exact Calls.callWith_builtin rfl (PySem.evalArgs_none (call_int_bit_length ⟨.int _, H1, I1.tok _, ⟨_, rfl⟩, q⟩))
end
end L2.Lk
/-! Fw -/
set_option Elab.async false
set_option linter.all false
set_option maxRecDepth 100000
set_option maxHeartbeats 2000000
namespace L2.Lk
open PySem PySem.Spec PyProof.Rows
/-! ### the text -/
def stm (i : Nat) : Stmt := PySem.Challenge.pw_laneswap_k42_whole_histories_of_desks.main.body.getD i (.Pass ⟨0, 0, 0, 0⟩)
abbrev st_is_whole : Stmt := stm 17
abbrev N_is_whole : List Str := ["value"]
abbrev D_is_whole : He.DefD := ⟨("is_whole", none), "is_whole", "is_whole", defArgs st_is_whole, defBody st_is_whole, defScope st_is_whole, [], []⟩
theorem sc_is_whole : FnScope N_is_whole ["value"] (defScope st_is_whole) := ⟨rfl, rfl, rfl, by decide +kernel, rfl, by decide +kernel, by decide +kernel⟩
abbrev st_need_whole : Stmt := stm 18
abbrev N_need_whole : List Str := ["value"]
abbrev D_need_whole : He.DefD := ⟨("need_whole", none), "need_whole", "need_whole", defArgs st_need_whole, defBody st_need_whole, defScope st_need_whole, [], []⟩
theorem sc_need_whole : FnScope N_need_whole ["value"] (defScope st_need_whole) := ⟨rfl, rfl, rfl, by decide +kernel, rfl, by decide +kernel, by decide +kernel⟩
abbrev st_need_items : Stmt := stm 19
abbrev N_need_items : List Str := ["value"]
abbrev D_need_items : He.DefD := ⟨("need_items", none), "need_items", "need_items", defArgs st_need_items, defBody st_need_items, defScope st_need_items, [], []⟩
theorem sc_need_items : FnScope N_need_items ["value"] (defScope st_need_items) := ⟨rfl, rfl, rfl, by decide +kernel, rfl, by decide +kernel, by decide +kernel⟩
abbrev st_need_word : Stmt := stm 20
abbrev N_need_word : List Str := ["value", "bits"]
abbrev D_need_word : He.DefD := ⟨("need_word", none), "need_word", "need_word", defArgs st_need_word, defBody st_need_word, defScope st_need_word, [], []⟩
theorem sc_need_word : FnScope N_need_word ["value", "bits"] (defScope st_need_word) := ⟨rfl, rfl, rfl, by decide +kernel, rfl, by decide +kernel, by decide +kernel⟩
abbrev st_need_words : Stmt := stm 21
abbrev N_need_words : List Str := ["values", "bits", "value"]
abbrev D_need_words : He.DefD := ⟨("need_words", none), "need_words", "need_words", defArgs st_need_words, defBody st_need_words, defScope st_need_words, [], []⟩
theorem sc_need_words : FnScope N_need_words ["values", "bits"] (defScope st_need_words) := ⟨rfl, rfl, rfl, by decide +kernel, rfl, by decide +kernel, by decide +kernel⟩
abbrev st_is_name : Stmt := stm 22
abbrev N_is_name : List Str := ["value", "letter"]
abbrev D_is_name : He.DefD := ⟨("is_name", none), "is_name", "is_name", defArgs st_is_name, defBody st_is_name, defScope st_is_name, [], []⟩
theorem sc_is_name : FnScope N_is_name ["value"] (defScope st_is_name) := ⟨rfl, rfl, rfl, by decide +kernel, rfl, by decide +kernel, by decide +kernel⟩
abbrev st_need_name : Stmt := stm 23
abbrev N_need_name : List Str := ["value"]
abbrev D_need_name : He.DefD := ⟨("need_name", none), "need_name", "need_name", defArgs st_need_name, defBody st_need_name, defScope st_need_name, [], []⟩
theorem sc_need_name : FnScope N_need_name ["value"] (defScope st_need_name) := ⟨rfl, rfl, rfl, by decide +kernel, rfl, by decide +kernel, by decide +kernel⟩
abbrev st_ones : Stmt := stm 25
abbrev N_ones : List Str := ["word", "found", "left", "low"]
abbrev D_ones : He.DefD := ⟨("ones", none), "ones", "ones", defArgs st_ones, defBody st_ones, defScope st_ones, [], []⟩
theorem sc_ones : FnScope N_ones ["word"] (defScope st_ones) := ⟨rfl, rfl, rfl, by decide +kernel, rfl, by decide +kernel, by decide +kernel⟩
abbrev st_cleared : Stmt := stm 27
abbrev N_cleared : List Str := ["rows", "word", "left", "row"]
abbrev D_cleared : He.DefD := ⟨("cleared", none), "cleared", "cleared", defArgs st_cleared, defBody st_cleared, defScope st_cleared, [], []⟩
theorem sc_cleared : FnScope N_cleared ["rows", "word"] (defScope st_cleared) := ⟨rfl, rfl, rfl, by decide +kernel, rfl, by decide +kernel, by decide +kernel⟩
abbrev st_grown : Stmt := stm 28
abbrev N_grown : List Str := ["rows", "word", "left", "top", "row"]
abbrev D_grown : He.DefD := ⟨("grown", none), "grown", "grown", defArgs st_grown, defBody st_grown, defScope st_grown, [], []⟩
theorem sc_grown : FnScope N_grown ["rows", "word"] (defScope st_grown) := ⟨rfl, rfl, rfl, by decide +kernel, rfl, by decide +kernel, by decide +kernel⟩
abbrev st_spanned : Stmt := stm 29
abbrev N_spanned : List Str := ["words", "rows", "word"]
abbrev D_spanned : He.DefD := ⟨("spanned", none), "spanned", "spanned", defArgs st_spanned, defBody st_spanned, defScope st_spanned, [], []⟩
theorem sc_spanned : FnScope N_spanned ["words"] (defScope st_spanned) := ⟨rfl, rfl, rfl, by decide +kernel, rfl, by decide +kernel, by decide +kernel⟩
abbrev st_image_of : Stmt := stm 32
abbrev N_image_of : List Str := ["columns", "word", "total", "bit"]
abbrev D_image_of : He.DefD := ⟨("image_of", none), "image_of", "image_of", defArgs st_image_of, defBody st_image_of, defScope st_image_of, [], []⟩
theorem sc_image_of : FnScope N_image_of ["columns", "word"] (defScope st_image_of) := ⟨rfl, rfl, rfl, by decide +kernel, rfl, by decide +kernel, by decide +kernel⟩
abbrev st_paired : Stmt := stm 33
abbrev N_paired : List Str := ["columns", "source", "bit"]
abbrev D_paired : He.DefD := ⟨("paired", none), "paired", "paired", defArgs st_paired, defBody st_paired, defScope st_paired, [], []⟩
theorem sc_paired : FnScope N_paired ["columns"] (defScope st_paired) := ⟨rfl, rfl, rfl, by decide +kernel, rfl, by decide +kernel, by decide +kernel⟩
abbrev st_kernel_rows : Stmt := stm 34
abbrev N_kernel_rows : List Str := ["columns", "row"]
abbrev D_kernel_rows : He.DefD := ⟨("kernel_rows", none), "kernel_rows", "kernel_rows", defArgs st_kernel_rows, defBody st_kernel_rows, defScope st_kernel_rows, [], []⟩
theorem sc_kernel_rows : FnScope N_kernel_rows ["columns"] (defScope st_kernel_rows) := ⟨rfl, rfl, rfl, by decide +kernel, rfl, by decide +kernel, by decide +kernel⟩
abbrev st_solved : Stmt := stm 35
abbrev N_solved : List Str := ["pairs", "source", "word", "left"]
abbrev D_solved : He.DefD := ⟨("solved", none), "solved", "solved", defArgs st_solved, defBody st_solved, defScope st_solved, [], []⟩
theorem sc_solved : FnScope N_solved ["pairs", "source", "word"] (defScope st_solved) := ⟨rfl, rfl, rfl, by decide +kernel, rfl, by decide +kernel, by decide +kernel⟩
abbrev st_met : Stmt := stm 36
abbrev N_met : List Str := ["bits", "rows", "others", "both", "row"]
abbrev D_met : He.DefD := ⟨("met", none), "met", "met", defArgs st_met, defBody st_met, defScope st_met, [], []⟩
theorem sc_met : FnScope N_met ["bits", "rows", "others"] (defScope st_met) := ⟨rfl, rfl, rfl, by decide +kernel, rfl, by decide +kernel, by decide +kernel⟩
abbrev st_need_space : Stmt := stm 39
abbrev N_need_space : List Str := ["value", "bits"]
abbrev D_need_space : He.DefD := ⟨("need_space", none), "need_space", "need_space", defArgs st_need_space, defBody st_need_space, defScope st_need_space, [], []⟩
theorem sc_need_space : FnScope N_need_space ["value", "bits"] (defScope st_need_space) := ⟨rfl, rfl, rfl, by decide +kernel, rfl, by decide +kernel, by decide +kernel⟩
abbrev st_need_map : Stmt := stm 42
abbrev N_need_map : List Str := ["value", "source", "goal"]
abbrev D_need_map : He.DefD := ⟨("need_map", none), "need_map", "need_map", defArgs st_need_map, defBody st_need_map, defScope st_need_map, [], []⟩
theorem sc_need_map : FnScope N_need_map ["value", "source", "goal"] (defScope st_need_map) := ⟨rfl, rfl, rfl, by decide +kernel, rfl, by decide +kernel, by decide +kernel⟩
abbrev st_need_one_to_one : Stmt := stm 43
abbrev N_need_one_to_one : List Str := ["change", "rows"]
abbrev D_need_one_to_one : He.DefD := ⟨("need_one_to_one", none), "need_one_to_one", "need_one_to_one", defArgs st_need_one_to_one, defBody st_need_one_to_one, defScope st_need_one_to_one, [], []⟩
theorem sc_need_one_to_one : FnScope N_need_one_to_one ["change"] (defScope st_need_one_to_one) := ⟨rfl, rfl, rfl, by decide +kernel, rfl, by decide +kernel, by decide +kernel⟩
abbrev st_need_onto : Stmt := stm 44
abbrev N_need_onto : List Str := ["change", "rows"]
abbrev D_need_onto : He.DefD := ⟨("need_onto", none), "need_onto", "need_onto", defArgs st_need_onto, defBody st_need_onto, defScope st_need_onto, [], []⟩
theorem sc_need_onto : FnScope N_need_onto ["change"] (defScope st_need_onto) := ⟨rfl, rfl, rfl, by decide +kernel, rfl, by decide +kernel, by decide +kernel⟩
abbrev st_any_spread : Stmt := stm 47
abbrev N_any_spread : List Str := ["value"]
abbrev D_any_spread : He.DefD := ⟨("any_spread", none), "any_spread", "any_spread", defArgs st_any_spread, defBody st_any_spread, defScope st_any_spread, [], []⟩
theorem sc_any_spread : FnScope N_any_spread ["value"] (defScope st_any_spread) := ⟨rfl, rfl, rfl, by decide +kernel, rfl, by decide +kernel, by decide +kernel⟩
abbrev st_hold_alike : Stmt := stm 49
abbrev N_hold_alike : List Str := ["one", "other", "space", "word", "two"]
abbrev D_hold_alike : He.DefD := ⟨("hold_alike", none), "hold_alike", "hold_alike", defArgs st_hold_alike, defBody st_hold_alike, defScope st_hold_alike, [], []⟩
theorem sc_hold_alike : FnScope N_hold_alike ["one", "other"] (defScope st_hold_alike) := ⟨rfl, rfl, rfl, by decide +kernel, rfl, by decide +kernel, by decide +kernel⟩
abbrev st_phase_bits : Stmt := stm 58
abbrev N_phase_bits : List Str := ["spread", "width"]
abbrev D_phase_bits : He.DefD := ⟨("phase_bits", none), "phase_bits", "phase_bits", defArgs st_phase_bits, defBody st_phase_bits, defScope st_phase_bits, [], []⟩
theorem sc_phase_bits : FnScope N_phase_bits ["spread", "width"] (defScope st_phase_bits) := ⟨rfl, rfl, rfl, by decide +kernel, rfl, by decide +kernel, by decide +kernel⟩
abbrev st_need_pair : Stmt := stm 60
abbrev N_need_pair : List Str := ["spread", "space"]
abbrev D_need_pair : He.DefD := ⟨("need_pair", none), "need_pair", "need_pair", defArgs st_need_pair, defBody st_need_pair, defScope st_need_pair, [], []⟩
theorem sc_need_pair : FnScope N_need_pair ["spread", "space"] (defScope st_need_pair) := ⟨rfl, rfl, rfl, by decide +kernel, rfl, by decide +kernel, by decide +kernel⟩
abbrev st_partner_rows : Stmt := stm 61
abbrev N_partner_rows : List Str := ["spread", "space", "rows", "word"]
abbrev D_partner_rows : He.DefD := ⟨("partner_rows", none), "partner_rows", "partner_rows", defArgs st_partner_rows, defBody st_partner_rows, defScope st_partner_rows, [], []⟩
theorem sc_partner_rows : FnScope N_partner_rows ["spread", "space"] (defScope st_partner_rows) := ⟨rfl, rfl, rfl, by decide +kernel, rfl, by decide +kernel, by decide +kernel⟩
abbrev st_partners : Stmt := stm 62
abbrev N_partners : List Str := ["spread", "space"]
abbrev D_partners : He.DefD := ⟨("partners", none), "partners", "partners", defArgs st_partners, defBody st_partners, defScope st_partners, [], []⟩
theorem sc_partners : FnScope N_partners ["spread", "space"] (defScope st_partners) := ⟨rfl, rfl, rfl, by decide +kernel, rfl, by decide +kernel, by decide +kernel⟩
abbrev st_leaders : Stmt := stm 63
abbrev N_leaders : List Str := ["spread", "space"]
abbrev D_leaders : He.DefD := ⟨("leaders", none), "leaders", "leaders", defArgs st_leaders, defBody st_leaders, defScope st_leaders, [], []⟩
theorem sc_leaders : FnScope N_leaders ["spread", "space"] (defScope st_leaders) := ⟨rfl, rfl, rfl, by decide +kernel, rfl, by decide +kernel, by decide +kernel⟩
abbrev st_sum_steps : Stmt := stm 67
abbrev N_sum_steps : List Str := ["spread", "space"]
abbrev D_sum_steps : He.DefD := ⟨("sum_steps", none), "sum_steps", "sum_steps", defArgs st_sum_steps, defBody st_sum_steps, defScope st_sum_steps, [], []⟩
theorem sc_sum_steps : FnScope N_sum_steps ["spread", "space"] (defScope st_sum_steps) := ⟨rfl, rfl, rfl, by decide +kernel, rfl, by decide +kernel, by decide +kernel⟩
abbrev st_need_promise : Stmt := stm 71
abbrev N_need_promise : List Str := ["value"]
abbrev D_need_promise : He.DefD := ⟨("need_promise", none), "need_promise", "need_promise", defArgs st_need_promise, defBody st_need_promise, defScope st_need_promise, [], []⟩
theorem sc_need_promise : FnScope N_need_promise ["value"] (defScope st_need_promise) := ⟨rfl, rfl, rfl, by decide +kernel, rfl, by decide +kernel, by decide +kernel⟩
abbrev st_bits_of : Stmt := stm 72
abbrev N_bits_of : List Str := ["thing"]
abbrev D_bits_of : He.DefD := ⟨("bits_of", none), "bits_of", "bits_of", defArgs st_bits_of, defBody st_bits_of, defScope st_bits_of, [], []⟩
theorem sc_bits_of : FnScope N_bits_of ["thing"] (defScope st_bits_of) := ⟨rfl, rfl, rfl, by decide +kernel, rfl, by decide +kernel, by decide +kernel⟩
abbrev st_is_kept : Stmt := stm 73
abbrev N_is_kept : List Str := ["promise", "things", "one", "other"]
abbrev D_is_kept : He.DefD := ⟨("is_kept", none), "is_kept", "is_kept", defArgs st_is_kept, defBody st_is_kept, defScope st_is_kept, [], []⟩
theorem sc_is_kept : FnScope N_is_kept ["promise", "things"] (defScope st_is_kept) := ⟨rfl, rfl, rfl, by decide +kernel, rfl, by decide +kernel, by decide +kernel⟩
abbrev st_spreads_keep : Stmt := stm 74
abbrev N_spreads_keep : List Str := ["promise", "one", "other"]
abbrev D_spreads_keep : He.DefD := ⟨("spreads_keep", none), "spreads_keep", "spreads_keep", defArgs st_spreads_keep, defBody st_spreads_keep, defScope st_spreads_keep, [], []⟩
theorem sc_spreads_keep : FnScope N_spreads_keep ["promise", "one", "other"] (defScope st_spreads_keep) := ⟨rfl, rfl, rfl, by decide +kernel, rfl, by decide +kernel, by decide +kernel⟩
abbrev st_sums_keep : Stmt := stm 75
abbrev N_sums_keep : List Str := ["promise", "spread", "space"]
abbrev D_sums_keep : He.DefD := ⟨("sums_keep", none), "sums_keep", "sums_keep", defArgs st_sums_keep, defBody st_sums_keep, defScope st_sums_keep, [], []⟩
theorem sc_sums_keep : FnScope N_sums_keep ["promise", "spread", "space"] (defScope st_sums_keep) := ⟨rfl, rfl, rfl, by decide +kernel, rfl, by decide +kernel, by decide +kernel⟩
abbrev st_store_keeps : Stmt := stm 76
abbrev N_store_keeps : List Str := ["promise", "spread", "store"]
abbrev D_store_keeps : He.DefD := ⟨("store_keeps", none), "store_keeps", "store_keeps", defArgs st_store_keeps, defBody st_store_keeps, defScope st_store_keeps, [], []⟩
theorem sc_store_keeps : FnScope N_store_keeps ["promise", "spread", "store"] (defScope st_store_keeps) := ⟨rfl, rfl, rfl, by decide +kernel, rfl, by decide +kernel, by decide +kernel⟩
abbrev st_renamed_thing : Stmt := stm 77
abbrev N_renamed_thing : List Str := ["thing", "change"]
abbrev D_renamed_thing : He.DefD := ⟨("renamed_thing", none), "renamed_thing", "renamed_thing", defArgs st_renamed_thing, defBody st_renamed_thing, defScope st_renamed_thing, [], []⟩
theorem sc_renamed_thing : FnScope N_renamed_thing ["thing", "change"] (defScope st_renamed_thing) := ⟨rfl, rfl, rfl, by decide +kernel, rfl, by decide +kernel, by decide +kernel⟩
abbrev st_law_begin : Stmt := stm 80
abbrev N_law_begin : List Str := ["_law_script"]
abbrev D_law_begin : He.DefD := ⟨("_law_begin", none), "_law_begin", "_law_begin", defArgs st_law_begin, defBody st_law_begin, defScope st_law_begin, [], []⟩
theorem sc_law_begin : FnScope N_law_begin ["_law_script"] (defScope st_law_begin) := ⟨rfl, rfl, rfl, by decide +kernel, rfl, by decide +kernel, by decide +kernel⟩
abbrev st_law_draw : Stmt := stm 81
abbrev N_law_draw : List Str := ["_law_pen", "_law_span", "_law_digit", "_law_at", "_law_cell", "_law_n"]
abbrev D_law_draw : He.DefD := ⟨("_law_draw", none), "_law_draw", "_law_draw", defArgs st_law_draw, defBody st_law_draw, defScope st_law_draw, [], []⟩
theorem sc_law_draw : FnScope N_law_draw ["_law_pen", "_law_span"] (defScope st_law_draw) := ⟨rfl, rfl, rfl, by decide +kernel, rfl, by decide +kernel, by decide +kernel⟩
abbrev st_law_pick : Stmt := stm 82
abbrev N_law_pick : List Str := ["_law_pen", "_law_some"]
abbrev D_law_pick : He.DefD := ⟨("_law_pick", none), "_law_pick", "_law_pick", defArgs st_law_pick, defBody st_law_pick, defScope st_law_pick, [], []⟩
theorem sc_law_pick : FnScope N_law_pick ["_law_pen", "_law_some"] (defScope st_law_pick) := ⟨rfl, rfl, rfl, by decide +kernel, rfl, by decide +kernel, by decide +kernel⟩
abbrev st_law_word : Stmt := stm 83
abbrev N_law_word : List Str := ["_law_pen", "_law_bits", "_law_found", "_law_k"]
abbrev D_law_word : He.DefD := ⟨("_law_word", none), "_law_word", "_law_word", defArgs st_law_word, defBody st_law_word, defScope st_law_word, [], []⟩
theorem sc_law_word : FnScope N_law_word ["_law_pen", "_law_bits"] (defScope st_law_word) := ⟨rfl, rfl, rfl, by decide +kernel, rfl, by decide +kernel, by decide +kernel⟩
abbrev st_law_mixed : Stmt := stm 84
abbrev N_law_mixed : List Str := ["_law_pen", "_law_some", "_law_left_here", "_law_found", "_law_k"]
abbrev D_law_mixed : He.DefD := ⟨("_law_mixed", none), "_law_mixed", "_law_mixed", defArgs st_law_mixed, defBody st_law_mixed, defScope st_law_mixed, [], []⟩
theorem sc_law_mixed : FnScope N_law_mixed ["_law_pen", "_law_some"] (defScope st_law_mixed) := ⟨rfl, rfl, rfl, by decide +kernel, rfl, by decide +kernel, by decide +kernel⟩
abbrev st_law_left : Stmt := stm 85
abbrev N_law_left : List Str := ["_law_rows", "_law_word_here", "_law_row"]
abbrev D_law_left : He.DefD := ⟨("_law_left", none), "_law_left", "_law_left", defArgs st_law_left, defBody st_law_left, defScope st_law_left, [], []⟩
theorem sc_law_left : FnScope N_law_left ["_law_rows", "_law_word_here"] (defScope st_law_left) := ⟨rfl, rfl, rfl, by decide +kernel, rfl, by decide +kernel, by decide +kernel⟩
abbrev st_law_basis : Stmt := stm 86
abbrev N_law_basis : List Str := ["_law_words", "_law_rows", "_law_word_here"]
abbrev D_law_basis : He.DefD := ⟨("_law_basis", none), "_law_basis", "_law_basis", defArgs st_law_basis, defBody st_law_basis, defScope st_law_basis, [], []⟩
theorem sc_law_basis : FnScope N_law_basis ["_law_words"] (defScope st_law_basis) := ⟨rfl, rfl, rfl, by decide +kernel, rfl, by decide +kernel, by decide +kernel⟩
abbrev st_law_size : Stmt := stm 87
abbrev N_law_size : List Str := ["_law_words"]
abbrev D_law_size : He.DefD := ⟨("_law_size", none), "_law_size", "_law_size", defArgs st_law_size, defBody st_law_size, defScope st_law_size, [], []⟩
theorem sc_law_size : FnScope N_law_size ["_law_words"] (defScope st_law_size) := ⟨rfl, rfl, rfl, by decide +kernel, rfl, by decide +kernel, by decide +kernel⟩
abbrev st_law_image : Stmt := stm 88
abbrev N_law_image : List Str := ["_law_columns", "_law_word_here", "_law_found", "_law_at"]
abbrev D_law_image : He.DefD := ⟨("_law_image", none), "_law_image", "_law_image", defArgs st_law_image, defBody st_law_image, defScope st_law_image, [], []⟩
theorem sc_law_image : FnScope N_law_image ["_law_columns", "_law_word_here"] (defScope st_law_image) := ⟨rfl, rfl, rfl, by decide +kernel, rfl, by decide +kernel, by decide +kernel⟩
abbrev st_law_tagged : Stmt := stm 89
abbrev N_law_tagged : List Str := ["_law_columns", "_law_rows", "_law_found", "_law_at", "_law_word_here", "_law_tag", "_law_row", "_law_mark"]
abbrev D_law_tagged : He.DefD := ⟨("_law_tagged", none), "_law_tagged", "_law_tagged", defArgs st_law_tagged, defBody st_law_tagged, defScope st_law_tagged, [], []⟩
theorem sc_law_tagged : FnScope N_law_tagged ["_law_columns"] (defScope st_law_tagged) := ⟨rfl, rfl, rfl, by decide +kernel, rfl, by decide +kernel, by decide +kernel⟩
abbrev st_law_kernel : Stmt := stm 90
abbrev N_law_kernel : List Str := ["_law_columns"]
abbrev D_law_kernel : He.DefD := ⟨("_law_kernel", none), "_law_kernel", "_law_kernel", defArgs st_law_kernel, defBody st_law_kernel, defScope st_law_kernel, [], []⟩
theorem sc_law_kernel : FnScope N_law_kernel ["_law_columns"] (defScope st_law_kernel) := ⟨rfl, rfl, rfl, by decide +kernel, rfl, by decide +kernel, by decide +kernel⟩
abbrev st_law_listed : Stmt := stm 91
abbrev N_law_listed : List Str := ["_law_words", "_law_found", "_law_word_here", "_law_one"]
abbrev D_law_listed : He.DefD := ⟨("_law_listed", none), "_law_listed", "_law_listed", defArgs st_law_listed, defBody st_law_listed, defScope st_law_listed, [], []⟩
theorem sc_law_listed : FnScope N_law_listed ["_law_words"] (defScope st_law_listed) := ⟨rfl, rfl, rfl, by decide +kernel, rfl, by decide +kernel, by decide +kernel⟩
abbrev st_law_truth : Stmt := stm 92
abbrev N_law_truth : List Str := ["_law_value", "_law_due"]
abbrev D_law_truth : He.DefD := ⟨("_law_truth", none), "_law_truth", "_law_truth", defArgs st_law_truth, defBody st_law_truth, defScope st_law_truth, [], []⟩
theorem sc_law_truth : FnScope N_law_truth ["_law_value", "_law_due"] (defScope st_law_truth) := ⟨rfl, rfl, rfl, by decide +kernel, rfl, by decide +kernel, by decide +kernel⟩
abbrev st_law_is_space : Stmt := stm 93
abbrev N_law_is_space : List Str := ["_law_value", "_law_bits", "_law_words"]
abbrev D_law_is_space : He.DefD := ⟨("_law_is_space", none), "_law_is_space", "_law_is_space", defArgs st_law_is_space, defBody st_law_is_space, defScope st_law_is_space, [], []⟩
theorem sc_law_is_space : FnScope N_law_is_space ["_law_value", "_law_bits", "_law_words"] (defScope st_law_is_space) := ⟨rfl, rfl, rfl, by decide +kernel, rfl, by decide +kernel, by decide +kernel⟩
abbrev st_law_words_for : Stmt := stm 94
abbrev N_law_words_for : List Str := ["_law_pen", "_law_bits", "_law_many", "_law_style", "_law_found", "_law_k"]
abbrev D_law_words_for : He.DefD := ⟨("_law_words_for", none), "_law_words_for", "_law_words_for", defArgs st_law_words_for, defBody st_law_words_for, defScope st_law_words_for, [], []⟩
theorem sc_law_words_for : FnScope N_law_words_for ["_law_pen", "_law_bits", "_law_many", "_law_style"] (defScope st_law_words_for) := ⟨rfl, rfl, rfl, by decide +kernel, rfl, by decide +kernel, by decide +kernel⟩
abbrev st_law_spread_words : Stmt := stm 95
abbrev N_law_spread_words : List Str := ["_law_pen", "_law_bits", "_law_slots", "_law_lanes", "_law_style", "_law_some", "_law_others", "_law_rows", "_law_word_here", "_law_left_here", "_law_bit"]
abbrev D_law_spread_words : He.DefD := ⟨("_law_spread_words", none), "_law_spread_words", "_law_spread_words", defArgs st_law_spread_words, defBody st_law_spread_words, defScope st_law_spread_words, [], []⟩
theorem sc_law_spread_words : FnScope N_law_spread_words ["_law_pen", "_law_bits", "_law_slots", "_law_lanes"] (defScope st_law_spread_words) := ⟨rfl, rfl, rfl, by decide +kernel, rfl, by decide +kernel, by decide +kernel⟩
abbrev st_law_undone : Stmt := stm 96
abbrev N_law_undone : List Str := ["_law_pen", "_law_bits", "_law_found", "_law_k", "_law_one", "_law_other", "_law_bit"]
abbrev D_law_undone : He.DefD := ⟨("_law_undone", none), "_law_undone", "_law_undone", defArgs st_law_undone, defBody st_law_undone, defScope st_law_undone, [], []⟩
theorem sc_law_undone : FnScope N_law_undone ["_law_pen", "_law_bits"] (defScope st_law_undone) := ⟨rfl, rfl, rfl, by decide +kernel, rfl, by decide +kernel, by decide +kernel⟩
abbrev st_law_drawn_thing : Stmt := stm 97
abbrev N_law_drawn_thing : List Str := ["_law_pen", "_law_bits", "_law_kind", "_law_slots", "_law_lanes", "_law_k"]
abbrev D_law_drawn_thing : He.DefD := ⟨("_law_drawn_thing", none), "_law_drawn_thing", "_law_drawn_thing", defArgs st_law_drawn_thing, defBody st_law_drawn_thing, defScope st_law_drawn_thing, [], []⟩
theorem sc_law_drawn_thing : FnScope N_law_drawn_thing ["_law_pen", "_law_bits"] (defScope st_law_drawn_thing) := ⟨rfl, rfl, rfl, by decide +kernel, rfl, by decide +kernel, by decide +kernel⟩
abbrev st_law_object : Stmt := stm 98
abbrev N_law_object : List Str := ["_law_thing", "_law_kind", "_law_bits", "_law_words", "_law_more"]
abbrev D_law_object : He.DefD := ⟨("_law_object", none), "_law_object", "_law_object", defArgs st_law_object, defBody st_law_object, defScope st_law_object, [], []⟩
theorem sc_law_object : FnScope N_law_object ["_law_thing"] (defScope st_law_object) := ⟨rfl, rfl, rfl, by decide +kernel, rfl, by decide +kernel, by decide +kernel⟩
abbrev st_law_is_thing : Stmt := stm 99
abbrev N_law_is_thing : List Str := ["_law_value", "_law_thing", "_law_kind", "_law_bits", "_law_words", "_law_more"]
abbrev D_law_is_thing : He.DefD := ⟨("_law_is_thing", none), "_law_is_thing", "_law_is_thing", defArgs st_law_is_thing, defBody st_law_is_thing, defScope st_law_is_thing, [], []⟩
theorem sc_law_is_thing : FnScope N_law_is_thing ["_law_value", "_law_thing"] (defScope st_law_is_thing) := ⟨rfl, rfl, rfl, by decide +kernel, rfl, by decide +kernel, by decide +kernel⟩
abbrev st_law_are_alike : Stmt := stm 100
abbrev N_law_are_alike : List Str := ["_law_one", "_law_other", "_law_rows", "_law_sums", "_law_at", "_law_word_here"]
abbrev D_law_are_alike : He.DefD := ⟨("_law_are_alike", none), "_law_are_alike", "_law_are_alike", defArgs st_law_are_alike, defBody st_law_are_alike, defScope st_law_are_alike, [], []⟩
theorem sc_law_are_alike : FnScope N_law_are_alike ["_law_one", "_law_other"] (defScope st_law_are_alike) := ⟨rfl, rfl, rfl, by decide +kernel, rfl, by decide +kernel, by decide +kernel⟩
abbrev st_law_is_free : Stmt := stm 101
abbrev N_law_is_free : List Str := ["_law_spread", "_law_store", "_law_lanes", "_law_mask", "_law_word_here"]
abbrev D_law_is_free : He.DefD := ⟨("_law_is_free", none), "_law_is_free", "_law_is_free", defArgs st_law_is_free, defBody st_law_is_free, defScope st_law_is_free, [], []⟩
theorem sc_law_is_free : FnScope N_law_is_free ["_law_spread", "_law_store"] (defScope st_law_is_free) := ⟨rfl, rfl, rfl, by decide +kernel, rfl, by decide +kernel, by decide +kernel⟩
abbrev st_law_is_kept : Stmt := stm 102
abbrev N_law_is_kept : List Str := ["_law_told", "_law_things", "_law_one", "_law_other"]
abbrev D_law_is_kept : He.DefD := ⟨("_law_is_kept", none), "_law_is_kept", "_law_is_kept", defArgs st_law_is_kept, defBody st_law_is_kept, defScope st_law_is_kept, [], []⟩
theorem sc_law_is_kept : FnScope N_law_is_kept ["_law_told", "_law_things"] (defScope st_law_is_kept) := ⟨rfl, rfl, rfl, by decide +kernel, rfl, by decide +kernel, by decide +kernel⟩
abbrev st_law_first_broken : Stmt := stm 103
abbrev N_law_first_broken : List Str := ["_law_things", "_law_given", "_law_told"]
abbrev D_law_first_broken : He.DefD := ⟨("_law_first_broken", none), "_law_first_broken", "_law_first_broken", defArgs st_law_first_broken, defBody st_law_first_broken, defScope st_law_first_broken, [], []⟩
theorem sc_law_first_broken : FnScope N_law_first_broken ["_law_things", "_law_given"] (defScope st_law_first_broken) := ⟨rfl, rfl, rfl, by decide +kernel, rfl, by decide +kernel, by decide +kernel⟩
abbrev st_law_drawn_promise : Stmt := stm 104
abbrev N_law_drawn_promise : List Str := ["_law_pen", "_law_kind", "_law_names", "_law_one", "_law_other"]
abbrev D_law_drawn_promise : He.DefD := ⟨("_law_drawn_promise", none), "_law_drawn_promise", "_law_drawn_promise", defArgs st_law_drawn_promise, defBody st_law_drawn_promise, defScope st_law_drawn_promise, [], []⟩
theorem sc_law_drawn_promise : FnScope N_law_drawn_promise ["_law_pen"] (defScope st_law_drawn_promise) := ⟨rfl, rfl, rfl, by decide +kernel, rfl, by decide +kernel, by decide +kernel⟩
abbrev st_law_likely_promise : Stmt := stm 105
abbrev N_law_likely_promise : List Str := ["_law_pen", "_law_things", "_law_turn", "_law_told"]
abbrev D_law_likely_promise : He.DefD := ⟨("_law_likely_promise", none), "_law_likely_promise", "_law_likely_promise", defArgs st_law_likely_promise, defBody st_law_likely_promise, defScope st_law_likely_promise, [], []⟩
theorem sc_law_likely_promise : FnScope N_law_likely_promise ["_law_pen", "_law_things"] (defScope st_law_likely_promise) := ⟨rfl, rfl, rfl, by decide +kernel, rfl, by decide +kernel, by decide +kernel⟩
abbrev st_law_moved_thing : Stmt := stm 106
abbrev N_law_moved_thing : List Str := ["_law_thing", "_law_columns", "_law_kind", "_law_bits", "_law_words", "_law_more", "_law_moved", "_law_tag", "_law_word_here"]
abbrev D_law_moved_thing : He.DefD := ⟨("_law_moved_thing", none), "_law_moved_thing", "_law_moved_thing", defArgs st_law_moved_thing, defBody st_law_moved_thing, defScope st_law_moved_thing, [], []⟩
theorem sc_law_moved_thing : FnScope N_law_moved_thing ["_law_thing", "_law_columns"] (defScope st_law_moved_thing) := ⟨rfl, rfl, rfl, by decide +kernel, rfl, by decide +kernel, by decide +kernel⟩
abbrev st_law_backs : Stmt := stm 107
abbrev N_law_backs : List Str := ["_law_columns", "_law_found", "_law_rows", "_law_bit", "_law_goal", "_law_tag", "_law_row", "_law_mark"]
abbrev D_law_backs : He.DefD := ⟨("_law_backs", none), "_law_backs", "_law_backs", defArgs st_law_backs, defBody st_law_backs, defScope st_law_backs, [], []⟩
theorem sc_law_backs : FnScope N_law_backs ["_law_columns"] (defScope st_law_backs) := ⟨rfl, rfl, rfl, by decide +kernel, rfl, by decide +kernel, by decide +kernel⟩
abbrev st_law_due_deed : Stmt := stm 108
abbrev N_law_due_deed : List Str := ["_law_state", "_law_deed", "_law_word_here", "_law_one", "_law_other", "_law_things", "_law_given", "_law_name", "_law_key", "_law_told"]
abbrev D_law_due_deed : He.DefD := ⟨("_law_due_deed", none), "_law_due_deed", "_law_due_deed", defArgs st_law_due_deed, defBody st_law_due_deed, defScope st_law_due_deed, [], []⟩
theorem sc_law_due_deed : FnScope N_law_due_deed ["_law_state", "_law_deed"] (defScope st_law_due_deed) := ⟨rfl, rfl, rfl, by decide +kernel, rfl, by decide +kernel, by decide +kernel⟩
abbrev st_law_act : Stmt := stm 109
abbrev N_law_act : List Str := ["_law_desk", "_law_deed", "_law_word_here", "_law_one", "_law_other"]
abbrev D_law_act : He.DefD := ⟨("_law_act", none), "_law_act", "_law_act", defArgs st_law_act, defBody st_law_act, defScope st_law_act, [], []⟩
theorem sc_law_act : FnScope N_law_act ["_law_desk", "_law_deed"] (defScope st_law_act) := ⟨rfl, rfl, rfl, by decide +kernel, rfl, by decide +kernel, by decide +kernel⟩
abbrev st_law_met : Stmt := stm 110
abbrev N_law_met : List Str := ["_law_call", "e"]
abbrev D_law_met : He.DefD := ⟨("_law_met", none), "_law_met", "_law_met", defArgs st_law_met, defBody st_law_met, defScope st_law_met, [], []⟩
theorem sc_law_met : FnScope N_law_met ["_law_call"] (defScope st_law_met) := ⟨rfl, rfl, rfl, by decide +kernel, rfl, by decide +kernel, by decide +kernel⟩
abbrev st_law_drawn_deed : Stmt := stm 111
abbrev N_law_drawn_deed : List Str := ["_law_pen", "_law_state", "_law_bits", "_law_kind", "_law_name", "_law_thing", "_law_same", "_law_many", "_law_columns"]
abbrev D_law_drawn_deed : He.DefD := ⟨("_law_drawn_deed", none), "_law_drawn_deed", "_law_drawn_deed", defArgs st_law_drawn_deed, defBody st_law_drawn_deed, defScope st_law_drawn_deed, [], []⟩
theorem sc_law_drawn_deed : FnScope N_law_drawn_deed ["_law_pen", "_law_state", "_law_bits"] (defScope st_law_drawn_deed) := ⟨rfl, rfl, rfl, by decide +kernel, rfl, by decide +kernel, by decide +kernel⟩
abbrev st_law_stands : Stmt := stm 112
abbrev N_law_stands : List Str := ["_law_desk", "_law_state", "_law_many", "_law_things", "_law_given", "_law_name", "_law_told"]
abbrev D_law_stands : He.DefD := ⟨("_law_stands", none), "_law_stands", "_law_stands", defArgs st_law_stands, defBody st_law_stands, defScope st_law_stands, [], []⟩
theorem sc_law_stands : FnScope N_law_stands ["_law_desk", "_law_state", "_law_many"] (defScope st_law_stands) := ⟨rfl, rfl, rfl, by decide +kernel, rfl, by decide +kernel, by decide +kernel⟩
abbrev st_law_step_right : Stmt := stm 113
abbrev N_law_step_right : List Str := ["_law_pen", "_law_desk", "_law_states", "_law_bits", "_law_state", "_law_due", "_law_later", "_law_told", "_law_broken", "_law_deed"]
abbrev D_law_step_right : He.DefD := ⟨("_law_step_right", none), "_law_step_right", "_law_step_right", defArgs st_law_step_right, defBody st_law_step_right, defScope st_law_step_right, [], []⟩
theorem sc_law_step_right : FnScope N_law_step_right ["_law_pen", "_law_desk", "_law_states", "_law_bits"] (defScope st_law_step_right) := ⟨rfl, rfl, rfl, by decide +kernel, rfl, by decide +kernel, by decide +kernel⟩
abbrev st_law_spoilt : Stmt := stm 114
abbrev N_law_spoilt : List Str := ["_law_pen", "_law_kind", "_law_way", "_law_told"]
abbrev D_law_spoilt : He.DefD := ⟨("_law_spoilt", none), "_law_spoilt", "_law_spoilt", defArgs st_law_spoilt, defBody st_law_spoilt, defScope st_law_spoilt, [], []⟩
theorem sc_law_spoilt : FnScope N_law_spoilt ["_law_pen"] (defScope st_law_spoilt) := ⟨rfl, rfl, rfl, by decide +kernel, rfl, by decide +kernel, by decide +kernel⟩
abbrev st_law_odd_right : Stmt := stm 115
abbrev N_law_odd_right : List Str := ["_law_pen", "_law_desk", "_law_asks", "_law_name", "_law_odd", "_law_wide", "_law_worse"]
abbrev D_law_odd_right : He.DefD := ⟨("_law_odd_right", none), "_law_odd_right", "_law_odd_right", defArgs st_law_odd_right, defBody st_law_odd_right, defScope st_law_odd_right, [], []⟩
theorem sc_law_odd_right : FnScope N_law_odd_right ["_law_pen", "_law_desk"] (defScope st_law_odd_right) := ⟨rfl, rfl, rfl, by decide +kernel, rfl, by decide +kernel, by decide +kernel⟩
abbrev st_law : Stmt := stm 116
abbrev N_law : List Str := ["_law_script", "_law_pen", "_law_states", "_law_bits", "_law_turn", "_law_desk"]
abbrev D_law : He.DefD := ⟨("law", none), "law", "law", defArgs st_law, defBody st_law, defScope st_law, [], []⟩
theorem sc_law : FnScope N_law ["_law_script"] (defScope st_law) := ⟨rfl, rfl, rfl, by decide +kernel, rfl, by decide +kernel, by decide +kernel⟩
abbrev st_Space_init : Stmt := inClass (stm 38) 0
abbrev N_Space_init : List Str := ["self", "bits", "words"]
abbrev D_Space_init : He.DefD := ⟨("Space", some "__init__"), "__init__", "Space.__init__", defArgs st_Space_init, defBody st_Space_init, defScope st_Space_init, [], []⟩
theorem sc_Space_init : FnScope N_Space_init ["self", "bits", "words"] (defScope st_Space_init) := ⟨rfl, rfl, rfl, by decide +kernel, rfl, by decide +kernel, by decide +kernel⟩
abbrev st_Space_eq : Stmt := inClass (stm 38) 1
abbrev N_Space_eq : List Str := ["self", "other"]
abbrev D_Space_eq : He.DefD := ⟨("Space", some "__eq__"), "__eq__", "Space.__eq__", defArgs st_Space_eq, defBody st_Space_eq, defScope st_Space_eq, [], []⟩
theorem sc_Space_eq : FnScope N_Space_eq ["self", "other"] (defScope st_Space_eq) := ⟨rfl, rfl, rfl, by decide +kernel, rfl, by decide +kernel, by decide +kernel⟩
abbrev st_Space_and : Stmt := inClass (stm 38) 3
abbrev N_Space_and : List Str := ["self", "other"]
abbrev D_Space_and : He.DefD := ⟨("Space", some "__and__"), "__and__", "Space.__and__", defArgs st_Space_and, defBody st_Space_and, defScope st_Space_and, [], []⟩
theorem sc_Space_and : FnScope N_Space_and ["self", "other"] (defScope st_Space_and) := ⟨rfl, rfl, rfl, by decide +kernel, rfl, by decide +kernel, by decide +kernel⟩
abbrev st_Space_least : Stmt := inClass (stm 38) 6
abbrev N_Space_least : List Str := ["self", "word"]
abbrev D_Space_least : He.DefD := ⟨("Space", some "least"), "least", "Space.least", defArgs st_Space_least, defBody st_Space_least, defScope st_Space_least, [], []⟩
theorem sc_Space_least : FnScope N_Space_least ["self", "word"] (defScope st_Space_least) := ⟨rfl, rfl, rfl, by decide +kernel, rfl, by decide +kernel, by decide +kernel⟩
abbrev st_Space_completing : Stmt := inClass (stm 38) 8
abbrev N_Space_completing : List Str := ["self", "other", "rows", "found", "row"]
abbrev D_Space_completing : He.DefD := ⟨("Space", some "completing"), "completing", "Space.completing", defArgs st_Space_completing, defBody st_Space_completing, defScope st_Space_completing, [], []⟩
theorem sc_Space_completing : FnScope N_Space_completing ["self", "other"] (defScope st_Space_completing) := ⟨rfl, rfl, rfl, by decide +kernel, rfl, by decide +kernel, by decide +kernel⟩
abbrev st_Map_init : Stmt := inClass (stm 41) 0
abbrev N_Map_init : List Str := ["self", "goal", "columns"]
abbrev D_Map_init : He.DefD := ⟨("Map", some "__init__"), "__init__", "Map.__init__", defArgs st_Map_init, defBody st_Map_init, defScope st_Map_init, [], []⟩
theorem sc_Map_init : FnScope N_Map_init ["self", "goal", "columns"] (defScope st_Map_init) := ⟨rfl, rfl, rfl, by decide +kernel, rfl, by decide +kernel, by decide +kernel⟩
abbrev st_Map_eq : Stmt := inClass (stm 41) 1
abbrev N_Map_eq : List Str := ["self", "other"]
abbrev D_Map_eq : He.DefD := ⟨("Map", some "__eq__"), "__eq__", "Map.__eq__", defArgs st_Map_eq, defBody st_Map_eq, defScope st_Map_eq, [], []⟩
theorem sc_Map_eq : FnScope N_Map_eq ["self", "other"] (defScope st_Map_eq) := ⟨rfl, rfl, rfl, by decide +kernel, rfl, by decide +kernel, by decide +kernel⟩
abbrev st_Map_mul : Stmt := inClass (stm 41) 5
abbrev N_Map_mul : List Str := ["self", "other", "column"]
abbrev D_Map_mul : He.DefD := ⟨("Map", some "__mul__"), "__mul__", "Map.__mul__", defArgs st_Map_mul, defBody st_Map_mul, defScope st_Map_mul, [], []⟩
theorem sc_Map_mul : FnScope N_Map_mul ["self", "other"] (defScope st_Map_mul) := ⟨rfl, rfl, rfl, by decide +kernel, rfl, by decide +kernel, by decide +kernel⟩
abbrev st_Map_invert : Stmt := inClass (stm 41) 7
abbrev N_Map_invert : List Str := ["self", "pairs", "bit"]
abbrev D_Map_invert : He.DefD := ⟨("Map", some "__invert__"), "__invert__", "Map.__invert__", defArgs st_Map_invert, defBody st_Map_invert, defScope st_Map_invert, [], []⟩
theorem sc_Map_invert : FnScope N_Map_invert ["self"] (defScope st_Map_invert) := ⟨rfl, rfl, rfl, by decide +kernel, rfl, by decide +kernel, by decide +kernel⟩
abbrev st_Map_kernel : Stmt := inClass (stm 41) 10
abbrev N_Map_kernel : List Str := ["self"]
abbrev D_Map_kernel : He.DefD := ⟨("Map", some "kernel"), "kernel", "Map.kernel", defArgs st_Map_kernel, defBody st_Map_kernel, defScope st_Map_kernel, [], []⟩
theorem sc_Map_kernel : FnScope N_Map_kernel ["self"] (defScope st_Map_kernel) := ⟨rfl, rfl, rfl, by decide +kernel, rfl, by decide +kernel, by decide +kernel⟩
abbrev st_Map_moved : Stmt := inClass (stm 41) 14
abbrev N_Map_moved : List Str := ["self", "space", "row"]
abbrev D_Map_moved : He.DefD := ⟨("Map", some "moved"), "moved", "Map.moved", defArgs st_Map_moved, defBody st_Map_moved, defScope st_Map_moved, [], []⟩
theorem sc_Map_moved : FnScope N_Map_moved ["self", "space"] (defScope st_Map_moved) := ⟨rfl, rfl, rfl, by decide +kernel, rfl, by decide +kernel, by decide +kernel⟩
abbrev st_Spread_init : Stmt := inClass (stm 46) 0
abbrev N_Spread_init : List Str := ["self", "bits", "slots", "lanes", "rows"]
abbrev D_Spread_init : He.DefD := ⟨("Spread", some "__init__"), "__init__", "Spread.__init__", defArgs st_Spread_init, defBody st_Spread_init, defScope st_Spread_init, [], []⟩
theorem sc_Spread_init : FnScope N_Spread_init ["self", "bits", "slots", "lanes"] (defScope st_Spread_init) := ⟨rfl, rfl, rfl, by decide +kernel, rfl, by decide +kernel, by decide +kernel⟩
abbrev st_Spread_slot_space : Stmt := inClass (stm 46) 8
abbrev N_Spread_slot_space : List Str := ["self"]
abbrev D_Spread_slot_space : He.DefD := ⟨("Spread", some "slot_space"), "slot_space", "Spread.slot_space", defArgs st_Spread_slot_space, defBody st_Spread_slot_space, defScope st_Spread_slot_space, [], []⟩
theorem sc_Spread_slot_space : FnScope N_Spread_slot_space ["self"] (defScope st_Spread_slot_space) := ⟨rfl, rfl, rfl, by decide +kernel, rfl, by decide +kernel, by decide +kernel⟩
abbrev st_Spread_twins : Stmt := inClass (stm 46) 10
abbrev N_Spread_twins : List Str := ["self", "rows", "word"]
abbrev D_Spread_twins : He.DefD := ⟨("Spread", some "twins"), "twins", "Spread.twins", defArgs st_Spread_twins, defBody st_Spread_twins, defScope st_Spread_twins, [], []⟩
theorem sc_Spread_twins : FnScope N_Spread_twins ["self"] (defScope st_Spread_twins) := ⟨rfl, rfl, rfl, by decide +kernel, rfl, by decide +kernel, by decide +kernel⟩
abbrev st_Spread_renamed : Stmt := inClass (stm 46) 14
abbrev N_Spread_renamed : List Str := ["self", "change", "slots", "word"]
abbrev D_Spread_renamed : He.DefD := ⟨("Spread", some "renamed"), "renamed", "Spread.renamed", defArgs st_Spread_renamed, defBody st_Spread_renamed, defScope st_Spread_renamed, [], []⟩
theorem sc_Spread_renamed : FnScope N_Spread_renamed ["self", "change"] (defScope st_Spread_renamed) := ⟨rfl, rfl, rfl, by decide +kernel, rfl, by decide +kernel, by decide +kernel⟩
abbrev st_Store_init : Stmt := inClass (stm 57) 0
abbrev N_Store_init : List Str := ["self", "change", "banks"]
abbrev D_Store_init : He.DefD := ⟨("Store", some "__init__"), "__init__", "Store.__init__", defArgs st_Store_init, defBody st_Store_init, defScope st_Store_init, [], []⟩
theorem sc_Store_init : FnScope N_Store_init ["self", "change", "banks"] (defScope st_Store_init) := ⟨rfl, rfl, rfl, by decide +kernel, rfl, by decide +kernel, by decide +kernel⟩
abbrev st_Store_bank_map : Stmt := inClass (stm 57) 2
abbrev N_Store_bank_map : List Str := ["self", "column"]
abbrev D_Store_bank_map : He.DefD := ⟨("Store", some "bank_map"), "bank_map", "Store.bank_map", defArgs st_Store_bank_map, defBody st_Store_bank_map, defScope st_Store_bank_map, [], []⟩
theorem sc_Store_bank_map : FnScope N_Store_bank_map ["self"] (defScope st_Store_bank_map) := ⟨rfl, rfl, rfl, by decide +kernel, rfl, by decide +kernel, by decide +kernel⟩
abbrev st_Store_meeting : Stmt := inClass (stm 57) 3
abbrev N_Store_meeting : List Str := ["self", "space"]
abbrev D_Store_meeting : He.DefD := ⟨("Store", some "meeting"), "meeting", "Store.meeting", defArgs st_Store_meeting, defBody st_Store_meeting, defScope st_Store_meeting, [], []⟩
theorem sc_Store_meeting : FnScope N_Store_meeting ["self", "space"] (defScope st_Store_meeting) := ⟨rfl, rfl, rfl, by decide +kernel, rfl, by decide +kernel, by decide +kernel⟩
abbrev st_Store_need_width : Stmt := inClass (stm 57) 4
abbrev N_Store_need_width : List Str := ["self", "spread", "width"]
abbrev D_Store_need_width : He.DefD := ⟨("Store", some "need_width"), "need_width", "Store.need_width", defArgs st_Store_need_width, defBody st_Store_need_width, defScope st_Store_need_width, [], []⟩
theorem sc_Store_need_width : FnScope N_Store_need_width ["self", "spread", "width"] (defScope st_Store_need_width) := ⟨rfl, rfl, rfl, by decide +kernel, rfl, by decide +kernel, by decide +kernel⟩
abbrev st_Store_fits : Stmt := inClass (stm 57) 5
abbrev N_Store_fits : List Str := ["self", "spread", "width", "rows", "word"]
abbrev D_Store_fits : He.DefD := ⟨("Store", some "fits"), "fits", "Store.fits", defArgs st_Store_fits, defBody st_Store_fits, defScope st_Store_fits, [], []⟩
theorem sc_Store_fits : FnScope N_Store_fits ["self", "spread", "width"] (defScope st_Store_fits) := ⟨rfl, rfl, rfl, by decide +kernel, rfl, by decide +kernel, by decide +kernel⟩
abbrev st_Store_touched : Stmt := inClass (stm 57) 6
abbrev N_Store_touched : List Str := ["self", "spread", "width", "low"]
abbrev D_Store_touched : He.DefD := ⟨("Store", some "touched"), "touched", "Store.touched", defArgs st_Store_touched, defBody st_Store_touched, defScope st_Store_touched, [], []⟩
theorem sc_Store_touched : FnScope N_Store_touched ["self", "spread", "width"] (defScope st_Store_touched) := ⟨rfl, rfl, rfl, by decide +kernel, rfl, by decide +kernel, by decide +kernel⟩
abbrev st_Store_beats : Stmt := inClass (stm 57) 7
abbrev N_Store_beats : List Str := ["self", "spread", "width", "met"]
abbrev D_Store_beats : He.DefD := ⟨("Store", some "beats"), "beats", "Store.beats", defArgs st_Store_beats, defBody st_Store_beats, defScope st_Store_beats, [], []⟩
theorem sc_Store_beats : FnScope N_Store_beats ["self", "spread", "width"] (defScope st_Store_beats) := ⟨rfl, rfl, rfl, by decide +kernel, rfl, by decide +kernel, by decide +kernel⟩
abbrev st_Desk_init : Stmt := inClass (stm 78) 0
abbrev N_Desk_init : List Str := ["self"]
abbrev D_Desk_init : He.DefD := ⟨("Desk", some "__init__"), "__init__", "Desk.__init__", defArgs st_Desk_init, defBody st_Desk_init, defScope st_Desk_init, [], []⟩
theorem sc_Desk_init : FnScope N_Desk_init ["self"] (defScope st_Desk_init) := ⟨rfl, rfl, rfl, by decide +kernel, rfl, by decide +kernel, by decide +kernel⟩
abbrev st_Desk_getitem : Stmt := inClass (stm 78) 1
abbrev N_Desk_getitem : List Str := ["self", "name"]
abbrev D_Desk_getitem : He.DefD := ⟨("Desk", some "__getitem__"), "__getitem__", "Desk.__getitem__", defArgs st_Desk_getitem, defBody st_Desk_getitem, defScope st_Desk_getitem, [], []⟩
theorem sc_Desk_getitem : FnScope N_Desk_getitem ["self", "name"] (defScope st_Desk_getitem) := ⟨rfl, rfl, rfl, by decide +kernel, rfl, by decide +kernel, by decide +kernel⟩
abbrev st_Desk_contains : Stmt := inClass (stm 78) 2
abbrev N_Desk_contains : List Str := ["self", "value"]
abbrev D_Desk_contains : He.DefD := ⟨("Desk", some "__contains__"), "__contains__", "Desk.__contains__", defArgs st_Desk_contains, defBody st_Desk_contains, defScope st_Desk_contains, [], []⟩
theorem sc_Desk_contains : FnScope N_Desk_contains ["self", "value"] (defScope st_Desk_contains) := ⟨rfl, rfl, rfl, by decide +kernel, rfl, by decide +kernel, by decide +kernel⟩
abbrev st_Desk_len : Stmt := inClass (stm 78) 3
abbrev N_Desk_len : List Str := ["self"]
abbrev D_Desk_len : He.DefD := ⟨("Desk", some "__len__"), "__len__", "Desk.__len__", defArgs st_Desk_len, defBody st_Desk_len, defScope st_Desk_len, [], []⟩
theorem sc_Desk_len : FnScope N_Desk_len ["self"] (defScope st_Desk_len) := ⟨rfl, rfl, rfl, by decide +kernel, rfl, by decide +kernel, by decide +kernel⟩
abbrev st_Desk_need_thing : Stmt := inClass (stm 78) 5
abbrev N_Desk_need_thing : List Str := ["self", "name"]
abbrev D_Desk_need_thing : He.DefD := ⟨("Desk", some "need_thing"), "need_thing", "Desk.need_thing", defArgs st_Desk_need_thing, defBody st_Desk_need_thing, defScope st_Desk_need_thing, [], []⟩
theorem sc_Desk_need_thing : FnScope N_Desk_need_thing ["self", "name"] (defScope st_Desk_need_thing) := ⟨rfl, rfl, rfl, by decide +kernel, rfl, by decide +kernel, by decide +kernel⟩
abbrev st_Desk_names : Stmt := inClass (stm 78) 6
abbrev N_Desk_names : List Str := ["self", "name"]
abbrev D_Desk_names : He.DefD := ⟨("Desk", some "names"), "names", "Desk.names", defArgs st_Desk_names, defBody st_Desk_names, defScope st_Desk_names, [], []⟩
theorem sc_Desk_names : FnScope N_Desk_names ["self"] (defScope st_Desk_names) := ⟨rfl, rfl, rfl, by decide +kernel, rfl, by decide +kernel, by decide +kernel⟩
abbrev st_Desk_promises : Stmt := inClass (stm 78) 7
abbrev N_Desk_promises : List Str := ["self"]
abbrev D_Desk_promises : He.DefD := ⟨("Desk", some "promises"), "promises", "Desk.promises", defArgs st_Desk_promises, defBody st_Desk_promises, defScope st_Desk_promises, [], []⟩
theorem sc_Desk_promises : FnScope N_Desk_promises ["self"] (defScope st_Desk_promises) := ⟨rfl, rfl, rfl, by decide +kernel, rfl, by decide +kernel, by decide +kernel⟩
abbrev st_Desk_holds : Stmt := inClass (stm 78) 8
abbrev N_Desk_holds : List Str := ["self", "promise"]
abbrev D_Desk_holds : He.DefD := ⟨("Desk", some "holds"), "holds", "Desk.holds", defArgs st_Desk_holds, defBody st_Desk_holds, defScope st_Desk_holds, [], []⟩
theorem sc_Desk_holds : FnScope N_Desk_holds ["self", "promise"] (defScope st_Desk_holds) := ⟨rfl, rfl, rfl, by decide +kernel, rfl, by decide +kernel, by decide +kernel⟩
abbrev st_Desk_undoable : Stmt := inClass (stm 78) 9
abbrev N_Desk_undoable : List Str := ["self"]
abbrev D_Desk_undoable : He.DefD := ⟨("Desk", some "undoable"), "undoable", "Desk.undoable", defArgs st_Desk_undoable, defBody st_Desk_undoable, defScope st_Desk_undoable, [], []⟩
theorem sc_Desk_undoable : FnScope N_Desk_undoable ["self"] (defScope st_Desk_undoable) := ⟨rfl, rfl, rfl, by decide +kernel, rfl, by decide +kernel, by decide +kernel⟩
abbrev st_Desk_need_kept : Stmt := inClass (stm 78) 10
abbrev N_Desk_need_kept : List Str := ["self", "things", "given", "promise"]
abbrev D_Desk_need_kept : He.DefD := ⟨("Desk", some "need_kept"), "need_kept", "Desk.need_kept", defArgs st_Desk_need_kept, defBody st_Desk_need_kept, defScope st_Desk_need_kept, [], []⟩
theorem sc_Desk_need_kept : FnScope N_Desk_need_kept ["self", "things", "given"] (defScope st_Desk_need_kept) := ⟨rfl, rfl, rfl, by decide +kernel, rfl, by decide +kernel, by decide +kernel⟩
abbrev st_Desk_settle : Stmt := inClass (stm 78) 11
abbrev N_Desk_settle : List Str := ["self", "things", "given"]
abbrev D_Desk_settle : He.DefD := ⟨("Desk", some "settle"), "settle", "Desk.settle", defArgs st_Desk_settle, defBody st_Desk_settle, defScope st_Desk_settle, [], []⟩
theorem sc_Desk_settle : FnScope N_Desk_settle ["self", "things", "given"] (defScope st_Desk_settle) := ⟨rfl, rfl, rfl, by decide +kernel, rfl, by decide +kernel, by decide +kernel⟩
abbrev st_Desk_put : Stmt := inClass (stm 78) 12
abbrev N_Desk_put : List Str := ["self", "name", "thing", "later"]
abbrev D_Desk_put : He.DefD := ⟨("Desk", some "put"), "put", "Desk.put", defArgs st_Desk_put, defBody st_Desk_put, defScope st_Desk_put, [], []⟩
theorem sc_Desk_put : FnScope N_Desk_put ["self", "name", "thing"] (defScope st_Desk_put) := ⟨rfl, rfl, rfl, by decide +kernel, rfl, by decide +kernel, by decide +kernel⟩
abbrev st_Desk_drop : Stmt := inClass (stm 78) 13
abbrev N_Desk_drop : List Str := ["self", "name", "later"]
abbrev D_Desk_drop : He.DefD := ⟨("Desk", some "drop"), "drop", "Desk.drop", defArgs st_Desk_drop, defBody st_Desk_drop, defScope st_Desk_drop, [], []⟩
theorem sc_Desk_drop : FnScope N_Desk_drop ["self", "name"] (defScope st_Desk_drop) := ⟨rfl, rfl, rfl, by decide +kernel, rfl, by decide +kernel, by decide +kernel⟩
abbrev st_Desk_rename : Stmt := inClass (stm 78) 14
abbrev N_Desk_rename : List Str := ["self", "change", "name", "bits", "later"]
abbrev D_Desk_rename : He.DefD := ⟨("Desk", some "rename"), "rename", "Desk.rename", defArgs st_Desk_rename, defBody st_Desk_rename, defScope st_Desk_rename, [], []⟩
theorem sc_Desk_rename : FnScope N_Desk_rename ["self", "change"] (defScope st_Desk_rename) := ⟨rfl, rfl, rfl, by decide +kernel, rfl, by decide +kernel, by decide +kernel⟩
abbrev st_Desk_keep : Stmt := inClass (stm 78) 15
abbrev N_Desk_keep : List Str := ["self", "promise"]
abbrev D_Desk_keep : He.DefD := ⟨("Desk", some "keep"), "keep", "Desk.keep", defArgs st_Desk_keep, defBody st_Desk_keep, defScope st_Desk_keep, [], []⟩
theorem sc_Desk_keep : FnScope N_Desk_keep ["self", "promise"] (defScope st_Desk_keep) := ⟨rfl, rfl, rfl, by decide +kernel, rfl, by decide +kernel, by decide +kernel⟩
abbrev st_Desk_release : Stmt := inClass (stm 78) 16
abbrev N_Desk_release : List Str := ["self", "promise", "told"]
abbrev D_Desk_release : He.DefD := ⟨("Desk", some "release"), "release", "Desk.release", defArgs st_Desk_release, defBody st_Desk_release, defScope st_Desk_release, [], []⟩
theorem sc_Desk_release : FnScope N_Desk_release ["self", "promise"] (defScope st_Desk_release) := ⟨rfl, rfl, rfl, by decide +kernel, rfl, by decide +kernel, by decide +kernel⟩
abbrev st_Desk_undo : Stmt := inClass (stm 78) 17
abbrev N_Desk_undo : List Str := ["self"]
abbrev D_Desk_undo : He.DefD := ⟨("Desk", some "undo"), "undo", "Desk.undo", defArgs st_Desk_undo, defBody st_Desk_undo, defScope st_Desk_undo, [], []⟩
theorem sc_Desk_undo : FnScope N_Desk_undo ["self"] (defScope st_Desk_undo) := ⟨rfl, rfl, rfl, by decide +kernel, rfl, by decide +kernel, by decide +kernel⟩
def allD : List He.DefD := ([D_is_whole, D_need_whole, D_need_items, D_need_word, D_need_words, D_is_name, D_need_name, D_ones, D_cleared, D_grown, D_spanned, D_image_of, D_paired, D_kernel_rows, D_solved, D_met, D_need_space, D_need_map, D_need_one_to_one, D_need_onto, D_any_spread, D_hold_alike, D_phase_bits, D_need_pair, D_partner_rows, D_partners, D_leaders, D_sum_steps, D_need_promise, D_bits_of] : List He.DefD) ++ ([D_is_kept, D_spreads_keep, D_sums_keep, D_store_keeps, D_renamed_thing, D_law_begin, D_law_draw, D_law_pick, D_law_word, D_law_mixed, D_law_left, D_law_basis, D_law_size, D_law_image, D_law_tagged, D_law_kernel, D_law_listed, D_law_truth, D_law_is_space, D_law_words_for, D_law_spread_words, D_law_undone, D_law_drawn_thing, D_law_object, D_law_is_thing, D_law_are_alike, D_law_is_free, D_law_is_kept, D_law_first_broken, D_law_drawn_promise] : List He.DefD) ++ ([D_law_likely_promise, D_law_moved_thing, D_law_backs, D_law_due_deed, D_law_act, D_law_met, D_law_drawn_deed, D_law_stands, D_law_step_right, D_law_spoilt, D_law_odd_right, D_law, D_Space_init, D_Space_eq, D_Space_and, D_Space_least, D_Space_completing, D_Map_init, D_Map_eq, D_Map_mul, D_Map_invert, D_Map_kernel, D_Map_moved, D_Spread_init, D_Spread_slot_space, D_Spread_twins, D_Spread_renamed, D_Store_init, D_Store_bank_map, D_Store_meeting] : List He.DefD) ++ ([D_Store_need_width, D_Store_fits, D_Store_touched, D_Store_beats, D_Desk_init, D_Desk_getitem, D_Desk_contains, D_Desk_len, D_Desk_need_thing, D_Desk_names, D_Desk_promises, D_Desk_holds, D_Desk_undoable, D_Desk_need_kept, D_Desk_settle, D_Desk_put, D_Desk_drop, D_Desk_rename, D_Desk_keep, D_Desk_release, D_Desk_undo] : List He.DefD)
def gloN : List Str := (["is_whole", "need_whole", "need_items", "need_word", "need_words", "is_name", "need_name", "ones", "cleared", "grown", "spanned", "image_of", "paired", "kernel_rows", "solved", "met", "need_space", "need_map", "need_one_to_one", "need_onto", "any_spread", "hold_alike", "phase_bits", "need_pair", "partner_rows", "partners", "leaders", "sum_steps", "need_promise", "bits_of"] : List Str) ++ (["is_kept", "spreads_keep", "sums_keep", "store_keeps", "renamed_thing", "_law_begin", "_law_draw", "_law_pick", "_law_word", "_law_mixed", "_law_left", "_law_basis", "_law_size", "_law_image", "_law_tagged", "_law_kernel", "_law_listed", "_law_truth", "_law_is_space", "_law_words_for", "_law_spread_words", "_law_undone", "_law_drawn_thing", "_law_object", "_law_is_thing", "_law_are_alike", "_law_is_free", "_law_is_kept", "_law_first_broken", "_law_drawn_promise"] : List Str) ++ (["_law_likely_promise", "_law_moved_thing", "_law_backs", "_law_due_deed", "_law_act", "_law_met", "_law_drawn_deed", "_law_stands", "_law_step_right", "_law_spoilt", "_law_odd_right", "law", "Space", "Map", "Spread", "Store", "Desk", "BadValue", "NotOneToOne", "Unequal", "Unknown", "BadPromise", "Broken", "NotMade", "NothingToUndo", "LaneError", "WORDS", "COUNTED"] : List Str)
def freeN : List Str := ["len", "int", "bool", "list", "tuple", "str", "dict", "sorted", "range", "isinstance", "min", "abs", "all", "zip", "super", "ValueError"]
def clsN : List Str := ["Space", "Map", "Spread", "Store", "Desk"]
def noatN : List (Str × Str) := [("Space", "bits"), ("Space", "rows"), ("Space", "dimension"), ("Map", "goal"), ("Map", "columns"), ("Map", "source"), ("Spread", "bits"), ("Spread", "slots"), ("Spread", "lanes"), ("Store", "change"), ("Store", "banks"), ("Store", "own_back"), ("Desk", "own_things"), ("Desk", "own_given"), ("Desk", "own_past"), ("Desk", "own_depth"), ("BadValue", "value"), ("NotOneToOne", "word"), ("Unequal", "one"), ("Unequal", "other"), ("Unknown", "name"), ("BadPromise", "promise"), ("Broken", "promise"), ("NotMade", "promise")]
def methN : List (Str × Str) := ([("Space", "__init__"), ("Space", "__eq__"), ("Space", "__and__"), ("Space", "least"), ("Space", "completing"), ("Map", "__init__"), ("Map", "__eq__"), ("Map", "__mul__"), ("Map", "__invert__"), ("Map", "kernel"), ("Map", "moved"), ("Spread", "__init__"), ("Spread", "slot_space"), ("Spread", "twins"), ("Spread", "renamed"), ("Store", "__init__"), ("Store", "bank_map"), ("Store", "meeting"), ("Store", "need_width"), ("Store", "fits"), ("Store", "touched"), ("Store", "beats"), ("Desk", "__init__"), ("Desk", "__getitem__"), ("Desk", "__contains__"), ("Desk", "__len__"), ("Desk", "need_thing"), ("Desk", "names"), ("Desk", "promises"), ("Desk", "holds")] : List (Str × Str)) ++ ([("Desk", "undoable"), ("Desk", "need_kept"), ("Desk", "settle"), ("Desk", "put"), ("Desk", "drop"), ("Desk", "rename"), ("Desk", "keep"), ("Desk", "release"), ("Desk", "undo")] : List (Str × Str))
def errN : List Str := ["BadValue", "NotOneToOne", "Unequal", "Unknown", "BadPromise", "Broken", "NotMade", "NothingToUndo"]
/-! ### what the written part says -/
/-- an own class over object: its instances' types are told -/
structure Own (K : PySem.W.Frag) (C : Addr) : Prop where
  cls : Cls K C
  ha : PySem.W.findIn K (.ref C) "__class__" = some (some (.builtin "object.__class__"))
  hn : PySem.W.specialIn K (.builtin "object.__class__") "__get__" = some (some (.builtin "getset_descriptor.__get__"))
  htk : PySem.W.takesIn K (.builtin "object.__class__") = some true
  hm : PySem.W.mroIn K C (.type "object") = some true
/-- a class: a built-in one's name, or an own one's -/
inductive Kn where
  | ty (n : String)
  | own (x : Str)
def Kn.v (K : PySem.W.Frag) : Kn → Value
  | .ty n => .type n
  | .own x => .ref (He.ga K x)
def knT : List Kn := [.ty "NoneType", .ty "int", .ty "str", .ty "tuple", .ty "list"]
def kn4 : List Kn := [.own "Space", .own "Map", .own "Spread", .own "Store"]
def kitN : List (Kn × Kn × Bool) := (knT.flatMap fun t => kn4.map fun c => (t, c, false)) ++ [
  (.own "Space", .own "Space", true), (.own "Space", .own "Map", false), (.own "Space", .own "Spread", false), (.own "Space", .own "Store", false),
  (.own "Map", .own "Space", false), (.own "Map", .own "Map", true), (.own "Map", .own "Spread", false), (.own "Map", .own "Store", false),
  (.own "Spread", .own "Space", false), (.own "Spread", .own "Map", false), (.own "Spread", .own "Spread", true), (.own "Spread", .own "Store", false),
  (.own "Store", .own "Space", false), (.own "Store", .own "Map", false), (.own "Store", .own "Spread", false), (.own "Store", .own "Store", true)]
/-- an own error class with an __init__ of its own -/
structure Er (P : Program) (K : PySem.W.Frag) (mg : Str → Option Value) (x q : Str) (st : Stmt) : Prop where
  fd : ∃ fd, SupC P K mg (He.ga K x) q st (He.ma K (He.ga K x) "__init__") fd
  init : PySem.W.findIn K (.ref (He.ga K x)) "__init__" = some (some (.ref (He.ma K (He.ga K x) "__init__")))
  ty : PySem.W.typeIn K (.ref (He.ma K (He.ga K x) "__init__")) = some (.type "function")
def erN : List (Str × Str × Stmt) := [("BadValue", "BadValue.__init__", inClass (stm 3) 0), ("NotOneToOne", "NotOneToOne.__init__", inClass (stm 4) 0), ("Unequal", "Unequal.__init__", inClass (stm 8) 0), ("Unknown", "Unknown.__init__", inClass (stm 9) 0),
  ("BadPromise", "BadPromise.__init__", inClass (stm 12) 0), ("Broken", "Broken.__init__", inClass (stm 13) 0), ("NotMade", "NotMade.__init__", inClass (stm 14) 0)]
structure Tx (P : Program) (K : PySem.W.Frag) (mg : Str → Option Value) : Prop where
  er : ∀ (i : Nat) (x q : Str) (st : Stmt), erN[i]? = some (x, q, st) → Er P K mg x q st
  exm : ∀ x ∈ errN, ∀ y ∈ errN, PySem.W.exmOne K (.ref (He.ga K x)) (.ref (He.ga K y)) = some (decide (x = y))
  lane : ∀ x ∈ errN, PySem.W.kitOne K (.ref (He.ga K x)) (.ref (He.ga K "LaneError")) = some true
  xf : ∀ x ∈ errN, XfC K (He.ga K x)
  xc : ∀ x ∈ errN, ExcC K (He.ga K x)
  ntu : PySem.W.excIn K (He.ga K "NothingToUndo") He.veBase "ValueError.__new__" = true ∧ PySem.W.keepIn K (.ref (He.ga K "NothingToUndo")) = true ∧ PySem.W.subIn K (.ref (He.ga K "NothingToUndo")) (.type "BaseException") = some true ∧ PySem.W.typeIn K (.ref (He.ga K "NothingToUndo")) = some (.type "type")
  def_ : ∀ (i : Nat) (d : He.DefD), allD[i]? = some d → ∃ fd, FunD K d.name d.qual d.params d.body d.scope (d.dvs K) (d.kws K) (He.fAd K d.at_) fd
  g : ∀ x ∈ gloN, mg x = some (.ref (He.ga K x))
  free : ∀ x ∈ freeN, mg x = none
  own : ∀ x ∈ clsN, Own K (He.ga K x)
  mkr : ∀ x ∈ clsN, Mk K (He.ga K x) (He.ma K (He.ga K x) "__init__")
  noat : ∀ p ∈ noatN, NoAttr K (He.ga K p.1) p.2
  meth : ∀ p ∈ methN, Meth K (He.ga K p.1) p.2 (He.ma K (He.ga K p.1) p.2)
  kit : ∀ (i : Nat) (a b : Kn) (r : Bool), kitN[i]? = some (a, b, r) → PySem.W.kitOne K (a.v K) (b.v K) = some r
  words : ∀ H, SqT K H (He.ga K "WORDS") [.str "rounds", .str "sums", .str "steps", .str "alike", .str "fits", .str "free"]
  counted : ∀ H, SqT K H (He.ga K "COUNTED") [.str "rounds", .str "sums", .str "steps", .str "fits"]
  sf : PySem.W.selfFirst K (He.ga K "Map") = true ∧ PySem.W.selfFirst K (He.ga K "Space") = true
  ne : neIn K (He.ga K "Space") (He.ma K (He.ga K "Space") "__eq__") = true
  gi : PySem.W.fnIn K (He.ma K (He.ga K "Desk") "__getitem__") = true
/-! ### a def by its name -/
/-- the module's name x is a def that keeps sp -/
def Has (P : Program) (w : World) (K : PySem.W.Frag) (mg : Str → Option Value) (base : Heap) (k : Nat) (x : Str) (ps : List Str) (sp : Sp) : Prop := mg x = some (.ref (He.ga K x)) ∧ Ok P w K mg base k (He.ga K x) ps sp
/-- the class x's def m -/
def HasM (P : Program) (w : World) (K : PySem.W.Frag) (mg : Str → Option Value) (base : Heap) (k : Nat) (x m : Str) (ps : List Str) (sp : Sp) : Prop := Meth K (He.ga K x) m (He.ma K (He.ga K x) m) ∧ Ok P w K mg base k (He.ma K (He.ga K x) m) ps sp
section
variable {P : Program} {w : World} {K : PySem.W.Frag} {mg : Str → Option Value} {base : Heap} {k j : Nat} {x m : Str} {ps : List Str} {sp sp' : Sp}
theorem Has.mono (h : Has P w K mg base j x ps sp) (l : j ≤ k) : Has P w K mg base k x ps sp := ⟨h.1, h.2.mono l⟩
theorem Has.imp (h : Has P w K mg base k x ps sp) (i : ∀ vs H Q E, sp' vs H Q E → sp vs H Q E) : Has P w K mg base k x ps sp' := ⟨h.1, h.2.imp i⟩
theorem HasM.mono (h : HasM P w K mg base j x m ps sp) (l : j ≤ k) : HasM P w K mg base k x m ps sp := ⟨h.1, h.2.mono l⟩
theorem HasM.imp (h : HasM P w K mg base k x m ps sp) (i : ∀ vs H Q E, sp' vs H Q E → sp vs H Q E) : HasM P w K mg base k x m ps sp' := ⟨h.1, h.2.imp i⟩
/-- a body keeps it -/
theorem ok_body {name qual : Str} {st : Stmt} {f : Addr} {N : List Str} (F : ∃ fd, FunD K name qual (defArgs st) (defBody st) (defScope st) [] [] f fd) (S : FnScope N ps (defScope st)) (len : ∀ vs H Q E, sp vs H Q E → vs.length = ps.length)
    (bd : ∀ (kV doc pm : Value) (an : Option Addr) (cdv ct : Value) (us : List Value), us.length = ps.length → bindArgs (PySem.W.fnOf name qual (defArgs st) (defBody st) (defScope st) .none kV doc pm an cdv ct) ⟨us, []⟩ = pure (ps.zip us))
    (hbody : ∀ (cdv : Value) (A : Around) (outer : List Env) (s : Shared) (H : Hp) (vs : List V) (Q : VK) (E : XK), Room k (A.deeper (envOfC qual (defScope st) s.heap.objs.size f cdv)) → sp vs H Q E →
      ∃ t, PSs (cxOf (L2.CX P w) P w K mg base N qual (defScope st) f cdv A outer s H E) (defBody st) t ∧ t { nx := fun _ H' => Q .non H', rt := Q } (start N vs) H) : Ok P w K mg base (k + 1) f ps sp := by
  obtain ⟨fd, F⟩ := F
  exact ⟨F.kp, fd, F.ok S len hbody, F.bindsN bd⟩
end
section
variable {X : Cx} {k : Nat} {x y m : Str} {ps : List Str} {sp : Sp} {E : XK} {p pos apos : Pos} {e o : Expr} {es : List Expr} {ta : TE} {t : TA}
/-- f(e, ..) -/
theorem pe_h (F : Has X.prog X.w X.K X.mg X.base k x ps sp) (hr : Room k X.A) (hx : Passes (L2.CX X.prog X.w) X E) (ha : PA X (e :: es) t) (hg : Gl X x := by rfl)
    (hdb : (x == ("__debug__" : Str)) = false := by decide) (he : starEach (e :: es) X.env = (false, eval e X.env) :: starEach es X.env := by rfl) (hpl : (backTo pos (starEach es X.env)).any (·.1) = false := by rfl) :
    PE X (.Call (.Name x p) (e :: es) [] pos) (tCl sp E t) := pe_cl F.2 F.1 hr hx ha hg hdb he hpl
/-- o.m(e, ..), o an instance of the class y -/
theorem pe_hm {pl : Sem Bool} (F : HasM X.prog X.w X.K X.mg X.base k y m ps sp) (c : Own X.K (He.ga X.K y)) (hr : Room k X.A) (hx : Passes (L2.CX X.prog X.w) X E) (he : PE X o ta) (ha : PA X (e :: es) t)
    (hst : starEach (e :: es) X.env = (false, eval e X.env) :: starEach es X.env := by rfl) (hpl : (backTo pos (starEach es X.env)).any (·.1) = false := by rfl)
    (ht : eval (.Call (.Attribute o m apos) (e :: es) [] pos) X.env = (do
      let ov ← eval o X.env
      standAt apos.atName
      let (f, first) ← holding [ov] (getMethod ov m pl)
      callWith pos f first (backTo pos (starEach (e :: es) X.env)) (backToKw pos (keywordEach [] X.env))) := by rfl) :
    PE X (.Call (.Attribute o m apos) (e :: es) [] pos) (tMt (He.ga X.K y) m sp E ta t) := pe_mt F.2 c.cls F.1 hr hx he ha hst hpl ht
theorem pe_hm0 {pl : Sem Bool} (F : HasM X.prog X.w X.K X.mg X.base k y m ps sp) (c : Own X.K (He.ga X.K y)) (hr : Room k X.A) (hx : Passes (L2.CX X.prog X.w) X E) (he : PE X o ta)
    (ht : eval (.Call (.Attribute o m apos) [] [] pos) X.env = (do
      let ov ← eval o X.env
      standAt apos.atName
      let (f, first) ← holding [ov] (getMethod ov m pl)
      callWith pos f first (backTo pos (starEach [] X.env)) (backToKw pos (keywordEach [] X.env))) := by rfl) :
    PE X (.Call (.Attribute o m apos) [] [] pos) (tMt (He.ga X.K y) m sp E ta tNil) := pe_mt0 F.2 c.cls F.1 hr hx he ht
/-- C(e, ..) -/
theorem pe_hc (F : HasM X.prog X.w X.K X.mg X.base k x "__init__" ps sp) (M : Mk X.K (He.ga X.K x) (He.ma X.K (He.ga X.K x) "__init__")) (hm : X.mg x = some (.ref (He.ga X.K x))) (hr : Room (k + 1) X.A) (hx : Passes (L2.CX X.prog X.w) X E) (ha : PA X (e :: es) t) (hg : Gl X x := by rfl)
    (hdb : (x == ("__debug__" : Str)) = false := by decide) (he : starEach (e :: es) X.env = (false, eval e X.env) :: starEach es X.env := by rfl) (hpl : (backTo pos (starEach es X.env)).any (·.1) = false := by rfl) :
    PE X (.Call (.Name x p) (e :: es) [] pos) (tMk (He.ga X.K x) sp E t) := pe_mk F.2 M hm hr hx ha hg hdb he hpl
theorem pe_hc0 (F : HasM X.prog X.w X.K X.mg X.base k x "__init__" ps sp) (M : Mk X.K (He.ga X.K x) (He.ma X.K (He.ga X.K x) "__init__")) (hm : X.mg x = some (.ref (He.ga X.K x))) (hr : Room (k + 1) X.A) (hx : Passes (L2.CX X.prog X.w) X E) (hg : Gl X x := by rfl)
    (hdb : (x == ("__debug__" : Str)) = false := by decide) : PE X (.Call (.Name x p) [] [] pos) (tMk (He.ga X.K x) sp E tNil) := pe_mk0 F.2 M hm hr hx hg hdb
/-- a written number as a natural -/
theorem pe_nat (n : Nat) {i : Int} {j : Nat} (h : i = (n : Int) := by rfl) : PE X (.Constant (.int i) j pos) (tC (nV n)) := by
  subst h
  exact pe_int
end
/-! ### promises by the number of arguments -/
abbrev S1 (φ : V → Hp → VK → XK → Prop) : Sp := fun vs H Q E => ∃ a, vs = [a] ∧ φ a H Q E
abbrev S2 (φ : V → V → Hp → VK → XK → Prop) : Sp := fun vs H Q E => ∃ a b, vs = [a, b] ∧ φ a b H Q E
abbrev S3 (φ : V → V → V → Hp → VK → XK → Prop) : Sp := fun vs H Q E => ∃ a b c, vs = [a, b, c] ∧ φ a b c H Q E
abbrev S4 (φ : V → V → V → V → Hp → VK → XK → Prop) : Sp := fun vs H Q E => ∃ a b c d, vs = [a, b, c, d] ∧ φ a b c d H Q E
section
variable {P : Program} {w : World} {K : PySem.W.Frag} {mg : Str → Option Value} {base : Heap} {k : Nat} {name qual : Str} {st : Stmt} {f : Addr} {N : List Str} {p1 p2 p3 p4 : Str}
theorem ok1 {φ : V → Hp → VK → XK → Prop} (F : ∃ fd, FunD K name qual (defArgs st) (defBody st) (defScope st) [] [] f fd) (S : FnScope N [p1] (defScope st))
    (hbody : ∀ (cdv : Value) (A : Around) (outer : List Env) (s : Shared) (H : Hp) (a : V) (Q : VK) (E : XK), Room k (A.deeper (envOfC qual (defScope st) s.heap.objs.size f cdv)) → φ a H Q E →
      ∃ t, PSs (cxOf (L2.CX P w) P w K mg base N qual (defScope st) f cdv A outer s H E) (defBody st) t ∧ t { nx := fun _ H' => Q .non H', rt := Q } (start N [a]) H)
    (bd : ∀ (kV doc pm : Value) (an : Option Addr) (cdv ct : Value) (u : Value), bindArgs (PySem.W.fnOf name qual (defArgs st) (defBody st) (defScope st) .none kV doc pm an cdv ct) ⟨[u], []⟩ = pure [(p1, u)] := by intros; rfl) :
    Ok P w K mg base (k + 1) f [p1] (S1 φ) := ok_body F S (fun vs H Q E ⟨_, e, _⟩ => by rw [e]; rfl) (fun kV doc pm an cdv ct us hl => match us, hl with | [u], _ => bd kV doc pm an cdv ct u)
  fun cdv A outer s H vs Q E hr ⟨a, e, h⟩ => by subst e; exact hbody cdv A outer s H a Q E hr h
theorem ok2 {φ : V → V → Hp → VK → XK → Prop} (F : ∃ fd, FunD K name qual (defArgs st) (defBody st) (defScope st) [] [] f fd) (S : FnScope N [p1, p2] (defScope st))
    (hbody : ∀ (cdv : Value) (A : Around) (outer : List Env) (s : Shared) (H : Hp) (a b : V) (Q : VK) (E : XK), Room k (A.deeper (envOfC qual (defScope st) s.heap.objs.size f cdv)) → φ a b H Q E →
      ∃ t, PSs (cxOf (L2.CX P w) P w K mg base N qual (defScope st) f cdv A outer s H E) (defBody st) t ∧ t { nx := fun _ H' => Q .non H', rt := Q } (start N [a, b]) H)
    (bd : ∀ (kV doc pm : Value) (an : Option Addr) (cdv ct : Value) (u v : Value), bindArgs (PySem.W.fnOf name qual (defArgs st) (defBody st) (defScope st) .none kV doc pm an cdv ct) ⟨[u, v], []⟩ = pure [(p1, u), (p2, v)] := by intros; rfl) :
    Ok P w K mg base (k + 1) f [p1, p2] (S2 φ) := ok_body F S (fun vs H Q E ⟨_, _, e, _⟩ => by rw [e]; rfl) (fun kV doc pm an cdv ct us hl => match us, hl with | [u, v], _ => bd kV doc pm an cdv ct u v)
  fun cdv A outer s H vs Q E hr ⟨a, b, e, h⟩ => by subst e; exact hbody cdv A outer s H a b Q E hr h
theorem ok3 {φ : V → V → V → Hp → VK → XK → Prop} (F : ∃ fd, FunD K name qual (defArgs st) (defBody st) (defScope st) [] [] f fd) (S : FnScope N [p1, p2, p3] (defScope st))
    (hbody : ∀ (cdv : Value) (A : Around) (outer : List Env) (s : Shared) (H : Hp) (a b c : V) (Q : VK) (E : XK), Room k (A.deeper (envOfC qual (defScope st) s.heap.objs.size f cdv)) → φ a b c H Q E →
      ∃ t, PSs (cxOf (L2.CX P w) P w K mg base N qual (defScope st) f cdv A outer s H E) (defBody st) t ∧ t { nx := fun _ H' => Q .non H', rt := Q } (start N [a, b, c]) H)
    (bd : ∀ (kV doc pm : Value) (an : Option Addr) (cdv ct : Value) (u v z : Value), bindArgs (PySem.W.fnOf name qual (defArgs st) (defBody st) (defScope st) .none kV doc pm an cdv ct) ⟨[u, v, z], []⟩ = pure [(p1, u), (p2, v), (p3, z)] := by intros; rfl) :
    Ok P w K mg base (k + 1) f [p1, p2, p3] (S3 φ) := ok_body F S (fun vs H Q E ⟨_, _, _, e, _⟩ => by rw [e]; rfl) (fun kV doc pm an cdv ct us hl => match us, hl with | [u, v, z], _ => bd kV doc pm an cdv ct u v z)
  fun cdv A outer s H vs Q E hr ⟨a, b, c, e, h⟩ => by subst e; exact hbody cdv A outer s H a b c Q E hr h
theorem ok4 {φ : V → V → V → V → Hp → VK → XK → Prop} (F : ∃ fd, FunD K name qual (defArgs st) (defBody st) (defScope st) [] [] f fd) (S : FnScope N [p1, p2, p3, p4] (defScope st))
    (hbody : ∀ (cdv : Value) (A : Around) (outer : List Env) (s : Shared) (H : Hp) (a b c d : V) (Q : VK) (E : XK), Room k (A.deeper (envOfC qual (defScope st) s.heap.objs.size f cdv)) → φ a b c d H Q E →
      ∃ t, PSs (cxOf (L2.CX P w) P w K mg base N qual (defScope st) f cdv A outer s H E) (defBody st) t ∧ t { nx := fun _ H' => Q .non H', rt := Q } (start N [a, b, c, d]) H)
    (bd : ∀ (kV doc pm : Value) (an : Option Addr) (cdv ct : Value) (u v z y : Value), bindArgs (PySem.W.fnOf name qual (defArgs st) (defBody st) (defScope st) .none kV doc pm an cdv ct) ⟨[u, v, z, y], []⟩ = pure [(p1, u), (p2, v), (p3, z), (p4, y)] := by intros; rfl) :
    Ok P w K mg base (k + 1) f [p1, p2, p3, p4] (S4 φ) := ok_body F S (fun vs H Q E ⟨_, _, _, _, e, _⟩ => by rw [e]; rfl) (fun kV doc pm an cdv ct us hl => match us, hl with | [u, v, z, y], _ => bd kV doc pm an cdv ct u v z y)
  fun cdv A outer s H vs Q E hr ⟨a, b, c, d, e, h⟩ => by subst e; exact hbody cdv A outer s H a b c d Q E hr h
end
theorem _root_.L2.Same.tup {K : PySem.W.Frag} {H H' : Hp} {a : Addr} {xs : List V} (e : Same H H') (h : SqT K H a xs) : SqT K H' a xs := by
  rcases h with (h | ⟨o, h⟩) | h
  · exact .inl (.inl (e _ _ h))
  · exact .inl (.inr ⟨o, e _ _ h⟩)
  · exact .inr h
/-- something new is laid -/
theorem _root_.L2.Same.new {H : Hp} {p : Addr} {o : HO} (h : H p = none) : Same H (upd H p o) := fun b u e => by rw [upd_ne (ne_of_none e h)]; exact e
theorem _root_.L2.Same.new' {H H1 : Hp} {p : Addr} {o : HO} (e : Same H H1) (h : H1 p = none) : Same H (upd H1 p o) := e.trans (Same.new h)
section
variable {P : Program} {K : PySem.W.Frag} {mg : Str → Option Value}

theorem F_is_whole (T : Tx P K mg) : ∃ fd, FunD K D_is_whole.name D_is_whole.qual (defArgs st_is_whole) (defBody st_is_whole) (defScope st_is_whole) [] [] (He.fAd K D_is_whole.at_) fd := T.def_ 0 _ rfl
theorem F_need_whole (T : Tx P K mg) : ∃ fd, FunD K D_need_whole.name D_need_whole.qual (defArgs st_need_whole) (defBody st_need_whole) (defScope st_need_whole) [] [] (He.fAd K D_need_whole.at_) fd := T.def_ 1 _ rfl
theorem F_need_items (T : Tx P K mg) : ∃ fd, FunD K D_need_items.name D_need_items.qual (defArgs st_need_items) (defBody st_need_items) (defScope st_need_items) [] [] (He.fAd K D_need_items.at_) fd := T.def_ 2 _ rfl
theorem F_need_word (T : Tx P K mg) : ∃ fd, FunD K D_need_word.name D_need_word.qual (defArgs st_need_word) (defBody st_need_word) (defScope st_need_word) [] [] (He.fAd K D_need_word.at_) fd := T.def_ 3 _ rfl
theorem F_need_words (T : Tx P K mg) : ∃ fd, FunD K D_need_words.name D_need_words.qual (defArgs st_need_words) (defBody st_need_words) (defScope st_need_words) [] [] (He.fAd K D_need_words.at_) fd := T.def_ 4 _ rfl
theorem F_is_name (T : Tx P K mg) : ∃ fd, FunD K D_is_name.name D_is_name.qual (defArgs st_is_name) (defBody st_is_name) (defScope st_is_name) [] [] (He.fAd K D_is_name.at_) fd := T.def_ 5 _ rfl
theorem F_need_name (T : Tx P K mg) : ∃ fd, FunD K D_need_name.name D_need_name.qual (defArgs st_need_name) (defBody st_need_name) (defScope st_need_name) [] [] (He.fAd K D_need_name.at_) fd := T.def_ 6 _ rfl
theorem F_ones (T : Tx P K mg) : ∃ fd, FunD K D_ones.name D_ones.qual (defArgs st_ones) (defBody st_ones) (defScope st_ones) [] [] (He.fAd K D_ones.at_) fd := T.def_ 7 _ rfl
theorem F_cleared (T : Tx P K mg) : ∃ fd, FunD K D_cleared.name D_cleared.qual (defArgs st_cleared) (defBody st_cleared) (defScope st_cleared) [] [] (He.fAd K D_cleared.at_) fd := T.def_ 8 _ rfl
theorem F_grown (T : Tx P K mg) : ∃ fd, FunD K D_grown.name D_grown.qual (defArgs st_grown) (defBody st_grown) (defScope st_grown) [] [] (He.fAd K D_grown.at_) fd := T.def_ 9 _ rfl
theorem F_spanned (T : Tx P K mg) : ∃ fd, FunD K D_spanned.name D_spanned.qual (defArgs st_spanned) (defBody st_spanned) (defScope st_spanned) [] [] (He.fAd K D_spanned.at_) fd := T.def_ 10 _ rfl
theorem F_image_of (T : Tx P K mg) : ∃ fd, FunD K D_image_of.name D_image_of.qual (defArgs st_image_of) (defBody st_image_of) (defScope st_image_of) [] [] (He.fAd K D_image_of.at_) fd := T.def_ 11 _ rfl
theorem F_paired (T : Tx P K mg) : ∃ fd, FunD K D_paired.name D_paired.qual (defArgs st_paired) (defBody st_paired) (defScope st_paired) [] [] (He.fAd K D_paired.at_) fd := T.def_ 12 _ rfl
theorem F_kernel_rows (T : Tx P K mg) : ∃ fd, FunD K D_kernel_rows.name D_kernel_rows.qual (defArgs st_kernel_rows) (defBody st_kernel_rows) (defScope st_kernel_rows) [] [] (He.fAd K D_kernel_rows.at_) fd := T.def_ 13 _ rfl
theorem F_solved (T : Tx P K mg) : ∃ fd, FunD K D_solved.name D_solved.qual (defArgs st_solved) (defBody st_solved) (defScope st_solved) [] [] (He.fAd K D_solved.at_) fd := T.def_ 14 _ rfl
theorem F_met (T : Tx P K mg) : ∃ fd, FunD K D_met.name D_met.qual (defArgs st_met) (defBody st_met) (defScope st_met) [] [] (He.fAd K D_met.at_) fd := T.def_ 15 _ rfl
theorem F_need_space (T : Tx P K mg) : ∃ fd, FunD K D_need_space.name D_need_space.qual (defArgs st_need_space) (defBody st_need_space) (defScope st_need_space) [] [] (He.fAd K D_need_space.at_) fd := T.def_ 16 _ rfl
theorem F_need_map (T : Tx P K mg) : ∃ fd, FunD K D_need_map.name D_need_map.qual (defArgs st_need_map) (defBody st_need_map) (defScope st_need_map) [] [] (He.fAd K D_need_map.at_) fd := T.def_ 17 _ rfl
theorem F_need_one_to_one (T : Tx P K mg) : ∃ fd, FunD K D_need_one_to_one.name D_need_one_to_one.qual (defArgs st_need_one_to_one) (defBody st_need_one_to_one) (defScope st_need_one_to_one) [] [] (He.fAd K D_need_one_to_one.at_) fd := T.def_ 18 _ rfl
theorem F_need_onto (T : Tx P K mg) : ∃ fd, FunD K D_need_onto.name D_need_onto.qual (defArgs st_need_onto) (defBody st_need_onto) (defScope st_need_onto) [] [] (He.fAd K D_need_onto.at_) fd := T.def_ 19 _ rfl
theorem F_any_spread (T : Tx P K mg) : ∃ fd, FunD K D_any_spread.name D_any_spread.qual (defArgs st_any_spread) (defBody st_any_spread) (defScope st_any_spread) [] [] (He.fAd K D_any_spread.at_) fd := T.def_ 20 _ rfl
theorem F_hold_alike (T : Tx P K mg) : ∃ fd, FunD K D_hold_alike.name D_hold_alike.qual (defArgs st_hold_alike) (defBody st_hold_alike) (defScope st_hold_alike) [] [] (He.fAd K D_hold_alike.at_) fd := T.def_ 21 _ rfl
theorem F_phase_bits (T : Tx P K mg) : ∃ fd, FunD K D_phase_bits.name D_phase_bits.qual (defArgs st_phase_bits) (defBody st_phase_bits) (defScope st_phase_bits) [] [] (He.fAd K D_phase_bits.at_) fd := T.def_ 22 _ rfl
theorem F_need_pair (T : Tx P K mg) : ∃ fd, FunD K D_need_pair.name D_need_pair.qual (defArgs st_need_pair) (defBody st_need_pair) (defScope st_need_pair) [] [] (He.fAd K D_need_pair.at_) fd := T.def_ 23 _ rfl
theorem F_partner_rows (T : Tx P K mg) : ∃ fd, FunD K D_partner_rows.name D_partner_rows.qual (defArgs st_partner_rows) (defBody st_partner_rows) (defScope st_partner_rows) [] [] (He.fAd K D_partner_rows.at_) fd := T.def_ 24 _ rfl
theorem F_partners (T : Tx P K mg) : ∃ fd, FunD K D_partners.name D_partners.qual (defArgs st_partners) (defBody st_partners) (defScope st_partners) [] [] (He.fAd K D_partners.at_) fd := T.def_ 25 _ rfl
theorem F_leaders (T : Tx P K mg) : ∃ fd, FunD K D_leaders.name D_leaders.qual (defArgs st_leaders) (defBody st_leaders) (defScope st_leaders) [] [] (He.fAd K D_leaders.at_) fd := T.def_ 26 _ rfl
theorem F_sum_steps (T : Tx P K mg) : ∃ fd, FunD K D_sum_steps.name D_sum_steps.qual (defArgs st_sum_steps) (defBody st_sum_steps) (defScope st_sum_steps) [] [] (He.fAd K D_sum_steps.at_) fd := T.def_ 27 _ rfl
theorem F_need_promise (T : Tx P K mg) : ∃ fd, FunD K D_need_promise.name D_need_promise.qual (defArgs st_need_promise) (defBody st_need_promise) (defScope st_need_promise) [] [] (He.fAd K D_need_promise.at_) fd := T.def_ 28 _ rfl
theorem F_bits_of (T : Tx P K mg) : ∃ fd, FunD K D_bits_of.name D_bits_of.qual (defArgs st_bits_of) (defBody st_bits_of) (defScope st_bits_of) [] [] (He.fAd K D_bits_of.at_) fd := T.def_ 29 _ rfl
theorem F_is_kept (T : Tx P K mg) : ∃ fd, FunD K D_is_kept.name D_is_kept.qual (defArgs st_is_kept) (defBody st_is_kept) (defScope st_is_kept) [] [] (He.fAd K D_is_kept.at_) fd := T.def_ 30 _ rfl
theorem F_spreads_keep (T : Tx P K mg) : ∃ fd, FunD K D_spreads_keep.name D_spreads_keep.qual (defArgs st_spreads_keep) (defBody st_spreads_keep) (defScope st_spreads_keep) [] [] (He.fAd K D_spreads_keep.at_) fd := T.def_ 31 _ rfl
theorem F_sums_keep (T : Tx P K mg) : ∃ fd, FunD K D_sums_keep.name D_sums_keep.qual (defArgs st_sums_keep) (defBody st_sums_keep) (defScope st_sums_keep) [] [] (He.fAd K D_sums_keep.at_) fd := T.def_ 32 _ rfl
theorem F_store_keeps (T : Tx P K mg) : ∃ fd, FunD K D_store_keeps.name D_store_keeps.qual (defArgs st_store_keeps) (defBody st_store_keeps) (defScope st_store_keeps) [] [] (He.fAd K D_store_keeps.at_) fd := T.def_ 33 _ rfl
theorem F_renamed_thing (T : Tx P K mg) : ∃ fd, FunD K D_renamed_thing.name D_renamed_thing.qual (defArgs st_renamed_thing) (defBody st_renamed_thing) (defScope st_renamed_thing) [] [] (He.fAd K D_renamed_thing.at_) fd := T.def_ 34 _ rfl
theorem F_law_begin (T : Tx P K mg) : ∃ fd, FunD K D_law_begin.name D_law_begin.qual (defArgs st_law_begin) (defBody st_law_begin) (defScope st_law_begin) [] [] (He.fAd K D_law_begin.at_) fd := T.def_ 35 _ rfl
theorem F_law_draw (T : Tx P K mg) : ∃ fd, FunD K D_law_draw.name D_law_draw.qual (defArgs st_law_draw) (defBody st_law_draw) (defScope st_law_draw) [] [] (He.fAd K D_law_draw.at_) fd := T.def_ 36 _ rfl
theorem F_law_pick (T : Tx P K mg) : ∃ fd, FunD K D_law_pick.name D_law_pick.qual (defArgs st_law_pick) (defBody st_law_pick) (defScope st_law_pick) [] [] (He.fAd K D_law_pick.at_) fd := T.def_ 37 _ rfl
theorem F_law_word (T : Tx P K mg) : ∃ fd, FunD K D_law_word.name D_law_word.qual (defArgs st_law_word) (defBody st_law_word) (defScope st_law_word) [] [] (He.fAd K D_law_word.at_) fd := T.def_ 38 _ rfl
theorem F_law_mixed (T : Tx P K mg) : ∃ fd, FunD K D_law_mixed.name D_law_mixed.qual (defArgs st_law_mixed) (defBody st_law_mixed) (defScope st_law_mixed) [] [] (He.fAd K D_law_mixed.at_) fd := T.def_ 39 _ rfl
theorem F_law_left (T : Tx P K mg) : ∃ fd, FunD K D_law_left.name D_law_left.qual (defArgs st_law_left) (defBody st_law_left) (defScope st_law_left) [] [] (He.fAd K D_law_left.at_) fd := T.def_ 40 _ rfl
theorem F_law_basis (T : Tx P K mg) : ∃ fd, FunD K D_law_basis.name D_law_basis.qual (defArgs st_law_basis) (defBody st_law_basis) (defScope st_law_basis) [] [] (He.fAd K D_law_basis.at_) fd := T.def_ 41 _ rfl
theorem F_law_size (T : Tx P K mg) : ∃ fd, FunD K D_law_size.name D_law_size.qual (defArgs st_law_size) (defBody st_law_size) (defScope st_law_size) [] [] (He.fAd K D_law_size.at_) fd := T.def_ 42 _ rfl
theorem F_law_image (T : Tx P K mg) : ∃ fd, FunD K D_law_image.name D_law_image.qual (defArgs st_law_image) (defBody st_law_image) (defScope st_law_image) [] [] (He.fAd K D_law_image.at_) fd := T.def_ 43 _ rfl
theorem F_law_tagged (T : Tx P K mg) : ∃ fd, FunD K D_law_tagged.name D_law_tagged.qual (defArgs st_law_tagged) (defBody st_law_tagged) (defScope st_law_tagged) [] [] (He.fAd K D_law_tagged.at_) fd := T.def_ 44 _ rfl
theorem F_law_kernel (T : Tx P K mg) : ∃ fd, FunD K D_law_kernel.name D_law_kernel.qual (defArgs st_law_kernel) (defBody st_law_kernel) (defScope st_law_kernel) [] [] (He.fAd K D_law_kernel.at_) fd := T.def_ 45 _ rfl
theorem F_law_listed (T : Tx P K mg) : ∃ fd, FunD K D_law_listed.name D_law_listed.qual (defArgs st_law_listed) (defBody st_law_listed) (defScope st_law_listed) [] [] (He.fAd K D_law_listed.at_) fd := T.def_ 46 _ rfl
theorem F_law_truth (T : Tx P K mg) : ∃ fd, FunD K D_law_truth.name D_law_truth.qual (defArgs st_law_truth) (defBody st_law_truth) (defScope st_law_truth) [] [] (He.fAd K D_law_truth.at_) fd := T.def_ 47 _ rfl
theorem F_law_is_space (T : Tx P K mg) : ∃ fd, FunD K D_law_is_space.name D_law_is_space.qual (defArgs st_law_is_space) (defBody st_law_is_space) (defScope st_law_is_space) [] [] (He.fAd K D_law_is_space.at_) fd := T.def_ 48 _ rfl
theorem F_law_words_for (T : Tx P K mg) : ∃ fd, FunD K D_law_words_for.name D_law_words_for.qual (defArgs st_law_words_for) (defBody st_law_words_for) (defScope st_law_words_for) [] [] (He.fAd K D_law_words_for.at_) fd := T.def_ 49 _ rfl
theorem F_law_spread_words (T : Tx P K mg) : ∃ fd, FunD K D_law_spread_words.name D_law_spread_words.qual (defArgs st_law_spread_words) (defBody st_law_spread_words) (defScope st_law_spread_words) [] [] (He.fAd K D_law_spread_words.at_) fd := T.def_ 50 _ rfl
theorem F_law_undone (T : Tx P K mg) : ∃ fd, FunD K D_law_undone.name D_law_undone.qual (defArgs st_law_undone) (defBody st_law_undone) (defScope st_law_undone) [] [] (He.fAd K D_law_undone.at_) fd := T.def_ 51 _ rfl
theorem F_law_drawn_thing (T : Tx P K mg) : ∃ fd, FunD K D_law_drawn_thing.name D_law_drawn_thing.qual (defArgs st_law_drawn_thing) (defBody st_law_drawn_thing) (defScope st_law_drawn_thing) [] [] (He.fAd K D_law_drawn_thing.at_) fd := T.def_ 52 _ rfl
theorem F_law_object (T : Tx P K mg) : ∃ fd, FunD K D_law_object.name D_law_object.qual (defArgs st_law_object) (defBody st_law_object) (defScope st_law_object) [] [] (He.fAd K D_law_object.at_) fd := T.def_ 53 _ rfl
theorem F_law_is_thing (T : Tx P K mg) : ∃ fd, FunD K D_law_is_thing.name D_law_is_thing.qual (defArgs st_law_is_thing) (defBody st_law_is_thing) (defScope st_law_is_thing) [] [] (He.fAd K D_law_is_thing.at_) fd := T.def_ 54 _ rfl
theorem F_law_are_alike (T : Tx P K mg) : ∃ fd, FunD K D_law_are_alike.name D_law_are_alike.qual (defArgs st_law_are_alike) (defBody st_law_are_alike) (defScope st_law_are_alike) [] [] (He.fAd K D_law_are_alike.at_) fd := T.def_ 55 _ rfl
theorem F_law_is_free (T : Tx P K mg) : ∃ fd, FunD K D_law_is_free.name D_law_is_free.qual (defArgs st_law_is_free) (defBody st_law_is_free) (defScope st_law_is_free) [] [] (He.fAd K D_law_is_free.at_) fd := T.def_ 56 _ rfl
theorem F_law_is_kept (T : Tx P K mg) : ∃ fd, FunD K D_law_is_kept.name D_law_is_kept.qual (defArgs st_law_is_kept) (defBody st_law_is_kept) (defScope st_law_is_kept) [] [] (He.fAd K D_law_is_kept.at_) fd := T.def_ 57 _ rfl
theorem F_law_first_broken (T : Tx P K mg) : ∃ fd, FunD K D_law_first_broken.name D_law_first_broken.qual (defArgs st_law_first_broken) (defBody st_law_first_broken) (defScope st_law_first_broken) [] [] (He.fAd K D_law_first_broken.at_) fd := T.def_ 58 _ rfl
theorem F_law_drawn_promise (T : Tx P K mg) : ∃ fd, FunD K D_law_drawn_promise.name D_law_drawn_promise.qual (defArgs st_law_drawn_promise) (defBody st_law_drawn_promise) (defScope st_law_drawn_promise) [] [] (He.fAd K D_law_drawn_promise.at_) fd := T.def_ 59 _ rfl
theorem F_law_likely_promise (T : Tx P K mg) : ∃ fd, FunD K D_law_likely_promise.name D_law_likely_promise.qual (defArgs st_law_likely_promise) (defBody st_law_likely_promise) (defScope st_law_likely_promise) [] [] (He.fAd K D_law_likely_promise.at_) fd := T.def_ 60 _ rfl
theorem F_law_moved_thing (T : Tx P K mg) : ∃ fd, FunD K D_law_moved_thing.name D_law_moved_thing.qual (defArgs st_law_moved_thing) (defBody st_law_moved_thing) (defScope st_law_moved_thing) [] [] (He.fAd K D_law_moved_thing.at_) fd := T.def_ 61 _ rfl
theorem F_law_backs (T : Tx P K mg) : ∃ fd, FunD K D_law_backs.name D_law_backs.qual (defArgs st_law_backs) (defBody st_law_backs) (defScope st_law_backs) [] [] (He.fAd K D_law_backs.at_) fd := T.def_ 62 _ rfl
theorem F_law_due_deed (T : Tx P K mg) : ∃ fd, FunD K D_law_due_deed.name D_law_due_deed.qual (defArgs st_law_due_deed) (defBody st_law_due_deed) (defScope st_law_due_deed) [] [] (He.fAd K D_law_due_deed.at_) fd := T.def_ 63 _ rfl
theorem F_law_act (T : Tx P K mg) : ∃ fd, FunD K D_law_act.name D_law_act.qual (defArgs st_law_act) (defBody st_law_act) (defScope st_law_act) [] [] (He.fAd K D_law_act.at_) fd := T.def_ 64 _ rfl
theorem F_law_met (T : Tx P K mg) : ∃ fd, FunD K D_law_met.name D_law_met.qual (defArgs st_law_met) (defBody st_law_met) (defScope st_law_met) [] [] (He.fAd K D_law_met.at_) fd := T.def_ 65 _ rfl
theorem F_law_drawn_deed (T : Tx P K mg) : ∃ fd, FunD K D_law_drawn_deed.name D_law_drawn_deed.qual (defArgs st_law_drawn_deed) (defBody st_law_drawn_deed) (defScope st_law_drawn_deed) [] [] (He.fAd K D_law_drawn_deed.at_) fd := T.def_ 66 _ rfl
theorem F_law_stands (T : Tx P K mg) : ∃ fd, FunD K D_law_stands.name D_law_stands.qual (defArgs st_law_stands) (defBody st_law_stands) (defScope st_law_stands) [] [] (He.fAd K D_law_stands.at_) fd := T.def_ 67 _ rfl
theorem F_law_step_right (T : Tx P K mg) : ∃ fd, FunD K D_law_step_right.name D_law_step_right.qual (defArgs st_law_step_right) (defBody st_law_step_right) (defScope st_law_step_right) [] [] (He.fAd K D_law_step_right.at_) fd := T.def_ 68 _ rfl
theorem F_law_spoilt (T : Tx P K mg) : ∃ fd, FunD K D_law_spoilt.name D_law_spoilt.qual (defArgs st_law_spoilt) (defBody st_law_spoilt) (defScope st_law_spoilt) [] [] (He.fAd K D_law_spoilt.at_) fd := T.def_ 69 _ rfl
theorem F_law_odd_right (T : Tx P K mg) : ∃ fd, FunD K D_law_odd_right.name D_law_odd_right.qual (defArgs st_law_odd_right) (defBody st_law_odd_right) (defScope st_law_odd_right) [] [] (He.fAd K D_law_odd_right.at_) fd := T.def_ 70 _ rfl
theorem F_law (T : Tx P K mg) : ∃ fd, FunD K D_law.name D_law.qual (defArgs st_law) (defBody st_law) (defScope st_law) [] [] (He.fAd K D_law.at_) fd := T.def_ 71 _ rfl
theorem F_Space_init (T : Tx P K mg) : ∃ fd, FunD K D_Space_init.name D_Space_init.qual (defArgs st_Space_init) (defBody st_Space_init) (defScope st_Space_init) [] [] (He.fAd K D_Space_init.at_) fd := T.def_ 72 _ rfl
theorem F_Space_eq (T : Tx P K mg) : ∃ fd, FunD K D_Space_eq.name D_Space_eq.qual (defArgs st_Space_eq) (defBody st_Space_eq) (defScope st_Space_eq) [] [] (He.fAd K D_Space_eq.at_) fd := T.def_ 73 _ rfl
theorem F_Space_and (T : Tx P K mg) : ∃ fd, FunD K D_Space_and.name D_Space_and.qual (defArgs st_Space_and) (defBody st_Space_and) (defScope st_Space_and) [] [] (He.fAd K D_Space_and.at_) fd := T.def_ 74 _ rfl
theorem F_Space_least (T : Tx P K mg) : ∃ fd, FunD K D_Space_least.name D_Space_least.qual (defArgs st_Space_least) (defBody st_Space_least) (defScope st_Space_least) [] [] (He.fAd K D_Space_least.at_) fd := T.def_ 75 _ rfl
theorem F_Space_completing (T : Tx P K mg) : ∃ fd, FunD K D_Space_completing.name D_Space_completing.qual (defArgs st_Space_completing) (defBody st_Space_completing) (defScope st_Space_completing) [] [] (He.fAd K D_Space_completing.at_) fd := T.def_ 76 _ rfl
theorem F_Map_init (T : Tx P K mg) : ∃ fd, FunD K D_Map_init.name D_Map_init.qual (defArgs st_Map_init) (defBody st_Map_init) (defScope st_Map_init) [] [] (He.fAd K D_Map_init.at_) fd := T.def_ 77 _ rfl
theorem F_Map_eq (T : Tx P K mg) : ∃ fd, FunD K D_Map_eq.name D_Map_eq.qual (defArgs st_Map_eq) (defBody st_Map_eq) (defScope st_Map_eq) [] [] (He.fAd K D_Map_eq.at_) fd := T.def_ 78 _ rfl
theorem F_Map_mul (T : Tx P K mg) : ∃ fd, FunD K D_Map_mul.name D_Map_mul.qual (defArgs st_Map_mul) (defBody st_Map_mul) (defScope st_Map_mul) [] [] (He.fAd K D_Map_mul.at_) fd := T.def_ 79 _ rfl
theorem F_Map_invert (T : Tx P K mg) : ∃ fd, FunD K D_Map_invert.name D_Map_invert.qual (defArgs st_Map_invert) (defBody st_Map_invert) (defScope st_Map_invert) [] [] (He.fAd K D_Map_invert.at_) fd := T.def_ 80 _ rfl
theorem F_Map_kernel (T : Tx P K mg) : ∃ fd, FunD K D_Map_kernel.name D_Map_kernel.qual (defArgs st_Map_kernel) (defBody st_Map_kernel) (defScope st_Map_kernel) [] [] (He.fAd K D_Map_kernel.at_) fd := T.def_ 81 _ rfl
theorem F_Map_moved (T : Tx P K mg) : ∃ fd, FunD K D_Map_moved.name D_Map_moved.qual (defArgs st_Map_moved) (defBody st_Map_moved) (defScope st_Map_moved) [] [] (He.fAd K D_Map_moved.at_) fd := T.def_ 82 _ rfl
theorem F_Spread_init (T : Tx P K mg) : ∃ fd, FunD K D_Spread_init.name D_Spread_init.qual (defArgs st_Spread_init) (defBody st_Spread_init) (defScope st_Spread_init) [] [] (He.fAd K D_Spread_init.at_) fd := T.def_ 83 _ rfl
theorem F_Spread_slot_space (T : Tx P K mg) : ∃ fd, FunD K D_Spread_slot_space.name D_Spread_slot_space.qual (defArgs st_Spread_slot_space) (defBody st_Spread_slot_space) (defScope st_Spread_slot_space) [] [] (He.fAd K D_Spread_slot_space.at_) fd := T.def_ 84 _ rfl
theorem F_Spread_twins (T : Tx P K mg) : ∃ fd, FunD K D_Spread_twins.name D_Spread_twins.qual (defArgs st_Spread_twins) (defBody st_Spread_twins) (defScope st_Spread_twins) [] [] (He.fAd K D_Spread_twins.at_) fd := T.def_ 85 _ rfl
theorem F_Spread_renamed (T : Tx P K mg) : ∃ fd, FunD K D_Spread_renamed.name D_Spread_renamed.qual (defArgs st_Spread_renamed) (defBody st_Spread_renamed) (defScope st_Spread_renamed) [] [] (He.fAd K D_Spread_renamed.at_) fd := T.def_ 86 _ rfl
theorem F_Store_init (T : Tx P K mg) : ∃ fd, FunD K D_Store_init.name D_Store_init.qual (defArgs st_Store_init) (defBody st_Store_init) (defScope st_Store_init) [] [] (He.fAd K D_Store_init.at_) fd := T.def_ 87 _ rfl
theorem F_Store_bank_map (T : Tx P K mg) : ∃ fd, FunD K D_Store_bank_map.name D_Store_bank_map.qual (defArgs st_Store_bank_map) (defBody st_Store_bank_map) (defScope st_Store_bank_map) [] [] (He.fAd K D_Store_bank_map.at_) fd := T.def_ 88 _ rfl
theorem F_Store_meeting (T : Tx P K mg) : ∃ fd, FunD K D_Store_meeting.name D_Store_meeting.qual (defArgs st_Store_meeting) (defBody st_Store_meeting) (defScope st_Store_meeting) [] [] (He.fAd K D_Store_meeting.at_) fd := T.def_ 89 _ rfl
theorem F_Store_need_width (T : Tx P K mg) : ∃ fd, FunD K D_Store_need_width.name D_Store_need_width.qual (defArgs st_Store_need_width) (defBody st_Store_need_width) (defScope st_Store_need_width) [] [] (He.fAd K D_Store_need_width.at_) fd := T.def_ 90 _ rfl
theorem F_Store_fits (T : Tx P K mg) : ∃ fd, FunD K D_Store_fits.name D_Store_fits.qual (defArgs st_Store_fits) (defBody st_Store_fits) (defScope st_Store_fits) [] [] (He.fAd K D_Store_fits.at_) fd := T.def_ 91 _ rfl
theorem F_Store_touched (T : Tx P K mg) : ∃ fd, FunD K D_Store_touched.name D_Store_touched.qual (defArgs st_Store_touched) (defBody st_Store_touched) (defScope st_Store_touched) [] [] (He.fAd K D_Store_touched.at_) fd := T.def_ 92 _ rfl
theorem F_Store_beats (T : Tx P K mg) : ∃ fd, FunD K D_Store_beats.name D_Store_beats.qual (defArgs st_Store_beats) (defBody st_Store_beats) (defScope st_Store_beats) [] [] (He.fAd K D_Store_beats.at_) fd := T.def_ 93 _ rfl
theorem F_Desk_init (T : Tx P K mg) : ∃ fd, FunD K D_Desk_init.name D_Desk_init.qual (defArgs st_Desk_init) (defBody st_Desk_init) (defScope st_Desk_init) [] [] (He.fAd K D_Desk_init.at_) fd := T.def_ 94 _ rfl
theorem F_Desk_getitem (T : Tx P K mg) : ∃ fd, FunD K D_Desk_getitem.name D_Desk_getitem.qual (defArgs st_Desk_getitem) (defBody st_Desk_getitem) (defScope st_Desk_getitem) [] [] (He.fAd K D_Desk_getitem.at_) fd := T.def_ 95 _ rfl
theorem F_Desk_contains (T : Tx P K mg) : ∃ fd, FunD K D_Desk_contains.name D_Desk_contains.qual (defArgs st_Desk_contains) (defBody st_Desk_contains) (defScope st_Desk_contains) [] [] (He.fAd K D_Desk_contains.at_) fd := T.def_ 96 _ rfl
theorem F_Desk_len (T : Tx P K mg) : ∃ fd, FunD K D_Desk_len.name D_Desk_len.qual (defArgs st_Desk_len) (defBody st_Desk_len) (defScope st_Desk_len) [] [] (He.fAd K D_Desk_len.at_) fd := T.def_ 97 _ rfl
theorem F_Desk_need_thing (T : Tx P K mg) : ∃ fd, FunD K D_Desk_need_thing.name D_Desk_need_thing.qual (defArgs st_Desk_need_thing) (defBody st_Desk_need_thing) (defScope st_Desk_need_thing) [] [] (He.fAd K D_Desk_need_thing.at_) fd := T.def_ 98 _ rfl
theorem F_Desk_names (T : Tx P K mg) : ∃ fd, FunD K D_Desk_names.name D_Desk_names.qual (defArgs st_Desk_names) (defBody st_Desk_names) (defScope st_Desk_names) [] [] (He.fAd K D_Desk_names.at_) fd := T.def_ 99 _ rfl
theorem F_Desk_promises (T : Tx P K mg) : ∃ fd, FunD K D_Desk_promises.name D_Desk_promises.qual (defArgs st_Desk_promises) (defBody st_Desk_promises) (defScope st_Desk_promises) [] [] (He.fAd K D_Desk_promises.at_) fd := T.def_ 100 _ rfl
theorem F_Desk_holds (T : Tx P K mg) : ∃ fd, FunD K D_Desk_holds.name D_Desk_holds.qual (defArgs st_Desk_holds) (defBody st_Desk_holds) (defScope st_Desk_holds) [] [] (He.fAd K D_Desk_holds.at_) fd := T.def_ 101 _ rfl
theorem F_Desk_undoable (T : Tx P K mg) : ∃ fd, FunD K D_Desk_undoable.name D_Desk_undoable.qual (defArgs st_Desk_undoable) (defBody st_Desk_undoable) (defScope st_Desk_undoable) [] [] (He.fAd K D_Desk_undoable.at_) fd := T.def_ 102 _ rfl
theorem F_Desk_need_kept (T : Tx P K mg) : ∃ fd, FunD K D_Desk_need_kept.name D_Desk_need_kept.qual (defArgs st_Desk_need_kept) (defBody st_Desk_need_kept) (defScope st_Desk_need_kept) [] [] (He.fAd K D_Desk_need_kept.at_) fd := T.def_ 103 _ rfl
theorem F_Desk_settle (T : Tx P K mg) : ∃ fd, FunD K D_Desk_settle.name D_Desk_settle.qual (defArgs st_Desk_settle) (defBody st_Desk_settle) (defScope st_Desk_settle) [] [] (He.fAd K D_Desk_settle.at_) fd := T.def_ 104 _ rfl
theorem F_Desk_put (T : Tx P K mg) : ∃ fd, FunD K D_Desk_put.name D_Desk_put.qual (defArgs st_Desk_put) (defBody st_Desk_put) (defScope st_Desk_put) [] [] (He.fAd K D_Desk_put.at_) fd := T.def_ 105 _ rfl
theorem F_Desk_drop (T : Tx P K mg) : ∃ fd, FunD K D_Desk_drop.name D_Desk_drop.qual (defArgs st_Desk_drop) (defBody st_Desk_drop) (defScope st_Desk_drop) [] [] (He.fAd K D_Desk_drop.at_) fd := T.def_ 106 _ rfl
theorem F_Desk_rename (T : Tx P K mg) : ∃ fd, FunD K D_Desk_rename.name D_Desk_rename.qual (defArgs st_Desk_rename) (defBody st_Desk_rename) (defScope st_Desk_rename) [] [] (He.fAd K D_Desk_rename.at_) fd := T.def_ 107 _ rfl
theorem F_Desk_keep (T : Tx P K mg) : ∃ fd, FunD K D_Desk_keep.name D_Desk_keep.qual (defArgs st_Desk_keep) (defBody st_Desk_keep) (defScope st_Desk_keep) [] [] (He.fAd K D_Desk_keep.at_) fd := T.def_ 108 _ rfl
theorem F_Desk_release (T : Tx P K mg) : ∃ fd, FunD K D_Desk_release.name D_Desk_release.qual (defArgs st_Desk_release) (defBody st_Desk_release) (defScope st_Desk_release) [] [] (He.fAd K D_Desk_release.at_) fd := T.def_ 109 _ rfl
theorem F_Desk_undo (T : Tx P K mg) : ∃ fd, FunD K D_Desk_undo.name D_Desk_undo.qual (defArgs st_Desk_undo) (defBody st_Desk_undo) (defScope st_Desk_undo) [] [] (He.fAd K D_Desk_undo.at_) fd := T.def_ 110 _ rfl
theorem g_is_whole (T : Tx P K mg) : mg "is_whole" = some (.ref (He.ga K "is_whole")) := T.g _ (by decide +kernel)
theorem g_need_whole (T : Tx P K mg) : mg "need_whole" = some (.ref (He.ga K "need_whole")) := T.g _ (by decide +kernel)
theorem g_need_items (T : Tx P K mg) : mg "need_items" = some (.ref (He.ga K "need_items")) := T.g _ (by decide +kernel)
theorem g_need_word (T : Tx P K mg) : mg "need_word" = some (.ref (He.ga K "need_word")) := T.g _ (by decide +kernel)
theorem g_need_words (T : Tx P K mg) : mg "need_words" = some (.ref (He.ga K "need_words")) := T.g _ (by decide +kernel)
theorem g_is_name (T : Tx P K mg) : mg "is_name" = some (.ref (He.ga K "is_name")) := T.g _ (by decide +kernel)
theorem g_need_name (T : Tx P K mg) : mg "need_name" = some (.ref (He.ga K "need_name")) := T.g _ (by decide +kernel)
theorem g_ones (T : Tx P K mg) : mg "ones" = some (.ref (He.ga K "ones")) := T.g _ (by decide +kernel)
theorem g_cleared (T : Tx P K mg) : mg "cleared" = some (.ref (He.ga K "cleared")) := T.g _ (by decide +kernel)
theorem g_grown (T : Tx P K mg) : mg "grown" = some (.ref (He.ga K "grown")) := T.g _ (by decide +kernel)
theorem g_spanned (T : Tx P K mg) : mg "spanned" = some (.ref (He.ga K "spanned")) := T.g _ (by decide +kernel)
theorem g_image_of (T : Tx P K mg) : mg "image_of" = some (.ref (He.ga K "image_of")) := T.g _ (by decide +kernel)
theorem g_paired (T : Tx P K mg) : mg "paired" = some (.ref (He.ga K "paired")) := T.g _ (by decide +kernel)
theorem g_kernel_rows (T : Tx P K mg) : mg "kernel_rows" = some (.ref (He.ga K "kernel_rows")) := T.g _ (by decide +kernel)
theorem g_solved (T : Tx P K mg) : mg "solved" = some (.ref (He.ga K "solved")) := T.g _ (by decide +kernel)
theorem g_met (T : Tx P K mg) : mg "met" = some (.ref (He.ga K "met")) := T.g _ (by decide +kernel)
theorem g_need_space (T : Tx P K mg) : mg "need_space" = some (.ref (He.ga K "need_space")) := T.g _ (by decide +kernel)
theorem g_need_map (T : Tx P K mg) : mg "need_map" = some (.ref (He.ga K "need_map")) := T.g _ (by decide +kernel)
theorem g_need_one_to_one (T : Tx P K mg) : mg "need_one_to_one" = some (.ref (He.ga K "need_one_to_one")) := T.g _ (by decide +kernel)
theorem g_need_onto (T : Tx P K mg) : mg "need_onto" = some (.ref (He.ga K "need_onto")) := T.g _ (by decide +kernel)
theorem g_any_spread (T : Tx P K mg) : mg "any_spread" = some (.ref (He.ga K "any_spread")) := T.g _ (by decide +kernel)
theorem g_hold_alike (T : Tx P K mg) : mg "hold_alike" = some (.ref (He.ga K "hold_alike")) := T.g _ (by decide +kernel)
theorem g_phase_bits (T : Tx P K mg) : mg "phase_bits" = some (.ref (He.ga K "phase_bits")) := T.g _ (by decide +kernel)
theorem g_need_pair (T : Tx P K mg) : mg "need_pair" = some (.ref (He.ga K "need_pair")) := T.g _ (by decide +kernel)
theorem g_partner_rows (T : Tx P K mg) : mg "partner_rows" = some (.ref (He.ga K "partner_rows")) := T.g _ (by decide +kernel)
theorem g_partners (T : Tx P K mg) : mg "partners" = some (.ref (He.ga K "partners")) := T.g _ (by decide +kernel)
theorem g_leaders (T : Tx P K mg) : mg "leaders" = some (.ref (He.ga K "leaders")) := T.g _ (by decide +kernel)
theorem g_sum_steps (T : Tx P K mg) : mg "sum_steps" = some (.ref (He.ga K "sum_steps")) := T.g _ (by decide +kernel)
theorem g_need_promise (T : Tx P K mg) : mg "need_promise" = some (.ref (He.ga K "need_promise")) := T.g _ (by decide +kernel)
theorem g_bits_of (T : Tx P K mg) : mg "bits_of" = some (.ref (He.ga K "bits_of")) := T.g _ (by decide +kernel)
theorem g_is_kept (T : Tx P K mg) : mg "is_kept" = some (.ref (He.ga K "is_kept")) := T.g _ (by decide +kernel)
theorem g_spreads_keep (T : Tx P K mg) : mg "spreads_keep" = some (.ref (He.ga K "spreads_keep")) := T.g _ (by decide +kernel)
theorem g_sums_keep (T : Tx P K mg) : mg "sums_keep" = some (.ref (He.ga K "sums_keep")) := T.g _ (by decide +kernel)
theorem g_store_keeps (T : Tx P K mg) : mg "store_keeps" = some (.ref (He.ga K "store_keeps")) := T.g _ (by decide +kernel)
theorem g_renamed_thing (T : Tx P K mg) : mg "renamed_thing" = some (.ref (He.ga K "renamed_thing")) := T.g _ (by decide +kernel)
theorem g_law_begin (T : Tx P K mg) : mg "_law_begin" = some (.ref (He.ga K "_law_begin")) := T.g _ (by decide +kernel)
theorem g_law_draw (T : Tx P K mg) : mg "_law_draw" = some (.ref (He.ga K "_law_draw")) := T.g _ (by decide +kernel)
theorem g_law_pick (T : Tx P K mg) : mg "_law_pick" = some (.ref (He.ga K "_law_pick")) := T.g _ (by decide +kernel)
theorem g_law_word (T : Tx P K mg) : mg "_law_word" = some (.ref (He.ga K "_law_word")) := T.g _ (by decide +kernel)
theorem g_law_mixed (T : Tx P K mg) : mg "_law_mixed" = some (.ref (He.ga K "_law_mixed")) := T.g _ (by decide +kernel)
theorem g_law_left (T : Tx P K mg) : mg "_law_left" = some (.ref (He.ga K "_law_left")) := T.g _ (by decide +kernel)
theorem g_law_basis (T : Tx P K mg) : mg "_law_basis" = some (.ref (He.ga K "_law_basis")) := T.g _ (by decide +kernel)
theorem g_law_size (T : Tx P K mg) : mg "_law_size" = some (.ref (He.ga K "_law_size")) := T.g _ (by decide +kernel)
theorem g_law_image (T : Tx P K mg) : mg "_law_image" = some (.ref (He.ga K "_law_image")) := T.g _ (by decide +kernel)
theorem g_law_tagged (T : Tx P K mg) : mg "_law_tagged" = some (.ref (He.ga K "_law_tagged")) := T.g _ (by decide +kernel)
theorem g_law_kernel (T : Tx P K mg) : mg "_law_kernel" = some (.ref (He.ga K "_law_kernel")) := T.g _ (by decide +kernel)
theorem g_law_listed (T : Tx P K mg) : mg "_law_listed" = some (.ref (He.ga K "_law_listed")) := T.g _ (by decide +kernel)
theorem g_law_truth (T : Tx P K mg) : mg "_law_truth" = some (.ref (He.ga K "_law_truth")) := T.g _ (by decide +kernel)
theorem g_law_is_space (T : Tx P K mg) : mg "_law_is_space" = some (.ref (He.ga K "_law_is_space")) := T.g _ (by decide +kernel)
theorem g_law_words_for (T : Tx P K mg) : mg "_law_words_for" = some (.ref (He.ga K "_law_words_for")) := T.g _ (by decide +kernel)
theorem g_law_spread_words (T : Tx P K mg) : mg "_law_spread_words" = some (.ref (He.ga K "_law_spread_words")) := T.g _ (by decide +kernel)
theorem g_law_undone (T : Tx P K mg) : mg "_law_undone" = some (.ref (He.ga K "_law_undone")) := T.g _ (by decide +kernel)
theorem g_law_drawn_thing (T : Tx P K mg) : mg "_law_drawn_thing" = some (.ref (He.ga K "_law_drawn_thing")) := T.g _ (by decide +kernel)
theorem g_law_object (T : Tx P K mg) : mg "_law_object" = some (.ref (He.ga K "_law_object")) := T.g _ (by decide +kernel)
theorem g_law_is_thing (T : Tx P K mg) : mg "_law_is_thing" = some (.ref (He.ga K "_law_is_thing")) := T.g _ (by decide +kernel)
theorem g_law_are_alike (T : Tx P K mg) : mg "_law_are_alike" = some (.ref (He.ga K "_law_are_alike")) := T.g _ (by decide +kernel)
theorem g_law_is_free (T : Tx P K mg) : mg "_law_is_free" = some (.ref (He.ga K "_law_is_free")) := T.g _ (by decide +kernel)
theorem g_law_is_kept (T : Tx P K mg) : mg "_law_is_kept" = some (.ref (He.ga K "_law_is_kept")) := T.g _ (by decide +kernel)
theorem g_law_first_broken (T : Tx P K mg) : mg "_law_first_broken" = some (.ref (He.ga K "_law_first_broken")) := T.g _ (by decide +kernel)
theorem g_law_drawn_promise (T : Tx P K mg) : mg "_law_drawn_promise" = some (.ref (He.ga K "_law_drawn_promise")) := T.g _ (by decide +kernel)
theorem g_law_likely_promise (T : Tx P K mg) : mg "_law_likely_promise" = some (.ref (He.ga K "_law_likely_promise")) := T.g _ (by decide +kernel)
theorem g_law_moved_thing (T : Tx P K mg) : mg "_law_moved_thing" = some (.ref (He.ga K "_law_moved_thing")) := T.g _ (by decide +kernel)
theorem g_law_backs (T : Tx P K mg) : mg "_law_backs" = some (.ref (He.ga K "_law_backs")) := T.g _ (by decide +kernel)
theorem g_law_due_deed (T : Tx P K mg) : mg "_law_due_deed" = some (.ref (He.ga K "_law_due_deed")) := T.g _ (by decide +kernel)
theorem g_law_act (T : Tx P K mg) : mg "_law_act" = some (.ref (He.ga K "_law_act")) := T.g _ (by decide +kernel)
theorem g_law_met (T : Tx P K mg) : mg "_law_met" = some (.ref (He.ga K "_law_met")) := T.g _ (by decide +kernel)
theorem g_law_drawn_deed (T : Tx P K mg) : mg "_law_drawn_deed" = some (.ref (He.ga K "_law_drawn_deed")) := T.g _ (by decide +kernel)
theorem g_law_stands (T : Tx P K mg) : mg "_law_stands" = some (.ref (He.ga K "_law_stands")) := T.g _ (by decide +kernel)
theorem g_law_step_right (T : Tx P K mg) : mg "_law_step_right" = some (.ref (He.ga K "_law_step_right")) := T.g _ (by decide +kernel)
theorem g_law_spoilt (T : Tx P K mg) : mg "_law_spoilt" = some (.ref (He.ga K "_law_spoilt")) := T.g _ (by decide +kernel)
theorem g_law_odd_right (T : Tx P K mg) : mg "_law_odd_right" = some (.ref (He.ga K "_law_odd_right")) := T.g _ (by decide +kernel)
theorem g_law (T : Tx P K mg) : mg "law" = some (.ref (He.ga K "law")) := T.g _ (by decide +kernel)
theorem g_Space (T : Tx P K mg) : mg "Space" = some (.ref (He.ga K "Space")) := T.g _ (by decide +kernel)
theorem g_Map (T : Tx P K mg) : mg "Map" = some (.ref (He.ga K "Map")) := T.g _ (by decide +kernel)
theorem g_Spread (T : Tx P K mg) : mg "Spread" = some (.ref (He.ga K "Spread")) := T.g _ (by decide +kernel)
theorem g_Store (T : Tx P K mg) : mg "Store" = some (.ref (He.ga K "Store")) := T.g _ (by decide +kernel)
theorem g_Desk (T : Tx P K mg) : mg "Desk" = some (.ref (He.ga K "Desk")) := T.g _ (by decide +kernel)
theorem g_BadValue (T : Tx P K mg) : mg "BadValue" = some (.ref (He.ga K "BadValue")) := T.g _ (by decide +kernel)
theorem g_NotOneToOne (T : Tx P K mg) : mg "NotOneToOne" = some (.ref (He.ga K "NotOneToOne")) := T.g _ (by decide +kernel)
theorem g_Unequal (T : Tx P K mg) : mg "Unequal" = some (.ref (He.ga K "Unequal")) := T.g _ (by decide +kernel)
theorem g_Unknown (T : Tx P K mg) : mg "Unknown" = some (.ref (He.ga K "Unknown")) := T.g _ (by decide +kernel)
theorem g_BadPromise (T : Tx P K mg) : mg "BadPromise" = some (.ref (He.ga K "BadPromise")) := T.g _ (by decide +kernel)
theorem g_Broken (T : Tx P K mg) : mg "Broken" = some (.ref (He.ga K "Broken")) := T.g _ (by decide +kernel)
theorem g_NotMade (T : Tx P K mg) : mg "NotMade" = some (.ref (He.ga K "NotMade")) := T.g _ (by decide +kernel)
theorem g_NothingToUndo (T : Tx P K mg) : mg "NothingToUndo" = some (.ref (He.ga K "NothingToUndo")) := T.g _ (by decide +kernel)
theorem g_LaneError (T : Tx P K mg) : mg "LaneError" = some (.ref (He.ga K "LaneError")) := T.g _ (by decide +kernel)
theorem g_WORDS (T : Tx P K mg) : mg "WORDS" = some (.ref (He.ga K "WORDS")) := T.g _ (by decide +kernel)
theorem g_COUNTED (T : Tx P K mg) : mg "COUNTED" = some (.ref (He.ga K "COUNTED")) := T.g _ (by decide +kernel)
theorem b_len (T : Tx P K mg) : mg "len" = none := T.free _ (by decide +kernel)
theorem b_int (T : Tx P K mg) : mg "int" = none := T.free _ (by decide +kernel)
theorem b_bool (T : Tx P K mg) : mg "bool" = none := T.free _ (by decide +kernel)
theorem b_list (T : Tx P K mg) : mg "list" = none := T.free _ (by decide +kernel)
theorem b_tuple (T : Tx P K mg) : mg "tuple" = none := T.free _ (by decide +kernel)
theorem b_str (T : Tx P K mg) : mg "str" = none := T.free _ (by decide +kernel)
theorem b_dict (T : Tx P K mg) : mg "dict" = none := T.free _ (by decide +kernel)
theorem b_sorted (T : Tx P K mg) : mg "sorted" = none := T.free _ (by decide +kernel)
theorem b_range (T : Tx P K mg) : mg "range" = none := T.free _ (by decide +kernel)
theorem b_isinstance (T : Tx P K mg) : mg "isinstance" = none := T.free _ (by decide +kernel)
theorem b_min (T : Tx P K mg) : mg "min" = none := T.free _ (by decide +kernel)
theorem b_abs (T : Tx P K mg) : mg "abs" = none := T.free _ (by decide +kernel)
theorem b_all (T : Tx P K mg) : mg "all" = none := T.free _ (by decide +kernel)
theorem b_zip (T : Tx P K mg) : mg "zip" = none := T.free _ (by decide +kernel)
theorem b_super (T : Tx P K mg) : mg "super" = none := T.free _ (by decide +kernel)
theorem b_ValueError (T : Tx P K mg) : mg "ValueError" = none := T.free _ (by decide +kernel)
abbrev cSpace (K : PySem.W.Frag) : Addr := He.ga K "Space"
theorem own_Space (T : Tx P K mg) : Own K (cSpace K) := T.own _ (by decide +kernel)
theorem mk_Space (T : Tx P K mg) : Mk K (cSpace K) (He.ma K (cSpace K) "__init__") := T.mkr _ (by decide +kernel)
theorem na_Space_bits (T : Tx P K mg) : NoAttr K (cSpace K) "bits" := T.noat ("Space", "bits") (by decide +kernel)
theorem na_Space_rows (T : Tx P K mg) : NoAttr K (cSpace K) "rows" := T.noat ("Space", "rows") (by decide +kernel)
theorem na_Space_dimension (T : Tx P K mg) : NoAttr K (cSpace K) "dimension" := T.noat ("Space", "dimension") (by decide +kernel)
theorem m_Space_init (T : Tx P K mg) : Meth K (cSpace K) "__init__" (He.ma K (cSpace K) "__init__") := T.meth ("Space", "__init__") (by decide +kernel)
theorem m_Space_eq (T : Tx P K mg) : Meth K (cSpace K) "__eq__" (He.ma K (cSpace K) "__eq__") := T.meth ("Space", "__eq__") (by decide +kernel)
theorem m_Space_and (T : Tx P K mg) : Meth K (cSpace K) "__and__" (He.ma K (cSpace K) "__and__") := T.meth ("Space", "__and__") (by decide +kernel)
theorem m_Space_least (T : Tx P K mg) : Meth K (cSpace K) "least" (He.ma K (cSpace K) "least") := T.meth ("Space", "least") (by decide +kernel)
theorem m_Space_completing (T : Tx P K mg) : Meth K (cSpace K) "completing" (He.ma K (cSpace K) "completing") := T.meth ("Space", "completing") (by decide +kernel)
abbrev cMap (K : PySem.W.Frag) : Addr := He.ga K "Map"
theorem own_Map (T : Tx P K mg) : Own K (cMap K) := T.own _ (by decide +kernel)
theorem mk_Map (T : Tx P K mg) : Mk K (cMap K) (He.ma K (cMap K) "__init__") := T.mkr _ (by decide +kernel)
theorem na_Map_goal (T : Tx P K mg) : NoAttr K (cMap K) "goal" := T.noat ("Map", "goal") (by decide +kernel)
theorem na_Map_columns (T : Tx P K mg) : NoAttr K (cMap K) "columns" := T.noat ("Map", "columns") (by decide +kernel)
theorem na_Map_source (T : Tx P K mg) : NoAttr K (cMap K) "source" := T.noat ("Map", "source") (by decide +kernel)
theorem m_Map_init (T : Tx P K mg) : Meth K (cMap K) "__init__" (He.ma K (cMap K) "__init__") := T.meth ("Map", "__init__") (by decide +kernel)
theorem m_Map_eq (T : Tx P K mg) : Meth K (cMap K) "__eq__" (He.ma K (cMap K) "__eq__") := T.meth ("Map", "__eq__") (by decide +kernel)
theorem m_Map_mul (T : Tx P K mg) : Meth K (cMap K) "__mul__" (He.ma K (cMap K) "__mul__") := T.meth ("Map", "__mul__") (by decide +kernel)
theorem m_Map_invert (T : Tx P K mg) : Meth K (cMap K) "__invert__" (He.ma K (cMap K) "__invert__") := T.meth ("Map", "__invert__") (by decide +kernel)
theorem m_Map_kernel (T : Tx P K mg) : Meth K (cMap K) "kernel" (He.ma K (cMap K) "kernel") := T.meth ("Map", "kernel") (by decide +kernel)
theorem m_Map_moved (T : Tx P K mg) : Meth K (cMap K) "moved" (He.ma K (cMap K) "moved") := T.meth ("Map", "moved") (by decide +kernel)
abbrev cSpread (K : PySem.W.Frag) : Addr := He.ga K "Spread"
theorem own_Spread (T : Tx P K mg) : Own K (cSpread K) := T.own _ (by decide +kernel)
theorem mk_Spread (T : Tx P K mg) : Mk K (cSpread K) (He.ma K (cSpread K) "__init__") := T.mkr _ (by decide +kernel)
theorem na_Spread_bits (T : Tx P K mg) : NoAttr K (cSpread K) "bits" := T.noat ("Spread", "bits") (by decide +kernel)
theorem na_Spread_slots (T : Tx P K mg) : NoAttr K (cSpread K) "slots" := T.noat ("Spread", "slots") (by decide +kernel)
theorem na_Spread_lanes (T : Tx P K mg) : NoAttr K (cSpread K) "lanes" := T.noat ("Spread", "lanes") (by decide +kernel)
theorem m_Spread_init (T : Tx P K mg) : Meth K (cSpread K) "__init__" (He.ma K (cSpread K) "__init__") := T.meth ("Spread", "__init__") (by decide +kernel)
theorem m_Spread_slot_space (T : Tx P K mg) : Meth K (cSpread K) "slot_space" (He.ma K (cSpread K) "slot_space") := T.meth ("Spread", "slot_space") (by decide +kernel)
theorem m_Spread_twins (T : Tx P K mg) : Meth K (cSpread K) "twins" (He.ma K (cSpread K) "twins") := T.meth ("Spread", "twins") (by decide +kernel)
theorem m_Spread_renamed (T : Tx P K mg) : Meth K (cSpread K) "renamed" (He.ma K (cSpread K) "renamed") := T.meth ("Spread", "renamed") (by decide +kernel)
abbrev cStore (K : PySem.W.Frag) : Addr := He.ga K "Store"
theorem own_Store (T : Tx P K mg) : Own K (cStore K) := T.own _ (by decide +kernel)
theorem mk_Store (T : Tx P K mg) : Mk K (cStore K) (He.ma K (cStore K) "__init__") := T.mkr _ (by decide +kernel)
theorem na_Store_change (T : Tx P K mg) : NoAttr K (cStore K) "change" := T.noat ("Store", "change") (by decide +kernel)
theorem na_Store_banks (T : Tx P K mg) : NoAttr K (cStore K) "banks" := T.noat ("Store", "banks") (by decide +kernel)
theorem na_Store_own_back (T : Tx P K mg) : NoAttr K (cStore K) "own_back" := T.noat ("Store", "own_back") (by decide +kernel)
theorem m_Store_init (T : Tx P K mg) : Meth K (cStore K) "__init__" (He.ma K (cStore K) "__init__") := T.meth ("Store", "__init__") (by decide +kernel)
theorem m_Store_bank_map (T : Tx P K mg) : Meth K (cStore K) "bank_map" (He.ma K (cStore K) "bank_map") := T.meth ("Store", "bank_map") (by decide +kernel)
theorem m_Store_meeting (T : Tx P K mg) : Meth K (cStore K) "meeting" (He.ma K (cStore K) "meeting") := T.meth ("Store", "meeting") (by decide +kernel)
theorem m_Store_need_width (T : Tx P K mg) : Meth K (cStore K) "need_width" (He.ma K (cStore K) "need_width") := T.meth ("Store", "need_width") (by decide +kernel)
theorem m_Store_fits (T : Tx P K mg) : Meth K (cStore K) "fits" (He.ma K (cStore K) "fits") := T.meth ("Store", "fits") (by decide +kernel)
theorem m_Store_touched (T : Tx P K mg) : Meth K (cStore K) "touched" (He.ma K (cStore K) "touched") := T.meth ("Store", "touched") (by decide +kernel)
theorem m_Store_beats (T : Tx P K mg) : Meth K (cStore K) "beats" (He.ma K (cStore K) "beats") := T.meth ("Store", "beats") (by decide +kernel)
abbrev cDesk (K : PySem.W.Frag) : Addr := He.ga K "Desk"
theorem own_Desk (T : Tx P K mg) : Own K (cDesk K) := T.own _ (by decide +kernel)
theorem mk_Desk (T : Tx P K mg) : Mk K (cDesk K) (He.ma K (cDesk K) "__init__") := T.mkr _ (by decide +kernel)
theorem na_Desk_own_things (T : Tx P K mg) : NoAttr K (cDesk K) "own_things" := T.noat ("Desk", "own_things") (by decide +kernel)
theorem na_Desk_own_given (T : Tx P K mg) : NoAttr K (cDesk K) "own_given" := T.noat ("Desk", "own_given") (by decide +kernel)
theorem na_Desk_own_past (T : Tx P K mg) : NoAttr K (cDesk K) "own_past" := T.noat ("Desk", "own_past") (by decide +kernel)
theorem na_Desk_own_depth (T : Tx P K mg) : NoAttr K (cDesk K) "own_depth" := T.noat ("Desk", "own_depth") (by decide +kernel)
theorem m_Desk_init (T : Tx P K mg) : Meth K (cDesk K) "__init__" (He.ma K (cDesk K) "__init__") := T.meth ("Desk", "__init__") (by decide +kernel)
theorem m_Desk_getitem (T : Tx P K mg) : Meth K (cDesk K) "__getitem__" (He.ma K (cDesk K) "__getitem__") := T.meth ("Desk", "__getitem__") (by decide +kernel)
theorem m_Desk_contains (T : Tx P K mg) : Meth K (cDesk K) "__contains__" (He.ma K (cDesk K) "__contains__") := T.meth ("Desk", "__contains__") (by decide +kernel)
theorem m_Desk_len (T : Tx P K mg) : Meth K (cDesk K) "__len__" (He.ma K (cDesk K) "__len__") := T.meth ("Desk", "__len__") (by decide +kernel)
theorem m_Desk_need_thing (T : Tx P K mg) : Meth K (cDesk K) "need_thing" (He.ma K (cDesk K) "need_thing") := T.meth ("Desk", "need_thing") (by decide +kernel)
theorem m_Desk_names (T : Tx P K mg) : Meth K (cDesk K) "names" (He.ma K (cDesk K) "names") := T.meth ("Desk", "names") (by decide +kernel)
theorem m_Desk_promises (T : Tx P K mg) : Meth K (cDesk K) "promises" (He.ma K (cDesk K) "promises") := T.meth ("Desk", "promises") (by decide +kernel)
theorem m_Desk_holds (T : Tx P K mg) : Meth K (cDesk K) "holds" (He.ma K (cDesk K) "holds") := T.meth ("Desk", "holds") (by decide +kernel)
theorem m_Desk_undoable (T : Tx P K mg) : Meth K (cDesk K) "undoable" (He.ma K (cDesk K) "undoable") := T.meth ("Desk", "undoable") (by decide +kernel)
theorem m_Desk_need_kept (T : Tx P K mg) : Meth K (cDesk K) "need_kept" (He.ma K (cDesk K) "need_kept") := T.meth ("Desk", "need_kept") (by decide +kernel)
theorem m_Desk_settle (T : Tx P K mg) : Meth K (cDesk K) "settle" (He.ma K (cDesk K) "settle") := T.meth ("Desk", "settle") (by decide +kernel)
theorem m_Desk_put (T : Tx P K mg) : Meth K (cDesk K) "put" (He.ma K (cDesk K) "put") := T.meth ("Desk", "put") (by decide +kernel)
theorem m_Desk_drop (T : Tx P K mg) : Meth K (cDesk K) "drop" (He.ma K (cDesk K) "drop") := T.meth ("Desk", "drop") (by decide +kernel)
theorem m_Desk_rename (T : Tx P K mg) : Meth K (cDesk K) "rename" (He.ma K (cDesk K) "rename") := T.meth ("Desk", "rename") (by decide +kernel)
theorem m_Desk_keep (T : Tx P K mg) : Meth K (cDesk K) "keep" (He.ma K (cDesk K) "keep") := T.meth ("Desk", "keep") (by decide +kernel)
theorem m_Desk_release (T : Tx P K mg) : Meth K (cDesk K) "release" (He.ma K (cDesk K) "release") := T.meth ("Desk", "release") (by decide +kernel)
theorem m_Desk_undo (T : Tx P K mg) : Meth K (cDesk K) "undo" (He.ma K (cDesk K) "undo") := T.meth ("Desk", "undo") (by decide +kernel)
end
end L2.Lk
/-! Hd1 -/
set_option Elab.async false
set_option linter.all false
set_option maxRecDepth 100000
set_option maxHeartbeats 0
namespace L2.Lk
open PySem PySem.Spec PyProof.Rows
/-! ### the part of the heap that the head's facts are read from -/
def kids (o : Obj) : List Addr := match o.data with
  | .func fd => He.refV fd.code ++ fd.closure.map (·.2)
  | .cls cd => [cd.ns]
  | .dict es _ => es.toList.flatMap fun e => He.refV e.val
  | _ => []
def kidsA (g : Addr → Option Obj) (as : List Addr) : List Addr := as.flatMap fun a => match g a with
  | some o => kids o
  | none => []
def asM (g : Addr → Option Obj) : List Addr := (fun l1 => (fun l2 => (fun l3 => mainGlobals :: l1 ++ (l2 ++ (l3 ++ (kidsA g l3 ++ [cStatics])))) (kidsA g l2)) (kidsA g l1)) (kidsA g [mainGlobals])
def KM (g : Addr → Option Obj) : PySem.W.Frag := He.frT g (asM g)
abbrev RW : PySem.W.OpenRow := PySem.W.OpenLaw.row PySem.Challenge.rw_laneswap_k42_whole_histories_of_desks
abbrev PW : Program := PySem.Challenge.pw_laneswap_k42_whole_histories_of_desks
/-! ### what is looked at -/
def oexB (K : PySem.W.Frag) (C : Addr) : Bool := (match K.lookup C with
  | some ⟨.type ty, _, .cls cd, sl⟩ => decide (ty = "type") && ((match cd.mro with
    | .ref C' :: bm => decide (C' = C) && PySem.HandSPX.refsVE bm
    | _ => false) && ((cd.hasDict && !cd.hasDel) && (match sl.toList with
    | [_, _, _, _, some (.builtin n), _] => decide (n = "ValueError.__new__")
    | _ => false)))
  | _ => false) && (decide (PySem.W.findIn K (.ref C) "__setattr__" = some (some (.builtin "object.__setattr__"))) && (decide (PySem.W.subIn K (.ref C) (.type "BaseException") = some true) && (decide (PySem.W.typeIn K (.ref C) = some (.type "type")) && PySem.W.keepIn K (.ref C))))
abbrev FnE : Type := Option (Str × Str × Arguments × FuncBody × Scope × Addr × List Str × Addr)
def fnE (K : PySem.W.Frag) (a : Addr) : FnE := match K.lookup a with
  | some ⟨_, _, .func fd, _⟩ => some (fd.name, fd.qualname, fd.params, fd.body, fd.scope, fd.globals, fd.closure.map (·.1), fd.builtins)
  | _ => none
def fnEv (q : Str) (st : Stmt) : FnE := some ("__init__", q, defArgs st, .stmts (defBody st), defScope st, mainGlobals, ["__class__"], builtinsNs)
/-- an error class with an __init__ of its own -/
def erB (P : Program) (K : PySem.W.Frag) (x q : Str) : Bool := (fun C fI => oexB K C && (decide (PySem.W.subIn K (.ref C) (.type "ValueError") = some true) && (decide (PySem.W.ks_superIn K C C "__init__" = some (some (.builtin "ValueError.__init__"))) &&
  (decide (PySem.W.findIn K (.ref C) "__init__" = some (some (.ref fI))) && (decide (PySem.W.typeIn K (.ref fI) = some (.type "function")) && (match K.lookup fI with
    | some ⟨_, _, .func fd, _⟩ => (match fd.defaults with
      | .none => true
      | _ => false) && (match fd.code with
      | .ref cda => PySem.W.codeIn K (.ref cda) q && (match K.lookup cda with
        | some ⟨_, _, .fields vs, _⟩ => (match (vs[2]? : Option Value) with
          | some (Value.str file _) => (P.main.file : Str) == file
          | _ => false)
        | _ => false)
      | _ => false) && (match fd.closure with
      | [(_, cc)] => (match K.lookup cc with
        | some ⟨_, _, .cell (some (.ref C')), _⟩ => decide (C' = C)
        | _ => false)
      | _ => false)
    | _ => false)))))) (He.ga K x) (He.ma K (He.ga K x) "__init__")
def excB (K : PySem.W.Frag) (D : Addr) : Bool := decide (PySem.W.findIn K (.ref D) "__getattribute__" = some (some (.builtin "BaseException.__getattribute__"))) && (decide (PySem.W.findIn K (.ref D) "__getattr__" = some none) && (decide (PySem.W.subIn K (.ref D) (.type "BaseException") = some true) &&
  (PySem.W.hasDictIn K D && (decide (PySem.W.findIn K (.ref D) "__class__" = some (some (.builtin "object.__class__"))) && (decide (PySem.W.specialIn K (.builtin "object.__class__") "__get__" = some (some (.builtin "getset_descriptor.__get__"))) && (decide (PySem.W.takesIn K (.builtin "object.__class__") = some true) && decide (PySem.W.mroIn K D (.type "object") = some true)))))))
def ownB (K : PySem.W.Frag) (x : Str) : Bool := (He.Fa.cls x).ok K && (decide (PySem.W.findIn K (.ref (He.ga K x)) "__class__" = some (some (.builtin "object.__class__"))) && (decide (PySem.W.specialIn K (.builtin "object.__class__") "__get__" = some (some (.builtin "getset_descriptor.__get__"))) &&
  (decide (PySem.W.takesIn K (.builtin "object.__class__") = some true) && decide (PySem.W.mroIn K (He.ga K x) (.type "object") = some true))))
def bA (K : PySem.W.Frag) : Bool := (gloN.all fun x => (He.Fa.glo x).ok K) && ((freeN.all fun x => (He.Fa.free x).ok K) && (He.tupB K "WORDS" [.str "rounds", .str "sums", .str "steps", .str "alike", .str "fits", .str "free"] && He.tupB K "COUNTED" [.str "rounds", .str "sums", .str "steps", .str "fits"]))
def bB (K : PySem.W.Frag) : Bool := (clsN.all fun x => ownB K x && (He.Fa.mkr x).ok K) && ((noatN.all fun p => (He.Fa.noat p.1 p.2).ok K) && ((methN.all fun p => (He.Fa.meth p.1 p.2).ok K) && ((kitN.all fun t => decide (PySem.W.kitOne K (t.1.v K) (t.2.1.v K) = some t.2.2)) &&
  ((PySem.W.selfFirst K (He.ga K "Map") && PySem.W.selfFirst K (He.ga K "Space")) && (neIn K (He.ga K "Space") (He.ma K (He.ga K "Space") "__eq__") && PySem.W.fnIn K (He.ma K (He.ga K "Desk") "__getitem__"))))))
def bE (P : Program) (K : PySem.W.Frag) : Bool := (errN.all fun x => (errN.all fun y => (He.Fa.exm x y (decide (x = y))).ok K) && (decide (PySem.W.kitOne K (.ref (He.ga K x)) (.ref (He.ga K "LaneError")) = some true) && (xfB K (He.ga K x) && excB K (He.ga K x)))) &&
  ((He.Fa.exc "NothingToUndo").ok K && ((erN.all fun t => erB P K t.1 t.2.1) && decide (PySem.W.nsIn K cStatics "thirdparty.any" = some none)))
def bDs (ds : List He.DefD) (K : PySem.W.Frag) : Bool := ds.all fun d => d.ok K
def allD1 : List He.DefD := allD.take 60
def allD2 : List He.DefD := allD.drop 60
def tfN : List He.Defn := [("_law_step_right", none), ("_law_odd_right", none), ("law", none)]
def bT (g : Addr → Option Obj) : Bool := (fun K => He.tabsB g tfN K && (decide ((He.cT K ("_law_step_right", none)).2 ≠ (He.cT K ("_law_odd_right", none)).2) && (decide ((He.cT K ("_law_step_right", none)).2 ≠ (He.cT K ("law", none)).2) && decide ((He.cT K ("_law_odd_right", none)).2 ≠ (He.cT K ("law", none)).2)))) (KM g)
/-! ### the run, part by part -/
abbrev OA : Type := Bool
def oA (g : Addr → Option Obj) : Bool := bA (KM g)
def oB (g : Addr → Option Obj) : Bool := bB (KM g)
def oE (g : Addr → Option Obj) : Bool × List FnE := (fun K => (bE PW K, erN.map fun t => fnE K (He.ma K (He.ga K t.1) "__init__"))) (KM g)
def oDs (ds : List He.DefD) (g : Addr → Option Obj) : Bool × List He.FnW := (fun K => (bDs ds K, ds.map fun d => He.fnW K d.at_)) (KM g)
def vE : Bool × List FnE := (true, erN.map fun t => fnEv t.2.1 t.2.2)
def vDs (ds : List He.DefD) : Bool × List He.FnW := (true, ds.map He.DefD.val)
abbrev looseN : List Str := (["_wall", "__name__", "LaneError", "BadValue", "NotOneToOne", "NotOnto", "NotDivisible", "NotApart", "Unequal", "Unknown", "NotFitting", "Unfit", "BadPromise", "Broken", "NotMade", "NothingToUndo", "is_whole", "need_whole", "need_items", "need_word", "need_words", "is_name", "need_name", "ones", "cleared", "grown", "spanned", "tops_of", "missing", "image_of"] : List Str) ++ (["paired", "kernel_rows", "solved", "met", "Space", "need_space", "Map", "need_map", "need_one_to_one", "need_onto", "Spread", "any_spread", "left_over", "hold_alike", "need_fit", "lane_sums", "both_rows", "all_hold", "fewest_rounds", "Store", "phase_bits", "need_pair", "partner_rows", "partners", "leaders", "kept_bits", "rounds_for", "sum_rounds", "sum_steps", "WORDS"] : List Str) ++ (["COUNTED", "need_promise", "bits_of", "is_kept", "spreads_keep", "sums_keep", "store_keeps", "renamed_thing", "Desk", "_law_begin", "_law_draw", "_law_pick", "_law_word", "_law_mixed", "_law_left", "_law_basis", "_law_size", "_law_image", "_law_tagged", "_law_kernel", "_law_listed", "_law_truth", "_law_is_space", "_law_words_for", "_law_spread_words", "_law_undone", "_law_drawn_thing", "_law_object", "_law_is_thing", "_law_are_alike"] : List Str) ++ (["_law_is_free", "_law_is_kept", "_law_first_broken", "_law_drawn_promise", "_law_likely_promise", "_law_moved_thing", "_law_backs", "_law_due_deed", "_law_act", "_law_met", "_law_drawn_deed", "_law_stands", "_law_step_right", "_law_spoilt", "_law_odd_right"] : List Str)
abbrev qW : Program := PySem.W.view RW.prog [116]
noncomputable def endW (w : World) (os : OsState) : Option PySem.W.SharedT := HandSHeadRun.endF (HandSHeadRun.stepQ (HandSHeadRun.denQ HandSHeadRun.tabQ) RW.prog w) 20000 RW.prog w os
end L2.Lk
/-! HrR1 -/
set_option Elab.async false
set_option linter.all false
set_option maxRecDepth 100000
set_option maxHeartbeats 0
namespace L2.Lk
open PySem PySem.Spec PyProof.Rows PySem.W PySem.Calls
theorem runR1 (w : World) (os : OsState) : (endW w os).map (fun s => HandSHeadRun.looksF RW.prog (boot_heap w.params) s.abs) = some true := by
  kernel_rfl
end L2.Lk
/-! HrR2 -/
set_option Elab.async false
set_option linter.all false
set_option maxRecDepth 100000
set_option maxHeartbeats 0
namespace L2.Lk
open PySem PySem.Spec PyProof.Rows PySem.W PySem.Calls
theorem runR2 (w : World) (os : OsState) : (endW w os).map (fun s => HandSHeadRun.seenQ qW looseN (importedModules RW.prog.main.body) (fun s => PySem.W.xlAt qW [] s && PySem.W.recOk RW.toRowW.records s) s.abs) = some (PySem.W.openGood qW looseN) := by
  kernel_rfl
end L2.Lk
/-! HrD1 -/
set_option Elab.async false
set_option linter.all false
set_option maxRecDepth 100000
set_option maxHeartbeats 0
namespace L2.Lk
open PySem PySem.Spec PyProof.Rows
theorem runD1 (w : World) (os : OsState) : (endW w os).map (fun s => oDs allD1 (HandSHeadRun.getT s)) = some (vDs allD1) := by
  kernel_rfl
end L2.Lk
/-! HrD2 -/
set_option Elab.async false
set_option linter.all false
set_option maxRecDepth 100000
set_option maxHeartbeats 0
namespace L2.Lk
open PySem PySem.Spec PyProof.Rows
theorem runD2 (w : World) (os : OsState) : (endW w os).map (fun s => oDs allD2 (HandSHeadRun.getT s)) = some (vDs allD2) := by
  kernel_rfl
end L2.Lk
/-! HrE -/
set_option Elab.async false
set_option linter.all false
set_option maxRecDepth 100000
set_option maxHeartbeats 0
namespace L2.Lk
open PySem PySem.Spec PyProof.Rows
theorem runE (w : World) (os : OsState) : (endW w os).map (fun s => oE (HandSHeadRun.getT s)) = some vE := by
  kernel_rfl
end L2.Lk
/-! HrA -/
set_option Elab.async false
set_option linter.all false
set_option maxRecDepth 100000
set_option maxHeartbeats 0
namespace L2.Lk
open PySem PySem.Spec PyProof.Rows
theorem runA (w : World) (os : OsState) : (endW w os).map (fun s => oA (HandSHeadRun.getT s)) = some true := by
  kernel_rfl
end L2.Lk
/-! HrB -/
set_option Elab.async false
set_option linter.all false
set_option maxRecDepth 100000
set_option maxHeartbeats 0
namespace L2.Lk
open PySem PySem.Spec PyProof.Rows
theorem runB (w : World) (os : OsState) : (endW w os).map (fun s => oB (HandSHeadRun.getT s)) = some true := by
  kernel_rfl
end L2.Lk
/-! HrT -/
set_option Elab.async false
set_option linter.all false
set_option maxRecDepth 100000
set_option maxHeartbeats 0
namespace L2.Lk
open PySem PySem.Spec PyProof.Rows
theorem runT (w : World) (os : OsState) : (endW w os).map (fun s => bT (HandSHeadRun.getT s)) = some true := by
  kernel_rfl
end L2.Lk
/-! Fw2 -/
set_option Elab.async false
set_option linter.all false
set_option maxRecDepth 100000
set_option maxHeartbeats 2000000
namespace L2.Lk
open PySem PySem.Spec PyProof.Rows
/-! ### a list (true) or a tuple (false) -/
def Sq (K : PySem.W.Frag) (k : Bool) (H : Hp) (a : Addr) (xs : List V) : Prop := match k with
  | true => SqL K H a xs
  | false => SqT K H a xs
section
variable {K : PySem.W.Frag} {k : Bool} {H H' : Hp} {a : Addr} {xs : List V}
theorem Sq.or (h : Sq K k H a xs) : SqL K H a xs ∨ SqT K H a xs := by
  cases k with
  | true => exact .inl h
  | false => exact .inr h
theorem _root_.L2.Same.sq (e : Same H H') (h : Sq K k H a xs) : Sq K k H' a xs := by
  cases k with
  | true => exact e.seq h
  | false => exact e.tup h
theorem Sq.l (h : H a = some (.lst xs)) : Sq K true H a xs := SqL.of h
theorem Sq.t (h : H a = some (.tup xs)) : Sq K false H a xs := SqT.of h
end
section
variable {X : Cx} {tg : Expr}
def iSeqE (K : PySem.W.Frag) (a : Addr) (H1 : Hp) (R : It → Hp → Prop) : Prop := ((∃ xs, SqL K H1 a xs) ∧ R (Itl K a) H1) ∨ ((∃ xs, SqT K H1 a xs) ∧ R (Itt K a) H1)
def iSeq (K : PySem.W.Frag) (tl : TE) : TI := fun σ H R => tl σ H fun x H1 => ∃ a, x = .ref a ∧ iSeqE K a H1 R
theorem pi_seq {l : Expr} {tl : TE} (hl : PE X l tl) : PI X tg l (iSeq X.K tl) := by
  refine ⟨fun pins s σ H R I h => ?_⟩
  refine thn (hl.run pins s σ H _ I h) fun v s1 hv => ?_
  obtain ⟨x, H1, I1, r1, a, e, q⟩ := hv
  subst e
  cases r1
  rcases q with ⟨⟨xs, hq⟩, q⟩ | ⟨⟨xs, hq⟩, q⟩
  · obtain ⟨its, rv, p, hz⟩ := I1.list hq
    refine wpAny_pyIter_list p.isList ⟨s1.heap.objs.size, [s1.heap.objs.size], _, _, H1, rfl, I1.kept (t' := s1.toks) fun b o e => Heap.get?_push_of_some _ e, turn_list a _, ⟨_, Heap.get?_push_size _ rfl, rfl, rfl⟩, fun b hb => ?_, q⟩
    rw [List.mem_singleton.mp hb]
    exact I1.fpOk (Nat.le_refl _) (I1.hok.fresh (Nat.le_refl _))
  · obtain ⟨its, rv, p, hz⟩ := I1.tuple hq
    refine wpAny_pyIter_tuple (show s1.heap.IsTuple a its.toArray from p) ⟨s1.heap.objs.size, [s1.heap.objs.size], _, _, H1, rfl, I1.kept (t' := s1.toks) fun b o e => Heap.get?_push_of_some _ e, turn_tuple a _, ⟨_, Heap.get?_push_size _ rfl, rfl, rfl⟩, fun b hb => ?_, q⟩
    rw [List.mem_singleton.mp hb]
    exact I1.fpOk (Nat.le_refl _) (I1.hok.fresh (Nat.le_refl _))
end
section
variable {K : PySem.W.Frag} {k : Bool} {a : Addr} {xs : List V} {σ : St} {H : Hp}
theorem for_sq {g : TG} {tb : TS} {D : Ends} (Pv : Nat → St → Hp → Prop) (h0 : Pv 0 σ H) (hl : ∀ i σ H, Pv i σ H → Sq K k H a xs)
    (hs : ∀ (i : Nat) (x : V) (σ : St) (H : Hp), xs[i]? = some x → Pv i σ H → g x σ H fun σ2 H2 => tb { D with nx := Pv (i + 1), ct := Pv (i + 1), bk := D.nx } σ2 H2) (hd : ∀ σ H, Pv xs.length σ H → D.nx σ H) :
    iSeqE K a H fun J H1 => ∃ W : Nat → Nat → St → Hp → Prop, (∃ m, W 0 m σ H1) ∧ ∀ i m σ H, W i m σ H →
      (J.stop i H ∧ D.nx σ H) ∨ (J.go i H ∧ ∃ N : St → Hp → Prop, (∀ σ' H', N σ' H' → ∃ m', m' < m ∧ W (i + 1) m' σ' H') ∧ ∀ x H', J.yld i H x H' → g x σ H' fun σ2 H2 => tb { D with nx := N, ct := N, bk := D.nx } σ2 H2) := by
  cases k with
  | true => exact .inl ⟨⟨xs, hl 0 σ H h0⟩, for_list Pv h0 (fun i σ H _ p => hl i σ H p) hs hd⟩
  | false => exact .inr ⟨⟨xs, hl 0 σ H h0⟩, for_tup Pv h0 (fun i σ H _ p => hl i σ H p) hs hd⟩
theorem lc_sq {g : TG} {tt : TT} {te : TE} {vs : List Nat} {Qd : Addr → Hp → Prop} (Pv : Addr → Nat → Hp → Prop) (hh : Sq K k H a xs) (h0 : ∀ D, H D = none → Pv D 0 (upd H D (.lst []))) (hl : ∀ D i H, Pv D i H → Sq K k H a xs)
    (hs : ∀ (D : Addr) (i : Nat) (x : V) (H : Hp), xs[i]? = some x → Pv D i H → g x (wipe σ vs) H fun σ2 H2 => wipe σ2 vs = wipe σ vs ∧ tt σ2 H2 fun b H3 =>
      if b = true then te σ2 H3 fun y H4 => ∃ acc, H4 D = some (.lst acc) ∧ acc.length < sizeLine ∧ Pv D (i + 1) (upd H4 D (.lst (acc ++ [y]))) else Pv D (i + 1) H3) (hd : ∀ D H', Pv D xs.length H' → Qd D H') :
    iSeqE K a H fun J H1 => ∀ D, H1 D = none → ∃ W : Nat → Nat → Hp → Prop, (∃ m, W 0 m (upd H1 D (.lst []))) ∧ ∀ i m H, W i m H →
      (J.stop i H ∧ Qd D H) ∨ (J.go i H ∧ ∃ Nx : Hp → Prop, (∀ H', Nx H' → ∃ m', m' < m ∧ W (i + 1) m' H') ∧ ∀ x H', J.yld i H x H' → g x (wipe σ vs) H' fun σ2 H2 => wipe σ2 vs = wipe σ vs ∧ tt σ2 H2 fun b H3 =>
        if b = true then te σ2 H3 fun y H4 => ∃ acc, H4 D = some (.lst acc) ∧ acc.length < sizeLine ∧ Nx (upd H4 D (.lst (acc ++ [y]))) else Nx H3) := by
  cases k with
  | true => exact .inl ⟨⟨xs, hh⟩, fun D hD => lc_list (Pv D) (h0 D hD) (fun i H _ p => hl D i H p) (hs D) (hd D)⟩
  | false => exact .inr ⟨⟨xs, hh⟩, fun D hD => lc_tup (Pv D) (h0 D hD) (fun i H _ p => hl D i H p) (hs D) (hd D)⟩
theorem _root_.L2.Same.but {H1 H2 : Hp} {D : Addr} {o : HO} (hD : H D = none) (e : Same H H1) (e2 : Same H1 H2) : Same H (upd H2 D o) := fun b u hb => by
  rw [upd_ne (ne_of_none hb hD)]
  exact e2 _ _ (e _ _ hb)
theorem take_fm {φ : V → Option V} {i : Nat} {x : V} (h : xs[i]? = some x) : (xs.take (i + 1)).filterMap φ = (xs.take i).filterMap φ ++ (φ x).toList := by
  rw [List.take_add_one, h, List.filterMap_append]
  cases q : φ x with
  | none => simp [q]
  | some y => simp [q]
theorem fm_len {φ : V → Option V} {i : Nat} : ((xs.take i).filterMap φ).length ≤ xs.length := Nat.le_trans (List.length_filterMap_le _ _) (by rw [List.length_take]; exact Nat.min_le_right _ _)
/-- a comprehension whose turns change nothing that stands: what it keeps of each item is told by φ -/
theorem lc_fm {g : TG} {tt : TT} {te : TE} {vs : List Nat} {Qd : Addr → Hp → Prop} (φ : V → Option V) (hh : Sq K k H a xs) (hz : xs.length < 1000)
    (hs : ∀ (i : Nat) (x : V) (H1 : Hp) (Nx : V → Hp → Prop) (No : Hp → Prop), xs[i]? = some x → Same H H1 → (∀ y H4, φ x = some y → Same H1 H4 → Nx y H4) → (φ x = none → ∀ H3, Same H1 H3 → No H3) →
      g x (wipe σ vs) H1 fun σ2 H2 => wipe σ2 vs = wipe σ vs ∧ tt σ2 H2 fun b H3 => if b = true then te σ2 H3 Nx else No H3)
    (hd : ∀ D H', H D = none → Same H H' → H' D = some (.lst (xs.filterMap φ)) → Qd D H') :
    iSeqE K a H fun J H1 => ∀ D, H1 D = none → ∃ W : Nat → Nat → Hp → Prop, (∃ m, W 0 m (upd H1 D (.lst []))) ∧ ∀ i m H, W i m H →
      (J.stop i H ∧ Qd D H) ∨ (J.go i H ∧ ∃ Nx : Hp → Prop, (∀ H', Nx H' → ∃ m', m' < m ∧ W (i + 1) m' H') ∧ ∀ x H', J.yld i H x H' → g x (wipe σ vs) H' fun σ2 H2 => wipe σ2 vs = wipe σ vs ∧ tt σ2 H2 fun b H3 =>
        if b = true then te σ2 H3 fun y H4 => ∃ acc, H4 D = some (.lst acc) ∧ acc.length < sizeLine ∧ Nx (upd H4 D (.lst (acc ++ [y]))) else Nx H3) := by
  refine lc_sq (Pv := fun D i H' => H D = none ∧ Same H H' ∧ H' D = some (.lst ((xs.take i).filterMap φ))) hh (fun D hD => ⟨hD, Same.new hD, upd_same⟩) (fun D i H' p => p.2.1.sq hh) (fun D i x H1 hx p => ?_) (fun D H' p => hd D H' p.1 p.2.1 (by have := p.2.2; rw [List.take_length] at this; exact this))
  obtain ⟨hD, e, hl⟩ := p
  refine hs i x H1 _ _ hx e (fun y H4 hy e4 => ⟨_, e4 _ _ hl, ?_, hD, Same.but hD e e4, ?_⟩) (fun hn H3 e3 => ⟨hD, e.trans e3, ?_⟩)
  · exact Nat.lt_of_le_of_lt fm_len (Nat.lt_trans hz (by rw [sizeLine_eq]; decide))
  · rw [upd_same, take_fm hx, hy]; rfl
  · rw [take_fm hx, hn, e3 _ _ hl]; simp
end
/-! ### ranges of naturals -/
section
variable {σ : St} {H : Hp} {n : Nat}
theorem for_rangeM {g : TG} {tb : TS} {D : Ends} (Pv : Nat → St → Hp → Prop) (h0 : Pv 0 σ H)
    (hs : ∀ i σ H, i < n → Pv i σ H → g (nV i) σ H fun σ2 H2 => tb { D with nx := Pv (i + 1), ct := Pv (i + 1), bk := D.nx } σ2 H2) (hd : ∀ σ H, Pv n σ H → D.nx σ H) :
    ∃ W : Nat → Nat → St → Hp → Prop, (∃ m, W 0 m σ H) ∧ ∀ i m σ H, W i m σ H →
      ((Itr 0 ((n : Int)).toNat).stop i H ∧ D.nx σ H) ∨ ((Itr 0 ((n : Int)).toNat).go i H ∧ ∃ N : St → Hp → Prop, (∀ σ' H', N σ' H' → ∃ m', m' < m ∧ W (i + 1) m' σ' H') ∧ ∀ x H', (Itr 0 ((n : Int)).toNat).yld i H x H' → g x σ H' fun σ2 H2 => tb { D with nx := N, ct := N, bk := D.nx } σ2 H2) := by
  rw [Int.toNat_natCast]
  exact for_range Pv h0 (fun i σ H hi p => by rw [Int.zero_add]; exact hs i σ H hi p) hd
theorem lc_rangeM {g : TG} {tt : TT} {te : TE} {vs : List Nat} {Qd : Addr → Hp → Prop} (φ : Nat → Option V) (hz : n < 1000)
    (hs : ∀ (i : Nat) (H1 : Hp) (Nx : V → Hp → Prop) (No : Hp → Prop), i < n → Same H H1 → (∀ y H4, φ i = some y → Same H1 H4 → Nx y H4) → (φ i = none → ∀ H3, Same H1 H3 → No H3) →
      g (nV i) (wipe σ vs) H1 fun σ2 H2 => wipe σ2 vs = wipe σ vs ∧ tt σ2 H2 fun b H3 => if b = true then te σ2 H3 Nx else No H3)
    (hd : ∀ D H', H D = none → Same H H' → H' D = some (.lst ((List.range n).filterMap φ)) → Qd D H') :
    ∀ D, H D = none → ∃ W : Nat → Nat → Hp → Prop, (∃ m, W 0 m (upd H D (.lst []))) ∧ ∀ i m H, W i m H →
      ((Itr 0 ((n : Int)).toNat).stop i H ∧ Qd D H) ∨ ((Itr 0 ((n : Int)).toNat).go i H ∧ ∃ Nx : Hp → Prop, (∀ H', Nx H' → ∃ m', m' < m ∧ W (i + 1) m' H') ∧ ∀ x H', (Itr 0 ((n : Int)).toNat).yld i H x H' → g x (wipe σ vs) H' fun σ2 H2 => wipe σ2 vs = wipe σ vs ∧ tt σ2 H2 fun b H3 =>
        if b = true then te σ2 H3 fun y H4 => ∃ acc, H4 D = some (.lst acc) ∧ acc.length < sizeLine ∧ Nx (upd H4 D (.lst (acc ++ [y]))) else Nx H3) := by
  intro D hD
  rw [Int.toNat_natCast]
  refine lc_range (lo := 0) (Pv := fun i H' => Same H H' ∧ H' D = some (.lst ((List.range i).filterMap φ))) ⟨Same.new hD, upd_same⟩ (fun i H1 hi p => ?_) (fun H' p => hd D H' hD p.1 p.2)
  obtain ⟨e, hl⟩ := p
  rw [Int.zero_add]
  have hr : (List.range (i + 1)).filterMap φ = (List.range i).filterMap φ ++ (φ i).toList := by
    rw [List.range_succ, List.filterMap_append]
    cases q : φ i with
    | none => simp [q]
    | some y => simp [q]
  have hlen : ((List.range i).filterMap φ).length < sizeLine := Nat.lt_of_le_of_lt (List.length_filterMap_le _ _) (by rw [List.length_range]; exact Nat.lt_trans (Nat.lt_trans hi hz) (by rw [sizeLine_eq]; decide))
  refine hs i H1 _ _ hi e (fun y H4 hy e4 => ⟨_, e4 _ _ hl, hlen, Same.but hD e e4, ?_⟩) (fun hn H3 e3 => ⟨e.trans e3, ?_⟩)
  · rw [upd_same, hr, hy]; rfl
  · rw [hr, hn, e3 _ _ hl]; simp
end
/-! ### subscripts of either -/
def rIxA (K : PySem.W.Frag) : R2 := fun x y H Q => ∃ (p : Addr) (k : Bool) (xs : List V) (i : Nat) (v : V), x = .ref p ∧ y = nV i ∧ Sq K k H p xs ∧ xs[i]? = some v ∧ Q v H
theorem ix_sq {X : Cx} (K : PySem.W.Frag) (hK : X.K = K := by rfl) : IxR X (rIxA K) := by
  subst hK
  intro value slice pins s σ H x y v u Q I rx ry h hs
  obtain ⟨p, k, xs, i, w', rfl, rfl, hq, hi, q⟩ := h
  cases k with
  | true => exact ix_list value slice pins s σ H _ _ v u Q I rx ry ⟨p, xs, _, w', rfl, rfl, hq, atI_nat hi, q⟩ hs
  | false => exact ix_tup value slice pins s σ H _ _ v u Q I rx ry ⟨p, xs, _, w', rfl, rfl, hq, atI_nat hi, q⟩ hs
/-! ### len, list(..), tuple(..) of either -/
section
variable {X : Cx}
theorem call_lenM (K : PySem.W.Frag) (hK : X.K = K := by rfl) : CallR X (.builtin "len") (fun xs H Q => ∃ (p : Addr) (k : Bool) (ys : List V), xs = [.ref p] ∧ Sq K k H p ys ∧ Q (nV ys.length) H) := by
  subst hK
  intro pins s σ H xs us Q I r h
  obtain ⟨p, k, ys, rfl, hq, q⟩ := h
  exact call_len_seq pins s σ H _ us Q I r ⟨p, ys, rfl, hq.or, q⟩
theorem call_listM (K : PySem.W.Frag) (hK : X.K = K := by rfl) : CallR X (.type "list") (fun xs H Q => ∃ (p : Addr) (k : Bool) (ys : List V), xs = [.ref p] ∧ Sq K k H p ys ∧ ∀ l, H l = none → Q (.ref l) (upd H l (.lst ys))) := by
  subst hK
  intro pins s σ H xs us Q I r h
  obtain ⟨p, k, ys, rfl, hq, q⟩ := h
  exact call_list_of pins s σ H _ us Q I r ⟨p, ys, rfl, hq.or, q⟩
/-- tuple(x): of a tuple x itself -/
theorem call_tupleM (K : PySem.W.Frag) (hK : X.K = K := by rfl) : CallR X (.type "tuple") (fun xs H Q => ∃ (p : Addr) (k : Bool) (ys : List V), xs = [.ref p] ∧ Sq K k H p ys ∧ ∀ l H', Same H H' → SqT K H' l ys → Q (.ref l) H') := by
  subst hK
  intro pins s σ H xs us Q I r h
  obtain ⟨p, k, ys, rfl, hq, q⟩ := h
  refine call_tuple_of pins s σ H _ us Q I r ⟨p, ys, rfl, ?_⟩
  cases k with
  | true => exact .inl ⟨hq, fun l hl => q l _ (Same.new hl) (SqT.of upd_same)⟩
  | false => exact .inr ⟨hq, q p H (Same.refl H) hq⟩
end
theorem wl_get {ws : List Nat} {i w : Nat} (h : ws[i]? = some w) : (wl ws)[i]? = some (nV w) := by rw [List.getElem?_map, h]; rfl
theorem wl_of {ws : List Nat} {i : Nat} {x : V} (h : (wl ws)[i]? = some x) : ∃ w, ws[i]? = some w ∧ x = nV w := by
  rw [List.getElem?_map] at h
  cases q : ws[i]? with
  | none => rw [q] at h; cases h
  | some w => rw [q] at h; exact ⟨w, rfl, (Option.some.inj h).symm⟩
/-- a comprehension from naturals to naturals -/
theorem fm_wl {ws : List Nat} {φ : V → Option V} (f : Nat → Option Nat) (h : ∀ w, φ (nV w) = (f w).map nV) : (wl ws).filterMap φ = wl (ws.filterMap f) := by
  induction ws with
  | nil => rfl
  | cons w ws ih =>
    show (nV w :: wl ws).filterMap φ = _
    rw [List.filterMap_cons, h, List.filterMap_cons, ih]
    cases f w <;> rfl
/-! ### comprehensions of naturals -/
def nphi (f : Nat → Option Nat) : V → Option V := fun v => match v with
  | .int i => (f i.toNat).map nV
  | _ => none
theorem nphi_at (f : Nat → Option Nat) (w : Nat) : nphi f (nV w) = (f w).map nV := by
  show (f ((w : Int)).toNat).map nV = _
  rw [Int.toNat_natCast]
section
variable {K : PySem.W.Frag} {k : Bool} {a : Addr} {ws : List Nat} {σ : St} {H : Hp} {n : Nat}
theorem lc_nat {g : TG} {tt : TT} {te : TE} {vs : List Nat} {Qd : Addr → Hp → Prop} (f : Nat → Option Nat) (hh : Sq K k H a (wl ws)) (hz : ws.length < 1000)
    (hs : ∀ (i : Nat) (w : Nat) (H1 : Hp) (Nx : V → Hp → Prop) (No : Hp → Prop), ws[i]? = some w → Same H H1 → (∀ y H4, f w = some y → Same H1 H4 → Nx (nV y) H4) → (f w = none → ∀ H3, Same H1 H3 → No H3) →
      g (nV w) (wipe σ vs) H1 fun σ2 H2 => wipe σ2 vs = wipe σ vs ∧ tt σ2 H2 fun b H3 => if b = true then te σ2 H3 Nx else No H3)
    (hd : ∀ D H', H D = none → Same H H' → H' D = some (.lst (wl (ws.filterMap f))) → Qd D H') :
    iSeqE K a H fun J H1 => ∀ D, H1 D = none → ∃ W : Nat → Nat → Hp → Prop, (∃ m, W 0 m (upd H1 D (.lst []))) ∧ ∀ i m H, W i m H →
      (J.stop i H ∧ Qd D H) ∨ (J.go i H ∧ ∃ Nx : Hp → Prop, (∀ H', Nx H' → ∃ m', m' < m ∧ W (i + 1) m' H') ∧ ∀ x H', J.yld i H x H' → g x (wipe σ vs) H' fun σ2 H2 => wipe σ2 vs = wipe σ vs ∧ tt σ2 H2 fun b H3 =>
        if b = true then te σ2 H3 fun y H4 => ∃ acc, H4 D = some (.lst acc) ∧ acc.length < sizeLine ∧ Nx (upd H4 D (.lst (acc ++ [y]))) else Nx H3) := by
  refine lc_fm (nphi f) hh (by rw [List.length_map]; exact hz) (fun i x H1 Nx No hx e hN hO => ?_) (fun D H' hD e h => hd D H' hD e (by rw [h, fm_wl f (nphi_at f)]))
  obtain ⟨w, hw, rfl⟩ := wl_of hx
  refine hs i w H1 Nx No hw e (fun y H4 hy e4 => hN _ H4 (by rw [nphi_at, hy]; rfl) e4) (fun hn => hO (by rw [nphi_at, hn]; rfl))
theorem lc_natM {g : TG} {tt : TT} {te : TE} {vs : List Nat} {Qd : Addr → Hp → Prop} (f : Nat → Nat) (hh : Sq K k H a (wl ws)) (hz : ws.length < 1000)
    (hs : ∀ (i : Nat) (w : Nat) (H1 : Hp) (Nx : V → Hp → Prop) (No : Hp → Prop), ws[i]? = some w → Same H H1 → (∀ H4, Same H1 H4 → Nx (nV (f w)) H4) →
      g (nV w) (wipe σ vs) H1 fun σ2 H2 => wipe σ2 vs = wipe σ vs ∧ tt σ2 H2 fun b H3 => if b = true then te σ2 H3 Nx else No H3)
    (hd : ∀ D H', H D = none → Same H H' → H' D = some (.lst (wl (ws.map f))) → Qd D H') :
    iSeqE K a H fun J H1 => ∀ D, H1 D = none → ∃ W : Nat → Nat → Hp → Prop, (∃ m, W 0 m (upd H1 D (.lst []))) ∧ ∀ i m H, W i m H →
      (J.stop i H ∧ Qd D H) ∨ (J.go i H ∧ ∃ Nx : Hp → Prop, (∀ H', Nx H' → ∃ m', m' < m ∧ W (i + 1) m' H') ∧ ∀ x H', J.yld i H x H' → g x (wipe σ vs) H' fun σ2 H2 => wipe σ2 vs = wipe σ vs ∧ tt σ2 H2 fun b H3 =>
        if b = true then te σ2 H3 fun y H4 => ∃ acc, H4 D = some (.lst acc) ∧ acc.length < sizeLine ∧ Nx (upd H4 D (.lst (acc ++ [y]))) else Nx H3) :=
  lc_nat (fun w => some (f w)) hh hz (fun i w H1 Nx No hw e hN _ => hs i w H1 Nx No hw e fun H4 e4 => hN _ H4 rfl e4) (fun D H' hD e h => hd D H' hD e (by rw [h, show ws.filterMap (fun w => some (f w)) = ws.map f from congrFun List.filterMap_eq_map ws]))
theorem lc_rangeN {g : TG} {tt : TT} {te : TE} {vs : List Nat} {Qd : Addr → Hp → Prop} (f : Nat → Nat) (hz : n < 1000)
    (hs : ∀ (i : Nat) (H1 : Hp) (Nx : V → Hp → Prop) (No : Hp → Prop), i < n → Same H H1 → (∀ H4, Same H1 H4 → Nx (nV (f i)) H4) →
      g (nV i) (wipe σ vs) H1 fun σ2 H2 => wipe σ2 vs = wipe σ vs ∧ tt σ2 H2 fun b H3 => if b = true then te σ2 H3 Nx else No H3)
    (hd : ∀ D H', H D = none → Same H H' → H' D = some (.lst (wl ((List.range n).map f))) → Qd D H') :
    ∀ D, H D = none → ∃ W : Nat → Nat → Hp → Prop, (∃ m, W 0 m (upd H D (.lst []))) ∧ ∀ i m H, W i m H →
      ((Itr 0 ((n : Int)).toNat).stop i H ∧ Qd D H) ∨ ((Itr 0 ((n : Int)).toNat).go i H ∧ ∃ Nx : Hp → Prop, (∀ H', Nx H' → ∃ m', m' < m ∧ W (i + 1) m' H') ∧ ∀ x H', (Itr 0 ((n : Int)).toNat).yld i H x H' → g x (wipe σ vs) H' fun σ2 H2 => wipe σ2 vs = wipe σ vs ∧ tt σ2 H2 fun b H3 =>
        if b = true then te σ2 H3 fun y H4 => ∃ acc, H4 D = some (.lst acc) ∧ acc.length < sizeLine ∧ Nx (upd H4 D (.lst (acc ++ [y]))) else Nx H3) :=
  lc_rangeM (fun i => some (nV (f i))) hz (fun i H1 Nx No hi e hN _ => hs i H1 Nx No hi e fun H4 e4 => hN _ H4 rfl e4) (fun D H' hD e h => hd D H' hD e (by rw [h]; congr 2; exact (congrFun List.filterMap_eq_map _).trans (by rw [wl, List.map_map]; rfl)))
end
/-- sorted(naturals) -/
theorem cr_sortedN {X : Cx} : CallR X (.builtin "sorted") (fun vs H Q => ∃ (a : Addr) (ws : List Nat), vs = [V.ref a] ∧ SqL X.K H a (wl ws) ∧
    ∀ (ws' : List Nat) (p : Addr), ws'.Perm ws → ws'.Pairwise (· ≤ ·) → H p = none → Q (.ref p) (upd H p (.lst (wl ws')))) := fun pins s σ H xs us Q I r h => by
  obtain ⟨a, ws, rfl, hq, q⟩ := h
  have e : wl ws = (ws.map fun (w : Nat) => ((w : Nat) : Int)).map V.int := by rw [List.map_map]; rfl
  refine cr_sortedI pins s σ H _ us Q I r ⟨a, ws.map (fun (w : Nat) => ((w : Nat) : Int)), rfl, by rw [← e]; exact hq, fun ns' p hp hs hn => ?_⟩
  have hnn : ∀ i ∈ ns', ∃ w : Nat, i = (w : Int) := fun i hi => by
    obtain ⟨w, _, e⟩ := List.mem_map.mp (hp.mem_iff.mp hi)
    exact ⟨w, e.symm⟩
  have e2 : ns' = (ns'.map Int.toNat).map (fun (w : Nat) => ((w : Nat) : Int)) := by
    rw [List.map_map]
    refine (List.map_id ns').symm.trans (List.map_congr_left fun i hi => ?_)
    obtain ⟨w, rfl⟩ := hnn i hi
    rfl
  have e3 : ns'.map V.int = wl (ns'.map Int.toNat) := by
    conv => lhs; rw [e2]
    rw [List.map_map]
    rfl
  rw [e3]
  refine q _ p ?_ ?_ hn
  · have := hp.map Int.toNat
    rw [List.map_map] at this
    exact this.trans (List.Perm.of_eq (by rw [show (Int.toNat ∘ fun w : Nat => (w : Int)) = id from rfl, List.map_id]))
  · rw [List.pairwise_map]
    exact hs.imp_of_mem fun {a b} ha hb h => by omega
theorem pe_fldK {X : Cx} (K : PySem.W.Frag) {o : Expr} {f : Str} {pos : Pos} {ta : TE} (he : PE X o ta) (hb : attributeBase o f X.env (eval o X.env) = eval o X.env := by rfl) (hK : X.K = K := by rfl) : PE X (.Attribute o f pos) (tFld K ta f) := by
  subst hK
  exact pe_fld he hb
theorem pg_tupK {X : Cx} (K : PySem.W.Frag) {pos : Pos} {es : List Expr} {k : Nat} {t : TGs} {n : Nat} (hc : X.calm = true) (h : PGs X es t) (hn : (assignEach es X.env).length = n := by rfl) (hst : (assignEach es X.env).findIdx? (·.1) = none := by rfl) (hK : X.K = K := by rfl) :
    PG X (.Tuple es k pos) (gTup K n t) := by
  subst hK
  exact pg_tup hc h hn hst
theorem kb_ni : kitB "NoneType" "int" = some false := by decide +kernel
theorem kb_bi : kitB "bool" "int" = some true := by decide +kernel
theorem kb_ii : kitB "int" "int" = some true := by decide +kernel
theorem kb_si : kitB "str" "int" = some false := by decide +kernel
theorem kb_bb : kitB "bool" "bool" = some true := by decide +kernel
theorem kb_ib : kitB "int" "bool" = some false := by decide +kernel
theorem bb_len : bootBuiltins "len" = some (.builtin "len") := by decide +kernel
theorem bb_int : bootBuiltins "int" = some (.type "int") := by decide +kernel
theorem bb_bool : bootBuiltins "bool" = some (.type "bool") := by decide +kernel
theorem bb_list : bootBuiltins "list" = some (.type "list") := by decide +kernel
theorem bb_tuple : bootBuiltins "tuple" = some (.type "tuple") := by decide +kernel
theorem bb_str : bootBuiltins "str" = some (.type "str") := by decide +kernel
theorem bb_dict : bootBuiltins "dict" = some (.type "dict") := by decide +kernel
theorem bb_sorted : bootBuiltins "sorted" = some (.builtin "sorted") := by decide +kernel
theorem bb_isinstance : bootBuiltins "isinstance" = some (.builtin "isinstance") := by decide +kernel
theorem bb_min : bootBuiltins "min" = some (.builtin "min") := by decide +kernel
theorem bb_abs : bootBuiltins "abs" = some (.builtin "abs") := by decide +kernel
theorem bb_all : bootBuiltins "all" = some (.builtin "all") := by decide +kernel
end L2.Lk
/-! P1 -/
set_option Elab.async false
set_option linter.all false
set_option maxRecDepth 100000
set_option maxHeartbeats 2000000
namespace L2.Lk
open PySem PySem.Spec PyProof.Rows
section
variable {P : Program} {w : World} {K : PySem.W.Frag} {mg : Str → Option Value} {base : Heap}
/-! ### checks -/
def tyF : V → String
  | .non => "NoneType"
  | .bl _ => "bool"
  | .int _ => "int"
  | .str _ => "str"
  | _ => ""
theorem tyF_ok {a : V} {H : Hp} (h : flatV a = true) : TyX K H a (.type (tyF a)) := by
  cases a <;> first | (cases h; done) | skip
  · exact .base .non
  · exact .base (.bl _)
  · exact .base (.int _)
  · exact .base (.str _)
def wholeV : V → Bool
  | .int i => decide (0 ≤ i)
  | _ => false
abbrev sp_is_whole : L2.Sp := S1 fun a H Q _ => flatV a = true ∧ ∀ H', Same H H' → Q (.bl (wholeV a)) H'
theorem ok_is_whole (T : Tx P K mg) : Has P w K mg base 1 "is_whole" ["value"] sp_is_whole := by
  refine ⟨g_is_whole T, ok1 (F_is_whole T) sc_is_whole fun cdv A outer s H a Q E hr h => ?_⟩
  obtain ⟨hf, q⟩ := h
  have q := q _ (Same.refl _)
  refine ⟨_, (pss_one (ps_ret (pe_and (pe_callB call_isi (by rfl) (b_isinstance T) bb_isinstance (pa_cons (pv 0) (pa_cons (pe_bltn (v := .ty "int") (by rfl) (b_int T) bb_int rfl) pa_nil))) (pe_and (pe_not (pe_callB call_isi (by rfl) (b_isinstance T) bb_isinstance (pa_cons (pv 0) (pa_cons (pe_bltn (v := .ty "bool") (by rfl) (b_bool T) bb_bool rfl) pa_nil)))) (pe_one (pe_cmpR op_ge (pv 0) pe_int (nomark _))))))), ?_⟩
  cases a <;> first | (cases hf; done) | skip
  · refine ⟨_, rfl, _, _, _, _, _, rfl, .ty _, tyF_ok rfl, kit_ty kb_ni, _, rfl, iteF q⟩
  · refine ⟨_, rfl, _, _, _, _, _, rfl, .ty _, tyF_ok rfl, kit_ty kb_bi, _, rfl, iteT ?_⟩
    exact ⟨_, rfl, _, _, _, _, _, rfl, .ty _, tyF_ok rfl, kit_ty kb_bb, _, rfl, _, rfl, iteF q⟩
  · refine ⟨_, rfl, _, _, _, _, _, rfl, .ty _, tyF_ok rfl, kit_ty kb_ii, _, rfl, iteT ?_⟩
    exact ⟨_, rfl, _, _, _, _, _, rfl, .ty _, tyF_ok rfl, kit_ty kb_ib, _, rfl, _, rfl, iteT ⟨_, rfl, _, _, rfl, rfl, q⟩⟩
  · refine ⟨_, rfl, _, _, _, _, _, rfl, .ty _, tyF_ok rfl, kit_ty kb_si, _, rfl, iteF q⟩
theorem whole_nat (n : Nat) : wholeV (nV n) = true := decide_eq_true (Int.natCast_nonneg n)
abbrev sp_need_whole : L2.Sp := S1 fun a H Q _ => ∃ n, a = nV n ∧ ∀ H', Same H H' → Q .non H'
theorem ok_need_whole (T : Tx P K mg) : Has P w K mg base 2 "need_whole" ["value"] sp_need_whole := by
  refine ⟨g_need_whole T, ok1 (F_need_whole T) sc_need_whole fun cdv A outer s H a Q E hr h => ?_⟩
  obtain ⟨n, rfl, q⟩ := h
  refine ⟨_, (pss_one (ps_if (pt_not (pt_val (pe_h (ok_is_whole (K := K) T) (hr.mono (by decide)) passL (pa_cons (pv 0) pa_nil)))) (pss_one ps_never) pss_nil)), ?_⟩
  refine ⟨_, rfl, _, rfl, rfl, fun H' e => ⟨_, rfl, ?_⟩⟩
  rw [whole_nat]
  exact iteF (q _ e)
theorem sq_ty {k : Bool} {H : Hp} {p : Addr} {xs : List V} (h : Sq K k H p xs) : TyX K H (.ref p) (.type (if k then "list" else "tuple")) := by
  cases k with
  | true =>
    rcases h with (h | ⟨o, h⟩) | ⟨o, its, n, h, hc, _⟩
    · exact .base (.lst h)
    · exact .base (.frz h)
    · exact .kList h hc
  | false =>
    rcases h with (h | ⟨o, h⟩) | ⟨o, its, n, h, hc, _⟩
    · exact .base (.tup h)
    · exact .fTuple h
    · exact .kTuple h hc
abbrev sp_need_items (K : PySem.W.Frag) : L2.Sp := S1 fun a H Q _ => ∃ p k xs, a = .ref p ∧ Sq K k H p xs ∧ ∀ H', Same H H' → Q .non H'
theorem ok_need_items (T : Tx P K mg) : Has P w K mg base 1 "need_items" ["value"] (sp_need_items K) := by
  refine ⟨g_need_items T, ok1 (F_need_items T) sc_need_items fun cdv A outer s H a Q E hr h => ?_⟩
  obtain ⟨p, k, xs, rfl, hq, q⟩ := h
  refine ⟨_, (pss_one (ps_if (pt_not (pt_val (pe_callB call_isiT (by rfl) (b_isinstance T) bb_isinstance (pa_cons (pv 0) (pa_cons (pe_tup (pa_cons (pe_bltn (v := .ty "list") (by rfl) (b_list T) bb_list rfl) (pa_cons (pe_bltn (v := .ty "tuple") (by rfl) (b_tuple T) bb_tuple rfl) pa_nil))) pa_nil))))) (pss_one ps_never) pss_nil)), ?_⟩
  refine ⟨_, rfl, by show 2 ≤ sizeLine; decide, fun t ht => ?_⟩
  have e : Same H (upd H t (.tup [.ty "list", .ty "tuple"])) := Same.new ht
  refine ⟨_, _, _, _, _, true, rfl, upd_same, .cons (.ty _) (.cons (.ty _) .nil), sq_ty (e.sq hq), ?_, _, rfl, iteF (q _ e)⟩
  cases k with
  | true => exact kitAny_cons (kit_ty (r := true) (by decide +kernel)) (fun z => nomatch z) fun _ => rfl
  | false => exact kitAny_cons (kit_ty (r := false) (by decide +kernel)) (fun _ => kitAny_cons (kit_ty (r := true) (by decide +kernel)) (fun z => nomatch z) fun _ => rfl) fun z => nomatch z
/-! ### bits -/
theorem bl_pos {n : Nat} (h : n ≠ 0) : bl n = top n + 1 := by unfold bl top; rw [if_neg h]
theorem bl_le {n m : Nat} : bl n ≤ m ↔ n < 2 ^ m := by
  by_cases h : n = 0
  · subst h; exact ⟨fun _ => Nat.two_pow_pos m, fun _ => Nat.zero_le _⟩
  · rw [bl_pos h]
    exact (Nat.log2_lt h)
theorem bit_and (x i : Nat) : decide (x / 2 ^ i &&& 1 = 1) = x.testBit i := by
  rw [Nat.testBit_eq_decide_div_mod_eq, Nat.and_one_is_mod]
abbrev sp_need_word : L2.Sp := S2 fun a b H Q _ => ∃ n m, a = nV n ∧ b = nV m ∧ n < 2 ^ m ∧ ∀ H', Same H H' → Q .non H'
theorem ok_need_word (T : Tx P K mg) : Has P w K mg base 2 "need_word" ["value", "bits"] sp_need_word := by
  refine ⟨g_need_word T, ok2 (F_need_word T) sc_need_word fun cdv A outer s H a b Q E hr h => ?_⟩
  obtain ⟨n, m, rfl, rfl, hn, q⟩ := h
  refine ⟨_, (pss_one (ps_if (PW.pt (pw_or (pt_not (pt_val (pe_h (ok_is_whole (K := K) T) (hr.mono (by decide)) passL (pa_cons (pv 0) pa_nil)))) (pw_or1 (pt_cmpR op_gtM (pe_bitsN (pv 0)) (pv 1) (nomark _))))) (pss_one ps_never) pss_nil)), ?_⟩
  refine ⟨_, rfl, _, rfl, rfl, fun H' e => ⟨_, rfl, ?_⟩⟩
  rw [whole_nat]
  refine iteF ⟨_, rfl, _, rfl, _, rfl, _, _, rfl, rfl, _, rfl, ?_⟩
  rw [decide_eq_false (Nat.not_lt.mpr (bl_le.mpr hn))]
  exact iteF (q _ e)
abbrev sp_need_words (K : PySem.W.Frag) : L2.Sp := S2 fun a b H Q _ => ∃ p k ws n, a = .ref p ∧ b = nV n ∧ Sq K k H p (wl ws) ∧ Lt n ws ∧ ∀ l H', Same H H' → H l = none → H' l = some (.lst (wl ws)) → Q (.ref l) H'
theorem ok_need_words (T : Tx P K mg) : Has P w K mg base 3 "need_words" ["values", "bits"] (sp_need_words K) := by
  refine ⟨g_need_words T, ok2 (F_need_words T) sc_need_words fun cdv A outer s H a b Q E hr h => ?_⟩
  obtain ⟨p, k, ws, n, rfl, rfl, hq, hn, q⟩ := h
  refine ⟨_, (pss_cons (ps_expr (pe_h (ok_need_items (K := K) T) (hr.mono (by decide)) passL (pa_cons (pv 0) pa_nil)))
    (pss_cons (ps_for (passes_of rfl) rfl (pi_seq (pv 0)) (pg_name (i := 2) sc_need_words.nd rfl (.inl rfl)) (pss_one (ps_expr (pe_h (ok_need_word (K := K) T) (hr.mono (by decide)) passL (pa_cons (pv 2) (pa_cons (pv 1) pa_nil))))))
    (pss_one (ps_ret (pe_callTy (call_listM K) (by rfl) (b_list T) bb_list (pa_cons (pv 0) pa_nil)))))), ?_⟩
  refine ⟨_, rfl, _, rfl, p, k, _, rfl, hq, fun H1 e1 => ?_⟩
  refine ⟨_, rfl, p, rfl, for_sq (k := k) (xs := wl ws) (Pv := fun i σ H' => Same H H' ∧ ∃ x, σ = [some (.ref p), some (nV n), x]) ⟨e1, none, rfl⟩ (fun i σ H' h => h.1.sq hq) (fun i x σ H' hx h => ?_) (fun σ H' h => ?_)⟩
  · obtain ⟨e, x0, rfl⟩ := h
    obtain ⟨v, hv, rfl⟩ := wl_of hx
    exact ⟨_, rfl, _, rfl, _, _, rfl, _, _, rfl, rfl, hn v (List.mem_of_getElem? hv), fun H2 e2 => ⟨e.trans e2, some (nV v), rfl⟩⟩
  · obtain ⟨e, x0, rfl⟩ := h
    exact ⟨_, rfl, _, k, _, rfl, e.sq hq, fun l hl => q l _ (e.new' hl) (e.free hl) upd_same⟩
theorem wl_snoc (bs : List Nat) (b : Nat) : wl (bs ++ [b]) = wl bs ++ [nV b] := List.map_append ..
theorem wl_append (as bs : List Nat) : wl (as ++ bs) = wl as ++ wl bs := List.map_append ..
/-! ### ones -/
theorem tz_lt {x : Nat} (h : x ≠ 0) : x ^^^ 2 ^ tz x < x := by
  have h1 := tz_bit h
  refine lt_by_top (s := x ^^^ 2 ^ tz x) (x := x) ?_ ?_
  · rw [xor_r, Nat.xor_self, Nat.zero_xor]; exact Nat.ne_of_gt (Nat.two_pow_pos _)
  · rw [show x ^^^ 2 ^ tz x ^^^ x = 2 ^ tz x from by rw [xor_r, Nat.xor_self, Nat.zero_xor]]
    unfold top
    rw [Nat.log2_two_pow, Nat.testBit_xor, h1, Nat.testBit_two_pow_self]
    rfl
theorem bl_pow (k : Nat) : bl (2 ^ k) = k + 1 := by rw [bl_pos (Nat.ne_of_gt (Nat.two_pow_pos k)), top, Nat.log2_two_pow]
theorem bsum_snoc (bs : List Nat) (b : Nat) : bsum (bs ++ [b]) = bsum bs ^^^ 2 ^ b := by unfold bsum; rw [List.foldl_append]; rfl
def muI (i : Nat) (σ : L2.St) : Nat := match σ[i]? with
  | some (some (.int z)) => z.toNat
  | _ => 0
abbrev sp_ones (K : PySem.W.Frag) : L2.Sp := S1 fun a H Q _ => ∃ n, a = nV n ∧ n ≤ 1000 ∧ ∀ p H' bs, Same H H' → SqT K H' p (wl bs) → bsum bs = n → (∀ b ∈ bs, n.testBit b = true) → Q (.ref p) H'
theorem ok_ones (T : Tx P K mg) : Has P w K mg base 3 "ones" ["word"] (sp_ones K) := by
  refine ⟨g_ones T, ok1 (F_ones T) sc_ones fun cdv A outer s H a Q E hr h => ?_⟩
  obtain ⟨n, rfl, hn, q⟩ := h
  refine ⟨_, (pss_cons (ps_expr (pe_h (ok_need_whole (K := K) T) (hr.mono (by decide)) passL (pa_cons (pv 0) pa_nil)))
    (pss_cons (ps_set (i := 1) sc_ones.nd rfl (.inl rfl) (pe_lst pa_nil))
    (pss_cons (ps_set (i := 2) sc_ones.nd rfl (.inl rfl) (pv 0))
    (pss_cons (ps_while (passes_of rfl) (pt_cmpR op_gtM (pv 2) (pe_nat 0) (nomark _)) (pss_cons (ps_set (i := 3) sc_ones.nd rfl (.inl rfl) (pe_op op_low (pv 2) (pe_un un_neg (pv 2))))
    (pss_cons (ps_expr (pe_bm PySem.F.plainAttrs_list PySem.F.slot_list_append PySem.F.type_list_append mt_append (pv 1) (pa_cons (pe_op op_subM (pe_bitsN (pv 3)) (pe_nat 1)) pa_nil)))
    (pss_one (ps_set (i := 2) sc_ones.nd rfl (.inl rfl) (pe_op op_xorM (pv 2) (pv 3)))))))
    (pss_one (ps_ret (pe_callTy (call_tupleM K) (by rfl) (b_tuple T) bb_tuple (pa_cons (pv 1) pa_nil)))))))), ?_⟩
  refine ⟨_, rfl, _, rfl, _, rfl, fun H1 e1 => ⟨Nat.zero_le _, fun l hl => ?_⟩⟩
  refine ⟨_, rfl, while_by (fun σ H' => ∃ bs left x, σ = [some (nV n), some (.ref l), some (nV left), x] ∧ Same H H' ∧ H' l = some (.lst (wl bs)) ∧ left ^^^ bsum bs = n ∧ (∀ i, left.testBit i = true → n.testBit i = true) ∧ (∀ b ∈ bs, n.testBit b = true) ∧ bs.length + left ≤ n)
    (fun σ _ => muI 2 σ) ⟨[], n, none, rfl, e1.new' hl, upd_same, Nat.xor_zero n, fun _ h => h, fun b hb => by (cases hb), by simp⟩ (fun σ H' h => ?_) (fun σ H' Q Q' i hh => ?_)⟩
  · obtain ⟨bs, left, x, rfl, e, hb, h1, h2, h3, h4⟩ := h
    refine ⟨_, rfl, _, _, rfl, rfl, _, rfl, ite2 (fun hp => ?_) (fun hp => ?_)⟩
    · have hp : left ≠ 0 := by have := of_decide_eq_true hp; omega
      have hlt := tz_lt hp
      have htz := tz_bit hp
      refine ⟨_, rfl, _, rfl, _, rfl, _, hp, rfl, rfl, ?_⟩
      refine ⟨_, rfl, .inl ⟨rfl, _, SqL.of hb⟩, _, rfl, _, rfl, _, _, rfl, rfl, by rw [bl_pow]; omega, l, _, _, rfl, rfl, hb, by rw [List.length_map]; exact small1000 (by omega), ?_⟩
      refine ⟨_, rfl, _, rfl, _, _, rfl, rfl, ⟨bs ++ [tz left], left ^^^ 2 ^ tz left, _, rfl, ?_, ?_, ?_, ?_, ?_, ?_⟩, ?_⟩
      · exact fun b o hbo => by rw [upd_ne (ne_of_none hbo (e1.free hl))]; exact e _ _ hbo
      · rw [upd_same, bl_pow, wl_snoc]; rfl
      · rw [bsum_snoc, Nat.xor_comm (bsum bs), ← Nat.xor_assoc, xx]; exact h1
      · intro i hi
        rw [Nat.testBit_xor] at hi
        by_cases ei : tz left = i
        · subst ei; exact h2 _ htz
        · rw [Nat.testBit_two_pow, decide_eq_false ei, Bool.xor_false] at hi
          exact h2 i hi
      · intro b hb
        rcases List.mem_append.mp hb with hb | hb
        · exact h3 b hb
        · rw [List.mem_singleton.mp hb]; exact h2 _ htz
      · rw [List.length_append]; simp only [List.length_cons, List.length_nil]; omega
      · exact hlt
    · have hp : left = 0 := by
        have := of_decide_eq_false (Bool.not_eq_true _ ▸ hp)
        omega
      subst hp
      rw [Nat.zero_xor] at h1
      exact ⟨_, rfl, l, true, _, rfl, SqL.of hb, fun t H2 e2 ht => q t H2 bs (e.trans e2) ht h1 h3⟩
  · obtain ⟨v, h1, a, b, h2, h3, k, h4, h5⟩ := hh
    exact ⟨v, h1, a, b, h2, h3, k, h4, i _ _ h5⟩
/-! ### rows -/
abbrev sp_cleared (K : PySem.W.Frag) : L2.Sp := S2 fun a b H Q _ => ∃ p k rows n, a = .ref p ∧ b = nV n ∧ Sq K k H p (wl rows) ∧ (∀ r ∈ rows, r ≠ 0) ∧ ∀ H', Same H H' → Q (nV (clr rows n)) H'
theorem ok_cleared (T : Tx P K mg) : Has P w K mg base 1 "cleared" ["rows", "word"] (sp_cleared K) := by
  refine ⟨g_cleared T, ok2 (F_cleared T) sc_cleared fun cdv A outer s H a b Q E hr h => ?_⟩
  obtain ⟨p, k, rows, n, rfl, rfl, hq, h0, q⟩ := h
  refine ⟨_, (pss_cons (ps_set (i := 2) sc_cleared.nd rfl (.inl rfl) (pv 1))
    (pss_cons (ps_for (passes_of rfl) rfl (pi_seq (pv 0)) (pg_name (i := 3) sc_cleared.nd rfl (.inl rfl)) (pss_one (ps_if (pt_cmpR op_eqM (pe_op op_andM' (pe_op op_shrM (pv 2) (pe_op op_subM (pe_bitsN (pv 3)) (pe_nat 1))) (pe_nat 1)) (pe_nat 1) (nomark _)) (pss_one (ps_set (i := 2) sc_cleared.nd rfl (.inl rfl) (pe_op op_xorM (pv 2) (pv 3)))) pss_nil)))
    (pss_one (ps_ret (pv 2))))), ?_⟩
  refine ⟨_, rfl, _, rfl, p, rfl, for_sq (Pv := fun i σ H' => H' = H ∧ ∃ x, σ = [some (.ref p), some (nV n), some (nV (clr (rows.take i) n)), x]) ⟨rfl, none, rfl⟩ (fun i σ H' h => by rw [h.1]; exact hq) (fun i x σ H' hx h => ?_) (fun σ H' h => ?_)⟩
  · obtain ⟨rfl, x0, rfl⟩ := h
    obtain ⟨r, hr', rfl⟩ := wl_of hx
    have hn : r ≠ 0 := h0 r (List.mem_of_getElem? hr')
    have e : clr (rows.take (i + 1)) n = off (top r) r (clr (rows.take i) n) := by
      unfold clr; rw [List.take_add_one, hr', offs_append]; rfl
    refine ⟨_, rfl, _, rfl, _, rfl, _, _, rfl, rfl, by rw [bl_pos hn]; omega, _, _, rfl, rfl, _, _, rfl, rfl, _, _, rfl, rfl, _, rfl, ?_⟩
    rw [bl_pos hn, Nat.add_sub_cancel, bit_and]
    refine ite2 (fun hb => ?_) (fun hb => ?_)
    · refine ⟨_, rfl, _, rfl, _, _, rfl, rfl, rfl, some (nV r), ?_⟩
      rw [e]; unfold off; rw [if_pos hb]; rfl
    · refine ⟨rfl, some (nV r), ?_⟩
      rw [e]; unfold off; rw [if_neg hb]; rfl
  · obtain ⟨rfl, x0, rfl⟩ := h
    refine ⟨_, rfl, ?_⟩
    rw [show (wl rows).length = rows.length from List.length_map .., List.take_length]
    exact q _ (Same.refl _)
abbrev sp_grown (K : PySem.W.Frag) : L2.Sp := S2 fun a b H Q _ => ∃ p rows n, a = .ref p ∧ b = nV n ∧ SqL K H p (wl rows) ∧ Red rows ∧ rows.length ≤ 500 ∧
  ∀ l H' rows', Same H H' → H l = none → H' l = some (.lst (wl rows')) → RowsOf (n :: rows) rows' → Q (.ref l) H'
theorem ok_grown (T : Tx P K mg) : Has P w K mg base 2 "grown" ["rows", "word"] (sp_grown K) := by
  refine ⟨g_grown T, ok2 (F_grown T) sc_grown fun cdv A outer s H a b Q E hr h => ?_⟩
  obtain ⟨p, rows, n, rfl, rfl, hq, hR, hz, q⟩ := h
  refine ⟨_, (pss_cons (ps_set (i := 2) sc_grown.nd rfl (.inr rfl) (pe_h (ok_cleared (K := K) T) (hr.mono (by decide)) passL (pa_cons (pv 0) (pa_cons (pv 1) pa_nil))))
    (pss_cons (ps_if (pt_cmpR op_eqM (pv 2) (pe_nat 0) (nomark _)) (pss_one (ps_ret (pe_callTy (call_listM K) (by rfl) (b_list T) bb_list (pa_cons (pv 0) pa_nil)))) pss_nil)
    (pss_cons (ps_set (i := 3) sc_grown.nd rfl (.inr rfl) (pe_op op_subM (pe_bitsN (pv 2)) (pe_nat 1)))
    (pss_one (ps_ret (pe_callB cr_sortedN (by rfl) (b_sorted T) bb_sorted (pa_cons (pe_op op_cat (pe_lc (own := [("row", 4)]) (g := gName 4) rfl sc_grown.nd (pi_seq (pv 0)) (blkOk_by (own := [("row", 4)]) (N := N_grown) (sc := defScope st_grown) (by decide +kernel)) (fun _ _ _ _ _ => pg_name (i := 4) sc_grown.nd rfl (Or.inl rfl)) (fun _ _ _ _ _ => pts_nil) (fun _ _ _ _ _ => (pe_ifExp (pt_cmpR op_eqM (pe_op op_andM' (pe_op op_shrM (pv 4) (pv 3)) (pe_nat 1)) (pe_nat 1) (nomark _)) (pe_op op_xorM (pv 4) (pv 2)) (pv 4)))) (pe_lst (pa_cons (pv 2) pa_nil))) pa_nil))))))), ?_⟩
  refine ⟨_, rfl, _, rfl, _, _, rfl, p, true, _, _, rfl, rfl, hq, hR.pos, fun H1 e1 => ?_⟩
  have hq1 : SqL K H1 p (wl rows) := e1.seq hq
  refine ⟨_, rfl, _, _, rfl, rfl, _, rfl, ite2 (fun h0 => ?_) (fun h0 => ?_)⟩
  · have h0 := of_decide_eq_true h0
    exact ⟨_, rfl, p, true, _, rfl, hq1, fun l hl => q l _ rows (e1.new' hl) (e1.free hl) upd_same (grown_zero hR h0)⟩
  · have h0 : clr rows n ≠ 0 := fun z => h0 (decide_eq_true z)
    refine ⟨_, rfl, _, rfl, _, _, rfl, rfl, by rw [bl_pos h0]; omega, ?_⟩
    rw [bl_pos h0]
    dsimp only
    rw [Nat.add_sub_cancel]
    refine ⟨_, rfl, p, rfl, lc_natM (k := true) (ws := rows) (fun row => if row.testBit (top (clr rows n)) then row ^^^ clr rows n else row) hq1 (by omega) (fun i r H2 Nx No hi e2 hN => ⟨rfl, ?_⟩) (fun D H2 hD e2 hd => ?_)⟩
    · refine ⟨_, rfl, _, rfl, _, _, rfl, rfl, _, _, rfl, rfl, _, _, rfl, rfl, _, rfl, ?_⟩
      have hN := hN H2 (Same.refl _)
      rw [bit_and]
      refine ite2 (fun hb => ?_) (fun hb => ?_)
      · rw [if_pos hb] at hN
        exact ⟨_, rfl, _, rfl, _, _, rfl, rfl, hN⟩
      · rw [if_neg hb] at hN
        exact ⟨_, rfl, hN⟩
    · refine ⟨_, rfl, by show 1 ≤ sizeLine; decide, fun l2 hl2 => ?_⟩
      refine ⟨_, _, _, _, rfl, rfl, (by rw [upd_ne (ne_of_none hd hl2)]; exact hd), upd_same, by simp only [List.length_map, List.length_cons, List.length_nil]; exact Nat.le_of_lt (small1000 (by omega)), fun l3 hl3 => ?_⟩
      have e3 : Same H (upd (upd H2 l2 (.lst [nV (clr rows n)])) l3 (.lst (wl (rows.map fun row => if row.testBit (top (clr rows n)) then row ^^^ clr rows n else row) ++ [nV (clr rows n)]))) := ((e1.trans e2).new' hl2).new' hl3
      refine ⟨l3, rows.map (fun row => if row.testBit (top (clr rows n)) then row ^^^ clr rows n else row) ++ [clr rows n], rfl, SqL.of (by rw [upd_same, wl_snoc]), fun ws' l4 hp hs hl4 => ?_⟩
      exact q l4 _ ws' (e3.new' hl4) (e3.free hl4) upd_same (grown_red hR h0 hp hs)
abbrev sp_spanned (K : PySem.W.Frag) : L2.Sp := S1 fun a H Q _ => ∃ p k ws, a = .ref p ∧ Sq K k H p (wl ws) ∧ ws.length ≤ 400 ∧ ∀ l H' rows, Same H H' → H l = none → H' l = some (.lst (wl rows)) → RowsOf ws rows → Q (.ref l) H'
theorem ok_spanned (T : Tx P K mg) : Has P w K mg base 3 "spanned" ["words"] (sp_spanned K) := by
  refine ⟨g_spanned T, ok1 (F_spanned T) sc_spanned fun cdv A outer s H a Q E hr h => ?_⟩
  obtain ⟨p, k, ws, rfl, hq, hz, q⟩ := h
  refine ⟨_, (pss_cons (ps_set (i := 1) sc_spanned.nd rfl (.inl rfl) (pe_lst pa_nil))
    (pss_cons (ps_for (passes_of rfl) rfl (pi_seq (pv 0)) (pg_name (i := 2) sc_spanned.nd rfl (.inl rfl)) (pss_one (ps_set (i := 1) sc_spanned.nd rfl (.inl rfl) (pe_h (ok_grown (K := K) T) (hr.mono (by decide)) passL (pa_cons (pv 1) (pa_cons (pv 2) pa_nil))))))
    (pss_one (ps_ret (pv 1))))), ?_⟩
  refine ⟨Nat.zero_le _, fun l hl => ?_⟩
  refine ⟨_, rfl, p, rfl, for_sq (k := k) (xs := wl ws) (Pv := fun i σ H' => Same H H' ∧ ∃ l rows x, σ = [some (.ref p), some (.ref l), x] ∧ H l = none ∧ H' l = some (.lst (wl rows)) ∧ RowsOf (ws.take i) rows) ⟨Same.new hl, l, [], none, rfl, hl, upd_same, rowsOf_nil⟩ (fun i σ H' h => h.1.sq hq) (fun i x σ H' hx h => ?_) (fun σ H' h => ?_)⟩
  · obtain ⟨e, l1, rows, x0, rfl, hl1, hr1, hR⟩ := h
    obtain ⟨v, hv, rfl⟩ := wl_of hx
    have hlen : rows.length ≤ 500 := by
      rw [hR.len]
      exact Nat.le_trans (rk_le_len _) (by rw [List.length_take]; omega)
    refine ⟨_, rfl, _, rfl, _, _, rfl, l1, rows, v, rfl, rfl, SqL.of hr1, hR.1, hlen, fun l2 H2 rows2 e2 hl2 hr2 hR2 => ⟨e.trans e2, l2, rows2, some (nV v), rfl, e.free hl2, hr2, ?_⟩⟩
    rw [List.take_add_one, hv]
    exact rowsOf_step hR hR2
  · obtain ⟨e, l1, rows, x0, rfl, hl1, hr1, hR⟩ := h
    rw [show (wl ws).length = ws.length from List.length_map .., List.take_length] at hR
    exact ⟨_, rfl, q l1 H' rows e hl1 hr1 hR⟩
abbrev sp_image_of (K : PySem.W.Frag) : L2.Sp := S2 fun a b H Q _ => ∃ p k cs n, a = .ref p ∧ b = nV n ∧ Sq K k H p (wl cs) ∧ n < 2 ^ cs.length ∧ n ≤ 1000 ∧ ∀ H', Same H H' → Q (nV (img cs n)) H'
theorem ok_image_of (T : Tx P K mg) : Has P w K mg base 4 "image_of" ["columns", "word"] (sp_image_of K) := by
  refine ⟨g_image_of T, ok2 (F_image_of T) sc_image_of fun cdv A outer s H a b Q E hr h => ?_⟩
  obtain ⟨p, k, cs, n, rfl, rfl, hq, hn, hz, q⟩ := h
  refine ⟨_, (pss_cons (ps_set (i := 2) sc_image_of.nd rfl (.inl rfl) (pe_nat 0))
    (pss_cons (ps_for (passes_of rfl) rfl (pi_seq (pe_h (ok_ones (K := K) T) (hr.mono (by decide)) passL (pa_cons (pv 1) pa_nil))) (pg_name (i := 3) sc_image_of.nd rfl (.inl rfl)) (pss_one (ps_set (i := 2) sc_image_of.nd rfl (.inl rfl) (pe_op op_xorM (pv 2) (pe_ix (ix_sq K) (pv 0) (pv 3) (fun _ _ => rfl))))))
    (pss_one (ps_ret (pv 2))))), ?_⟩
  refine ⟨_, rfl, _, rfl, n, rfl, hz, fun t H1 bs e1 ht hbs hbits => ?_⟩
  have hb : ∀ b ∈ bs, b < cs.length := fun b hb => by
    have h1 := hbits b hb
    refine Nat.lt_of_not_le fun h2 => ?_
    rw [Nat.testBit_lt_two_pow (Nat.lt_of_lt_of_le hn (Nat.pow_le_pow_right (by decide) h2))] at h1
    cases h1
  have hat : ∀ b ∈ bs, cs[b]? = some (cs.getD b 0) := fun b hb' => by
    rw [List.getD_eq_getElem?_getD, List.getElem?_eq_getElem (hb b hb')]; rfl
  have hfin : img cs n = bs.foldl (fun t b => t ^^^ cs.getD b 0) 0 := by
    rw [← hbs]
    exact img_bsum (img_zero cs) hat
  refine ⟨t, rfl, for_sq (k := false) (xs := wl bs) (Pv := fun i σ H' => Same H1 H' ∧ ∃ x, σ = [some (.ref p), some (nV n), some (nV ((bs.take i).foldl (fun t b => t ^^^ cs.getD b 0) 0)), x]) ⟨Same.refl _, none, rfl⟩ (fun i σ H' h => h.1.sq (k := false) ht) (fun i x σ H' hx h => ?_) (fun σ H' h => ?_)⟩
  · obtain ⟨e, x0, rfl⟩ := h
    obtain ⟨b, hb', rfl⟩ := wl_of hx
    refine ⟨_, rfl, _, rfl, _, rfl, p, k, _, b, _, rfl, rfl, (e1.trans e).sq hq, wl_get (hat b (List.mem_of_getElem? hb')), _, _, rfl, rfl, e, some (nV b), ?_⟩
    rw [List.take_add_one, hb', List.foldl_append]
    rfl
  · obtain ⟨e, x0, rfl⟩ := h
    refine ⟨_, rfl, ?_⟩
    rw [show (wl bs).length = bs.length from List.length_map .., List.take_length, ← hfin]
    exact q _ (e1.trans e)
/-- kernel columns: short, below 2^64 -/
structure Cols (K : PySem.W.Frag) (k : Bool) (H : Hp) (p : Addr) (cs : List Nat) : Prop where
  at_ : Sq K k H p (wl cs)
  len : cs.length ≤ 100
  lt : Lt 64 cs
abbrev sp_paired (K : PySem.W.Frag) : L2.Sp := S1 fun a H Q _ => ∃ p k cs, a = .ref p ∧ Cols K k H p cs ∧ ∀ l H' rows, Same H H' → H l = none → H' l = some (.lst (wl rows)) → RowsOf (pcol cs) rows → Q (.ref l) H'
theorem pcol_eq (cs : List Nat) : (List.range cs.length).map (fun i => cs.getD i 0 * 2 ^ cs.length + 1 * 2 ^ i) = pcol cs := by
  unfold pcol units
  rw [List.map_map]
  refine List.map_congr_left fun i hi => ?_
  have hi := List.mem_range.mp hi
  show _ = prf cs.length cs (2 ^ i)
  rw [prf_eq (Nat.pow_lt_pow_right (by decide) hi), img_pow (c := cs.getD i 0) (by rw [List.getD_eq_getElem?_getD, List.getElem?_eq_getElem hi]; rfl), Nat.one_mul]
theorem ok_paired (T : Tx P K mg) : Has P w K mg base 4 "paired" ["columns"] (sp_paired K) := by
  refine ⟨g_paired T, ok1 (F_paired T) sc_paired fun cdv A outer s H a Q E hr h => ?_⟩
  obtain ⟨p, k, cs, rfl, ⟨hq, hz, hlt⟩, q⟩ := h
  refine ⟨_, (pss_cons (ps_set (i := 1) sc_paired.nd rfl (.inr rfl) (pe_callB (call_lenM K) (by rfl) (b_len T) bb_len (pa_cons (pv 0) pa_nil)))
    (pss_one (ps_ret (pe_h (ok_spanned (K := K) T) (hr.mono (by decide)) passL (pa_cons (pe_lc (own := [("bit", 2)]) (g := gName 2) rfl sc_paired.nd (pi_range1 (by rfl) (b_range T) (pa_cons (pv 1) pa_nil)) (blkOk_by (own := [("bit", 2)]) (N := N_paired) (sc := defScope st_paired) (by decide +kernel)) (fun _ _ _ _ _ => pg_name (i := 2) sc_paired.nd rfl (Or.inl rfl)) (fun _ _ _ _ _ => pts_nil) (fun _ _ _ _ _ => (pe_op op_addM (pe_op op_shlM (pe_ix (ix_sq K) (pv 0) (pv 2) (fun _ _ => rfl)) (pv 1)) (pe_op op_shlM (pe_nat 1) (pv 2))))) pa_nil))))), ?_⟩
  refine ⟨_, rfl, p, k, _, rfl, hq, ?_⟩
  rw [show (wl cs).length = cs.length from List.length_map ..]
  refine ⟨_, rfl, _, rfl, by omega, by omega, lc_rangeN (n := cs.length) (fun i => cs.getD i 0 * 2 ^ cs.length + 1 * 2 ^ i) (by omega) (fun i H1 Nx No hi e1 hN => ⟨rfl, ?_⟩) (fun D H1 hD e1 hd => ?_)⟩
  · have hc : cs[i]? = some (cs.getD i 0) := by rw [List.getD_eq_getElem?_getD, List.getElem?_eq_getElem hi]; rfl
    exact ⟨_, rfl, _, rfl, p, k, _, i, _, rfl, rfl, e1.sq hq, wl_get hc, _, rfl, _, _, rfl, rfl, ⟨hlt _ (List.mem_of_getElem? hc), by omega⟩, _, rfl, _, _, rfl, rfl, ⟨by decide, by omega⟩, _, _, rfl, rfl, hN _ (Same.refl _)⟩
  · rw [pcol_eq] at hd
    refine ⟨_, rfl, D, true, _, rfl, SqL.of hd, ?_, fun l H2 rows e2 hl hr2 hR => q l H2 rows (e1.trans e2) (e1.free hl) hr2 hR⟩
    unfold pcol units
    simp only [List.length_map, List.length_range]
    omega
abbrev sp_kernel_rows (K : PySem.W.Frag) : L2.Sp := S1 fun a H Q _ => ∃ p k cs, a = .ref p ∧ Cols K k H p cs ∧ ∀ l H' ks, Same H H' → H l = none → H' l = some (.lst (wl ks)) → KerOf cs ks → Q (.ref l) H'
theorem filter_fm {p : Nat → Bool} (l : List Nat) : l.filterMap (fun w => if p w then some w else none) = l.filter p := by
  induction l with
  | nil => rfl
  | cons a l ih =>
    rw [List.filterMap_cons, List.filter_cons]
    cases h : p a <;> simp [ih]
theorem ok_kernel_rows (T : Tx P K mg) : Has P w K mg base 5 "kernel_rows" ["columns"] (sp_kernel_rows K) := by
  refine ⟨g_kernel_rows T, ok1 (F_kernel_rows T) sc_kernel_rows fun cdv A outer s H a Q E hr h => ?_⟩
  obtain ⟨p, k, cs, rfl, hC, q⟩ := h
  refine ⟨_, (pss_one (ps_ret (pe_lc (own := [("row", 1)]) (g := gName 1) rfl sc_kernel_rows.nd (pi_seq (pe_h (ok_paired (K := K) T) (hr.mono (by decide)) passL (pa_cons (pv 0) pa_nil))) (blkOk_by (own := [("row", 1)]) (N := N_kernel_rows) (sc := defScope st_kernel_rows) (by decide +kernel)) (fun _ _ _ _ _ => pg_name (i := 1) sc_kernel_rows.nd rfl (Or.inl rfl)) (fun _ _ _ _ _ => pts_one (pt_cmpR op_leM (pe_bitsN (pv 1)) (pe_callB (call_lenM K) (by rfl) (b_len T) bb_len (pa_cons (pv 0) pa_nil)) (nomark _))) (fun _ _ _ _ _ => (pv 1))))), ?_⟩
  refine ⟨_, rfl, _, rfl, p, k, cs, rfl, hC, fun l H1 rows e1 hl hr1 hR => ⟨l, rfl, ?_⟩⟩
  have hlen : rows.length < 1000 := by
    rw [hR.len]
    refine Nat.lt_of_le_of_lt (rk_le_len _) ?_
    unfold pcol units
    simp only [List.length_map, List.length_range]
    have := hC.len
    omega
  refine lc_nat (k := true) (ws := rows) (fun w => if decide (w < 2 ^ cs.length) then some w else none) (SqL.of hr1) hlen (fun i r H2 Nx No hi e2 hN hO => ⟨rfl, ?_⟩) (fun D H2 hD e2 hd => ?_)
  · refine ⟨_, rfl, _, rfl, _, rfl, p, k, _, rfl, (e1.trans e2).sq hC.at_, _, _, rfl, rfl, _, rfl, ?_⟩
    rw [show (wl cs).length = cs.length from List.length_map ..]
    by_cases hb : r < 2 ^ cs.length
    · rw [decide_eq_true (bl_le.mpr hb)]
      exact iteT ⟨_, rfl, hN _ _ (by rw [decide_eq_true hb]; rfl) (Same.refl _)⟩
    · rw [decide_eq_false fun z => hb (bl_le.mp z)]
      exact iteF (hO (by rw [decide_eq_false hb]; rfl) _ (Same.refl _))
  · rw [filter_fm] at hd
    exact q D H2 _ (e1.trans e2) (e1.free hD) hd (ker_of hR)
abbrev sp_solved (K : PySem.W.Frag) : L2.Sp := S3 fun a b c H Q _ => ∃ p k rows m x, a = .ref p ∧ b = nV m ∧ c = nV x ∧ Sq K k H p (wl rows) ∧ (∀ r ∈ rows, r ≠ 0) ∧ x < 2 ^ 64 ∧ m ≤ 1000 ∧ clr rows (x * 2 ^ m) < 2 ^ m ∧
  ∀ H', Same H H' → Q (nV (clr rows (x * 2 ^ m))) H'
theorem ok_solved (T : Tx P K mg) : Has P w K mg base 2 "solved" ["pairs", "source", "word"] (sp_solved K) := by
  refine ⟨g_solved T, ok3 (F_solved T) sc_solved fun cdv A outer s H a b c Q E hr h => ?_⟩
  obtain ⟨p, k, rows, m, x, rfl, rfl, rfl, hq, h0, hx, hm, hc, q⟩ := h
  refine ⟨_, (pss_cons (ps_set (i := 3) sc_solved.nd rfl (.inl rfl) (pe_h (ok_cleared (K := K) T) (hr.mono (by decide)) passL (pa_cons (pv 0) (pa_cons (pe_op op_shlM (pv 2) (pv 1)) pa_nil))))
    (pss_cons (ps_if (pt_cmpR op_gtM (pe_bitsN (pv 3)) (pv 1) (nomark _)) (pss_one (ps_ret pe_non)) pss_nil)
    (pss_one (ps_ret (pv 3))))), ?_⟩
  refine ⟨_, rfl, _, rfl, _, rfl, _, _, rfl, rfl, ⟨hx, by omega⟩, _, _, rfl, p, k, rows, _, rfl, rfl, hq, h0, fun H1 e1 => ?_⟩
  refine ⟨_, rfl, _, rfl, _, rfl, _, _, rfl, rfl, _, rfl, ?_⟩
  rw [decide_eq_false (Nat.not_lt.mpr (bl_le.mpr hc))]
  exact iteF ⟨_, rfl, q _ e1⟩
abbrev sp_met (K : PySem.W.Frag) : L2.Sp := S3 fun a b c H Q _ => ∃ n p k A p2 k2 B, a = nV n ∧ b = .ref p ∧ c = .ref p2 ∧ Sq K k H p (wl A) ∧ Sq K k2 H p2 (wl B) ∧ n ≤ 50 ∧ A.length ≤ 100 ∧ B.length ≤ 100 ∧ Lt n A ∧ Lt n B ∧
  ∀ l H' ms, Same H H' → H l = none → H' l = some (.lst (wl ms)) → Red ms → (∀ x, Spn ms x ↔ Spn A x ∧ Spn B x) → Q (.ref l) H'
theorem ok_met (T : Tx P K mg) : Has P w K mg base 4 "met" ["bits", "rows", "others"] (sp_met K) := by
  refine ⟨g_met T, ok3 (F_met T) sc_met fun cdv A outer s H a b c Q E hr h => ?_⟩
  obtain ⟨n, p, k, As, p2, k2, Bs, rfl, rfl, rfl, hA, hB, hn, zA, zB, lA, lB, q⟩ := h
  refine ⟨_, (pss_cons (ps_set (i := 3) sc_met.nd rfl (.inl rfl) (pe_op op_cat (pe_lc (own := [("row", 4)]) (g := gName 4) rfl sc_met.nd (pi_seq (pv 1)) (blkOk_by (own := [("row", 4)]) (N := N_met) (sc := defScope st_met) (by decide +kernel)) (fun _ _ _ _ _ => pg_name (i := 4) sc_met.nd rfl (Or.inl rfl)) (fun _ _ _ _ _ => pts_nil) (fun _ _ _ _ _ => (pe_op op_addM (pe_op op_shlM (pv 4) (pv 0)) (pv 4)))) (pe_lc (own := [("row", 4)]) (g := gName 4) rfl sc_met.nd (pi_seq (pv 2)) (blkOk_by (own := [("row", 4)]) (N := N_met) (sc := defScope st_met) (by decide +kernel)) (fun _ _ _ _ _ => pg_name (i := 4) sc_met.nd rfl (Or.inl rfl)) (fun _ _ _ _ _ => pts_nil) (fun _ _ _ _ _ => (pe_op op_shlM (pv 4) (pv 0))))))
    (pss_one (ps_ret (pe_lc (own := [("row", 4)]) (g := gName 4) rfl sc_met.nd (pi_seq (pe_h (ok_spanned (K := K) T) (hr.mono (by decide)) passL (pa_cons (pv 3) pa_nil))) (blkOk_by (own := [("row", 4)]) (N := N_met) (sc := defScope st_met) (by decide +kernel)) (fun _ _ _ _ _ => pg_name (i := 4) sc_met.nd rfl (Or.inl rfl)) (fun _ _ _ _ _ => pts_one (pt_cmpR op_leM (pe_bitsN (pv 4)) (pv 0) (nomark _))) (fun _ _ _ _ _ => (pv 4)))))), ?_⟩
  have lt64 : ∀ {x : Nat}, x < 2 ^ n → x < 2 ^ 64 := fun h => Nat.lt_of_lt_of_le h (Nat.pow_le_pow_right (by decide) (by omega))
  refine ⟨_, rfl, p, rfl, lc_natM (k := k) (ws := As) (fun r => r * 2 ^ n + r) hA (by omega) (fun i r H1 Nx No hi e1 hN => ⟨rfl, ?_⟩) (fun D H1 hD e1 hd => ?_)⟩
  · exact ⟨_, rfl, _, rfl, _, _, rfl, rfl, ⟨lt64 (lA _ (List.mem_of_getElem? hi)), by omega⟩, _, rfl, _, _, rfl, rfl, hN _ (Same.refl _)⟩
  · refine ⟨_, rfl, p2, rfl, lc_natM (k := k2) (ws := Bs) (fun r => r * 2 ^ n) (e1.sq hB) (by omega) (fun i r H2 Nx No hi e2 hN => ⟨rfl, ?_⟩) (fun D2 H2 hD2 e2 hd2 => ?_)⟩
    · exact ⟨_, rfl, _, rfl, _, _, rfl, rfl, ⟨lt64 (lB _ (List.mem_of_getElem? hi)), by omega⟩, hN _ (Same.refl _)⟩
    · refine ⟨D, D2, _, _, rfl, rfl, e2 _ _ hd, hd2, by simp only [List.length_map]; exact Nat.le_of_lt (small1000 (by omega)), fun l3 hl3 => ?_⟩
      have e3 := (e1.trans e2).new' (o := .lst (wl (As.map fun r => r * 2 ^ n + r) ++ wl (Bs.map fun r => r * 2 ^ n))) hl3
      refine ⟨_, rfl, _, rfl, l3, true, L2.Lk.both n As Bs, rfl, SqL.of (by rw [upd_same]; unfold L2.Lk.both; rw [wl_append]), by unfold L2.Lk.both; simp only [List.length_append, List.length_map]; omega, fun l4 H4 rows e4 hl4 hr4 hR => ⟨l4, rfl, ?_⟩⟩
      have hlen : rows.length < 1000 := by
        rw [hR.len]
        refine Nat.lt_of_le_of_lt (rk_le_len _) ?_
        unfold L2.Lk.both
        simp only [List.length_append, List.length_map]
        omega
      refine lc_nat (k := true) (ws := rows) (fun w => if decide (w < 2 ^ n) then some w else none) (SqL.of hr4) hlen (fun i r H2 Nx No hi e2 hN hO => ⟨rfl, ?_⟩) (fun D5 H5 hD5 e5 hd5 => ?_)
      · refine ⟨_, rfl, _, rfl, _, rfl, _, _, rfl, rfl, _, rfl, ?_⟩
        by_cases hb : r < 2 ^ n
        · rw [decide_eq_true (bl_le.mpr hb)]
          exact iteT ⟨_, rfl, hN _ _ (by rw [decide_eq_true hb]; rfl) (Same.refl _)⟩
        · rw [decide_eq_false fun z => hb (bl_le.mp z)]
          exact iteF (hO (by rw [decide_eq_false hb]; rfl) _ (Same.refl _))
      · rw [filter_fm] at hd5
        have hm := meet_of lA hR
        exact q D5 H5 _ ((e3.trans e4).trans e5) ((e3.trans e4).free hD5) hd5 hm.1 hm.2
end
end L2.Lk
/-! Cls -/
set_option Elab.async false
set_option linter.all false
set_option maxRecDepth 100000
set_option maxHeartbeats 2000000
namespace L2.Lk
open PySem PySem.Spec PyProof.Rows
/-! ### frames: all but L stays -/
def Sx (L : List Addr) (H H' : Hp) : Prop := ∀ b o, b ∉ L → H b = some o → H' b = some o
section
variable {L : List Addr} {H H1 H2 : Hp} {x p : Addr} {o : HO}
theorem Sx.refl : Sx L H H := fun _ _ _ h => h
theorem Sx.trans (a : Sx L H H1) (b : Sx L H1 H2) : Sx L H H2 := fun c u n h => b c u n (a c u n h)
theorem Sx.then (a : Sx L H H1) (b : Same H1 H2) : Sx L H H2 := fun c u n h => b c u (a c u n h)
theorem _root_.L2.Same.sx (a : Same H H1) : Sx L H H1 := fun c u _ h => a c u h
theorem Sx.upd (a : Sx L H H1) (h : x ∈ L) : Sx L H (L2.upd H1 x o) := fun c u n e => by
  rw [upd_ne (show c ≠ x from fun z => n (by rw [z]; exact h))]
  exact a c u n e
theorem Sx.new (a : Sx L H H1) (h : H1 p = none) : Sx L H (L2.upd H1 p o) := fun c u n e => by
  rw [upd_ne (ne_of_none (a c u n e) h)]
  exact a c u n e
theorem Sx.mono {L' : List Addr} (a : Sx L H H1) (h : ∀ b ∈ L, b ∈ L') : Sx L' H H1 := fun c u n e => a c u (fun z => n (h c z)) e
/-- an instance's new attributes: tuples stay -/
theorem Sx.tup {K : PySem.W.Frag} {a C dx : Addr} {fs : List (Str × V)} {xs : List V} (e : Sx [x] H H1) (hx : H x = some (.ins C dx fs)) (h : SqT K H a xs) : SqT K H1 a xs := by
  have ne : ∀ {o}, H a = some o → (∀ C dx fs, o ≠ .ins C dx fs) → a ∉ [x] := fun ha hn z => by
    rw [List.mem_singleton.mp z, hx] at ha
    exact hn _ _ _ (Option.some.inj ha).symm
  rcases h with (h | ⟨o, h⟩) | h
  · exact .inl (.inl (e _ _ (ne h fun _ _ _ z => by cases z) h))
  · exact .inl (.inr ⟨o, e _ _ (ne h fun _ _ _ z => by cases z) h⟩)
  · exact .inr h
theorem Sx.seq {K : PySem.W.Frag} {a C dx : Addr} {fs : List (Str × V)} {xs : List V} (e : Sx [x] H H1) (hx : H x = some (.ins C dx fs)) (h : SqL K H a xs) : SqL K H1 a xs := by
  have ne : ∀ {o}, H a = some o → (∀ C dx fs, o ≠ .ins C dx fs) → a ∉ [x] := fun ha hn z => by
    rw [List.mem_singleton.mp z, hx] at ha
    exact hn _ _ _ (Option.some.inj ha).symm
  rcases h with (h | ⟨o, h⟩) | h
  · exact .inl (.inl (e _ _ (ne h fun _ _ _ z => by cases z) h))
  · exact .inl (.inr ⟨o, e _ _ (ne h fun _ _ _ z => by cases z) h⟩)
  · exact .inr h
theorem Sx.sq {K : PySem.W.Frag} {k : Bool} {a C dx : Addr} {fs : List (Str × V)} {xs : List V} (e : Sx [x] H H1) (hx : H x = some (.ins C dx fs)) (h : Sq K k H a xs) : Sq K k H1 a xs := by
  cases k with
  | true => exact Sx.seq e hx h
  | false => exact Sx.tup e hx h
end
/-- a new instance is made: what stood stands -/
theorem made_same {H H2 : Hp} {x dx C : Addr} (nx : H x = none) (nd : H dx = none) (e : Sx [x] (upd (upd H dx (.own x)) x (.ins C dx [])) H2) : Same H H2 := fun b o h => by
  have h1 : b ≠ x := ne_of_none h nx
  refine e b o (fun z => h1 (List.mem_singleton.mp z)) ?_
  rw [upd_ne h1, upd_ne (ne_of_none h nd)]
  exact h
theorem pl0 : ([] : List (Str × V)).length < 1000 := by decide
theorem pl1 {f : Str} {v : V} : (putF f v []).length < 1000 := Nat.lt_of_le_of_lt (length_putF _ _ _) (by decide)
theorem pl2 {f g : Str} {v u : V} : (putF g u (putF f v [])).length < 1000 := Nat.lt_of_le_of_lt (length_putF _ _ _) (Nat.lt_of_le_of_lt (Nat.add_le_add_right (length_putF _ _ _) 1) (by decide))
theorem pl3 {f g h : Str} {v u t : V} : (putF h t (putF g u (putF f v []))).length < 1000 :=
  Nat.lt_of_le_of_lt (length_putF _ _ _) (Nat.lt_of_le_of_lt (Nat.add_le_add_right (Nat.le_trans (length_putF _ _ _) (Nat.add_le_add_right (length_putF _ _ _) 1)) 1) (by decide))

def fSpace (v0 v1 v2 : V) : List (Str × V) := (putF "dimension" v2 (putF "rows" v1 (putF "bits" v0 [])))
theorem lk_Space_bits (v0 v1 v2 : V) : (fSpace v0 v1 v2).lookup ("bits" : Str) = some v0 := by unfold fSpace; simp only [lookup_putF]; rfl
theorem lk_Space_rows (v0 v1 v2 : V) : (fSpace v0 v1 v2).lookup ("rows" : Str) = some v1 := by unfold fSpace; simp only [lookup_putF]; rfl
theorem lk_Space_dimension (v0 v1 v2 : V) : (fSpace v0 v1 v2).lookup ("dimension" : Str) = some v2 := by unfold fSpace; simp only [lookup_putF]; rfl
theorem lk_Space_no (v0 v1 v2 : V) {x : Str} (h : x ∉ (["bits", "rows", "dimension"] : List Str)) : (fSpace v0 v1 v2).lookup x = none := by
  unfold fSpace; simp only [lookup_putF]
  simp only [List.mem_cons, List.not_mem_nil, or_false, not_or] at h
  simp [h]
def fMap (v0 v1 v2 : V) : List (Str × V) := (putF "source" v2 (putF "columns" v1 (putF "goal" v0 [])))
theorem lk_Map_goal (v0 v1 v2 : V) : (fMap v0 v1 v2).lookup ("goal" : Str) = some v0 := by unfold fMap; simp only [lookup_putF]; rfl
theorem lk_Map_columns (v0 v1 v2 : V) : (fMap v0 v1 v2).lookup ("columns" : Str) = some v1 := by unfold fMap; simp only [lookup_putF]; rfl
theorem lk_Map_source (v0 v1 v2 : V) : (fMap v0 v1 v2).lookup ("source" : Str) = some v2 := by unfold fMap; simp only [lookup_putF]; rfl
theorem lk_Map_no (v0 v1 v2 : V) {x : Str} (h : x ∉ (["goal", "columns", "source"] : List Str)) : (fMap v0 v1 v2).lookup x = none := by
  unfold fMap; simp only [lookup_putF]
  simp only [List.mem_cons, List.not_mem_nil, or_false, not_or] at h
  simp [h]
def fSpread (v0 v1 v2 : V) : List (Str × V) := (putF "lanes" v2 (putF "slots" v1 (putF "bits" v0 [])))
theorem lk_Spread_bits (v0 v1 v2 : V) : (fSpread v0 v1 v2).lookup ("bits" : Str) = some v0 := by unfold fSpread; simp only [lookup_putF]; rfl
theorem lk_Spread_slots (v0 v1 v2 : V) : (fSpread v0 v1 v2).lookup ("slots" : Str) = some v1 := by unfold fSpread; simp only [lookup_putF]; rfl
theorem lk_Spread_lanes (v0 v1 v2 : V) : (fSpread v0 v1 v2).lookup ("lanes" : Str) = some v2 := by unfold fSpread; simp only [lookup_putF]; rfl
theorem lk_Spread_no (v0 v1 v2 : V) {x : Str} (h : x ∉ (["bits", "slots", "lanes"] : List Str)) : (fSpread v0 v1 v2).lookup x = none := by
  unfold fSpread; simp only [lookup_putF]
  simp only [List.mem_cons, List.not_mem_nil, or_false, not_or] at h
  simp [h]
def fStore (v0 v1 v2 : V) : List (Str × V) := (putF "own_back" v2 (putF "banks" v1 (putF "change" v0 [])))
theorem lk_Store_change (v0 v1 v2 : V) : (fStore v0 v1 v2).lookup ("change" : Str) = some v0 := by unfold fStore; simp only [lookup_putF]; rfl
theorem lk_Store_banks (v0 v1 v2 : V) : (fStore v0 v1 v2).lookup ("banks" : Str) = some v1 := by unfold fStore; simp only [lookup_putF]; rfl
theorem lk_Store_own_back (v0 v1 v2 : V) : (fStore v0 v1 v2).lookup ("own_back" : Str) = some v2 := by unfold fStore; simp only [lookup_putF]; rfl
theorem lk_Store_no (v0 v1 v2 : V) {x : Str} (h : x ∉ (["change", "banks", "own_back"] : List Str)) : (fStore v0 v1 v2).lookup x = none := by
  unfold fStore; simp only [lookup_putF]
  simp only [List.mem_cons, List.not_mem_nil, or_false, not_or] at h
  simp [h]
def fDesk (v0 v1 v2 v3 : V) : List (Str × V) := (putF "own_depth" v3 (putF "own_past" v2 (putF "own_given" v1 (putF "own_things" v0 []))))
theorem lk_Desk_own_things (v0 v1 v2 v3 : V) : (fDesk v0 v1 v2 v3).lookup ("own_things" : Str) = some v0 := by unfold fDesk; simp only [lookup_putF]; rfl
theorem lk_Desk_own_given (v0 v1 v2 v3 : V) : (fDesk v0 v1 v2 v3).lookup ("own_given" : Str) = some v1 := by unfold fDesk; simp only [lookup_putF]; rfl
theorem lk_Desk_own_past (v0 v1 v2 v3 : V) : (fDesk v0 v1 v2 v3).lookup ("own_past" : Str) = some v2 := by unfold fDesk; simp only [lookup_putF]; rfl
theorem lk_Desk_own_depth (v0 v1 v2 v3 : V) : (fDesk v0 v1 v2 v3).lookup ("own_depth" : Str) = some v3 := by unfold fDesk; simp only [lookup_putF]; rfl
theorem lk_Desk_no (v0 v1 v2 v3 : V) {x : Str} (h : x ∉ (["own_things", "own_given", "own_past", "own_depth"] : List Str)) : (fDesk v0 v1 v2 v3).lookup x = none := by
  unfold fDesk; simp only [lookup_putF]
  simp only [List.mem_cons, List.not_mem_nil, or_false, not_or] at h
  simp [h]
/-- at a an instance of Space -/
def SpaceAt (K : PySem.W.Frag) (H : Hp) (a : Addr) (n : Nat) (rows : List Nat) : Prop := ∃ (dx x1 : Addr), H a = some (.ins (cSpace K) dx (fSpace (nV n) (.ref x1) (nV rows.length))) ∧ SqT K H x1 (wl rows)
section
variable {P : Program} {K : PySem.W.Frag} {mg : Str → Option Value} {H H' : Hp} {a : Addr} {n : Nat} {rows : List Nat}
theorem SpaceAt.same (e : Same H H') (h : SpaceAt K H a n rows) : SpaceAt K H' a n rows := by
  obtain ⟨dx, x1, h1, t0⟩ := h
  exact ⟨dx, x1, e _ _ h1, e.tup t0⟩
theorem ty_Space (T : Tx P K mg) (h : SpaceAt K H a n rows) : TyX K H (.ref a) (.ref (cSpace K)) := by
  obtain ⟨dx, x1, h1, _⟩ := h
  have w := own_Space T
  exact .base (.ins h1 w.cls w.ha w.hn w.htk w.hm)
theorem at_Space_bits (T : Tx P K mg) (h : SpaceAt K H a n rows) {Q : V → Prop} (q : Q (nV n)) : ∃ b C dx fs v, V.ref a = .ref b ∧ H b = some (.ins C dx fs) ∧ Cls K C ∧ NoAttr K C "bits" ∧ fs.lookup ("bits" : Str) = some v ∧ Q v := by
  obtain ⟨dx, x1, h1, t0⟩ := h
  exact ⟨_, _, _, _, _, rfl, h1, (own_Space T).cls, na_Space_bits T, lk_Space_bits _ _ _, q⟩
theorem at_Space_rows (T : Tx P K mg) (h : SpaceAt K H a n rows) {Q : V → Prop} (q : ∀ r, SqT K H r (wl rows) → Q (.ref r)) : ∃ b C dx fs v, V.ref a = .ref b ∧ H b = some (.ins C dx fs) ∧ Cls K C ∧ NoAttr K C "rows" ∧ fs.lookup ("rows" : Str) = some v ∧ Q v := by
  obtain ⟨dx, x1, h1, t0⟩ := h
  exact ⟨_, _, _, _, _, rfl, h1, (own_Space T).cls, na_Space_rows T, lk_Space_rows _ _ _, q _ t0⟩
theorem at_Space_dimension (T : Tx P K mg) (h : SpaceAt K H a n rows) {Q : V → Prop} (q : Q (nV rows.length)) : ∃ b C dx fs v, V.ref a = .ref b ∧ H b = some (.ins C dx fs) ∧ Cls K C ∧ NoAttr K C "dimension" ∧ fs.lookup ("dimension" : Str) = some v ∧ Q v := by
  obtain ⟨dx, x1, h1, t0⟩ := h
  exact ⟨_, _, _, _, _, rfl, h1, (own_Space T).cls, na_Space_dimension T, lk_Space_dimension _ _ _, q⟩
end
/-- at a an instance of Map -/
def MapAt (K : PySem.W.Frag) (H : Hp) (a : Addr) (m : Nat) (cs : List Nat) : Prop := ∃ (dx x1 : Addr), H a = some (.ins (cMap K) dx (fMap (nV m) (.ref x1) (nV cs.length))) ∧ SqT K H x1 (wl cs)
section
variable {P : Program} {K : PySem.W.Frag} {mg : Str → Option Value} {H H' : Hp} {a : Addr} {m : Nat} {cs : List Nat}
theorem MapAt.same (e : Same H H') (h : MapAt K H a m cs) : MapAt K H' a m cs := by
  obtain ⟨dx, x1, h1, t0⟩ := h
  exact ⟨dx, x1, e _ _ h1, e.tup t0⟩
theorem ty_Map (T : Tx P K mg) (h : MapAt K H a m cs) : TyX K H (.ref a) (.ref (cMap K)) := by
  obtain ⟨dx, x1, h1, _⟩ := h
  have w := own_Map T
  exact .base (.ins h1 w.cls w.ha w.hn w.htk w.hm)
theorem at_Map_goal (T : Tx P K mg) (h : MapAt K H a m cs) {Q : V → Prop} (q : Q (nV m)) : ∃ b C dx fs v, V.ref a = .ref b ∧ H b = some (.ins C dx fs) ∧ Cls K C ∧ NoAttr K C "goal" ∧ fs.lookup ("goal" : Str) = some v ∧ Q v := by
  obtain ⟨dx, x1, h1, t0⟩ := h
  exact ⟨_, _, _, _, _, rfl, h1, (own_Map T).cls, na_Map_goal T, lk_Map_goal _ _ _, q⟩
theorem at_Map_columns (T : Tx P K mg) (h : MapAt K H a m cs) {Q : V → Prop} (q : ∀ r, SqT K H r (wl cs) → Q (.ref r)) : ∃ b C dx fs v, V.ref a = .ref b ∧ H b = some (.ins C dx fs) ∧ Cls K C ∧ NoAttr K C "columns" ∧ fs.lookup ("columns" : Str) = some v ∧ Q v := by
  obtain ⟨dx, x1, h1, t0⟩ := h
  exact ⟨_, _, _, _, _, rfl, h1, (own_Map T).cls, na_Map_columns T, lk_Map_columns _ _ _, q _ t0⟩
theorem at_Map_source (T : Tx P K mg) (h : MapAt K H a m cs) {Q : V → Prop} (q : Q (nV cs.length)) : ∃ b C dx fs v, V.ref a = .ref b ∧ H b = some (.ins C dx fs) ∧ Cls K C ∧ NoAttr K C "source" ∧ fs.lookup ("source" : Str) = some v ∧ Q v := by
  obtain ⟨dx, x1, h1, t0⟩ := h
  exact ⟨_, _, _, _, _, rfl, h1, (own_Map T).cls, na_Map_source T, lk_Map_source _ _ _, q⟩
end
/-- at a an instance of Spread -/
def SpreadAt (K : PySem.W.Frag) (H : Hp) (a : Addr) (n : Nat) (s l : List Nat) : Prop := ∃ (dx x1 x2 : Addr), H a = some (.ins (cSpread K) dx (fSpread (nV n) (.ref x1) (.ref x2))) ∧ SqT K H x1 (wl s) ∧ SqT K H x2 (wl l)
section
variable {P : Program} {K : PySem.W.Frag} {mg : Str → Option Value} {H H' : Hp} {a : Addr} {n : Nat} {s l : List Nat}
theorem SpreadAt.same (e : Same H H') (h : SpreadAt K H a n s l) : SpreadAt K H' a n s l := by
  obtain ⟨dx, x1, x2, h1, t0, t1⟩ := h
  exact ⟨dx, x1, x2, e _ _ h1, e.tup t0, e.tup t1⟩
theorem ty_Spread (T : Tx P K mg) (h : SpreadAt K H a n s l) : TyX K H (.ref a) (.ref (cSpread K)) := by
  obtain ⟨dx, x1, x2, h1, _⟩ := h
  have w := own_Spread T
  exact .base (.ins h1 w.cls w.ha w.hn w.htk w.hm)
theorem at_Spread_bits (T : Tx P K mg) (h : SpreadAt K H a n s l) {Q : V → Prop} (q : Q (nV n)) : ∃ b C dx fs v, V.ref a = .ref b ∧ H b = some (.ins C dx fs) ∧ Cls K C ∧ NoAttr K C "bits" ∧ fs.lookup ("bits" : Str) = some v ∧ Q v := by
  obtain ⟨dx, x1, x2, h1, t0, t1⟩ := h
  exact ⟨_, _, _, _, _, rfl, h1, (own_Spread T).cls, na_Spread_bits T, lk_Spread_bits _ _ _, q⟩
theorem at_Spread_slots (T : Tx P K mg) (h : SpreadAt K H a n s l) {Q : V → Prop} (q : ∀ r, SqT K H r (wl s) → Q (.ref r)) : ∃ b C dx fs v, V.ref a = .ref b ∧ H b = some (.ins C dx fs) ∧ Cls K C ∧ NoAttr K C "slots" ∧ fs.lookup ("slots" : Str) = some v ∧ Q v := by
  obtain ⟨dx, x1, x2, h1, t0, t1⟩ := h
  exact ⟨_, _, _, _, _, rfl, h1, (own_Spread T).cls, na_Spread_slots T, lk_Spread_slots _ _ _, q _ t0⟩
theorem at_Spread_lanes (T : Tx P K mg) (h : SpreadAt K H a n s l) {Q : V → Prop} (q : ∀ r, SqT K H r (wl l) → Q (.ref r)) : ∃ b C dx fs v, V.ref a = .ref b ∧ H b = some (.ins C dx fs) ∧ Cls K C ∧ NoAttr K C "lanes" ∧ fs.lookup ("lanes" : Str) = some v ∧ Q v := by
  obtain ⟨dx, x1, x2, h1, t0, t1⟩ := h
  exact ⟨_, _, _, _, _, rfl, h1, (own_Spread T).cls, na_Spread_lanes T, lk_Spread_lanes _ _ _, q _ t1⟩
end
section
variable {P : Program} {K : PySem.W.Frag} {mg : Str → Option Value}
theorem kit_NoneType_Space (T : Tx P K mg) : PySem.W.kitOne K (.type "NoneType") (.ref (cSpace K)) = some false := T.kit 0 _ _ _ rfl
theorem kit_NoneType_Map (T : Tx P K mg) : PySem.W.kitOne K (.type "NoneType") (.ref (cMap K)) = some false := T.kit 1 _ _ _ rfl
theorem kit_NoneType_Spread (T : Tx P K mg) : PySem.W.kitOne K (.type "NoneType") (.ref (cSpread K)) = some false := T.kit 2 _ _ _ rfl
theorem kit_NoneType_Store (T : Tx P K mg) : PySem.W.kitOne K (.type "NoneType") (.ref (cStore K)) = some false := T.kit 3 _ _ _ rfl
theorem kit_int_Space (T : Tx P K mg) : PySem.W.kitOne K (.type "int") (.ref (cSpace K)) = some false := T.kit 4 _ _ _ rfl
theorem kit_int_Map (T : Tx P K mg) : PySem.W.kitOne K (.type "int") (.ref (cMap K)) = some false := T.kit 5 _ _ _ rfl
theorem kit_int_Spread (T : Tx P K mg) : PySem.W.kitOne K (.type "int") (.ref (cSpread K)) = some false := T.kit 6 _ _ _ rfl
theorem kit_int_Store (T : Tx P K mg) : PySem.W.kitOne K (.type "int") (.ref (cStore K)) = some false := T.kit 7 _ _ _ rfl
theorem kit_str_Space (T : Tx P K mg) : PySem.W.kitOne K (.type "str") (.ref (cSpace K)) = some false := T.kit 8 _ _ _ rfl
theorem kit_str_Map (T : Tx P K mg) : PySem.W.kitOne K (.type "str") (.ref (cMap K)) = some false := T.kit 9 _ _ _ rfl
theorem kit_str_Spread (T : Tx P K mg) : PySem.W.kitOne K (.type "str") (.ref (cSpread K)) = some false := T.kit 10 _ _ _ rfl
theorem kit_str_Store (T : Tx P K mg) : PySem.W.kitOne K (.type "str") (.ref (cStore K)) = some false := T.kit 11 _ _ _ rfl
theorem kit_tuple_Space (T : Tx P K mg) : PySem.W.kitOne K (.type "tuple") (.ref (cSpace K)) = some false := T.kit 12 _ _ _ rfl
theorem kit_tuple_Map (T : Tx P K mg) : PySem.W.kitOne K (.type "tuple") (.ref (cMap K)) = some false := T.kit 13 _ _ _ rfl
theorem kit_tuple_Spread (T : Tx P K mg) : PySem.W.kitOne K (.type "tuple") (.ref (cSpread K)) = some false := T.kit 14 _ _ _ rfl
theorem kit_tuple_Store (T : Tx P K mg) : PySem.W.kitOne K (.type "tuple") (.ref (cStore K)) = some false := T.kit 15 _ _ _ rfl
theorem kit_list_Space (T : Tx P K mg) : PySem.W.kitOne K (.type "list") (.ref (cSpace K)) = some false := T.kit 16 _ _ _ rfl
theorem kit_list_Map (T : Tx P K mg) : PySem.W.kitOne K (.type "list") (.ref (cMap K)) = some false := T.kit 17 _ _ _ rfl
theorem kit_list_Spread (T : Tx P K mg) : PySem.W.kitOne K (.type "list") (.ref (cSpread K)) = some false := T.kit 18 _ _ _ rfl
theorem kit_list_Store (T : Tx P K mg) : PySem.W.kitOne K (.type "list") (.ref (cStore K)) = some false := T.kit 19 _ _ _ rfl
theorem kit_Space_Space (T : Tx P K mg) : PySem.W.kitOne K (.ref (cSpace K)) (.ref (cSpace K)) = some true := T.kit 20 _ _ _ rfl
theorem kit_Space_Map (T : Tx P K mg) : PySem.W.kitOne K (.ref (cSpace K)) (.ref (cMap K)) = some false := T.kit 21 _ _ _ rfl
theorem kit_Space_Spread (T : Tx P K mg) : PySem.W.kitOne K (.ref (cSpace K)) (.ref (cSpread K)) = some false := T.kit 22 _ _ _ rfl
theorem kit_Space_Store (T : Tx P K mg) : PySem.W.kitOne K (.ref (cSpace K)) (.ref (cStore K)) = some false := T.kit 23 _ _ _ rfl
theorem kit_Map_Space (T : Tx P K mg) : PySem.W.kitOne K (.ref (cMap K)) (.ref (cSpace K)) = some false := T.kit 24 _ _ _ rfl
theorem kit_Map_Map (T : Tx P K mg) : PySem.W.kitOne K (.ref (cMap K)) (.ref (cMap K)) = some true := T.kit 25 _ _ _ rfl
theorem kit_Map_Spread (T : Tx P K mg) : PySem.W.kitOne K (.ref (cMap K)) (.ref (cSpread K)) = some false := T.kit 26 _ _ _ rfl
theorem kit_Map_Store (T : Tx P K mg) : PySem.W.kitOne K (.ref (cMap K)) (.ref (cStore K)) = some false := T.kit 27 _ _ _ rfl
theorem kit_Spread_Space (T : Tx P K mg) : PySem.W.kitOne K (.ref (cSpread K)) (.ref (cSpace K)) = some false := T.kit 28 _ _ _ rfl
theorem kit_Spread_Map (T : Tx P K mg) : PySem.W.kitOne K (.ref (cSpread K)) (.ref (cMap K)) = some false := T.kit 29 _ _ _ rfl
theorem kit_Spread_Spread (T : Tx P K mg) : PySem.W.kitOne K (.ref (cSpread K)) (.ref (cSpread K)) = some true := T.kit 30 _ _ _ rfl
theorem kit_Spread_Store (T : Tx P K mg) : PySem.W.kitOne K (.ref (cSpread K)) (.ref (cStore K)) = some false := T.kit 31 _ _ _ rfl
theorem kit_Store_Space (T : Tx P K mg) : PySem.W.kitOne K (.ref (cStore K)) (.ref (cSpace K)) = some false := T.kit 32 _ _ _ rfl
theorem kit_Store_Map (T : Tx P K mg) : PySem.W.kitOne K (.ref (cStore K)) (.ref (cMap K)) = some false := T.kit 33 _ _ _ rfl
theorem kit_Store_Spread (T : Tx P K mg) : PySem.W.kitOne K (.ref (cStore K)) (.ref (cSpread K)) = some false := T.kit 34 _ _ _ rfl
theorem kit_Store_Store (T : Tx P K mg) : PySem.W.kitOne K (.ref (cStore K)) (.ref (cStore K)) = some true := T.kit 35 _ _ _ rfl
end
/-- at a an instance of Store -/
def StoreAt (K : PySem.W.Frag) (H : Hp) (a : Addr) (n : Nat) (c : List Nat) (b : Nat) : Prop := ∃ (dx ch bk : Addr), H a = some (.ins (cStore K) dx (fStore (.ref ch) (nV b) (.ref bk))) ∧ MapAt K H ch n c ∧ MapAt K H bk n (lbacks c)
section
variable {P : Program} {K : PySem.W.Frag} {mg : Str → Option Value} {H H' : Hp} {a : Addr} {n b : Nat} {c : List Nat}
theorem StoreAt.same (e : Same H H') (h : StoreAt K H a n c b) : StoreAt K H' a n c b := by
  obtain ⟨dx, ch, bk, h1, h2, h3⟩ := h
  exact ⟨dx, ch, bk, e _ _ h1, h2.same e, h3.same e⟩
theorem ty_Store (T : Tx P K mg) (h : StoreAt K H a n c b) : TyX K H (.ref a) (.ref (cStore K)) := by
  obtain ⟨dx, ch, bk, h1, _⟩ := h
  have w := own_Store T
  exact .base (.ins h1 w.cls w.ha w.hn w.htk w.hm)
theorem at_Store_change (T : Tx P K mg) (h : StoreAt K H a n c b) {Q : V → Prop} (q : ∀ r, MapAt K H r n c → Q (.ref r)) : ∃ b C dx fs v, V.ref a = .ref b ∧ H b = some (.ins C dx fs) ∧ Cls K C ∧ NoAttr K C "change" ∧ fs.lookup ("change" : Str) = some v ∧ Q v := by
  obtain ⟨dx, ch, bk, h1, h2, h3⟩ := h
  exact ⟨_, _, _, _, _, rfl, h1, (own_Store T).cls, na_Store_change T, lk_Store_change _ _ _, q _ h2⟩
theorem at_Store_banks (T : Tx P K mg) (h : StoreAt K H a n c b) {Q : V → Prop} (q : Q (nV b)) : ∃ b C dx fs v, V.ref a = .ref b ∧ H b = some (.ins C dx fs) ∧ Cls K C ∧ NoAttr K C "banks" ∧ fs.lookup ("banks" : Str) = some v ∧ Q v := by
  obtain ⟨dx, ch, bk, h1, h2, h3⟩ := h
  exact ⟨_, _, _, _, _, rfl, h1, (own_Store T).cls, na_Store_banks T, lk_Store_banks _ _ _, q⟩
theorem at_Store_back (T : Tx P K mg) (h : StoreAt K H a n c b) {Q : V → Prop} (q : ∀ r, MapAt K H r n (lbacks c) → Q (.ref r)) : ∃ b C dx fs v, V.ref a = .ref b ∧ H b = some (.ins C dx fs) ∧ Cls K C ∧ NoAttr K C "own_back" ∧ fs.lookup ("own_back" : Str) = some v ∧ Q v := by
  obtain ⟨dx, ch, bk, h1, h2, h3⟩ := h
  exact ⟨_, _, _, _, _, rfl, h1, (own_Store T).cls, na_Store_own_back T, lk_Store_own_back _ _ _, q _ h3⟩
end
/-! ### data: lists of naturals -/
def wd (ws : List Nat) : List PyData := ws.map fun (n : Nat) => PyData.int ((n : Nat) : Int)
theorem dp_wl {K : PySem.W.Frag} {H : Hp} : ∀ ws : List Nat, DpAll K H (wl ws) (wd ws)
  | [] => .nil
  | w :: ws => .cons (.int _) (dp_wl ws)
theorem wd_lay : ∀ ws : List Nat, PyData.canLayAll0 (wd ws) = true
  | [] => by simp [wd, PyData.canLayAll0]
  | w :: ws => by
    show PyData.canLayAll0 (PyData.int (w : Int) :: wd ws) = true
    simp [PyData.canLayAll0, PyData.canLay0, wd_lay ws]
theorem wd_depth : ∀ ws : List Nat, PyData.depthAll (wd ws) ≤ 1
  | [] => by simp [wd, PyData.depthAll]
  | w :: ws => by
    have := wd_depth ws
    show PyData.depthAll (PyData.int (w : Int) :: wd ws) ≤ 1
    simp [PyData.depthAll, PyData.depth]
    omega
theorem wd_eqv : ∀ as bs : List Nat, PyData.eqvAll (wd as) (wd bs) = decide (as = bs)
  | [], [] => by simp [wd, PyData.eqvAll]
  | [], b :: bs => by simp [wd, PyData.eqvAll]
  | a :: as, [] => by simp [wd, PyData.eqvAll]
  | a :: as, b :: bs => by
    show PyData.eqvAll (PyData.int (a : Int) :: wd as) (PyData.int (b : Int) :: wd bs) = _
    rw [PyData.eqvAll, wd_eqv as bs]
    by_cases h : a = b
    · subst h
      simp [PyData.eqv]
    · have h' : ((a : Int) == (b : Int)) = false := by simp; omega
      simp [PyData.eqv, h, h']
theorem shaped_tup (ws : List Nat) : SeqAt.shaped (.tuple (wd ws)) = true := by
  unfold SeqAt.shaped
  simp only [PyData.canLay0, PyData.depth, wd_lay ws, Bool.true_and]
  refine decide_eq_true ?_
  have := wd_depth ws
  omega
theorem shaped_lst (ws : List Nat) : SeqAt.shaped (.list (wd ws)) = true := by
  unfold SeqAt.shaped
  simp only [PyData.canLay0, PyData.depth, wd_lay ws, Bool.true_and]
  refine decide_eq_true ?_
  have := wd_depth ws
  omega
theorem eqv_tup (as bs : List Nat) : PyData.eqv (.tuple (wd as)) (.tuple (wd bs)) = decide (as = bs) := by rw [PyData.eqv, wd_eqv]
theorem eqv_lst (as bs : List Nat) : PyData.eqv (.list (wd as)) (.list (wd bs)) = decide (as = bs) := by rw [PyData.eqv, wd_eqv]
/-- a == b, a != b of two tuples (or two lists) of naturals, as answers of the rules -/
theorem eq_wl {K : PySem.W.Frag} {H : Hp} {p p2 : Addr} {as bs : List Nat} {Q : VK} (h : SqT K H p (wl as)) (h2 : SqT K H p2 (wl bs)) (q : Q (.bl (decide (as = bs))) H) : rEqD K (.ref p) (.ref p2) H Q :=
  ⟨_, _, .tup h (dp_wl as), .tup h2 (dp_wl bs), shaped_tup as, shaped_tup bs, by rw [eqv_tup]; exact q⟩
theorem eq_wlL {K : PySem.W.Frag} {H : Hp} {p p2 : Addr} {as bs : List Nat} {Q : VK} (h : SqL K H p (wl as)) (h2 : SqL K H p2 (wl bs)) (q : Q (.bl (decide (as = bs))) H) : rEqD K (.ref p) (.ref p2) H Q :=
  ⟨_, _, .lst h (dp_wl as), .lst h2 (dp_wl bs), shaped_lst as, shaped_lst bs, by rw [eqv_lst]; exact q⟩
theorem ne_wlL {K : PySem.W.Frag} {H : Hp} {p p2 : Addr} {as bs : List Nat} {Q : VK} (h : SqL K H p (wl as)) (h2 : SqL K H p2 (wl bs)) (q : Q (.bl (!decide (as = bs))) H) : rNeD K (.ref p) (.ref p2) H Q :=
  ⟨_, _, .lst h (dp_wl as), .lst h2 (dp_wl bs), shaped_lst as, shaped_lst bs, by rw [eqv_lst]; exact q⟩
end L2.Lk
/-! Rz -/
set_option Elab.async false
set_option linter.all false
set_option maxRecDepth 100000
set_option maxHeartbeats 2000000
namespace L2.Lk
open PySem PySem.Spec PyProof.Rows
theorem free_one {l : List (Str × NameKind)} (h : (l.all fun q => q.2 != .free || q.1 == "__class__") = true) : ∀ y, (y, NameKind.free) ∈ l → y = "__class__" := fun y hy => by
  have := List.all_eq_true.mp h _ hy
  simpa using this
section
variable {P : Program} {w : World} {K : PySem.W.Frag} {mg : Str → Option Value} {base : Heap}
/-! ### __init__ of an own error: super().__init__(v), self.f = v -/
abbrev sp_er1 (C : Addr) (f : Str) : L2.Sp := S2 fun a b H Q _ => ∃ x, a = .ref x ∧ H x = some (exo x C none) ∧ ∀ dx, H dx = none → dx ≠ x → Q .non (upd (upd H dx (exd dx [(f, b)])) x (exo x C (some dx)))
abbrev sp_er2 (C : Addr) (f g : Str) : L2.Sp := S3 fun a b c H Q _ => ∃ x, a = .ref x ∧ H x = some (exo x C none) ∧
  ∀ dx, H dx = none → dx ≠ x → Q .non (upd (upd (upd H dx (exd dx [(f, b)])) x (exo x C (some dx))) dx (exd dx [(g, c), (f, b)]))
theorem er1_ok {CX : CXT} {k : Nat} {C fI : Addr} {qual f y z : Str} {st : Stmt} {ar : Arg} {fd : FuncData} {p0 p1 p2 p3 p4 p5 p6 p7 p8 p9 : Pos} (F : SupC P K mg C qual st fI fd) (S : SupS [z, y] ar (defScope st) st)
    (hbody : defBody st = [.Expr (.Call (.Attribute (.Call (.Name "super" p0) [] [] p1) "__init__" p2) [.Name y p3] [] p4) p5, .Assign [.Attribute (.Name z p6) f p7] (.Name y p8) p9])
    (hno : PySem.W.findIn K (.ref C) f = some none)
    (he : ∀ env : Env, starEach [.Name y p3] env = (false, eval (.Name y p3) env) :: starEach [] env) (hpl : ∀ env : Env, (backTo p4 (starEach [] env)).any (·.1) = false)
    (hc : ∀ env : Env, env.scope = defScope st → eval (.Call (.Attribute (.Call (.Name "super" p0) [] [] p1) "__init__" p2) [.Name y p3] [] p4) env = (do
      let ov ← attributeBase (.Call (.Name "super" p0) [] [] p1) "__init__" env (eval (.Call (.Name "super" p0) [] [] p1) env)
      standAt p2.atName
      let (f, first) ← holding [ov] (getMethod ov "__init__" (plainOf (.Call (.Name "super" p0) [] [] p1) env))
      callWith p4 f first (backTo p4 (starEach [.Name y p3] env)) []))
    (hsw : ∀ env : Env, swapsWith (.Call (.Attribute (.Call (.Name "super" p0) [] [] p1) "__init__" p2) [.Name y p3] [] p4) none p5.line env = pure false)
    (hs : ∀ env : Env, swapsWith (.Name y p8) (some (.Attribute (.Name z p6) f p7)) p9.line env = pure false)
    (d1 : (y == ("__debug__" : Str)) = false) (d2 : (y == ("__classdict__" : Str)) = false) (d3 : (z == ("__debug__" : Str)) = false) (d4 : (z == ("__classdict__" : Str)) = false) :
    FnOk P w K mg base CX (k + 1) fI fd [z, y] (sp_er1 C f) := by
  refine sup_ok F S hbody (fun vs H Q E ⟨_, _, e, _⟩ => by rw [e]; rfl) he hpl hc hsw fun cc cd A outer s H vs Q E h => ?_
  obtain ⟨a, b, rfl, x, rfl, hx, q⟩ := h
  have v0 : ∀ {p}, PE (cxS CX P w K mg base [z, y] qual (defScope st) fI cc cd A outer s H E) (.Name z p) (tVar 0) := pe_var rfl (.inl (S.loc z (by simp))) d3 d4
  have v1 : ∀ {p}, PE (cxS CX P w K mg base [z, y] qual (defScope st) fI cc cd A outer s H E) (.Name y p) (tVar 1) := pe_var rfl (.inl (S.loc y (by simp))) d1 d2
  refine ⟨_, _, x, pa_cons v1 pa_nil (he _), pss_one (ps_ost v0 v1 (hs _)), rfl, hx, ?_⟩
  exact ⟨_, rfl, by simp, hx, _, rfl, _, rfl, x, C, rfl, F.T, hno, .inl ⟨hx, q⟩⟩
theorem er2_ok {CX : CXT} {k : Nat} {C fI : Addr} {qual f g y u z : Str} {st : Stmt} {ar : Arg} {fd : FuncData} {p0 p1 p2 p3 p3' p4 p5 p6 p7 p8 p9 q6 q7 q8 q9 : Pos} (F : SupC P K mg C qual st fI fd) (S : SupS [z, y, u] ar (defScope st) st)
    (hbody : defBody st = [.Expr (.Call (.Attribute (.Call (.Name "super" p0) [] [] p1) "__init__" p2) [.Name y p3, .Name u p3'] [] p4) p5, .Assign [.Attribute (.Name z p6) f p7] (.Name y p8) p9, .Assign [.Attribute (.Name z q6) g q7] (.Name u q8) q9])
    (hno : PySem.W.findIn K (.ref C) f = some none) (hno2 : PySem.W.findIn K (.ref C) g = some none)
    (he : ∀ env : Env, starEach [.Name y p3, .Name u p3'] env = (false, eval (.Name y p3) env) :: starEach [.Name u p3'] env) (he2 : ∀ env : Env, starEach [.Name u p3'] env = (false, eval (.Name u p3') env) :: starEach [] env) (hpl : ∀ env : Env, (backTo p4 (starEach [.Name u p3'] env)).any (·.1) = false)
    (hc : ∀ env : Env, env.scope = defScope st → eval (.Call (.Attribute (.Call (.Name "super" p0) [] [] p1) "__init__" p2) [.Name y p3, .Name u p3'] [] p4) env = (do
      let ov ← attributeBase (.Call (.Name "super" p0) [] [] p1) "__init__" env (eval (.Call (.Name "super" p0) [] [] p1) env)
      standAt p2.atName
      let (f, first) ← holding [ov] (getMethod ov "__init__" (plainOf (.Call (.Name "super" p0) [] [] p1) env))
      callWith p4 f first (backTo p4 (starEach [.Name y p3, .Name u p3'] env)) []))
    (hsw : ∀ env : Env, swapsWith (.Call (.Attribute (.Call (.Name "super" p0) [] [] p1) "__init__" p2) [.Name y p3, .Name u p3'] [] p4) none p5.line env = pure false)
    (hs : ∀ env : Env, swapsWith (.Name y p8) (some (.Attribute (.Name z p6) f p7)) p9.line env = pure false) (hs2 : ∀ env : Env, swapsWith (.Name u q8) (some (.Attribute (.Name z q6) g q7)) q9.line env = pure false)
    (d1 : (y == ("__debug__" : Str)) = false) (d2 : (y == ("__classdict__" : Str)) = false) (d3 : (z == ("__debug__" : Str)) = false) (d4 : (z == ("__classdict__" : Str)) = false) (d5 : (u == ("__debug__" : Str)) = false) (d6 : (u == ("__classdict__" : Str)) = false) :
    FnOk P w K mg base CX (k + 1) fI fd [z, y, u] (sp_er2 C f g) := by
  refine sup_ok F S hbody (fun vs H Q E ⟨_, _, _, e, _⟩ => by rw [e]; rfl) he hpl hc hsw fun cc cd A outer s H vs Q E h => ?_
  obtain ⟨a, b, c, rfl, x, rfl, hx, q⟩ := h
  have v0 : ∀ {p}, PE (cxS CX P w K mg base [z, y, u] qual (defScope st) fI cc cd A outer s H E) (.Name z p) (tVar 0) := pe_var rfl (.inl (S.loc z (by simp))) d3 d4
  have v1 : ∀ {p}, PE (cxS CX P w K mg base [z, y, u] qual (defScope st) fI cc cd A outer s H E) (.Name y p) (tVar 1) := pe_var rfl (.inl (S.loc y (by simp))) d1 d2
  have v2 : ∀ {p}, PE (cxS CX P w K mg base [z, y, u] qual (defScope st) fI cc cd A outer s H E) (.Name u p) (tVar 2) := pe_var rfl (.inl (S.loc u (by simp))) d5 d6
  refine ⟨_, _, x, pa_cons v1 (pa_cons v2 pa_nil (he2 _)) (he _), pss_cons (ps_ost v0 v1 (hs _)) (pss_one (ps_ost v0 v2 (hs2 _))), rfl, hx, ?_⟩
  refine ⟨_, rfl, _, rfl, by simp, hx, _, rfl, _, rfl, x, C, rfl, F.T, hno, .inl ⟨hx, fun dx h1 h2 => ?_⟩⟩
  exact ⟨_, rfl, _, rfl, x, C, rfl, F.T, hno2, .inr ⟨dx, _, upd_same, (by rw [upd_ne h2, upd_same]), by simp, q dx h1 h2⟩⟩
/-! ### raise X(e), raise X(e, e') -/
section
variable {X : Cx} {e e2 : Expr} {ta : TA} {W : WX} {x : Str} {C fI : Addr} {f g : Str} {k : Nat} {fd : FuncData} {p pos pos2 : Pos} {ps : List Str}
theorem del_mk {H : Hp} {a dx : Addr} {o o1 : HO} {fs : List (Str × V)} (ha : H a = none) (hd : dx ≠ a) : upd (del (upd (upd H dx o) a o1) a) dx (.xd fs) = upd H dx (.xd fs) := by
  funext b
  by_cases h1 : b = dx
  · rw [h1, upd_same, upd_same]
  · rw [upd_ne h1, upd_ne h1]
    by_cases h2 : b = a
    · rw [h2, del_same, ha]
    · rw [del_ne h2, upd_ne h2, upd_ne h1]
theorem ps_rz {sp : L2.Sp} {es : List Expr} (T : OexC X.K C) (iC : PySem.W.findIn X.K (.ref C) "__init__" = some (some (.ref fI))) (tI : PySem.W.typeIn X.K (.ref fI) = some (.type "function"))
    (F : FnOk X.prog X.w X.K X.mg X.base (L2.CX X.prog X.w) k fI fd ps sp) (b : Binds X.K fd ps []) (hr : Room (k + 1) X.A) (hm : X.mg x = some (.ref C)) (hc : X.calm = true) (tk : Takes X W) (ha : PA X (e :: es) ta) (hg : Gl X x := by rfl)
    (hdb : (x == ("__debug__" : Str)) = false := by decide) (he : starEach (e :: es) X.env = (false, eval e X.env) :: starEach es X.env := by rfl) (hpl : (backTo pos (starEach es X.env)).any (·.1) = false := by rfl) :
    PS X (.Raise (some (.Call (.Name x p) (e :: es) [] pos)) none pos2) (fun _ σ H => tMkO C sp [] ta σ H fun cls d H' => W cls d σ H') :=
  ps_raise hc tk (pmk_oex T iC tI F hr b .nil (fun _ _ _ _ _ _ _ h => by
    obtain ⟨_, _, _, _, _, _, _, _, _, _, _, _, z⟩ := h
    exact z.elim) hg hm ha hdb he hpl)
end
theorem rz1_rd {C : Addr} {f : Str} {H1 : Hp} {v : V} {Q : XK} (q : ∀ d, H1 d = none → Q (.ref C) (some d) (upd H1 d (.xd [(f, v)]))) : [v].length ≤ 1000 ∧ ∀ a, H1 a = none → sp_er1 C f (.ref a :: ([v] ++ [])) (upd H1 a (exo a C none))
    (fun v H2 => v = .non ∧ ∃ (d : Addr) (fs : List (Str × V)), H2 a = some (exo a C (some d)) ∧ H2 d = some (exd d fs) ∧ H1 d = none ∧ Q (.ref C) (some d) (upd (del H2 a) d (.xd fs))) (fun _ _ _ => False) := by
  refine ⟨by simp, fun a ha => ⟨.ref a, v, rfl, a, rfl, upd_same, fun dx h1 h2 => ⟨rfl, dx, _, upd_same, (by rw [upd_ne h2, upd_same]), ?_, ?_⟩⟩⟩
  · rw [upd_ne h2] at h1
    exact h1
  · rw [show upd (upd (upd H1 a (exo a C none)) dx (exd dx [(f, v)])) a (exo a C (some dx)) = upd (upd H1 dx (exd dx [(f, v)])) a (exo a C (some dx)) from by
      funext b
      by_cases e1 : b = a
      · rw [e1, upd_same, upd_same]
      · rw [upd_ne e1, upd_ne e1]
        by_cases e2 : b = dx
        · rw [e2, upd_same, upd_same]
        · rw [upd_ne e2, upd_ne e2, upd_ne e1], del_mk ha h2]
    rw [upd_ne h2] at h1
    exact q dx h1
theorem rz2_rd {C : Addr} {f g : Str} {H1 : Hp} {v u : V} {Q : XK} (q : ∀ d, H1 d = none → Q (.ref C) (some d) (upd H1 d (.xd [(g, u), (f, v)]))) : [v, u].length ≤ 1000 ∧ ∀ a, H1 a = none → sp_er2 C f g (.ref a :: ([v, u] ++ [])) (upd H1 a (exo a C none))
    (fun v H2 => v = .non ∧ ∃ (d : Addr) (fs : List (Str × V)), H2 a = some (exo a C (some d)) ∧ H2 d = some (exd d fs) ∧ H1 d = none ∧ Q (.ref C) (some d) (upd (del H2 a) d (.xd fs))) (fun _ _ _ => False) := by
  refine ⟨by simp, fun a ha => ⟨.ref a, v, u, rfl, a, rfl, upd_same, fun dx h1 h2 => ⟨rfl, dx, _, (by rw [upd_ne (Ne.symm h2), upd_same]), upd_same, ?_, ?_⟩⟩⟩
  · rw [upd_ne h2] at h1
    exact h1
  · rw [upd_ne h2] at h1
    have e : upd (del (upd (upd (upd (upd H1 a (exo a C none)) dx (exd dx [(f, v)])) a (exo a C (some dx))) dx (exd dx [(g, u), (f, v)])) a) dx (.xd [(g, u), (f, v)]) = upd H1 dx (.xd [(g, u), (f, v)]) := by
      funext b
      by_cases e2 : b = dx
      · rw [e2, upd_same, upd_same]
      · rw [upd_ne e2, upd_ne e2]
        by_cases e1 : b = a
        · rw [e1, del_same, ha]
        · rw [del_ne e1, upd_ne e2, upd_ne e1, upd_ne e2, upd_ne e1]
    rw [e]
    exact q dx h1
end
section
variable {P : Program} {w : World} {K : PySem.W.Frag} {mg : Str → Option Value} {base : Heap}
abbrev cBadValue (K : PySem.W.Frag) : Addr := He.ga K "BadValue"
theorem ss_BadValue : SupS ["self", "value"] ((defArgs (inClass (stm 3) 0)).args.headD ⟨"", none, ⟨0, 0, 0, 0⟩⟩) (defScope (inClass (stm 3) 0)) (inClass (stm 3) 0) :=
  ⟨rfl, rfl, rfl, by decide +kernel, by decide +kernel, by decide +kernel, fun y h => free_one (l := (defScope (inClass (stm 3) 0)).names) (by decide +kernel) y (PySem.mem_of_lookup h), by decide +kernel, by decide +kernel, rfl, rfl⟩
theorem rz_BadValue (T : Tx P K mg) {X : Cx} {e : Expr} {ta : TA} {W : WX} {k : Nat} {p pos pos2 : Pos} (hr : Room k X.A) (tk : Takes X W) (ha : PA X [e] ta) (hk : 2 ≤ k := by decide) (hP : X.prog = P := by rfl) (hK : X.K = K := by rfl) (hg' : X.mg = mg := by rfl) (hc : X.calm = true := by rfl) (hg : Gl X "BadValue" := by rfl)
    (he : starEach [e] X.env = (false, eval e X.env) :: starEach [] X.env := by rfl) (hpl : (backTo pos (starEach [] X.env)).any (·.1) = false := by rfl) :
    PS X (.Raise (some (.Call (.Name "BadValue" p) [e] [] pos)) none pos2) (fun _ σ H => tMkO (cBadValue K) (sp_er1 (cBadValue K) "value") [] ta σ H fun cls d H' => W cls d σ H') := by
  subst hP hK hg'
  obtain ⟨⟨fd, F⟩, hi, ht⟩ := T.er 0 _ _ _ rfl
  obtain ⟨oc, od, an, kV, doc, pm, ct, osl, cda, cc, o1, o2, fvs, o3, file, tf, q1, q2, q3, efd, hrest⟩ := id F.fn
  refine ps_rz (k := 1) F.T hi ht (er1_ok (k := 0) F ss_BadValue rfl (T.noat ("BadValue", "value") (by decide +kernel)) (fun _ => rfl) (fun _ => rfl) (fun _ hs => ?_) (fun _ => rfl) (fun _ => rfl) (by decide) (by decide) (by decide) (by decide)) (.all fun us hl => ?_) (hr.mono hk) (g_BadValue T) hc tk ha hg (by decide) he hpl
  · rfl
  · subst efd
    match us, hl with
    | [_, _], _ => rfl
abbrev cNotOneToOne (K : PySem.W.Frag) : Addr := He.ga K "NotOneToOne"
theorem ss_NotOneToOne : SupS ["self", "word"] ((defArgs (inClass (stm 4) 0)).args.headD ⟨"", none, ⟨0, 0, 0, 0⟩⟩) (defScope (inClass (stm 4) 0)) (inClass (stm 4) 0) :=
  ⟨rfl, rfl, rfl, by decide +kernel, by decide +kernel, by decide +kernel, fun y h => free_one (l := (defScope (inClass (stm 4) 0)).names) (by decide +kernel) y (PySem.mem_of_lookup h), by decide +kernel, by decide +kernel, rfl, rfl⟩
theorem rz_NotOneToOne (T : Tx P K mg) {X : Cx} {e : Expr} {ta : TA} {W : WX} {k : Nat} {p pos pos2 : Pos} (hr : Room k X.A) (tk : Takes X W) (ha : PA X [e] ta) (hk : 2 ≤ k := by decide) (hP : X.prog = P := by rfl) (hK : X.K = K := by rfl) (hg' : X.mg = mg := by rfl) (hc : X.calm = true := by rfl) (hg : Gl X "NotOneToOne" := by rfl)
    (he : starEach [e] X.env = (false, eval e X.env) :: starEach [] X.env := by rfl) (hpl : (backTo pos (starEach [] X.env)).any (·.1) = false := by rfl) :
    PS X (.Raise (some (.Call (.Name "NotOneToOne" p) [e] [] pos)) none pos2) (fun _ σ H => tMkO (cNotOneToOne K) (sp_er1 (cNotOneToOne K) "word") [] ta σ H fun cls d H' => W cls d σ H') := by
  subst hP hK hg'
  obtain ⟨⟨fd, F⟩, hi, ht⟩ := T.er 1 _ _ _ rfl
  obtain ⟨oc, od, an, kV, doc, pm, ct, osl, cda, cc, o1, o2, fvs, o3, file, tf, q1, q2, q3, efd, hrest⟩ := id F.fn
  refine ps_rz (k := 1) F.T hi ht (er1_ok (k := 0) F ss_NotOneToOne rfl (T.noat ("NotOneToOne", "word") (by decide +kernel)) (fun _ => rfl) (fun _ => rfl) (fun _ hs => ?_) (fun _ => rfl) (fun _ => rfl) (by decide) (by decide) (by decide) (by decide)) (.all fun us hl => ?_) (hr.mono hk) (g_NotOneToOne T) hc tk ha hg (by decide) he hpl
  · rfl
  · subst efd
    match us, hl with
    | [_, _], _ => rfl
abbrev cUnknown (K : PySem.W.Frag) : Addr := He.ga K "Unknown"
theorem ss_Unknown : SupS ["self", "name"] ((defArgs (inClass (stm 9) 0)).args.headD ⟨"", none, ⟨0, 0, 0, 0⟩⟩) (defScope (inClass (stm 9) 0)) (inClass (stm 9) 0) :=
  ⟨rfl, rfl, rfl, by decide +kernel, by decide +kernel, by decide +kernel, fun y h => free_one (l := (defScope (inClass (stm 9) 0)).names) (by decide +kernel) y (PySem.mem_of_lookup h), by decide +kernel, by decide +kernel, rfl, rfl⟩
theorem rz_Unknown (T : Tx P K mg) {X : Cx} {e : Expr} {ta : TA} {W : WX} {k : Nat} {p pos pos2 : Pos} (hr : Room k X.A) (tk : Takes X W) (ha : PA X [e] ta) (hk : 2 ≤ k := by decide) (hP : X.prog = P := by rfl) (hK : X.K = K := by rfl) (hg' : X.mg = mg := by rfl) (hc : X.calm = true := by rfl) (hg : Gl X "Unknown" := by rfl)
    (he : starEach [e] X.env = (false, eval e X.env) :: starEach [] X.env := by rfl) (hpl : (backTo pos (starEach [] X.env)).any (·.1) = false := by rfl) :
    PS X (.Raise (some (.Call (.Name "Unknown" p) [e] [] pos)) none pos2) (fun _ σ H => tMkO (cUnknown K) (sp_er1 (cUnknown K) "name") [] ta σ H fun cls d H' => W cls d σ H') := by
  subst hP hK hg'
  obtain ⟨⟨fd, F⟩, hi, ht⟩ := T.er 3 _ _ _ rfl
  obtain ⟨oc, od, an, kV, doc, pm, ct, osl, cda, cc, o1, o2, fvs, o3, file, tf, q1, q2, q3, efd, hrest⟩ := id F.fn
  refine ps_rz (k := 1) F.T hi ht (er1_ok (k := 0) F ss_Unknown rfl (T.noat ("Unknown", "name") (by decide +kernel)) (fun _ => rfl) (fun _ => rfl) (fun _ hs => ?_) (fun _ => rfl) (fun _ => rfl) (by decide) (by decide) (by decide) (by decide)) (.all fun us hl => ?_) (hr.mono hk) (g_Unknown T) hc tk ha hg (by decide) he hpl
  · rfl
  · subst efd
    match us, hl with
    | [_, _], _ => rfl
abbrev cBadPromise (K : PySem.W.Frag) : Addr := He.ga K "BadPromise"
theorem ss_BadPromise : SupS ["self", "promise"] ((defArgs (inClass (stm 12) 0)).args.headD ⟨"", none, ⟨0, 0, 0, 0⟩⟩) (defScope (inClass (stm 12) 0)) (inClass (stm 12) 0) :=
  ⟨rfl, rfl, rfl, by decide +kernel, by decide +kernel, by decide +kernel, fun y h => free_one (l := (defScope (inClass (stm 12) 0)).names) (by decide +kernel) y (PySem.mem_of_lookup h), by decide +kernel, by decide +kernel, rfl, rfl⟩
theorem rz_BadPromise (T : Tx P K mg) {X : Cx} {e : Expr} {ta : TA} {W : WX} {k : Nat} {p pos pos2 : Pos} (hr : Room k X.A) (tk : Takes X W) (ha : PA X [e] ta) (hk : 2 ≤ k := by decide) (hP : X.prog = P := by rfl) (hK : X.K = K := by rfl) (hg' : X.mg = mg := by rfl) (hc : X.calm = true := by rfl) (hg : Gl X "BadPromise" := by rfl)
    (he : starEach [e] X.env = (false, eval e X.env) :: starEach [] X.env := by rfl) (hpl : (backTo pos (starEach [] X.env)).any (·.1) = false := by rfl) :
    PS X (.Raise (some (.Call (.Name "BadPromise" p) [e] [] pos)) none pos2) (fun _ σ H => tMkO (cBadPromise K) (sp_er1 (cBadPromise K) "promise") [] ta σ H fun cls d H' => W cls d σ H') := by
  subst hP hK hg'
  obtain ⟨⟨fd, F⟩, hi, ht⟩ := T.er 4 _ _ _ rfl
  obtain ⟨oc, od, an, kV, doc, pm, ct, osl, cda, cc, o1, o2, fvs, o3, file, tf, q1, q2, q3, efd, hrest⟩ := id F.fn
  refine ps_rz (k := 1) F.T hi ht (er1_ok (k := 0) F ss_BadPromise rfl (T.noat ("BadPromise", "promise") (by decide +kernel)) (fun _ => rfl) (fun _ => rfl) (fun _ hs => ?_) (fun _ => rfl) (fun _ => rfl) (by decide) (by decide) (by decide) (by decide)) (.all fun us hl => ?_) (hr.mono hk) (g_BadPromise T) hc tk ha hg (by decide) he hpl
  · rfl
  · subst efd
    match us, hl with
    | [_, _], _ => rfl
abbrev cBroken (K : PySem.W.Frag) : Addr := He.ga K "Broken"
theorem ss_Broken : SupS ["self", "promise"] ((defArgs (inClass (stm 13) 0)).args.headD ⟨"", none, ⟨0, 0, 0, 0⟩⟩) (defScope (inClass (stm 13) 0)) (inClass (stm 13) 0) :=
  ⟨rfl, rfl, rfl, by decide +kernel, by decide +kernel, by decide +kernel, fun y h => free_one (l := (defScope (inClass (stm 13) 0)).names) (by decide +kernel) y (PySem.mem_of_lookup h), by decide +kernel, by decide +kernel, rfl, rfl⟩
theorem rz_Broken (T : Tx P K mg) {X : Cx} {e : Expr} {ta : TA} {W : WX} {k : Nat} {p pos pos2 : Pos} (hr : Room k X.A) (tk : Takes X W) (ha : PA X [e] ta) (hk : 2 ≤ k := by decide) (hP : X.prog = P := by rfl) (hK : X.K = K := by rfl) (hg' : X.mg = mg := by rfl) (hc : X.calm = true := by rfl) (hg : Gl X "Broken" := by rfl)
    (he : starEach [e] X.env = (false, eval e X.env) :: starEach [] X.env := by rfl) (hpl : (backTo pos (starEach [] X.env)).any (·.1) = false := by rfl) :
    PS X (.Raise (some (.Call (.Name "Broken" p) [e] [] pos)) none pos2) (fun _ σ H => tMkO (cBroken K) (sp_er1 (cBroken K) "promise") [] ta σ H fun cls d H' => W cls d σ H') := by
  subst hP hK hg'
  obtain ⟨⟨fd, F⟩, hi, ht⟩ := T.er 5 _ _ _ rfl
  obtain ⟨oc, od, an, kV, doc, pm, ct, osl, cda, cc, o1, o2, fvs, o3, file, tf, q1, q2, q3, efd, hrest⟩ := id F.fn
  refine ps_rz (k := 1) F.T hi ht (er1_ok (k := 0) F ss_Broken rfl (T.noat ("Broken", "promise") (by decide +kernel)) (fun _ => rfl) (fun _ => rfl) (fun _ hs => ?_) (fun _ => rfl) (fun _ => rfl) (by decide) (by decide) (by decide) (by decide)) (.all fun us hl => ?_) (hr.mono hk) (g_Broken T) hc tk ha hg (by decide) he hpl
  · rfl
  · subst efd
    match us, hl with
    | [_, _], _ => rfl
abbrev cNotMade (K : PySem.W.Frag) : Addr := He.ga K "NotMade"
theorem ss_NotMade : SupS ["self", "promise"] ((defArgs (inClass (stm 14) 0)).args.headD ⟨"", none, ⟨0, 0, 0, 0⟩⟩) (defScope (inClass (stm 14) 0)) (inClass (stm 14) 0) :=
  ⟨rfl, rfl, rfl, by decide +kernel, by decide +kernel, by decide +kernel, fun y h => free_one (l := (defScope (inClass (stm 14) 0)).names) (by decide +kernel) y (PySem.mem_of_lookup h), by decide +kernel, by decide +kernel, rfl, rfl⟩
theorem rz_NotMade (T : Tx P K mg) {X : Cx} {e : Expr} {ta : TA} {W : WX} {k : Nat} {p pos pos2 : Pos} (hr : Room k X.A) (tk : Takes X W) (ha : PA X [e] ta) (hk : 2 ≤ k := by decide) (hP : X.prog = P := by rfl) (hK : X.K = K := by rfl) (hg' : X.mg = mg := by rfl) (hc : X.calm = true := by rfl) (hg : Gl X "NotMade" := by rfl)
    (he : starEach [e] X.env = (false, eval e X.env) :: starEach [] X.env := by rfl) (hpl : (backTo pos (starEach [] X.env)).any (·.1) = false := by rfl) :
    PS X (.Raise (some (.Call (.Name "NotMade" p) [e] [] pos)) none pos2) (fun _ σ H => tMkO (cNotMade K) (sp_er1 (cNotMade K) "promise") [] ta σ H fun cls d H' => W cls d σ H') := by
  subst hP hK hg'
  obtain ⟨⟨fd, F⟩, hi, ht⟩ := T.er 6 _ _ _ rfl
  obtain ⟨oc, od, an, kV, doc, pm, ct, osl, cda, cc, o1, o2, fvs, o3, file, tf, q1, q2, q3, efd, hrest⟩ := id F.fn
  refine ps_rz (k := 1) F.T hi ht (er1_ok (k := 0) F ss_NotMade rfl (T.noat ("NotMade", "promise") (by decide +kernel)) (fun _ => rfl) (fun _ => rfl) (fun _ hs => ?_) (fun _ => rfl) (fun _ => rfl) (by decide) (by decide) (by decide) (by decide)) (.all fun us hl => ?_) (hr.mono hk) (g_NotMade T) hc tk ha hg (by decide) he hpl
  · rfl
  · subst efd
    match us, hl with
    | [_, _], _ => rfl
abbrev cUnequal (K : PySem.W.Frag) : Addr := He.ga K "Unequal"
theorem ss_Unequal : SupS ["self", "one", "other"] ((defArgs (inClass (stm 8) 0)).args.headD ⟨"", none, ⟨0, 0, 0, 0⟩⟩) (defScope (inClass (stm 8) 0)) (inClass (stm 8) 0) :=
  ⟨rfl, rfl, rfl, by decide +kernel, by decide +kernel, by decide +kernel, fun y h => free_one (l := (defScope (inClass (stm 8) 0)).names) (by decide +kernel) y (PySem.mem_of_lookup h), by decide +kernel, by decide +kernel, rfl, rfl⟩
theorem rz_Unequal (T : Tx P K mg) {X : Cx} {e e2 : Expr} {ta : TA} {W : WX} {k : Nat} {p pos pos2 : Pos} (hr : Room k X.A) (tk : Takes X W) (ha : PA X [e, e2] ta) (hk : 2 ≤ k := by decide) (hP : X.prog = P := by rfl) (hK : X.K = K := by rfl) (hg' : X.mg = mg := by rfl) (hc : X.calm = true := by rfl) (hg : Gl X "Unequal" := by rfl)
    (he : starEach [e, e2] X.env = (false, eval e X.env) :: starEach [e2] X.env := by rfl) (hpl : (backTo pos (starEach [e2] X.env)).any (·.1) = false := by rfl) :
    PS X (.Raise (some (.Call (.Name "Unequal" p) [e, e2] [] pos)) none pos2) (fun _ σ H => tMkO (cUnequal K) (sp_er2 (cUnequal K) "one" "other") [] ta σ H fun cls d H' => W cls d σ H') := by
  subst hP hK hg'
  obtain ⟨⟨fd, F⟩, hi, ht⟩ := T.er 2 _ _ _ rfl
  obtain ⟨oc, od, an, kV, doc, pm, ct, osl, cda, cc, o1, o2, fvs, o3, file, tf, q1, q2, q3, efd, hrest⟩ := id F.fn
  refine ps_rz (k := 1) F.T hi ht (er2_ok (k := 0) F ss_Unequal rfl (T.noat ("Unequal", "one") (by decide +kernel)) (T.noat ("Unequal", "other") (by decide +kernel)) (fun _ => rfl) (fun _ => rfl) (fun _ => rfl) (fun _ hs => ?_) (fun _ => rfl) (fun _ => rfl) (fun _ => rfl) (by decide) (by decide) (by decide) (by decide) (by decide) (by decide)) (.all fun us hl => ?_) (hr.mono hk) (g_Unequal T) hc tk ha hg (by decide) he hpl
  · rfl
  · subst efd
    match us, hl with
    | [_, _, _], _ => rfl
end
end L2.Lk
namespace L2.Lk
open PySem PySem.Spec PyProof.Rows
/-! ### x in t, x not in t of data -/
section
variable {X : Cx}
def rInDT (K : PySem.W.Frag) (neg : Bool) : R2 := fun x y H Q => ∃ d ds, Dp K H x d ∧ Dp K H y (.tuple ds) ∧ SeqAt.shaped d = true ∧ SeqAt.shaped (.tuple ds) = true ∧ Q (.bl (if neg then !ds.any fun z => PyData.eqv z d else ds.any fun z => PyData.eqv z d)) H
theorem op_inDT (hu : X.A.units + 65 < cLine) : OpR X (compareOp .In) (rInDT X.K false) := by
  intro pins s σ H x y v u Q I rx ry h
  obtain ⟨d, ds, hd, he, sd, se, q⟩ := h
  obtain ⟨as, r1⟩ := Dp.reads I d x v hd rx
  obtain ⟨bs, r2⟩ := Dp.reads I (.tuple ds) y u he ry
  exact SeqAt.in_tuple_reads r2 r1 (SeqAt.canLay_of_shaped se) (SeqAt.canLay_of_shaped sd) (room_in_shaped sd hu) ⟨.bl _, H, I, rfl, q⟩
theorem op_notInDT (hu : X.A.units + 65 < cLine) : OpR X (compareOp .NotIn) (rInDT X.K true) := by
  intro pins s σ H x y v u Q I rx ry h
  obtain ⟨d, ds, hd, he, sd, se, q⟩ := h
  obtain ⟨as, r1⟩ := Dp.reads I d x v hd rx
  obtain ⟨bs, r2⟩ := Dp.reads I (.tuple ds) y u he ry
  exact SeqAt.notIn_tuple_reads r2 r1 (SeqAt.canLay_of_shaped se) (SeqAt.canLay_of_shaped sd) (room_in_shaped sd hu) ⟨.bl _, H, I, rfl, q⟩
theorem op_neDK (K : PySem.W.Frag) (hu : X.A.units + 64 < cLine) (hK : X.K = K := by rfl) : OpR X (compareOp .NotEq) (rNeD K) := by
  subst hK
  exact op_neD hu
theorem op_eqDK (K : PySem.W.Frag) (hu : X.A.units + 64 < cLine) (hK : X.K = K := by rfl) : OpR X (compareOp .Eq) (rEqD K) := by
  subst hK
  exact op_eqD hu
end
end L2.Lk
namespace L2.Lk
open PySem PySem.Spec PyProof.Rows
theorem u65 {k : Nat} {A : Around} (r : L2.Room k A) : A.units + 65 < cLine := by have := r.un; omega
end L2.Lk
/-! P2 -/
set_option Elab.async false
set_option linter.all false
set_option maxRecDepth 100000
set_option maxHeartbeats 2000000
namespace L2.Lk
open PySem PySem.Spec PyProof.Rows
section
variable {P : Program} {w : World} {K : PySem.W.Frag} {mg : Str → Option Value} {base : Heap}
theorem me {x : Addr} : x ∈ [x] := List.mem_singleton.mpr rfl
theorem lk_put {f : Str} {v : V} {fs : List (Str × V)} : (putF f v fs).lookup f = some v := by rw [lookup_putF, if_pos rfl]
theorem lk_put2 {f g : Str} {v u : V} {fs : List (Str × V)} (h : g ≠ f) : (putF f v (putF g u fs)).lookup g = some u := by rw [lookup_putF, if_neg h, lookup_putF, if_pos rfl]
/-! ### Space -/
abbrev sp_Space_init (K : PySem.W.Frag) : L2.Sp := S3 fun a b c H Q _ => ∃ x dx n p k ws, a = .ref x ∧ b = nV n ∧ c = .ref p ∧ H x = some (.ins (cSpace K) dx []) ∧ Sq K k H p (wl ws) ∧ ws.length ≤ 400 ∧ Lt n ws ∧
  ∀ H' rows, Sx [x] H H' → SpaceAt K H' x n rows → RowsOf ws rows → Q .non H'
theorem ok_Space_init (T : Tx P K mg) : HasM P w K mg base 4 "Space" "__init__" ["self", "bits", "words"] (sp_Space_init K) := by
  refine ⟨m_Space_init T, ok3 (F_Space_init T) sc_Space_init fun cdv A outer s H a b c Q E hr h => ?_⟩
  obtain ⟨x, dx, n, p, k, ws, rfl, rfl, rfl, hx, hq, hz, hlt, q⟩ := h
  refine ⟨_, (pss_cons (ps_expr (pe_h (ok_need_whole (K := K) T) (hr.mono (by decide)) passL (pa_cons (pv 1) pa_nil)))
    (pss_cons (ps_fld (pv 0) (pv 1) rfl)
    (pss_cons (ps_fld (pv 0) (pe_callTy (call_tupleM K) (by rfl) (b_tuple T) bb_tuple (pa_cons (pe_h (ok_spanned (K := K) T) (hr.mono (by decide)) passL (pa_cons (pe_h (ok_need_words (K := K) T) (hr.mono (by decide)) passL (pa_cons (pv 2) (pa_cons (pv 1) pa_nil))) pa_nil)) pa_nil)) rfl)
    (pss_one (ps_fld (pv 0) (pe_callB (call_lenM K) (by rfl) (b_len T) bb_len (pa_cons (pe_fldK K (pv 0)) pa_nil)) rfl))))), ?_⟩
  refine ⟨_, rfl, _, rfl, n, rfl, fun H1 e1 => ⟨_, rfl, _, rfl, _, _, _, _, rfl, e1 _ _ hx, (own_Space T).cls, na_Space_bits T, pl0, ?_⟩⟩
  have s1 : Sx [x] H (upd H1 x (.ins (cSpace K) dx (putF "bits" (nV n) []))) := e1.sx.upd me
  refine ⟨_, rfl, _, rfl, _, _, rfl, p, k, ws, n, rfl, rfl, Sx.sq s1 hx hq, hlt, fun l H2 e2 hl2 hr2 => ?_⟩
  refine ⟨_, rfl, l, true, ws, rfl, SqL.of hr2, hz, fun l3 H3 rows e3 hl3 hr3 hR => ⟨l3, true, _, rfl, SqL.of hr3, fun l4 H4 e4 ht4 => ?_⟩⟩
  have hx4 := (e2.trans (e3.trans e4)) _ _ (upd_same (H := H1) (a := x) (o := .ins (cSpace K) dx (putF "bits" (nV n) [])))
  refine ⟨_, rfl, _, _, _, _, rfl, hx4, (own_Space T).cls, na_Space_rows T, pl1, ?_⟩
  have s4 := ((s1.then (e2.trans (e3.trans e4))).upd (o := .ins (cSpace K) dx (putF "rows" (.ref l4) (putF "bits" (nV n) []))) me)
  have t4 : SqT K (upd H4 x (.ins (cSpace K) dx (putF "rows" (.ref l4) (putF "bits" (nV n) [])))) l4 (wl rows) := Sx.tup (Sx.refl.upd me) hx4 ht4
  refine ⟨_, rfl, _, _, _, _, _, rfl, upd_same, (own_Space T).cls, na_Space_rows T, lk_put, _, false, _, rfl, t4, _, rfl, _, _, _, _, rfl, upd_same, (own_Space T).cls, na_Space_dimension T, pl2, ?_⟩
  rw [show (wl rows).length = rows.length from List.length_map ..]
  exact q _ rows (s4.upd me) ⟨dx, l4, upd_same, Sx.tup (Sx.refl.upd me) upd_same t4⟩ hR
/-- Space(n, words) -/
theorem mkSpace {H : Hp} {n : Nat} {p : Addr} {k : Bool} {ws : List Nat} {Q : Addr → Hp → Prop} {E : XK} (hq : Sq K k H p (wl ws)) (hz : ws.length ≤ 400) (hlt : Lt n ws) (q : ∀ x H' rows, Same H H' → H x = none → SpaceAt K H' x n rows → RowsOf ws rows → Q x H') :
    ∀ x dx, H x = none → H dx = none → dx ≠ x → sp_Space_init K [.ref x, nV n, .ref p] (upd (upd H dx (.own x)) x (.ins (cSpace K) dx [])) (fun v H2 => v = .non ∧ Q x H2) E := fun x dx nx nd ne =>
  ⟨_, _, _, rfl, x, dx, n, p, k, ws, rfl, rfl, rfl, upd_same, ((Same.new nd).new' (by rw [upd_ne (Ne.symm ne)]; exact nx)).sq hq, hz, hlt, fun H' rows s hs hR => ⟨rfl, q x H' rows (made_same nx nd s) nx hs hR⟩⟩
abbrev sp_need_space (K : PySem.W.Frag) : L2.Sp := S2 fun a b H Q _ => ∃ p n rows, a = .ref p ∧ b = nV n ∧ SpaceAt K H p n rows ∧ ∀ H', Same H H' → Q .non H'
theorem ok_need_space (T : Tx P K mg) : Has P w K mg base 1 "need_space" ["value", "bits"] (sp_need_space K) := by
  refine ⟨g_need_space T, ok2 (F_need_space T) sc_need_space fun cdv A outer s H a b Q E hr h => ?_⟩
  obtain ⟨p, n, rows, rfl, rfl, hs, q⟩ := h
  refine ⟨_, (pss_one (ps_if (PW.pt (pw_or (pt_not (pt_val (pe_callB call_isi (by rfl) (b_isinstance T) bb_isinstance (pa_cons (pv 0) (pa_cons (pe_glob (v := .ref (He.ga K "Space")) (by rfl) (g_Space T) rfl) pa_nil))))) (pw_or1 (pt_cmpR op_neM (pe_fldK K (pv 0)) (pv 1) (nomark _))))) (pss_one ps_never) pss_nil)), ?_⟩
  refine ⟨_, rfl, _, _, _, _, _, rfl, .own _, ty_Space T hs, kit_Space_Space T, _, rfl, iteF ⟨_, rfl, at_Space_bits T hs ⟨_, rfl, _, _, rfl, rfl, _, rfl, ?_⟩⟩⟩
  exact iteNS rfl (q _ (Same.refl _))
abbrev sp_Space_eq (K : PySem.W.Frag) : L2.Sp := S2 fun a b H Q _ => ∃ p p2 n n2 rows rows2, a = .ref p ∧ b = .ref p2 ∧ SpaceAt K H p n rows ∧ SpaceAt K H p2 n2 rows2 ∧ ∀ H', Same H H' → Q (.bl (decide (n = n2) && decide (rows = rows2))) H'
theorem ok_Space_eq (T : Tx P K mg) : HasM P w K mg base 1 "Space" "__eq__" ["self", "other"] (sp_Space_eq K) := by
  refine ⟨m_Space_eq T, ok2 (F_Space_eq T) sc_Space_eq fun cdv A outer s H a b Q E hr h => ?_⟩
  obtain ⟨p, p2, n, n2, rows, rows2, rfl, rfl, h1, h2, q⟩ := h
  have q := q _ (Same.refl _)
  refine ⟨_, (pss_one (ps_ret (pe_and (pe_callB call_isi (by rfl) (b_isinstance T) bb_isinstance (pa_cons (pv 1) (pa_cons (pe_glob (v := .ref (He.ga K "Space")) (by rfl) (g_Space T) rfl) pa_nil))) (pe_and (pe_cmpR op_eqM (pe_fldK K (pv 0)) (pe_fldK K (pv 1)) (nomark _)) (pe_one (pe_cmpR (op_eqDK K hr.units) (pe_fldK K (pv 0)) (pe_fldK K (pv 1)) (nomark _))))))), ?_⟩
  refine ⟨_, rfl, _, _, _, _, _, rfl, .own _, ty_Space T h2, kit_Space_Space T, _, rfl, iteT ⟨_, rfl, at_Space_bits T h1 ⟨_, rfl, at_Space_bits T h2 ⟨_, _, rfl, rfl, _, rfl, ?_⟩⟩⟩⟩
  refine ite2 (fun e => ?_) (fun e => ?_)
  · rw [e, Bool.true_and] at q
    exact ⟨_, rfl, at_Space_rows T h1 fun r1 t1 => ⟨_, rfl, at_Space_rows T h2 fun r2 t2 => eq_wl t1 t2 q⟩⟩
  · rw [Bool.not_eq_true] at e
    rw [e, Bool.false_and] at q
    exact q
abbrev sp_Space_least (K : PySem.W.Frag) : L2.Sp := S2 fun a b H Q _ => ∃ p n rows x, a = .ref p ∧ b = nV x ∧ SpaceAt K H p n rows ∧ (∀ r ∈ rows, r ≠ 0) ∧ x < 2 ^ n ∧ ∀ H', Same H H' → Q (nV (clr rows x)) H'
theorem ok_Space_least (T : Tx P K mg) : HasM P w K mg base 3 "Space" "least" ["self", "word"] (sp_Space_least K) := by
  refine ⟨m_Space_least T, ok2 (F_Space_least T) sc_Space_least fun cdv A outer s H a b Q E hr h => ?_⟩
  obtain ⟨p, n, rows, x, rfl, rfl, hs, h0, hx, q⟩ := h
  refine ⟨_, (pss_cons (ps_expr (pe_h (ok_need_word (K := K) T) (hr.mono (by decide)) passL (pa_cons (pv 1) (pa_cons (pe_fldK K (pv 0)) pa_nil))))
    (pss_one (ps_ret (pe_h (ok_cleared (K := K) T) (hr.mono (by decide)) passL (pa_cons (pe_fldK K (pv 0)) (pa_cons (pv 1) pa_nil)))))), ?_⟩
  refine ⟨_, rfl, _, rfl, at_Space_bits T hs ⟨_, _, rfl, x, n, rfl, rfl, hx, fun H1 e1 => ?_⟩⟩
  exact ⟨_, rfl, at_Space_rows T (hs.same e1) fun r t => ⟨_, rfl, _, _, rfl, r, false, rows, x, rfl, rfl, t, h0, fun H2 e2 => q _ (e1.trans e2)⟩⟩
abbrev sp_Space_and (K : PySem.W.Frag) : L2.Sp := S2 fun a b H Q _ => ∃ p p2 n As Bs, a = .ref p ∧ b = .ref p2 ∧ SpaceAt K H p n As ∧ SpaceAt K H p2 n Bs ∧ n ≤ 50 ∧ As.length ≤ 100 ∧ Bs.length ≤ 100 ∧ Lt n As ∧ Lt n Bs ∧
  ∀ r H' R, Same H H' → H r = none → SpaceAt K H' r n R → Red R → (∀ x, Spn R x ↔ Spn As x ∧ Spn Bs x) → Q (.ref r) H'
theorem ok_Space_and (T : Tx P K mg) : HasM P w K mg base 6 "Space" "__and__" ["self", "other"] (sp_Space_and K) := by
  refine ⟨m_Space_and T, ok2 (F_Space_and T) sc_Space_and fun cdv A outer s H a b Q E hr h => ?_⟩
  obtain ⟨p, p2, n, As, Bs, rfl, rfl, h1, h2, hn, zA, zB, lA, lB, q⟩ := h
  refine ⟨_, (pss_cons (ps_expr (pe_h (ok_need_space (K := K) T) (hr.mono (by decide)) passL (pa_cons (pv 1) (pa_cons (pe_fldK K (pv 0)) pa_nil))))
    (pss_one (ps_ret (pe_hc (ok_Space_init (K := K) T) (mk_Space T) (g_Space T) (hr.mono (by decide)) passL (pa_cons (pe_fldK K (pv 0)) (pa_cons (pe_h (ok_met (K := K) T) (hr.mono (by decide)) passL (pa_cons (pe_fldK K (pv 0)) (pa_cons (pe_fldK K (pv 0)) (pa_cons (pe_fldK K (pv 1)) pa_nil)))) pa_nil)))))), ?_⟩
  refine ⟨_, rfl, _, rfl, at_Space_bits T h1 ⟨_, _, rfl, p2, n, Bs, rfl, rfl, h2, fun H1 e1 => ?_⟩⟩
  refine ⟨_, rfl, at_Space_bits T (h1.same e1) ⟨_, rfl, at_Space_bits T (h1.same e1) ⟨_, rfl, at_Space_rows T (h1.same e1) fun r1 t1 => ⟨_, rfl, at_Space_rows T (h2.same e1) fun r2 t2 => ?_⟩⟩⟩⟩
  refine ⟨_, _, _, rfl, n, r1, false, As, r2, false, Bs, rfl, rfl, rfl, t1, t2, hn, zA, zB, lA, lB, fun l H2 ms e2 hl hm2 hR hsp => ?_⟩
  have hlt : Lt n ms := fun m hm => sp_lt lA ((hsp m).mp (sp_mem hm)).1
  have hlen : ms.length ≤ n := by rw [← (show rk ms = ms.length from ech_rk hR.ech)]; exact rk_le hlt
  refine mkSpace (k := true) (SqL.of hm2) (by omega) hlt fun x H3 R e3 hx hs hRo => q x H3 R ((e1.trans e2).trans e3) ((e1.trans e2).free hx) hs hRo.1 fun y => (hRo.2 y).trans (hsp y)
abbrev sp_Space_completing (K : PySem.W.Frag) : L2.Sp := S2 fun a b H Q _ => ∃ p p2 n As Bs, a = .ref p ∧ b = .ref p2 ∧ SpaceAt K H p n As ∧ SpaceAt K H p2 n Bs ∧ Red As ∧ As.length ≤ 100 ∧ Bs.length ≤ 100 ∧
  ∀ r H' fs rows, Same H H' → SqT K H' r (wl fs) → RowsOf (As ++ Bs) rows → fs.length + As.length = rows.length → Q (.ref r) H'
theorem ok_Space_completing (T : Tx P K mg) : HasM P w K mg base 4 "Space" "completing" ["self", "other"] (sp_Space_completing K) := by
  refine ⟨m_Space_completing T, ok2 (F_Space_completing T) sc_Space_completing fun cdv A outer s H a b Q E hr h => ?_⟩
  obtain ⟨p, p2, n, As, Bs, rfl, rfl, h1, h2, hRA, zA, zB, q⟩ := h
  refine ⟨_, (pss_cons (ps_expr (pe_h (ok_need_space (K := K) T) (hr.mono (by decide)) passL (pa_cons (pv 1) (pa_cons (pe_fldK K (pv 0)) pa_nil))))
    (pss_cons (ps_par (i := 2) (j := 3) rfl sc_Space_completing.nd rfl rfl (by decide) rfl rfl (pa_cons (pe_callTy (call_listM K) (by rfl) (b_list T) bb_list (pa_cons (pe_fldK K (pv 0)) pa_nil)) (pa_cons (pe_lst pa_nil) pa_nil)) (by rfl))
    (pss_cons (ps_for (passes_of rfl) rfl (pi_seq (pe_fldK K (pv 1))) (pg_name (i := 4) sc_Space_completing.nd rfl (.inl rfl)) (pss_one (ps_if (pt_cmpR op_neM (pe_h (ok_cleared (K := K) T) (hr.mono (by decide)) passL (pa_cons (pv 2) (pa_cons (pv 4) pa_nil))) (pe_nat 0) (nomark _)) (pss_cons (ps_set (i := 2) sc_Space_completing.nd rfl (.inl rfl) (pe_h (ok_grown (K := K) T) (hr.mono (by decide)) passL (pa_cons (pv 2) (pa_cons (pv 4) pa_nil))))
    (pss_one (ps_expr (pe_bm PySem.F.plainAttrs_list PySem.F.slot_list_append PySem.F.type_list_append mt_append (pv 3) (pa_cons (pv 4) pa_nil))))) pss_nil)))
    (pss_one (ps_ret (pe_callTy (call_tupleM K) (by rfl) (b_tuple T) bb_tuple (pa_cons (pv 3) pa_nil))))))), ?_⟩
  refine ⟨_, rfl, _, rfl, at_Space_bits T h1 ⟨_, _, rfl, p2, n, Bs, rfl, rfl, h2, fun H1 e1 => ?_⟩⟩
  refine ⟨_, rfl, at_Space_rows T (h1.same e1) fun r1 t1 => ⟨r1, false, _, rfl, t1, fun l hl => ⟨Nat.zero_le _, fun f hf => ⟨_, _, rfl, ?_⟩⟩⟩⟩
  have e3 := (e1.new' (o := .lst (wl As)) hl).new' (o := .lst []) hf
  refine ⟨_, rfl, at_Space_rows T (h2.same e3) fun r2 t2 => ⟨r2, rfl, for_sq (k := false) (xs := wl Bs) (Pv := fun i σ H' => ∃ lr rows fs y, σ = [some (.ref p), some (.ref p2), some (.ref lr), some (.ref f), y] ∧ Same H H' ∧ H1 f = none ∧ lr ≠ f ∧ H' lr = some (.lst (wl rows)) ∧ H' f = some (.lst (wl fs)) ∧
    RowsOf (As ++ Bs.take i) rows ∧ fs.length + As.length = rows.length ∧ fs.length ≤ i ∧ SqT K H' r2 (wl Bs)) ?_ (fun i σ H' h => ?_) (fun i v σ H' hv h => ?_) (fun σ H' h => ?_)⟩⟩
  · have hlf : l ≠ f := fun z => by rw [← z, upd_same] at hf; cases hf
    have hf1 : H1 f = none := by rw [upd_ne (Ne.symm hlf)] at hf; exact hf
    refine ⟨l, As, [], none, rfl, e3, hf1, hlf, by rw [upd_ne hlf, upd_same], upd_same, ?_, by simp, Nat.le_refl _, t2⟩
    rw [List.take_zero, List.append_nil]
    exact ⟨hRA, fun _ => Iff.rfl⟩
  · obtain ⟨_, _, _, _, _, _, _, _, _, _, _, _, _, t⟩ := h
    exact t
  · obtain ⟨lr, rows, fs, y, rfl, e, hf1, hne, hlr, hff, hR, hlen, hfi, t⟩ := h
    obtain ⟨b, hb, rfl⟩ := wl_of hv
    have hi : i < Bs.length := (List.getElem?_eq_some_iff.mp hb).1
    have hz : rows.length ≤ 500 := by rw [hR.len]; exact Nat.le_trans (rk_le_len _) (by rw [List.length_append, List.length_take]; omega)
    refine ⟨_, rfl, _, rfl, _, _, rfl, lr, true, rows, b, rfl, rfl, SqL.of hlr, hR.1.pos, fun H2 e2 => ?_⟩
    refine ⟨_, _, rfl, rfl, _, rfl, ite2 (fun hc => ?_) (fun hc => ?_)⟩
    · have hc : clr rows b ≠ 0 := by simpa using hc
      have hns : ¬ Spn rows b := fun hs => hc (offs_zero hR.1.ech hs)
      refine ⟨_, rfl, _, rfl, _, _, rfl, lr, rows, b, rfl, rfl, SqL.of (e2 _ _ hlr), hR.1, hz, fun l4 H4 rows4 e4 hl4 hr4 hR4 => ?_⟩
      have hff4 := (e2.trans e4) _ _ hff
      refine ⟨_, rfl, .inl ⟨rfl, _, SqL.of hff4⟩, _, rfl, f, _, _, rfl, rfl, hff4, by rw [List.length_map]; exact small1000 (by omega), ?_⟩
      have hl4f : l4 ≠ f := fun z => by
        have := (e2.trans e4) _ _ hff
        have h4 : H' l4 = none := e2.free hl4
        rw [z, hff] at h4; cases h4
      refine ⟨l4, rows4, fs ++ [b], _, rfl, fun c o hco => ?_, hf1, hl4f, by rw [upd_ne hl4f]; exact hr4, by rw [upd_same, wl_snoc], ?_, ?_, by rw [List.length_append]; simp only [List.length_cons, List.length_nil]; omega, ?_⟩
      · have hcf : c ≠ f := ne_of_none (e1 _ _ hco) hf1
        rw [upd_ne hcf]
        exact (e.trans (e2.trans e4)) _ _ hco
      · rw [List.take_add_one, hb, ← List.append_assoc]
        exact rowsOf_step hR hR4
      · have h4 : rows4.length = rows.length + 1 := by
          rw [hR4.len, rk_out hns, (show rk rows = rows.length from ech_rk hR.1.ech)]
        rw [List.length_append, h4, List.length_cons, List.length_nil]
        omega
      · have hcf : ∀ o, H' r2 = some o → (∀ xs, o ≠ .lst xs) → r2 ≠ f := fun o ho hn z => by rw [z, hff] at ho; exact hn _ (Option.some.inj ho).symm
        rcases t with (t | ⟨o, t⟩) | t
        · exact .inl (.inl (by rw [upd_ne (hcf _ t fun _ z => by cases z)]; exact (e2.trans e4) _ _ t))
        · exact .inl (.inr ⟨o, by rw [upd_ne (hcf _ t fun _ z => by cases z)]; exact (e2.trans e4) _ _ t⟩)
        · exact .inr t
    · have hc : clr rows b = 0 := by simpa using hc
      refine ⟨lr, rows, fs, _, rfl, e.trans e2, hf1, hne, e2 _ _ hlr, e2 _ _ hff, ?_, hlen, by omega, e2.tup t⟩
      rw [List.take_add_one, hb, ← List.append_assoc]
      exact rowsOf_step hR (grown_zero hR.1 hc)
  · obtain ⟨lr, rows, fs, y, rfl, e, hf1, hne, hlr, hff, hR, hlen, hfi, t⟩ := h
    rw [show (wl Bs).length = Bs.length from List.length_map .., List.take_length] at hR
    exact ⟨_, rfl, f, true, _, rfl, SqL.of hff, fun l5 H5 e5 t5 => q l5 H5 fs rows (e.trans e5) t5 hR hlen⟩
end
end L2.Lk
/-! P3 -/
set_option Elab.async false
set_option linter.all false
set_option maxRecDepth 100000
set_option maxHeartbeats 2000000
namespace L2.Lk
open PySem PySem.Spec PyProof.Rows
section
variable {P : Program} {w : World} {K : PySem.W.Frag} {mg : Str → Option Value} {base : Heap}
theorem wl_len (ws : List Nat) : (wl ws).length = ws.length := List.length_map ..
/-! ### Map -/
abbrev sp_Map_init (K : PySem.W.Frag) : L2.Sp := S3 fun a b c H Q _ => ∃ x dx m p k cs, a = .ref x ∧ b = nV m ∧ c = .ref p ∧ H x = some (.ins (cMap K) dx []) ∧ Sq K k H p (wl cs) ∧ Lt m cs ∧ ∀ H', Sx [x] H H' → MapAt K H' x m cs → Q .non H'
theorem ok_Map_init (T : Tx P K mg) : HasM P w K mg base 4 "Map" "__init__" ["self", "goal", "columns"] (sp_Map_init K) := by
  refine ⟨m_Map_init T, ok3 (F_Map_init T) sc_Map_init fun cdv A outer s H a b c Q E hr h => ?_⟩
  obtain ⟨x, dx, m, p, k, cs, rfl, rfl, rfl, hx, hq, hlt, q⟩ := h
  refine ⟨_, (pss_cons (ps_expr (pe_h (ok_need_whole (K := K) T) (hr.mono (by decide)) passL (pa_cons (pv 1) pa_nil)))
    (pss_cons (ps_fld (pv 0) (pv 1) rfl)
    (pss_cons (ps_fld (pv 0) (pe_callTy (call_tupleM K) (by rfl) (b_tuple T) bb_tuple (pa_cons (pe_h (ok_need_words (K := K) T) (hr.mono (by decide)) passL (pa_cons (pv 2) (pa_cons (pv 1) pa_nil))) pa_nil)) rfl)
    (pss_one (ps_fld (pv 0) (pe_callB (call_lenM K) (by rfl) (b_len T) bb_len (pa_cons (pe_fldK K (pv 0)) pa_nil)) rfl))))), ?_⟩
  refine ⟨_, rfl, _, rfl, m, rfl, fun H1 e1 => ⟨_, rfl, _, rfl, _, _, _, _, rfl, e1 _ _ hx, (own_Map T).cls, na_Map_goal T, pl0, ?_⟩⟩
  have s1 : Sx [x] H (upd H1 x (.ins (cMap K) dx (putF "goal" (nV m) []))) := e1.sx.upd me
  refine ⟨_, rfl, _, rfl, _, _, rfl, p, k, cs, m, rfl, rfl, Sx.sq s1 hx hq, hlt, fun l H2 e2 hl2 hr2 => ⟨l, true, _, rfl, SqL.of hr2, fun l4 H4 e4 ht4 => ?_⟩⟩
  have hx4 := (e2.trans e4) _ _ (upd_same (H := H1) (a := x) (o := .ins (cMap K) dx (putF "goal" (nV m) [])))
  refine ⟨_, rfl, _, _, _, _, rfl, hx4, (own_Map T).cls, na_Map_columns T, pl1, ?_⟩
  have s4 := ((s1.then (e2.trans e4)).upd (o := .ins (cMap K) dx (putF "columns" (.ref l4) (putF "goal" (nV m) []))) me)
  have t4 : SqT K (upd H4 x (.ins (cMap K) dx (putF "columns" (.ref l4) (putF "goal" (nV m) [])))) l4 (wl cs) := Sx.tup (Sx.refl.upd me) hx4 ht4
  refine ⟨_, rfl, _, _, _, _, _, rfl, upd_same, (own_Map T).cls, na_Map_columns T, lk_put, _, false, _, rfl, t4, _, rfl, _, _, _, _, rfl, upd_same, (own_Map T).cls, na_Map_source T, pl2, ?_⟩
  rw [wl_len]
  exact q _ (s4.upd me) ⟨dx, l4, upd_same, Sx.tup (Sx.refl.upd me) upd_same t4⟩
theorem mkMap {H : Hp} {m : Nat} {p : Addr} {k : Bool} {cs : List Nat} {Q : Addr → Hp → Prop} {E : XK} (hq : Sq K k H p (wl cs)) (hlt : Lt m cs) (q : ∀ x H', Same H H' → H x = none → MapAt K H' x m cs → Q x H') :
    ∀ x dx, H x = none → H dx = none → dx ≠ x → sp_Map_init K [.ref x, nV m, .ref p] (upd (upd H dx (.own x)) x (.ins (cMap K) dx [])) (fun v H2 => v = .non ∧ Q x H2) E := fun x dx nx nd ne =>
  ⟨_, _, _, rfl, x, dx, m, p, k, cs, rfl, rfl, rfl, upd_same, ((Same.new nd).new' (by rw [upd_ne (Ne.symm ne)]; exact nx)).sq hq, hlt, fun H' s hs => ⟨rfl, q x H' (made_same nx nd s) nx hs⟩⟩
abbrev sp_Map_eq (K : PySem.W.Frag) : L2.Sp := S2 fun a b H Q _ => ∃ p p2 m m2 cs ds, a = .ref p ∧ b = .ref p2 ∧ MapAt K H p m cs ∧ MapAt K H p2 m2 ds ∧ ∀ H', Same H H' → Q (.bl (decide (m = m2) && decide (cs = ds))) H'
theorem ok_Map_eq (T : Tx P K mg) : HasM P w K mg base 1 "Map" "__eq__" ["self", "other"] (sp_Map_eq K) := by
  refine ⟨m_Map_eq T, ok2 (F_Map_eq T) sc_Map_eq fun cdv A outer s H a b Q E hr h => ?_⟩
  obtain ⟨p, p2, n, n2, rows, rows2, rfl, rfl, h1, h2, q⟩ := h
  have q := q _ (Same.refl _)
  refine ⟨_, (pss_one (ps_ret (pe_and (pe_callB call_isi (by rfl) (b_isinstance T) bb_isinstance (pa_cons (pv 1) (pa_cons (pe_glob (v := .ref (He.ga K "Map")) (by rfl) (g_Map T) rfl) pa_nil))) (pe_and (pe_cmpR op_eqM (pe_fldK K (pv 0)) (pe_fldK K (pv 1)) (nomark _)) (pe_one (pe_cmpR (op_eqDK K hr.units) (pe_fldK K (pv 0)) (pe_fldK K (pv 1)) (nomark _))))))), ?_⟩
  refine ⟨_, rfl, _, _, _, _, _, rfl, .own _, ty_Map T h2, kit_Map_Map T, _, rfl, iteT ⟨_, rfl, at_Map_goal T h1 ⟨_, rfl, at_Map_goal T h2 ⟨_, _, rfl, rfl, _, rfl, ?_⟩⟩⟩⟩
  refine ite2 (fun e => ?_) (fun e => ?_)
  · rw [e, Bool.true_and] at q
    exact ⟨_, rfl, at_Map_columns T h1 fun r1 t1 => ⟨_, rfl, at_Map_columns T h2 fun r2 t2 => eq_wl t1 t2 q⟩⟩
  · rw [Bool.not_eq_true] at e
    rw [e, Bool.false_and] at q
    exact q
abbrev sp_need_map (K : PySem.W.Frag) : L2.Sp := S3 fun a b c H Q _ => ∃ p m cs, a = .ref p ∧ b = nV cs.length ∧ c = nV m ∧ MapAt K H p m cs ∧ ∀ H', Same H H' → Q .non H'
theorem ok_need_map (T : Tx P K mg) : Has P w K mg base 1 "need_map" ["value", "source", "goal"] (sp_need_map K) := by
  refine ⟨g_need_map T, ok3 (F_need_map T) sc_need_map fun cdv A outer s H a b c Q E hr h => ?_⟩
  obtain ⟨p, m, cs, rfl, rfl, rfl, hs, q⟩ := h
  refine ⟨_, (pss_one (ps_if (PW.pt (pw_or (pt_not (pt_val (pe_callB call_isi (by rfl) (b_isinstance T) bb_isinstance (pa_cons (pv 0) (pa_cons (pe_glob (v := .ref (He.ga K "Map")) (by rfl) (g_Map T) rfl) pa_nil))))) (pw_or (pt_cmpR op_neM (pe_fldK K (pv 0)) (pv 1) (nomark _)) (pw_or1 (pt_cmpR op_neM (pe_fldK K (pv 0)) (pv 2) (nomark _)))))) (pss_one ps_never) pss_nil)), ?_⟩
  refine ⟨_, rfl, _, _, _, _, _, rfl, .own _, ty_Map T hs, kit_Map_Map T, _, rfl, iteF ⟨_, rfl, at_Map_source T hs ⟨_, rfl, _, _, rfl, rfl, _, rfl, ?_⟩⟩⟩
  exact iteNS rfl ⟨_, rfl, at_Map_goal T hs ⟨_, rfl, _, _, rfl, rfl, _, rfl, iteNS rfl (q _ (Same.refl _))⟩⟩
theorem KerOf.absurd {cs ks : List Nat} {r : Nat} (h : KerOf cs (r :: ks)) (hi : rk cs = cs.length) : False := by
  have := h.nil.mpr hi
  cases this
abbrev sp_need_one_to_one (K : PySem.W.Frag) : L2.Sp := S1 fun a H Q E => ∃ p m cs, a = .ref p ∧ MapAt K H p m cs ∧ cs.length ≤ 100 ∧ Lt 64 cs ∧ (rk cs = cs.length → ∀ H', Same H H' → Q .non H') ∧
  ∀ d H' r ks, KerOf cs (r :: ks) → Same H H' → H d = none → H' d = some (.xd [("word", nV r)]) → E (.ref (cNotOneToOne K)) (some d) H'
theorem ok_need_one_to_one (T : Tx P K mg) : Has P w K mg base 6 "need_one_to_one" ["change"] (sp_need_one_to_one K) := by
  refine ⟨g_need_one_to_one T, ok1 (F_need_one_to_one T) sc_need_one_to_one fun cdv A outer s H a Q E hr h => ?_⟩
  obtain ⟨p, m, cs, rfl, hm, hz, hlt, q, qe⟩ := h
  refine ⟨_, (pss_cons (ps_set (i := 1) sc_need_one_to_one.nd rfl (.inl rfl) (pe_h (ok_kernel_rows (K := K) T) (hr.mono (by decide)) passL (pa_cons (pe_fldK K (pv 0)) pa_nil)))
    (pss_one (ps_if (pt_cmpR (op_neDK K hr.units) (pv 1) (pe_lst pa_nil) (nomark _)) (pss_one (rz_NotOneToOne T hr (takes_of rfl rfl rfl rfl) (pa_cons (pe_ix ix_list (pv 1) (pe_nat 0) (fun _ _ => rfl)) pa_nil))) pss_nil))), ?_⟩
  refine ⟨_, rfl, at_Map_columns T hm fun r t => ⟨_, rfl, r, false, cs, rfl, ⟨t, hz, hlt⟩, fun l H1 ks e1 hl hk hK => ?_⟩⟩
  refine ⟨_, rfl, Nat.zero_le _, fun l2 hl2 => ?_⟩
  have hk2 : upd H1 l2 (.lst []) l = some (.lst (wl ks)) := by rw [upd_ne (ne_of_none hk hl2)]; exact hk
  refine ne_wlL (as := ks) (bs := []) (SqL.of hk2) (SqL.of upd_same) ⟨_, rfl, ?_⟩
  cases ks with
  | nil => exact iteNS rfl (q (hK.nil.mp rfl) _ (e1.new' hl2))
  | cons r ks =>
    refine iteT ⟨_, rfl, l, _, _, nV r, rfl, rfl, SqL.of hk2, atI_nat (j := 0) rfl, rz1_rd fun d hd => ?_⟩
    exact qe d _ r ks hK ((e1.new' hl2).new' hd) ((e1.new' hl2).free hd) upd_same
abbrev sp_need_onto (K : PySem.W.Frag) : L2.Sp := S1 fun a H Q _ => ∃ p m cs, a = .ref p ∧ MapAt K H p m cs ∧ cs.length ≤ 100 ∧ rk cs = m ∧ ∀ H', Same H H' → Q .non H'
theorem ok_need_onto (T : Tx P K mg) : Has P w K mg base 4 "need_onto" ["change"] (sp_need_onto K) := by
  refine ⟨g_need_onto T, ok1 (F_need_onto T) sc_need_onto fun cdv A outer s H a Q E hr h => ?_⟩
  obtain ⟨p, m, cs, rfl, hm, hz, hrk, q⟩ := h
  refine ⟨_, (pss_cons (ps_set (i := 1) sc_need_onto.nd rfl (.inl rfl) (pe_h (ok_spanned (K := K) T) (hr.mono (by decide)) passL (pa_cons (pe_fldK K (pv 0)) pa_nil)))
    (pss_one (ps_if (pt_cmpR op_ltM (pe_callB (call_lenM K) (by rfl) (b_len T) bb_len (pa_cons (pv 1) pa_nil)) (pe_fldK K (pv 0)) (nomark _)) (pss_one ps_never) pss_nil))), ?_⟩
  refine ⟨_, rfl, at_Map_columns T hm fun r t => ⟨_, rfl, r, false, cs, rfl, t, by omega, fun l H1 rows e1 hl hr1 hR => ?_⟩⟩
  refine ⟨_, rfl, l, true, _, rfl, SqL.of hr1, _, rfl, at_Map_goal T (hm.same e1) ⟨_, _, rfl, rfl, _, rfl, ?_⟩⟩
  rw [wl_len, hR.len, hrk, decide_eq_false (Nat.lt_irrefl _)]
  exact iteF (q _ e1)
abbrev sp_Map_mul (K : PySem.W.Frag) : L2.Sp := S2 fun a b H Q _ => ∃ p p2 m cs ds, a = .ref p ∧ b = .ref p2 ∧ MapAt K H p m cs ∧ MapAt K H p2 cs.length ds ∧ cs.length ≤ 9 ∧ ds.length ≤ 100 ∧ Lt cs.length ds ∧ Lt m cs ∧
  ∀ r H', Same H H' → H r = none → MapAt K H' r m (ds.map (img cs)) → Q (.ref r) H'
theorem ok_Map_mul (T : Tx P K mg) : HasM P w K mg base 6 "Map" "__mul__" ["self", "other"] (sp_Map_mul K) := by
  refine ⟨m_Map_mul T, ok2 (F_Map_mul T) sc_Map_mul fun cdv A outer s H a b Q E hr h => ?_⟩
  obtain ⟨p, p2, m, cs, ds, rfl, rfl, h1, h2, hn, hd, lds, lcs, q⟩ := h
  refine ⟨_, (pss_cons (ps_if (PW.pt (pw_or (pt_not (pt_val (pe_callB call_isi (by rfl) (b_isinstance T) bb_isinstance (pa_cons (pv 1) (pa_cons (pe_glob (v := .ref (He.ga K "Map")) (by rfl) (g_Map T) rfl) pa_nil))))) (pw_or1 (pt_cmpR op_neM (pe_fldK K (pv 1)) (pe_fldK K (pv 0)) (nomark _))))) (pss_one ps_never) pss_nil)
    (pss_one (ps_ret (pe_hc (ok_Map_init (K := K) T) (mk_Map T) (g_Map T) (hr.mono (by decide)) passL (pa_cons (pe_fldK K (pv 0)) (pa_cons (pe_lc (own := [("column", 2)]) (g := gName 2) rfl sc_Map_mul.nd (pi_seq (pe_fldK K (pv 1))) (blkOk_by (own := [("column", 2)]) (N := N_Map_mul) (sc := defScope st_Map_mul) (by decide +kernel)) (fun _ _ _ _ _ => pg_name (i := 2) sc_Map_mul.nd rfl (Or.inl rfl)) (fun _ _ _ _ _ => pts_nil) (fun _ _ _ _ _ => (pe_h (ok_image_of (K := K) T) (hr.mono (by decide)) passL (pa_cons (pe_fldK K (pv 0)) (pa_cons (pv 2) pa_nil))))) pa_nil)))))), ?_⟩
  refine ⟨_, rfl, _, _, _, _, _, rfl, .own _, ty_Map T h2, kit_Map_Map T, _, rfl, iteF ⟨_, rfl, at_Map_goal T h2 ⟨_, rfl, at_Map_source T h1 ⟨_, _, rfl, rfl, _, rfl, iteNS rfl ?_⟩⟩⟩⟩
  refine ⟨_, rfl, at_Map_goal T h1 ⟨_, rfl, at_Map_columns T h2 fun r2 t2 => ⟨r2, rfl, ?_⟩⟩⟩
  refine lc_natM (k := false) (ws := ds) (img cs) t2 (by omega) (fun i x H1 Nx No hi e1 hN => ⟨rfl, ?_⟩) (fun D H1 hD e1 hd => ?_)
  · have hx := lds x (List.mem_of_getElem? hi)
    have hx2 : x ≤ 1000 := by
      have : 2 ^ cs.length ≤ 2 ^ 9 := Nat.pow_le_pow_right (by decide) hn
      omega
    exact ⟨_, rfl, at_Map_columns T (h1.same e1) fun r1 t1 => ⟨_, rfl, _, _, rfl, r1, false, cs, x, rfl, rfl, t1, hx, hx2, fun H2 e2 => hN _ e2⟩⟩
  · exact mkMap (k := true) (SqL.of hd) (Lt.map lcs) fun x H2 e2 hx hm => q x H2 (e1.trans e2) (e1.free hx) hm
abbrev sp_Map_invert (K : PySem.W.Frag) : L2.Sp := S1 fun a H Q _ => ∃ p cs, a = .ref p ∧ MapAt K H p cs.length cs ∧ cs.length ≤ 50 ∧ Lt cs.length cs ∧ rk cs = cs.length ∧ ∀ r H', Same H H' → H r = none → MapAt K H' r cs.length (lbacks cs) → Q (.ref r) H'
theorem Lt.le {n m : Nat} {ws : List Nat} (h : Lt n ws) (hm : n ≤ m) : Lt m ws := fun w hw => Nat.lt_of_lt_of_le (h w hw) (Nat.pow_le_pow_right (by decide) hm)
theorem ok_Map_invert (T : Tx P K mg) : HasM P w K mg base 7 "Map" "__invert__" ["self"] (sp_Map_invert K) := by
  refine ⟨m_Map_invert T, ok1 (F_Map_invert T) sc_Map_invert fun cdv A outer s H a Q E hr h => ?_⟩
  obtain ⟨p, cs, rfl, hm, hz, hlt, hi, q⟩ := h
  refine ⟨_, (pss_cons (ps_expr (pe_h (ok_need_one_to_one (K := K) T) (hr.mono (by decide)) passL (pa_cons (pv 0) pa_nil)))
    (pss_cons (ps_expr (pe_h (ok_need_onto (K := K) T) (hr.mono (by decide)) passL (pa_cons (pv 0) pa_nil)))
    (pss_cons (ps_set (i := 1) sc_Map_invert.nd rfl (.inr rfl) (pe_h (ok_paired (K := K) T) (hr.mono (by decide)) passL (pa_cons (pe_fldK K (pv 0)) pa_nil)))
    (pss_one (ps_ret (pe_hc (ok_Map_init (K := K) T) (mk_Map T) (g_Map T) (hr.mono (by decide)) passL (pa_cons (pe_fldK K (pv 0)) (pa_cons (pe_lc (own := [("bit", 2)]) (g := gName 2) rfl sc_Map_invert.nd (pi_range1 (by rfl) (b_range T) (pa_cons (pe_fldK K (pv 0)) pa_nil)) (blkOk_by (own := [("bit", 2)]) (N := N_Map_invert) (sc := defScope st_Map_invert) (by decide +kernel)) (fun _ _ _ _ _ => pg_name (i := 2) sc_Map_invert.nd rfl (Or.inl rfl)) (fun _ _ _ _ _ => pts_nil) (fun _ _ _ _ _ => (pe_h (ok_solved (K := K) T) (hr.mono (by decide)) passL (pa_cons (pv 1) (pa_cons (pe_fldK K (pv 0)) (pa_cons (pe_op op_shlM (pe_nat 1) (pv 2)) pa_nil)))))) pa_nil)))))))), ?_⟩
  refine ⟨_, rfl, _, rfl, p, _, cs, rfl, hm, by omega, hlt.le (by omega), fun _ H1 e1 => ?_, fun d H' r ks hK => (hK.absurd hi).elim⟩
  refine ⟨_, rfl, _, rfl, p, _, cs, rfl, hm.same e1, by omega, hi, fun H2 e2 => ?_⟩
  have m2 := hm.same (e1.trans e2)
  refine ⟨_, rfl, at_Map_columns T m2 fun r t => ⟨_, rfl, r, false, cs, rfl, ⟨t, by omega, hlt.le (by omega)⟩, fun l H3 rows e3 hl hr3 hR => ?_⟩⟩
  have m3 := m2.same e3
  refine ⟨_, rfl, at_Map_source T m3 ⟨_, rfl, at_Map_goal T m3 ⟨_, rfl, by omega, by omega, ?_⟩⟩⟩
  have hsol : ∀ i, i < cs.length → clr rows (1 * 2 ^ i * 2 ^ cs.length) < 2 ^ cs.length ∧ img cs (clr rows (1 * 2 ^ i * 2 ^ cs.length)) = 2 ^ i := fun i hi2 => by
    obtain ⟨x, hx, ex⟩ := (inv_iff hlt).mp hi (2 ^ i) (Nat.pow_lt_pow_right (by decide) hi2)
    rw [Nat.one_mul, solved_eq hR hi hx ex]
    exact ⟨hx, ex⟩
  refine lc_rangeN (n := cs.length) (fun i => clr rows (1 * 2 ^ i * 2 ^ cs.length)) (by omega) (fun i H4 Nx No hi2 e4 hN => ⟨rfl, ?_⟩) (fun D H4 hD e4 hd => ?_)
  · have h64 : 1 * 2 ^ i < 2 ^ 64 := by rw [Nat.one_mul]; exact Nat.pow_lt_pow_right (by decide) (by omega)
    exact ⟨_, rfl, _, rfl, at_Map_source T (m3.same e4) ⟨_, rfl, _, _, rfl, rfl, ⟨by decide, by omega⟩, _, _, _, rfl, l, true, rows, cs.length, 1 * 2 ^ i, rfl, rfl, rfl, SqL.of (e4 _ _ hr3), hR.1.pos, h64, by omega, (hsol i hi2).1, fun H5 e5 => hN _ e5⟩⟩
  · have hb : (List.range cs.length).map (fun i => clr rows (1 * 2 ^ i * 2 ^ cs.length)) = lbacks cs := backs_unique hlt hi (by simp) fun i x hx => by
      rw [List.getElem?_map] at hx
      by_cases hi2 : i < cs.length
      · rw [List.getElem?_range hi2] at hx
        have hx : clr rows (1 * 2 ^ i * 2 ^ cs.length) = x := by simpa using hx
        rw [← hx]; exact hsol i hi2
      · rw [List.getElem?_eq_none (by rw [List.length_range]; omega)] at hx
        cases hx
    rw [hb] at hd
    exact mkMap (k := true) (SqL.of hd) (lbacks_lt hlt hi) fun x H5 e5 hx hmx => q x H5 ((e1.trans e2).trans (e3.trans (e4.trans e5))) (((e1.trans e2).trans (e3.trans e4)).free hx) hmx
abbrev sp_Map_kernel (K : PySem.W.Frag) : L2.Sp := S1 fun a H Q _ => ∃ p m cs, a = .ref p ∧ MapAt K H p m cs ∧ cs.length ≤ 100 ∧ Lt 64 cs ∧ ∀ r H' R, Same H H' → H r = none → SpaceAt K H' r cs.length R → KerOf cs R → Q (.ref r) H'
theorem KerOf.lt {cs ks : List Nat} (h : KerOf cs ks) : Lt cs.length ks := fun x hx => ((h.2 x).mp (sp_mem hx)).1
theorem KerOf.len {cs ks : List Nat} (h : KerOf cs ks) : ks.length ≤ cs.length := by have := h.rank; omega
theorem ok_Map_kernel (T : Tx P K mg) : HasM P w K mg base 6 "Map" "kernel" ["self"] (sp_Map_kernel K) := by
  refine ⟨m_Map_kernel T, ok1 (F_Map_kernel T) sc_Map_kernel fun cdv A outer s H a Q E hr h => ?_⟩
  obtain ⟨p, m, cs, rfl, hm, hz, hlt, q⟩ := h
  refine ⟨_, (pss_one (ps_ret (pe_hc (ok_Space_init (K := K) T) (mk_Space T) (g_Space T) (hr.mono (by decide)) passL (pa_cons (pe_fldK K (pv 0)) (pa_cons (pe_h (ok_kernel_rows (K := K) T) (hr.mono (by decide)) passL (pa_cons (pe_fldK K (pv 0)) pa_nil)) pa_nil))))), ?_⟩
  refine ⟨_, rfl, at_Map_source T hm ⟨_, rfl, at_Map_columns T hm fun r t => ⟨_, rfl, r, false, cs, rfl, ⟨t, hz, hlt⟩, fun l H1 ks e1 hl hk hK => ?_⟩⟩⟩
  exact mkSpace (k := true) (SqL.of hk) (by have := hK.len; omega) hK.lt fun x H2 R e2 hx hs hR => q x H2 R (e1.trans e2) (e1.free hx) hs ⟨hR.1, fun y => (hR.2 y).trans (hK.2 y)⟩
abbrev sp_Map_moved (K : PySem.W.Frag) : L2.Sp := S2 fun a b H Q _ => ∃ p p2 m cs As, a = .ref p ∧ b = .ref p2 ∧ MapAt K H p m cs ∧ SpaceAt K H p2 cs.length As ∧ cs.length ≤ 9 ∧ As.length ≤ 100 ∧ Lt cs.length As ∧ Lt m cs ∧
  ∀ r H' R, Same H H' → H r = none → SpaceAt K H' r m R → RowsOf (As.map (img cs)) R → Q (.ref r) H'
theorem ok_Map_moved (T : Tx P K mg) : HasM P w K mg base 6 "Map" "moved" ["self", "space"] (sp_Map_moved K) := by
  refine ⟨m_Map_moved T, ok2 (F_Map_moved T) sc_Map_moved fun cdv A outer s H a b Q E hr h => ?_⟩
  obtain ⟨p, p2, m, cs, As, rfl, rfl, hm, hs, hn, hz, lA, lc, q⟩ := h
  refine ⟨_, (pss_cons (ps_expr (pe_h (ok_need_space (K := K) T) (hr.mono (by decide)) passL (pa_cons (pv 1) (pa_cons (pe_fldK K (pv 0)) pa_nil))))
    (pss_one (ps_ret (pe_hc (ok_Space_init (K := K) T) (mk_Space T) (g_Space T) (hr.mono (by decide)) passL (pa_cons (pe_fldK K (pv 0)) (pa_cons (pe_lc (own := [("row", 2)]) (g := gName 2) rfl sc_Map_moved.nd (pi_seq (pe_fldK K (pv 1))) (blkOk_by (own := [("row", 2)]) (N := N_Map_moved) (sc := defScope st_Map_moved) (by decide +kernel)) (fun _ _ _ _ _ => pg_name (i := 2) sc_Map_moved.nd rfl (Or.inl rfl)) (fun _ _ _ _ _ => pts_nil) (fun _ _ _ _ _ => (pe_h (ok_image_of (K := K) T) (hr.mono (by decide)) passL (pa_cons (pe_fldK K (pv 0)) (pa_cons (pv 2) pa_nil))))) pa_nil)))))), ?_⟩
  refine ⟨_, rfl, _, rfl, at_Map_source T hm ⟨_, _, rfl, p2, cs.length, As, rfl, rfl, hs, fun H1 e1 => ?_⟩⟩
  refine ⟨_, rfl, at_Map_goal T (hm.same e1) ⟨_, rfl, at_Space_rows T (hs.same e1) fun r t => ⟨r, rfl, ?_⟩⟩⟩
  refine lc_natM (k := false) (ws := As) (img cs) t (by omega) (fun i x H2 Nx No hi e2 hN => ⟨rfl, ?_⟩) (fun D H2 hD e2 hd => ?_)
  · have hx := lA x (List.mem_of_getElem? hi)
    have hx2 : x ≤ 1000 := by
      have : 2 ^ cs.length ≤ 2 ^ 9 := Nat.pow_le_pow_right (by decide) hn
      omega
    exact ⟨_, rfl, at_Map_columns T (hm.same (e1.trans e2)) fun r1 t1 => ⟨_, rfl, _, _, rfl, r1, false, cs, x, rfl, rfl, t1, hx, hx2, fun H2 e2 => hN _ e2⟩⟩
  · exact mkSpace (k := true) (SqL.of hd) (by rw [List.length_map]; omega) (Lt.map lc) fun x H3 R e3 hx hsx hR => q x H3 R ((e1.trans e2).trans e3) ((e1.trans e2).free hx) hsx hR
/-! ### Spread -/
abbrev sp_Spread_init (K : PySem.W.Frag) : L2.Sp := S4 fun a b c d H Q _ => ∃ x dx n p k s p2 k2 l, a = .ref x ∧ b = nV n ∧ c = .ref p ∧ d = .ref p2 ∧ H x = some (.ins (cSpread K) dx []) ∧ Sq K k H p (wl s) ∧ Sq K k2 H p2 (wl l) ∧ Lt n s ∧ Lt n l ∧ s.length ≤ 100 ∧ l.length ≤ 100 ∧ rk (s ++ l) = n ∧
  ∀ H', Sx [x] H H' → SpreadAt K H' x n s l → Q .non H'
theorem ok_Spread_init (T : Tx P K mg) : HasM P w K mg base 4 "Spread" "__init__" ["self", "bits", "slots", "lanes"] (sp_Spread_init K) := by
  refine ⟨m_Spread_init T, ok4 (F_Spread_init T) sc_Spread_init fun cdv A outer s H a b c d Q E hr h => ?_⟩
  obtain ⟨x, dx, n, p, k, ss, p2, k2, ls, rfl, rfl, rfl, rfl, hx, hq, hq2, lts, ltl, zs, zl, hrk, q⟩ := h
  refine ⟨_, (pss_cons (ps_expr (pe_h (ok_need_whole (K := K) T) (hr.mono (by decide)) passL (pa_cons (pv 1) pa_nil)))
    (pss_cons (ps_fld (pv 0) (pv 1) rfl)
    (pss_cons (ps_fld (pv 0) (pe_callTy (call_tupleM K) (by rfl) (b_tuple T) bb_tuple (pa_cons (pe_h (ok_need_words (K := K) T) (hr.mono (by decide)) passL (pa_cons (pv 2) (pa_cons (pv 1) pa_nil))) pa_nil)) rfl)
    (pss_cons (ps_fld (pv 0) (pe_callTy (call_tupleM K) (by rfl) (b_tuple T) bb_tuple (pa_cons (pe_h (ok_need_words (K := K) T) (hr.mono (by decide)) passL (pa_cons (pv 3) (pa_cons (pv 1) pa_nil))) pa_nil)) rfl)
    (pss_cons (ps_set (i := 4) sc_Spread_init.nd rfl (.inl rfl) (pe_h (ok_spanned (K := K) T) (hr.mono (by decide)) passL (pa_cons (pe_op op_cat (pe_callTy (call_listM K) (by rfl) (b_list T) bb_list (pa_cons (pe_fldK K (pv 0)) pa_nil)) (pe_callTy (call_listM K) (by rfl) (b_list T) bb_list (pa_cons (pe_fldK K (pv 0)) pa_nil))) pa_nil)))
    (pss_one (ps_if (pt_cmpR op_ltM (pe_callB (call_lenM K) (by rfl) (b_len T) bb_len (pa_cons (pv 4) pa_nil)) (pv 1) (nomark _)) (pss_one ps_never) pss_nil))))))), ?_⟩
  refine ⟨_, rfl, _, rfl, n, rfl, fun H1 e1 => ⟨_, rfl, _, rfl, _, _, _, _, rfl, e1 _ _ hx, (own_Spread T).cls, na_Spread_bits T, pl0, ?_⟩⟩
  have s1 : Sx [x] H (upd H1 x (.ins (cSpread K) dx (putF "bits" (nV n) []))) := e1.sx.upd me
  refine ⟨_, rfl, _, rfl, _, _, rfl, p, k, ss, n, rfl, rfl, Sx.sq s1 hx hq, lts, fun l H2 e2 hl2 hr2 => ⟨l, true, _, rfl, SqL.of hr2, fun l4 H4 e4 ht4 => ?_⟩⟩
  have hx4 := (e2.trans e4) _ _ (upd_same (H := H1) (a := x) (o := .ins (cSpread K) dx (putF "bits" (nV n) [])))
  refine ⟨_, rfl, _, _, _, _, rfl, hx4, (own_Spread T).cls, na_Spread_slots T, pl1, ?_⟩
  have s4 := ((s1.then (e2.trans e4)).upd (o := .ins (cSpread K) dx (putF "slots" (.ref l4) (putF "bits" (nV n) []))) me)
  have t4 : SqT K (upd H4 x (.ins (cSpread K) dx (putF "slots" (.ref l4) (putF "bits" (nV n) [])))) l4 (wl ss) := Sx.tup (Sx.refl.upd me) hx4 ht4
  refine ⟨_, rfl, _, rfl, _, _, rfl, p2, k2, ls, n, rfl, rfl, Sx.sq s4 hx hq2, ltl, fun l5 H5 e5 hl5 hr5 => ⟨l5, true, _, rfl, SqL.of hr5, fun l6 H6 e6 ht6 => ?_⟩⟩
  have hx6 := (e5.trans e6) _ _ (upd_same (H := H4) (a := x) (o := .ins (cSpread K) dx (putF "slots" (.ref l4) (putF "bits" (nV n) []))))
  refine ⟨_, rfl, _, _, _, _, rfl, hx6, (own_Spread T).cls, na_Spread_lanes T, pl2, ?_⟩
  have s6 := ((s4.then (e5.trans e6)).upd (o := .ins (cSpread K) dx (fSpread (nV n) (.ref l4) (.ref l6))) me)
  have at6 : SpreadAt K (upd H6 x (.ins (cSpread K) dx (fSpread (nV n) (.ref l4) (.ref l6)))) x n ss ls := ⟨dx, l4, l6, upd_same, Sx.tup (Sx.refl.upd me) hx6 ((e5.trans e6).tup t4), Sx.tup (Sx.refl.upd me) hx6 ht6⟩
  refine ⟨_, rfl, at_Spread_slots T at6 fun r1 t1 => ⟨r1, false, _, rfl, t1, fun l7 hl7 => ?_⟩⟩
  have at7 := at6.same (Same.new (o := .lst (wl ss)) hl7)
  refine ⟨_, rfl, at_Spread_lanes T at7 fun r2 t2 => ⟨r2, false, _, rfl, t2, fun l8 hl8 => ?_⟩⟩
  refine ⟨_, _, _, _, rfl, rfl, (by rw [upd_ne (ne_of_none upd_same hl8)]; exact upd_same), upd_same, by rw [wl_len, wl_len]; exact Nat.le_of_lt (small1000 (by omega)), fun l9 hl9 => ?_⟩
  have e9 := ((Same.new (o := .lst (wl ss)) hl7).new' (o := .lst (wl ls)) hl8).new' (o := .lst (wl ss ++ wl ls)) hl9
  refine ⟨_, rfl, l9, true, ss ++ ls, rfl, SqL.of (by rw [upd_same, wl_append]), by rw [List.length_append]; omega, fun l10 H10 rows e10 hl10 hr10 hR => ?_⟩
  refine ⟨_, rfl, l10, true, _, rfl, SqL.of hr10, _, rfl, _, _, rfl, rfl, _, rfl, ?_⟩
  rw [wl_len, hR.len, hrk, decide_eq_false (Nat.lt_irrefl _)]
  exact iteF (q _ (s6.then (e9.trans e10)) (at6.same (e9.trans e10)))
theorem mkSpread {H : Hp} {n : Nat} {p p2 : Addr} {k k2 : Bool} {s l : List Nat} {Q : Addr → Hp → Prop} {E : XK} (hq : Sq K k H p (wl s)) (hq2 : Sq K k2 H p2 (wl l)) (lts : Lt n s) (ltl : Lt n l) (zs : s.length ≤ 100) (zl : l.length ≤ 100) (hrk : rk (s ++ l) = n)
    (q : ∀ x H', Same H H' → H x = none → SpreadAt K H' x n s l → Q x H') :
    ∀ x dx, H x = none → H dx = none → dx ≠ x → sp_Spread_init K [.ref x, nV n, .ref p, .ref p2] (upd (upd H dx (.own x)) x (.ins (cSpread K) dx [])) (fun v H2 => v = .non ∧ Q x H2) E := fun x dx nx nd ne =>
  have e := (Same.new (o := .own x) nd).new' (o := .ins (cSpread K) dx []) (by rw [upd_ne (Ne.symm ne)]; exact nx)
  ⟨_, _, _, _, rfl, x, dx, n, p, k, s, p2, k2, l, rfl, rfl, rfl, rfl, upd_same, e.sq hq, e.sq hq2, lts, ltl, zs, zl, hrk, fun H' s hs => ⟨rfl, q x H' (made_same nx nd s) nx hs⟩⟩
abbrev sp_any_spread (K : PySem.W.Frag) : L2.Sp := S1 fun a H Q _ => ∃ p n s l, a = .ref p ∧ SpreadAt K H p n s l ∧ ∀ H', Same H H' → Q .non H'
theorem ok_any_spread (T : Tx P K mg) : Has P w K mg base 1 "any_spread" ["value"] (sp_any_spread K) := by
  refine ⟨g_any_spread T, ok1 (F_any_spread T) sc_any_spread fun cdv A outer s H a Q E hr h => ?_⟩
  obtain ⟨p, n, ss, ls, rfl, hs, q⟩ := h
  refine ⟨_, (pss_one (ps_if (pt_not (pt_val (pe_callB call_isi (by rfl) (b_isinstance T) bb_isinstance (pa_cons (pv 0) (pa_cons (pe_glob (v := .ref (He.ga K "Spread")) (by rfl) (g_Spread T) rfl) pa_nil))))) (pss_one ps_never) pss_nil)), ?_⟩
  exact ⟨_, rfl, _, _, _, _, _, rfl, .own _, ty_Spread T hs, kit_Spread_Spread T, _, rfl, iteF (q _ (Same.refl _))⟩
abbrev sp_slot_space (K : PySem.W.Frag) : L2.Sp := S1 fun a H Q _ => ∃ p n s l, a = .ref p ∧ SpreadAt K H p n s l ∧ Lt n s ∧ s.length ≤ 100 ∧ ∀ r H' R, Same H H' → H r = none → SpaceAt K H' r n R → RowsOf s R → Q (.ref r) H'
theorem ok_Spread_slot_space (T : Tx P K mg) : HasM P w K mg base 6 "Spread" "slot_space" ["self"] (sp_slot_space K) := by
  refine ⟨m_Spread_slot_space T, ok1 (F_Spread_slot_space T) sc_Spread_slot_space fun cdv A outer s H a Q E hr h => ?_⟩
  obtain ⟨p, n, ss, ls, rfl, hs, lts, zs, q⟩ := h
  refine ⟨_, (pss_one (ps_ret (pe_hc (ok_Space_init (K := K) T) (mk_Space T) (g_Space T) (hr.mono (by decide)) passL (pa_cons (pe_fldK K (pv 0)) (pa_cons (pe_fldK K (pv 0)) pa_nil))))), ?_⟩
  exact ⟨_, rfl, at_Spread_bits T hs ⟨_, rfl, at_Spread_slots T hs fun r t => mkSpace (k := false) t (by omega) lts fun x H1 R e1 hx hsx hR => q x H1 R e1 hx hsx hR⟩⟩
abbrev sp_twins (K : PySem.W.Frag) : L2.Sp := S1 fun a H Q _ => ∃ p n s l, a = .ref p ∧ SpreadAt K H p n s l ∧ n ≤ 50 ∧ Lt n s ∧ Lt n l ∧ s.length ≤ 100 ∧ l.length ≤ 100 ∧
  ∀ r H' R1 K1, Same H H' → H r = none → SpaceAt K H' r l.length K1 → RowsOf s R1 → KerOf (l.map (clr R1)) K1 → Q (.ref r) H'
theorem clr_lt {R : List Nat} {n x : Nat} (hR : ∀ r ∈ R, r < 2 ^ n) (hx : x < 2 ^ n) : clr R x < 2 ^ n := by
  have h := sp_lt hR (clr_sp R x)
  have e : clr R x = x ^^^ (x ^^^ clr R x) := by rw [← Nat.xor_assoc, Nat.xor_self, Nat.zero_xor]
  rw [e]
  exact Nat.xor_lt_two_pow hx h
theorem ok_Spread_twins (T : Tx P K mg) : HasM P w K mg base 6 "Spread" "twins" ["self"] (sp_twins K) := by
  refine ⟨m_Spread_twins T, ok1 (F_Spread_twins T) sc_Spread_twins fun cdv A outer s H a Q E hr h => ?_⟩
  obtain ⟨p, n, ss, ls, rfl, hs, hn, lts, ltl, zs, zl, q⟩ := h
  refine ⟨_, (pss_cons (ps_set (i := 1) sc_Spread_twins.nd rfl (.inr rfl) (pe_h (ok_spanned (K := K) T) (hr.mono (by decide)) passL (pa_cons (pe_fldK K (pv 0)) pa_nil)))
    (pss_one (ps_ret (pe_hc (ok_Space_init (K := K) T) (mk_Space T) (g_Space T) (hr.mono (by decide)) passL (pa_cons (pe_callB (call_lenM K) (by rfl) (b_len T) bb_len (pa_cons (pe_fldK K (pv 0)) pa_nil)) (pa_cons (pe_h (ok_kernel_rows (K := K) T) (hr.mono (by decide)) passL (pa_cons (pe_lc (own := [("word", 2)]) (g := gName 2) rfl sc_Spread_twins.nd (pi_seq (pe_fldK K (pv 0))) (blkOk_by (own := [("word", 2)]) (N := N_Spread_twins) (sc := defScope st_Spread_twins) (by decide +kernel)) (fun _ _ _ _ _ => pg_name (i := 2) sc_Spread_twins.nd rfl (Or.inl rfl)) (fun _ _ _ _ _ => pts_nil) (fun _ _ _ _ _ => (pe_h (ok_cleared (K := K) T) (hr.mono (by decide)) passL (pa_cons (pv 1) (pa_cons (pv 2) pa_nil))))) pa_nil)) pa_nil)))))), ?_⟩
  refine ⟨_, rfl, at_Spread_slots T hs fun r t => ⟨_, rfl, r, false, ss, rfl, t, by omega, fun l1 H1 R1 e1 hl1 hr1 hR1 => ?_⟩⟩
  refine ⟨_, rfl, at_Spread_lanes T (hs.same e1) fun r2 t2 => ⟨_, false, _, rfl, t2, _, rfl, at_Spread_lanes T (hs.same e1) fun r3 t3 => ⟨r3, rfl, ?_⟩⟩⟩
  refine lc_natM (k := false) (ws := ls) (clr R1) t3 (by omega) (fun i x H2 Nx No hi e2 hN => ⟨rfl, ?_⟩) (fun D H2 hD e2 hd => ?_)
  · exact ⟨_, rfl, _, rfl, _, _, rfl, l1, true, R1, x, rfl, rfl, SqL.of (e2 _ _ hr1), hR1.1.pos, fun H2 e2 => hN _ e2⟩
  · have hl1 : Lt n (ls.map (clr R1)) := fun y hy => by
      obtain ⟨x, hx, rfl⟩ := List.mem_map.mp hy
      exact clr_lt (hR1.lt lts) (ltl x hx)
    refine ⟨_, rfl, D, true, _, rfl, ⟨SqL.of hd, by rw [List.length_map]; omega, hl1.le (by omega)⟩, fun l3 H3 ks e3 hl3 hk hK => ?_⟩
    have hlen : (ls.map (clr R1)).length = ls.length := List.length_map ..
    rw [wl_len]
    refine mkSpace (k := true) (SqL.of hk) (by have := hK.len; omega) (by have := hK.lt; rw [hlen] at this; exact this) fun x H4 R e4 hx hsx hR => ?_
    exact q x H4 R1 R ((e1.trans e2).trans (e3.trans e4)) ((e1.trans (e2.trans e3)).free hx) hsx hR1 ⟨hR.1, fun y => (hR.2 y).trans (hK.2 y)⟩
abbrev sp_renamed (K : PySem.W.Frag) : L2.Sp := S2 fun a b H Q _ => ∃ p p2 s l cs, a = .ref p ∧ b = .ref p2 ∧ SpreadAt K H p cs.length s l ∧ MapAt K H p2 cs.length cs ∧ cs.length ≤ 9 ∧ Lt cs.length cs ∧ rk cs = cs.length ∧ Lt cs.length s ∧ Lt cs.length l ∧ s.length ≤ 100 ∧ l.length ≤ 100 ∧ rk (s ++ l) = cs.length ∧
  ∀ r H', Same H H' → H r = none → SpreadAt K H' r cs.length (s.map (img cs)) (l.map (img cs)) → Q (.ref r) H'
theorem ok_Spread_renamed (T : Tx P K mg) : HasM P w K mg base 7 "Spread" "renamed" ["self", "change"] (sp_renamed K) := by
  refine ⟨m_Spread_renamed T, ok2 (F_Spread_renamed T) sc_Spread_renamed fun cdv A outer s H a b Q E hr h => ?_⟩
  obtain ⟨p, p2, ss, ls, cs, rfl, rfl, hs, hm, hn, ltc, hi, lts, ltl, zs, zl, hrk, q⟩ := h
  refine ⟨_, (pss_cons (ps_expr (pe_h (ok_need_map (K := K) T) (hr.mono (by decide)) passL (pa_cons (pv 1) (pa_cons (pe_fldK K (pv 0)) (pa_cons (pe_fldK K (pv 0)) pa_nil)))))
    (pss_cons (ps_expr (pe_h (ok_need_one_to_one (K := K) T) (hr.mono (by decide)) passL (pa_cons (pv 1) pa_nil)))
    (pss_cons (ps_setLc (i := 2) (own := [("word", 3)]) (g := gName 3) rfl sc_Spread_renamed.nd rfl rfl (sw_true rfl rfl rfl (by decide +kernel)) (pi_seq (pe_fldK K (pv 0))) (blkOk_by (own := [("word", 3)]) (N := N_Spread_renamed) (sc := defScope st_Spread_renamed) (by decide +kernel)) (fun _ _ _ _ _ => pg_name (i := 3) sc_Spread_renamed.nd rfl (Or.inl rfl)) (fun _ _ _ _ _ => pts_nil) (fun _ _ _ _ _ => (pe_h (ok_image_of (K := K) T) (hr.mono (by decide)) passL (pa_cons (pe_fldK K (pv 1)) (pa_cons (pv 3) pa_nil)))))
    (pss_one (ps_ret (pe_hc (ok_Spread_init (K := K) T) (mk_Spread T) (g_Spread T) (hr.mono (by decide)) passL (pa_cons (pe_fldK K (pv 0)) (pa_cons (pv 2) (pa_cons (pe_lc (own := [("word", 3)]) (g := gName 3) rfl sc_Spread_renamed.nd (pi_seq (pe_fldK K (pv 0))) (blkOk_by (own := [("word", 3)]) (N := N_Spread_renamed) (sc := defScope st_Spread_renamed) (by decide +kernel)) (fun _ _ _ _ _ => pg_name (i := 3) sc_Spread_renamed.nd rfl (Or.inl rfl)) (fun _ _ _ _ _ => pts_nil) (fun _ _ _ _ _ => (pe_h (ok_image_of (K := K) T) (hr.mono (by decide)) passL (pa_cons (pe_fldK K (pv 1)) (pa_cons (pv 3) pa_nil))))) pa_nil))))))))), ?_⟩
  have sml : ∀ {x : Nat}, x < 2 ^ cs.length → x ≤ 1000 := fun {x} hx => by
    have : 2 ^ cs.length ≤ 2 ^ 9 := Nat.pow_le_pow_right (by decide) hn
    omega
  refine ⟨_, rfl, _, rfl, at_Spread_bits T hs ⟨_, rfl, at_Spread_bits T hs ⟨_, _, _, rfl, p2, _, cs, rfl, rfl, rfl, hm, fun H1 e1 => ?_⟩⟩⟩
  refine ⟨_, rfl, _, rfl, p2, _, cs, rfl, hm.same e1, by omega, ltc.le (by omega), fun _ H2 e2 => ?_, fun d H' r ks hK => (hK.absurd hi).elim⟩
  have s2 := hs.same (e1.trans e2)
  have m2 := hm.same (e1.trans e2)
  refine ⟨_, rfl, at_Spread_slots T s2 fun r t => ⟨r, rfl, ?_⟩⟩
  refine lc_natM (k := false) (ws := ss) (img cs) t (by omega) (fun i x H3 Nx No hx e3 hN => ⟨rfl, ?_⟩) (fun D H3 hD e3 hd => ?_)
  · have hx := lts x (List.mem_of_getElem? hx)
    exact ⟨_, rfl, at_Map_columns T (m2.same e3) fun r1 t1 => ⟨_, rfl, _, _, rfl, r1, false, cs, x, rfl, rfl, t1, hx, sml hx, fun H2 e2 => hN _ e2⟩⟩
  · have s3 := s2.same e3
    refine ⟨_, rfl, at_Spread_bits T s3 ⟨_, rfl, _, rfl, at_Spread_lanes T s3 fun r3 t3 => ⟨r3, rfl, ?_⟩⟩⟩
    refine lc_natM (k := false) (ws := ls) (img cs) t3 (by omega) (fun i x H4 Nx No hx e4 hN => ⟨rfl, ?_⟩) (fun D2 H4 hD2 e4 hd2 => ?_)
    · have hx := ltl x (List.mem_of_getElem? hx)
      exact ⟨_, rfl, at_Map_columns T (m2.same (e3.trans e4)) fun r1 t1 => ⟨_, rfl, _, _, rfl, r1, false, cs, x, rfl, rfl, t1, hx, sml hx, fun H2 e2 => hN _ e2⟩⟩
    · refine mkSpread (k := true) (k2 := true) (SqL.of (e4 _ _ hd)) (SqL.of hd2) (Lt.map ltc) (Lt.map ltc) (by rw [List.length_map]; exact zs) (by rw [List.length_map]; exact zl) ?_ fun x H5 e5 hx hsx => ?_
      · rw [← List.map_append, rk_img hi, hrk]
        intro y hy
        rcases List.mem_append.mp hy with hy | hy
        · exact lts y hy
        · exact ltl y hy
      · exact q x H5 ((e1.trans e2).trans (e3.trans (e4.trans e5))) ((e1.trans e2).trans (e3.trans e4) |>.free hx) hsx
end
end L2.Lk
/-! P4 -/
set_option Elab.async false
set_option linter.all false
set_option maxRecDepth 100000
set_option maxHeartbeats 2000000
namespace L2.Lk
open PySem PySem.Spec PyProof.Rows
section
variable {X : Cx} {k : Nat} {y m : Str} {ps : List Str} {sp : L2.Sp} {E : XK} {p pos apos : Pos} {e o : Expr} {es : List Expr} {ta : TE} {t : TA}
theorem pe_hmK (K : PySem.W.Frag) {pl : Sem Bool} (F : HasM X.prog X.w X.K X.mg X.base k y m ps sp) (c : Own X.K (He.ga X.K y)) (hr : Room k X.A) (hx : Passes (L2.CX X.prog X.w) X E) (he : PE X o ta) (ha : PA X (e :: es) t)
    (hst : starEach (e :: es) X.env = (false, eval e X.env) :: starEach es X.env := by rfl) (hpl : (backTo pos (starEach es X.env)).any (·.1) = false := by rfl)
    (ht : eval (.Call (.Attribute o m apos) (e :: es) [] pos) X.env = (do
      let ov ← eval o X.env
      standAt apos.atName
      let (f, first) ← holding [ov] (getMethod ov m pl)
      callWith pos f first (backTo pos (starEach (e :: es) X.env)) (backToKw pos (keywordEach [] X.env))) := by rfl) (hK : X.K = K := by rfl) :
    PE X (.Call (.Attribute o m apos) (e :: es) [] pos) (tMt (He.ga K y) m sp E ta t) := by
  subst hK
  exact pe_hm F c hr hx he ha hst hpl ht
end
/-! ### zip of two tuples in a comprehension -/
section
variable {K : PySem.W.Frag} {a b : Addr}
theorem walk_zipT {xs ys : List V} {n : Nat} (hn : n = min xs.length ys.length) : Walk (RZ.ItzT K a b) n (fun H => SqT K H a xs ∧ SqT K H b ys) (YPair (fun i => xs[i]?) (fun i => ys[i]?)) := by
  subst hn
  refine ⟨fun i _ hi q => ?_, fun _ q => ⟨xs, ys, q.1, q.2, by omega⟩, fun i H v H' _ q y => ?_⟩
  · have h1 : i < xs.length := by omega
    have h2 : i < ys.length := by omega
    exact ⟨xs, ys, xs[i], ys[i], q.1, q.2, by simp [h1], by simp [h2]⟩
  · obtain ⟨T, x, z, h⟩ := y
    exact ⟨T, x, z, h.1, h.2.1, h.2.2.1, h.2.2.2.1 xs q.1, h.2.2.2.2 ys q.2⟩
theorem lc_zipN {as bs : List Nat} {σ : L2.St} {H : Hp} {g : TG} {tt : TT} {te : TE} {vs : List Nat} {Qd : Addr → Hp → Prop} (f : Nat → Nat → V) (h1 : SqT K H a (wl as)) (h2 : SqT K H b (wl bs)) (hl : as.length = bs.length) (hz : as.length < 1000)
    (hs : ∀ (i x y : Nat) (T : Addr) (H1 : Hp) (Nx : V → Hp → Prop) (No : Hp → Prop), as[i]? = some x → bs[i]? = some y → Same H H1 → H1 T = some (.tup [nV x, nV y]) → (∀ H4, Same H1 H4 → Nx (f x y) H4) →
      g (.ref T) (wipe σ vs) H1 fun σ2 H2 => wipe σ2 vs = wipe σ vs ∧ tt σ2 H2 fun b H3 => if b = true then te σ2 H3 Nx else No H3)
    (hd : ∀ D H', H D = none → Same H H' → H' D = some (.lst (List.zipWith f as bs)) → Qd D H') :
    ∀ D, H D = none → ∃ W : Nat → Nat → Hp → Prop, (∃ m, W 0 m (upd H D (.lst []))) ∧ ∀ i m H, W i m H →
      ((RZ.ItzT K a b).stop i H ∧ Qd D H) ∨ ((RZ.ItzT K a b).go i H ∧ ∃ Nx : Hp → Prop, (∀ H', Nx H' → ∃ m', m' < m ∧ W (i + 1) m' H') ∧ ∀ x H', (RZ.ItzT K a b).yld i H x H' → g x (wipe σ vs) H' fun σ2 H2 => wipe σ2 vs = wipe σ vs ∧ tt σ2 H2 fun b H3 =>
        if b = true then te σ2 H3 fun y H4 => ∃ acc, H4 D = some (.lst acc) ∧ acc.length < sizeLine ∧ Nx (upd H4 D (.lst (acc ++ [y]))) else Nx H3) := by
  intro D hD
  have hn : as.length = min (wl as).length (wl bs).length := by rw [wl_len, wl_len, ← hl, Nat.min_self]
  refine lc_it (walk_zipT (xs := wl as) (ys := wl bs) hn) (Pv := fun i H' => Same H H' ∧ H' D = some (.lst ((List.zipWith f as bs).take i))) ⟨Same.new hD, upd_same⟩ (fun i H' _ p => ⟨p.1.tup h1, p.1.tup h2⟩) (fun i v H1 H2 hi p y => ?_) (fun H' p => hd D H' hD p.1 ?_)
  · obtain ⟨e, hl1⟩ := p
    obtain ⟨T, u, z, rfl, hT, rfl, hu, hz2⟩ := y
    obtain ⟨x, hx, rfl⟩ := wl_of hu
    obtain ⟨y, hy, rfl⟩ := wl_of hz2
    have hD1 : D ≠ T := ne_of_none hl1 hT
    have hl2 : upd H1 T (.tup [nV x, nV y]) D = some (.lst ((List.zipWith f as bs).take i)) := by rw [upd_ne hD1]; exact hl1
    refine hs i x y T _ _ _ hx hy (e.new' hT) upd_same fun H4 e4 => ⟨_, e4 _ _ hl2, ?_, Same.but hD (e.new' hT) e4, ?_⟩
    · refine Nat.lt_of_le_of_lt (List.length_take_le _ _) (small1000 ?_)
      omega
    · rw [upd_same, List.take_add_one, List.getElem?_zipWith, hx, hy]
      rfl
  · have := p.2
    rw [List.take_of_length_le (by rw [List.length_zipWith]; omega)] at this
    exact this
end
/-! ### slices -/
theorem six_nat (n d k : Nat) : HT.sIx n d (some ((k : Nat) : Int)) = min k n := HT.sIx_nat n d k
theorem sl_zero {K : PySem.W.Frag} {H : Hp} {a : Addr} {xs : List V} {Q : VK} (h : SqT K H a xs) (q : ∀ r H', Same H H' → SqT K H' r [] → Q (.ref r) H') : rSlA K (.ref a) none (some ((0 : Nat) : Int)) H Q := by
  refine ⟨a, xs, rfl, h, fun z => ?_, fun _ p hp => ?_⟩
  · rw [six_nat, Nat.zero_min] at z
    rw [List.eq_nil_of_length_eq_zero z.2.symm] at h
    exact q a H (Same.refl _) h
  · refine q p _ (Same.new hp) (SqT.of ?_)
    rw [upd_same]
    unfold cutV
    rw [six_nat, Nat.zero_min, Nat.zero_sub, List.take_zero]
theorem sl_whole {K : PySem.W.Frag} {H : Hp} {a : Addr} {xs : List V} {Q : VK} (h : SqT K H a xs) (q : Q (.ref a) H) : rSlA K (.ref a) none (some ((xs.length : Nat) : Int)) H Q :=
  ⟨a, xs, rfl, h, fun _ => q, fun z => absurd ⟨HT.sIx_none _ _, by rw [six_nat, Nat.min_self]⟩ z⟩
section
variable {P : Program} {w : World} {K : PySem.W.Frag} {mg : Str → Option Value} {base : Heap}
theorem ne_Space {H : Hp} {a b : Addr} {n n2 : Nat} {R R2 : List Nat} {Q : Bool → Hp → Prop} {E : XK} (h : SpaceAt K H a n R) (h2 : SpaceAt K H b n2 R2) (q : ∀ H', Same H H' → Q (decide (n = n2) && decide (R = R2)) H') :
    ∃ p dx fs p2 dy gs, V.ref a = .ref p ∧ V.ref b = .ref p2 ∧ H p = some (.ins (cSpace K) dx fs) ∧ H p2 = some (.ins (cSpace K) dy gs) ∧ sp_Space_eq K [.ref a, .ref b] H (fun v H' => ∃ c, v = .bl c ∧ Q c H') E := by
  obtain ⟨dx, x1, e1, t1⟩ := id h
  obtain ⟨dy, y1, e2, t2⟩ := id h2
  exact ⟨_, _, _, _, _, _, rfl, rfl, e1, e2, _, _, rfl, a, b, n, n2, R, R2, rfl, rfl, h, h2, fun H' e => ⟨_, rfl, q H' e⟩⟩
theorem ins_Spread {H : Hp} {a : Addr} {n : Nat} {s l : List Nat} (h : SpreadAt K H a n s l) : ∃ dx fs, H a = some (.ins (cSpread K) dx fs) ∧ ∀ x, x ∉ (["bits", "slots", "lanes"] : List Str) → fs.lookup x = none := by
  obtain ⟨dx, x1, x2, e, _⟩ := h
  exact ⟨_, _, e, fun x hx => lk_Spread_no _ _ _ hx⟩
theorem ins_Space {H : Hp} {a : Addr} {n : Nat} {R : List Nat} (h : SpaceAt K H a n R) : ∃ dx fs, H a = some (.ins (cSpace K) dx fs) ∧ ∀ x, x ∉ (["bits", "rows", "dimension"] : List Str) → fs.lookup x = none := by
  obtain ⟨dx, x1, e, _⟩ := h
  exact ⟨_, _, e, fun x hx => lk_Space_no _ _ _ hx⟩
theorem ins_Map {H : Hp} {a : Addr} {n : Nat} {R : List Nat} (h : MapAt K H a n R) : ∃ dx fs, H a = some (.ins (cMap K) dx fs) ∧ ∀ x, x ∉ (["goal", "columns", "source"] : List Str) → fs.lookup x = none := by
  obtain ⟨dx, x1, e, _⟩ := h
  exact ⟨_, _, e, fun x hx => lk_Map_no _ _ _ hx⟩
theorem ins_Store {H : Hp} {a : Addr} {n : Nat} {c : List Nat} {b : Nat} (h : StoreAt K H a n c b) : ∃ dx fs, H a = some (.ins (cStore K) dx fs) ∧ ∀ x, x ∉ (["change", "banks", "own_back"] : List Str) → fs.lookup x = none := by
  obtain ⟨dx, x1, x2, e, _⟩ := h
  exact ⟨_, _, e, fun x hx => lk_Store_no _ _ _ hx⟩
abbrev sp_hold_alike (K : PySem.W.Frag) : L2.Sp := S2 fun a b H Q _ => ∃ p p2 n s l s2 l2, a = .ref p ∧ b = .ref p2 ∧ SpreadAt K H p n s l ∧ SpreadAt K H p2 n s2 l2 ∧ Lt n s ∧ Lt n l ∧ Lt n s2 ∧ Lt n l2 ∧ s.length ≤ 100 ∧ s2.length ≤ 100 ∧ l.length ≤ 100 ∧
  ∀ H', Same H H' → Q (.bl (alikeB s l s2 l2)) H'
theorem ok_hold_alike (T : Tx P K mg) : Has P w K mg base 7 "hold_alike" ["one", "other"] (sp_hold_alike K) := by
  refine ⟨g_hold_alike T, ok2 (F_hold_alike T) sc_hold_alike fun cdv A outer s H a b Q E hr h => ?_⟩
  obtain ⟨p, p2, n, s1, l1, s2, l2, rfl, rfl, h1, h2, lts1, ltl1, lts2, ltl2, zs1, zs2, zl, q⟩ := h
  refine ⟨_, (pss_cons (ps_expr (pe_h (ok_any_spread (K := K) T) (hr.mono (by decide)) passL (pa_cons (pv 0) pa_nil)))
    (pss_cons (ps_expr (pe_h (ok_any_spread (K := K) T) (hr.mono (by decide)) passL (pa_cons (pv 1) pa_nil)))
    (pss_cons (ps_if (PW.pt (pw_or (pt_cmpR op_neM (pe_fldK K (pv 0)) (pe_fldK K (pv 1)) (nomark _)) (pw_or1 (pt_cmpR op_neM (pe_callB (call_lenM K) (by rfl) (b_len T) bb_len (pa_cons (pe_fldK K (pv 0)) pa_nil)) (pe_callB (call_lenM K) (by rfl) (b_len T) bb_len (pa_cons (pe_fldK K (pv 1)) pa_nil)) (nomark _))))) (pss_one (ps_ret pe_bl)) pss_nil)
    (pss_cons (ps_set (i := 2) sc_hold_alike.nd rfl (.inr rfl) (pe_hm0 (ok_Spread_slot_space (K := K) T) (own_Spread T) (hr.mono (by decide)) passL (pv 0)))
    (pss_cons (ps_if (pt_cmpR (op_neO (ok_Space_eq T).2 (m_Space_eq T).fn T.ne (hr.mono (by decide)) passL) (pv 2) (pe_hm0 (ok_Spread_slot_space (K := K) T) (own_Spread T) (hr.mono (by decide)) passL (pv 1)) (nomark _)) (pss_one (ps_ret pe_bl)) pss_nil)
    (pss_one (ps_ret (pe_callB (cr_all rfl) (by rfl) (b_all T) bb_all (pa_cons (pe_lc (own := [("word", 3), ("two", 4)]) rfl sc_hold_alike.nd (RZ.pi_zipA (by rfl) (b_zip T) (pa_cons (pe_fldK K (pv 0)) (pa_cons (pe_fldK K (pv 1)) pa_nil))) (blkOk_by (own := [("word", 3), ("two", 4)]) (N := N_hold_alike) (sc := defScope st_hold_alike) (by decide +kernel)) (fun _ _ _ _ _ => pg_tupK (n := 2) K rfl (pgs_cons (pg_name (i := 3) sc_hold_alike.nd rfl (Or.inl rfl)) (pgs_cons (pg_name (i := 4) sc_hold_alike.nd rfl (Or.inl rfl)) pgs_nil))) (fun _ _ _ _ _ => pts_nil) (fun _ _ _ _ _ => (pe_cmpR op_eqM (pe_hmK K (ok_Space_least (K := K) T) (own_Space T) (hr.mono (by decide)) passL (pv 2) (pa_cons (pe_op op_xorM (pv 3) (pv 4)) pa_nil)) (pe_nat 0) (nomark _)))) pa_nil))))))))), ?_⟩
  refine ⟨_, rfl, _, rfl, p, n, s1, l1, rfl, h1, fun H1 e1 => ?_⟩
  refine ⟨_, rfl, _, rfl, p2, n, s2, l2, rfl, h2.same e1, fun H2 e2 => ?_⟩
  have e2 := e1.trans e2
  have h1 := h1.same e2
  have h2 := h2.same e2
  refine ⟨_, rfl, at_Spread_bits T h1 ⟨_, rfl, at_Spread_bits T h2 ⟨_, _, rfl, rfl, _, rfl, iteNS rfl ?_⟩⟩⟩
  refine ⟨_, rfl, at_Spread_lanes T h1 fun r1 t1 => ⟨_, false, _, rfl, t1, _, rfl, at_Spread_lanes T h2 fun r2 t2 => ⟨_, false, _, rfl, t2, _, _, rfl, rfl, _, rfl, ?_⟩⟩⟩
  rw [wl_len, wl_len]
  by_cases hlen : l1.length = l2.length
  · rw [decide_eq_true hlen]
    refine iteF ?_
    obtain ⟨dx, fs, ei, hno⟩ := ins_Spread h1
    refine ⟨_, rfl, p, _, _, rfl, ei, hno _ (by decide +kernel), _, rfl, p, n, s1, l1, rfl, h1, lts1, zs1, fun r H3 R1 e3 hr3 hs3 hR1 => ?_⟩
    have e3' := e2.trans e3
    have h1 := h1.same e3
    have h2 := h2.same e3
    obtain ⟨dx2, fs2, ei2, hno2⟩ := ins_Spread h2
    refine ⟨_, rfl, _, rfl, p2, _, _, rfl, ei2, hno2 _ (by decide +kernel), _, rfl, p2, n, s2, l2, rfl, h2, lts2, zs2, fun r2 H4 R2 e4 hr4 hs4 hR2 => ?_⟩
    have e4' := e3'.trans e4
    refine ne_Space (hs3.same e4) hs4 fun H5 e5 => ⟨_, rfl, ?_⟩
    rw [decide_eq_true (rfl : n = n), Bool.true_and]
    by_cases hRR : R1 = R2
    · rw [decide_eq_true hRR]
      refine iteF ?_
      have h1 := (h1.same e4).same e5
      have h2 := (h2.same e4).same e5
      have hs5 := (hs3.same e4).same e5
      refine ⟨_, rfl, at_Spread_lanes T h1 fun r3 t3 => ⟨_, rfl, at_Spread_lanes T h2 fun r4 t4 => ⟨r3, r4, _, _, rfl, .inr ⟨t3, t4, ?_⟩⟩⟩⟩
      refine lc_zipN (fun x y => .bl (decide (clr R1 (x ^^^ y) = 0))) t3 t4 hlen (by omega) (fun i x y T1 H6 Nx No hx hy e6 hT hN => ?_) (fun D H6 hD e6 hd => ?_)
      · refine ⟨T1, _, rfl, SqT.of hT, rfl, _, _, rfl, _, _, rfl, rfl, rfl, ?_⟩
        obtain ⟨dx3, fs3, ei3, hno3⟩ := ins_Space (hs5.same e6)
        refine ⟨_, rfl, r, _, _, rfl, ei3, hno3 _ (by decide +kernel), _, rfl, _, rfl, _, _, rfl, rfl, ?_⟩
        exact ⟨_, _, rfl, r, n, R1, _, rfl, rfl, hs5.same e6, hR1.1.pos, Nat.xor_lt_two_pow (ltl1 x (List.mem_of_getElem? hx)) (ltl2 y (List.mem_of_getElem? hy)), fun H7 e7 => ⟨_, _, rfl, rfl, hN _ e7⟩⟩
      · have em : List.zipWith (fun x y => V.bl (decide (clr R1 (x ^^^ y) = 0))) l1 l2 = (List.zipWith (fun x y => decide (clr R1 (x ^^^ y) = 0)) l1 l2).map V.bl := by rw [List.map_zipWith]
        rw [em] at hd
        refine ⟨D, _, rfl, SqL.of hd, ?_⟩
        have ea : (List.zipWith (fun x y => decide (clr R1 (x ^^^ y) = 0)) l1 l2).all id = alikeB s1 l1 s2 l2 := by
          rw [show List.zipWith (fun x y => decide (clr R1 (x ^^^ y) = 0)) l1 l2 = (List.zipWith (fun a b => a ^^^ b) l1 l2).map (fun w => decide (clr R1 w = 0)) from by rw [List.map_zipWith], List.all_map, Bool.eq_iff_iff, alike_iff hR1 hR2, List.all_eq_true]
          exact ⟨fun z => ⟨hlen, hRR, fun w hw => of_decide_eq_true (z w hw)⟩, fun z w hw => decide_eq_true (z.2.2 w hw)⟩
        rw [ea]
        exact q _ (e4'.trans (e5.trans e6))
    · rw [decide_eq_false hRR]
      refine iteT ?_
      have : alikeB s1 l1 s2 l2 = false := by
        rw [← Bool.not_eq_true, alike_iff hR1 hR2]
        exact fun z => hRR z.2.1
      rw [← this]
      exact q _ (e4'.trans e5)
  · rw [decide_eq_false hlen]
    refine iteT ?_
    have : alikeB s1 l1 s2 l2 = false := by
      unfold alikeB
      rw [decide_eq_false hlen]
      rfl
    rw [← this]
    exact q _ e2
/-! ### Store -/
theorem MapAt.sx {H H' : Hp} {x p C dx : Addr} {m : Nat} {cs : List Nat} {fs : List (Str × V)} (h : MapAt K H p m cs) (e : Sx [x] H H') (hx : H x = some (.ins C dx fs)) (hp : p ≠ x) : MapAt K H' p m cs := by
  obtain ⟨dp, r, h1, t⟩ := h
  exact ⟨dp, r, e _ _ (fun z => hp (List.mem_singleton.mp z)) h1, Sx.tup e hx t⟩
abbrev sp_Store_init (K : PySem.W.Frag) : L2.Sp := S3 fun a b c H Q _ => ∃ x dx p cs k, a = .ref x ∧ b = .ref p ∧ c = nV k ∧ H x = some (.ins (cStore K) dx []) ∧ MapAt K H p cs.length cs ∧ k ≤ cs.length ∧ cs.length ≤ 50 ∧ Lt cs.length cs ∧ rk cs = cs.length ∧
  ∀ H', Sx [x] H H' → StoreAt K H' x cs.length cs k → Q .non H'
theorem ok_Store_init (T : Tx P K mg) : HasM P w K mg base 8 "Store" "__init__" ["self", "change", "banks"] (sp_Store_init K) := by
  refine ⟨m_Store_init T, ok3 (F_Store_init T) sc_Store_init fun cdv A outer s H a b c Q E hr h => ?_⟩
  obtain ⟨x, dx, p, cs, k, rfl, rfl, rfl, hx, hm, hk, hn, ltc, hi, q⟩ := h
  refine ⟨_, (pss_cons (ps_if (PW.pt (pw_or (pt_not (pt_val (pe_callB call_isi (by rfl) (b_isinstance T) bb_isinstance (pa_cons (pv 1) (pa_cons (pe_glob (v := .ref (He.ga K "Map")) (by rfl) (g_Map T) rfl) pa_nil))))) (pw_or1 (pt_cmpR op_neM (pe_fldK K (pv 1)) (pe_fldK K (pv 1)) (nomark _))))) (pss_one ps_never) pss_nil)
    (pss_cons (ps_expr (pe_h (ok_need_whole (K := K) T) (hr.mono (by decide)) passL (pa_cons (pv 2) pa_nil)))
    (pss_cons (ps_if (pt_cmpR op_gtM (pv 2) (pe_fldK K (pv 1)) (nomark _)) (pss_one ps_never) pss_nil)
    (pss_cons (ps_fld (pv 0) (pv 1) rfl)
    (pss_cons (ps_fld (pv 0) (pv 2) rfl)
    (pss_one (ps_fld (pv 0) (pe_un (un_inv (ok_Map_invert T).2 (m_Map_invert T) (hr.mono (by decide)) passL) (pv 1)) rfl))))))), ?_⟩
  have hpx : p ≠ x := fun z => by
    obtain ⟨dp, r, h1, _⟩ := hm
    rw [z, hx] at h1
    have e1 := Option.some.inj h1
    injection e1 with _ _ e3
    have := lk_Map_goal (nV cs.length) (.ref r) (nV cs.length)
    rw [← e3] at this
    cases this
  refine ⟨_, rfl, _, _, _, _, _, rfl, .own _, ty_Map T hm, kit_Map_Map T, _, rfl, iteF ⟨_, rfl, at_Map_source T hm ⟨_, rfl, at_Map_goal T hm ⟨_, _, rfl, rfl, _, rfl, iteNS rfl ?_⟩⟩⟩⟩
  refine ⟨_, rfl, _, rfl, k, rfl, fun H1 e1 => ?_⟩
  have hm1 := hm.same e1
  refine ⟨_, rfl, _, rfl, at_Map_goal T hm1 ⟨_, _, rfl, rfl, _, rfl, ?_⟩⟩
  rw [decide_eq_false (Nat.not_lt.mpr hk)]
  refine iteF ?_
  refine ⟨_, rfl, _, rfl, _, _, _, _, rfl, e1 _ _ hx, (own_Store T).cls, na_Store_change T, pl0, ?_⟩
  refine ⟨_, rfl, _, rfl, _, _, _, _, rfl, upd_same, (own_Store T).cls, na_Store_banks T, pl1, ?_⟩
  have s2 : Sx [x] H (upd (upd H1 x (.ins (cStore K) dx (putF "change" (.ref p) []))) x (.ins (cStore K) dx (putF "banks" (nV k) (putF "change" (.ref p) [])))) := (e1.sx.upd me).upd me
  have hm2 := hm.sx s2 hx hpx
  obtain ⟨dp, fp, ei, _⟩ := ins_Map hm2
  refine ⟨_, rfl, p, dp, fp, rfl, ei, _, rfl, p, cs, rfl, hm2, hn, ltc, hi, fun r H3 e3 hr3 hb3 => ?_⟩
  have hx3 := e3 _ _ (upd_same (H := upd H1 x (.ins (cStore K) dx (putF "change" (.ref p) []))) (a := x) (o := .ins (cStore K) dx (putF "banks" (nV k) (putF "change" (.ref p) []))))
  refine ⟨_, rfl, _, _, _, _, rfl, hx3, (own_Store T).cls, na_Store_own_back T, pl2, ?_⟩
  have hrx : r ≠ x := fun z => by rw [z, upd_same] at hr3; cases hr3
  have sL : Sx [x] H3 (upd H3 x (.ins (cStore K) dx (fStore (.ref p) (nV k) (.ref r)))) := Sx.refl.upd me
  exact q _ ((s2.then e3).upd me) ⟨dx, p, r, upd_same, (hm2.same e3).sx sL hx3 hpx, hb3.sx sL hx3 hrx⟩
theorem mkStore {H : Hp} {p : Addr} {k : Nat} {cs : List Nat} {Q : Addr → Hp → Prop} {E : XK} (hm : MapAt K H p cs.length cs) (hk : k ≤ cs.length) (hn : cs.length ≤ 50) (ltc : Lt cs.length cs) (hi : rk cs = cs.length) (q : ∀ x H', Same H H' → H x = none → StoreAt K H' x cs.length cs k → Q x H') :
    ∀ x dx, H x = none → H dx = none → dx ≠ x → sp_Store_init K [.ref x, .ref p, nV k] (upd (upd H dx (.own x)) x (.ins (cStore K) dx [])) (fun v H2 => v = .non ∧ Q x H2) E := fun x dx nx nd ne =>
  have e := (Same.new (o := .own x) nd).new' (o := .ins (cStore K) dx []) (by rw [upd_ne (Ne.symm ne)]; exact nx)
  ⟨_, _, _, rfl, x, dx, p, cs, k, rfl, rfl, rfl, upd_same, hm.same e, hk, hn, ltc, hi, fun H' s hs => ⟨rfl, q x H' (made_same nx nd s) nx hs⟩⟩
theorem and_mask_lt (x b : Nat) : x &&& (2 ^ b - 1) < 2 ^ b := Nat.lt_of_le_of_lt Nat.and_le_right (by have := Nat.two_pow_pos b; omega)
abbrev sp_bank_map (K : PySem.W.Frag) : L2.Sp := S1 fun a H Q _ => ∃ p n c b, a = .ref p ∧ StoreAt K H p n c b ∧ c.length ≤ 100 ∧ b ≤ 1000 ∧ ∀ r H', Same H H' → H r = none → MapAt K H' r b (c.map fun w => w &&& (2 ^ b - 1)) → Q (.ref r) H'
theorem ok_Store_bank_map (T : Tx P K mg) : HasM P w K mg base 6 "Store" "bank_map" ["self"] (sp_bank_map K) := by
  refine ⟨m_Store_bank_map T, ok1 (F_Store_bank_map T) sc_Store_bank_map fun cdv A outer s H a Q E hr h => ?_⟩
  obtain ⟨p, n, c, b, rfl, hs, hz, hb, q⟩ := h
  refine ⟨_, (pss_one (ps_ret (pe_hc (ok_Map_init (K := K) T) (mk_Map T) (g_Map T) (hr.mono (by decide)) passL (pa_cons (pe_fldK K (pv 0)) (pa_cons (pe_lc (own := [("column", 1)]) (g := gName 1) rfl sc_Store_bank_map.nd (pi_seq (pe_fldK K (pe_fldK K (pv 0)))) (blkOk_by (own := [("column", 1)]) (N := N_Store_bank_map) (sc := defScope st_Store_bank_map) (by decide +kernel)) (fun _ _ _ _ _ => pg_name (i := 1) sc_Store_bank_map.nd rfl (Or.inl rfl)) (fun _ _ _ _ _ => pts_nil) (fun _ _ _ _ _ => (pe_op op_andM' (pv 1) (pe_op op_subM (pe_op op_shlM (pe_nat 1) (pe_fldK K (pv 0))) (pe_nat 1))))) pa_nil))))), ?_⟩
  refine ⟨_, rfl, at_Store_banks T hs ⟨_, rfl, at_Store_change T hs fun r hm => at_Map_columns T hm fun r2 t2 => ⟨r2, rfl, ?_⟩⟩⟩
  refine lc_natM (k := false) (ws := c) (fun w => w &&& (2 ^ b - 1)) t2 (by omega) (fun i x H2 Nx No hi e2 hN => ⟨rfl, ?_⟩) (fun D H2 hD e2 hd => ?_)
  · refine ⟨_, rfl, _, rfl, at_Store_banks T (hs.same e2) ⟨_, _, rfl, rfl, ⟨by decide, by omega⟩, _, _, rfl, rfl, by have := Nat.two_pow_pos b; omega, _, _, rfl, rfl, ?_⟩⟩
    dsimp only
    rw [Nat.one_mul]
    exact hN _ (Same.refl _)
  · exact mkMap (k := true) (SqL.of hd) (fun y hy => by
      obtain ⟨x, _, rfl⟩ := List.mem_map.mp hy
      exact and_mask_lt x b) fun x H3 e3 hx hm => q x H3 (e2.trans e3) (e2.free hx) hm
abbrev sp_meeting (K : PySem.W.Frag) : L2.Sp := S2 fun a b H Q _ => ∃ p p2 n c k As, a = .ref p ∧ b = .ref p2 ∧ StoreAt K H p n c k ∧ SpaceAt K H p2 n As ∧ c.length = n ∧ n ≤ 50 ∧ k ≤ n ∧ Lt n As ∧ As.length ≤ 100 ∧
  ∀ H' R, Same H H' → Red R → (∀ x, Spn R x ↔ Spn As x ∧ x < 2 ^ n ∧ img (c.map fun w => w &&& (2 ^ k - 1)) x = 0) → Q (nV R.length) H'
theorem ok_Store_meeting (T : Tx P K mg) : HasM P w K mg base 7 "Store" "meeting" ["self", "space"] (sp_meeting K) := by
  refine ⟨m_Store_meeting T, ok2 (F_Store_meeting T) sc_Store_meeting fun cdv A outer s H a b Q E hr h => ?_⟩
  obtain ⟨p, p2, n, c, k, As, rfl, rfl, hs, hA, hc, hn, hk, lA, zA, q⟩ := h
  refine ⟨_, (pss_cons (ps_expr (pe_h (ok_need_space (K := K) T) (hr.mono (by decide)) passL (pa_cons (pv 1) (pa_cons (pe_fldK K (pe_fldK K (pv 0))) pa_nil))))
    (pss_one (ps_ret (pe_fldK K (pe_op (op_own (op := .BitAnd) (ok_Space_and T).2 (m_Space_and T) T.sf.2 (hr.mono (by decide)) passL) (pv 1) (pe_hm0 (ok_Map_kernel (K := K) T) (own_Map T) (hr.mono (by decide)) passL (pe_hm0 (ok_Store_bank_map (K := K) T) (own_Store T) (hr.mono (by decide)) passL (pv 0)))))))), ?_⟩
  refine ⟨_, rfl, _, rfl, at_Store_change T hs fun r hm => at_Map_source T hm ?_⟩
  refine ⟨_, _, rfl, p2, n, As, rfl, by rw [hc], hA, fun H1 e1 => ?_⟩
  obtain ⟨dx, fs, ei, hno⟩ := ins_Store (hs.same e1)
  refine ⟨_, rfl, _, rfl, p, _, _, rfl, ei, hno _ (by decide +kernel), _, rfl, p, n, c, k, rfl, hs.same e1, by omega, by omega, fun r H2 e2 hr2 hm2 => ?_⟩
  obtain ⟨dx2, fs2, ei2, hno2⟩ := ins_Map hm2
  refine ⟨r, _, _, rfl, ei2, hno2 _ (by decide +kernel), _, rfl, r, k, _, rfl, hm2, by rw [List.length_map]; omega, fun y hy => ?_, fun r3 H3 Ks e3 hr3 hs3 hK => ?_⟩
  · obtain ⟨x, _, rfl⟩ := List.mem_map.mp hy
    exact Nat.lt_of_lt_of_le (and_mask_lt x k) (Nat.pow_le_pow_right (by decide) (by omega))
  have hlen : (c.map fun w => w &&& (2 ^ k - 1)).length = n := by rw [List.length_map, hc]
  rw [hlen] at hs3
  have hA3 := ((hA.same e1).same e2).same e3
  obtain ⟨dxa, xa, ea, _⟩ := id hA3
  obtain ⟨dxb, xb, eb, _⟩ := id hs3
  have hlt := hK.lt
  have hKl := hK.len
  rw [hlen] at hlt hKl
  refine ⟨p2, _, _, r3, _, _, rfl, rfl, ea, eb, _, _, rfl, p2, r3, n, As, Ks, rfl, rfl, hA3, hs3, hn, zA, by omega, lA, hlt, fun r4 H4 R e4 hr4 hs4 hR hsp => ⟨⟨r4, rfl⟩, at_Space_dimension T hs4 ?_⟩⟩
  refine q _ R ((e1.trans e2).trans (e3.trans e4)) hR fun x => (hsp x).trans ⟨fun z => ⟨z.1, ?_⟩, fun z => ⟨z.1, (hK.2 x).mpr ?_⟩⟩
  · have := (hK.2 x).mp z.2
    rw [hlen] at this
    exact this
  · rw [hlen]
    exact z.2
abbrev sp_need_width (K : PySem.W.Frag) : L2.Sp := S3 fun a b c H Q _ => ∃ p p2 n cs k s l, a = .ref p ∧ b = .ref p2 ∧ c = nV 0 ∧ StoreAt K H p n cs k ∧ cs.length = n ∧ SpreadAt K H p2 n s l ∧ ∀ H', Same H H' → Q .non H'
theorem ok_Store_need_width (T : Tx P K mg) : HasM P w K mg base 2 "Store" "need_width" ["self", "spread", "width"] (sp_need_width K) := by
  refine ⟨m_Store_need_width T, ok3 (F_Store_need_width T) sc_Store_need_width fun cdv A outer s H a b c Q E hr h => ?_⟩
  obtain ⟨p, p2, n, cs, k, ss, ls, rfl, rfl, rfl, hs, hc, hp, q⟩ := h
  refine ⟨_, (pss_cons (ps_expr (pe_h (ok_any_spread (K := K) T) (hr.mono (by decide)) passL (pa_cons (pv 1) pa_nil)))
    (pss_cons (ps_if (pt_cmpR op_neM (pe_fldK K (pv 1)) (pe_fldK K (pe_fldK K (pv 0))) (nomark _)) (pss_one ps_never) pss_nil)
    (pss_one (ps_if (PW.pt (pw_or (pt_not (pt_val (pe_h (ok_is_whole (K := K) T) (hr.mono (by decide)) passL (pa_cons (pv 2) pa_nil)))) (pw_or1 (pt_cmpR op_gtM (pv 2) (pe_fldK K (pv 0)) (nomark _))))) (pss_one ps_never) pss_nil)))), ?_⟩
  refine ⟨_, rfl, _, rfl, p2, n, ss, ls, rfl, hp, fun H1 e1 => ?_⟩
  refine ⟨_, rfl, at_Spread_bits T (hp.same e1) ⟨_, rfl, at_Store_change T (hs.same e1) fun r hm => at_Map_source T hm ⟨_, _, rfl, rfl, _, rfl, iteNS hc.symm ?_⟩⟩⟩
  refine ⟨_, rfl, _, rfl, rfl, fun H2 e2 => ⟨_, rfl, ?_⟩⟩
  rw [whole_nat]
  refine iteF ⟨_, rfl, _, rfl, at_Store_banks T ((hs.same e1).same e2) ⟨_, _, rfl, rfl, _, rfl, ?_⟩⟩
  rw [decide_eq_false (Nat.not_lt_zero _)]
  exact iteF (q _ (e1.trans e2))
abbrev sp_fits (K : PySem.W.Frag) : L2.Sp := S3 fun a b c H Q _ => ∃ p p2 n cs k s l, a = .ref p ∧ b = .ref p2 ∧ c = nV 0 ∧ StoreAt K H p n cs k ∧ cs.length = n ∧ SpreadAt K H p2 n s l ∧ s.length ≤ 100 ∧ ∀ H', Same H H' → Q (.bl true) H'
theorem ok_Store_fits (T : Tx P K mg) : HasM P w K mg base 4 "Store" "fits" ["self", "spread", "width"] (sp_fits K) := by
  refine ⟨m_Store_fits T, ok3 (F_Store_fits T) sc_Store_fits fun cdv A outer s H a b c Q E hr h => ?_⟩
  obtain ⟨p, p2, n, cs, k, ss, ls, rfl, rfl, rfl, hs, hc, hp, zs, q⟩ := h
  refine ⟨_, (pss_cons (ps_expr (pe_hm (ok_Store_need_width (K := K) T) (own_Store T) (hr.mono (by decide)) passL (pv 0) (pa_cons (pv 1) (pa_cons (pv 2) pa_nil))))
    (pss_cons (ps_set (i := 3) sc_Store_fits.nd rfl (.inr rfl) (pe_h (ok_spanned (K := K) T) (hr.mono (by decide)) passL (pa_cons (pe_fldK K (pv 1)) pa_nil)))
    (pss_one (ps_ret (pe_callB (cr_all rfl) (by rfl) (b_all T) bb_all (pa_cons (pe_lc (own := [("word", 4)]) (g := gName 4) rfl sc_Store_fits.nd (pi_seq (pe_slice sl_tupA (pe_fldK K (pe_fldK K (pv 0))) po_none (po_some (pv 2)))) (blkOk_by (own := [("word", 4)]) (N := N_Store_fits) (sc := defScope st_Store_fits) (by decide +kernel)) (fun _ _ _ _ _ => pg_name (i := 4) sc_Store_fits.nd rfl (Or.inl rfl)) (fun _ _ _ _ _ => pts_nil) (fun _ _ _ _ _ => (pe_cmpR op_eqM (pe_h (ok_cleared (K := K) T) (hr.mono (by decide)) passL (pa_cons (pv 3) (pa_cons (pv 4) pa_nil))) (pe_nat 0) (nomark _)))) pa_nil)))))), ?_⟩
  obtain ⟨dx, fs, ei, hno⟩ := ins_Store hs
  refine ⟨_, rfl, p, _, _, rfl, ei, hno _ (by decide +kernel), _, rfl, _, rfl, _, _, _, rfl, p, p2, n, cs, k, ss, ls, rfl, rfl, rfl, hs, hc, hp, fun H1 e1 => ?_⟩
  refine ⟨_, rfl, at_Spread_slots T (hp.same e1) fun r t => ⟨_, rfl, r, false, ss, rfl, t, by omega, fun l1 H2 R1 e2 hl1 hr1 hR1 => ?_⟩⟩
  have hs2 := (hs.same e1).same e2
  refine ⟨_, rfl, at_Store_back T hs2 fun r2 hm2 => at_Map_columns T hm2 fun r3 t3 => ⟨_, rfl, _, rfl, sl_zero t3 fun r4 H4 e4 t4 => ⟨r4, rfl, ?_⟩⟩⟩
  refine lc_fm (k := false) (xs := []) (fun _ => none) t4 (by decide) (fun i x H5 Nx No hx => by simp at hx) (fun D H5 hD e5 hd => ⟨D, [], rfl, SqL.of hd, q _ ((e1.trans e2).trans (e4.trans e5))⟩)
abbrev sp_phase_bits (K : PySem.W.Frag) : L2.Sp := S2 fun a b H Q _ => ∃ p n s l, a = .ref p ∧ b = nV 0 ∧ SpreadAt K H p n s l ∧ ∀ H', Same H H' → Q (nV 0) H'
theorem ok_phase_bits (T : Tx P K mg) : Has P w K mg base 1 "phase_bits" ["spread", "width"] (sp_phase_bits K) := by
  refine ⟨g_phase_bits T, ok2 (F_phase_bits T) sc_phase_bits fun cdv A outer s H a b Q E hr h => ?_⟩
  obtain ⟨p, n, ss, ls, rfl, rfl, hp, q⟩ := h
  refine ⟨_, (pss_one (ps_ret (pe_callB (call_min2 rfl) (by rfl) (b_min T) bb_min (pa_cons (pe_callTy call_int1 (by rfl) (b_int T) bb_int (pa_cons (pv 1) pa_nil)) (pa_cons (pe_callB (call_lenM K) (by rfl) (b_len T) bb_len (pa_cons (pe_fldK K (pv 0)) pa_nil)) pa_nil))))), ?_⟩
  refine ⟨_, rfl, .inl ⟨_, rfl, _, rfl, at_Spread_lanes T hp fun r t => ⟨_, false, _, rfl, t, _, _, rfl, ?_⟩⟩⟩
  rw [if_neg (by omega)]
  exact q _ (Same.refl _)
abbrev sp_touched (K : PySem.W.Frag) : L2.Sp := S3 fun a b c H Q _ => ∃ p p2 n cs k s l, a = .ref p ∧ b = .ref p2 ∧ c = nV 0 ∧ StoreAt K H p n cs k ∧ cs.length = n ∧ SpreadAt K H p2 n s l ∧ s.length ≤ 100 ∧ l.length ≤ 100 ∧ Lt n l ∧
  ∀ r H' R, Same H H' → H r = none → SpaceAt K H' r n R → RowsOf l R → Q (.ref r) H'
theorem ok_Store_touched (T : Tx P K mg) : HasM P w K mg base 6 "Store" "touched" ["self", "spread", "width"] (sp_touched K) := by
  refine ⟨m_Store_touched T, ok3 (F_Store_touched T) sc_Store_touched fun cdv A outer s H a b c Q E hr h => ?_⟩
  obtain ⟨p, p2, n, cs, k, ss, ls, rfl, rfl, rfl, hs, hc, hp, zs, zl, ltl, q⟩ := h
  refine ⟨_, (pss_cons (ps_if (pt_not (pt_val (pe_hm (ok_Store_fits (K := K) T) (own_Store T) (hr.mono (by decide)) passL (pv 0) (pa_cons (pv 1) (pa_cons (pv 2) pa_nil))))) (pss_one ps_never) pss_nil)
    (pss_cons (ps_set (i := 3) sc_Store_touched.nd rfl (.inl rfl) (pe_op op_subM (pe_callB (call_lenM K) (by rfl) (b_len T) bb_len (pa_cons (pe_fldK K (pv 1)) pa_nil)) (pe_h (ok_phase_bits (K := K) T) (hr.mono (by decide)) passL (pa_cons (pv 1) (pa_cons (pv 2) pa_nil)))))
    (pss_one (ps_ret (pe_hc (ok_Space_init (K := K) T) (mk_Space T) (g_Space T) (hr.mono (by decide)) passL (pa_cons (pe_fldK K (pv 1)) (pa_cons (pe_op op_cat (pe_callTy (call_listM K) (by rfl) (b_list T) bb_list (pa_cons (pe_slice sl_tupA (pe_fldK K (pv 1)) po_none (po_some (pv 3))) pa_nil)) (pe_callTy (call_listM K) (by rfl) (b_list T) bb_list (pa_cons (pe_slice sl_tupA (pe_fldK K (pe_fldK K (pv 0))) po_none (po_some (pv 2))) pa_nil))) pa_nil))))))), ?_⟩
  obtain ⟨dx, fs, ei, hno⟩ := ins_Store hs
  refine ⟨_, rfl, p, _, _, rfl, ei, hno _ (by decide +kernel), _, rfl, _, rfl, _, _, _, rfl, p, p2, n, cs, k, ss, ls, rfl, rfl, rfl, hs, hc, hp, zs, fun H1 e1 => ⟨_, rfl, iteF ?_⟩⟩
  have hs1 := hs.same e1
  have hp1 := hp.same e1
  refine ⟨_, rfl, at_Spread_lanes T hp1 fun r t => ⟨_, false, _, rfl, t, _, rfl, _, rfl, _, _, rfl, p2, n, ss, ls, rfl, rfl, hp1, fun H2 e2 => ⟨_, _, rfl, rfl, Nat.zero_le _, ?_⟩⟩⟩
  have hs2 := hs1.same e2
  have hp2 := hp1.same e2
  refine ⟨_, rfl, at_Spread_bits T hp2 ⟨_, rfl, at_Spread_lanes T hp2 fun r2 t2 => ⟨_, rfl, _, rfl, sl_whole t2 ⟨r2, false, _, rfl, t2, fun l3 hl3 => ?_⟩⟩⟩⟩
  have hs3 := hs2.same (Same.new (o := .lst (wl ls)) hl3)
  refine ⟨_, rfl, at_Store_back T hs3 fun r4 hm4 => at_Map_columns T hm4 fun r5 t5 => ⟨_, rfl, _, rfl, sl_zero t5 fun r6 H6 e6 t6 => ⟨r6, false, _, rfl, t6, fun l7 hl7 => ?_⟩⟩⟩
  have hl3' := e6 _ _ (upd_same (H := H2) (a := l3) (o := .lst (wl ls)))
  refine ⟨_, _, _, _, rfl, rfl, (by rw [upd_ne (ne_of_none hl3' hl7)]; exact hl3'), upd_same, by rw [wl_len]; exact Nat.le_of_lt (small1000 (by simp; omega)), fun l8 hl8 => ?_⟩
  have e8 : Same H (upd (upd H6 l7 (.lst [])) l8 (.lst (wl ls ++ []))) := (((e1.trans e2).new' (o := .lst (wl ls)) hl3).trans e6 |>.new' hl7).new' hl8
  refine mkSpace (k := true) (ws := ls) (SqL.of (by rw [upd_same, List.append_nil])) (by omega) ltl fun x H9 R e9 hx hsx hR => q x H9 R (e8.trans e9) (e8.free hx) hsx hR
abbrev sp_beats (K : PySem.W.Frag) : L2.Sp := S3 fun a b c H Q _ => ∃ p p2 n cs k s l, a = .ref p ∧ b = .ref p2 ∧ c = nV 0 ∧ StoreAt K H p n cs k ∧ cs.length = n ∧ n ≤ 50 ∧ k ≤ n ∧ SpreadAt K H p2 n s l ∧ s.length ≤ 100 ∧ l.length ≤ 100 ∧ Lt n l ∧
  ∀ H' R, Same H H' → Red R → (∀ x, Spn R x ↔ Spn l x ∧ x < 2 ^ n ∧ img (cs.map fun w => w &&& (2 ^ k - 1)) x = 0) → Q (nV (2 ^ R.length)) H'
theorem ok_Store_beats (T : Tx P K mg) : HasM P w K mg base 8 "Store" "beats" ["self", "spread", "width"] (sp_beats K) := by
  refine ⟨m_Store_beats T, ok3 (F_Store_beats T) sc_Store_beats fun cdv A outer s H a b c Q E hr h => ?_⟩
  obtain ⟨p, p2, n, cs, k, ss, ls, rfl, rfl, rfl, hs, hc, hn, hk, hp, zs, zl, ltl, q⟩ := h
  refine ⟨_, (pss_cons (ps_set (i := 3) sc_Store_beats.nd rfl (.inl rfl) (pe_hm (ok_Store_meeting (K := K) T) (own_Store T) (hr.mono (by decide)) passL (pv 0) (pa_cons (pe_hm (ok_Store_touched (K := K) T) (own_Store T) (hr.mono (by decide)) passL (pv 0) (pa_cons (pv 1) (pa_cons (pv 2) pa_nil))) pa_nil)))
    (pss_one (ps_ret (pe_op op_shlM (pe_nat 1) (pe_op op_addM (pe_h (ok_phase_bits (K := K) T) (hr.mono (by decide)) passL (pa_cons (pv 1) (pa_cons (pv 2) pa_nil))) (pv 3)))))), ?_⟩
  obtain ⟨dx, fs, ei, hno⟩ := ins_Store hs
  refine ⟨_, rfl, p, _, _, rfl, ei, hno _ (by decide +kernel), _, rfl, p, _, _, rfl, ei, hno _ (by decide +kernel), _, rfl, _, rfl, _, _, _, rfl, p, p2, n, cs, k, ss, ls, rfl, rfl, rfl, hs, hc, hp, zs, zl, ltl, fun r H1 R1 e1 hr1 hs1 hR1 => ?_⟩
  refine ⟨_, _, rfl, p, r, n, cs, k, R1, rfl, rfl, hs.same e1, hs1, hc, hn, hk, hR1.lt ltl, Nat.le_trans (hR1.len_le ltl) (by omega), fun H2 R e2 hR hsp => ?_⟩
  have hp2 := (hp.same e1).same e2
  refine ⟨_, rfl, _, rfl, _, _, rfl, p2, n, ss, ls, rfl, rfl, hp2, fun H3 e3 => ⟨_, rfl, _, _, rfl, rfl, _, _, rfl, rfl, ⟨by decide, ?_⟩, ?_⟩⟩
  · have h1 : ∀ x ∈ R, x < 2 ^ n := fun x hx => ((hsp x).mp (sp_mem hx)).2.1
    have h2 : R.length ≤ n := by rw [← (show rk R = R.length from ech_rk hR.ech)]; exact rk_le h1
    omega
  · dsimp only
    rw [Nat.one_mul, Nat.zero_add]
    exact q _ R ((e1.trans e2).trans e3) hR fun x => (hsp x).trans ⟨fun z => ⟨(hR1.2 x).mp z.1, z.2⟩, fun z => ⟨(hR1.2 x).mpr z.1, z.2⟩⟩
/-! ### sums -/
abbrev sp_need_pair (K : PySem.W.Frag) : L2.Sp := S2 fun a b H Q _ => ∃ p p2 n s l R, a = .ref p ∧ b = .ref p2 ∧ SpreadAt K H p n s l ∧ SpaceAt K H p2 n R ∧ ∀ H', Same H H' → Q .non H'
theorem ok_need_pair (T : Tx P K mg) : Has P w K mg base 2 "need_pair" ["spread", "space"] (sp_need_pair K) := by
  refine ⟨g_need_pair T, ok2 (F_need_pair T) sc_need_pair fun cdv A outer s H a b Q E hr h => ?_⟩
  obtain ⟨p, p2, n, ss, ls, R, rfl, rfl, hp, hs, q⟩ := h
  refine ⟨_, (pss_cons (ps_expr (pe_h (ok_any_spread (K := K) T) (hr.mono (by decide)) passL (pa_cons (pv 0) pa_nil)))
    (pss_one (ps_expr (pe_h (ok_need_space (K := K) T) (hr.mono (by decide)) passL (pa_cons (pv 1) (pa_cons (pe_fldK K (pv 0)) pa_nil)))))), ?_⟩
  refine ⟨_, rfl, _, rfl, p, n, ss, ls, rfl, hp, fun H1 e1 => ?_⟩
  exact ⟨_, rfl, _, rfl, at_Spread_bits T (hp.same e1) ⟨_, _, rfl, p2, n, R, rfl, rfl, hs.same e1, fun H2 e2 => q _ (e1.trans e2)⟩⟩
structure PairAt (K : PySem.W.Frag) (H : Hp) (p p2 : Addr) (n : Nat) (s l u R : List Nat) : Prop where
  a : SpreadAt K H p n s l
  b : SpaceAt K H p2 n R
  r : RowsOf u R
  hn : n ≤ 50
  ls : Lt n s
  ll : Lt n l
  lu : Lt n u
  zs : s.length ≤ 100
  zl : l.length ≤ 100
theorem PairAt.same {H H' : Hp} {p p2 : Addr} {n : Nat} {s l u R : List Nat} (h : PairAt K H p p2 n s l u R) (e : Same H H') : PairAt K H' p p2 n s l u R := ⟨h.a.same e, h.b.same e, h.r, h.hn, h.ls, h.ll, h.lu, h.zs, h.zl⟩
abbrev sp_partner_rows (K : PySem.W.Frag) : L2.Sp := S2 fun a b H Q _ => ∃ p p2 n s l u R, a = .ref p ∧ b = .ref p2 ∧ PairAt K H p p2 n s l u R ∧
  ∀ r H' R2 K2, Same H H' → H r = none → H' r = some (.lst (wl K2)) → RowsOf (s ++ R) R2 → KerOf (l.map (clr R2)) K2 → Q (.ref r) H'
theorem ok_partner_rows (T : Tx P K mg) : Has P w K mg base 6 "partner_rows" ["spread", "space"] (sp_partner_rows K) := by
  refine ⟨g_partner_rows T, ok2 (F_partner_rows T) sc_partner_rows fun cdv A outer s H a b Q E hr h => ?_⟩
  obtain ⟨p, p2, n, ss, ls, u, R, rfl, rfl, hp, q⟩ := h
  refine ⟨_, (pss_cons (ps_set (i := 2) sc_partner_rows.nd rfl (.inr rfl) (pe_h (ok_spanned (K := K) T) (hr.mono (by decide)) passL (pa_cons (pe_op op_cat (pe_callTy (call_listM K) (by rfl) (b_list T) bb_list (pa_cons (pe_fldK K (pv 0)) pa_nil)) (pe_callTy (call_listM K) (by rfl) (b_list T) bb_list (pa_cons (pe_fldK K (pv 1)) pa_nil))) pa_nil)))
    (pss_one (ps_ret (pe_h (ok_kernel_rows (K := K) T) (hr.mono (by decide)) passL (pa_cons (pe_lc (own := [("word", 3)]) (g := gName 3) rfl sc_partner_rows.nd (pi_seq (pe_fldK K (pv 0))) (blkOk_by (own := [("word", 3)]) (N := N_partner_rows) (sc := defScope st_partner_rows) (by decide +kernel)) (fun _ _ _ _ _ => pg_name (i := 3) sc_partner_rows.nd rfl (Or.inl rfl)) (fun _ _ _ _ _ => pts_nil) (fun _ _ _ _ _ => (pe_h (ok_cleared (K := K) T) (hr.mono (by decide)) passL (pa_cons (pv 2) (pa_cons (pv 3) pa_nil))))) pa_nil))))), ?_⟩
  have zR : R.length ≤ n := hp.r.len_le hp.lu
  have hn := hp.hn
  have zs := hp.zs
  have zl := hp.zl
  refine ⟨_, rfl, at_Spread_slots T hp.a fun r t => ⟨r, false, _, rfl, t, fun l1 hl1 => ?_⟩⟩
  refine ⟨_, rfl, at_Space_rows T (hp.b.same (Same.new (o := .lst (wl ss)) hl1)) fun r2 t2 => ⟨r2, false, _, rfl, t2, fun l2 hl2 => ?_⟩⟩
  refine ⟨_, _, _, _, rfl, rfl, (by rw [upd_ne (ne_of_none upd_same hl2)]; exact upd_same), upd_same, by rw [wl_len, wl_len]; exact Nat.le_of_lt (small1000 (by omega)), fun l3 hl3 => ?_⟩
  have e3 := ((Same.new (o := .lst (wl ss)) hl1).new' (o := .lst (wl R)) hl2).new' (o := .lst (wl ss ++ wl R)) hl3
  refine ⟨_, rfl, l3, true, ss ++ R, rfl, SqL.of (by rw [upd_same, wl_append]), by rw [List.length_append]; omega, fun l4 H4 R2 e4 hl4 hr4 hR2 => ?_⟩
  have e4 := e3.trans e4
  have lR : Lt n (ss ++ R) := fun x hx => by
    rcases List.mem_append.mp hx with hx | hx
    · exact hp.ls x hx
    · exact hp.r.lt hp.lu x hx
  refine ⟨_, rfl, at_Spread_lanes T (hp.a.same e4) fun r5 t5 => ⟨r5, rfl, ?_⟩⟩
  refine lc_natM (k := false) (ws := ls) (clr R2) t5 (by omega) (fun i x H2 Nx No hi e2 hN => ⟨rfl, ?_⟩) (fun D H2 hD e2 hd => ?_)
  · exact ⟨_, rfl, _, rfl, _, _, rfl, l4, true, R2, x, rfl, rfl, SqL.of (e2 _ _ hr4), hR2.1.pos, fun H2 e2 => hN _ e2⟩
  · refine ⟨_, rfl, D, true, _, rfl, ⟨SqL.of hd, by rw [List.length_map]; omega, fun y hy => ?_⟩, fun l6 H6 ks e6 hl6 hk hK => q l6 H6 R2 ks ((e4.trans e2).trans e6) ((e4.trans e2).free hl6) hk hR2 hK⟩
    obtain ⟨x, hx, rfl⟩ := List.mem_map.mp hy
    exact Nat.lt_of_lt_of_le (clr_lt (hR2.lt lR) (hp.ll x hx)) (Nat.pow_le_pow_right (by decide) (by omega))
abbrev sp_partners (K : PySem.W.Frag) : L2.Sp := S2 fun a b H Q _ => ∃ p p2 n s l u R, a = .ref p ∧ b = .ref p2 ∧ PairAt K H p p2 n s l u R ∧
  ∀ r H' R2 K2, Same H H' → H r = none → SpaceAt K H' r l.length K2 → RowsOf (s ++ R) R2 → KerOf (l.map (clr R2)) K2 → Q (.ref r) H'
theorem ok_partners (T : Tx P K mg) : Has P w K mg base 7 "partners" ["spread", "space"] (sp_partners K) := by
  refine ⟨g_partners T, ok2 (F_partners T) sc_partners fun cdv A outer s H a b Q E hr h => ?_⟩
  obtain ⟨p, p2, n, ss, ls, u, R, rfl, rfl, hp, q⟩ := h
  refine ⟨_, (pss_cons (ps_expr (pe_h (ok_need_pair (K := K) T) (hr.mono (by decide)) passL (pa_cons (pv 0) (pa_cons (pv 1) pa_nil))))
    (pss_one (ps_ret (pe_hc (ok_Space_init (K := K) T) (mk_Space T) (g_Space T) (hr.mono (by decide)) passL (pa_cons (pe_callB (call_lenM K) (by rfl) (b_len T) bb_len (pa_cons (pe_fldK K (pv 0)) pa_nil)) (pa_cons (pe_h (ok_partner_rows (K := K) T) (hr.mono (by decide)) passL (pa_cons (pv 0) (pa_cons (pv 1) pa_nil))) pa_nil)))))), ?_⟩
  refine ⟨_, rfl, _, rfl, _, _, rfl, p, p2, n, ss, ls, R, rfl, rfl, hp.a, hp.b, fun H1 e1 => ?_⟩
  refine ⟨_, rfl, at_Spread_lanes T (hp.a.same e1) fun r t => ⟨_, false, _, rfl, t, _, rfl, _, rfl, _, _, rfl, p, p2, n, ss, ls, u, R, rfl, rfl, hp.same e1, fun l6 H6 R2 ks e6 hl6 hk hR2 hK => ?_⟩⟩
  have hlen : (ls.map (clr R2)).length = ls.length := List.length_map ..
  have hKl := hK.len
  have hKt := hK.lt
  rw [hlen] at hKl hKt
  have zl := hp.zl
  rw [wl_len]
  exact mkSpace (k := true) (SqL.of hk) (by omega) hKt fun x H7 Rx e7 hx hsx hRx => q x H7 R2 Rx ((e1.trans e6).trans e7) ((e1.trans e6).free hx) hsx hR2 ⟨hRx.1, fun y => (hRx.2 y).trans (hK.2 y)⟩
abbrev sp_leaders (K : PySem.W.Frag) : L2.Sp := S2 fun a b H Q _ => ∃ p p2 n s l u R, a = .ref p ∧ b = .ref p2 ∧ PairAt K H p p2 n s l u R ∧ rk (s ++ l) = n ∧
  ∀ r H' fs, Same H H' → H r = none → H' r = some (.lst (wl fs)) → fs.length = lsize (s ++ u) - lsize s → Q (.ref r) H'
theorem ok_leaders (T : Tx P K mg) : Has P w K mg base 8 "leaders" ["spread", "space"] (sp_leaders K) := by
  refine ⟨g_leaders T, ok2 (F_leaders T) sc_leaders fun cdv A outer s H a b Q E hr h => ?_⟩
  obtain ⟨p, p2, n, ss, ls, u, R, rfl, rfl, hp, hrk, q⟩ := h
  refine ⟨_, (pss_one (ps_ret (pe_callTy (call_listM K) (by rfl) (b_list T) bb_list (pa_cons (pe_hm (ok_Space_completing (K := K) T) (own_Space T) (hr.mono (by decide)) passL (pe_hm0 (ok_Spread_twins (K := K) T) (own_Spread T) (hr.mono (by decide)) passL (pv 0)) (pa_cons (pe_h (ok_partners (K := K) T) (hr.mono (by decide)) passL (pa_cons (pv 0) (pa_cons (pv 1) pa_nil))) pa_nil)) pa_nil)))), ?_⟩
  have zl := hp.zl
  obtain ⟨dx, fs, ei, hno⟩ := ins_Spread hp.a
  refine ⟨_, rfl, p, _, _, rfl, ei, hno _ (by decide +kernel), _, rfl, p, n, ss, ls, rfl, hp.a, hp.hn, hp.ls, hp.ll, hp.zs, hp.zl, fun r H1 R1 K1 e1 hr1 hs1 hR1 hK1 => ?_⟩
  obtain ⟨dx1, fs1, ei1, hno1⟩ := ins_Space hs1
  refine ⟨r, _, _, rfl, ei1, hno1 _ (by decide +kernel), _, rfl, _, rfl, _, _, rfl, p, p2, n, ss, ls, u, R, rfl, rfl, hp.same e1, fun r2 H2 R2 K2 e2 hr2 hs2 hR2 hK2 => ?_⟩
  have z1 := hK1.len
  have z2 := hK2.len
  rw [List.length_map] at z1 z2
  refine ⟨_, _, rfl, r, r2, ls.length, K1, K2, rfl, rfl, hs1.same e2, hs2, hK1.1, by omega, by omega, fun r3 H3 gs rows e3 t3 hrows hlen => ?_⟩
  refine ⟨r3, false, _, rfl, t3, fun l4 hl4 => ?_⟩
  have e3' := (e1.trans e2).trans e3
  refine q l4 _ gs (e3'.new' hl4) (e3'.free hl4) upd_same ?_
  have := steps_eq hp.ls hp.ll hp.lu hrk hR1 hp.r hR2 hK1 hK2 hrows
  omega
abbrev sp_sum_steps (K : PySem.W.Frag) : L2.Sp := S2 fun a b H Q _ => ∃ p p2 n s l u R, a = .ref p ∧ b = .ref p2 ∧ PairAt K H p p2 n s l u R ∧ rk (s ++ l) = n ∧
  ∀ r H' fs, Same H H' → SqT K H' r (wl fs) → fs.length = lsize (s ++ u) - lsize s → Q (.ref r) H'
theorem ok_sum_steps (T : Tx P K mg) : Has P w K mg base 9 "sum_steps" ["spread", "space"] (sp_sum_steps K) := by
  refine ⟨g_sum_steps T, ok2 (F_sum_steps T) sc_sum_steps fun cdv A outer s H a b Q E hr h => ?_⟩
  obtain ⟨p, p2, n, ss, ls, u, R, rfl, rfl, hp, hrk, q⟩ := h
  refine ⟨_, (pss_cons (ps_expr (pe_h (ok_need_pair (K := K) T) (hr.mono (by decide)) passL (pa_cons (pv 0) (pa_cons (pv 1) pa_nil))))
    (pss_one (ps_ret (pe_callTy (call_tupleM K) (by rfl) (b_tuple T) bb_tuple (pa_cons (pe_h (ok_leaders (K := K) T) (hr.mono (by decide)) passL (pa_cons (pv 0) (pa_cons (pv 1) pa_nil))) pa_nil))))), ?_⟩
  refine ⟨_, rfl, _, rfl, _, _, rfl, p, p2, n, ss, ls, R, rfl, rfl, hp.a, hp.b, fun H1 e1 => ?_⟩
  exact ⟨_, rfl, _, rfl, _, _, rfl, p, p2, n, ss, ls, u, R, rfl, rfl, hp.same e1, hrk, fun r H2 fs e2 hr2 hf hl => ⟨r, true, _, rfl, SqL.of hf, fun l4 H4 e4 t4 => q l4 H4 fs ((e1.trans e2).trans e4) t4 hl⟩⟩
end
end L2.Lk
/-! P5 -/
set_option Elab.async false
set_option linter.all false
set_option maxRecDepth 100000
set_option maxHeartbeats 2000000
namespace L2.Lk
open PySem PySem.Spec PyProof.Rows
/-! ### flat values as data -/
def dF : V → PyData
  | .bl b => .bool b
  | .int i => .int i
  | .str x => .str x
  | _ => .none
def flatOk (a : V) : Bool := flatV a && (dF a).canLay0
def fd (xs : List V) : List PyData := xs.map dF
theorem flatOk_flat {a : V} (h : flatOk a = true) : flatV a = true := (Bool.and_eq_true_iff.mp h).1
theorem all_flat {xs : List V} (h : xs.all flatOk = true) : xs.all flatV = true := List.all_eq_true.mpr fun a ha => flatOk_flat (List.all_eq_true.mp h a ha)
theorem dp_flat {K : PySem.W.Frag} {H : Hp} {a : V} (h : flatOk a = true) : Dp K H a (dF a) := by
  have h := flatOk_flat h
  cases a <;> first | (cases h; done) | skip
  · exact .non
  · exact .bl _
  · exact .int _
  · exact .str _
theorem dp_fd {K : PySem.W.Frag} {H : Hp} : ∀ {xs : List V}, xs.all flatOk = true → DpAll K H xs (fd xs)
  | [], _ => .nil
  | a :: xs, h => by
    rw [List.all_cons, Bool.and_eq_true] at h
    exact .cons (dp_flat h.1) (dp_fd h.2)
theorem fd_lay : ∀ {xs : List V}, xs.all flatOk = true → PyData.canLayAll0 (fd xs) = true
  | [], _ => by simp [fd, PyData.canLayAll0]
  | a :: xs, h => by
    rw [List.all_cons, Bool.and_eq_true] at h
    have h1 := (Bool.and_eq_true_iff.mp h.1).2
    show PyData.canLayAll0 (dF a :: fd xs) = true
    simp [PyData.canLayAll0, h1, fd_lay h.2]
theorem dF_depth (a : V) : (dF a).depth = 0 := by cases a <;> simp [dF, PyData.depth]
theorem fd_depth : ∀ xs : List V, PyData.depthAll (fd xs) ≤ 1
  | [] => by simp [fd, PyData.depthAll]
  | a :: xs => by
    have := fd_depth xs
    show PyData.depthAll (dF a :: fd xs) ≤ 1
    simp [PyData.depthAll, dF_depth]
    omega
theorem shaped_fd {xs : List V} (h : xs.all flatOk = true) : SeqAt.shaped (.tuple (fd xs)) = true := by
  unfold SeqAt.shaped
  simp only [PyData.canLay0, PyData.depth, fd_lay h, Bool.true_and]
  refine decide_eq_true ?_
  have := fd_depth xs
  omega
theorem shaped_flat {a : V} (h : flatOk a = true) : SeqAt.shaped (dF a) = true := by
  unfold SeqAt.shaped
  rw [(Bool.and_eq_true_iff.mp h).2, dF_depth]
  rfl
theorem shaped_nil : SeqAt.shaped (.tuple []) = true := by simp [SeqAt.shaped, PyData.canLay0, PyData.canLayAll0, PyData.depth, PyData.depthAll]
/-! ### names -/
def isS : V → Bool
  | .str _ => true
  | _ => false
def nameB (x : Str) : Bool := decide (x.length ≤ 8) && (!decide (x = "") && x.cps.toList.all fun c => decide (c ∈ ("abcdefghijklmnopqrstuvwxyz" : Str).cps.toList))
def nameV : V → Bool
  | .str x => nameB x
  | _ => false
section
variable {P : Program} {w : World} {K : PySem.W.Frag} {mg : Str → Option Value} {base : Heap}
/-- a value of which isinstance(.., str) and the like are told: flat ones, lists -/
def ArgV (K : PySem.W.Frag) (H : Hp) (a : V) : Prop := (flatV a = true ∧ ∀ x, a = .str x → x.length ≤ sizeLine) ∨ ∃ p k xs, a = .ref p ∧ Sq K k H p xs
theorem ArgV.same {H H' : Hp} {a : V} (h : ArgV K H a) (e : Same H H') : ArgV K H' a := by
  rcases h with h | ⟨p, k, xs, h1, h2⟩
  · exact .inl h
  · exact .inr ⟨p, k, xs, h1, e.sq h2⟩
theorem kb_ns : kitB "NoneType" "str" = some false := by decide +kernel
theorem kb_bs : kitB "bool" "str" = some false := by decide +kernel
theorem kb_is : kitB "int" "str" = some false := by decide +kernel
theorem kb_ss : kitB "str" "str" = some true := by decide +kernel
theorem kb_ls : kitB "list" "str" = some false := by decide +kernel
theorem kb_ts : kitB "tuple" "str" = some false := by decide +kernel
theorem kb_tt : kitB "tuple" "tuple" = some true := by decide +kernel
theorem arg_str {H : Hp} {a : V} (h : ArgV K H a) : ∃ t, TyX K H a (.type t) ∧ PySem.W.kitOne K (.type t) (.type "str") = some (isS a) := by
  rcases h with ⟨h, _⟩ | ⟨p, k, xs, rfl, h⟩
  · refine ⟨_, tyF_ok h, ?_⟩
    cases a <;> first | (cases h; done) | skip
    · exact kit_ty kb_ns
    · exact kit_ty kb_bs
    · exact kit_ty kb_is
    · exact kit_ty kb_ss
  · cases k with
    | true => exact ⟨_, sq_ty (k := true) h, kit_ty kb_ls⟩
    | false => exact ⟨_, sq_ty (k := false) h, kit_ty kb_ts⟩
abbrev sp_is_name (K : PySem.W.Frag) : L2.Sp := S1 fun a H Q _ => ArgV K H a ∧ ∀ H', Same H H' → Q (.bl (nameV a)) H'
theorem nameV_no {a : V} (h : isS a = false) : nameV a = false := by cases a <;> first | rfl | cases h
theorem ok_is_name (T : Tx P K mg) : Has P w K mg base 1 "is_name" ["value"] (sp_is_name K) := by
  refine ⟨g_is_name T, ok1 (F_is_name T) sc_is_name fun cdv A outer s H a Q E hr h => ?_⟩
  obtain ⟨ha, q⟩ := h
  refine ⟨_, (pss_cons (ps_if (PW.pt (pw_or (pt_not (pt_val (pe_callB call_isi (by rfl) (b_isinstance T) bb_isinstance (pa_cons (pv 0) (pa_cons (pe_bltn (v := .ty "str") (by rfl) (b_str T) bb_str rfl) pa_nil))))) (pw_or (pt_cmpR op_gtM (pe_callB call_len_str (by rfl) (b_len T) bb_len (pa_cons (pv 0) pa_nil)) (pe_nat 8) (nomark _)) (pw_or1 (pt_cmpR op_eq (pv 0) pe_str (nomark _)))))) (pss_one (ps_ret pe_bl)) pss_nil)
    (pss_one (ps_ret (pe_callB (cr_all rfl) (by rfl) (b_all T) bb_all (pa_cons (pe_lc (own := [("letter", 1)]) (g := gName 1) rfl sc_is_name.nd (pi_str (pv 0)) (blkOk_by (own := [("letter", 1)]) (N := N_is_name) (sc := defScope st_is_name) (by decide +kernel)) (fun _ _ _ _ _ => pg_name (i := 1) sc_is_name.nd rfl (Or.inl rfl)) (fun _ _ _ _ _ => pts_nil) (fun _ _ _ _ _ => (pe_cmpR op_in_sign (pv 1) pe_str (by rfl)))) pa_nil))))), ?_⟩
  obtain ⟨t, ht, hk⟩ := arg_str ha
  refine ⟨_, rfl, _, _, _, _, _, rfl, .ty _, ht, hk, _, rfl, ?_⟩
  cases hs : isS a with
  | false =>
    have q := q _ (Same.refl _)
    rw [nameV_no hs] at q
    exact iteT (iteT q)
  | true =>
    cases a <;> first | (cases hs; done) | skip
    rename_i x
    have hx : x.length ≤ sizeLine := by
      rcases ha with ⟨_, h⟩ | ⟨p, k, xs, h, _⟩
      · exact h x rfl
      · cases h
    have q : ∀ H', Same H H' → Q (.bl (nameB x)) H' := q
    refine iteF ⟨_, rfl, x, rfl, hx, _, _, rfl, rfl, _, rfl, ite2 (fun h => ?_) (fun h => ?_)⟩
    · have h := of_decide_eq_true h
      have : nameB x = false := by unfold nameB; rw [decide_eq_false (by omega), Bool.false_and]
      refine iteT ?_
      rw [← this]
      exact q _ (Same.refl _)
    · have h : ¬ 8 < x.length := fun z => h (decide_eq_true z)
      refine ⟨_, rfl, rfl, _, rfl, ?_⟩
      by_cases he : x = ""
      · rw [decide_eq_true (show V.str x = V.str "" by rw [he])]
        have : nameB x = false := by unfold nameB; rw [decide_eq_true he]; simp
        refine iteT ?_
        rw [← this]
        exact q _ (Same.refl _)
      · rw [decide_eq_false (show ¬ V.str x = V.str "" from fun z => he (by injection z))]
        refine iteF ⟨_, rfl, x, rfl, fun D hD => ?_⟩
        refine lc_it walk_str (Pv := fun i H' => Same H H' ∧ H' D = some (.lst ((x.cps.toList.take i).map fun c => V.bl (decide (c ∈ ("abcdefghijklmnopqrstuvwxyz" : Str).cps.toList))))) ⟨Same.new hD, upd_same⟩ (fun _ _ _ _ => trivial) (fun i v H1 H2 hi p y => ?_) (fun H' p => ?_)
        · obtain ⟨e, hl⟩ := p
          obtain ⟨rfl, c, hc, rfl⟩ := y
          have hc2 : x.cps.toList[i]? = some c := by rw [Array.getElem?_toList]; exact hc
          refine ⟨rfl, _, rfl, c, _, rfl, rfl, _, hl, ?_, Same.but hD e (Same.refl _), ?_⟩
          · rw [List.length_map]
            refine Nat.lt_of_le_of_lt (List.length_take_le' _ _) (small1000 ?_)
            have : x.cps.toList.length = x.length := Array.length_toList
            omega
          · rw [upd_same, List.take_add_one, hc2, List.map_append]
            rfl
        · refine ⟨D, x.cps.toList.map fun c => decide (c ∈ ("abcdefghijklmnopqrstuvwxyz" : Str).cps.toList), rfl, SqL.of ?_, ?_⟩
          · have h2 := p.2
            rw [List.take_of_length_le (by simp)] at h2
            rw [List.map_map]
            exact h2
          · have : nameB x = (x.cps.toList.map fun c => decide (c ∈ ("abcdefghijklmnopqrstuvwxyz" : Str).cps.toList)).all id := by
              unfold nameB
              rw [decide_eq_true (by omega : x.length ≤ 8), decide_eq_false he, List.all_map]
              rfl
            rw [← this]
            exact q _ p.1
abbrev sp_need_name (K : PySem.W.Frag) : L2.Sp := S1 fun a H Q E => ArgV K H a ∧ (nameV a = true → ∀ H', Same H H' → Q .non H') ∧ (nameV a = false → ∀ d H', Same H H' → H d = none → H' d = some (.xd [("value", a)]) → E (.ref (cBadValue K)) (some d) H')
theorem ok_need_name (T : Tx P K mg) : Has P w K mg base 3 "need_name" ["value"] (sp_need_name K) := by
  refine ⟨g_need_name T, ok1 (F_need_name T) sc_need_name fun cdv A outer s H a Q E hr h => ?_⟩
  obtain ⟨ha, q, qe⟩ := h
  refine ⟨_, (pss_one (ps_if (pt_not (pt_val (pe_h (ok_is_name (K := K) T) (hr.mono (by decide)) passL (pa_cons (pv 0) pa_nil)))) (pss_one (rz_BadValue T hr (takes_of rfl rfl rfl rfl) (pa_cons (pv 0) pa_nil))) pss_nil)), ?_⟩
  refine ⟨_, rfl, _, rfl, ha, fun H1 e1 => ⟨_, rfl, ?_⟩⟩
  cases hn : nameV a with
  | true => exact iteF (q hn _ e1)
  | false => exact iteT ⟨_, rfl, rz1_rd fun d hd => qe hn d _ (e1.new' hd) (e1.free hd) upd_same⟩
/-! ### promises -/
abbrev wordsL : List V := [.str "rounds", .str "sums", .str "steps", .str "alike", .str "fits", .str "free"]
abbrev countedL : List V := [.str "rounds", .str "sums", .str "steps", .str "fits"]
/-- what need_promise asks of a tuple's items -/
def pgood (xs : List V) : Bool := match xs with
  | [] => false
  | x :: r => isS x && (inV x wordsL && (decide ((x :: r).length = if inV x countedL then 4 else 3) && (nameV (r.getD 0 .non) && (nameV (r.getD 1 .non) && (!inV x countedL || wholeV (r.getD 2 .non))))))
theorem pgood_cons (x : V) (r : List V) : pgood (x :: r) = (isS x && (inV x wordsL && (decide ((x :: r).length = if inV x countedL then 4 else 3) && (nameV (r.getD 0 .non) && (nameV (r.getD 1 .non) && (!inV x countedL || wholeV (r.getD 2 .non))))))) := rfl
/-- what may be asked to be a promise: anything but a tuple, or a tuple of flat values -/
def AskV (K : PySem.W.Frag) (H : Hp) (a : V) (good : Bool) : Prop :=
  (good = false ∧ ∃ t, TyX K H a (.type t) ∧ kitB t "tuple" = some false) ∨ ∃ p xs, a = .ref p ∧ SqT K H p xs ∧ xs.all flatOk = true ∧ (∀ x, V.str x ∈ xs → x.length ≤ sizeLine) ∧ good = pgood xs
abbrev sp_need_promise (K : PySem.W.Frag) : L2.Sp := S1 fun a H Q E => ∃ good, AskV K H a good ∧ (good = true → ∀ H', Same H H' → Q .non H') ∧ (good = false → ∀ d H', Same H H' → H d = none → H' d = some (.xd [("promise", a)]) → E (.ref (cBadPromise K)) (some d) H')
theorem fd_nil {xs : List V} : PyData.eqv (.tuple (fd xs)) (.tuple []) = decide (xs = []) := by
  cases xs with
  | nil => simp [fd, PyData.eqv, PyData.eqvAll]
  | cons a xs => simp [fd, PyData.eqv, PyData.eqvAll]
theorem ite_tc {c : Bool} {σ : L2.St} {H : Hp} {Q : VK} (h : Q (nV (if c = true then 4 else 3)) H) : if c = true then tC (nV 4) σ H Q else tC (nV 3) σ H Q := by cases c <;> exact h
theorem ok_need_promise (T : Tx P K mg) : Has P w K mg base 3 "need_promise" ["value"] (sp_need_promise K) := by
  refine ⟨g_need_promise T, ok1 (F_need_promise T) sc_need_promise fun cdv A outer s H a Q E hr h => ?_⟩
  obtain ⟨good, ha, q, qe⟩ := h
  refine ⟨_, (pss_cons (ps_if (PW.pt (pw_or (pt_not (pt_val (pe_callB call_isi (by rfl) (b_isinstance T) bb_isinstance (pa_cons (pv 0) (pa_cons (pe_bltn (v := .ty "tuple") (by rfl) (b_tuple T) bb_tuple rfl) pa_nil))))) (pw_or (pt_cmpR (op_eqDK K hr.units) (pv 0) (pe_tup pa_nil) (nomark _)) (pw_or (pt_not (pt_val (pe_callB call_isi (by rfl) (b_isinstance T) bb_isinstance (pa_cons (pe_ix ix_tup (pv 0) (pe_nat 0) (fun _ _ => rfl)) (pa_cons (pe_bltn (v := .ty "str") (by rfl) (b_str T) bb_str rfl) pa_nil))))) (pw_or1 (pt_cmpR op_notIn_seq (pe_ix ix_tup (pv 0) (pe_nat 0) (fun _ _ => rfl)) (pe_glob (v := .ref (He.ga K "WORDS")) (by rfl) (g_WORDS T) rfl) (by rfl))))))) (pss_one (rz_BadPromise T hr (takes_of rfl rfl rfl rfl) (pa_cons (pv 0) pa_nil))) pss_nil)
    (pss_cons (ps_if (PW.pt (pw_or (pt_cmpR op_neM (pe_callB (call_lenM K) (by rfl) (b_len T) bb_len (pa_cons (pv 0) pa_nil)) (pe_ifExp (pt_cmpR op_in_seq (pe_ix ix_tup (pv 0) (pe_nat 0) (fun _ _ => rfl)) (pe_glob (v := .ref (He.ga K "COUNTED")) (by rfl) (g_COUNTED T) rfl) (by rfl)) (pe_nat 4) (pe_nat 3)) (nomark _)) (pw_or (pt_not (pt_val (pe_h (ok_is_name (K := K) T) (hr.mono (by decide)) passL (pa_cons (pe_ix ix_tup (pv 0) (pe_nat 1) (fun _ _ => rfl)) pa_nil)))) (pw_or1 (pt_not (pt_val (pe_h (ok_is_name (K := K) T) (hr.mono (by decide)) passL (pa_cons (pe_ix ix_tup (pv 0) (pe_nat 2) (fun _ _ => rfl)) pa_nil)))))))) (pss_one (rz_BadPromise T hr (takes_of rfl rfl rfl rfl) (pa_cons (pv 0) pa_nil))) pss_nil)
    (pss_one (ps_if (PW.pt (pw_and (pt_cmpR op_in_seq (pe_ix ix_tup (pv 0) (pe_nat 0) (fun _ _ => rfl)) (pe_glob (v := .ref (He.ga K "COUNTED")) (by rfl) (g_COUNTED T) rfl) (by rfl)) (pw_and1 (pt_not (pt_val (pe_h (ok_is_whole (K := K) T) (hr.mono (by decide)) passL (pa_cons (pe_ix ix_tup (pv 0) (pe_nat 3) (fun _ _ => rfl)) pa_nil))))))) (pss_one (rz_BadPromise T hr (takes_of rfl rfl rfl rfl) (pa_cons (pv 0) pa_nil))) pss_nil)))), ?_⟩
  rcases ha with ⟨hg, t, ht, hk⟩ | ⟨p, xs, rfl, hp, hf, hz, rfl⟩
  · exact ⟨_, rfl, _, _, _, _, _, rfl, .ty _, ht, kit_ty hk, _, rfl, iteT (iteT ⟨_, rfl, rz1_rd fun d hd => qe hg d _ (Same.new hd) hd upd_same⟩)⟩
  have no : ∀ {H1 : Hp}, Same H H1 → pgood xs = false → ∀ d, H1 d = none → E (.ref (cBadPromise K)) (some d) (upd H1 d (.xd [("promise", .ref p)])) := fun e1 hg d hd => qe hg d _ (e1.new' hd) (e1.free hd) upd_same
  refine ⟨_, rfl, _, _, _, _, _, rfl, .ty _, sq_ty (k := false) hp, kit_ty kb_tt, _, rfl, iteF ?_⟩
  refine ⟨_, rfl, Nat.zero_le _, fun t0 ht0 => ?_⟩
  have e1 : Same H (upd H t0 (.tup [])) := Same.new ht0
  have hp1 := e1.tup hp
  refine ⟨.tuple (fd xs), .tuple [], .tup hp1 (dp_fd hf), .tup (SqT.of upd_same) .nil, shaped_fd hf, shaped_nil, _, rfl, ?_⟩
  rw [fd_nil]
  cases xs with
  | nil => exact iteT (iteT ⟨_, rfl, rz1_rd fun d hd => no e1 rfl d hd⟩)
  | cons x r =>
    rw [decide_eq_false (by simp)]
    refine iteF ⟨_, rfl, p, _, _, x, rfl, rfl, hp1, atI_nat (j := 0) rfl, ?_⟩
    have hfx : flatOk x = true := List.all_eq_true.mp hf x List.mem_cons_self
    have at0 : ∀ {H' : Hp}, Same H H' → SqT K H' p (x :: r) := fun e => e.tup hp
    have hax : ArgV K (upd H t0 (.tup [])) x := .inl ⟨flatOk_flat hfx, fun y hy => hz y (by rw [← hy]; exact List.mem_cons_self)⟩
    obtain ⟨t, ht, hk⟩ := arg_str hax
    refine ⟨_, _, _, _, _, rfl, .ty _, ht, hk, _, rfl, ?_⟩
    cases hs : isS x with
    | false =>
      have hg : pgood (x :: r) = false := by rw [pgood_cons, hs, Bool.false_and]
      exact iteT (iteT ⟨_, rfl, rz1_rd fun d hd => no e1 hg d hd⟩)
    | true =>
      refine iteF ⟨_, rfl, p, _, _, x, rfl, rfl, hp1, atI_nat (j := 0) rfl, ?_⟩
      refine ⟨_, wordsL, rfl, .inr (T.words _), flatOk_flat hfx, rfl, _, rfl, ?_⟩
      cases hw : inV x wordsL with
      | false =>
        have hg : pgood (x :: r) = false := by rw [pgood_cons, hw, Bool.false_and, Bool.and_false]
        exact iteT ⟨_, rfl, rz1_rd fun d hd => no e1 hg d hd⟩
      | true =>
        have hpg : pgood (x :: r) = (decide ((x :: r).length = if inV x countedL then 4 else 3) && (nameV (r.getD 0 .non) && (nameV (r.getD 1 .non) && (!inV x countedL || wholeV (r.getD 2 .non))))) := by rw [pgood_cons, hs, hw, Bool.true_and, Bool.true_and]
        refine iteF ⟨_, rfl, _, false, _, rfl, hp1, _, rfl, p, _, _, x, rfl, rfl, hp1, atI_nat (j := 0) rfl, ?_⟩
        refine ⟨_, countedL, rfl, .inr (T.counted _), flatOk_flat hfx, rfl, _, rfl, ?_⟩
        refine ite_tc ⟨_, _, rfl, rfl, _, rfl, ?_⟩
        refine ite2 (fun hne => ?_) (fun heq => ?_)
        · have hl : ¬ ((x :: r).length = if inV x countedL = true then 4 else 3) := by simpa using hne
          rw [decide_eq_false hl] at hpg
          exact iteT ⟨_, rfl, rz1_rd fun d hd => no e1 hpg d hd⟩
        · have hl : ((x :: r).length = if inV x countedL = true then 4 else 3) := by simpa using heq
          rw [decide_eq_true hl] at hpg
          rw [Bool.true_and] at hpg
          match r, hl with
          | [], hl => split at hl <;> simp at hl
          | [_], hl => split at hl <;> simp at hl
          | y :: z :: r', hl =>
            have arg : ∀ {H' : Hp} (v : V), v ∈ x :: y :: z :: r' → ArgV K H' v := fun v hv => .inl ⟨flatOk_flat (List.all_eq_true.mp hf v hv), fun s hs => hz s (by rw [← hs]; exact hv)⟩
            have hpg : pgood (x :: y :: z :: r') = (nameV y && (nameV z && (!inV x countedL || wholeV (r'.getD 0 .non)))) := hpg
            refine ⟨_, rfl, p, _, _, y, rfl, rfl, hp1, atI_nat (j := 1) rfl, _, rfl, arg y (by simp), fun H2 e2 => ⟨_, rfl, ?_⟩⟩
            have e12 := e1.trans e2
            cases hy : nameV y with
            | false => exact iteT (iteT ⟨_, rfl, rz1_rd fun d hd => no e12 (by rw [hpg, hy]; rfl) d hd⟩)
            | true =>
              refine iteF ⟨_, rfl, p, _, _, z, rfl, rfl, e12.tup hp, atI_nat (j := 2) rfl, _, rfl, arg z (by simp), fun H3 e3 => ⟨_, rfl, ?_⟩⟩
              have e13 := e12.trans e3
              cases hzn : nameV z with
              | false => exact iteT ⟨_, rfl, rz1_rd fun d hd => no e13 (by rw [hpg, hzn]; cases nameV y <;> rfl) d hd⟩
              | true =>
                rw [hy, hzn, Bool.true_and, Bool.true_and] at hpg
                refine iteF ⟨_, rfl, p, _, _, x, rfl, rfl, e13.tup hp, atI_nat (j := 0) rfl, _, countedL, rfl, .inr (T.counted _), flatOk_flat hfx, rfl, _, rfl, ?_⟩
                show if inV x countedL = true then _ else _
                cases hc : inV x countedL with
                | false =>
                  rw [hc] at hpg
                  exact iteF (iteF (q hpg _ e13))
                | true =>
                  rw [hc] at hpg hl
                  match r', hl with
                  | [u], _ =>
                    have hpg : pgood [x, y, z, u] = wholeV u := hpg
                    refine iteT ⟨_, rfl, p, _, _, u, rfl, rfl, e13.tup hp, atI_nat (j := 3) rfl, _, rfl, flatOk_flat (List.all_eq_true.mp hf u (by simp)), fun H4 e4 => ⟨_, rfl, ?_⟩⟩
                    cases hu : wholeV u with
                    | true => exact iteF (q (by rw [hpg, hu]) _ (e13.trans e4))
                    | false => exact iteT ⟨_, rfl, rz1_rd fun d hd => no (e13.trans e4) (by rw [hpg, hu]) d hd⟩
end
end L2.Lk
/-! P6 -/
set_option Elab.async false
set_option linter.all false
set_option maxRecDepth 100000
set_option maxHeartbeats 2000000
namespace L2.Lk
open PySem PySem.Spec PyProof.Rows
/-! ### promises, plainly -/
inductive Prm where
  | steps (a b : Str) (k : Nat)
  | alike (a b : Str)
  | free (a b : Str)
  deriving DecidableEq
def Prm.one : Prm → Str
  | .steps a _ _ => a
  | .alike a _ => a
  | .free a _ => a
def Prm.other : Prm → Str
  | .steps _ b _ => b
  | .alike _ b => b
  | .free _ b => b
def Prm.vs : Prm → List V
  | .steps a b k => [.str "steps", .str a, .str b, nV k]
  | .alike a b => [.str "alike", .str a, .str b]
  | .free a b => [.str "free", .str a, .str b]
abbrev Ths := List (Str × Thing)
/-- the law's word on a promise about two things -/
def keptT : Prm → Thing → Thing → Bool
  | .alike _ _, .spread n s l, .spread n2 s2 l2 => decide (n = n2) && alikeB s l s2 l2
  | .free _ _, .spread n _ l, .store n2 c b => decide (n = n2) && freeB l c b
  | .steps _ _ k, .spread n s _, .space n2 u => decide (n = n2) && stepsB s u k
  | _, _, _ => false
def kept (ts : Ths) (p : Prm) : Bool := match ts.lookup p.one, ts.lookup p.other with
  | some a, some b => keptT p a b
  | _, _ => false
/-- an instance that is the thing -/
def ThingAt (K : PySem.W.Frag) (H : Hp) (p : Addr) : Thing → Prop
  | .spread n s l => SpreadAt K H p n s l
  | .space n u => ∃ R, SpaceAt K H p n R ∧ RowsOf u R
  | .store n c b => StoreAt K H p n c b
section
variable {P : Program} {w : World} {K : PySem.W.Frag} {mg : Str → Option Value} {base : Heap}
theorem ThingAt.same {H H' : Hp} {p : Addr} {t : Thing} (h : ThingAt K H p t) (e : Same H H') : ThingAt K H' p t := by
  cases t with
  | spread n s l => exact SpreadAt.same e h
  | space n u => obtain ⟨R, h1, h2⟩ := h; exact ⟨R, SpaceAt.same e h1, h2⟩
  | store n c b => exact StoreAt.same e h
def RepP (K : PySem.W.Frag) (H : Hp) : List (Key × V) → Ths → Prop := Paired fun kv t => kv.1 = Sum.inr t.1 ∧ ∃ p, kv.2 = .ref p ∧ ThingAt K H p t.2
theorem RepP.same {H H' : Hp} {kvs : List (Key × V)} {ts : Ths} (h : RepP K H kvs ts) (e : Same H H') : RepP K H' kvs ts :=
  Paired.mapP h fun _ _ ⟨h1, p, h2, h3⟩ => ⟨h1, p, h2, h3.same e⟩
theorem RepP.get {H : Hp} : ∀ {kvs : List (Key × V)} {ts : Ths} (h : RepP K H kvs ts) (x : Str), (ts.lookup x = none ∧ valV kvs (Sum.inr x) = none) ∨ ∃ p th, ts.lookup x = some th ∧ valV kvs (Sum.inr x) = some (.ref p) ∧ ThingAt K H p th
  | [], [], _, _ => .inl ⟨rfl, rfl⟩
  | kv :: kvs, t :: ts, .cons h r, x => by
    obtain ⟨h1, p, h2, h3⟩ := h
    obtain ⟨y, th⟩ := t
    by_cases e : x = y
    · subst e
      exact .inr ⟨p, th, by rw [List.lookup_cons, beq_self_eq_true], by rw [valV_pos h1, h2], h3⟩
    · have eb : (x == y) = false := beq_eq_false_iff_ne.mpr e
      have ek : ¬ kv.1 = Sum.inr x := fun z => e (by rw [h1] at z; injection z with z; exact z.symm)
      rw [List.lookup_cons, eb, valV_neg ek]
      exact RepP.get r x
def clsT (K : PySem.W.Frag) : Thing → Addr
  | .spread .. => cSpread K
  | .space .. => cSpace K
  | .store .. => cStore K
def isSpread : Thing → Bool
  | .spread .. => true
  | _ => false
def isSpace : Thing → Bool
  | .space .. => true
  | _ => false
def isStore : Thing → Bool
  | .store .. => true
  | _ => false
theorem ty_thing (T : Tx P K mg) {H : Hp} {p : Addr} {t : Thing} (h : ThingAt K H p t) : TyX K H (.ref p) (.ref (clsT K t)) := by
  cases t with
  | spread n s l => exact ty_Spread T h
  | space n u => obtain ⟨R, h1, _⟩ := h; exact ty_Space T h1
  | store n c b => exact ty_Store T h
theorem kit_spread (T : Tx P K mg) (t : Thing) : PySem.W.kitOne K (.ref (clsT K t)) (.ref (cSpread K)) = some (isSpread t) := by
  cases t
  · exact kit_Spread_Spread T
  · exact kit_Space_Spread T
  · exact kit_Store_Spread T
theorem kit_space (T : Tx P K mg) (t : Thing) : PySem.W.kitOne K (.ref (clsT K t)) (.ref (cSpace K)) = some (isSpace t) := by
  cases t
  · exact kit_Spread_Space T
  · exact kit_Space_Space T
  · exact kit_Store_Space T
theorem kit_store (T : Tx P K mg) (t : Thing) : PySem.W.kitOne K (.ref (clsT K t)) (.ref (cStore K)) = some (isStore t) := by
  cases t
  · exact kit_Spread_Store T
  · exact kit_Space_Store T
  · exact kit_Store_Store T
abbrev sp_bits_of (K : PySem.W.Frag) : L2.Sp := S1 fun a H Q _ => ∃ p th, a = .ref p ∧ ThingAt K H p th ∧ th.Wf ∧ ∀ H', Same H H' → Q (nV th.bits) H'
theorem ok_bits_of (T : Tx P K mg) : Has P w K mg base 1 "bits_of" ["thing"] (sp_bits_of K) := by
  refine ⟨g_bits_of T, ok1 (F_bits_of T) sc_bits_of fun cdv A outer s H a Q E hr h => ?_⟩
  obtain ⟨p, th, rfl, ht, hw, q⟩ := h
  have q := q _ (Same.refl _)
  refine ⟨_, (pss_one (ps_ret (pe_ifExp (pt_val (pe_callB call_isi (by rfl) (b_isinstance T) bb_isinstance (pa_cons (pv 0) (pa_cons (pe_glob (v := .ref (He.ga K "Store")) (by rfl) (g_Store T) rfl) pa_nil)))) (pe_fldK K (pe_fldK K (pv 0))) (pe_fldK K (pv 0))))), ?_⟩
  refine ⟨_, rfl, _, _, _, _, _, rfl, .own _, ty_thing T ht, kit_store T th, _, rfl, ?_⟩
  cases th with
  | spread n s l => exact iteF ⟨_, rfl, at_Spread_bits T ht q⟩
  | space n u => obtain ⟨R, h1, _⟩ := ht; exact iteF ⟨_, rfl, at_Space_bits T h1 q⟩
  | store n c b =>
    have hc : c.length = n := hw.2.1
    exact iteT ⟨_, rfl, at_Store_change T ht fun r hm => at_Map_source T hm (by rw [hc]; exact q)⟩
abbrev sp_spreads_keep (K : PySem.W.Frag) : L2.Sp := S3 fun a b c H Q _ => ∃ p p1 p2 x y n s l s2 l2, a = .ref p ∧ b = .ref p1 ∧ c = .ref p2 ∧ SqT K H p (Prm.alike x y).vs ∧ SpreadAt K H p1 n s l ∧ SpreadAt K H p2 n s2 l2 ∧ (Thing.spread n s l).Wf ∧ (Thing.spread n s2 l2).Wf ∧ ∀ H', Same H H' → Q (.bl (alikeB s l s2 l2)) H'
theorem ok_spreads_keep (T : Tx P K mg) : Has P w K mg base 8 "spreads_keep" ["promise", "one", "other"] (sp_spreads_keep K) := by
  refine ⟨g_spreads_keep T, ok3 (F_spreads_keep T) sc_spreads_keep fun cdv A outer s H a b c Q E hr h => ?_⟩
  obtain ⟨p, p1, p2, x, y, n, s1, l1, s2, l2, rfl, rfl, rfl, hp, h1, h2, w1, w2, q⟩ := h
  refine ⟨_, (pss_cons (ps_if (pt_cmpR op_eq (pe_ix ix_tup (pv 0) (pe_nat 0) (fun _ _ => rfl)) pe_str (nomark _)) (pss_one (ps_ret (pe_h (ok_hold_alike (K := K) T) (hr.mono (by decide)) passL (pa_cons (pv 1) (pa_cons (pv 2) pa_nil))))) pss_nil)
    (pss_one ps_never)), ?_⟩
  refine ⟨_, rfl, p, _, _, _, rfl, rfl, hp, atI_nat (j := 0) rfl, rfl, _, rfl, iteT ?_⟩
  exact ⟨_, rfl, _, rfl, _, _, rfl, p1, p2, n, s1, l1, s2, l2, rfl, rfl, h1, h2, w1.2.2.2.1, w1.2.2.2.2.1, w2.2.2.2.1, w2.2.2.2.2.1, Nat.le_trans w1.2.1 (by decide), Nat.le_trans w2.2.1 (by decide), Nat.le_trans w1.2.2.1 (by decide), q⟩
abbrev sp_sums_keep (K : PySem.W.Frag) : L2.Sp := S3 fun a b c H Q _ => ∃ p p1 p2 x y k n s l u R, a = .ref p ∧ b = .ref p1 ∧ c = .ref p2 ∧ SqT K H p (Prm.steps x y k).vs ∧ SpreadAt K H p1 n s l ∧ SpaceAt K H p2 n R ∧ RowsOf u R ∧ (Thing.spread n s l).Wf ∧ (Thing.space n u).Wf ∧ ∀ H', Same H H' → Q (.bl (stepsB s u k)) H'
theorem pair_of {H : Hp} {p1 p2 : Addr} {n : Nat} {s l u R : List Nat} (h1 : SpreadAt K H p1 n s l) (h2 : SpaceAt K H p2 n R) (hR : RowsOf u R) (w1 : (Thing.spread n s l).Wf) (w2 : (Thing.space n u).Wf) : PairAt K H p1 p2 n s l u R :=
  ⟨h1, h2, hR, Nat.le_trans w1.1 (by decide), w1.2.2.2.1, w1.2.2.2.2.1, w2.2.2, Nat.le_trans w1.2.1 (by decide), Nat.le_trans w1.2.2.1 (by decide)⟩
theorem ok_sums_keep (T : Tx P K mg) : Has P w K mg base 10 "sums_keep" ["promise", "spread", "space"] (sp_sums_keep K) := by
  refine ⟨g_sums_keep T, ok3 (F_sums_keep T) sc_sums_keep fun cdv A outer s H a b c Q E hr h => ?_⟩
  obtain ⟨p, p1, p2, x, y, k, n, s1, l1, u, R, rfl, rfl, rfl, hp, h1, h2, hR, w1, w2, q⟩ := h
  refine ⟨_, (pss_cons (ps_if (pt_cmpR op_eq (pe_ix ix_tup (pv 0) (pe_nat 0) (fun _ _ => rfl)) pe_str (nomark _)) (pss_one ps_never) pss_nil)
    (pss_one (ps_ret (pe_cmpR op_leM (pe_callB (call_lenM K) (by rfl) (b_len T) bb_len (pa_cons (pe_h (ok_sum_steps (K := K) T) (hr.mono (by decide)) passL (pa_cons (pv 1) (pa_cons (pv 2) pa_nil))) pa_nil)) (pe_ix ix_tup (pv 0) (pe_nat 3) (fun _ _ => rfl)) (nomark _))))), ?_⟩
  refine ⟨_, rfl, p, _, _, _, rfl, rfl, hp, atI_nat (j := 0) rfl, rfl, _, rfl, ?_⟩
  rw [decide_eq_false (show ¬ V.str "steps" = V.str "sums" by decide +kernel)]
  refine iteF ⟨_, rfl, _, rfl, _, _, rfl, p1, p2, n, s1, l1, u, R, rfl, rfl, pair_of h1 h2 hR w1 w2, w1.2.2.2.2.2, fun r H1 fs e1 t1 hl => ?_⟩
  refine ⟨_, false, _, rfl, t1, _, rfl, p, _, _, _, rfl, rfl, e1.tup hp, atI_nat (j := 3) rfl, _, _, rfl, rfl, ?_⟩
  have : decide ((wl fs).length ≤ k) = stepsB s1 u k := by rw [wl_len, hl]; rfl
  show Q (.bl (decide ((wl fs).length ≤ k))) H1
  rw [this]
  exact q _ e1
abbrev sp_store_keeps (K : PySem.W.Frag) : L2.Sp := S3 fun a b c H Q _ => ∃ p p1 p2 x y n s l cs k, a = .ref p ∧ b = .ref p1 ∧ c = .ref p2 ∧ SqT K H p (Prm.free x y).vs ∧ SpreadAt K H p1 n s l ∧ StoreAt K H p2 n cs k ∧ (Thing.spread n s l).Wf ∧ (Thing.store n cs k).Wf ∧ ∀ H', Same H H' → Q (.bl (freeB l cs k)) H'
theorem ok_store_keeps (T : Tx P K mg) : Has P w K mg base 9 "store_keeps" ["promise", "spread", "store"] (sp_store_keeps K) := by
  refine ⟨g_store_keeps T, ok3 (F_store_keeps T) sc_store_keeps fun cdv A outer s H a b c Q E hr h => ?_⟩
  obtain ⟨p, p1, p2, x, y, n, s1, l1, cs, k, rfl, rfl, rfl, hp, h1, h2, w1, w2, q⟩ := h
  refine ⟨_, (pss_cons (ps_if (pt_cmpR op_eq (pe_ix ix_tup (pv 0) (pe_nat 0) (fun _ _ => rfl)) pe_str (nomark _)) (pss_one (ps_ret (pe_cmpR op_eqM (pe_hm (ok_Store_beats (K := K) T) (own_Store T) (hr.mono (by decide)) passL (pv 2) (pa_cons (pv 1) (pa_cons (pe_nat 0) pa_nil))) (pe_nat 1) (nomark _)))) pss_nil)
    (pss_one ps_never)), ?_⟩
  refine ⟨_, rfl, p, _, _, _, rfl, rfl, hp, atI_nat (j := 0) rfl, rfl, _, rfl, iteT ?_⟩
  obtain ⟨dx, fs, ei, hno⟩ := ins_Store h2
  have hn := w1.1
  refine ⟨_, rfl, p2, _, _, rfl, ei, hno _ (by decide +kernel), _, rfl, _, _, _, rfl, p2, p1, n, cs, k, s1, l1, rfl, rfl, rfl, h2, w2.2.1, by omega, w2.2.2.2.2, h1, Nat.le_trans w1.2.1 (by decide), Nat.le_trans w1.2.2.1 (by decide), w1.2.2.2.2.1, fun H1 R e1 hR hsp => ⟨_, _, rfl, rfl, ?_⟩⟩
  have : decide (2 ^ R.length = 1) = freeB l1 cs k := by
    rw [Bool.eq_iff_iff, decide_eq_true_eq, free_iff]
    constructor
    · intro z x hx hi
      have hR0 : R = [] := by
        have : R.length = 0 := by
          rcases Nat.eq_zero_or_pos R.length with h | h
          · exact h
          · have := Nat.one_lt_two_pow (n := R.length) (by omega)
            omega
        exact List.eq_nil_of_length_eq_zero this
      have := (hsp x).mpr ⟨hx, sp_lt w1.2.2.2.2.1 hx, hi⟩
      rw [hR0] at this
      exact this
    · intro z
      cases hRc : R with
      | nil => rfl
      | cons r R' =>
        have h1 := (hsp r).mp (by rw [hRc]; exact sp_head r R')
        exact absurd (z r h1.1 h1.2.2) (hR.pos r (by rw [hRc]; exact List.mem_cons_self))
  show Q (.bl (decide (2 ^ R.length = 1))) H1
  rw [this]
  exact q _ e1
def WfAll (ts : Ths) : Prop := ∀ x th, ts.lookup x = some th → th.Wf
abbrev sp_is_kept (K : PySem.W.Frag) : L2.Sp := S2 fun a b H Q _ => ∃ p d kvs ts pr, a = .ref p ∧ b = .ref d ∧ SqT K H p (Prm.vs pr) ∧ Rd H d (.dK kvs) ∧ RepP K H kvs ts ∧ WfAll ts ∧ ∀ H', Same H H' → Q (.bl (kept ts pr)) H'
theorem Rd.same {H H' : Hp} {a : Addr} {o : HO} (h : Rd H a o) (e : Same H H') : Rd H' a o := by
  rcases h with h | ⟨u, h⟩
  · exact .inl (e _ _ h)
  · exact .inr ⟨u, e _ _ h⟩
theorem prm_at (pr : Prm) : pr.vs[0]? = some (.str (match pr with | .steps .. => "steps" | .alike .. => "alike" | .free .. => "free")) ∧ pr.vs[1]? = some (.str pr.one) ∧ pr.vs[2]? = some (.str pr.other) := by
  cases pr <;> exact ⟨rfl, rfl, rfl⟩
theorem ok_is_kept (T : Tx P K mg) : Has P w K mg base 11 "is_kept" ["promise", "things"] (sp_is_kept K) := by
  refine ⟨g_is_kept T, ok2 (F_is_kept T) sc_is_kept fun cdv A outer s H a b Q E hr h => ?_⟩
  obtain ⟨p, d, kvs, ts, pr, rfl, rfl, hp, hd, hR, hW, q⟩ := h
  refine ⟨_, (pss_cons (ps_par (i := 2) (j := 3) rfl sc_is_kept.nd rfl rfl (by decide) rfl rfl (pa_cons (pe_dget1 (hu_of hr) (pv 1) (pe_ix ix_tup (pv 0) (pe_nat 1) (fun _ _ => rfl)) ⟨rfl, rfl, rfl, rfl⟩) (pa_cons (pe_dget1 (hu_of hr) (pv 1) (pe_ix ix_tup (pv 0) (pe_nat 2) (fun _ _ => rfl)) ⟨rfl, rfl, rfl, rfl⟩) pa_nil)) (by rfl))
    (pss_cons (ps_if (PW.pt (pw_or (pt_not (pt_val (pe_callB call_isi (by rfl) (b_isinstance T) bb_isinstance (pa_cons (pv 2) (pa_cons (pe_glob (v := .ref (He.ga K "Spread")) (by rfl) (g_Spread T) rfl) pa_nil))))) (pw_or (pt_cmpR op_isN (pv 3) pe_non (nomark _)) (pw_or1 (pt_cmpR op_neM (pe_h (ok_bits_of (K := K) T) (hr.mono (by decide)) passL (pa_cons (pv 3) pa_nil)) (pe_fldK K (pv 2)) (nomark _)))))) (pss_one (ps_ret pe_bl)) pss_nil)
    (pss_cons (ps_if (pt_cmpR op_in_seq (pe_ix ix_tup (pv 0) (pe_nat 0) (fun _ _ => rfl)) (pe_tup (pa_cons pe_str (pa_cons pe_str pa_nil))) (by rfl)) (pss_one (ps_ret (pe_and (pe_callB call_isi (by rfl) (b_isinstance T) bb_isinstance (pa_cons (pv 3) (pa_cons (pe_glob (v := .ref (He.ga K "Spread")) (by rfl) (g_Spread T) rfl) pa_nil))) (pe_one (pe_h (ok_spreads_keep (K := K) T) (hr.mono (by decide)) passL (pa_cons (pv 0) (pa_cons (pv 2) (pa_cons (pv 3) pa_nil)))))))) pss_nil)
    (pss_cons (ps_if (pt_cmpR op_in_seq (pe_ix ix_tup (pv 0) (pe_nat 0) (fun _ _ => rfl)) (pe_tup (pa_cons pe_str (pa_cons pe_str pa_nil))) (by rfl)) (pss_one (ps_ret (pe_and (pe_callB call_isi (by rfl) (b_isinstance T) bb_isinstance (pa_cons (pv 3) (pa_cons (pe_glob (v := .ref (He.ga K "Space")) (by rfl) (g_Space T) rfl) pa_nil))) (pe_one (pe_h (ok_sums_keep (K := K) T) (hr.mono (by decide)) passL (pa_cons (pv 0) (pa_cons (pv 2) (pa_cons (pv 3) pa_nil)))))))) pss_nil)
    (pss_one (ps_ret (pe_and (pe_callB call_isi (by rfl) (b_isinstance T) bb_isinstance (pa_cons (pv 3) (pa_cons (pe_glob (v := .ref (He.ga K "Store")) (by rfl) (g_Store T) rfl) pa_nil))) (pe_one (pe_h (ok_store_keeps (K := K) T) (hr.mono (by decide)) passL (pa_cons (pv 0) (pa_cons (pv 2) (pa_cons (pv 3) pa_nil)))))))))))), ?_⟩
  obtain ⟨p0, p1, p2⟩ := prm_at pr
  refine ⟨_, rfl, d, rfl, .inl ⟨_, hd⟩, _, rfl, p, _, _, _, rfl, rfl, hp, atI_nat (j := 1) p1, valV kvs (Sum.inr pr.one), .inl ⟨kvs, .inr pr.one, hd, rfl, rfl⟩, ?_⟩
  refine ⟨_, rfl, d, rfl, .inl ⟨_, hd⟩, _, rfl, p, _, _, _, rfl, rfl, hp, atI_nat (j := 2) p2, valV kvs (Sum.inr pr.other), .inl ⟨kvs, .inr pr.other, hd, rfl, rfl⟩, ?_⟩
  refine ⟨_, _, rfl, ?_⟩
  have q0 := q _ (Same.refl _)
  unfold kept at q q0
  rcases hR.get pr.one with ⟨g1, v1⟩ | ⟨a1, t1, g1, v1, h1⟩
  · rw [v1]
    rw [g1] at q0
    exact ⟨_, rfl, _, _, _, _, _, rfl, .own _, .base .non, kit_NoneType_Spread T, _, rfl, iteT (iteT q0)⟩
  rw [v1]
  refine ⟨_, rfl, _, _, _, _, _, rfl, .own _, ty_thing T h1, kit_spread T t1, _, rfl, ?_⟩
  cases t1 with
  | space n u =>
    rw [g1] at q0
    refine iteT (iteT ?_)
    rcases hR.get pr.other with ⟨g2, v2⟩ | ⟨a2, t2, g2, v2, h2⟩
    · rw [g2] at q0; exact q0
    · rw [g2] at q0; cases pr <;> exact q0
  | store n c b =>
    rw [g1] at q0
    refine iteT (iteT ?_)
    rcases hR.get pr.other with ⟨g2, v2⟩ | ⟨a2, t2, g2, v2, h2⟩
    · rw [g2] at q0; exact q0
    · rw [g2] at q0; cases pr <;> exact q0
  | spread n s1 l1 =>
    refine iteF ?_
    have w1 : (Thing.spread n s1 l1).Wf := hW _ _ g1
    have h1 : SpreadAt K H a1 n s1 l1 := h1
    rcases hR.get pr.other with ⟨g2, v2⟩ | ⟨a2, t2, g2, v2, h2⟩
    · rw [v2]
      rw [g1, g2] at q0
      exact ⟨_, rfl, rfl, _, rfl, iteT (iteT q0)⟩
    rw [v2]
    have w2 : t2.Wf := hW _ _ g2
    refine ⟨_, rfl, rfl, _, rfl, iteF ⟨_, rfl, _, rfl, a2, t2, rfl, h2, w2, fun H1 e1 => ?_⟩⟩
    have h1 := h1.same e1
    have h2 := h2.same e1
    refine ⟨_, rfl, at_Spread_bits T h1 ⟨_, _, rfl, rfl, _, rfl, ?_⟩⟩
    rw [g1, g2] at q
    by_cases hb : t2.bits = n
    · rw [decide_eq_true hb]
      refine iteF ?_
      refine ⟨_, rfl, p, _, _, _, rfl, rfl, e1.tup hp, atI_nat (j := 0) p0, by show 2 ≤ sizeLine; decide, fun t3 h3 => ?_⟩
      have e3 := e1.new' (o := .tup [.str "rounds", .str "alike"]) h3
      refine ⟨t3, [.str "rounds", .str "alike"], rfl, .inr (SqT.of upd_same), rfl, rfl, _, rfl, ?_⟩
      cases pr with
      | alike x y =>
        refine iteT ⟨_, rfl, _, _, _, _, _, rfl, .own _, ty_thing T (h2.same (Same.new h3)), kit_spread T t2, _, rfl, ?_⟩
        cases t2 with
        | spread n2 s2 l2 =>
          have hb : n2 = n := hb
          subst hb
          refine iteT ⟨_, rfl, _, rfl, _, rfl, _, _, _, rfl, p, a1, a2, x, y, n2, s1, l1, s2, l2, rfl, rfl, rfl, e3.tup hp, h1.same (Same.new h3), ThingAt.same (t := .spread n2 s2 l2) h2 (Same.new h3), w1, w2, fun H4 e4 => ?_⟩
          have := q H4 (e3.trans e4)
          simp only [keptT, decide_true, Bool.true_and] at this
          exact this
        | space n2 u => exact iteF (q _ e3)
        | store n2 c b => exact iteF (q _ e3)
      | steps x y k =>
        refine iteF ⟨_, rfl, p, _, _, _, rfl, rfl, e3.tup hp, atI_nat (j := 0) rfl, by show 2 ≤ sizeLine; decide, fun t4 h4 => ?_⟩
        have e4 := e3.new' (o := .tup [.str "sums", .str "steps"]) h4
        have e14 := (Same.new (o := .tup [.str "rounds", .str "alike"]) h3).new' (o := .tup [.str "sums", .str "steps"]) h4
        refine ⟨t4, [.str "sums", .str "steps"], rfl, .inr (SqT.of upd_same), rfl, rfl, _, rfl, iteT ⟨_, rfl, _, _, _, _, _, rfl, .own _, ty_thing T (h2.same e14), kit_space T t2, _, rfl, ?_⟩⟩
        cases t2 with
        | space n2 u =>
          have hb : n2 = n := hb
          subst hb
          obtain ⟨R, h2, hRo⟩ := h2
          refine iteT ⟨_, rfl, _, rfl, _, rfl, _, _, _, rfl, p, a1, a2, x, y, k, n2, s1, l1, u, R, rfl, rfl, rfl, e4.tup hp, h1.same e14, h2.same e14, hRo, w1, w2, fun H5 e5 => ?_⟩
          have := q H5 (e4.trans e5)
          simp only [keptT, decide_true, Bool.true_and] at this
          exact this
        | spread n2 s2 l2 => exact iteF (q _ e4)
        | store n2 c b => exact iteF (q _ e4)
      | free x y =>
        refine iteF ⟨_, rfl, p, _, _, _, rfl, rfl, e3.tup hp, atI_nat (j := 0) rfl, by show 2 ≤ sizeLine; decide, fun t4 h4 => ?_⟩
        have e4 := e3.new' (o := .tup [.str "sums", .str "steps"]) h4
        have e14 := (Same.new (o := .tup [.str "rounds", .str "alike"]) h3).new' (o := .tup [.str "sums", .str "steps"]) h4
        refine ⟨t4, [.str "sums", .str "steps"], rfl, .inr (SqT.of upd_same), rfl, rfl, _, rfl, iteF ⟨_, rfl, _, _, _, _, _, rfl, .own _, ty_thing T (h2.same e14), kit_store T t2, _, rfl, ?_⟩⟩
        cases t2 with
        | store n2 c b =>
          have hb : n2 = n := hb
          subst hb
          refine iteT ⟨_, rfl, _, rfl, _, rfl, _, _, _, rfl, p, a1, a2, x, y, n2, s1, l1, c, b, rfl, rfl, rfl, e4.tup hp, h1.same e14, ThingAt.same (t := .store n2 c b) h2 e14, w1, w2, fun H5 e5 => ?_⟩
          have := q H5 (e4.trans e5)
          simp only [keptT, decide_true, Bool.true_and] at this
          exact this
        | spread n2 s2 l2 => exact iteF (q _ e4)
        | space n2 u => exact iteF (q _ e4)
    · rw [decide_eq_false hb]
      refine iteT ?_
      have := q H1 e1
      have hb' : ¬ n = t2.bits := fun z => hb z.symm
      cases pr <;> cases t2 <;> first | exact this | (simp only [keptT, Thing.bits, decide_eq_false hb', Bool.false_and] at this hb'; simp only [decide_eq_false hb', Bool.false_and] at this; exact this)
abbrev sp_renamed_thing (K : PySem.W.Frag) : L2.Sp := S2 fun a b H Q _ => ∃ p p2 th cs, a = .ref p ∧ b = .ref p2 ∧ ThingAt K H p th ∧ th.Wf ∧ MapAt K H p2 cs.length cs ∧ cs.length = th.bits ∧ Lt cs.length cs ∧ rk cs = cs.length ∧
  ∀ r H', Same H H' → H r = none → ThingAt K H' r (th.moved cs) → Q (.ref r) H'
theorem ok_renamed_thing (T : Tx P K mg) : Has P w K mg base 10 "renamed_thing" ["thing", "change"] (sp_renamed_thing K) := by
  refine ⟨g_renamed_thing T, ok2 (F_renamed_thing T) sc_renamed_thing fun cdv A outer s H a b Q E hr h => ?_⟩
  obtain ⟨p, p2, th, cs, rfl, rfl, ht, hw, hm, hb, ltc, hi, q⟩ := h
  refine ⟨_, (pss_cons (ps_if (pt_val (pe_callB call_isi (by rfl) (b_isinstance T) bb_isinstance (pa_cons (pv 0) (pa_cons (pe_glob (v := .ref (He.ga K "Spread")) (by rfl) (g_Spread T) rfl) pa_nil)))) (pss_one (ps_ret (pe_hm (ok_Spread_renamed (K := K) T) (own_Spread T) (hr.mono (by decide)) passL (pv 0) (pa_cons (pv 1) pa_nil)))) pss_nil)
    (pss_cons (ps_if (pt_val (pe_callB call_isi (by rfl) (b_isinstance T) bb_isinstance (pa_cons (pv 0) (pa_cons (pe_glob (v := .ref (He.ga K "Space")) (by rfl) (g_Space T) rfl) pa_nil)))) (pss_one (ps_ret (pe_hm (ok_Map_moved (K := K) T) (own_Map T) (hr.mono (by decide)) passL (pv 1) (pa_cons (pv 0) pa_nil)))) pss_nil)
    (pss_one (ps_ret (pe_hc (ok_Store_init (K := K) T) (mk_Store T) (g_Store T) (hr.mono (by decide)) passL (pa_cons (pe_op (op_own (op := .Mult) (ok_Map_mul T).2 (m_Map_mul T) T.sf.1 (hr.mono (by decide)) passL) (pe_fldK K (pv 0)) (pe_un (un_inv (ok_Map_invert T).2 (m_Map_invert T) (hr.mono (by decide)) passL) (pv 1))) (pa_cons (pe_fldK K (pv 0)) pa_nil))))))), ?_⟩
  refine ⟨_, rfl, _, _, _, _, _, rfl, .own _, ty_thing T ht, kit_spread T th, _, rfl, ?_⟩
  have h4 := hw.bits
  cases th with
  | spread n s1 l1 =>
    have hb : cs.length = n := hb
    subst hb
    have ht : SpreadAt K H p cs.length s1 l1 := ht
    obtain ⟨dx, fs, ei, hno⟩ := ins_Spread ht
    refine iteT ⟨_, rfl, p, _, _, rfl, ei, hno _ (by decide +kernel), _, rfl, _, _, rfl, p, p2, s1, l1, cs, rfl, rfl, ht, hm, ?_, ltc, hi, hw.2.2.2.1, hw.2.2.2.2.1, Nat.le_trans hw.2.1 (by decide), Nat.le_trans hw.2.2.1 (by decide), hw.2.2.2.2.2, q⟩
    have : cs.length ≤ 4 := h4
    omega
  | space n u =>
    have hb : cs.length = n := hb
    subst hb
    obtain ⟨R, hs, hR⟩ := ht
    refine iteF ⟨_, rfl, _, _, _, _, _, rfl, .own _, ty_Space T hs, kit_Space_Space T, _, rfl, iteT ?_⟩
    obtain ⟨dx, fs, ei, hno⟩ := ins_Map hm
    have h4 : cs.length ≤ 4 := h4
    have hRl := hR.len_le hw.2.2
    refine ⟨_, rfl, p2, _, _, rfl, ei, hno _ (by decide +kernel), _, rfl, _, _, rfl, p2, p, cs.length, cs, R, rfl, rfl, hm, hs, by omega, by omega, hR.lt hw.2.2, ltc, fun r H' R' e hr hs' hR' => q r H' e hr ⟨R', hs', hR'.same fun x => ?_⟩⟩
    rw [sp_map (img_lin cs), sp_map (img_lin cs)]
    exact ⟨fun ⟨y, h1, h2⟩ => ⟨y, (hR.2 y).mp h1, h2⟩, fun ⟨y, h1, h2⟩ => ⟨y, (hR.2 y).mpr h1, h2⟩⟩
  | store n c k =>
    have hb : cs.length = n := hb
    have ht : StoreAt K H p n c k := ht
    have hwm := Thing.moved_wf hw hb ltc hi
    have hwm : n ≤ 4 ∧ ((lbacks cs).map (img c)).length = n ∧ Lt n ((lbacks cs).map (img c)) ∧ rk ((lbacks cs).map (img c)) = n ∧ k ≤ n := hwm
    have hcl : c.length = n := hw.2.1
    refine iteF ⟨_, rfl, _, _, _, _, _, rfl, .own _, ty_Store T ht, kit_Store_Space T, _, rfl, iteF ?_⟩
    refine ⟨_, rfl, at_Store_change T ht fun r1 hm1 => ?_⟩
    obtain ⟨dx, fs, ei, hno⟩ := ins_Map hm
    refine ⟨_, rfl, p2, _, _, rfl, ei, _, rfl, p2, cs, rfl, hm, by omega, ltc, hi, fun r2 H2 e2 hr2 hm2 => ?_⟩
    have hm1 := hm1.same e2
    obtain ⟨dx1, fs1, ei1, _⟩ := ins_Map hm1
    obtain ⟨dx2, fs2, ei2, _⟩ := ins_Map hm2
    refine ⟨_, _, _, _, _, _, rfl, rfl, ei1, ei2, _, _, rfl, r1, r2, n, c, lbacks cs, rfl, rfl, hm1, by rw [hcl, ← hb]; exact hm2, by omega, by rw [lbacks_len]; omega, by rw [hcl, ← hb]; exact lbacks_lt ltc hi, hw.2.2.1, fun r3 H3 e3 hr3 hm3 => ⟨⟨r3, rfl⟩, ?_⟩⟩
    refine ⟨_, rfl, at_Store_banks T ((ht.same e2).same e3) ?_⟩
    have hl : ((lbacks cs).map (img c)).length = n := hwm.2.1
    refine mkStore (cs := (lbacks cs).map (img c)) (by rw [hl]; exact hm3) (by rw [hl]; exact hwm.2.2.2.2) (by omega) (by rw [hl]; exact hwm.2.2.1) (by rw [hl]; exact hwm.2.2.2.1) fun x H4 e4 hx hst => ?_
    rw [hl] at hst
    exact q x H4 ((e2.trans e3).trans e4) ((e2.trans e3).free hx) hst
end
end L2.Lk
/-! R7 -/
set_option Elab.async false
set_option linter.all false
set_option maxRecDepth 100000
set_option maxHeartbeats 2000000
namespace L2.Lk
open PySem PySem.Spec PyProof.Rows
/-! ### t == () of a tuple of anything -/
section
variable {prog : Program} {w : World} {A : Around}
theorem tuple_eqN {R : Result → Shared → Prop} (l b : Addr) (items : Array Value) (n n2 : Nat) (dd dd2 : Option Addr) (sl sl2 : Array (Option Value)) (hz : items.size ≠ 0) {s : Shared}
    (hl1 : s.heap.get? l = some { cls := .type "tuple", dict := dd, data := .seq items n, slots := sl }) (hb1 : s.heap.get? b = some { cls := .type "tuple", dict := dd2, data := .seq #[] n2, slots := sl2 }) (h : R (.ok (.ret (.bool false))) s) :
    wpAny (model prog w) A.in1 (Builtin.«tuple.__eq__» ⟨[.ref l, .ref b], []⟩) (GQ.FinOf prog w A R) (fun e s' => R (.error e) s') s := by
  have f2 := AutoSeq1.sub_tuple_tuple
  have h0 := h
  obtain ⟨hp, g, d, tk, os⟩ := s
  wp_walk using wpAny_loadPart' hl1, wpAny_loadPart' hb1, wpAny_forIn_list _ (fun rest bb s' => bb.1 = none ∧ rest = [] ∧ R (.ok (.ret (.bool false))) s') _
  case turn =>
    rintro ⟨y, x⟩ rest bb s' ⟨_, hz, _⟩
    cases hz
  case fin =>
    rintro ⟨b1, b2⟩ s' ⟨hb', _, hR⟩
    simp only at hb'
    subst hb'
    wp_walk
    show R (.ok (.ret (.bool (items.size == 0)))) s'
    rw [show (items.size == 0) = false from by simpa using hz]
    exact hR
  case h =>
    exact ⟨rfl, by simp, h0⟩
theorem tuple_eqNN {R : Result → Shared → Prop} (l b : Addr) (n n2 : Nat) (dd dd2 : Option Addr) (sl sl2 : Array (Option Value)) {s : Shared}
    (hl1 : s.heap.get? l = some { cls := .type "tuple", dict := dd, data := .seq #[] n, slots := sl }) (hb1 : s.heap.get? b = some { cls := .type "tuple", dict := dd2, data := .seq #[] n2, slots := sl2 }) (h : R (.ok (.ret (.bool true))) s) :
    wpAny (model prog w) A.in1 (Builtin.«tuple.__eq__» ⟨[.ref l, .ref b], []⟩) (GQ.FinOf prog w A R) (fun e s' => R (.error e) s') s := by
  have f2 := AutoSeq1.sub_tuple_tuple
  have h0 := h
  obtain ⟨hp, g, d, tk, os⟩ := s
  wp_walk using wpAny_loadPart' hl1, wpAny_loadPart' hb1, wpAny_forIn_list _ (fun rest bb s' => bb.1 = none ∧ rest = [] ∧ R (.ok (.ret (.bool true))) s') _
  case turn =>
    rintro ⟨y, x⟩ rest bb s' ⟨_, hz, _⟩
    cases hz
  case fin =>
    rintro ⟨b1, b2⟩ s' ⟨hb', _, hR⟩
    simp only at hb'
    subst hb'
    wp_walk
    simpa [Builtin.Tuple.tupleCompareSizes] using hR
  case h =>
    exact ⟨rfl, by simp, h0⟩
end
/-- t == () -/
def rEqN (K : PySem.W.Frag) : R2 := fun x y H Q => ∃ a b xs, x = .ref a ∧ y = .ref b ∧ SqT K H a xs ∧ SqT K H b [] ∧ Q (.bl (decide (xs = []))) H
theorem op_eqN {X : Cx} (hu : X.A.units < cLine) : OpR X (compareOp .Eq) (rEqN X.K) := by
  intro pins s σ H x y v u Q I rx ry h
  obtain ⟨a, b, xs, rfl, rfl, ha, hb, q⟩ := h
  cases rx
  cases ry
  obtain ⟨its, r, ⟨⟨cls, dd, data, sl⟩, ho, hc, n, hd⟩, _⟩ := I.tuple ha
  obtain ⟨its2, r2, ⟨⟨cls2, dd2, data2, sl2⟩, ho2, hc2, n2, hd2⟩, _⟩ := I.tuple hb
  cases r2
  simp only at hc hd hc2 hd2
  subst hc hd hc2 hd2
  show wpAny (model X.prog X.w) X.A (richCompare .Eq (.ref a) (.ref b)) _ _ s
  refine wpAny_richCompare_same_room (op := .Eq) ⟨_, ho, rfl⟩ ⟨_, ho2, rfl⟩ F.slot_tuple_eq (GQ.call_here F.slot_tuple_eq ⟨_, ho, rfl⟩ F.entry_tuple_eq (F.args_tuple_eq_2 _ _) ?_) hu
  cases xs with
  | nil =>
    cases r
    exact tuple_eqNN (R := wants (fun v s' => v ≠ .notImplemented ∧ EP X pins σ Q v s') X.xe) a b n n2 dd dd2 sl sl2 ho ho2 ⟨(fun z => nomatch z), .bl true, H, I, rfl, q⟩
  | cons y ys =>
    cases r
    exact tuple_eqN (R := wants (fun v s' => v ≠ .notImplemented ∧ EP X pins σ Q v s') X.xe) a b _ n n2 dd dd2 sl sl2 (by simp) ho ho2 ⟨(fun z => nomatch z), .bl false, H, I, rfl, q⟩
/-! ### a target o.f -/
def gFld (K : PySem.W.Frag) (ta : TE) (f : Str) : TG := fun v σ H Q => ta σ H fun x H2 => ∃ a C dx fs, x = .ref a ∧ H2 a = some (.ins C dx fs) ∧ Cls K C ∧ NoAttr K C f ∧ fs.length < 1000 ∧ Q σ (upd H2 a (.ins C dx (putF f v fs)))
theorem pg_fld (K : PySem.W.Frag) {X : Cx} {o : Expr} {f : Str} {pos : Pos} {ta : TE} (ho : PE X o ta) (ha : ∀ v, assign (.Attribute o f pos) X.env v = (do
      let ov ← holding [v] (eval o X.env)
      standAt pos.atName
      holding [v, ov] (setAttr ov f v)
      release [v, ov] []) := by intro _; rfl) (hK : X.K = K := by rfl) : PG X (.Attribute o f pos) (gFld K ta f) := by
  subst hK
  refine ⟨fun pins s σ H v u Q I r h => ?_⟩
  rw [ha]
  refine wpAny_bind (wpAny_holding (thn (ho.run pins s σ H _ I h) fun ov s1 hv => ?_))
  obtain ⟨x, H1, I1, r1, a, C, dx, fs, ex, ea, c, n, l, q⟩ := hv
  subst ex
  obtain rfl : ov = Value.ref a := r1
  refine wpAny_bind (wpAny_standAt (wpAny_bind (wpAny_holding (setattr_ok I1 ea c n l r fun s3 I3 => ?_))))
  exact wpAny_release ⟨σ, _, I3, q⟩
/-! ### an own error over an own one, without __init__, made with nothing -/
theorem pmk_own0 {X : Cx} {C : Addr} {bmB : List Value} {B newId initId : String} {x : Str} {p pos : Pos} (F : ExcBaseFacts B newId initId bmB) (q : PySem.W.excIn X.K C bmB newId = true) (gC : X.mg x = some (.ref C)) (kC : PySem.W.keepIn X.K (.ref C) = true) (r : Raises X (.ref C)) (hg : Gl X x)
    (hdb : (x == ("__debug__" : Str)) = false := by decide) : PMk X (.Call (.Name x p) [] [] pos) (fun _ H Q => Q (.ref C) none H) := by
  intro pins s σ H Q I h
  refine wpAny_Call_Name_kw (ld_glob I hg gC ?_ hdb)
  refine PySem.W.callWith_K0 I.kIn kC ?_
  obtain ⟨bm, N, nm, qn, bs, hdct, sn, sub, ab, col, dd, k0, k1, k2, k3, k5, mN, hC, hN, hni, T⟩ := exc_obj I.kIn q
  obtain ⟨hp, g, d, t, os⟩ := s
  refine wpAny_call_exc_subT F T hC hN hni (fun h' e hm => ?_) (Nat.zero_le _)
  exact mk_of I hm r h (I.hok.gone hm.new)
/-! ### sorted texts -/
def leS (a b : Str) : Prop := Spec.ltCps b.cps.toList a.cps.toList = false
theorem leS_iff {a b : Str} : leS a b ↔ ¬ b.cps.toList < a.cps.toList := by
  unfold leS
  rw [ltCps_eq]
  simp
theorem leS_trans {a b c : Str} (h : leS a b) (h2 : leS b c) : leS a c := by
  rw [leS_iff, List.not_lt] at *
  exact List.le_trans h h2
theorem leS_anti {a b : Str} (h : leS a b) (h2 : leS b a) : a = b := by
  rw [leS_iff, List.not_lt] at *
  have e := List.le_antisymm h h2
  obtain ⟨⟨x⟩⟩ := a
  obtain ⟨⟨y⟩⟩ := b
  simp only at e
  rw [e]
theorem risingS_pw : ∀ {l : List Str} {p : Str}, risingS p l = true → (∀ x ∈ l, leS p x) ∧ l.Pairwise leS
  | [], _, _ => ⟨(fun x hx => by cases hx), List.Pairwise.nil⟩
  | y :: l, p, h => by
    have h : (!Spec.ltCps y.cps.toList p.cps.toList && risingS y l) = true := h
    rw [Bool.and_eq_true] at h
    obtain ⟨h1, h2⟩ := risingS_pw h.2
    have h0 : leS p y := by unfold leS; simpa using h.1
    refine ⟨fun x hx => ?_, List.pairwise_cons.mpr ⟨h1, h2⟩⟩
    rcases List.mem_cons.mp hx with rfl | hx
    · exact h0
    · exact leS_trans h0 (h1 x hx)
theorem sortedS_pw {l : List Str} (h : sortedS l = true) : l.Pairwise leS := by
  cases l with
  | nil => exact List.Pairwise.nil
  | cons x r =>
    obtain ⟨h1, h2⟩ := risingS_pw (show risingS x r = true from h)
    exact List.pairwise_cons.mpr ⟨h1, h2⟩
theorem sortedS_unique {a b : List Str} (p : a.Perm b) (ha : sortedS a = true) (hb : sortedS b = true) : a = b :=
  List.Perm.eq_of_pairwise (fun _ _ _ _ h h2 => leS_anti h h2) (sortedS_pw ha) (sortedS_pw hb) p
end L2.Lk
namespace L2.Lk
open PySem PySem.Spec PyProof.Rows
section
variable {P : Program} {w : World} {K : PySem.W.Frag} {mg : Str → Option Value} {base : Heap}
abbrev cNothingToUndo (K : PySem.W.Frag) : Addr := He.ga K "NothingToUndo"
theorem rz_NothingToUndo (T : Tx P K mg) {X : Cx} {W : WX} {p pos pos2 : Pos} (tk : Takes X W) (hK : X.K = K := by rfl) (hg' : X.mg = mg := by rfl) (hc : X.calm = true := by rfl) (hg : Gl X "NothingToUndo" := by rfl) :
    PS X (.Raise (some (.Call (.Name "NothingToUndo" p) [] [] pos)) none pos2) (fun _ σ H => W (.ref (cNothingToUndo K)) none σ H) := by
  subst hK hg'
  exact ps_raise hc tk (pmk_own0 PySem.F.excBase_ValueError T.ntu.1 (g_NothingToUndo T) T.ntu.2.1 (raises_own T.ntu.2.2.1 T.ntu.2.2.2) hg)
end
end L2.Lk
/-! P7 -/
set_option Elab.async false
set_option linter.all false
set_option maxRecDepth 100000
set_option maxHeartbeats 2000000
namespace L2.Lk
open PySem PySem.Spec PyProof.Rows
/-! ### the desk, plainly -/
structure DState where
  things : Ths
  given : List Prm
  past : List (Ths × List Prm)
def putT (ts : Ths) (x : Str) (th : Thing) : Ths := if ts.any (fun t => decide (t.1 = x)) = true then ts.map (fun t => if t.1 = x then (t.1, th) else t) else ts ++ [(x, th)]
def dropT (ts : Ths) (x : Str) : Ths := ts.filter fun t => decide (t.1 ≠ x)
def movedT (cs : List Nat) (ts : Ths) : Ths := ts.map fun t => (t.1, t.2.moved cs)
def broken (ts : Ths) (gs : List Prm) : Option Prm := gs.find? fun p => !kept ts p
structure PrmOk (p : Prm) : Prop where
  flat : p.vs.all flatOk = true
  good : pgood p.vs = true
  len : ∀ x, V.str x ∈ p.vs → x.length ≤ sizeLine
structure ThsOk (ts : Ths) : Prop where
  wf : WfAll ts
  nd : (ts.map (·.1)).Nodup
  len : ts.length ≤ 50
  str : ∀ t ∈ ts, t.1.length ≤ sizeLine
def pd (p : Prm) : PyData := .tuple (fd p.vs)
theorem str_beq (a b : Str) : (a == b) = decide (a = b) := by
  by_cases h : a = b
  · subst h; simp
  · rw [decide_eq_false h]; exact beq_eq_false_iff_ne.mpr h
theorem pd_eqv (p q : Prm) : PyData.eqv (pd p) (pd q) = decide (p = q) := by
  have n1 : decide (("steps" : Str) = "alike") = false := by decide +kernel
  have n2 : decide (("steps" : Str) = "free") = false := by decide +kernel
  have n3 : decide (("alike" : Str) = "steps") = false := by decide +kernel
  have n4 : decide (("alike" : Str) = "free") = false := by decide +kernel
  have n5 : decide (("free" : Str) = "steps") = false := by decide +kernel
  have n6 : decide (("free" : Str) = "alike") = false := by decide +kernel
  have hn : ∀ a b : Nat, (((a : Nat) : Int) == ((b : Nat) : Int)) = decide (a = b) := fun a b => by
    by_cases h : a = b
    · subst h; simp
    · rw [decide_eq_false h]; exact beq_eq_false_iff_ne.mpr (by omega)
  cases p <;> cases q <;> simp only [pd, fd, Prm.vs, List.map_cons, List.map_nil, dF, PyData.eqv, PyData.eqvAll, str_beq, n1, n2, n3, n4, n5, n6, Bool.false_and, Bool.and_true, decide_true, Bool.true_and, hn, Prm.steps.injEq, Prm.alike.injEq, Prm.free.injEq, reduceCtorEq, decide_false, Bool.decide_and]
section
variable {P : Program} {w : World} {K : PySem.W.Frag} {mg : Str → Option Value} {base : Heap}
def ThsAt (K : PySem.W.Frag) (H : Hp) (d : Addr) (ts : Ths) : Prop := ∃ kvs, H d = some (.dK kvs) ∧ RepP K H kvs ts
def GivAt (H : Hp) (g : Addr) (gs : List Prm) : Prop := ∃ ps : List Addr, H g = some (.tup (ps.map V.ref)) ∧ Paired (fun p pr => H p = some (.tup (Prm.vs pr))) ps gs
def PastAt (K : PySem.W.Frag) (H : Hp) (q : Addr) (es : List (Ths × List Prm)) : Prop :=
  ∃ ps : List Addr, H q = some (.tup (ps.map V.ref)) ∧ Paired (fun p e => ∃ d g, H p = some (.tup [.ref d, .ref g]) ∧ ThsAt K H d e.1 ∧ GivAt H g e.2) ps es
/-- at x the desk in the state S -/
def DeskAt (K : PySem.W.Frag) (H : Hp) (x : Addr) (S : DState) : Prop :=
  ∃ dx d g q : Addr, H x = some (.ins (cDesk K) dx (fDesk (.ref d) (.ref g) (.ref q) (nV 0))) ∧ ThsAt K H d S.things ∧ GivAt H g S.given ∧ PastAt K H q S.past
section
variable {H H' : Hp} {x d g q : Addr} {ts : Ths} {gs : List Prm} {es : List (Ths × List Prm)} {S : DState}
theorem ThsAt.same (h : ThsAt K H d ts) (e : Same H H') : ThsAt K H' d ts := let ⟨kvs, h1, h2⟩ := h; ⟨kvs, e _ _ h1, h2.same e⟩
theorem GivAt.same (h : GivAt H g gs) (e : Same H H') : GivAt H' g gs := let ⟨ps, h1, h2⟩ := h; ⟨ps, e _ _ h1, Paired.mapP h2 fun _ _ z => e _ _ z⟩
theorem PastAt.same (h : PastAt K H q es) (e : Same H H') : PastAt K H' q es :=
  let ⟨ps, h1, h2⟩ := h; ⟨ps, e _ _ h1, Paired.mapP h2 fun _ _ ⟨d, g, z1, z2, z3⟩ => ⟨d, g, e _ _ z1, z2.same e, z3.same e⟩⟩
theorem DeskAt.same (h : DeskAt K H x S) (e : Same H H') : DeskAt K H' x S := let ⟨dx, d, g, q, h1, h2, h3, h4⟩ := h; ⟨dx, d, g, q, e _ _ h1, h2.same e, h3.same e, h4.same e⟩
/-- what is no desk stays when the desk at x is written -/
theorem ThingAt.sx {p C dx : Addr} {v0 v1 v2 v3 : V} {th : Thing} (h : ThingAt K H p th) (e : Sx [x] H H') (hx : H x = some (.ins C dx (fDesk v0 v1 v2 v3))) : ThingAt K H' p th := by
  have ne : ∀ {p C' dp : Addr} {fs : List (Str × V)} {f : Str} {v : V}, H p = some (.ins C' dp fs) → fs.lookup f = some v → f ∉ (["own_things", "own_given", "own_past", "own_depth"] : List Str) → p ≠ x := fun {p C' dp fs f v} h1 h2 h3 z => by
    rw [z, hx] at h1
    have e1 := Option.some.inj h1
    injection e1 with _ _ e3
    have := lk_Desk_no v0 v1 v2 v3 h3
    rw [e3, h2] at this
    cases this
  have stay : ∀ {p : Addr} {o : HO}, H p = some o → p ≠ x → H' p = some o := fun h1 h2 => e _ _ (fun z => h2 (List.mem_singleton.mp z)) h1
  have map : ∀ {p : Addr} {m : Nat} {cs : List Nat}, MapAt K H p m cs → MapAt K H' p m cs := fun {p m cs} h => by
    obtain ⟨dp, r, h1, t⟩ := h
    exact ⟨dp, r, stay h1 (ne h1 (lk_Map_goal _ _ _) (by decide +kernel)), Sx.tup e hx t⟩
  cases th with
  | spread n s l =>
    obtain ⟨dp, r, r2, h1, t, t2⟩ := h
    exact ⟨dp, r, r2, stay h1 (ne h1 (lk_Spread_bits _ _ _) (by decide +kernel)), Sx.tup e hx t, Sx.tup e hx t2⟩
  | space n u =>
    obtain ⟨R, ⟨dp, r, h1, t⟩, hR⟩ := h
    exact ⟨R, ⟨dp, r, stay h1 (ne h1 (lk_Space_bits _ _ _) (by decide +kernel)), Sx.tup e hx t⟩, hR⟩
  | store n c b =>
    obtain ⟨dp, ch, bk, h1, h2, h3⟩ := h
    exact ⟨dp, ch, bk, stay h1 (ne h1 (lk_Store_banks _ _ _) (by decide +kernel)), map h2, map h3⟩
theorem ThsAt.sx {C dx : Addr} {v0 v1 v2 v3 : V} (h : ThsAt K H d ts) (e : Sx [x] H H') (hx : H x = some (.ins C dx (fDesk v0 v1 v2 v3))) : ThsAt K H' d ts := by
  obtain ⟨kvs, h1, h2⟩ := h
  refine ⟨kvs, e _ _ (fun z => ?_) h1, Paired.mapP h2 fun _ _ ⟨z1, p, z2, z3⟩ => ⟨z1, p, z2, z3.sx e hx⟩⟩
  rw [List.mem_singleton.mp z, hx] at h1
  cases h1
theorem tup_sx {C dx p : Addr} {fs : List (Str × V)} {xs : List V} (h : H p = some (.tup xs)) (e : Sx [x] H H') (hx : H x = some (.ins C dx fs)) : H' p = some (.tup xs) := by
  refine e _ _ (fun z => ?_) h
  rw [List.mem_singleton.mp z, hx] at h
  cases h
theorem GivAt.sx {C dx : Addr} {fs : List (Str × V)} (h : GivAt H g gs) (e : Sx [x] H H') (hx : H x = some (.ins C dx fs)) : GivAt H' g gs :=
  let ⟨ps, h1, h2⟩ := h; ⟨ps, tup_sx h1 e hx, Paired.mapP h2 fun _ _ z => tup_sx z e hx⟩
theorem PastAt.sx {C dx : Addr} {v0 v1 v2 v3 : V} (h : PastAt K H q es) (e : Sx [x] H H') (hx : H x = some (.ins C dx (fDesk v0 v1 v2 v3))) : PastAt K H' q es :=
  let ⟨ps, h1, h2⟩ := h; ⟨ps, tup_sx h1 e hx, Paired.mapP h2 fun _ _ ⟨d, g, z1, z2, z3⟩ => ⟨d, g, tup_sx z1 e hx, z2.sx e hx, z3.sx e hx⟩⟩
end
theorem put_things (v0 v1 v2 v3 v : V) : putF "own_things" v (fDesk v0 v1 v2 v3) = fDesk v v1 v2 v3 := by rfl
theorem put_given (v0 v1 v2 v3 v : V) : putF "own_given" v (fDesk v0 v1 v2 v3) = fDesk v0 v v2 v3 := by rfl
theorem put_past (v0 v1 v2 v3 v : V) : putF "own_past" v (fDesk v0 v1 v2 v3) = fDesk v0 v1 v v3 := by rfl
theorem desk_len (v0 v1 v2 v3 : V) : (fDesk v0 v1 v2 v3).length < 1000 := by
  unfold fDesk
  exact Nat.lt_of_le_of_lt (length_putF _ _ _) (Nat.lt_of_le_of_lt (Nat.add_le_add_right (Nat.le_trans (length_putF _ _ _) (Nat.add_le_add_right (Nat.le_trans (length_putF _ _ _) (Nat.add_le_add_right (length_putF _ _ _) 1)) 1)) 1) (by decide))
section
variable {H : Hp} {x dx : Addr} {v0 v1 v2 v3 : V}
theorem at_Dk_things (T : Tx P K mg) (h : H x = some (.ins (cDesk K) dx (fDesk v0 v1 v2 v3))) {Q : V → Prop} (q : Q v0) : ∃ b C dx fs v, V.ref x = .ref b ∧ H b = some (.ins C dx fs) ∧ Cls K C ∧ NoAttr K C "own_things" ∧ fs.lookup ("own_things" : Str) = some v ∧ Q v :=
  ⟨_, _, _, _, _, rfl, h, (own_Desk T).cls, na_Desk_own_things T, lk_Desk_own_things _ _ _ _, q⟩
theorem at_Dk_given (T : Tx P K mg) (h : H x = some (.ins (cDesk K) dx (fDesk v0 v1 v2 v3))) {Q : V → Prop} (q : Q v1) : ∃ b C dx fs v, V.ref x = .ref b ∧ H b = some (.ins C dx fs) ∧ Cls K C ∧ NoAttr K C "own_given" ∧ fs.lookup ("own_given" : Str) = some v ∧ Q v :=
  ⟨_, _, _, _, _, rfl, h, (own_Desk T).cls, na_Desk_own_given T, lk_Desk_own_given _ _ _ _, q⟩
theorem at_Dk_past (T : Tx P K mg) (h : H x = some (.ins (cDesk K) dx (fDesk v0 v1 v2 v3))) {Q : V → Prop} (q : Q v2) : ∃ b C dx fs v, V.ref x = .ref b ∧ H b = some (.ins C dx fs) ∧ Cls K C ∧ NoAttr K C "own_past" ∧ fs.lookup ("own_past" : Str) = some v ∧ Q v :=
  ⟨_, _, _, _, _, rfl, h, (own_Desk T).cls, na_Desk_own_past T, lk_Desk_own_past _ _ _ _, q⟩
theorem at_Dk_depth (T : Tx P K mg) (h : H x = some (.ins (cDesk K) dx (fDesk v0 v1 v2 v3))) {Q : V → Prop} (q : Q v3) : ∃ b C dx fs v, V.ref x = .ref b ∧ H b = some (.ins C dx fs) ∧ Cls K C ∧ NoAttr K C "own_depth" ∧ fs.lookup ("own_depth" : Str) = some v ∧ Q v :=
  ⟨_, _, _, _, _, rfl, h, (own_Desk T).cls, na_Desk_own_depth T, lk_Desk_own_depth _ _ _ _, q⟩
end
abbrev sp_Desk_init (K : PySem.W.Frag) : L2.Sp := S1 fun a H Q _ => ∃ x dx, a = .ref x ∧ H x = some (.ins (cDesk K) dx []) ∧ ∀ H', Sx [x] H H' → DeskAt K H' x ⟨[], [], []⟩ → Q .non H'
theorem ok_Desk_init (T : Tx P K mg) : HasM P w K mg base 1 "Desk" "__init__" ["self"] (sp_Desk_init K) := by
  refine ⟨m_Desk_init T, ok1 (F_Desk_init T) sc_Desk_init fun cdv A outer s H a Q E hr h => ?_⟩
  obtain ⟨x, dx, rfl, hx, q⟩ := h
  refine ⟨_, (pss_cons (ps_fld (pv 0) pe_dnewK rfl)
    (pss_cons (ps_fld (pv 0) (pe_tup pa_nil) rfl)
    (pss_cons (ps_fld (pv 0) (pe_tup pa_nil) rfl)
    (pss_one (ps_fld (pv 0) (pe_nat 0) rfl))))), ?_⟩
  refine fun d hd => ⟨_, rfl, _, _, _, _, rfl, (Same.new (o := .dK []) hd) _ _ hx, (own_Desk T).cls, na_Desk_own_things T, pl0, ?_⟩
  have s1 : Sx [x] H (upd (upd H d (.dK [])) x (.ins (cDesk K) dx (putF "own_things" (.ref d) []))) := (Same.new hd).sx.upd me
  have ndx : d ≠ x := fun z => by rw [z, hx] at hd; cases hd
  refine ⟨Nat.zero_le _, fun g hg => ⟨_, rfl, _, _, _, _, rfl, (by rw [upd_ne (ne_of_none upd_same hg)]; exact upd_same), (own_Desk T).cls, na_Desk_own_given T, pl1, ?_⟩⟩
  have ngx : g ≠ x := fun z => by rw [z, upd_same] at hg; cases hg
  have ngd : g ≠ d := fun z => by rw [z, upd_ne ndx, upd_same] at hg; cases hg
  refine ⟨Nat.zero_le _, fun r hr' => ?_⟩
  have nrx : r ≠ x := fun z => by rw [z, upd_same] at hr'; cases hr'
  have nrd : r ≠ d := fun z => by rw [z, upd_ne ndx, upd_ne (Ne.symm ngd), upd_ne ndx, upd_same] at hr'; cases hr'
  have nrg : r ≠ g := fun z => by rw [z, upd_ne ngx, upd_same] at hr'; cases hr'
  refine ⟨_, rfl, _, _, _, _, rfl, (by rw [upd_ne (Ne.symm nrx)]; exact upd_same), (own_Desk T).cls, na_Desk_own_past T, pl2, ?_⟩
  refine ⟨_, rfl, _, _, _, _, rfl, upd_same, (own_Desk T).cls, na_Desk_own_depth T, pl3, ?_⟩
  refine q _ ((((s1.new hg).upd me).new hr').upd me |>.upd me) ⟨dx, d, g, r, upd_same, ⟨[], ?_, .nil⟩, ⟨[], ?_, .nil⟩, ⟨[], ?_, .nil⟩⟩
  · rw [upd_ne ndx, upd_ne ndx, upd_ne (Ne.symm nrd), upd_ne ndx, upd_ne (Ne.symm ngd), upd_ne ndx, upd_same]
  · rw [upd_ne ngx, upd_ne ngx, upd_ne (Ne.symm nrg), upd_ne ngx, upd_same]; rfl
  · rw [upd_ne nrx, upd_ne nrx, upd_same]; rfl
theorem mkDesk {H : Hp} {Q : Addr → Hp → Prop} {E : XK} (q : ∀ x H', Same H H' → H x = none → DeskAt K H' x ⟨[], [], []⟩ → Q x H') :
    ∀ x dx, H x = none → H dx = none → dx ≠ x → sp_Desk_init K [.ref x] (upd (upd H dx (.own x)) x (.ins (cDesk K) dx [])) (fun v H2 => v = .non ∧ Q x H2) E := fun x dx nx nd ne =>
  ⟨_, rfl, x, dx, rfl, upd_same, fun H' s hs => ⟨rfl, q x H' (made_same nx nd s) nx hs⟩⟩
/-- a desk knows a name -/
def knows (ts : Ths) : V → Bool
  | .str x => (ts.lookup x).isSome
  | _ => false
theorem RepP.some {H : Hp} {kvs : List (Key × V)} {ts : Ths} (h : RepP K H kvs ts) (x : Str) : (valV kvs (Sum.inr x)).isSome = (ts.lookup x).isSome := by
  rcases h.get x with ⟨h1, h2⟩ | ⟨p, th, h1, h2, _⟩ <;> rw [h1, h2] <;> rfl
abbrev sp_need_thing (K : PySem.W.Frag) : L2.Sp := S2 fun a b H Q E => ∃ x S, a = .ref x ∧ DeskAt K H x S ∧ ArgV K H b ∧ (knows S.things b = true → ∀ H', Same H H' → Q .non H') ∧
  (knows S.things b = false → ∀ dd H', Same H H' → H dd = none → H' dd = some (.xd [("name", b)]) → E (.ref (cUnknown K)) (some dd) H')
theorem ok_Desk_need_thing (T : Tx P K mg) : HasM P w K mg base 3 "Desk" "need_thing" ["self", "name"] (sp_need_thing K) := by
  refine ⟨m_Desk_need_thing T, ok2 (F_Desk_need_thing T) sc_Desk_need_thing fun cdv A outer s H a b Q E hr h => ?_⟩
  obtain ⟨x, S, rfl, hS, hb, q, qe⟩ := h
  refine ⟨_, (pss_one (ps_if (PW.pt (pw_or (pt_not (pt_val (pe_callB call_isi (by rfl) (b_isinstance T) bb_isinstance (pa_cons (pv 1) (pa_cons (pe_bltn (v := .ty "str") (by rfl) (b_str T) bb_str rfl) pa_nil))))) (pw_or1 (pt_cmp (pc_dnotin (hu_of hr) (pv 1) (pe_fldK K (pv 0))) (by rfl))))) (pss_one (rz_Unknown T hr (takes_of rfl rfl rfl rfl) (pa_cons (pv 1) pa_nil))) pss_nil)), ?_⟩
  obtain ⟨t, ht, hk⟩ := arg_str hb
  refine ⟨_, rfl, _, _, _, _, _, rfl, .ty _, ht, hk, _, rfl, ?_⟩
  obtain ⟨dx, d, g, r, hx, ⟨kvs, hd, hR⟩, _, _⟩ := hS
  cases hs : isS b with
  | false =>
    have hn : knows S.things b = false := by cases b <;> first | rfl | cases hs
    exact iteT (iteT ⟨_, rfl, rz1_rd fun dd hdd => qe hn dd _ (Same.new hdd) hdd upd_same⟩)
  | true =>
    cases b <;> first | (cases hs; done) | skip
    rename_i nm
    refine iteF ⟨_, rfl, _, rfl, at_Dk_things T hx ⟨d, valV kvs (Sum.inr nm), rfl, .inl ⟨kvs, .inr nm, .inl hd, rfl, rfl⟩, _, rfl, ?_⟩⟩
    rw [hR.some nm]
    have e : knows S.things (.str nm) = (S.things.lookup nm).isSome := rfl
    cases hl : (S.things.lookup nm).isSome with
    | true => exact iteF (q (by rw [e, hl]) _ (Same.refl _))
    | false => exact iteT ⟨_, rfl, rz1_rd fun dd hdd => qe (by rw [e, hl]) dd _ (Same.new hdd) hdd upd_same⟩
abbrev sp_Desk_getitem (K : PySem.W.Frag) : L2.Sp := S2 fun a b H Q E => ∃ x S, a = .ref x ∧ DeskAt K H x S ∧ ArgV K H b ∧ (∀ nm th, b = .str nm → S.things.lookup nm = some th → ∀ p H', Same H H' → ThingAt K H' p th → Q (.ref p) H') ∧
  (knows S.things b = false → ∀ dd H', Same H H' → H dd = none → H' dd = some (.xd [("name", b)]) → E (.ref (cUnknown K)) (some dd) H')
theorem ok_Desk_getitem (T : Tx P K mg) : HasM P w K mg base 4 "Desk" "__getitem__" ["self", "name"] (sp_Desk_getitem K) := by
  refine ⟨m_Desk_getitem T, ok2 (F_Desk_getitem T) sc_Desk_getitem fun cdv A outer s H a b Q E hr h => ?_⟩
  obtain ⟨x, S, rfl, hS, hb, q, qe⟩ := h
  refine ⟨_, (pss_cons (ps_expr (pe_hm (ok_Desk_need_thing (K := K) T) (own_Desk T) (hr.mono (by decide)) (passes_call (takes_of rfl rfl rfl rfl) fun _ _ _ _ h => h) (pv 0) (pa_cons (pv 1) pa_nil)))
    (pss_one (ps_ret (pe_dget (hu_of hr) (pe_fldK K (pv 0)) (pv 1) (fun _ _ => rfl))))), ?_⟩
  obtain ⟨dx, d, g, r, hx, _, _, _⟩ := id hS
  refine ⟨_, rfl, x, dx, _, rfl, hx, lk_Desk_no _ _ _ _ (by decide +kernel), _, rfl, _, _, rfl, x, S, rfl, hS, hb, fun hk H1 e1 => ?_, qe⟩
  obtain ⟨dx1, d1, g1, r1, hx1, ⟨kvs, hd, hR⟩, _, _⟩ := hS.same e1
  cases b <;> first | (cases hk; done) | skip
  rename_i nm
  rcases hR.get nm with ⟨h1, h2⟩ | ⟨p, th, h1, h2, h3⟩
  · have : (S.things.lookup nm).isSome = true := hk
    rw [h1] at this
    cases this
  · exact ⟨_, rfl, at_Dk_things T hx1 ⟨_, rfl, d1, .ref p, rfl, .inl ⟨kvs, .inr nm, .inl hd, rfl, h2.symm⟩, q nm th rfl h1 p _ e1 h3⟩⟩
abbrev sp_Desk_contains (K : PySem.W.Frag) : L2.Sp := S2 fun a b H Q _ => ∃ x S, a = .ref x ∧ DeskAt K H x S ∧ ArgV K H b ∧ ∀ H', Same H H' → Q (.bl (knows S.things b)) H'
theorem ok_Desk_contains (T : Tx P K mg) : HasM P w K mg base 2 "Desk" "__contains__" ["self", "value"] (sp_Desk_contains K) := by
  refine ⟨m_Desk_contains T, ok2 (F_Desk_contains T) sc_Desk_contains fun cdv A outer s H a b Q E hr h => ?_⟩
  obtain ⟨x, S, rfl, hS, hb, q⟩ := h
  have q := q _ (Same.refl _)
  refine ⟨_, (pss_one (ps_ret (pe_and (pe_callB call_isi (by rfl) (b_isinstance T) bb_isinstance (pa_cons (pv 1) (pa_cons (pe_bltn (v := .ty "str") (by rfl) (b_str T) bb_str rfl) pa_nil))) (pe_one (pe_cmp (pc_din (hu_of hr) (pv 1) (pe_fldK K (pv 0))) (by rfl)))))), ?_⟩
  obtain ⟨t, ht, hk⟩ := arg_str hb
  refine ⟨_, rfl, _, _, _, _, _, rfl, .ty _, ht, hk, _, rfl, ?_⟩
  obtain ⟨dx, d, g, r, hx, ⟨kvs, hd, hR⟩, _, _⟩ := hS
  cases hs : isS b with
  | false =>
    have hn : knows S.things b = false := by cases b <;> first | rfl | cases hs
    rw [hn] at q
    exact iteF q
  | true =>
    cases b <;> first | (cases hs; done) | skip
    rename_i nm _
    refine iteT ⟨_, rfl, _, rfl, at_Dk_things T hx ⟨d, valV kvs (Sum.inr nm), rfl, .inl ⟨kvs, .inr nm, .inl hd, rfl, rfl⟩, ?_⟩⟩
    rw [hR.some nm]
    exact q
abbrev sp_Desk_len (K : PySem.W.Frag) : L2.Sp := S1 fun a H Q _ => ∃ x S, a = .ref x ∧ DeskAt K H x S ∧ ∀ H', Same H H' → Q (nV S.things.length) H'
theorem ok_Desk_len (T : Tx P K mg) : HasM P w K mg base 1 "Desk" "__len__" ["self"] (sp_Desk_len K) := by
  refine ⟨m_Desk_len T, ok1 (F_Desk_len T) sc_Desk_len fun cdv A outer s H a Q E hr h => ?_⟩
  obtain ⟨x, S, rfl, hS, q⟩ := h
  refine ⟨_, (pss_one (ps_ret (pe_callB call_lenD (by rfl) (b_len T) bb_len (pa_cons (pe_fldK K (pv 0)) pa_nil)))), ?_⟩
  obtain ⟨dx, d, g, r, hx, ⟨kvs, hd, hR⟩, _, _⟩ := hS
  refine ⟨_, rfl, at_Dk_things T hx ⟨d, kvs, rfl, hd, ?_⟩⟩
  rw [Paired.length hR]
  exact q _ (Same.refl _)
theorem unlock_same {H H' : Hp} {d : Addr} {od : Obj} {u : HO} (h : H d = some u) (e : Same (upd H d (.frz od u)) H') : Same H (upd H' d u) := fun b o hb => by
  by_cases z : b = d
  · rw [z, upd_same]; rw [z, h] at hb; exact hb
  · rw [upd_ne z]
    exact e _ _ (by rw [upd_ne z]; exact hb)
theorem take_map {α β : Type} {f : α → β} {l : List α} {i : Nat} {a : α} (h : l[i]? = some a) : (l.take (i + 1)).map f = (l.take i).map f ++ [f a] := by
  rw [List.take_add_one, h, List.map_append]; rfl
theorem RepP.keys {H : Hp} : ∀ {kvs : List (Key × V)} {ts : Ths}, RepP K H kvs ts → kvs.map (fun kv => kV kv.1) = (ts.map (·.1)).map V.str
  | [], [], _ => rfl
  | kv :: kvs, t :: ts, .cons h r => by
    rw [List.map_cons, List.map_cons, List.map_cons, RepP.keys r, h.1]
    rfl
abbrev sp_Desk_names (K : PySem.W.Frag) : L2.Sp := S1 fun a H Q _ => ∃ x S, a = .ref x ∧ DeskAt K H x S ∧ S.things.length ≤ 50 ∧ ∀ p H' ns, Same H H' → H p = none → H' p = some (.tup (ns.map V.str)) → ns.Perm (S.things.map (·.1)) → sortedS ns = true → Q (.ref p) H'
theorem ok_Desk_names (T : Tx P K mg) : HasM P w K mg base 2 "Desk" "names" ["self"] (sp_Desk_names K) := by
  refine ⟨m_Desk_names T, ok1 (F_Desk_names T) sc_Desk_names fun cdv A outer s H a Q E hr h => ?_⟩
  obtain ⟨x, S, rfl, hS, hz, q⟩ := h
  refine ⟨_, (pss_one (ps_ret (pe_callTy call_tuple_of (by rfl) (b_tuple T) bb_tuple (pa_cons (pe_callB cr_sortedS (by rfl) (b_sorted T) bb_sorted (pa_cons (pe_lock (pe_lc (own := [("name", 1)]) (g := gName 1) rfl sc_Desk_names.nd (pi_keys (pe_fldK K (pv 0))) (blkOk_by (own := [("name", 1)]) (N := N_Desk_names) (sc := defScope st_Desk_names) (by decide +kernel)) (fun _ _ _ _ _ => pg_name (i := 1) sc_Desk_names.nd rfl (Or.inl rfl)) (fun _ _ _ _ _ => pts_nil) (fun _ _ _ _ _ => (pe_callTy SkE.call_str_str (by rfl) (b_str T) bb_str (pa_cons (pv 1) pa_nil))))) pa_nil)) pa_nil)))), ?_⟩
  obtain ⟨dx, d, g, r, hx, ⟨kvs, hd, hR⟩, _, _⟩ := hS
  have hlen : kvs.length ≤ 50 := by rw [Paired.length hR]; exact hz
  refine ⟨d, _, hd, trivial, fun od => ⟨_, rfl, at_Dk_things T (H := upd H d (.frz od (.dK kvs))) (x := x) (by rw [upd_ne (fun z => by rw [z, hd] at hx; cases hx)]; exact hx) ⟨d, od, rfl, .inl ⟨kvs, upd_same, fun D hD => ?_⟩⟩⟩⟩
  have hks : kvs.map (fun kv => kV kv.1) = (S.things.map (·.1)).map V.str := hR.keys
  refine lc_it (walk_keys (d := d) (o := od) (kvs := kvs)) (Pv := fun i H' => Same (upd H d (.frz od (.dK kvs))) H' ∧ H' D = some (.lst ((kvs.take i).map fun kv => kV kv.1))) ⟨Same.new hD, upd_same⟩ (fun i H' _ p => p.1 _ _ upd_same) (fun i v H1 H2 hi p y => ?_) (fun H' p => ?_)
  · obtain ⟨e, hl⟩ := p
    obtain ⟨rfl, k, v2, hk, rfl⟩ := y
    have hk2 : (kvs.map (fun kv => kV kv.1))[i]? = some (kV k) := by rw [List.getElem?_map, hk]; rfl
    rw [hks, List.getElem?_map] at hk2
    cases hn : (S.things.map (·.1))[i]? with
    | none => rw [hn] at hk2; cases hk2
    | some nm =>
      rw [hn] at hk2
      have hk3 : V.str nm = kV k := Option.some.inj hk2
      rw [← hk3]
      refine ⟨rfl, _, rfl, nm, rfl, _, hl, ?_, Same.but hD e (Same.refl _), ?_⟩
      · rw [List.length_map]
        exact Nat.lt_of_le_of_lt (List.length_take_le' _ _) (small1000 (by omega))
      · rw [upd_same, take_map hk, hk3]
  · obtain ⟨e, hl⟩ := p
    refine ⟨e _ _ upd_same, ?_⟩
    have e2 := unlock_same hd e
    have hDd : D ≠ d := fun z => by rw [z, upd_same] at hD; cases hD
    rw [List.take_length, hks] at hl
    refine ⟨D, S.things.map (·.1), rfl, SqL.of (by rw [upd_ne hDd]; exact hl), by rw [List.length_map]; omega, fun ys p hp hs hpn => ⟨p, ys.map V.str, rfl, .inl ⟨SqL.of upd_same, fun l hl2 => ?_⟩⟩⟩
    exact q l _ ys ((e2.new' hpn).new' hl2) ((e2.new' hpn).free hl2) upd_same hp hs
abbrev sp_Desk_promises (K : PySem.W.Frag) : L2.Sp := S1 fun a H Q _ => ∃ x S, a = .ref x ∧ DeskAt K H x S ∧ ∀ g H', Same H H' → GivAt H' g S.given → Q (.ref g) H'
theorem ok_Desk_promises (T : Tx P K mg) : HasM P w K mg base 1 "Desk" "promises" ["self"] (sp_Desk_promises K) := by
  refine ⟨m_Desk_promises T, ok1 (F_Desk_promises T) sc_Desk_promises fun cdv A outer s H a Q E hr h => ?_⟩
  obtain ⟨x, S, rfl, ⟨dx, d, g, r, hx, _, hg, _⟩, q⟩ := h
  refine ⟨_, (pss_one (ps_ret (pe_fldK K (pv 0)))), ?_⟩
  exact ⟨_, rfl, at_Dk_given T hx (q g _ (Same.refl _) hg)⟩
abbrev sp_Desk_undoable (K : PySem.W.Frag) : L2.Sp := S1 fun a H Q _ => ∃ x S, a = .ref x ∧ DeskAt K H x S ∧ ∀ H', Same H H' → Q (nV S.past.length) H'
theorem ok_Desk_undoable (T : Tx P K mg) : HasM P w K mg base 1 "Desk" "undoable" ["self"] (sp_Desk_undoable K) := by
  refine ⟨m_Desk_undoable T, ok1 (F_Desk_undoable T) sc_Desk_undoable fun cdv A outer s H a Q E hr h => ?_⟩
  obtain ⟨x, S, rfl, ⟨dx, d, g, r, hx, _, hg, ps, hr', hp⟩, q⟩ := h
  refine ⟨_, (pss_one (ps_ret (pe_callB (call_lenM K) (by rfl) (b_len T) bb_len (pa_cons (pe_fldK K (pv 0)) pa_nil)))), ?_⟩
  refine ⟨_, rfl, at_Dk_past T hx ⟨r, false, _, rfl, SqT.of hr', ?_⟩⟩
  rw [List.length_map, Paired.length hp]
  exact q _ (Same.refl _)
/-- a promise that stands at p -/
def PrmAt (H : Hp) (p : Addr) (pr : Prm) : Prop := H p = some (.tup pr.vs) ∧ PrmOk pr
theorem PrmAt.same {H H' : Hp} {p : Addr} {pr : Prm} (h : PrmAt H p pr) (e : Same H H') : PrmAt H' p pr := ⟨e _ _ h.1, h.2⟩
theorem PrmAt.ask {H : Hp} {p : Addr} {pr : Prm} (h : PrmAt H p pr) : AskV K H (.ref p) true := .inr ⟨p, _, rfl, SqT.of h.1, h.2.flat, h.2.len, h.2.good.symm⟩
abbrev sp_Desk_holds (K : PySem.W.Frag) : L2.Sp := S2 fun a b H Q E => ∃ x S, a = .ref x ∧ DeskAt K H x S ∧ ThsOk S.things ∧
  ((∃ p pr, b = .ref p ∧ PrmAt H p pr ∧ ∀ H', Same H H' → Q (.bl (kept S.things pr)) H') ∨ (AskV K H b false ∧ ∀ dd H', Same H H' → H dd = none → H' dd = some (.xd [("promise", b)]) → E (.ref (cBadPromise K)) (some dd) H'))
theorem ok_Desk_holds (T : Tx P K mg) : HasM P w K mg base 12 "Desk" "holds" ["self", "promise"] (sp_Desk_holds K) := by
  refine ⟨m_Desk_holds T, ok2 (F_Desk_holds T) sc_Desk_holds fun cdv A outer s H a b Q E hr h => ?_⟩
  obtain ⟨x, S, rfl, hS, hok, h⟩ := h
  refine ⟨_, (pss_cons (ps_expr (pe_h (ok_need_promise (K := K) T) (hr.mono (by decide)) (passes_call (takes_of rfl rfl rfl rfl) fun _ _ _ _ h => h) (pa_cons (pv 1) pa_nil)))
    (pss_one (ps_ret (pe_h (ok_is_kept (K := K) T) (hr.mono (by decide)) passL (pa_cons (pv 1) (pa_cons (pe_fldK K (pv 0)) pa_nil)))))), ?_⟩
  rcases h with ⟨p, pr, rfl, hp, q⟩ | ⟨hb, qe⟩
  · refine ⟨_, rfl, _, rfl, true, hp.ask, fun _ H1 e1 => ?_, fun z => by cases z⟩
    obtain ⟨dx, d, g, r, hx, ⟨kvs, hd, hR⟩, _, _⟩ := hS.same e1
    exact ⟨_, rfl, _, rfl, at_Dk_things T hx ⟨_, _, rfl, p, d, kvs, S.things, pr, rfl, rfl, SqT.of (hp.same e1).1, .inl hd, hR, hok.wf, fun H2 e2 => q _ (e1.trans e2)⟩⟩
  · exact ⟨_, rfl, _, rfl, false, hb, fun z => (by cases z), fun _ => qe⟩
theorem broken_take {ts : Ths} {gs : List Prm} {i : Nat} {pr : Prm} (h : gs[i]? = some pr) (hb : broken ts (gs.take i) = none) : broken ts (gs.take (i + 1)) = if kept ts pr then none else some pr := by
  unfold broken at hb ⊢
  rw [List.take_add_one, h, List.find?_append, hb]
  cases hk : kept ts pr <;> simp [hk]
theorem broken_at {ts : Ths} {gs : List Prm} {i : Nat} {pr : Prm} (h : gs[i]? = some pr) (hb : broken ts (gs.take i) = none) (hk : kept ts pr = false) : broken ts gs = some pr := by
  unfold broken at hb ⊢
  have e : gs = gs.take i ++ pr :: gs.drop (i + 1) := by
    have hi := (List.getElem?_eq_some_iff.mp h)
    obtain ⟨h1, h2⟩ := hi
    rw [← h2, ← List.drop_eq_getElem_cons h1, List.take_append_drop]
  rw [e, List.find?_append, hb]
  simp [hk]
theorem paired_at {α β : Type} {R : α → β → Prop} : ∀ {as : List α} {bs : List β} {i : Nat} {a : α}, Paired R as bs → as[i]? = some a → ∃ b, bs[i]? = some b ∧ R a b
  | _ :: _, _ :: _, 0, _, .cons h _, e => by
    rw [List.getElem?_cons_zero] at e
    rw [← Option.some.inj e]
    exact ⟨_, rfl, h⟩
  | _ :: _, _ :: _, i + 1, _, .cons _ r, e => by
    rw [List.getElem?_cons_succ] at e
    exact paired_at (i := i) r e
abbrev sp_need_kept (K : PySem.W.Frag) : L2.Sp := S3 fun a b c H Q E => ∃ x S d ts g gs, a = .ref x ∧ b = .ref d ∧ c = .ref g ∧ DeskAt K H x S ∧ ThsAt K H d ts ∧ ThsOk ts ∧ GivAt H g gs ∧ (broken ts gs = none → ∀ H', Same H H' → Q .non H') ∧
  ∀ pr, broken ts gs = some pr → ∀ p dd H', Same H H' → H dd = none → H' p = some (.tup pr.vs) → H' dd = some (.xd [("promise", .ref p)]) → E (.ref (cBroken K)) (some dd) H'
theorem ok_Desk_need_kept (T : Tx P K mg) : HasM P w K mg base 12 "Desk" "need_kept" ["self", "things", "given"] (sp_need_kept K) := by
  refine ⟨m_Desk_need_kept T, ok3 (F_Desk_need_kept T) sc_Desk_need_kept fun cdv A outer s H a b c Q E hr h => ?_⟩
  obtain ⟨x, S, d, ts, g, gs, rfl, rfl, rfl, hS, hd, hok, hg, q, qe⟩ := h
  refine ⟨_, (pss_one (ps_if (pt_cmpR op_eqM (pe_fldK K (pv 0)) (pe_nat 0) (nomark _)) (pss_one (ps_for (passes_of rfl) rfl (pi_seq (pv 2)) (pg_name (i := 3) sc_Desk_need_kept.nd rfl (.inl rfl)) (pss_one (ps_if (pt_not (pt_val (pe_h (ok_is_kept (K := K) T) (hr.mono (by decide)) passL (pa_cons (pv 3) (pa_cons (pv 1) pa_nil))))) (pss_one (rz_Broken T hr (takes_of rfl rfl rfl rfl) (pa_cons (pv 3) pa_nil))) pss_nil)))) pss_nil)), ?_⟩
  obtain ⟨dx, d0, g0, r, hx, _, _, _⟩ := id hS
  refine ⟨_, rfl, at_Dk_depth T hx ⟨_, _, rfl, rfl, _, rfl, iteT ?_⟩⟩
  obtain ⟨ps, hgt, hps⟩ := id hg
  refine ⟨_, rfl, g, rfl, for_sq (k := false) (xs := ps.map V.ref) (Pv := fun i σ H' => Same H H' ∧ broken ts (gs.take i) = none ∧ ∃ y, σ = [some (.ref x), some (.ref d), some (.ref g), y]) ⟨Same.refl _, rfl, none, rfl⟩ (fun i σ H' h => SqT.of (h.1 _ _ hgt)) (fun i v σ H' hv h => ?_) (fun σ H' h => ?_)⟩
  · obtain ⟨e, hb, y, rfl⟩ := h
    obtain ⟨p, pr, hp, hpr, rfl, hat⟩ : ∃ p pr, ps[i]? = some p ∧ gs[i]? = some pr ∧ v = .ref p ∧ H p = some (.tup pr.vs) := by
      rw [List.getElem?_map] at hv
      cases hp : ps[i]? with
      | none => rw [hp] at hv; cases hv
      | some p =>
        rw [hp] at hv
        obtain ⟨pr, h1, h2⟩ := paired_at hps hp
        exact ⟨p, pr, rfl, h1, (Option.some.inj hv).symm, h2⟩
    obtain ⟨kvs, hdk, hR⟩ := hd.same e
    refine ⟨_, rfl, _, rfl, _, _, rfl, p, d, kvs, ts, pr, rfl, rfl, SqT.of (e _ _ hat), .inl hdk, hR, hok.wf, fun H1 e1 => ⟨_, rfl, ?_⟩⟩
    cases hk : kept ts pr with
    | true => exact iteF ⟨e.trans e1, by rw [broken_take hpr hb, hk]; rfl, some (.ref p), rfl⟩
    | false => exact iteT ⟨_, rfl, rz1_rd fun dd hdd => qe pr (broken_at hpr hb hk) p dd _ ((e.trans e1).new' hdd) ((e.trans e1).free hdd) (((e.trans e1).new' hdd) _ _ hat) upd_same⟩
  · obtain ⟨e, hb, y, rfl⟩ := h
    rw [List.length_map, Paired.length hps, List.take_length] at hb
    exact q hb _ e
abbrev sp_settle (K : PySem.W.Frag) : L2.Sp := S3 fun a b c H Q _ => ∃ x S d ts g gs, a = .ref x ∧ b = .ref d ∧ c = .ref g ∧ DeskAt K H x S ∧ S.past.length ≤ 500 ∧ ThsAt K H d ts ∧ GivAt H g gs ∧ ∀ H', Sx [x] H H' → DeskAt K H' x ⟨ts, gs, S.past ++ [(S.things, S.given)]⟩ → Q .non H'
theorem ok_Desk_settle (T : Tx P K mg) : HasM P w K mg base 1 "Desk" "settle" ["self", "things", "given"] (sp_settle K) := by
  refine ⟨m_Desk_settle T, ok3 (F_Desk_settle T) sc_Desk_settle fun cdv A outer s H a b c Q E hr h => ?_⟩
  obtain ⟨x, S, d, ts, g, gs, rfl, rfl, rfl, hS, hz, hd, hg, q⟩ := h
  refine ⟨_, (pss_cons (ps_fld (pv 0) (pe_op op_catA (pe_fldK K (pv 0)) (pe_tup (pa_cons (pe_tup (pa_cons (pe_fldK K (pv 0)) (pa_cons (pe_fldK K (pv 0)) pa_nil))) pa_nil))) rfl)
    (pss_cons (ps_fld (pv 0) (pv 1) rfl)
    (pss_one (ps_fld (pv 0) (pv 2) rfl)))), ?_⟩
  obtain ⟨dx, d0, g0, r, hx, hd0, hg0, ps, hr', hps⟩ := hS
  have fin : ∀ (r2 : Addr) (H2 : Hp), Same H H2 → PastAt K H2 r2 (S.past ++ [(S.things, S.given)]) → Q .non (upd (upd (upd H2 x (.ins (cDesk K) dx (fDesk (.ref d0) (.ref g0) (.ref r2) (nV 0)))) x (.ins (cDesk K) dx (fDesk (.ref d) (.ref g0) (.ref r2) (nV 0)))) x (.ins (cDesk K) dx (fDesk (.ref d) (.ref g) (.ref r2) (nV 0)))) := fun r2 H2 e2 hp2 => by
    have hx2 := e2 _ _ hx
    have sL : Sx [x] H2 (upd (upd (upd H2 x (.ins (cDesk K) dx (fDesk (.ref d0) (.ref g0) (.ref r2) (nV 0)))) x (.ins (cDesk K) dx (fDesk (.ref d) (.ref g0) (.ref r2) (nV 0)))) x (.ins (cDesk K) dx (fDesk (.ref d) (.ref g) (.ref r2) (nV 0)))) := ((Sx.refl.upd me).upd me).upd me
    exact q _ (e2.sx.trans sL) ⟨dx, d, g, r2, upd_same, (hd.same e2).sx sL hx2, (hg.same e2).sx sL hx2, hp2.sx sL hx2⟩
  refine ⟨_, rfl, at_Dk_past T hx ⟨_, rfl, at_Dk_things T hx ⟨_, rfl, at_Dk_given T hx ⟨by show 2 ≤ sizeLine; decide, fun t1 h1 => ⟨by show 1 ≤ sizeLine; decide, fun t2 h2 => ?_⟩⟩⟩⟩⟩
  have e2 := (Same.new (H := H) (o := .tup [.ref d0, .ref g0]) h1).new' (o := .tup [.ref t1]) h2
  have ht1 : (upd (upd H t1 (.tup [.ref d0, .ref g0])) t2 (.tup [.ref t1])) t1 = some (.tup [.ref d0, .ref g0]) := by rw [upd_ne (ne_of_none upd_same h2)]; exact upd_same
  have hent : ∀ H3, Same (upd (upd H t1 (.tup [.ref d0, .ref g0])) t2 (.tup [.ref t1])) H3 → ∃ d g, H3 t1 = some (.tup [.ref d, .ref g]) ∧ ThsAt K H3 d S.things ∧ GivAt H3 g S.given := fun H3 e3 => ⟨d0, g0, e3 _ _ ht1, hd0.same (e2.trans e3), hg0.same (e2.trans e3)⟩
  have hpast : ∀ H3, Same (upd (upd H t1 (.tup [.ref d0, .ref g0])) t2 (.tup [.ref t1])) H3 → Paired (fun p (e : Ths × List Prm) => ∃ d g, H3 p = some (.tup [.ref d, .ref g]) ∧ ThsAt K H3 d e.1 ∧ GivAt H3 g e.2) (ps ++ [t1]) (S.past ++ [(S.things, S.given)]) := fun H3 e3 =>
    Paired.snoc (Paired.mapP hps fun _ _ ⟨d, g, z1, z2, z3⟩ => ⟨d, g, (e2.trans e3) _ _ z1, z2.same (e2.trans e3), z3.same (e2.trans e3)⟩) (hent H3 e3)
  have hzp : ps.length ≤ 500 := by rw [Paired.length hps]; exact hz
  refine ⟨r, t2, ps.map V.ref, [.ref t1], rfl, rfl, SqT.of (e2 _ _ hr'), SqT.of upd_same, by simp only [List.length_map, List.length_cons, List.length_nil]; exact Nat.le_of_lt (small1000 (by omega)), fun hn => ?_, fun _ z => (by cases z), fun hn _ t3 h3 => ?_⟩
  · have hpn : ps = [] := by cases ps with
      | nil => rfl
      | cons _ _ => cases hn
    have hp2 := hpast _ (Same.refl _)
    rw [hpn] at hp2
    refine ⟨_, rfl, _, _, _, _, rfl, e2 _ _ hx, (own_Desk T).cls, na_Desk_own_past T, desk_len _ _ _ _, ?_⟩
    refine ⟨_, rfl, _, rfl, _, _, _, _, rfl, upd_same, (own_Desk T).cls, na_Desk_own_things T, desk_len _ _ _ _, ?_⟩
    refine ⟨_, rfl, _, rfl, _, _, _, _, rfl, upd_same, (own_Desk T).cls, na_Desk_own_given T, desk_len _ _ _ _, ?_⟩
    exact fin t2 _ e2 ⟨[t1], upd_same, hp2⟩
  · have e3 := Same.new (o := .tup (ps.map V.ref ++ [.ref t1])) h3
    refine ⟨_, rfl, _, _, _, _, rfl, (e2.trans e3) _ _ hx, (own_Desk T).cls, na_Desk_own_past T, desk_len _ _ _ _, ?_⟩
    refine ⟨_, rfl, _, rfl, _, _, _, _, rfl, upd_same, (own_Desk T).cls, na_Desk_own_things T, desk_len _ _ _ _, ?_⟩
    refine ⟨_, rfl, _, rfl, _, _, _, _, rfl, upd_same, (own_Desk T).cls, na_Desk_own_given T, desk_len _ _ _ _, ?_⟩
    exact fin t3 _ (e2.trans e3) ⟨ps ++ [t1], by rw [upd_same, List.map_append]; rfl, hpast _ e3⟩
end
end L2.Lk
/-! P8 -/
set_option Elab.async false
set_option linter.all false
set_option maxRecDepth 100000
set_option maxHeartbeats 2000000
namespace L2.Lk
open PySem PySem.Spec PyProof.Rows
section
variable {P : Program} {w : World} {K : PySem.W.Frag} {mg : Str → Option Value} {base : Heap}
theorem RepP.any {H : Hp} : ∀ {kvs : List (Key × V)} {ts : Ths}, RepP K H kvs ts → ∀ x : Str, (kvs.any fun kv => decide (kv.1 = Sum.inr x)) = ts.any fun t => decide (t.1 = x)
  | [], [], _, _ => rfl
  | kv :: kvs, t :: ts, .cons h r, x => by
    rw [List.any_cons, List.any_cons, RepP.any r x, h.1]
    congr 1
    by_cases e : t.1 = x
    · rw [decide_eq_true e, decide_eq_true (by rw [e])]
    · rw [decide_eq_false e, decide_eq_false fun z => e (by injection z)]
theorem RepP.mapPut {H : Hp} {p : Addr} {x : Str} {th : Thing} (hp : ThingAt K H p th) : ∀ {kvs : List (Key × V)} {ts : Ths}, RepP K H kvs ts →
    RepP K H (kvs.map fun kv => if kv.1 = Sum.inr x then (kv.1, .ref p) else kv) (ts.map fun t => if t.1 = x then (t.1, th) else t)
  | [], [], _ => .nil
  | kv :: kvs, t :: ts, .cons h r => by
    rw [List.map_cons, List.map_cons]
    refine .cons ?_ (RepP.mapPut hp r)
    by_cases e : t.1 = x
    · rw [if_pos e, if_pos (by rw [h.1, e])]
      exact ⟨h.1, p, rfl, hp⟩
    · rw [if_neg e, if_neg (fun z => e (by rw [h.1] at z; injection z))]
      exact h
theorem RepP.put {H : Hp} {kvs : List (Key × V)} {ts : Ths} {p : Addr} {x : Str} {th : Thing} (h : RepP K H kvs ts) (hp : ThingAt K H p th) : RepP K H (putK kvs (Sum.inr x) (.ref p)) (putT ts x th) := by
  unfold putK putT
  rw [h.any x]
  by_cases e : (ts.any fun t => decide (t.1 = x)) = true
  · rw [if_pos e, if_pos e]
    exact RepP.mapPut hp h
  · rw [if_neg e, if_neg e]
    exact Paired.snoc h ⟨rfl, p, rfl, hp⟩
theorem RepP.drop {H : Hp} {x : Str} : ∀ {kvs : List (Key × V)} {ts : Ths}, RepP K H kvs ts → RepP K H (dropK kvs (Sum.inr x)) (dropT ts x)
  | [], [], _ => .nil
  | kv :: kvs, t :: ts, .cons h r => by
    unfold dropK dropT
    rw [List.filter_cons, List.filter_cons]
    by_cases e : t.1 = x
    · rw [if_neg (by simp [h.1, e]), if_neg (by simp [e])]
      exact RepP.drop r
    · rw [if_pos (by simp [h.1, e]), if_pos (by simp [e])]
      exact .cons h (RepP.drop r)
/-- what is no dict stays -/
def Stay (H H' : Hp) : Prop := ∀ b o, H b = some o → (∀ k, o ≠ .dK k) → (∀ od k, o ≠ .frz od (.dK k)) → H' b = some o
theorem SqT.stay {H H' : Hp} {b : Addr} {xs : List V} (h : SqT K H b xs) (e : Stay H H') : SqT K H' b xs := by
  rcases h with (h | ⟨o, h⟩) | h
  · exact .inl (.inl (e _ _ h (fun k z => by cases z) (fun od k z => by cases z)))
  · exact .inl (.inr ⟨o, e _ _ h (fun k z => by cases z) (fun od k z => by cases z)⟩)
  · exact .inr h
theorem ins_stay {H H' : Hp} {b C dx : Addr} {fs : List (Str × V)} (e : Stay H H') (h : H b = some (.ins C dx fs)) : H' b = some (.ins C dx fs) := e _ _ h (fun k z => by cases z) (fun od k z => by cases z)
theorem MapAt.stay {H H' : Hp} {p : Addr} {m : Nat} {cs : List Nat} (h : MapAt K H p m cs) (e : Stay H H') : MapAt K H' p m cs := by
  obtain ⟨dp, r, h1, t⟩ := h
  exact ⟨dp, r, ins_stay e h1, SqT.stay t e⟩
theorem ThingAt.stay {H H' : Hp} {p : Addr} {th : Thing} (h : ThingAt K H p th) (e : Stay H H') : ThingAt K H' p th := by
  cases th with
  | spread n s l =>
    obtain ⟨dp, r, r2, h1, t, t2⟩ := h
    exact ⟨dp, r, r2, ins_stay e h1, SqT.stay t e, SqT.stay t2 e⟩
  | space n u =>
    obtain ⟨R, ⟨dp, r, h1, t⟩, hR⟩ := h
    exact ⟨R, ⟨dp, r, ins_stay e h1, SqT.stay t e⟩, hR⟩
  | store n c b =>
    obtain ⟨dp, ch, bk, h1, h2, h3⟩ := h
    exact ⟨dp, ch, bk, ins_stay e h1, h2.stay e, h3.stay e⟩
theorem RepP.stay {H H' : Hp} {kvs : List (Key × V)} {ts : Ths} (h : RepP K H kvs ts) (e : Stay H H') : RepP K H' kvs ts := Paired.mapP h fun _ _ ⟨z1, p, z2, z3⟩ => ⟨z1, p, z2, z3.stay e⟩
theorem RepP.keysI {H : Hp} : ∀ {kvs : List (Key × V)} {ts : Ths}, RepP K H kvs ts → kvs.map (·.1) = (ts.map (·.1)).map Sum.inr
  | [], [], _ => rfl
  | kv :: kvs, t :: ts, .cons h r => by
    rw [List.map_cons, List.map_cons, List.map_cons, RepP.keysI r, h.1]
theorem valV_mem {k : Key} {v : V} : ∀ {kvs : List (Key × V)}, (kvs.map (·.1)).Nodup → (k, v) ∈ kvs → valV kvs k = some v
  | (a, b) :: kvs, hn, hm => by
    rw [List.map_cons, List.nodup_cons] at hn
    rcases List.mem_cons.mp hm with e | hm
    · rw [valV_pos (congrArg Prod.fst e).symm, ← congrArg Prod.snd e]
    · rw [valV_neg fun z => hn.1 (z ▸ List.mem_map.mpr ⟨(k, v), hm, rfl⟩)]
      exact valV_mem hn.2 hm
/-- behind dict(own_things) and a change of the new dict -/
theorem dict_same {H : Hp} {l : Addr} {o u : HO} (hl : H l = none) : Same H (upd (upd H l o) l u) := by
  rw [upd_upd]
  exact Same.new hl
/-- no spread, space or store -/
def NoThing (K : PySem.W.Frag) (H : Hp) (c : V) : Prop := ∃ t, TyX K H c t ∧ PySem.W.kitOne K t (.ref (cSpread K)) = some false ∧ PySem.W.kitOne K t (.ref (cSpace K)) = some false ∧ PySem.W.kitOne K t (.ref (cStore K)) = some false
theorem ms_ty {H H' : Hp} {x : V} {t : Value} (e : Same H H') (h : TyX K H x t) : TyX K H' x t := by
  cases h with
  | base h =>
    cases h with
    | non => exact .base .non
    | bl b => exact .base (.bl b)
    | int i => exact .base (.int i)
    | str s => exact .base (.str s)
    | flt f => exact .base (.flt f)
    | lst z => exact .base (.lst (e _ _ z))
    | frz z => exact .base (.frz (e _ _ z))
    | tup z => exact .base (.tup (e _ _ z))
    | dK z => exact .base (.dK (e _ _ z))
    | dT z => exact .base (.dT (e _ _ z))
    | ins z c ha hn htk hm => exact .base (.ins (e _ _ z) c ha hn htk hm)
  | byt b => exact .byt b
  | set z => exact .set (e _ _ z)
  | kList z c => exact .kList z c
  | kTuple z c => exact .kTuple z c
  | kDict z c => exact .kDict z c
  | fTuple z => exact .fTuple (e _ _ z)
  | fDict z => exact .fDict (e _ _ z)
/-- the end of a deed: the promises are looked at, then the desk is written -/
structure DeedEnd (K : PySem.W.Frag) (H : Hp) (x : Addr) (S : DState) (ts : Ths) (gs : List Prm) (Q : VK) (E : XK) : Prop where
  ok : broken ts gs = none → ∀ H', Sx [x] H H' → DeskAt K H' x ⟨ts, gs, S.past ++ [(S.things, S.given)]⟩ → Q .non H'
  no : ∀ pr, broken ts gs = some pr → ∀ p dd H', Same H H' → H dd = none → H' p = some (.tup pr.vs) → H' dd = some (.xd [("promise", .ref p)]) → E (.ref (cBroken K)) (some dd) H'
abbrev sp_put (K : PySem.W.Frag) : L2.Sp := S3 fun a b c H Q E => ∃ x S, a = .ref x ∧ DeskAt K H x S ∧ ThsOk S.things ∧ S.past.length ≤ 500 ∧ ArgV K H b ∧
  ((nameV b = false ∧ ∀ dd H', Same H H' → H dd = none → H' dd = some (.xd [("value", b)]) → E (.ref (cBadValue K)) (some dd) H') ∨
   (nameV b = true ∧ NoThing K H c ∧ ∀ dd H', Same H H' → H dd = none → H' dd = some (.xd [("value", c)]) → E (.ref (cBadValue K)) (some dd) H') ∨
   ∃ nm p th, nameB nm = true ∧ b = .str nm ∧ c = .ref p ∧ ThingAt K H p th ∧ ThsOk (putT S.things nm th) ∧ DeedEnd K H x S (putT S.things nm th) S.given Q E)
theorem kit_thing3 (T : Tx P K mg) (t : Thing) : PySem.W.kitAny K (.ref (clsT K t)) [.ref (cSpread K), .ref (cSpace K), .ref (cStore K)] = some true := by
  cases t
  · exact kitAny_cons (kit_Spread_Spread T) (fun z => nomatch z) fun _ => rfl
  · exact kitAny_cons (kit_Space_Spread T) (fun _ => kitAny_cons (kit_Space_Space T) (fun z => nomatch z) fun _ => rfl) fun z => nomatch z
  · exact kitAny_cons (kit_Store_Spread T) (fun _ => kitAny_cons (kit_Store_Space T) (fun _ => kitAny_cons (kit_Store_Store T) (fun z => nomatch z) fun _ => rfl) fun z => nomatch z) fun z => nomatch z
theorem ok_Desk_put (T : Tx P K mg) : HasM P w K mg base 13 "Desk" "put" ["self", "name", "thing"] (sp_put K) := by
  refine ⟨m_Desk_put T, ok3 (F_Desk_put T) sc_Desk_put fun cdv A outer s H a b c Q E hr h => ?_⟩
  obtain ⟨x, S, rfl, hS, hok, hz, hb, h⟩ := h
  refine ⟨_, (pss_cons (ps_expr (pe_h (ok_need_name (K := K) T) (hr.mono (by decide)) (passes_call (takes_of rfl rfl rfl rfl) fun _ _ _ _ h => h) (pa_cons (pv 1) pa_nil)))
    (pss_cons (ps_if (pt_not (pt_val (pe_callB call_isiT (by rfl) (b_isinstance T) bb_isinstance (pa_cons (pv 2) (pa_cons (pe_tup (pa_cons (pe_glob (v := .ref (He.ga K "Spread")) (by rfl) (g_Spread T) rfl) (pa_cons (pe_glob (v := .ref (He.ga K "Space")) (by rfl) (g_Space T) rfl) (pa_cons (pe_glob (v := .ref (He.ga K "Store")) (by rfl) (g_Store T) rfl) pa_nil)))) pa_nil))))) (pss_one (rz_BadValue T hr (takes_of rfl rfl rfl rfl) (pa_cons (pv 2) pa_nil))) pss_nil)
    (pss_cons (ps_set (i := 3) sc_Desk_put.nd rfl (.inl rfl) (pe_callTy call_dictD (by rfl) (b_dict T) bb_dict (pa_cons (pe_fldK K (pv 0)) pa_nil)))
    (pss_cons (ps_dput (hu_of hr) (pv 3) (pv 1) (pv 2) rfl)
    (pss_cons (ps_expr (pe_hm (ok_Desk_need_kept (K := K) T) (own_Desk T) (hr.mono (by decide)) (passes_call (takes_of rfl rfl rfl rfl) fun _ _ _ _ h => h) (pv 0) (pa_cons (pv 3) (pa_cons (pe_fldK K (pv 0)) pa_nil))))
    (pss_one (ps_expr (pe_hm (ok_Desk_settle (K := K) T) (own_Desk T) (hr.mono (by decide)) passL (pv 0) (pa_cons (pv 3) (pa_cons (pe_fldK K (pv 0)) pa_nil)))))))))), ?_⟩
  rcases h with ⟨hn, qe⟩ | ⟨hn, ⟨t, ht, k1, k2, k3⟩, qe⟩ | ⟨nm, p, th, hnm, rfl, rfl, hth, hok2, D⟩
  · exact ⟨_, rfl, _, rfl, hb, fun z => by (rw [hn] at z; cases z), fun _ => qe⟩
  · refine ⟨_, rfl, _, rfl, hb, fun _ H1 e1 => ?_, fun z => by (rw [hn] at z; cases z)⟩
    refine ⟨_, rfl, by show 3 ≤ sizeLine; decide, fun t2 h2 => ?_⟩
    have e2 := e1.new' (o := .tup [.ref (He.ga K "Spread"), .ref (He.ga K "Space"), .ref (He.ga K "Store")]) h2
    exact ⟨_, _, _, _, _, false, rfl, upd_same, .cons (.own _) (.cons (.own _) (.cons (.own _) .nil)), ms_ty e2 ht, kitAny_cons k1 (fun _ => kitAny_cons k2 (fun _ => kitAny_cons k3 (fun _ => kitAny_nil) (fun z => nomatch z)) (fun z => nomatch z)) (fun z => nomatch z), _, rfl, iteT ⟨_, rfl, rz1_rd fun dd hdd => qe dd _ (e2.new' hdd) (e2.free hdd) upd_same⟩⟩
  · refine ⟨_, rfl, _, rfl, hb, fun _ H1 e1 => ?_, fun z => by (rw [show nameV (.str nm) = nameB nm from rfl, hnm] at z; cases z)⟩
    refine ⟨_, rfl, by show 3 ≤ sizeLine; decide, fun t2 h2 => ?_⟩
    have e2 := e1.new' (o := .tup [.ref (He.ga K "Spread"), .ref (He.ga K "Space"), .ref (He.ga K "Store")]) h2
    refine ⟨_, _, _, _, _, true, rfl, upd_same, .cons (.own _) (.cons (.own _) (.cons (.own _) .nil)), ty_thing T (hth.same e2), kit_thing3 T th, _, rfl, iteF ?_⟩
    obtain ⟨dx, d, g, r, hx, ⟨kvs, hd, hR⟩, hg, hp⟩ := id (hS.same e2)
    refine ⟨_, rfl, at_Dk_things T hx ⟨d, kvs, rfl, .inl hd, fun l hl => ?_⟩⟩
    refine ⟨_, rfl, _, rfl, _, rfl, l, _, rfl, DPut.k (k := Sum.inr nm) upd_same (small1000 (by rw [Paired.length hR]; exact Nat.le_trans hok.len (by decide))), ?_⟩
    have e3 := e2.trans (dict_same (o := .dK kvs) (u := .dK (putK kvs (Sum.inr nm) (.ref p))) hl)
    obtain ⟨dx3, d3, g3, r3, hx3, hd3, hg3, hp3⟩ := id (hS.same e3)
    have hl3 : ThsAt K (upd (upd _ l (.dK kvs)) l (.dK (putK kvs (Sum.inr nm) (.ref p)))) l (putT S.things nm th) := ⟨_, upd_same, (hR.same (dict_same hl)).put (hth.same e3)⟩
    refine ⟨_, rfl, x, dx3, _, rfl, hx3, lk_Desk_no _ _ _ _ (by decide +kernel), _, rfl, _, rfl, at_Dk_given T hx3 ⟨_, _, _, rfl, x, S, l, _, g3, S.given, rfl, rfl, rfl, hS.same e3, hl3, hok2, hg3, fun hbk H4 e4 => ?_, fun pr hbk p2 dd H4 e4 h1 h3 h4 => D.no pr hbk p2 dd H4 (e3.trans e4) (e3.free h1) h3 h4⟩⟩
    obtain ⟨dx4, d4, g4, r4, hx4, hd4, hg4, hp4⟩ := id ((hS.same e3).same e4)
    exact ⟨_, rfl, x, dx4, _, rfl, hx4, lk_Desk_no _ _ _ _ (by decide +kernel), _, rfl, _, rfl, at_Dk_given T hx4 ⟨_, _, _, rfl, x, S, l, _, g4, S.given, rfl, rfl, rfl, (hS.same e3).same e4, hz, hl3.same e4, hg4, fun H5 s5 hD5 => D.ok hbk H5 ((e3.trans e4).sx.trans s5) hD5⟩⟩
abbrev sp_drop (K : PySem.W.Frag) : L2.Sp := S2 fun a b H Q E => ∃ x S, a = .ref x ∧ DeskAt K H x S ∧ ThsOk S.things ∧ S.past.length ≤ 500 ∧ ArgV K H b ∧
  ((knows S.things b = false ∧ ∀ dd H', Same H H' → H dd = none → H' dd = some (.xd [("name", b)]) → E (.ref (cUnknown K)) (some dd) H') ∨
   ∃ nm, b = .str nm ∧ (S.things.lookup nm).isSome = true ∧ ThsOk (dropT S.things nm) ∧ DeedEnd K H x S (dropT S.things nm) S.given Q E)
theorem ok_Desk_drop (T : Tx P K mg) : HasM P w K mg base 13 "Desk" "drop" ["self", "name"] (sp_drop K) := by
  refine ⟨m_Desk_drop T, ok2 (F_Desk_drop T) sc_Desk_drop fun cdv A outer s H a b Q E hr h => ?_⟩
  obtain ⟨x, S, rfl, hS, hok, hz, hb, h⟩ := h
  refine ⟨_, (pss_cons (ps_expr (pe_hm (ok_Desk_need_thing (K := K) T) (own_Desk T) (hr.mono (by decide)) (passes_call (takes_of rfl rfl rfl rfl) fun _ _ _ _ h => h) (pv 0) (pa_cons (pv 1) pa_nil)))
    (pss_cons (ps_set (i := 2) sc_Desk_drop.nd rfl (.inl rfl) (pe_callTy call_dictD (by rfl) (b_dict T) bb_dict (pa_cons (pe_fldK K (pv 0)) pa_nil)))
    (pss_cons (ps_expr (pe_dpop1 (pv 2) (pv 1) ⟨rfl, rfl, rfl, rfl⟩))
    (pss_cons (ps_expr (pe_hm (ok_Desk_need_kept (K := K) T) (own_Desk T) (hr.mono (by decide)) (passes_call (takes_of rfl rfl rfl rfl) fun _ _ _ _ h => h) (pv 0) (pa_cons (pv 2) (pa_cons (pe_fldK K (pv 0)) pa_nil))))
    (pss_one (ps_expr (pe_hm (ok_Desk_settle (K := K) T) (own_Desk T) (hr.mono (by decide)) passL (pv 0) (pa_cons (pv 2) (pa_cons (pe_fldK K (pv 0)) pa_nil))))))))), ?_⟩
  obtain ⟨dx, d, g, r, hx, _, _, _⟩ := id hS
  rcases h with ⟨hn, qe⟩ | ⟨nm, rfl, hnm, hok2, D⟩
  · exact ⟨_, rfl, x, dx, _, rfl, hx, lk_Desk_no _ _ _ _ (by decide +kernel), _, rfl, _, _, rfl, x, S, rfl, hS, hb, fun z => by (rw [hn] at z; cases z), fun _ => qe⟩
  · refine ⟨_, rfl, x, dx, _, rfl, hx, lk_Desk_no _ _ _ _ (by decide +kernel), _, rfl, _, _, rfl, x, S, rfl, hS, hb, fun _ H1 e1 => ?_, fun z => by (rw [show knows S.things (.str nm) = (S.things.lookup nm).isSome from rfl, hnm] at z; cases z)⟩
    obtain ⟨dx1, d1, g1, r1, hx1, ⟨kvs, hd, hR⟩, _, _⟩ := id (hS.same e1)
    refine ⟨_, rfl, at_Dk_things T hx1 ⟨d1, kvs, rfl, .inl hd, fun l hl => ?_⟩⟩
    rcases hR.get nm with ⟨h1, h2⟩ | ⟨p, th, h1, h2, h3⟩
    · rw [h1] at hnm; cases hnm
    refine ⟨_, rfl, l, rfl, .inl ⟨_, .inl upd_same⟩, _, rfl, kvs, .inr nm, .ref p, upd_same, rfl, h2, ?_⟩
    have e3 := e1.trans (dict_same (o := .dK kvs) (u := .dK (dropK kvs (Sum.inr nm))) hl)
    obtain ⟨dx3, d3, g3, r3, hx3, hd3, hg3, hp3⟩ := id (hS.same e3)
    have hl3 : ThsAt K (upd (upd H1 l (.dK kvs)) l (.dK (dropK kvs (Sum.inr nm)))) l (dropT S.things nm) := ⟨_, upd_same, (hR.same (dict_same hl)).drop⟩
    refine ⟨_, rfl, x, dx3, _, rfl, hx3, lk_Desk_no _ _ _ _ (by decide +kernel), _, rfl, _, rfl, at_Dk_given T hx3 ⟨_, _, _, rfl, x, S, l, _, g3, S.given, rfl, rfl, rfl, hS.same e3, hl3, hok2, hg3, fun hbk H4 e4 => ?_, fun pr hbk p2 dd H4 e4 h1 h3 h4 => D.no pr hbk p2 dd H4 (e3.trans e4) (e3.free h1) h3 h4⟩⟩
    obtain ⟨dx4, d4, g4, r4, hx4, hd4, hg4, hp4⟩ := id ((hS.same e3).same e4)
    exact ⟨_, rfl, x, dx4, _, rfl, hx4, lk_Desk_no _ _ _ _ (by decide +kernel), _, rfl, _, rfl, at_Dk_given T hx4 ⟨_, _, _, rfl, x, S, l, _, g4, S.given, rfl, rfl, rfl, (hS.same e3).same e4, hz, hl3.same e4, hg4, fun H5 s5 hD5 => D.ok hbk H5 ((e3.trans e4).sx.trans s5) hD5⟩⟩
/-! ### rename -/
/-- the first of the names whose thing has other bits -/
def uneq (ts : Ths) (n : Nat) : List Str → Option Nat
  | [] => none
  | nm :: ns => match ts.lookup nm with
    | some th => if th.bits = n then uneq ts n ns else some th.bits
    | none => uneq ts n ns
/-- no square map -/
def NoSquare (K : PySem.W.Frag) (H : Hp) (c : V) : Prop := (∃ t, TyX K H c t ∧ PySem.W.kitOne K t (.ref (cMap K)) = some false) ∨ ∃ p m cs, c = .ref p ∧ MapAt K H p m cs ∧ cs.length ≠ m
abbrev sp_rename (K : PySem.W.Frag) : L2.Sp := S2 fun a b H Q E => ∃ x S, a = .ref x ∧ DeskAt K H x S ∧ ThsOk S.things ∧ S.past.length ≤ 500 ∧
  ((NoSquare K H b ∧ ∀ dd H', Same H H' → H dd = none → H' dd = some (.xd [("value", b)]) → E (.ref (cBadValue K)) (some dd) H') ∨
   ∃ p2 cs ns, b = .ref p2 ∧ MapAt K H p2 cs.length cs ∧ cs.length ≤ 9 ∧ Lt cs.length cs ∧ ns.Perm (S.things.map (·.1)) ∧ sortedS ns = true ∧
    (∀ k, uneq S.things cs.length ns = some k → ∀ dd H', Same H H' → H dd = none → H' dd = some (.xd [("other", nV cs.length), ("one", nV k)]) → E (.ref (cUnequal K)) (some dd) H') ∧
    (uneq S.things cs.length ns = none → ∀ dd H' r ks, KerOf cs (r :: ks) → Same H H' → H dd = none → H' dd = some (.xd [("word", nV r)]) → E (.ref (cNotOneToOne K)) (some dd) H') ∧
    (uneq S.things cs.length ns = none → rk cs = cs.length → ThsOk (movedT cs S.things) ∧ DeedEnd K H x S (movedT cs S.things) S.given Q E))
theorem uneq_cons {ts : Ths} {n : Nat} {nm : Str} {ns : List Str} {th : Thing} (h : ts.lookup nm = some th) : uneq ts n (nm :: ns) = if th.bits = n then uneq ts n ns else some th.bits := by
  show (match ts.lookup nm with
    | some th => if th.bits = n then uneq ts n ns else some th.bits
    | none => uneq ts n ns) = _
  rw [h]
theorem uneq_all {ts : Ths} {n : Nat} : ∀ {ns : List Str}, uneq ts n ns = none → ∀ nm ∈ ns, ∀ th, ts.lookup nm = some th → th.bits = n
  | nm :: ns, h, y, hy, th, hl => by
    cases hnm : ts.lookup nm with
    | none =>
      unfold uneq at h
      rw [hnm] at h
      rcases List.mem_cons.mp hy with e | hy
      · rw [e, hnm] at hl; cases hl
      · exact uneq_all h y hy th hl
    | some t =>
      rw [uneq_cons hnm] at h
      by_cases e : t.bits = n
      · rw [if_pos e] at h
        rcases List.mem_cons.mp hy with e2 | hy
        · rw [e2, hnm] at hl; rw [← Option.some.inj hl]; exact e
        · exact uneq_all h y hy th hl
      · rw [if_neg e] at h; cases h
theorem lookup_nd : ∀ {ts : Ths} {t : Str × Thing}, (ts.map (·.1)).Nodup → t ∈ ts → ts.lookup t.1 = some t.2
  | y :: ts, t, hn, hm => by
    rw [List.map_cons, List.nodup_cons] at hn
    rcases List.mem_cons.mp hm with e | hm
    · rw [e, List.lookup_cons, beq_self_eq_true]
    · have : (t.1 == y.1) = false := beq_eq_false_iff_ne.mpr fun z => hn.1 (by rw [← z]; exact List.mem_map.mpr ⟨t, hm, rfl⟩)
      rw [List.lookup_cons, this]
      exact lookup_nd hn.2 hm
theorem movedT_take {cs : List Nat} {ts : Ths} {i : Nat} {t : Str × Thing} (hn : (ts.map (·.1)).Nodup) (h : ts[i]? = some t) : putT (movedT cs (ts.take i)) t.1 (t.2.moved cs) = movedT cs (ts.take (i + 1)) := by
  unfold putT
  have hno : ((movedT cs (ts.take i)).any fun u => decide (u.1 = t.1)) = false := by
    rw [List.any_eq_false]
    intro u hu
    obtain ⟨v, hv, rfl⟩ := List.mem_map.mp hu
    have hd := hn
    obtain ⟨hi, he⟩ := List.getElem?_eq_some_iff.mp h
    have hs : ts = ts.take i ++ t :: ts.drop (i + 1) := (List.take_append_drop i ts).symm.trans (by rw [List.drop_eq_getElem_cons hi, he])
    rw [hs, List.map_append, List.map_cons] at hd
    have := (List.nodup_append.mp hd).2.2
    simp only [decide_eq_true_eq]
    intro z
    exact this v.1 (List.mem_map.mpr ⟨v, hv, rfl⟩) t.1 List.mem_cons_self z
  rw [hno, if_neg Bool.false_ne_true]
  exact (take_map (f := fun u : Str × Thing => (u.1, u.2.moved cs)) h).symm
theorem ok_Desk_rename (T : Tx P K mg) : HasM P w K mg base 13 "Desk" "rename" ["self", "change"] (sp_rename K) := by
  refine ⟨m_Desk_rename T, ok2 (F_Desk_rename T) sc_Desk_rename fun cdv A outer s H a b Q E hr h => ?_⟩
  obtain ⟨x, S, rfl, hS, hok, hz, h⟩ := h
  refine ⟨_, (pss_cons (ps_if (PW.pt (pw_or (pt_not (pt_val (pe_callB call_isi (by rfl) (b_isinstance T) bb_isinstance (pa_cons (pv 1) (pa_cons (pe_glob (v := .ref (He.ga K "Map")) (by rfl) (g_Map T) rfl) pa_nil))))) (pw_or1 (pt_cmpR op_neM (pe_fldK K (pv 1)) (pe_fldK K (pv 1)) (nomark _))))) (pss_one (rz_BadValue T hr (takes_of rfl rfl rfl rfl) (pa_cons (pv 1) pa_nil))) pss_nil)
    (pss_cons (ps_for (passes_of rfl) rfl (pi_seq (pe_hm0 (ok_Desk_names (K := K) T) (own_Desk T) (hr.mono (by decide)) passL (pv 0))) (pg_name (i := 2) sc_Desk_rename.nd rfl (.inl rfl)) (pss_cons (ps_set (i := 3) sc_Desk_rename.nd rfl (.inl rfl) (pe_h (ok_bits_of (K := K) T) (hr.mono (by decide)) passL (pa_cons (pe_dget (hu_of hr) (pe_fldK K (pv 0)) (pv 2) (fun _ _ => rfl)) pa_nil)))
    (pss_one (ps_if (pt_cmpR op_neM (pv 3) (pe_fldK K (pv 1)) (nomark _)) (pss_one (rz_Unequal T hr (takes_of rfl rfl rfl rfl) (pa_cons (pv 3) (pa_cons (pe_fldK K (pv 1)) pa_nil)))) pss_nil))))
    (pss_cons (ps_expr (pe_h (ok_need_one_to_one (K := K) T) (hr.mono (by decide)) (passes_call (takes_of rfl rfl rfl rfl) fun _ _ _ _ h => h) (pa_cons (pv 1) pa_nil)))
    (pss_cons (ps_set (i := 4) sc_Desk_rename.nd rfl (.inl rfl) pe_dnewK)
    (pss_cons (ps_lock (ps_for (passes_of rfl) rfl (pi_keys (pe_fldK K (pv 0))) (pg_name (i := 2) sc_Desk_rename.nd rfl (.inl rfl)) (pss_one (ps_dput (hu_of hr) (pv 4) (pv 2) (pe_h (ok_renamed_thing (K := K) T) (hr.mono (by decide)) passL (pa_cons (pe_dget (hu_of hr) (pe_fldK K (pv 0)) (pv 2) (fun _ _ => rfl)) (pa_cons (pv 1) pa_nil))) rfl))))
    (pss_cons (ps_expr (pe_hm (ok_Desk_need_kept (K := K) T) (own_Desk T) (hr.mono (by decide)) (passes_call (takes_of rfl rfl rfl rfl) fun _ _ _ _ h => h) (pv 0) (pa_cons (pv 4) (pa_cons (pe_fldK K (pv 0)) pa_nil))))
    (pss_one (ps_expr (pe_hm (ok_Desk_settle (K := K) T) (own_Desk T) (hr.mono (by decide)) passL (pv 0) (pa_cons (pv 4) (pa_cons (pe_fldK K (pv 0)) pa_nil))))))))))), ?_⟩
  rcases h with ⟨(⟨t, ht, hk⟩ | ⟨p, m, cs, rfl, hm, hne⟩), qe⟩ | ⟨p2, cs, ns, rfl, hm, h9, ltc, hperm, hsort, qu, qo, qd⟩
  · exact ⟨_, rfl, _, _, _, _, _, rfl, .own _, ht, hk, _, rfl, iteT (iteT ⟨_, rfl, rz1_rd fun dd hdd => qe dd _ (Same.new hdd) hdd upd_same⟩)⟩
  · refine ⟨_, rfl, _, _, _, _, _, rfl, .own _, ty_Map T hm, kit_Map_Map T, _, rfl, iteF ⟨_, rfl, at_Map_source T hm ⟨_, rfl, at_Map_goal T hm ⟨_, _, rfl, rfl, _, rfl, ?_⟩⟩⟩⟩
    rw [decide_eq_false hne]
    exact iteT ⟨_, rfl, rz1_rd fun dd hdd => qe dd _ (Same.new hdd) hdd upd_same⟩
  refine ⟨_, rfl, _, _, _, _, _, rfl, .own _, ty_Map T hm, kit_Map_Map T, _, rfl, iteF ⟨_, rfl, at_Map_source T hm ⟨_, rfl, at_Map_goal T hm ⟨_, _, rfl, rfl, _, rfl, iteNS rfl ?_⟩⟩⟩⟩
  obtain ⟨dx, d, g, r, hx, _, _, _⟩ := id hS
  refine ⟨_, rfl, x, dx, _, rfl, hx, lk_Desk_no _ _ _ _ (by decide +kernel), _, rfl, x, S, rfl, hS, hok.len, fun q1 H1 ns2 e1 hq1 ht1 hp2 hs2 => ?_⟩
  obtain rfl : ns2 = ns := sortedS_unique (hp2.trans hperm.symm) hs2 hsort
  refine ⟨q1, rfl, for_sq (k := false) (xs := ns2.map V.str) (Pv := fun i σ H' => Same H1 H' ∧ uneq S.things cs.length ns2 = uneq S.things cs.length (ns2.drop i) ∧ ∃ y z u, σ = [some (.ref x), some (.ref p2), y, z, u]) ⟨Same.refl _, rfl, none, none, none, rfl⟩ (fun i σ H' h => SqT.of (h.1 _ _ ht1)) (fun i v σ H' hv h => ?_) (fun σ H' h => ?_)⟩
  · obtain ⟨e, hu, y, z, u, rfl⟩ := h
    rw [List.getElem?_map] at hv
    cases hnm : ns2[i]? with
    | none => rw [hnm] at hv; cases hv
    | some nm =>
      rw [hnm] at hv
      obtain rfl : V.str nm = v := Option.some.inj hv
      have hdr : ns2.drop i = nm :: ns2.drop (i + 1) := by
        obtain ⟨h1, h2⟩ := List.getElem?_eq_some_iff.mp hnm
        rw [List.drop_eq_getElem_cons h1, h2]
      have e' := e1.trans e
      obtain ⟨dx3, d3, g3, r3, hx3, ⟨kvs, hd3, hR⟩, _, _⟩ := id (hS.same e')
      have hmem : nm ∈ S.things.map (·.1) := hp2.mem_iff.mp (List.mem_of_getElem? hnm)
      obtain ⟨t, htm, hte⟩ := List.mem_map.mp hmem
      have hlk : S.things.lookup nm = some t.2 := by rw [← hte]; exact lookup_nd hok.nd htm
      rcases hR.get nm with ⟨h1, h2⟩ | ⟨p, th, h1, h2, h3⟩
      · rw [h1] at hlk; cases hlk
      refine ⟨_, rfl, at_Dk_things T hx3 ⟨_, rfl, d3, .ref p, rfl, .inl ⟨kvs, .inr nm, .inl hd3, rfl, h2.symm⟩, _, rfl, p, th, rfl, h3, hok.wf _ _ h1, fun H4 e4 => ?_⟩⟩
      refine ⟨_, rfl, _, rfl, at_Map_source T ((hm.same e').same e4) ⟨_, _, rfl, rfl, _, rfl, ?_⟩⟩
      rw [hdr, uneq_cons h1] at hu
      by_cases hb : th.bits = cs.length
      · rw [decide_eq_true hb]
        rw [if_pos hb] at hu
        exact iteF ⟨e.trans e4, hu, _, _, _, rfl⟩
      · rw [decide_eq_false hb]
        rw [if_neg hb] at hu
        exact iteT ⟨_, rfl, _, rfl, at_Map_source T ((hm.same e').same e4) (rz2_rd fun dd hdd => qu _ hu dd _ ((e'.trans e4).new' hdd) ((e'.trans e4).free hdd) upd_same)⟩
  · obtain ⟨e, hu, y, z, u, rfl⟩ := h
    rw [List.length_map, List.drop_length] at hu
    have hu : uneq S.things cs.length ns2 = none := hu
    have e' := e1.trans e
    refine ⟨_, rfl, _, rfl, p2, _, cs, rfl, hm.same e', by omega, ltc.le (by omega), fun hrk H2 e2 => ?_, fun dd H2 r1 ks hK e2 h1 h2 => qo hu dd H2 r1 ks hK (e'.trans e2) (e'.free h1) h2⟩
    obtain ⟨hok2, D⟩ := qd hu hrk
    have e2 := e'.trans e2
    obtain ⟨dx2, d2, g2, r2, hx2, ⟨kvs, hd2, hR⟩, _, _⟩ := id (hS.same e2)
    refine fun l hl => ?_
    have hd2l : upd H2 l (.dK []) d2 = some (.dK kvs) := by rw [upd_ne (ne_of_none hd2 hl)]; exact hd2
    refine ⟨d2, _, hd2l, trivial, fun od => ?_⟩
    have hxf : upd (upd H2 l (.dK [])) d2 (.frz od (.dK kvs)) x = some (.ins (cDesk K) dx2 (fDesk (.ref d2) (.ref g2) (.ref r2) (nV 0))) := by
      rw [upd_ne (fun z => by rw [z, hd2] at hx2; cases hx2), upd_ne (ne_of_none hx2 hl)]
      exact hx2
    have hld : l ≠ d2 := fun z => by rw [z, hd2] at hl; cases hl
    -- what stands besides l and d2 stays
    have keepAll : ∀ {H'}, Sx [l] (upd (upd H2 l (.dK [])) d2 (.frz od (.dK kvs))) H' → Same H2 (upd H' d2 (.dK kvs)) := fun {H'} s b o hb => by
      by_cases z : b = d2
      · rw [z, upd_same]; rw [z, hd2] at hb; exact hb
      · have hbl := ne_of_none hb hl
        rw [upd_ne z]
        exact s b o (fun q => hbl (List.mem_singleton.mp q)) (by rw [upd_ne z, upd_ne hbl]; exact hb)
    have things_stay : ∀ {H'}, Sx [l] (upd (upd H2 l (.dK [])) d2 (.frz od (.dK kvs))) H' → Stay H2 H' := fun {H'} s b o hb h1 h2 =>
      s b o (fun z => by rw [List.mem_singleton.mp z, hl] at hb; cases hb) (by rw [upd_ne (fun z => by rw [z, hd2] at hb; exact h1 _ (Option.some.inj hb).symm), upd_ne (ne_of_none hb hl)]; exact hb)
    have m2 := hm.same e2
    refine ⟨_, rfl, at_Dk_things T hxf ⟨d2, od, rfl, .inl ⟨kvs, upd_same, ?_⟩⟩⟩
    refine for_it (walk_keys (d := d2) (o := od) (kvs := kvs)) (Pv := fun i σ H' => Sx [l] (upd (upd H2 l (.dK [])) d2 (.frz od (.dK kvs))) H' ∧ (∃ kvs2, H' l = some (.dK kvs2) ∧ RepP K H' kvs2 (movedT cs (S.things.take i))) ∧ ∃ y z, σ = [some (.ref x), some (.ref p2), y, z, some (.ref l)])
      ⟨Sx.refl, ⟨[], by rw [upd_ne hld]; exact upd_same, .nil⟩, _, _, rfl⟩ (fun i σ H' _ p => p.1 _ _ (fun z => hld (List.mem_singleton.mp z).symm) upd_same) (fun i v σ H3 H4 hi p y => ?_) (fun σ H3 p => ?_)
    · obtain ⟨sx, ⟨kvs2, hl2, hR2⟩, yy, zz, rfl⟩ := p
      obtain ⟨rfl, k, v2, hk, rfl⟩ := y
      obtain ⟨t, ht, hkt, p, hv2, hth⟩ : ∃ t, S.things[i]? = some t ∧ k = Sum.inr t.1 ∧ ∃ p, v2 = .ref p ∧ ThingAt K H2 p t.2 := by
        obtain ⟨t, h1, h2, p, h3, h4⟩ := paired_at hR hk
        exact ⟨t, h1, h2, p, h3, h4⟩
      subst hkt hv2
      have hval : valV kvs (Sum.inr t.1) = some (.ref p) := by
        have hlk := lookup_nd hok.nd (List.mem_of_getElem? ht)
        rcases hR.get t.1 with ⟨h1, h2⟩ | ⟨p', th', h1, h2, h3⟩
        · rw [h1] at hlk; cases hlk
        · have hnd : (kvs.map (·.1)).Nodup := by
            have : kvs.map (·.1) = (S.things.map (·.1)).map Sum.inr := RepP.keysI hR
            rw [this]
            exact List.Pairwise.map _ (fun a b hab z => hab (by injection z)) hok.nd
          exact valV_mem hnd (List.mem_of_getElem? hk)
      have hdk : H4 d2 = some (.frz od (.dK kvs)) := sx _ _ (fun z => hld (List.mem_singleton.mp z).symm) upd_same
      have hx4 : H4 x = some (.ins (cDesk K) dx2 (fDesk (.ref d2) (.ref g2) (.ref r2) (nV 0))) := sx _ _ (fun z => by rw [List.mem_singleton.mp z, hl] at hx2; cases hx2) hxf
      have hth4 := hth.stay (things_stay sx)
      have hwf := hok.wf _ _ (lookup_nd hok.nd (List.mem_of_getElem? ht))
      have hbits : t.2.bits = cs.length := uneq_all hu t.1 (hp2.symm.mem_iff.mp (List.mem_map.mpr ⟨t, List.mem_of_getElem? ht, rfl⟩)) _ (lookup_nd hok.nd (List.mem_of_getElem? ht))
      have hm4 : MapAt K H4 p2 cs.length cs := m2.stay (things_stay sx)
      refine ⟨_, rfl, at_Dk_things T hx4 ⟨_, rfl, d2, .ref p, rfl, .inl ⟨kvs, .inr t.1, .inr ⟨od, hdk⟩, rfl, hval.symm⟩, _, rfl, _, _, rfl, p, p2, t.2, cs, rfl, rfl, hth4, hwf, hm4, hbits.symm, ltc, hrk, fun r5 H5 e5 hr5 hth5 => ?_⟩⟩
      have hl5 := e5 _ _ hl2
      have hlen : kvs2.length < sizeLine := small1000 (by rw [Paired.length hR2]; unfold movedT; rw [List.length_map]; exact Nat.le_trans (List.length_take_le' _ _) (Nat.le_trans hok.len (by decide)))
      refine ⟨_, rfl, _, rfl, l, _, rfl, DPut.k (k := Sum.inr t.1) hl5 hlen, ?_⟩
      have sxl : Sx [l] H5 (upd H5 l (.dK (putK kvs2 (Sum.inr t.1) (.ref r5)))) := Sx.refl.upd me
      refine ⟨(sx.then e5).upd me, ⟨_, upd_same, ?_⟩, _, _, rfl⟩
      have hnew : RepP K H5 (putK kvs2 (Sum.inr t.1) (.ref r5)) (movedT cs (S.things.take (i + 1))) := by
        rw [← movedT_take hok.nd ht]
        exact (hR2.same e5).put hth5
      exact RepP.stay hnew (fun b o hb h1 h2 => sxl b o (fun z => by rw [List.mem_singleton.mp z, hl5] at hb; exact h1 _ (Option.some.inj hb).symm) hb)
    · obtain ⟨sx, ⟨kvs2, hl2, hR2⟩, yy, zz, rfl⟩ := p
      rw [Paired.length hR, List.take_length] at hR2
      refine ⟨sx _ _ (fun z => hld (List.mem_singleton.mp z).symm) upd_same, ?_⟩
      have e6 := e2.trans (keepAll sx)
      have hdk : H3 d2 = some (.frz od (.dK kvs)) := sx _ _ (fun z => hld (List.mem_singleton.mp z).symm) upd_same
      have hl6 : ThsAt K (upd H3 d2 (.dK kvs)) l (movedT cs S.things) := ⟨kvs2, by rw [upd_ne hld]; exact hl2, RepP.stay hR2 (fun b o hb h1 h2 => by rw [upd_ne (fun z => by rw [z, hdk] at hb; exact h2 _ _ (Option.some.inj hb).symm)]; exact hb)⟩
      obtain ⟨dx3, d3, g3, r3, hx3, hd3, hg3, hp3⟩ := id (hS.same e6)
      refine ⟨_, rfl, x, dx3, _, rfl, hx3, lk_Desk_no _ _ _ _ (by decide +kernel), _, rfl, _, rfl, at_Dk_given T hx3 ⟨_, _, _, rfl, x, S, l, _, g3, S.given, rfl, rfl, rfl, hS.same e6, hl6, hok2, hg3, fun hbk H4 e4 => ?_, fun pr hbk p2 dd H4 e4 h1 h3 h4 => D.no pr hbk p2 dd H4 (e6.trans e4) (e6.free h1) h3 h4⟩⟩
      obtain ⟨dx4, d4, g4, r4, hx4, hd4, hg4, hp4⟩ := id ((hS.same e6).same e4)
      exact ⟨_, rfl, x, dx4, _, rfl, hx4, lk_Desk_no _ _ _ _ (by decide +kernel), _, rfl, _, rfl, at_Dk_given T hx4 ⟨_, _, _, rfl, x, S, l, _, g4, S.given, rfl, rfl, rfl, (hS.same e6).same e4, hz, hl6.same e4, hg4, fun H5 s5 hD5 => D.ok hbk H5 ((e6.trans e4).sx.trans s5) hD5⟩⟩
end
end L2.Lk
/-! P9 -/
set_option Elab.async false
set_option linter.all false
set_option maxRecDepth 100000
set_option maxHeartbeats 2000000
namespace L2.Lk
open PySem PySem.Spec PyProof.Rows
section
variable {P : Program} {w : World} {K : PySem.W.Frag} {mg : Str → Option Value} {base : Heap}
def GivOk (gs : List Prm) : Prop := (∀ p ∈ gs, PrmOk p) ∧ gs.length ≤ 60
theorem PrmAt.dp {H : Hp} {p : Addr} {pr : Prm} (h : PrmAt H p pr) : Dp K H (.ref p) (pd pr) := .tup (SqT.of h.1) (dp_fd h.2.flat)
theorem PrmOk.shaped {pr : Prm} (h : PrmOk pr) : SeqAt.shaped (pd pr) = true := shaped_fd h.flat
theorem giv_dps {H : Hp} : ∀ {ps : List Addr} {gs : List Prm}, Paired (fun p pr => H p = some (.tup (Prm.vs pr))) ps gs → (∀ p ∈ gs, PrmOk p) → DpAll K H (ps.map V.ref) (gs.map pd)
  | [], [], _, _ => .nil
  | p :: ps, g :: gs, .cons h r, ok => .cons (PrmAt.dp ⟨h, ok g List.mem_cons_self⟩) (giv_dps r fun q hq => ok q (List.mem_cons_of_mem _ hq))
theorem GivAt.dp {H : Hp} {g : Addr} {gs : List Prm} (h : GivAt H g gs) (ok : GivOk gs) : Dp K H (.ref g) (.tuple (gs.map pd)) := by
  obtain ⟨ps, h1, h2⟩ := h
  exact .tup (SqT.of h1) (giv_dps h2 ok.1)
theorem pd_lay : ∀ {gs : List Prm}, (∀ p ∈ gs, PrmOk p) → PyData.canLayAll0 (gs.map pd) = true
  | [], _ => rfl
  | g :: gs, h => by
    have h1 := (h g List.mem_cons_self).shaped
    unfold SeqAt.shaped at h1
    rw [Bool.and_eq_true] at h1
    rw [List.map_cons]
    simp [PyData.canLayAll0, h1.1, pd_lay fun p hp => h p (List.mem_cons_of_mem _ hp)]
theorem pd_deep : ∀ {gs : List Prm}, PyData.depthAll (gs.map pd) ≤ 3
  | [] => by simp [PyData.depthAll]
  | g :: gs => by
    rw [List.map_cons]
    have := @pd_deep gs
    cases g <;> simp [PyData.depthAll, PyData.depth, pd, fd, Prm.vs, dF] <;> omega
theorem shaped_giv {gs : List Prm} (ok : GivOk gs) : SeqAt.shaped (.tuple (gs.map pd)) = true := by
  unfold SeqAt.shaped
  rw [Bool.and_eq_true]
  have := @pd_deep gs
  refine ⟨?_, decide_eq_true (by simp only [PyData.depth]; omega)⟩
  have hl := pd_lay ok.1
  have hz : gs.length ≤ sizeLine := Nat.le_trans ok.2 (by decide)
  simp [PyData.canLay0, hl, hz]
theorem any_pd {gs : List Prm} {pr : Prm} : (gs.map pd).any (fun z => PyData.eqv z (pd pr)) = decide (pr ∈ gs) := by
  rw [List.any_map]
  by_cases h : pr ∈ gs
  · rw [decide_eq_true h, List.any_eq_true]
    exact ⟨pr, h, by show PyData.eqv (pd pr) (pd pr) = true; rw [pd_eqv]; exact decide_eq_true rfl⟩
  · rw [decide_eq_false h, List.any_eq_false]
    intro x hx
    show ¬ PyData.eqv (pd x) (pd pr) = true
    rw [pd_eqv, decide_eq_true_eq]
    intro z
    exact h (z ▸ hx)
theorem cat_giv {H : Hp} {g p t : Addr} {gs : List Prm} {pr : Prm} (hg : GivAt H g gs) (hp : H p = some (.tup pr.vs)) (ht : H t = none) (hz : gs.length ≤ 60) {Q : VK} (q : ∀ c H', Same H H' → GivAt H' c (gs ++ [pr]) → Q (.ref c) H') :
    rCatA K (.ref g) (.ref t) (upd H t (.tup [.ref p])) Q := by
  have e2 := Same.new (o := .tup [.ref p]) ht
  obtain ⟨ps, h1, h2⟩ := hg
  have hl : ps.length ≤ 60 := by rw [Paired.length h2]; exact hz
  have hh : ∀ H3, Same H H3 → Paired (fun p (e : Prm) => H3 p = some (.tup e.vs)) (ps ++ [p]) (gs ++ [pr]) := fun H3 e3 => Paired.snoc (Paired.mapP h2 fun _ _ z => e3 _ _ z) (e3 _ _ hp)
  refine ⟨g, t, ps.map V.ref, [.ref p], rfl, rfl, SqT.of (e2 _ _ h1), SqT.of upd_same, by simp only [List.length_map, List.length_cons, List.length_nil]; exact Nat.le_of_lt (small1000 (by omega)), fun hn => ?_, fun _ z => (by cases z), fun hn _ t3 h3 => ?_⟩
  · have hpn : ps = [] := by cases ps with
      | nil => rfl
      | cons _ _ => cases hn
    have hp2 := hh _ e2
    rw [hpn] at hp2
    exact q t _ e2 ⟨[p], upd_same, hp2⟩
  · have e3 := e2.trans (Same.new (o := .tup (ps.map V.ref ++ [.ref p])) h3)
    exact q t3 _ e3 ⟨ps ++ [p], by rw [upd_same, List.map_append]; rfl, hh _ e3⟩
abbrev sp_keep (K : PySem.W.Frag) : L2.Sp := S2 fun a b H Q E => ∃ x S, a = .ref x ∧ DeskAt K H x S ∧ ThsOk S.things ∧ GivOk S.given ∧ S.past.length ≤ 500 ∧
  ((AskV K H b false ∧ ∀ dd H', Same H H' → H dd = none → H' dd = some (.xd [("promise", b)]) → E (.ref (cBadPromise K)) (some dd) H') ∨
   ∃ p pr, b = .ref p ∧ PrmAt H p pr ∧ (pr ∈ S.given → ∀ H', Same H H' → Q .non H') ∧ (pr ∉ S.given → DeedEnd K H x S S.things (S.given ++ [pr]) Q E))
theorem ok_Desk_keep (T : Tx P K mg) : HasM P w K mg base 13 "Desk" "keep" ["self", "promise"] (sp_keep K) := by
  refine ⟨m_Desk_keep T, ok2 (F_Desk_keep T) sc_Desk_keep fun cdv A outer s H a b Q E hr h => ?_⟩
  obtain ⟨x, S, rfl, hS, hok, hgk, hz, h⟩ := h
  refine ⟨_, (pss_cons (ps_expr (pe_h (ok_need_promise (K := K) T) (hr.mono (by decide)) (passes_call (takes_of rfl rfl rfl rfl) fun _ _ _ _ h => h) (pa_cons (pv 1) pa_nil)))
    (pss_cons (ps_if (pt_cmpR (op_inDT (u65 hr)) (pv 1) (pe_fldK K (pv 0)) (by rfl)) (pss_one ps_retN) pss_nil)
    (pss_cons (ps_expr (pe_hm (ok_Desk_need_kept (K := K) T) (own_Desk T) (hr.mono (by decide)) (passes_call (takes_of rfl rfl rfl rfl) fun _ _ _ _ h => h) (pv 0) (pa_cons (pe_fldK K (pv 0)) (pa_cons (pe_op op_catA (pe_fldK K (pv 0)) (pe_tup (pa_cons (pv 1) pa_nil))) pa_nil))))
    (pss_one (ps_expr (pe_hm (ok_Desk_settle (K := K) T) (own_Desk T) (hr.mono (by decide)) passL (pv 0) (pa_cons (pe_fldK K (pv 0)) (pa_cons (pe_op op_catA (pe_fldK K (pv 0)) (pe_tup (pa_cons (pv 1) pa_nil))) pa_nil)))))))), ?_⟩
  rcases h with ⟨hb, qe⟩ | ⟨p, pr, rfl, hp, qin, qout⟩
  · exact ⟨_, rfl, _, rfl, false, hb, fun z => (by cases z), fun _ => qe⟩
  · refine ⟨_, rfl, _, rfl, true, hp.ask, fun _ H1 e1 => ?_, fun z => by cases z⟩
    obtain ⟨dx, d, g, r, hx, hd, hg, _⟩ := id (hS.same e1)
    refine ⟨_, rfl, _, rfl, at_Dk_given T hx ⟨_, _, (hp.same e1).dp, hg.dp hgk, hp.2.shaped, shaped_giv hgk, ?_⟩⟩
    rw [if_neg Bool.false_ne_true, any_pd]
    by_cases hin : pr ∈ S.given
    · rw [decide_eq_true hin]
      exact ⟨_, rfl, iteT (qin hin _ e1)⟩
    rw [decide_eq_false hin]
    have D := qout hin
    refine ⟨_, rfl, iteF ⟨_, rfl, x, dx, _, rfl, hx, lk_Desk_no _ _ _ _ (by decide +kernel), _, rfl, at_Dk_things T hx ⟨_, rfl, at_Dk_given T hx ⟨_, rfl, by show 1 ≤ sizeLine; decide, fun t2 h2 => cat_giv hg (hp.same e1).1 h2 hgk.2 fun c H2 e2 hc => ?_⟩⟩⟩⟩
    have e12 := e1.trans e2
    refine ⟨_, _, _, rfl, x, S, d, _, c, S.given ++ [pr], rfl, rfl, rfl, hS.same e12, hd.same e2, hok, hc, fun hbk H4 e4 => ?_, fun pr2 hbk p2 dd H4 e4 h1 h3 h4 => D.no pr2 hbk p2 dd H4 (e12.trans e4) (e12.free h1) h3 h4⟩
    have e14 := e12.trans e4
    obtain ⟨dx4, d4, g4, r4, hx4, hd4, hg4, _⟩ := id (hS.same e14)
    exact ⟨_, rfl, x, dx4, _, rfl, hx4, lk_Desk_no _ _ _ _ (by decide +kernel), _, rfl, at_Dk_things T hx4 ⟨_, rfl, at_Dk_given T hx4 ⟨_, rfl, by show 1 ≤ sizeLine; decide, fun t5 h5 => cat_giv hg4 (hp.same e14).1 h5 hgk.2 fun c5 H5 e5 hc5 => ⟨_, _, _, rfl, x, S, d4, S.things, c5, _, rfl, rfl, rfl, hS.same (e14.trans e5), hz, hd4.same e5, hc5, fun H6 s6 hD6 => D.ok hbk H6 ((e14.trans e5).sx.trans s6) hD6⟩⟩⟩⟩
open Classical in
/-- what release keeps of the promises that are told -/
noncomputable def phiR (H : Hp) (pr : Prm) : V → Option V
  | .ref a => if H a = some (.tup pr.vs) then none else some (.ref a)
  | _ => none
theorem vs_inj {p q : Prm} (h : p.vs = q.vs) : p = q := by
  have := pd_eqv p q
  rw [show pd p = pd q from by unfold pd; rw [h]] at this
  have h2 := pd_eqv q q
  rw [this] at h2
  simpa using h2
theorem phiR_no {H : Hp} {pr : Prm} {a : Addr} (h : H a = some (.tup pr.vs)) : phiR H pr (.ref a) = none := if_pos h
theorem phiR_yes {H : Hp} {pr q : Prm} {a : Addr} (h : H a = some (.tup q.vs)) (n : q ≠ pr) : phiR H pr (.ref a) = some (.ref a) := by
  refine if_neg ?_
  rw [h]
  intro z
  injection z with z
  injection z with z
  exact n (vs_inj z)
theorem phiR_ps {H : Hp} {pr : Prm} : ∀ {ps : List Addr} {gs : List Prm}, Paired (fun p q => H p = some (.tup (Prm.vs q))) ps gs →
    ∃ qs : List Addr, (ps.map V.ref).filterMap (phiR H pr) = qs.map V.ref ∧ Paired (fun p q => H p = some (.tup (Prm.vs q))) qs (gs.filter fun q => decide (q ≠ pr))
  | [], [], _ => ⟨[], rfl, .nil⟩
  | p :: ps, g :: gs, .cons h r => by
    obtain ⟨qs, h1, h2⟩ := phiR_ps (pr := pr) r
    by_cases e : g = pr
    · refine ⟨qs, ?_, ?_⟩
      · rw [List.map_cons, List.filterMap_cons, phiR_no (e ▸ h)]
        exact h1
      · rw [List.filter_cons, if_neg (by simp [e])]
        exact h2
    · refine ⟨p :: qs, ?_, ?_⟩
      · rw [List.map_cons, List.filterMap_cons, phiR_yes h e, List.map_cons]
        exact congrArg _ h1
      · rw [List.filter_cons, if_pos (by simp [e])]
        exact .cons h h2
theorem phiR_giv {H H' : Hp} {pr : Prm} {ps : List Addr} {gs : List Prm} {l : Addr} (h : Paired (fun p q => H p = some (.tup (Prm.vs q))) ps gs) (hl : H' l = some (.tup ((ps.map V.ref).filterMap (phiR H pr)))) (e : Same H H') :
    GivAt H' l (gs.filter fun q => decide (q ≠ pr)) := by
  obtain ⟨qs, h1, h2⟩ := phiR_ps (pr := pr) h
  exact ⟨qs, by rw [hl, h1], Paired.mapP h2 fun _ _ z => e _ _ z⟩
abbrev sp_release (K : PySem.W.Frag) : L2.Sp := S2 fun a b H Q E => ∃ x S, a = .ref x ∧ DeskAt K H x S ∧ GivOk S.given ∧ S.past.length ≤ 500 ∧
  ((AskV K H b false ∧ ∀ dd H', Same H H' → H dd = none → H' dd = some (.xd [("promise", b)]) → E (.ref (cBadPromise K)) (some dd) H') ∨
   ∃ p pr, b = .ref p ∧ PrmAt H p pr ∧ (pr ∉ S.given → ∀ dd H', Same H H' → H dd = none → H' dd = some (.xd [("promise", .ref p)]) → E (.ref (cNotMade K)) (some dd) H') ∧
     (pr ∈ S.given → ∀ H', Sx [x] H H' → DeskAt K H' x ⟨S.things, S.given.filter (fun q => decide (q ≠ pr)), S.past ++ [(S.things, S.given)]⟩ → Q .non H'))
theorem ok_Desk_release (T : Tx P K mg) : HasM P w K mg base 13 "Desk" "release" ["self", "promise"] (sp_release K) := by
  refine ⟨m_Desk_release T, ok2 (F_Desk_release T) sc_Desk_release fun cdv A outer s H a b Q E hr h => ?_⟩
  obtain ⟨x, S, rfl, hS, hgk, hz, h⟩ := h
  refine ⟨_, (pss_cons (ps_expr (pe_h (ok_need_promise (K := K) T) (hr.mono (by decide)) (passes_call (takes_of rfl rfl rfl rfl) fun _ _ _ _ h => h) (pa_cons (pv 1) pa_nil)))
    (pss_cons (ps_if (pt_cmpR (op_notInDT (u65 hr)) (pv 1) (pe_fldK K (pv 0)) (by rfl)) (pss_one (rz_NotMade T hr (takes_of rfl rfl rfl rfl) (pa_cons (pv 1) pa_nil))) pss_nil)
    (pss_one (ps_expr (pe_hm (ok_Desk_settle (K := K) T) (own_Desk T) (hr.mono (by decide)) passL (pv 0) (pa_cons (pe_fldK K (pv 0)) (pa_cons (pe_callTy call_tuple_of (by rfl) (b_tuple T) bb_tuple (pa_cons (pe_lc (own := [("told", 2)]) (g := gName 2) rfl sc_Desk_release.nd (pi_seq (pe_fldK K (pv 0))) (blkOk_by (own := [("told", 2)]) (N := N_Desk_release) (sc := defScope st_Desk_release) (by decide +kernel)) (fun _ _ _ _ _ => pg_name (i := 2) sc_Desk_release.nd rfl (Or.inl rfl)) (fun _ _ _ _ _ => pts_one (pt_cmpR (op_neDK K hr.units) (pv 2) (pv 1) (nomark _))) (fun _ _ _ _ _ => (pv 2))) pa_nil)) pa_nil))))))), ?_⟩
  rcases h with ⟨hb, qe⟩ | ⟨p, pr, rfl, hp, qout, qin⟩
  · exact ⟨_, rfl, _, rfl, false, hb, fun z => (by cases z), fun _ => qe⟩
  · refine ⟨_, rfl, _, rfl, true, hp.ask, fun _ H1 e1 => ?_, fun z => by cases z⟩
    obtain ⟨dx, d, g, r, hx, hd, hg, _⟩ := id (hS.same e1)
    refine ⟨_, rfl, _, rfl, at_Dk_given T hx ⟨_, _, (hp.same e1).dp, hg.dp hgk, hp.2.shaped, shaped_giv hgk, ?_⟩⟩
    rw [if_pos rfl, any_pd]
    by_cases hin : pr ∈ S.given
    · rw [decide_eq_true hin]
      refine ⟨_, rfl, iteF ⟨_, rfl, x, dx, _, rfl, hx, lk_Desk_no _ _ _ _ (by decide +kernel), _, rfl, at_Dk_things T hx ?_⟩⟩
      obtain ⟨ps, hgt, hps⟩ := id hg
      have hl60 : ps.length ≤ 60 := by rw [Paired.length hps]; exact hgk.2
      refine ⟨_, rfl, at_Dk_given T hx ⟨g, rfl, lc_fm (k := false) (phiR H1 pr) (SqT.of hgt) (by rw [List.length_map]; omega) (fun i v H2 Nx No hv e2 hN hNo => ?_) (fun D H2 hDn e2 hD => ?_)⟩⟩
      · obtain ⟨p2, q, hp2, hq, rfl, hat⟩ : ∃ p2 q, ps[i]? = some p2 ∧ S.given[i]? = some q ∧ v = .ref p2 ∧ H1 p2 = some (.tup q.vs) := by
          rw [List.getElem?_map] at hv
          cases hp : ps[i]? with
          | none => rw [hp] at hv; cases hv
          | some p =>
            rw [hp] at hv
            obtain ⟨pr, h1, h2⟩ := paired_at hps hp
            exact ⟨p, pr, rfl, h1, (Option.some.inj hv).symm, h2⟩
        have hqo := hgk.1 q (List.mem_of_getElem? hq)
        refine ⟨rfl, _, rfl, _, rfl, pd q, pd pr, PrmAt.dp ⟨e2 _ _ hat, hqo⟩, ((hp.same e1).same e2).dp, hqo.shaped, hp.2.shaped, ?_⟩
        rw [pd_eqv]
        by_cases hqp : q = pr
        · rw [decide_eq_true hqp]
          exact ⟨_, rfl, hNo (phiR_no (hqp ▸ hat)) _ (Same.refl _)⟩
        · rw [decide_eq_false hqp]
          exact ⟨_, rfl, _, rfl, hN _ _ (phiR_yes hat hqp) (Same.refl _)⟩
      · refine ⟨D, _, rfl, .inl ⟨SqL.of hD, fun l hl => ?_⟩⟩
        have e3 := (e1.trans e2).new' (o := .tup ((ps.map V.ref).filterMap (phiR H1 pr))) hl
        exact ⟨_, _, _, rfl, x, S, d, S.things, l, _, rfl, rfl, rfl, hS.same e3, hz, hd.same (e2.new' hl), phiR_giv hps upd_same (e2.new' hl), fun H6 s6 hD6 => qin hin H6 (e3.sx.trans s6) hD6⟩
    rw [decide_eq_false hin]
    exact ⟨_, rfl, iteT ⟨_, rfl, rz1_rd fun dd hdd => qout hin dd _ (e1.new' hdd) (e1.free hdd) upd_same⟩⟩
theorem paired_unsnoc {α β : Type} {R : α → β → Prop} {b : β} : ∀ {as : List α} {bs : List β}, Paired R as (bs ++ [b]) → ∃ as' a, as = as' ++ [a] ∧ Paired R as' bs ∧ R a b
  | [], [], h => nomatch h
  | [], _ :: _, h => nomatch h
  | [a], [], .cons h .nil => ⟨[], a, rfl, .nil, h⟩
  | a :: as, x :: bs, .cons h r => by
    obtain ⟨as', a', e, h1, h2⟩ := paired_unsnoc r
    exact ⟨a :: as', a', by rw [e]; rfl, .cons h h1, h2⟩
theorem atI_last {α : Type} {xs : List α} {v : α} : atI (xs ++ [v]) (-1) = some v := by
  unfold atI ixN
  rw [if_neg (by decide), if_pos (by rw [List.length_append, List.length_singleton]; omega)]
  show (xs ++ [v])[((-1 : Int) + ((xs ++ [v]).length : Int)).toNat]? = some v
  rw [show ((-1 : Int) + ((xs ++ [v]).length : Int)).toNat = xs.length from by rw [List.length_append, List.length_singleton]; omega]
  simp
theorem cut_last {xs : List V} {v : V} : cutV (xs ++ [v]) none (some (-1)) = xs := by
  unfold cutV
  rw [HT.sIx_none, List.drop_zero]
  show (xs ++ [v]).take (((-1 : Int) + ((xs ++ [v]).length : Int)).toNat - 0) = xs
  rw [show ((-1 : Int) + ((xs ++ [v]).length : Int)).toNat - 0 = xs.length from by rw [List.length_append, List.length_singleton]; omega]
  simp
abbrev sp_undo (K : PySem.W.Frag) : L2.Sp := S1 fun a H Q E => ∃ x S, a = .ref x ∧ DeskAt K H x S ∧ (S.past = [] → ∀ H', Same H H' → E (.ref (cNothingToUndo K)) none H') ∧
  ∀ es e, S.past = es ++ [e] → (∀ H', Sx [x] H H' → DeskAt K H' x ⟨e.1, e.2, es⟩ → Q .non H')
theorem ok_Desk_undo (T : Tx P K mg) : HasM P w K mg base 1 "Desk" "undo" ["self"] (sp_undo K) := by
  refine ⟨m_Desk_undo T, ok1 (F_Desk_undo T) sc_Desk_undo fun cdv A outer s H a Q E hr h => ?_⟩
  obtain ⟨x, S, rfl, hS, q0, q1⟩ := h
  refine ⟨_, (pss_cons (ps_if (pt_cmpR (op_eqN hr.units0) (pe_fldK K (pv 0)) (pe_tup pa_nil) (nomark _)) (pss_one (rz_NothingToUndo T (takes_of rfl rfl rfl rfl))) pss_nil)
    (pss_cons (ps_asg (pe_ix ix_tup (pe_fldK K (pv 0)) (pe_un un_neg pe_int) (fun _ _ => rfl)) (pg_tupK (n := 2) K rfl (pgs_cons (pg_fld K (pv 0)) (pgs_cons (pg_fld K (pv 0)) pgs_nil))))
    (pss_one (ps_fld (pv 0) (pe_slice sl_tupA (pe_fldK K (pv 0)) po_none (po_some (pe_un un_neg pe_int))) rfl)))), ?_⟩
  obtain ⟨dx, d, g, r, hx, hd, hg, ps, hr', hps⟩ := id hS
  refine ⟨_, rfl, at_Dk_past T hx ⟨Nat.zero_le _, fun t ht => ⟨r, t, ps.map V.ref, rfl, rfl, SqT.of ((Same.new ht) _ _ hr'), SqT.of upd_same, _, rfl, ?_⟩⟩⟩
  have e1 := Same.new (o := .tup []) ht
  rcases List.eq_nil_or_concat S.past with hn | ⟨es, e, he⟩
  · rw [hn] at hps
    cases hps
    exact iteT (q0 hn _ e1)
  · obtain ⟨es, e, he⟩ : ∃ es e, S.past = es ++ [e] := ⟨es, e, he.trans List.concat_eq_append⟩
    rw [he] at hps
    obtain ⟨ps', pe, rfl, hps', d', g', hpe, hd', hg'⟩ := paired_unsnoc hps
    rw [List.map_append] at hr'
    have hr1 := e1 _ _ hr'
    have hx1 := e1 _ _ hx
    rw [decide_eq_false (by simp)]
    have fin : ∀ (r2 : Addr) (H2 : Hp), Sx [x] (upd H t (.tup [])) H2 → H2 x = some (.ins (cDesk K) dx (fDesk (.ref d') (.ref g') (.ref r) (nV 0))) → PastAt K H2 r2 es → Q .non (upd H2 x (.ins (cDesk K) dx (fDesk (.ref d') (.ref g') (.ref r2) (nV 0)))) := fun r2 H2 s2 hx2 hp2 => by
      have sL : Sx [x] H2 (upd H2 x (.ins (cDesk K) dx (fDesk (.ref d') (.ref g') (.ref r2) (nV 0)))) := Sx.refl.upd me
      exact q1 es e he _ ((e1.sx.trans s2).trans sL) ⟨dx, d', g', r2, upd_same, (((hd'.same e1).sx s2 hx1)).sx sL hx2, (((hg'.same e1).sx s2 hx1)).sx sL hx2, hp2.sx sL hx2⟩
    have hpast : ∀ H2, Sx [x] (upd H t (.tup [])) H2 → Paired (fun p (e : Ths × List Prm) => ∃ d g, H2 p = some (.tup [.ref d, .ref g]) ∧ ThsAt K H2 d e.1 ∧ GivAt H2 g e.2) ps' es := fun H2 s2 =>
      Paired.mapP hps' fun _ _ ⟨d, g, z1, z2, z3⟩ => ⟨d, g, tup_sx (e1 _ _ z1) s2 hx1, (z2.same e1).sx s2 hx1, (z3.same e1).sx s2 hx1⟩
    refine iteF ⟨_, rfl, at_Dk_past T hx1 ⟨1, rfl, r, _, -1, .ref pe, rfl, rfl, SqT.of hr1, atI_last, pe, _, rfl, SqT.of (e1 _ _ hpe), rfl, ?_⟩⟩
    refine ⟨_, _, rfl, _, rfl, x, _, _, _, rfl, hx1, (own_Desk T).cls, na_Desk_own_things T, desk_len _ _ _ _, _, _, rfl, _, rfl, x, _, _, _, rfl, upd_same, (own_Desk T).cls, na_Desk_own_given T, desk_len _ _ _ _, rfl, ?_⟩
    have s2 : Sx [x] (upd H t (.tup [])) (upd (upd (upd H t (.tup [])) x (.ins (cDesk K) dx (fDesk (.ref d') (.ref g) (.ref r) (nV 0)))) x (.ins (cDesk K) dx (fDesk (.ref d') (.ref g') (.ref r) (nV 0)))) := (Sx.refl.upd me).upd me
    have hr2 := tup_sx hr1 s2 hx1
    have hxy : ∀ {H2 : Hp}, Same (upd (upd (upd H t (.tup [])) x (.ins (cDesk K) dx (fDesk (.ref d') (.ref g) (.ref r) (nV 0)))) x (.ins (cDesk K) dx (fDesk (.ref d') (.ref g') (.ref r) (nV 0)))) H2 → H2 x = some (.ins (cDesk K) dx (fDesk (.ref d') (.ref g') (.ref r) (nV 0))) := fun e => e _ _ upd_same
    refine ⟨_, rfl, at_Dk_past T (hxy (Same.refl _)) ⟨1, rfl, -1, rfl, r, _, rfl, SqT.of hr2, fun hz => absurd hz.2 ?_, fun _ t2 h2 => ?_⟩⟩
    · simp [HT.sIx]
      omega
    · have e3 := Same.new (o := .tup (cutV (ps'.map V.ref ++ [V.ref pe]) none (some (-1)))) h2
      refine ⟨_, rfl, x, _, _, _, rfl, hxy e3, (own_Desk T).cls, na_Desk_own_past T, desk_len _ _ _ _, ?_⟩
      exact fin t2 _ (s2.then e3) (hxy e3) ⟨ps', by rw [upd_same]; exact congrArg (fun z => some (HO.tup z)) cut_last, hpast _ (s2.then e3)⟩
end
end L2.Lk
/-! L1 -/
set_option Elab.async false
set_option linter.all false
set_option maxRecDepth 100000
set_option maxHeartbeats 2000000
namespace L2.Lk
open PySem PySem.Spec PyProof.Rows
theorem iteD {p : Prop} [Decidable p] {A B : Prop} (h1 : p → A) (h2 : ¬ p → B) : if decide p = true then A else B := by
  by_cases h : p
  · rw [if_pos (decide_eq_true h)]; exact h1 h
  · rw [if_neg (by simp [h])]; exact h2 h
section
variable {P : Program} {w : World} {K : PySem.W.Frag} {mg : Str → Option Value} {base : Heap}
/-! ### the law's pen -/
def penK (c : Addr) (st lf : Nat) : List (Key × V) := [(Sum.inr "cells", .ref c), (Sum.inr "stop", nV st), (Sum.inr "left", nV lf)]
def PenAt (H : Hp) (pen c : Addr) (f : Nat) : Prop := ∃ (cs : List Int) (st lf : Nat), H pen = some (.dK (penK c st lf)) ∧ H c = some (.lst (cs.map V.int)) ∧ cs.length ≤ 63 ∧ st + f ≤ 1000000
theorem PenAt.mono {H : Hp} {pen c : Addr} {f g : Nat} (h : PenAt H pen c g) (l : f ≤ g) : PenAt H pen c f := let ⟨cs, st, lf, h1, h2, h3, h4⟩ := h; ⟨cs, st, lf, h1, h2, h3, by omega⟩
theorem PenAt.same {H H' : Hp} {pen c : Addr} {f : Nat} (h : PenAt H pen c f) (e : Same H H') : PenAt H' pen c f := let ⟨cs, st, lf, h1, h2, h3, h4⟩ := h; ⟨cs, st, lf, e _ _ h1, e _ _ h2, h3, h4⟩
theorem PenAt.but {H : Hp} {pen c D : Addr} {f : Nat} {o : HO} (h : PenAt H pen c f) (n1 : D ≠ pen) (n2 : D ≠ c) : PenAt (upd H D o) pen c f := let ⟨cs, st, lf, h1, h2, h3, h4⟩ := h; ⟨cs, st, lf, by rw [upd_ne (Ne.symm n1)]; exact h1, by rw [upd_ne (Ne.symm n2)]; exact h2, h3, h4⟩
theorem PenAt.ne {H : Hp} {pen c D : Addr} {f : Nat} (h : PenAt H pen c f) (hD : H D = none) : D ≠ pen ∧ D ≠ c := let ⟨cs, st, lf, h1, h2, h3, h4⟩ := h; ⟨(fun z => by rw [z, h1] at hD; cases hD), (fun z => by rw [z, h2] at hD; cases hD)⟩
theorem PenAt.keep {H H1 : Hp} {pen c D : Addr} {f g : Nat} {o : HO} (h0 : PenAt H pen c g) (hD : H D = none) (h : PenAt H1 pen c f) : PenAt (upd H1 D o) pen c f := h.but (h0.ne hD).1 (h0.ne hD).2
theorem sn_cs : ¬ ("cells" : Str) = "stop" := by decide +kernel
theorem sn_cl : ¬ ("cells" : Str) = "left" := by decide +kernel
theorem sn_sl : ¬ ("stop" : Str) = "left" := by decide +kernel
theorem sn_ls : ¬ ("left" : Str) = "stop" := by decide +kernel
theorem pen_cells (c : Addr) (st lf : Nat) : valV (penK c st lf) (Sum.inr "cells") = some (.ref c) := valV_pos rfl
theorem pen_stop (c : Addr) (st lf : Nat) : valV (penK c st lf) (Sum.inr "stop") = some (nV st) := by unfold penK; rw [valV_neg (fun z => sn_cs (by injection z)), valV_pos rfl]
theorem pen_left (c : Addr) (st lf : Nat) : valV (penK c st lf) (Sum.inr "left") = some (nV lf) := by unfold penK; rw [valV_neg (fun z => sn_cl (by injection z)), valV_neg (fun z => sn_sl (by injection z)), valV_pos rfl]
theorem put_left (c : Addr) (st lf x : Nat) : putK (penK c st lf) (Sum.inr "left") (nV x) = penK c st x := by
  simp [putK, penK, sn_cl, sn_sl]
theorem put_stop (c : Addr) (st lf x : Nat) : putK (penK c st lf) (Sum.inr "stop") (nV x) = penK c x lf := by
  simp [putK, penK, sn_cs, sn_ls]
theorem dp_ints {H : Hp} : ∀ cs : List Int, DpAll K H (cs.map V.int) (cs.map PyData.int)
  | [] => .nil
  | _ :: cs => .cons (.int _) (dp_ints cs)
theorem shaped_ints' (cs : List Int) : SeqAt.shaped (.list (cs.map PyData.int)) = true := by
  have h1 : PyData.canLayAll0 (cs.map PyData.int) = true := by
    induction cs with
    | nil => rfl
    | cons c cs ih => simp [PyData.canLayAll0, PyData.canLay0, ih]
  have h2 : PyData.depthAll (cs.map PyData.int) ≤ 1 := by
    clear h1
    induction cs with
    | nil => simp [PyData.depthAll]
    | cons c cs ih => simp [PyData.depthAll, PyData.depth]; omega
  unfold SeqAt.shaped
  simp only [PyData.canLay0, PyData.depth, h1, Bool.true_and]
  exact decide_eq_true (by omega)
theorem ne_nilI {H : Hp} {p p2 : Addr} {cs : List Int} {Q : VK} (h : SqL K H p (cs.map V.int)) (h2 : SqL K H p2 []) (q : Q (.bl (!decide (cs = []))) H) : rNeD K (.ref p) (.ref p2) H Q := by
  refine ⟨_, _, .lst h (dp_ints cs), .lst h2 .nil, shaped_ints' cs, shaped_ints' [], ?_⟩
  have : PyData.eqv (.list (cs.map PyData.int)) (.list []) = decide (cs = []) := by cases cs <;> simp [PyData.eqv, PyData.eqvAll]
  rw [this]
  exact q
abbrev sp_draw : L2.Sp := S2 fun a b H Q _ => ∃ pen c f n, a = .ref pen ∧ b = nV n ∧ 1 ≤ n ∧ n < 1073741824 ∧ PenAt H pen c (f + 1) ∧ ∀ r H', r < n → Sx [pen] H H' → PenAt H' pen c f → Q (nV r) H'
theorem ok_law_draw (T : Tx P K mg) : Has P w K mg base 1 "_law_draw" ["_law_pen", "_law_span"] sp_draw := by
  refine ⟨g_law_draw T, ok2 (F_law_draw T) sc_law_draw fun cdv A outer s H a b Q E hr h => ?_⟩
  obtain ⟨pen, c, f, n, rfl, rfl, n1, n2, ⟨cs, st, lf, hp, hc, hl, hf⟩, q⟩ := h
  refine ⟨_, (pss_cons (ps_if (pt_cmpR op_gtM (pe_dget (hu_of hr) (pv 0) pe_str (fun _ _ => rfl)) (pe_nat 0) (nomark _)) (pss_cons (ps_set (i := 2) sc_law_draw.nd rfl (.inl rfl) (pe_op op_modM (pe_callTy call_int1 (by rfl) (b_int T) bb_int (pa_cons (pe_dget (hu_of hr) (pv 0) pe_str (fun _ _ => rfl)) pa_nil)) (pv 1)))
    (pss_cons (ps_dput (hu_of hr) (pv 0) pe_str (pe_op op_fdivM (pe_dget (hu_of hr) (pv 0) pe_str (fun _ _ => rfl)) (pv 1)) rfl)
    (pss_one (ps_ret (pv 2))))) pss_nil)
    (pss_cons (ps_set (i := 3) sc_law_draw.nd rfl (.inl rfl) (pe_dget (hu_of hr) (pv 0) pe_str (fun _ _ => rfl)))
    (pss_cons (ps_dput (hu_of hr) (pv 0) pe_str (pe_op op_addM (pv 3) (pe_nat 1)) rfl)
    (pss_cons (ps_set (i := 4) sc_law_draw.nd rfl (.inl rfl) (pe_op op_addM (pe_op op_mulM (pe_nat 83) (pv 3)) (pe_nat 59)))
    (pss_cons (ps_if (pt_cmpR (op_neDK K hr.units) (pe_dget (hu_of hr) (pv 0) pe_str (fun _ _ => rfl)) (pe_lst pa_nil) (nomark _)) (pss_one (ps_set (i := 4) sc_law_draw.nd rfl (.inl rfl) (pe_ix ix_list (pe_dget (hu_of hr) (pv 0) pe_str (fun _ _ => rfl)) (pe_op op_modM (pe_callTy call_int1 (by rfl) (b_int T) bb_int (pa_cons (pv 3) pa_nil)) (pe_callB (call_lenM K) (by rfl) (b_len T) bb_len (pa_cons (pe_dget (hu_of hr) (pv 0) pe_str (fun _ _ => rfl)) pa_nil))) (fun _ _ => rfl)))) pss_nil)
    (pss_cons (ps_if (PW.pt (pw_and (pt_cmpR op_ltM (pv 3) (pe_callB (call_lenM K) (by rfl) (b_len T) bb_len (pa_cons (pe_dget (hu_of hr) (pv 0) pe_str (fun _ _ => rfl)) pa_nil)) (nomark _)) (pw_and1 (pt_cmpR op_ge (pe_callB call_abs (by rfl) (b_abs T) bb_abs (pa_cons (pv 4) pa_nil)) (pe_op op_pow (pe_nat 10) (pe_nat 18)) (nomark _))))) (pss_cons (ps_dput (hu_of hr) (pv 0) pe_str (pe_op op_fdiv (pe_op op_sub (pe_callB call_abs (by rfl) (b_abs T) bb_abs (pa_cons (pv 4) pa_nil)) (pe_op op_pow (pe_nat 10) (pe_nat 18))) (pv 1)) rfl)
    (pss_one (ps_ret (pe_op op_mod (pe_callTy call_int1 (by rfl) (b_int T) bb_int (pa_cons (pe_op op_sub (pe_callB call_abs (by rfl) (b_abs T) bb_abs (pa_cons (pv 4) pa_nil)) (pe_op op_pow (pe_nat 10) (pe_nat 18))) pa_nil)) (pv 1))))) pss_nil)
    (pss_cons (ps_set (i := 5) sc_law_draw.nd rfl (.inl rfl) (pe_op op_add (pe_op op_mul (pe_op op_mod (pe_callTy call_int1 (by rfl) (b_int T) bb_int (pa_cons (pv 4) pa_nil)) (pe_nat 2147483549)) (pe_nat 48611)) (pe_op op_mulM (pe_op op_mulM (pe_nat 30029) (pv 3)) (pv 3))))
    (pss_cons (ps_set (i := 5) sc_law_draw.nd rfl (.inl rfl) (pe_op op_mod (pe_callTy call_int1 (by rfl) (b_int T) bb_int (pa_cons (pe_op op_add (pe_op op_add (pv 5) (pe_op op_mulM (pe_nat 701) (pv 3))) (pe_nat 83)) pa_nil)) (pe_nat 2147483543)))
    (pss_cons (ps_set (i := 5) sc_law_draw.nd rfl (.inl rfl) (pe_op op_mod (pe_callTy call_int1 (by rfl) (b_int T) bb_int (pa_cons (pe_op op_add (pe_op op_add (pe_op op_add (pe_op op_mul (pv 5) (pv 5)) (pe_op op_mul (pe_nat 40111) (pv 5))) (pe_op op_mulM (pe_nat 73) (pv 3))) (pe_nat 19)) pa_nil)) (pe_nat 2147483497)))
    (pss_cons (ps_set (i := 5) sc_law_draw.nd rfl (.inl rfl) (pe_op op_mod (pe_callTy call_int1 (by rfl) (b_int T) bb_int (pa_cons (pe_op op_add (pe_op op_add (pe_op op_mul (pv 5) (pv 5)) (pe_op op_mul (pe_nat 31013) (pv 5))) (pv 3)) pa_nil)) (pe_nat 2147483489)))
    (pss_one (ps_ret (pe_op op_mod (pe_callTy call_int1 (by rfl) (b_int T) bb_int (pa_cons (pe_op op_fdiv (pe_op op_mod (pe_callTy call_int1 (by rfl) (b_int T) bb_int (pa_cons (pe_op op_mul (pv 5) (pe_op op_add (pv 5) (pe_nat 44017))) pa_nil)) (pe_nat 2147483477)) (pe_nat 64)) pa_nil)) (pv 1)))))))))))))), ?_⟩
  have c64 : ∀ i j : Int, 0 ≤ i → i < 2 ^ 64 → CMul i j := fun i j h1 h2 => .inl ⟨by omega, h2⟩
  have gl : ∀ {H' : Hp} {st lf : Nat}, H' pen = some (.dK (penK c st lf)) → DGet H' pen (.str "left") (some (nV lf)) := fun {H' st lf} h => .inl ⟨_, Sum.inr "left", .inl h, rfl, (pen_left c st lf).symm⟩
  have gs : ∀ {H' : Hp} {st lf : Nat}, H' pen = some (.dK (penK c st lf)) → DGet H' pen (.str "stop") (some (nV st)) := fun {H' st lf} h => .inl ⟨_, Sum.inr "stop", .inl h, rfl, (pen_stop c st lf).symm⟩
  have gc : ∀ {H' : Hp} {st lf : Nat}, H' pen = some (.dK (penK c st lf)) → DGet H' pen (.str "cells") (some (.ref c)) := fun {H' st lf} h => .inl ⟨_, Sum.inr "cells", .inl h, rfl, (pen_cells c st lf).symm⟩
  have sl : ∀ {H' : Hp} {st lf : Nat} (x : Nat), H' pen = some (.dK (penK c st lf)) → DPut H' pen (.str "left") (nV x) (upd H' pen (.dK (penK c st x))) := fun {H' st lf} x h => .inl ⟨_, Sum.inr "left", h, rfl, by show 3 < sizeLine; decide, by rw [put_left]⟩
  have ss : ∀ {H' : Hp} {st lf : Nat} (x : Nat), H' pen = some (.dK (penK c st lf)) → DPut H' pen (.str "stop") (nV x) (upd H' pen (.dK (penK c x lf))) := fun {H' st lf} x h => .inl ⟨_, Sum.inr "stop", h, rfl, by show 3 < sizeLine; decide, by rw [put_stop]⟩
  have slI : ∀ {H' : Hp} {st lf : Nat} (x : Int), 0 ≤ x → H' pen = some (.dK (penK c st lf)) → DPut H' pen (.str "left") (.int x) (upd H' pen (.dK (penK c st x.toNat))) := fun {H' st lf} x h0 h => by
    have := sl x.toNat h
    rw [show nV x.toNat = V.int x from by show V.int _ = V.int _; rw [Int.toNat_of_nonneg h0]] at this
    exact this
  have cp : c ≠ pen := fun z => by rw [z, hp] at hc; cases hc
  refine ⟨_, rfl, pen, _, rfl, gl hp, lf, 0, rfl, rfl, _, rfl, ?_⟩
  by_cases h0 : 0 < lf
  · rw [decide_eq_true h0]
    refine iteT ⟨_, rfl, pen, _, rfl, gl hp, .inl ⟨_, rfl, _, rfl, lf, n, rfl, rfl, by omega, ?_⟩⟩
    refine ⟨_, rfl, pen, _, rfl, gl hp, _, rfl, lf, n, rfl, rfl, ⟨by omega, n2⟩, _, rfl, pen, _, rfl, sl (lf / n) hp, _, rfl, ?_⟩
    exact q _ _ (Nat.mod_lt _ (by omega)) (Sx.refl.upd me) ⟨cs, st, lf / n, upd_same, by rw [upd_ne cp]; exact hc, hl, by omega⟩
  rw [decide_eq_false h0]
  obtain rfl : lf = 0 := by omega
  have hp1 : upd H pen (.dK (penK c (st + 1) 0)) pen = some (.dK (penK c (st + 1) 0)) := upd_same
  have hc1 : upd H pen (.dK (penK c (st + 1) 0)) c = some (.lst (cs.map V.int)) := by rw [upd_ne cp]; exact hc
  have sx1 : Sx [pen] H (upd H pen (.dK (penK c (st + 1) 0))) := Sx.refl.upd me
  refine iteF ⟨_, rfl, pen, _, rfl, gs hp, ?_⟩
  refine ⟨_, rfl, st, 1, rfl, rfl, _, rfl, pen, _, rfl, ss (st + 1) hp, ?_⟩
  refine ⟨_, rfl, 83, st, rfl, rfl, (by omega : 83 < 2 ^ 64), 83 * st, 59, rfl, rfl, ?_⟩
  refine ⟨_, rfl, pen, _, rfl, gc hp1, Nat.zero_le _, fun l hl2 => ne_nilI (cs := cs) (SqL.of ((Same.new hl2) _ _ hc1)) (SqL.of upd_same) ⟨_, rfl, ?_⟩⟩
  have e2 := Same.new (o := .lst []) hl2
  have hp2 := e2 _ _ hp1
  have hc2 := e2 _ _ hc1
  have sx2 := sx1.then e2
  have fin : ∀ (r : Int) (lf : Nat) (H' : Hp), 0 ≤ r → r < n → Sx [pen] H H' → H' pen = some (.dK (penK c (st + 1) lf)) → H' c = some (.lst (cs.map V.int)) → Q (.int r) H' := fun r lf H' r0 r1 s' h1 h2 => by
    obtain ⟨m, rfl⟩ := Int.eq_ofNat_of_zero_le r0
    exact q m H' (by omega) s' ⟨cs, st + 1, lf, h1, h2, hl, by omega⟩
  have m64 : ∀ x m : Int, 0 < m → m < 2 ^ 64 → 0 ≤ x % m ∧ x % m < 2 ^ 64 := fun x m h1 h2 => ⟨Int.emod_nonneg _ (by omega), Int.lt_trans (Int.emod_lt_of_pos _ h1) h2⟩
  have c64m : ∀ {x m j : Int}, 0 < m → m < 2 ^ 64 → CMul (x % m) j := fun {x m j} h1 h2 => c64 _ _ (m64 x m h1 h2).1 (m64 x m h1 h2).2
  by_cases hn : cs = []
  · rw [decide_eq_true hn]
    refine iteF ⟨_, rfl, _, rfl, pen, _, rfl, gc hp2, c, true, _, rfl, SqL.of hc2, st, _, rfl, rfl, ?_⟩
    refine ⟨_, rfl, iteD (fun hlt => absurd hlt (by simp [hn])) (fun _ => iteF ?_)⟩
    refine ⟨_, rfl, .inl ⟨_, rfl, _, _, rfl, rfl, (by decide : (0 : Int) < 2147483549), _, _, rfl, rfl, c64m (by decide) (by decide), _, rfl, 30029, st, rfl, rfl, (by omega : 30029 < 2 ^ 64), _, rfl, 30029 * st, st, rfl, rfl, (by omega : 30029 * st < 2 ^ 64), _, _, rfl, rfl, ?_⟩⟩
    refine ⟨_, rfl, _, rfl, 701, st, rfl, rfl, (by omega : 701 < 2 ^ 64), _, _, rfl, rfl, _, _, rfl, rfl, .inl ⟨_, rfl, _, _, rfl, rfl, (by decide : (0 : Int) < 2147483543), ?_⟩⟩
    refine ⟨_, rfl, _, rfl, _, _, rfl, rfl, c64m (by decide) (by decide), _, rfl, _, _, rfl, rfl, c64 _ _ (by decide) (by decide), _, _, rfl, rfl, _, rfl, 73, st, rfl, rfl, (by omega : 73 < 2 ^ 64), _, _, rfl, rfl, _, _, rfl, rfl, .inl ⟨_, rfl, _, _, rfl, rfl, (by decide : (0 : Int) < 2147483497), ?_⟩⟩
    refine ⟨_, rfl, _, rfl, _, _, rfl, rfl, c64m (by decide) (by decide), _, rfl, _, _, rfl, rfl, c64 _ _ (by decide) (by decide), _, _, rfl, rfl, _, rfl, _, _, rfl, rfl, .inl ⟨_, rfl, _, _, rfl, rfl, (by decide : (0 : Int) < 2147483489), ?_⟩⟩
    refine ⟨_, rfl, _, rfl, _, _, rfl, rfl, _, _, rfl, rfl, c64m (by decide) (by decide), .inl ⟨_, rfl, _, _, rfl, rfl, (by decide : (0 : Int) < 2147483477), _, _, rfl, rfl, ⟨by decide, by decide⟩, .inl ⟨_, rfl, _, rfl, _, _, rfl, rfl, (by omega : (0 : Int) < (n : Int)), ?_⟩⟩⟩
    exact fin _ 0 _ (Int.emod_nonneg _ (by omega)) (Int.emod_lt_of_pos _ (by omega)) sx2 hp2 hc2
  · rw [decide_eq_false hn]
    have hz : 0 < cs.length := List.length_pos_iff.mpr hn
    have hi : st % cs.length < cs.length := Nat.mod_lt _ hz
    refine iteT ⟨_, rfl, pen, _, rfl, gc hp2, _, rfl, .inl ⟨_, rfl, _, rfl, pen, _, rfl, gc hp2, c, true, _, rfl, SqL.of hc2, st, cs.length, rfl, by rw [List.length_map], hz, c, _, _, .int cs[st % cs.length], rfl, rfl, SqL.of hc2, atI_nat (by rw [List.getElem?_map, List.getElem?_eq_getElem hi]; rfl), ?_⟩⟩
    generalize cs[st % cs.length] = cell
    refine ⟨_, rfl, _, rfl, pen, _, rfl, gc hp2, c, true, _, rfl, SqL.of hc2, st, _, rfl, rfl, ?_⟩
    refine ⟨_, rfl, iteD (fun hlt => ?_) (fun _ => iteF ?_)⟩
    rotate_left
    refine ⟨_, rfl, .inl ⟨_, rfl, _, _, rfl, rfl, (by decide : (0 : Int) < 2147483549), _, _, rfl, rfl, c64m (by decide) (by decide), _, rfl, 30029, st, rfl, rfl, (by omega : 30029 < 2 ^ 64), _, rfl, 30029 * st, st, rfl, rfl, (by omega : 30029 * st < 2 ^ 64), _, _, rfl, rfl, ?_⟩⟩
    refine ⟨_, rfl, _, rfl, 701, st, rfl, rfl, (by omega : 701 < 2 ^ 64), _, _, rfl, rfl, _, _, rfl, rfl, .inl ⟨_, rfl, _, _, rfl, rfl, (by decide : (0 : Int) < 2147483543), ?_⟩⟩
    refine ⟨_, rfl, _, rfl, _, _, rfl, rfl, c64m (by decide) (by decide), _, rfl, _, _, rfl, rfl, c64 _ _ (by decide) (by decide), _, _, rfl, rfl, _, rfl, 73, st, rfl, rfl, (by omega : 73 < 2 ^ 64), _, _, rfl, rfl, _, _, rfl, rfl, .inl ⟨_, rfl, _, _, rfl, rfl, (by decide : (0 : Int) < 2147483497), ?_⟩⟩
    refine ⟨_, rfl, _, rfl, _, _, rfl, rfl, c64m (by decide) (by decide), _, rfl, _, _, rfl, rfl, c64 _ _ (by decide) (by decide), _, _, rfl, rfl, _, rfl, _, _, rfl, rfl, .inl ⟨_, rfl, _, _, rfl, rfl, (by decide : (0 : Int) < 2147483489), ?_⟩⟩
    refine ⟨_, rfl, _, rfl, _, _, rfl, rfl, _, _, rfl, rfl, c64m (by decide) (by decide), .inl ⟨_, rfl, _, _, rfl, rfl, (by decide : (0 : Int) < 2147483477), _, _, rfl, rfl, ⟨by decide, by decide⟩, .inl ⟨_, rfl, _, rfl, _, _, rfl, rfl, (by omega : (0 : Int) < (n : Int)), ?_⟩⟩⟩
    exact fin _ 0 _ (Int.emod_nonneg _ (by omega)) (Int.emod_lt_of_pos _ (by omega)) sx2 hp2 hc2
    refine ⟨_, rfl, _, rfl, _, _, rfl, rfl, ⟨by decide, by decide, by decide⟩, _, _, rfl, rfl, _, rfl, iteD (fun hbig => ?_) (fun _ => ?_)⟩
    rotate_left
    refine ⟨_, rfl, .inl ⟨_, rfl, _, _, rfl, rfl, (by decide : (0 : Int) < 2147483549), _, _, rfl, rfl, c64m (by decide) (by decide), _, rfl, 30029, st, rfl, rfl, (by omega : 30029 < 2 ^ 64), _, rfl, 30029 * st, st, rfl, rfl, (by omega : 30029 * st < 2 ^ 64), _, _, rfl, rfl, ?_⟩⟩
    refine ⟨_, rfl, _, rfl, 701, st, rfl, rfl, (by omega : 701 < 2 ^ 64), _, _, rfl, rfl, _, _, rfl, rfl, .inl ⟨_, rfl, _, _, rfl, rfl, (by decide : (0 : Int) < 2147483543), ?_⟩⟩
    refine ⟨_, rfl, _, rfl, _, _, rfl, rfl, c64m (by decide) (by decide), _, rfl, _, _, rfl, rfl, c64 _ _ (by decide) (by decide), _, _, rfl, rfl, _, rfl, 73, st, rfl, rfl, (by omega : 73 < 2 ^ 64), _, _, rfl, rfl, _, _, rfl, rfl, .inl ⟨_, rfl, _, _, rfl, rfl, (by decide : (0 : Int) < 2147483497), ?_⟩⟩
    refine ⟨_, rfl, _, rfl, _, _, rfl, rfl, c64m (by decide) (by decide), _, rfl, _, _, rfl, rfl, c64 _ _ (by decide) (by decide), _, _, rfl, rfl, _, rfl, _, _, rfl, rfl, .inl ⟨_, rfl, _, _, rfl, rfl, (by decide : (0 : Int) < 2147483489), ?_⟩⟩
    refine ⟨_, rfl, _, rfl, _, _, rfl, rfl, _, _, rfl, rfl, c64m (by decide) (by decide), .inl ⟨_, rfl, _, _, rfl, rfl, (by decide : (0 : Int) < 2147483477), _, _, rfl, rfl, ⟨by decide, by decide⟩, .inl ⟨_, rfl, _, rfl, _, _, rfl, rfl, (by omega : (0 : Int) < (n : Int)), ?_⟩⟩⟩
    exact fin _ 0 _ (Int.emod_nonneg _ (by omega)) (Int.emod_lt_of_pos _ (by omega)) sx2 hp2 hc2
    have hb : (0 : Int) ≤ (if cell < 0 then -cell else cell) - (10 : Int) ^ 18 := by
      have hbig : ((10 : Nat) : Int) ^ ((18 : Nat) : Int).toNat ≤ (if cell < 0 then -cell else cell) := hbig
      have : ((10 : Nat) : Int) ^ ((18 : Nat) : Int).toNat = (10 : Int) ^ 18 := by decide
      rw [this] at hbig
      omega
    have hd : (0 : Int) ≤ ((if cell < 0 then -cell else cell) - (10 : Int) ^ 18) / (n : Int) := Int.ediv_nonneg hb (by omega)
    refine ⟨_, rfl, _, rfl, _, _, rfl, rfl, ⟨by decide, by decide, by decide⟩, _, _, rfl, rfl, _, rfl, _, _, rfl, rfl, ⟨by omega, by omega⟩, _, rfl, pen, _, rfl, slI _ hd hp2, ?_⟩
    refine ⟨_, rfl, _, rfl, _, _, rfl, rfl, ⟨by decide, by decide, by decide⟩, _, _, rfl, rfl, .inl ⟨_, rfl, _, rfl, _, _, rfl, rfl, (by omega : (0 : Int) < (n : Int)), ?_⟩⟩
    exact fin _ _ _ (Int.emod_nonneg _ (by omega)) (Int.emod_lt_of_pos _ (by omega)) (sx2.upd me) upd_same (by rw [upd_ne cp]; exact hc2)
end
end L2.Lk
/-! L2a -/
set_option Elab.async false
set_option linter.all false
set_option maxRecDepth 100000
set_option maxHeartbeats 2000000
namespace L2.Lk
open PySem PySem.Spec PyProof.Rows
section
variable {P : Program} {w : World} {K : PySem.W.Frag} {mg : Str → Option Value} {base : Heap}
theorem PenAt.stay {H H' : Hp} {pen c : Addr} {f : Nat} (h : PenAt H pen c f) (e : Sx [pen] H H') : Stay H H' := fun b o hb h1 _ => by
  obtain ⟨cs, st, lf, hp, _⟩ := h
  exact e b o (fun z => by rw [List.mem_singleton.mp z, hp] at hb; exact h1 _ (Option.some.inj hb).symm) hb
theorem SqL.stay {H H' : Hp} {b : Addr} {xs : List V} (h : SqL K H b xs) (e : Stay H H') : SqL K H' b xs := by
  rcases h with (h | ⟨o, h⟩) | h
  · exact .inl (.inl (e _ _ h (fun k z => by cases z) (fun od k z => by cases z)))
  · exact .inl (.inr ⟨o, e _ _ h (fun k z => by cases z) (fun od k z => by cases z)⟩)
  · exact .inr h
theorem Sq.stay {H H' : Hp} {k : Bool} {b : Addr} {xs : List V} (h : Sq K k H b xs) (e : Stay H H') : Sq K k H' b xs := by
  cases k with
  | true => exact SqL.stay h e
  | false => exact SqT.stay h e
theorem Stay.lst {H H' : Hp} {b : Addr} {xs : List V} (e : Stay H H') (h : H b = some (.lst xs)) : H' b = some (.lst xs) := e _ _ h (fun k z => by cases z) (fun od k z => by cases z)
theorem Stay.tup {H H' : Hp} {b : Addr} {xs : List V} (e : Stay H H') (h : H b = some (.tup xs)) : H' b = some (.tup xs) := e _ _ h (fun k z => by cases z) (fun od k z => by cases z)
theorem Sx.but {L : List Addr} {H H1 : Hp} {D : Addr} {o : HO} (e : Sx L H H1) (hD : H D = none) : Sx L H (L2.upd H1 D o) := fun b u n hb => by
  rw [upd_ne (ne_of_none hb hD)]
  exact e _ _ n hb
/-! ### the pen at its start -/
abbrev sp_begin (K : PySem.W.Frag) : L2.Sp := S1 fun a H Q _ => ∃ p cs, a = .ref p ∧ SqL K H p (List.map V.int cs) ∧ cs.length ≤ 63 ∧ ∀ pen c H', Same H H' → H pen = none → PenAt H' pen c 1000000 → Q (.ref pen) H'
theorem ok_law_begin (T : Tx P K mg) : Has P w K mg base 1 "_law_begin" ["_law_script"] (sp_begin K) := by
  refine ⟨g_law_begin T, ok1 (F_law_begin T) sc_law_begin fun cdv A outer s H a Q E hr h => ?_⟩
  obtain ⟨p, cs, rfl, hp, hz, q⟩ := h
  refine ⟨_, (pss_one (ps_ret (pe_disp (pps_cons pe_str (pe_callTy (call_listM K) (by rfl) (b_list T) bb_list (pa_cons (pe_slice sl_list (pv 0) po_none (po_some (pe_nat 63))) pa_nil)) (pps_cons pe_str (pe_nat 0) (pps_cons pe_str (pe_nat 0) pps_nil))) (by rfl) (by rfl) (fun z => by cases z) (by decide)))), ?_⟩
  refine fun d hd => ⟨_, rfl, 63, rfl, p, _, rfl, (Same.new hd).seq hp, fun t ht => ?_⟩
  have e1 := (Same.new (o := .dK []) hd).new' (o := .lst (cutV (List.map V.int cs) none (some 63))) ht
  refine ⟨t, true, _, rfl, SqL.of upd_same, fun l hl => ?_⟩
  have hcut : cutV (List.map V.int cs) none (some 63) = List.map V.int cs := by
    unfold cutV
    rw [HT.sIx_none, List.drop_zero, show ((63 : Int)) = ((63 : Nat) : Int) from rfl, HT.sIx_nat, List.length_map, Nat.min_eq_right hz, Nat.sub_zero, List.take_of_length_le (by rw [List.length_map]; exact Nat.le_refl _)]
  have e2 := e1.new' (o := .lst (cutV (List.map V.int cs) none (some 63))) hl
  have hdt : t ≠ d := fun z => by rw [z, upd_same] at ht; cases ht
  have hdl : l ≠ d := fun z => by rw [z, upd_ne (Ne.symm hdt), upd_same] at hl; cases hl
  refine ⟨by rw [upd_ne (Ne.symm hdl), upd_ne (Ne.symm hdt)]; exact upd_same, [(Sum.inr "cells", .ref l), (Sum.inr "stop", nV 0), (Sum.inr "left", nV 0)], rfl, by show 3 ≤ 15; decide, ?_⟩
  refine q d l _ (Same.but hd e2 (Same.refl _)) hd ⟨cs, 0, 0, ?_, ?_, hz, by decide⟩
  · rw [upd_same]
    refine congrArg (fun z => some (HO.dK z)) ?_
    simp [mergeK, putK, penK, sn_cs, sn_cl, sn_sl]
  · rw [upd_ne hdl, upd_same, hcut]
abbrev sp_pick (K : PySem.W.Frag) : L2.Sp := S2 fun a b H Q _ => ∃ pen c f p xs, a = .ref pen ∧ b = .ref p ∧ SqL K H p xs ∧ 1 ≤ xs.length ∧ xs.length ≤ 1000 ∧ PenAt H pen c (f + 1) ∧ ∀ (i : Nat) v H', xs[i]? = some v → Sx [pen] H H' → PenAt H' pen c f → Q v H'
theorem ok_law_pick (T : Tx P K mg) : Has P w K mg base 2 "_law_pick" ["_law_pen", "_law_some"] (sp_pick K) := by
  refine ⟨g_law_pick T, ok2 (F_law_pick T) sc_law_pick fun cdv A outer s H a b Q E hr h => ?_⟩
  obtain ⟨pen, c, f, p, xs, rfl, rfl, hp, h1, h2, hpen, q⟩ := h
  refine ⟨_, (pss_one (ps_ret (pe_ix ix_list (pv 1) (pe_h (ok_law_draw (K := K) T) (hr.mono (by decide)) passL (pa_cons (pv 0) (pa_cons (pe_callB (call_lenM K) (by rfl) (b_len T) bb_len (pa_cons (pv 1) pa_nil)) pa_nil))) (fun _ _ => rfl)))), ?_⟩
  refine ⟨_, rfl, _, rfl, _, rfl, p, true, xs, rfl, hp, _, _, rfl, pen, c, f, xs.length, rfl, rfl, h1, by omega, hpen, fun r H' hlt e1 hpen1 => ?_⟩
  refine ⟨p, xs, _, xs[r], rfl, rfl, SqL.stay hp (hpen.stay e1), atI_nat (List.getElem?_eq_getElem hlt), q r _ _ (List.getElem?_eq_getElem hlt) e1 hpen1⟩
abbrev sp_word : L2.Sp := S2 fun a b H Q _ => ∃ pen c f n, a = .ref pen ∧ b = nV n ∧ n ≤ 60 ∧ PenAt H pen c (f + n) ∧ ∀ x H', x < 2 ^ n → Sx [pen] H H' → PenAt H' pen c f → Q (nV x) H'
theorem ok_law_word (T : Tx P K mg) : Has P w K mg base 2 "_law_word" ["_law_pen", "_law_bits"] sp_word := by
  refine ⟨g_law_word T, ok2 (F_law_word T) sc_law_word fun cdv A outer s H a b Q E hr h => ?_⟩
  obtain ⟨pen, c, f, n, rfl, rfl, hn, hpen, q⟩ := h
  refine ⟨_, (pss_cons (ps_set (i := 2) sc_law_word.nd rfl (.inl rfl) (pe_nat 0))
    (pss_cons (ps_for (passes_of rfl) rfl (pi_range1 (by rfl) (b_range T) (pa_cons (pv 1) pa_nil)) (pg_name (i := 3) sc_law_word.nd rfl (.inl rfl)) (pss_one (ps_set (i := 2) sc_law_word.nd rfl (.inl rfl) (pe_op op_addM (pe_op op_mulM (pe_nat 2) (pv 2)) (pe_h (ok_law_draw (K := K) T) (hr.mono (by decide)) passL (pa_cons (pv 0) (pa_cons (pe_nat 2) pa_nil)))))))
    (pss_one (ps_ret (pv 2))))), ?_⟩
  refine ⟨_, rfl, n, rfl, by omega, by omega, for_rangeM (n := n) (Pv := fun i σ H' => i ≤ n ∧ Sx [pen] H H' ∧ PenAt H' pen c (f + (n - i)) ∧ ∃ x y, σ = [some (.ref pen), some (nV n), some (nV x), y] ∧ x < 2 ^ i) ⟨Nat.zero_le _, Sx.refl, hpen, 0, none, rfl, by decide⟩ (fun i σ H1 hi p => ?_) (fun σ H1 p => ?_)⟩
  · obtain ⟨_, e, hp, x, y, rfl, hx⟩ := p
    refine ⟨_, rfl, 2, x, rfl, rfl, (by omega : 2 < 2 ^ 64), _, rfl, _, _, rfl, pen, c, f + (n - (i + 1)), 2, rfl, rfl, by decide, by decide, hp.mono (by omega), fun r H2 hr e2 hp2 => ?_⟩
    exact ⟨_, _, rfl, rfl, hi, e.trans e2, hp2, _, _, rfl, by rw [Nat.pow_succ]; omega⟩
  · obtain ⟨_, e, hp, x, y, rfl, hx⟩ := p
    exact ⟨_, rfl, q x _ hx e (hp.mono (by omega))⟩
theorem seqIx {k n : Nat} (h : k < n) : seqIndex? (k : Int) n = some k := by rw [PySem.seqIndex_of (by omega) (by omega), Int.toNat_natCast]
theorem erase_perm {α : Type} : ∀ {l : List α} {k : Nat} (h : k < l.length), (l[k] :: l.eraseIdx k).Perm l
  | _ :: _, 0, _ => List.Perm.refl _
  | a :: l, k + 1, h => (List.Perm.swap _ _ _).trans ((erase_perm (l := l) (k := k) (Nat.lt_of_succ_lt_succ h)).cons a)
abbrev sp_mixed (K : PySem.W.Frag) : L2.Sp := S2 fun a b H Q _ => ∃ pen c f p xs, a = .ref pen ∧ b = .ref p ∧ SqL K H p xs ∧ xs.length ≤ 100 ∧ PenAt H pen c (f + xs.length) ∧ ∀ r ys H', ys.Perm xs → Sx [pen] H H' → H r = none → H' r = some (.lst ys) → PenAt H' pen c f → Q (.ref r) H'
theorem ok_law_mixed (T : Tx P K mg) : Has P w K mg base 2 "_law_mixed" ["_law_pen", "_law_some"] (sp_mixed K) := by
  refine ⟨g_law_mixed T, ok2 (F_law_mixed T) sc_law_mixed fun cdv A outer s H a b Q E hr h => ?_⟩
  obtain ⟨pen, c, f, p, xs, rfl, rfl, hp, hz, hpen, q⟩ := h
  refine ⟨_, (pss_cons (ps_par (i := 2) (j := 3) rfl sc_law_mixed.nd rfl rfl (by decide) rfl rfl (pa_cons (pe_callTy (call_listM K) (by rfl) (b_list T) bb_list (pa_cons (pv 1) pa_nil)) (pa_cons (pe_lst pa_nil) pa_nil)) (by rfl))
    (pss_cons (ps_for (passes_of rfl) rfl (pi_range1 (by rfl) (b_range T) (pa_cons (pe_callB (call_lenM K) (by rfl) (b_len T) bb_len (pa_cons (pv 1) pa_nil)) pa_nil)) (pg_name (i := 4) sc_law_mixed.nd rfl (.inl rfl)) (pss_one (ps_expr (pe_bm PySem.F.plainAttrs_list PySem.F.slot_list_append PySem.F.type_list_append mt_append (pv 3) (pa_cons (pe_bm PySem.F.plainAttrs_list PySem.F.slot_list_pop PySem.F.type_list_pop mt_popAt (pv 2) (pa_cons (pe_h (ok_law_draw (K := K) T) (hr.mono (by decide)) passL (pa_cons (pv 0) (pa_cons (pe_callB (call_lenM K) (by rfl) (b_len T) bb_len (pa_cons (pv 2) pa_nil)) pa_nil))) pa_nil)) pa_nil)))))
    (pss_one (ps_ret (pv 3))))), ?_⟩
  refine ⟨_, rfl, p, true, xs, rfl, hp, fun l hl => ⟨Nat.zero_le _, fun r hr' => ?_⟩⟩
  have e1 := (Same.new (H := H) (o := .lst xs) hl).new' (o := .lst []) hr'
  have hrl : r ≠ l := fun z => by rw [z, upd_same] at hr'; cases hr'
  have hrn : H r = none := (Same.new hl).free hr'
  refine ⟨_, _, rfl, _, rfl, p, true, xs, rfl, e1.seq hp, xs.length, rfl, by omega, by omega, for_rangeM (n := xs.length) (Pv := fun i σ H' => Sx [pen] H H' ∧ PenAt H' pen c (f + (xs.length - i)) ∧ (∃ rest acc, H' l = some (.lst rest) ∧ H' r = some (.lst acc) ∧ (acc ++ rest).Perm xs ∧ acc.length = i) ∧ ∃ y, σ = [some (.ref pen), some (.ref p), some (.ref l), some (.ref r), y])
    ⟨e1.sx, hpen.same e1, ⟨xs, [], by rw [upd_ne (Ne.symm hrl)]; exact upd_same, upd_same, List.Perm.refl _, rfl⟩, none, rfl⟩ (fun i σ H1 hi p => ?_) (fun σ H1 p => ?_)⟩
  · obtain ⟨e, hp1, ⟨rest, acc, hl1, hr1, hperm, hacc⟩, y, rfl⟩ := p
    have hlen : acc.length + rest.length = xs.length := by rw [← List.length_append]; exact hperm.length_eq
    refine ⟨_, rfl, .inl ⟨rfl, _, SqL.of hr1⟩, _, rfl, .inl ⟨rfl, _, SqL.of hl1⟩, _, rfl, _, rfl, l, true, _, rfl, SqL.of hl1, _, _, rfl, pen, c, f + (xs.length - (i + 1)), rest.length, rfl, rfl, by omega, by omega, hp1.mono (by omega), fun k H2 hk e2 hp2 => ?_⟩
    have st := hp1.stay e2
    have hl2 := st.lst hl1
    have hr2 := st.lst hr1
    refine ⟨l, rest, _, k, rest[k], rfl, rfl, hl2, by omega, by omega, seqIx hk, List.getElem?_eq_getElem hk, r, acc, _, rfl, rfl, by rw [upd_ne hrl]; exact hr2, small1000 (by omega), ?_⟩
    refine ⟨((e.trans e2).but hl).but hrn, hpen.keep hrn (hpen.keep hl hp2), ⟨rest.eraseIdx k, acc ++ [rest[k]], by rw [upd_ne (Ne.symm hrl)]; exact upd_same, upd_same, ?_, by rw [List.length_append]; simp [hacc]⟩, _, rfl⟩
    rw [List.append_assoc]
    exact (List.Perm.append_left acc (erase_perm hk)).trans hperm
  · obtain ⟨e, hp1, ⟨rest, acc, hl1, hr1, hperm, hacc⟩, y, rfl⟩ := p
    have hlen : acc.length + rest.length = xs.length := by rw [← List.length_append]; exact hperm.length_eq
    have hn : rest = [] := List.length_eq_zero_iff.mp (by omega)
    rw [hn, List.append_nil] at hperm
    exact ⟨_, rfl, q r acc _ hperm e hrn hr1 (hp1.mono (by omega))⟩
end
end L2.Lk
/-! L3 -/
set_option Elab.async false
set_option linter.all false
set_option maxRecDepth 100000
set_option maxHeartbeats 2000000
namespace L2.Lk
open PySem PySem.Spec PyProof.Rows
theorem iteN {p : Prop} [Decidable p] {A B : Prop} (h1 : ¬ p → A) (h2 : p → B) : if (!decide p) = true then A else B := by
  by_cases h : p
  · rw [if_neg (by simp [h])]; exact h2 h
  · rw [if_pos (by simp [h])]; exact h1 h
section
variable {P : Program} {w : World} {K : PySem.W.Frag} {mg : Str → Option Value} {base : Heap}
abbrev sp_left (K : PySem.W.Frag) : L2.Sp := S2 fun a b H Q _ => ∃ p rows n, a = .ref p ∧ b = nV n ∧ SqL K H p (wl rows) ∧ (∀ r ∈ rows, r ≠ 0) ∧ ∀ H', Same H H' → Q (nV (lleft rows n)) H'
theorem ok_law_left (T : Tx P K mg) : Has P w K mg base 1 "_law_left" ["_law_rows", "_law_word_here"] (sp_left K) := by
  refine ⟨g_law_left T, ok2 (F_law_left T) sc_law_left fun cdv A outer s H a b Q E hr h => ?_⟩
  obtain ⟨p, rows, n, rfl, rfl, hq, h0, q⟩ := h
  refine ⟨_, (pss_cons (ps_for (passes_of rfl) rfl (pi_seq (pv 0)) (pg_name (i := 2) sc_law_left.nd rfl (.inl rfl)) (pss_one (ps_if (pt_cmpR op_neM (pe_op op_andM' (pv 1) (pe_op op_low (pv 2) (pe_un un_neg (pv 2)))) (pe_nat 0) (nomark _)) (pss_one (ps_set (i := 1) sc_law_left.nd rfl (.inl rfl) (pe_op op_xorM (pv 1) (pv 2)))) pss_nil)))
    (pss_one (ps_ret (pv 1)))), ?_⟩
  refine ⟨_, rfl, p, rfl, for_sq (k := true) (xs := wl rows) (Pv := fun i σ H' => H' = H ∧ ∃ x, σ = [some (.ref p), some (nV (lleft (rows.take i) n)), x]) ⟨rfl, none, rfl⟩ (fun i σ H' h => by rw [h.1]; exact hq) (fun i x σ H' hx h => ?_) (fun σ H' h => ?_)⟩
  · obtain ⟨rfl, x0, rfl⟩ := h
    obtain ⟨r, hr', rfl⟩ := wl_of hx
    have hn : r ≠ 0 := h0 r (List.mem_of_getElem? hr')
    have e : lleft (rows.take (i + 1)) n = off (tz r) r (lleft (rows.take i) n) := by
      unfold lleft; rw [List.take_add_one, hr', offs_append]; rfl
    refine ⟨_, rfl, _, rfl, _, rfl, _, rfl, r, hn, rfl, rfl, _, _, rfl, rfl, _, 0, rfl, rfl, ?_⟩
    by_cases hb : (lleft (rows.take i) n).testBit (tz r) = true
    · have hb2 := and_pow_ne.mpr hb
      refine ⟨_, rfl, iteN (fun _ => ⟨_, rfl, _, rfl, _, _, rfl, rfl, rfl, some (nV r), ?_⟩) (fun z => absurd z hb2)⟩
      rw [e, off, if_pos hb]; rfl
    · have hb2 : ¬ ((lleft (rows.take i) n) &&& 2 ^ tz r ≠ 0) := fun z => hb (and_pow_ne.mp z)
      refine ⟨_, rfl, iteN (fun z => absurd z hb2) (fun _ => ⟨rfl, some (nV r), ?_⟩)⟩
      rw [e, off, if_neg hb]; rfl
  · obtain ⟨rfl, x0, rfl⟩ := h
    rw [wl_len, List.take_length]
    exact ⟨_, rfl, q _ (Same.refl _)⟩
theorem lbasis_take {ws : List Nat} {i x : Nat} (h : ws[i]? = some x) : lbasis (ws.take (i + 1)) = if lleft (lbasis (ws.take i)) x = 0 then lbasis (ws.take i) else lbasis (ws.take i) ++ [lleft (lbasis (ws.take i)) x] := by
  unfold lbasis
  rw [List.take_add_one, h, List.foldl_append]
  rfl
theorem lbasis_pos (ws : List Nat) : ∀ r ∈ lbasis ws, r ≠ 0 := fun r hr z => by
  have := (lbasis_ech ws).2 r hr
  rw [z] at this
  simp at this
theorem lbasis_len (ws : List Nat) : (lbasis ws).length ≤ ws.length := by
  have h := lsize_rk ws
  unfold lsize at h
  rw [h]
  exact rk_le_len ws
abbrev sp_basis (K : PySem.W.Frag) : L2.Sp := S1 fun a H Q _ => ∃ p k ws, a = .ref p ∧ Sq K k H p (wl ws) ∧ ws.length ≤ 200 ∧ ∀ r H', Same H H' → H r = none → H' r = some (.lst (wl (lbasis ws))) → Q (.ref r) H'
theorem ok_law_basis (T : Tx P K mg) : Has P w K mg base 2 "_law_basis" ["_law_words"] (sp_basis K) := by
  refine ⟨g_law_basis T, ok1 (F_law_basis T) sc_law_basis fun cdv A outer s H a Q E hr h => ?_⟩
  obtain ⟨p, k, ws, rfl, hq, hz, q⟩ := h
  refine ⟨_, (pss_cons (ps_set (i := 1) sc_law_basis.nd rfl (.inl rfl) (pe_lst pa_nil))
    (pss_cons (ps_for (passes_of rfl) rfl (pi_seq (pv 0)) (pg_name (i := 2) sc_law_basis.nd rfl (.inl rfl)) (pss_cons (ps_set (i := 2) sc_law_basis.nd rfl (.inl rfl) (pe_h (ok_law_left (K := K) T) (hr.mono (by decide)) passL (pa_cons (pv 1) (pa_cons (pv 2) pa_nil))))
    (pss_one (ps_if (pt_cmpR op_neM (pv 2) (pe_nat 0) (nomark _)) (pss_one (ps_expr (pe_bm PySem.F.plainAttrs_list PySem.F.slot_list_append PySem.F.type_list_append mt_append (pv 1) (pa_cons (pv 2) pa_nil)))) pss_nil))))
    (pss_one (ps_ret (pv 1))))), ?_⟩
  refine ⟨Nat.zero_le _, fun l hl => ?_⟩
  refine ⟨_, rfl, p, rfl, for_sq (k := k) (xs := wl ws) (Pv := fun i σ H' => Same H H' ∧ H' l = some (.lst (wl (lbasis (ws.take i)))) ∧ ∃ x, σ = [some (.ref p), some (.ref l), x]) ⟨Same.new hl, upd_same, none, rfl⟩ (fun i σ H' h => h.1.sq hq) (fun i x σ H' hx h => ?_) (fun σ H' h => ?_)⟩
  · obtain ⟨e, hl', x0, rfl⟩ := h
    obtain ⟨r, hr', rfl⟩ := wl_of hx
    have et := lbasis_take hr'
    have hlen := lbasis_len (ws.take i)
    rw [List.length_take] at hlen
    refine ⟨_, rfl, _, rfl, _, _, rfl, l, _, r, rfl, rfl, SqL.of hl', lbasis_pos _, fun H2 e2 => ⟨_, rfl, _, 0, rfl, rfl, ?_⟩⟩
    have hl2 := e2 _ _ hl'
    refine ⟨_, rfl, iteN (fun h0 => ?_) (fun h0 => ⟨e.trans e2, ?_, _, rfl⟩)⟩
    · rw [if_neg h0] at et
      refine ⟨_, rfl, .inl ⟨rfl, _, SqL.of hl2⟩, _, rfl, l, _, _, rfl, rfl, hl2, by rw [wl_len]; exact small1000 (by omega), Same.but hl (e.trans e2) (Same.refl _), ?_, _, rfl⟩
      rw [upd_same, et, wl_snoc]
    · rw [if_pos h0] at et
      rw [et]; exact hl2
  · obtain ⟨e, hl', x0, rfl⟩ := h
    rw [wl_len, List.take_length] at hl'
    exact ⟨_, rfl, q l _ e hl hl'⟩
abbrev sp_size (K : PySem.W.Frag) : L2.Sp := S1 fun a H Q _ => ∃ p k ws, a = .ref p ∧ Sq K k H p (wl ws) ∧ ws.length ≤ 200 ∧ ∀ H', Same H H' → Q (nV (lsize ws)) H'
theorem ok_law_size (T : Tx P K mg) : Has P w K mg base 3 "_law_size" ["_law_words"] (sp_size K) := by
  refine ⟨g_law_size T, ok1 (F_law_size T) sc_law_size fun cdv A outer s H a Q E hr h => ?_⟩
  obtain ⟨p, k, ws, rfl, hq, hz, q⟩ := h
  refine ⟨_, (pss_one (ps_ret (pe_callB (call_lenM K) (by rfl) (b_len T) bb_len (pa_cons (pe_h (ok_law_basis (K := K) T) (hr.mono (by decide)) passL (pa_cons (pv 0) pa_nil)) pa_nil)))), ?_⟩
  refine ⟨_, rfl, _, rfl, p, k, ws, rfl, hq, hz, fun r H1 e1 hr1 hr2 => ⟨r, true, _, rfl, SqL.of hr2, ?_⟩⟩
  rw [wl_len]
  exact q _ e1
abbrev sp_image (K : PySem.W.Frag) : L2.Sp := S2 fun a b H Q _ => ∃ p k cs n, a = .ref p ∧ b = nV n ∧ Sq K k H p (wl cs) ∧ cs.length ≤ 60 ∧ ∀ H', Same H H' → Q (nV (img cs n)) H'
theorem and_one (n k : Nat) : (n / 2 ^ k &&& 1 = 1) ↔ n.testBit k = true := by
  rw [Nat.and_one_is_mod, Nat.testBit_eq_decide_div_mod_eq, decide_eq_true_eq]
theorem img_take {cs : List Nat} {i c n : Nat} (h : cs[i]? = some c) : img (cs.take (i + 1)) n = img (cs.take i) n ^^^ (if n.testBit i then c else 0) := by
  have hi := (List.getElem?_eq_some_iff.mp h).1
  rw [List.take_add_one, h]
  show img (cs.take i ++ [c]) n = _
  rw [img_snoc, List.length_take, Nat.min_eq_left (Nat.le_of_lt hi)]
theorem ok_law_image (T : Tx P K mg) : Has P w K mg base 1 "_law_image" ["_law_columns", "_law_word_here"] (sp_image K) := by
  refine ⟨g_law_image T, ok2 (F_law_image T) sc_law_image fun cdv A outer s H a b Q E hr h => ?_⟩
  obtain ⟨p, k, cs, n, rfl, rfl, hq, hz, q⟩ := h
  refine ⟨_, (pss_cons (ps_set (i := 2) sc_law_image.nd rfl (.inl rfl) (pe_nat 0))
    (pss_cons (ps_for (passes_of rfl) rfl (pi_range1 (by rfl) (b_range T) (pa_cons (pe_callB (call_lenM K) (by rfl) (b_len T) bb_len (pa_cons (pv 0) pa_nil)) pa_nil)) (pg_name (i := 3) sc_law_image.nd rfl (.inl rfl)) (pss_one (ps_if (pt_cmpR op_eqM (pe_op op_andM' (pe_op op_shrM (pv 1) (pv 3)) (pe_nat 1)) (pe_nat 1) (nomark _)) (pss_one (ps_set (i := 2) sc_law_image.nd rfl (.inl rfl) (pe_op op_xorM (pv 2) (pe_ix (ix_sq K) (pv 0) (pv 3) (fun _ _ => rfl))))) pss_nil)))
    (pss_one (ps_ret (pv 2))))), ?_⟩
  refine ⟨_, rfl, p, k, _, rfl, hq, (wl cs).length, rfl, by rw [wl_len]; omega, by rw [wl_len]; omega, for_rangeM (n := (wl cs).length) (Pv := fun i σ H' => H' = H ∧ ∃ x, σ = [some (.ref p), some (nV n), some (nV (img (cs.take i) n)), x]) ⟨rfl, none, rfl⟩ (fun i σ H' hi h => ?_) (fun σ H' h => ?_)⟩
  · obtain ⟨rfl, x0, rfl⟩ := h
    rw [wl_len] at hi
    obtain ⟨c, hc⟩ : ∃ c, cs[i]? = some c := ⟨cs[i], List.getElem?_eq_getElem hi⟩
    have e := img_take (n := n) hc
    refine ⟨_, rfl, _, rfl, n, i, rfl, rfl, _, 1, rfl, rfl, _, 1, rfl, rfl, ?_⟩
    by_cases hb : n.testBit i = true
    · rw [if_pos hb] at e
      refine ⟨_, rfl, iteD (fun _ => ⟨_, rfl, _, rfl, _, rfl, p, k, wl cs, i, nV c, rfl, rfl, hq, (by unfold wl; rw [List.getElem?_map, hc]; rfl), _, _, rfl, rfl, rfl, some (nV i), ?_⟩) (fun z => absurd ((and_one n i).mpr hb) z)⟩
      rw [e]; rfl
    · rw [if_neg hb, Nat.xor_zero] at e
      refine ⟨_, rfl, iteD (fun z => absurd ((and_one n i).mp z) hb) (fun _ => ⟨rfl, some (nV i), ?_⟩)⟩
      rw [e]; rfl
  · obtain ⟨rfl, x0, rfl⟩ := h
    rw [wl_len, List.take_length]
    exact ⟨_, rfl, q _ (Same.refl _)⟩
end
end L2.Lk
/-! L4 -/
set_option Elab.async false
set_option linter.all false
set_option maxRecDepth 100000
set_option maxHeartbeats 2000000
namespace L2.Lk
open PySem PySem.Spec PyProof.Rows
section
variable {P : Program} {w : World} {K : PySem.W.Frag} {mg : Str → Option Value} {base : Heap}
theorem drop_at {α : Type} {l : List α} {i : Nat} {a : α} (h : l[i]? = some a) : l.drop i = a :: l.drop (i + 1) := by
  obtain ⟨h1, h2⟩ := List.getElem?_eq_some_iff.mp h
  rw [List.drop_eq_getElem_cons h1, h2]
theorem paired_at' {α β : Type} {R : α → β → Prop} : ∀ {as : List α} {bs : List β} {i : Nat} {b : β}, Paired R as bs → bs[i]? = some b → ∃ a, as[i]? = some a ∧ R a b
  | [], [], _, _, _, e => by simp at e
  | _ :: _, _ :: _, 0, _, .cons h _, e => by
    rw [List.getElem?_cons_zero] at e
    rw [← Option.some.inj e]
    exact ⟨_, rfl, h⟩
  | _ :: _, _ :: _, i + 1, _, .cons _ r, e => by
    rw [List.getElem?_cons_succ] at e
    exact paired_at' (i := i) r e
/-- rows with their tags, at ps -/
def TagAt (H : Hp) (ps : List Addr) (rows : List (Nat × Nat)) : Prop := Paired (fun p (r : Nat × Nat) => H p = some (.tup [nV r.1, nV r.2])) ps rows
theorem TagAt.same {H H' : Hp} {ps : List Addr} {rows : List (Nat × Nat)} (h : TagAt H ps rows) (e : ∀ b o, H b = some o → (∀ xs, o ≠ .lst xs) → H' b = some o) : TagAt H' ps rows := Paired.mapP h fun _ _ z => e _ _ z (fun _ z => by cases z)
abbrev sp_tagged (K : PySem.W.Frag) : L2.Sp := S1 fun a H Q _ => ∃ p k cs, a = .ref p ∧ Sq K k H p (wl cs) ∧ cs.length ≤ 60 ∧
  ∀ t lr lf ps H', Same H H' → H' t = some (.tup [.ref lr, .ref lf]) → H' lr = some (.lst (ps.map V.ref)) → TagAt H' ps (ltagged cs).1 → (∀ r ∈ (ltagged cs).1, r.1 ≠ 0) → H lr = none → H lf = none → H' lf = some (.lst (wl (ltagged cs).2)) → Q (.ref t) H'
theorem ok_law_tagged (T : Tx P K mg) : Has P w K mg base 1 "_law_tagged" ["_law_columns"] (sp_tagged K) := by
  refine ⟨g_law_tagged T, ok1 (F_law_tagged T) sc_law_tagged fun cdv A outer s H a Q E hr h => ?_⟩
  obtain ⟨p, k, cs, rfl, hq, hz, q⟩ := h
  refine ⟨_, (pss_cons (ps_par (i := 1) (j := 2) rfl sc_law_tagged.nd rfl rfl (by decide) rfl rfl (pa_cons (pe_lst pa_nil) (pa_cons (pe_lst pa_nil) pa_nil)) (by rfl))
    (pss_cons (ps_for (passes_of rfl) rfl (pi_range1 (by rfl) (b_range T) (pa_cons (pe_callB (call_lenM K) (by rfl) (b_len T) bb_len (pa_cons (pv 0) pa_nil)) pa_nil)) (pg_name (i := 3) sc_law_tagged.nd rfl (.inl rfl)) (pss_cons (ps_par (i := 4) (j := 5) rfl sc_law_tagged.nd rfl rfl (by decide) rfl rfl (pa_cons (pe_ix (ix_sq K) (pv 0) (pv 3) (fun _ _ => rfl)) (pa_cons (pe_op op_shlM (pe_nat 1) (pv 3)) pa_nil)) (by rfl))
    (pss_cons (ps_for (passes_of rfl) rfl (pi_seq (pv 1)) (pg_tupK (n := 2) K rfl (pgs_cons (pg_name (i := 6) sc_law_tagged.nd rfl (.inl rfl)) (pgs_cons (pg_name (i := 7) sc_law_tagged.nd rfl (.inl rfl)) pgs_nil))) (pss_one (ps_if (pt_cmpR op_neM (pe_op op_andM' (pv 4) (pe_op op_low (pv 6) (pe_un un_neg (pv 6)))) (pe_nat 0) (nomark _)) (pss_one (ps_par (i := 4) (j := 5) rfl sc_law_tagged.nd rfl rfl (by decide) rfl rfl (pa_cons (pe_op op_xorM (pv 4) (pv 6)) (pa_cons (pe_op op_xorM (pv 5) (pv 7)) pa_nil)) (by rfl))) pss_nil)))
    (pss_one (ps_if (pt_cmpR op_eqM (pv 4) (pe_nat 0) (nomark _)) (pss_one (ps_expr (pe_bm PySem.F.plainAttrs_list PySem.F.slot_list_append PySem.F.type_list_append mt_append (pv 2) (pa_cons (pv 5) pa_nil)))) (pss_one (ps_expr (pe_bm PySem.F.plainAttrs_list PySem.F.slot_list_append PySem.F.type_list_append mt_append (pv 1) (pa_cons (pe_tup (pa_cons (pv 4) (pa_cons (pv 5) pa_nil))) pa_nil)))))))))
    (pss_one (ps_ret (pe_tup (pa_cons (pv 1) (pa_cons (pv 2) pa_nil))))))), ?_⟩
  refine ⟨Nat.zero_le _, fun lr hlr => ⟨Nat.zero_le _, fun lf hlf => ?_⟩⟩
  refine ⟨_, _, rfl, ?_⟩
  have hne : lf ≠ lr := fun z => by rw [z, upd_same] at hlf; cases hlf
  have hlfn : H lf = none := (Same.new hlr).free hlf
  have e1 := (Same.new (H := H) (o := .lst []) hlr).new' (o := .lst []) hlf
  refine ⟨_, rfl, p, k, _, rfl, e1.sq hq, (wl cs).length, rfl, by rw [wl_len]; omega, by rw [wl_len]; omega, for_rangeM (n := (wl cs).length) (Pv := fun i σ H' => Same H H' ∧ (∃ ps rows found, H' lr = some (.lst (ps.map V.ref)) ∧ TagAt H' ps rows ∧ (∀ r ∈ rows, r.1 ≠ 0) ∧ H' lf = some (.lst (wl found)) ∧ rows.length + found.length = i ∧ ltagn (cs.drop i) i rows found = ltagged cs) ∧
    ∃ x y z u v, σ = [some (.ref p), some (.ref lr), some (.ref lf), x, y, z, u, v]) ⟨e1, ⟨[], [], [], by rw [upd_ne (Ne.symm hne)]; exact upd_same, .nil, (fun r hr => by cases hr), upd_same, rfl, rfl⟩, none, none, none, none, none, rfl⟩ (fun i σ H' hi h => ?_) (fun σ H' h => ?_)⟩
  · obtain ⟨e, ⟨ps, rows, found, h1, h2, h3, h4, h5, h6⟩, x, y, z, u, v, rfl⟩ := h
    rw [wl_len] at hi
    obtain ⟨c, hc⟩ : ∃ c, cs[i]? = some c := ⟨cs[i], List.getElem?_eq_getElem hi⟩
    refine ⟨_, rfl, _, rfl, p, k, wl cs, i, nV c, rfl, rfl, e.sq hq, (by unfold wl; rw [List.getElem?_map, hc]; rfl), ?_⟩
    refine ⟨_, rfl, 1, i, rfl, rfl, ⟨by omega, by omega⟩, _, _, rfl, ?_⟩
    refine ⟨_, rfl, lr, rfl, for_sq (k := true) (xs := ps.map V.ref) (Pv := fun j σ H2 => H2 = H' ∧ ∃ w t u v, σ = [some (.ref p), some (.ref lr), some (.ref lf), some (nV i), some (nV w), some (nV t), u, v] ∧ ltag1 (rows.drop j) w t = ltag1 rows c (2 ^ i)) ⟨rfl, c, 1 * 2 ^ i, u, v, rfl, by rw [Nat.one_mul]; rfl⟩ (fun j σ H' h => by rw [h.1]; exact SqL.of h1) (fun j x σ H2 hx h => ?_) (fun σ H2 h => ?_)⟩
    · obtain ⟨rfl, w, t, u, v, rfl, hw⟩ := h
      rw [List.getElem?_map] at hx
      cases hp : ps[j]? with
      | none => rw [hp] at hx; cases hx
      | some pa =>
        rw [hp] at hx
        obtain rfl := Option.some.inj hx
        obtain ⟨⟨r, m⟩, hr1, hr2⟩ := paired_at h2 hp
        have hn : r ≠ 0 := h3 _ (List.mem_of_getElem? hr1)
        rw [drop_at hr1] at hw
        refine ⟨pa, _, rfl, SqT.of hr2, rfl, _, _, rfl, _, _, rfl, rfl, ?_⟩
        refine ⟨_, rfl, _, rfl, _, rfl, _, rfl, r, hn, rfl, rfl, _, _, rfl, rfl, _, 0, rfl, rfl, _, rfl, iteN (fun hb => ?_) (fun hb => ?_)⟩
        · have hb := and_pow_ne.mp hb
          have hw := (if_pos hb : (if w.testBit (tz r) = true then ltag1 (rows.drop (j + 1)) (w ^^^ r) (t ^^^ m) else ltag1 (rows.drop (j + 1)) w t) = _).symm.trans hw
          exact ⟨_, rfl, _, rfl, _, _, rfl, rfl, _, rfl, _, rfl, _, _, rfl, rfl, _, _, rfl, rfl, _, _, _, _, rfl, hw⟩
        · have hb : ¬ w.testBit (tz r) = true := fun z => and_pow_ne.mpr z hb
          have hw := (if_neg hb : (if w.testBit (tz r) = true then ltag1 (rows.drop (j + 1)) (w ^^^ r) (t ^^^ m) else ltag1 (rows.drop (j + 1)) w t) = _).symm.trans hw
          exact ⟨rfl, _, _, _, _, rfl, hw⟩
    · obtain ⟨rfl, w, t, u, v, rfl, hw⟩ := h
      rw [List.length_map, Paired.length h2, List.drop_length] at hw
      have hw : (w, t) = ltag1 rows c (2 ^ i) := hw
      have hl : ps.length = rows.length := Paired.length h2
      rw [drop_at hc] at h6
      refine ⟨_, rfl, _, _, rfl, rfl, _, rfl, iteD (fun h0 => ?_) (fun h0 => ?_)⟩
      · have hlt : Same H (upd H2 lf (.lst (wl (found ++ [t])))) := Same.but hlfn e (Same.refl _)
        refine ⟨_, rfl, .inl ⟨rfl, _, SqL.of h4⟩, _, rfl, lf, _, _, rfl, rfl, h4, by rw [wl_len]; exact small1000 (by omega), ?_⟩
        rw [← wl_snoc]
        refine ⟨hlt, ⟨ps, rows, found ++ [t], by rw [upd_ne (Ne.symm hne)]; exact h1, h2.same (fun b o hb hn => ?_), h3, upd_same, by rw [List.length_append]; simp; omega, ?_⟩, _, _, _, _, _, rfl⟩
        · rw [upd_ne (fun z => by rw [z, h4] at hb; exact hn _ (Option.some.inj hb).symm)]; exact hb
        · rw [← h6]
          show _ = (if (ltag1 rows c (2 ^ i)).1 = 0 then _ else _)
          rw [← hw, if_pos h0]
      · refine ⟨_, rfl, .inl ⟨rfl, _, SqL.of h1⟩, _, rfl, _, rfl, by show 2 ≤ sizeLine; decide, fun tp htp => ?_⟩
        have e2 := Same.new (o := .tup [nV w, nV t]) htp
        refine ⟨lr, _, _, rfl, rfl, e2 _ _ h1, by rw [List.length_map]; exact small1000 (by omega), ?_⟩
        have hlrt : lr ≠ tp := fun z => by rw [← z, h1] at htp; cases htp
        refine ⟨Same.but hlr e e2, ⟨ps ++ [tp], rows ++ [(w, t)], found, by rw [upd_same, List.map_append]; rfl, Paired.snoc (h2.same (fun b o hb hn => ?_)) ?_, ?_, ?_, by rw [List.length_append]; simp; omega, ?_⟩, _, _, _, _, _, rfl⟩
        · rw [upd_ne (fun z => by rw [z, h1] at hb; exact hn _ (Option.some.inj hb).symm)]; exact e2 _ _ hb
        · rw [upd_ne (Ne.symm hlrt)]; exact upd_same
        · intro r hr
          rcases List.mem_append.mp hr with hr | hr
          · exact h3 r hr
          · rw [List.mem_singleton.mp hr]; exact h0
        · rw [upd_ne hne]; exact e2 _ _ h4
        · rw [← h6]
          show _ = (if (ltag1 rows c (2 ^ i)).1 = 0 then _ else _)
          rw [← hw, if_neg h0]
  · obtain ⟨e, ⟨ps, rows, found, h1, h2, h3, h4, h5, h6⟩, x, y, z, u, v, rfl⟩ := h
    rw [wl_len, List.drop_length] at h6
    have h6 : (rows, found) = ltagged cs := h6
    refine ⟨_, rfl, _, rfl, by show 2 ≤ sizeLine; decide, fun t ht => ?_⟩
    have e2 := Same.new (o := .tup [.ref lr, .ref lf]) ht
    refine q t lr lf ps _ (e.trans e2) upd_same (e2 _ _ h1) ?_ ?_ hlr hlfn ?_
    · rw [← h6]; exact h2.same fun b o hb _ => e2 _ _ hb
    · rw [← h6]; exact h3
    · rw [← h6]; exact e2 _ _ h4
abbrev sp_kernel (K : PySem.W.Frag) : L2.Sp := S1 fun a H Q _ => ∃ p k cs, a = .ref p ∧ Sq K k H p (wl cs) ∧ cs.length ≤ 60 ∧ ∀ l H', Same H H' → H l = none → H' l = some (.lst (wl (lker cs))) → Q (.ref l) H'
theorem ok_law_kernel (T : Tx P K mg) : Has P w K mg base 2 "_law_kernel" ["_law_columns"] (sp_kernel K) := by
  refine ⟨g_law_kernel T, ok1 (F_law_kernel T) sc_law_kernel fun cdv A outer s H a Q E hr h => ?_⟩
  obtain ⟨p, k, cs, rfl, hq, hz, q⟩ := h
  refine ⟨_, (pss_one (ps_ret (pe_ix ix_tup (pe_h (ok_law_tagged (K := K) T) (hr.mono (by decide)) passL (pa_cons (pv 0) pa_nil)) (pe_nat 1) (fun _ _ => rfl)))), ?_⟩
  exact ⟨_, rfl, _, rfl, p, k, cs, rfl, hq, hz, fun t lr lf ps H1 e1 ht h1 h2 h3 _ hlf h4 => ⟨t, _, _, _, rfl, rfl, SqT.of ht, atI_nat (j := 1) rfl, q lf _ e1 hlf h4⟩⟩
abbrev sp_listed (K : PySem.W.Frag) : L2.Sp := S1 fun a H Q _ => ∃ p ws, a = .ref p ∧ SqL K H p (wl ws) ∧ ws.length ≤ 4 ∧ ∀ l H', Same H H' → H l = none → H' l = some (.lst (wl (llisted ws))) → Q (.ref l) H'
theorem llisted_take {ws : List Nat} {i x : Nat} (h : ws[i]? = some x) : llisted (ws.take (i + 1)) = llisted (ws.take i) ++ (llisted (ws.take i)).map fun y => y ^^^ x := by
  unfold llisted
  rw [List.take_add_one, h, List.foldl_append]
  rfl
theorem llisted_len : ∀ (ws : List Nat) (i : Nat), i ≤ ws.length → (llisted (ws.take i)).length = 2 ^ i
  | ws, 0, _ => rfl
  | ws, i + 1, h => by
    have hx : ws[i]? = some ws[i] := List.getElem?_eq_getElem (by omega)
    rw [llisted_take hx, List.length_append, List.length_map, llisted_len ws i (by omega), Nat.pow_succ]
    omega
theorem ok_law_listed (T : Tx P K mg) : Has P w K mg base 1 "_law_listed" ["_law_words"] (sp_listed K) := by
  refine ⟨g_law_listed T, ok1 (F_law_listed T) sc_law_listed fun cdv A outer s H a Q E hr h => ?_⟩
  obtain ⟨p, ws, rfl, hq, hz, q⟩ := h
  refine ⟨_, (pss_cons (ps_set (i := 1) sc_law_listed.nd rfl (.inl rfl) (pe_lst (pa_cons (pe_nat 0) pa_nil)))
    (pss_cons (ps_for (passes_of rfl) rfl (pi_seq (pv 0)) (pg_name (i := 2) sc_law_listed.nd rfl (.inr rfl)) (pss_one (ps_set (i := 1) sc_law_listed.nd rfl (.inl rfl) (pe_op op_cat (pv 1) (pe_lc (own := [("_law_one", 3)]) (g := gName 3) rfl sc_law_listed.nd (pi_seq (pv 1)) (blkOk_by (own := [("_law_one", 3)]) (N := N_law_listed) (sc := defScope st_law_listed) (by decide +kernel)) (fun _ _ _ _ _ => pg_name (i := 3) sc_law_listed.nd rfl (Or.inl rfl)) (fun _ _ _ _ _ => pts_nil) (fun _ _ _ _ _ => (pe_op op_xorM (pv 3) (pv 2))))))))
    (pss_one (ps_ret (pv 1))))), ?_⟩
  refine ⟨by show 1 ≤ sizeLine; decide, fun l hl => ?_⟩
  refine ⟨_, rfl, p, rfl, for_sq (k := true) (xs := wl ws) (Pv := fun i σ H' => Same H H' ∧ ∃ l x y, H l = none ∧ H' l = some (.lst (wl (llisted (ws.take i)))) ∧ σ = [some (.ref p), some (.ref l), x, y]) ⟨Same.new hl, l, none, none, hl, upd_same, rfl⟩ (fun i σ H' h => h.1.sq (k := true) hq) (fun i x σ H' hx h => ?_) (fun σ H' h => ?_)⟩
  · obtain ⟨e, l1, x0, y0, hl1, hl2, rfl⟩ := h
    obtain ⟨r, hr', rfl⟩ := wl_of hx
    have hi : i < ws.length := (List.getElem?_eq_some_iff.mp hr').1
    have hlen := llisted_len ws i (by omega)
    have hp16 : 2 ^ i ≤ 2 ^ 4 := Nat.pow_le_pow_right (by decide) (by omega)
    have et := llisted_take hr'
    refine ⟨_, rfl, _, rfl, l1, rfl, lc_natM (k := true) (ws := llisted (ws.take i)) (fun y => y ^^^ r) (SqL.of hl2) (by omega) (fun j y H2 Nx No hj e2 hN => ⟨rfl, _, rfl, _, rfl, _, _, rfl, rfl, hN _ (Same.refl _)⟩) (fun D H2 hD e2 hd => ?_)⟩
    refine ⟨l1, D, _, _, rfl, rfl, e2 _ _ hl2, hd, ?_, fun l3 hl3 => ?_⟩
    · simp only [wl, List.length_map]
      exact Nat.le_of_lt (small1000 (by omega))
    · have e3 := (e.trans e2).new' (o := .lst (wl (llisted (ws.take i)) ++ wl ((llisted (ws.take i)).map fun y => y ^^^ r))) hl3
      refine ⟨e3, l3, _, _, (e.trans e2).free hl3, ?_, rfl⟩
      rw [upd_same, et, wl_append]
  · obtain ⟨e, l1, x0, y0, hl1, hl2, rfl⟩ := h
    rw [wl_len, List.take_length] at hl2
    exact ⟨_, rfl, q l1 _ e hl1 hl2⟩
abbrev sp_truth : L2.Sp := S2 fun a b H Q _ => ∃ x, a = .bl x ∧ b = .bl x ∧ Q (.bl true) H
theorem ok_law_truth (T : Tx P K mg) : Has P w K mg base 1 "_law_truth" ["_law_value", "_law_due"] sp_truth := by
  refine ⟨g_law_truth T, ok2 (F_law_truth T) sc_law_truth fun cdv A outer s H a b Q E hr h => ?_⟩
  obtain ⟨x, rfl, rfl, q⟩ := h
  refine ⟨_, (pss_one (ps_ret (pe_ifExp (pt_val (pv 1)) (pe_cmpR op_isBl (pv 0) pe_bl (nomark _)) (pe_cmpR op_isBl (pv 0) pe_bl (nomark _))))), ?_⟩
  cases x with
  | true => exact ⟨_, rfl, _, rfl, iteT ⟨_, rfl, _, _, rfl, rfl, q⟩⟩
  | false => exact ⟨_, rfl, _, rfl, iteF ⟨_, rfl, _, _, rfl, rfl, q⟩⟩
abbrev sp_is_space (K : PySem.W.Frag) : L2.Sp := S3 fun a b c H Q _ => ∃ p n R l u, a = .ref p ∧ b = nV n ∧ c = .ref l ∧ SpaceAt K H p n R ∧ RowsOf u R ∧ SqL K H l (wl u) ∧ u.length ≤ 60 ∧ R.length ≤ 60 ∧ ∀ H', Same H H' → Q (.bl true) H'
theorem ok_law_is_space (T : Tx P K mg) : Has P w K mg base 4 "_law_is_space" ["_law_value", "_law_bits", "_law_words"] (sp_is_space K) := by
  refine ⟨g_law_is_space T, ok3 (F_law_is_space T) sc_law_is_space fun cdv A outer s H a b c Q E hr h => ?_⟩
  obtain ⟨p, n, R, l, u, rfl, rfl, rfl, hp, hR, hl, hu, hz, q⟩ := h
  refine ⟨_, (pss_cons (ps_if (PW.pt (pw_or (pt_not (pt_val (pe_callB call_isi (by rfl) (b_isinstance T) bb_isinstance (pa_cons (pv 0) (pa_cons (pe_glob (v := .ref (He.ga K "Space")) (by rfl) (g_Space T) rfl) pa_nil))))) (pw_or (pt_cmpR op_neM (pe_fldK K (pv 0)) (pv 1) (nomark _)) (pw_or1 (pt_cmpR op_neM (pe_fldK K (pv 0)) (pe_h (ok_law_size (K := K) T) (hr.mono (by decide)) passL (pa_cons (pv 2) pa_nil)) (nomark _)))))) (pss_one (ps_ret pe_bl)) pss_nil)
    (pss_one (ps_ret (pe_cmpR op_eqM (pe_h (ok_law_size (K := K) T) (hr.mono (by decide)) passL (pa_cons (pe_op op_cat (pe_callTy (call_listM K) (by rfl) (b_list T) bb_list (pa_cons (pv 2) pa_nil)) (pe_callTy (call_listM K) (by rfl) (b_list T) bb_list (pa_cons (pe_fldK K (pv 0)) pa_nil))) pa_nil)) (pe_fldK K (pv 0)) (nomark _))))), ?_⟩
  have hs : lsize u = R.length := by rw [lsize_rk, hR.len]
  have hs2 : lsize (u ++ R) = R.length := by
    rw [lsize_rk, hR.len]
    refine rk_same fun x => ⟨sp_mono fun w hw => ?_, sp_sub fun w hw => List.mem_append_left _ hw⟩
    rcases List.mem_append.mp hw with hw | hw
    · exact sp_mem hw
    · exact (hR.2 w).mp (sp_mem hw)
  refine ⟨_, rfl, _, _, _, _, _, rfl, .own _, ty_Space T hp, kit_Space_Space T, _, rfl, iteF ⟨_, rfl, at_Space_bits T hp ⟨_, rfl, n, n, rfl, rfl, _, rfl, iteN (fun z => absurd rfl z) (fun _ => ?_)⟩⟩⟩
  refine ⟨_, rfl, at_Space_dimension T hp ⟨_, rfl, _, rfl, l, true, u, rfl, hl, by omega, fun H1 e1 => ⟨_, _, rfl, rfl, _, rfl, iteN (fun z => absurd hs.symm z) (fun _ => ?_)⟩⟩⟩
  refine ⟨_, rfl, l, true, _, rfl, e1.seq hl, fun l1 hl1 => ?_⟩
  have e2 := e1.new' (o := .lst (wl u)) hl1
  refine ⟨_, rfl, at_Space_rows T (SpaceAt.same e2 hp) fun r hr => ⟨r, false, _, rfl, hr, fun l2 hl2 => ?_⟩⟩
  have e3 := e2.new' (o := .lst (wl R)) hl2
  refine ⟨l1, l2, _, _, rfl, rfl, by rw [upd_ne (ne_of_none upd_same hl2)]; exact upd_same, upd_same, by simp only [wl, List.length_map]; exact Nat.le_of_lt (small1000 (by omega)), fun l3 hl3 => ?_⟩
  have e4 := e3.new' (o := .lst (wl u ++ wl R)) hl3
  refine ⟨_, rfl, l3, true, u ++ R, rfl, by rw [wl_append]; exact SqL.of upd_same, by rw [List.length_append]; omega, fun H5 e5 => ⟨_, rfl, at_Space_dimension T (SpaceAt.same (e4.trans e5) hp) ⟨_, _, rfl, rfl, ?_⟩⟩⟩
  show Q (.bl (decide (lsize (u ++ R) = R.length))) H5
  rw [decide_eq_true hs2]
  exact q _ (e4.trans e5)
end
end L2.Lk
/-! L5 -/
set_option Elab.async false
set_option linter.all false
set_option maxRecDepth 100000
set_option maxHeartbeats 2000000
namespace L2.Lk
open PySem PySem.Spec PyProof.Rows
theorem Lt.snoc {n x : Nat} {ws : List Nat} (h : Lt n ws) (hx : x < 2 ^ n) : Lt n (ws ++ [x]) := fun w hw => by
  rcases List.mem_append.mp hw with hw | hw
  · exact h w hw
  · rw [List.mem_singleton.mp hw]; exact hx
section
variable {P : Program} {w : World} {K : PySem.W.Frag} {mg : Str → Option Value} {base : Heap}
abbrev sp_words_for : L2.Sp := S4 fun a b d g H Q _ => ∃ pen c f n many style, a = .ref pen ∧ b = nV n ∧ d = nV many ∧ g = nV style ∧ n ≤ 60 ∧ many ≤ 2 ∧ PenAt H pen c (f + many * 62) ∧
  ∀ r ws H', ws.length = many → Lt n ws → Sx [pen] H H' → H r = none → H' r = some (.lst (wl ws)) → PenAt H' pen c f → Q (.ref r) H'
theorem ok_law_words_for (T : Tx P K mg) : Has P w K mg base 3 "_law_words_for" ["_law_pen", "_law_bits", "_law_many", "_law_style"] sp_words_for := by
  refine ⟨g_law_words_for T, ok4 (F_law_words_for T) sc_law_words_for fun cdv A outer s H a b d g Q E hr h => ?_⟩
  obtain ⟨pen, c, f, n, many, style, rfl, rfl, rfl, rfl, hn, hm, hpen, q⟩ := h
  refine ⟨_, (pss_cons (ps_set (i := 4) sc_law_words_for.nd rfl (.inl rfl) (pe_lst pa_nil))
    (pss_cons (ps_for (passes_of rfl) rfl (pi_range1 (by rfl) (b_range T) (pa_cons (pv 2) pa_nil)) (pg_name (i := 5) sc_law_words_for.nd rfl (.inl rfl)) (pss_one (ps_if (PW.pt (pw_and (pt_cmpR op_eqM (pv 3) (pe_nat 0) (nomark _)) (pw_and1 (pt_cmpR op_gtM (pv 1) (pe_nat 0) (nomark _))))) (pss_one (ps_expr (pe_bm PySem.F.plainAttrs_list PySem.F.slot_list_append PySem.F.type_list_append mt_append (pv 4) (pa_cons (pe_op op_shlM (pe_nat 1) (pe_h (ok_law_draw (K := K) T) (hr.mono (by decide)) passL (pa_cons (pv 0) (pa_cons (pv 1) pa_nil)))) pa_nil)))) (pss_one (ps_if (PW.pt (pw_and (pt_cmpR op_eqM (pv 3) (pe_nat 2) (nomark _)) (pw_and (pt_cmpR (op_neDK K hr.units) (pv 4) (pe_lst pa_nil) (nomark _)) (pw_and1 (pt_cmpR op_eqM (pe_h (ok_law_draw (K := K) T) (hr.mono (by decide)) passL (pa_cons (pv 0) (pa_cons (pe_nat 3) pa_nil))) (pe_nat 0) (nomark _)))))) (pss_one (ps_expr (pe_bm PySem.F.plainAttrs_list PySem.F.slot_list_append PySem.F.type_list_append mt_append (pv 4) (pa_cons (pe_h (ok_law_pick (K := K) T) (hr.mono (by decide)) passL (pa_cons (pv 0) (pa_cons (pe_op op_cat (pv 4) (pe_lst (pa_cons (pe_nat 0) pa_nil))) pa_nil))) pa_nil)))) (pss_one (ps_expr (pe_bm PySem.F.plainAttrs_list PySem.F.slot_list_append PySem.F.type_list_append mt_append (pv 4) (pa_cons (pe_h (ok_law_word (K := K) T) (hr.mono (by decide)) passL (pa_cons (pv 0) (pa_cons (pv 1) pa_nil))) pa_nil)))))))))
    (pss_one (ps_ret (pv 4))))), ?_⟩
  refine ⟨Nat.zero_le _, fun l hln => ?_⟩
  have e0 := Same.new (H := H) (o := .lst []) hln
  refine ⟨_, rfl, many, rfl, by omega, by omega, for_rangeM (n := many) (Pv := fun i σ H' => Sx [pen] H H' ∧ PenAt H' pen c (f + (many - i) * 62) ∧ (∃ ws, H' l = some (.lst (wl ws)) ∧ ws.length = i ∧ Lt n ws) ∧ ∃ y, σ = [some (.ref pen), some (nV n), some (nV many), some (nV style), some (.ref l), y])
    ⟨e0.sx, hpen.same e0, ⟨[], upd_same, rfl, fun w hw => by cases hw⟩, none, rfl⟩ (fun i σ H1 hi p => ?_) (fun σ H1 p => ?_)⟩
  · obtain ⟨e, hp, ⟨ws, hl, hwl, hlt⟩, y, rfl⟩ := p
    have hf : (many - i) * 62 = (many - (i + 1)) * 62 + 62 := by rw [show many - i = (many - (i + 1)) + 1 from by omega, Nat.add_mul]
    rw [hf] at hp
    refine ⟨_, rfl, style, 0, rfl, rfl, _, rfl, iteD (fun h0 => ⟨_, rfl, n, 0, rfl, rfl, _, rfl, iteD (fun hn0 => ?_) (fun hn0 => ?_)⟩) (fun h0 => iteF ?_)⟩
    · refine ⟨_, rfl, .inl ⟨rfl, _, SqL.of hl⟩, _, rfl, _, rfl, _, _, rfl, pen, c, f + (many - (i + 1)) * 62, n, rfl, rfl, by omega, by omega, hp.mono (by omega), fun x H3 hx e3 hp3 => ?_⟩
      exact ⟨1, x, rfl, rfl, ⟨by omega, by omega⟩, l, _, _, rfl, rfl, (hp.stay e3).lst hl, by rw [wl_len]; exact small1000 (by omega), (e.trans e3).but hln, hpen.keep hln hp3, ⟨ws ++ [1 * 2 ^ x], by rw [upd_same, wl_snoc], by rw [List.length_append, hwl]; rfl, hlt.snoc (by rw [Nat.one_mul]; exact Nat.pow_lt_pow_right (by decide) hx)⟩, _, rfl⟩
    · refine ⟨_, rfl, style, 2, rfl, rfl, _, rfl, iteD (fun h2 => by omega) (fun _ => iteF ?_)⟩
      refine ⟨_, rfl, .inl ⟨rfl, _, SqL.of hl⟩, _, rfl, _, rfl, _, _, rfl, pen, c, f + (many - (i + 1)) * 62, n, rfl, rfl, by omega, hp.mono (by omega), fun x H3 hx e3 hp3 => ?_⟩
      exact ⟨l, _, _, rfl, rfl, (hp.stay e3).lst hl, by rw [wl_len]; exact small1000 (by omega), (e.trans e3).but hln, hpen.keep hln hp3, ⟨ws ++ [x], by rw [upd_same, wl_snoc], by rw [List.length_append, hwl]; rfl, hlt.snoc hx⟩, _, rfl⟩
    · refine ⟨_, rfl, style, 2, rfl, rfl, _, rfl, iteD (fun h2 => ?_) (fun _ => iteF ?_)⟩
      rotate_left
      · refine ⟨_, rfl, .inl ⟨rfl, _, SqL.of hl⟩, _, rfl, _, rfl, _, _, rfl, pen, c, f + (many - (i + 1)) * 62, n, rfl, rfl, by omega, hp.mono (by omega), fun x H3 hx e3 hp3 => ?_⟩
        exact ⟨l, _, _, rfl, rfl, (hp.stay e3).lst hl, by rw [wl_len]; exact small1000 (by omega), (e.trans e3).but hln, hpen.keep hln hp3, ⟨ws ++ [x], by rw [upd_same, wl_snoc], by rw [List.length_append, hwl]; rfl, hlt.snoc hx⟩, _, rfl⟩
      have e2 : Same H1 _ := Same.refl _
      refine ⟨_, rfl, Nat.zero_le _, fun l2 hl2 => ne_wlL (as := ws) (bs := []) (SqL.of ((Same.new hl2) _ _ hl)) (SqL.of upd_same) ⟨_, rfl, iteN (fun hne => ?_) (fun _ => iteF ?_)⟩⟩
      rotate_left
      · have hp := hp.same (Same.new (o := .lst []) hl2)
        have hl := (Same.new (o := .lst []) hl2) _ _ hl
        have e := e.then (Same.new (o := .lst []) hl2)
        refine ⟨_, rfl, .inl ⟨rfl, _, SqL.of hl⟩, _, rfl, _, rfl, _, _, rfl, pen, c, f + (many - (i + 1)) * 62, n, rfl, rfl, by omega, hp.mono (by omega), fun x H3 hx e3 hp3 => ?_⟩
        exact ⟨l, _, _, rfl, rfl, (hp.stay e3).lst hl, by rw [wl_len]; exact small1000 (by omega), (e.trans e3).but hln, hpen.keep hln hp3, ⟨ws ++ [x], by rw [upd_same, wl_snoc], by rw [List.length_append, hwl]; rfl, hlt.snoc hx⟩, _, rfl⟩
      have hp := hp.same (Same.new (o := .lst []) hl2)
      have hl := (Same.new (o := .lst []) hl2) _ _ hl
      have e := e.then (Same.new (o := .lst []) hl2)
      refine ⟨_, rfl, _, _, rfl, pen, c, f + (many - (i + 1)) * 62 + 61, 3, rfl, rfl, by decide, by decide, hp.mono (by omega), fun r H2 hr e2 hp2 => ⟨r, 0, rfl, rfl, _, rfl, iteD (fun hr0 => ?_) (fun _ => ?_)⟩⟩
      · have hl := (hp.stay e2).lst hl
        have e := e.trans e2
        refine ⟨_, rfl, .inl ⟨rfl, _, SqL.of hl⟩, _, rfl, _, rfl, by show 1 ≤ sizeLine; decide, fun l3 hl3 => ?_⟩
        have e3 := Same.new (o := .lst [nV 0]) hl3
        refine ⟨l, l3, _, _, rfl, rfl, e3 _ _ hl, upd_same, by rw [wl_len]; exact Nat.le_of_lt (small1000 (by simp only [List.length_cons, List.length_nil]; omega)), fun l4 hl4 => ?_⟩
        have e4 := e3.new' (o := .lst (wl ws ++ [nV 0])) hl4
        refine ⟨_, _, rfl, pen, c, f + (many - (i + 1)) * 62, l4, wl (ws ++ [0]), rfl, rfl, by rw [wl_snoc]; exact SqL.of upd_same, by rw [wl_len, List.length_append]; simp, by rw [wl_len, List.length_append]; simp; omega, (hp2.same e4).mono (by omega), fun j v H5 hv e5 hp5 => ?_⟩
        obtain ⟨x, hx, rfl⟩ := wl_of hv
        have hx : x < 2 ^ n := (hlt.snoc (Nat.two_pow_pos n)) x (List.mem_of_getElem? hx)
        exact ⟨l, _, _, rfl, rfl, ((hp2.same e4).stay e5).lst (e4 _ _ hl), by rw [wl_len]; exact small1000 (by omega), ((e.then e4).trans e5).but hln, hpen.keep hln hp5, ⟨ws ++ [x], by rw [upd_same, wl_snoc], by rw [List.length_append, hwl]; rfl, hlt.snoc hx⟩, _, rfl⟩
      · have hl := (hp.stay e2).lst hl
        have e := e.trans e2
        refine ⟨_, rfl, .inl ⟨rfl, _, SqL.of hl⟩, _, rfl, _, rfl, _, _, rfl, pen, c, f + (many - (i + 1)) * 62, n, rfl, rfl, by omega, hp2.mono (by omega), fun x H3 hx e3 hp3 => ?_⟩
        exact ⟨l, _, _, rfl, rfl, (hp2.stay e3).lst hl, by rw [wl_len]; exact small1000 (by omega), (e.trans e3).but hln, hpen.keep hln hp3, ⟨ws ++ [x], by rw [upd_same, wl_snoc], by rw [List.length_append, hwl]; rfl, hlt.snoc hx⟩, _, rfl⟩
  · obtain ⟨e, hp, ⟨ws, hl, hwl, hlt⟩, y, rfl⟩ := p
    exact ⟨_, rfl, q l ws _ hwl hlt e hln hl (hp.mono (by omega))⟩
end
end L2.Lk
/-! L6 -/
set_option Elab.async false
set_option linter.all false
set_option maxRecDepth 100000
set_option maxHeartbeats 2000000
namespace L2.Lk
open PySem PySem.Spec PyProof.Rows
/-! ### columns, one by one changed -/
theorem set_span {cs : List Nat} {n i j : Nat} (hl : cs.length = n) (hlt : Lt n cs) (hr : rk cs = n) (hi : i < n) (hj : j < n) (y : Nat) (hy : y = cs[i]'(by omega) ^^^ (if i ≠ j then cs[j]'(by omega) else 0)) : Lt n (cs.set i y) ∧ rk (cs.set i y) = n := by
  have hl1 : i < cs.length := by omega
  have hl2 : j < cs.length := by omega
  have h1 : cs[i] < 2 ^ n := hlt _ (List.getElem_mem hl1)
  have h2 : cs[j] < 2 ^ n := hlt _ (List.getElem_mem hl2)
  have hy2 : y < 2 ^ n := by
    rw [hy]
    refine Nat.xor_lt_two_pow h1 ?_
    split
    · exact h2
    · exact Nat.two_pow_pos n
  have hlt' : Lt n (cs.set i y) := fun w hw => by
    rcases List.mem_or_eq_of_mem_set hw with hw | hw
    · exact hlt w hw
    · rw [hw]; exact hy2
  refine ⟨hlt', (rk_all hlt').mpr fun x hx => sp_mono (fun w hw => ?_) ((rk_all hlt).mp hr x hx)⟩
  obtain ⟨k, hk, rfl⟩ := List.mem_iff_getElem.mp hw
  by_cases e : k = i
  · subst e
    have m1 : y ∈ cs.set k y := List.mem_iff_getElem.mpr ⟨k, by rw [List.length_set]; exact hk, by rw [List.getElem_set_self]⟩
    by_cases e2 : k = j
    · subst e2
      rw [if_neg (fun z => z rfl), Nat.xor_zero] at hy
      rw [← hy]; exact sp_mem m1
    · have m2 : cs[j] ∈ cs.set k y := List.mem_iff_getElem.mpr ⟨j, by rw [List.length_set]; exact hl2, by rw [List.getElem_set_ne e2]⟩
      rw [if_pos e2] at hy
      have e3 : y ^^^ cs[j] = cs[k] := by rw [hy, xx]
      have := sp_xor (sp_mem m1) (sp_mem m2)
      rw [e3] at this
      exact this
  · exact sp_mem (List.mem_iff_getElem.mpr ⟨k, by rw [List.length_set]; exact hk, by rw [List.getElem_set_ne (Ne.symm e)]⟩)
section
variable {P : Program} {w : World} {K : PySem.W.Frag} {mg : Str → Option Value} {base : Heap}
theorem PenAt.free {H H' : Hp} {pen c D : Addr} {f : Nat} (h : PenAt H' pen c f) (e : Sx [pen] H H') (hD : H' D = none) : H D = none := by
  cases q : H D with
  | none => rfl
  | some o =>
    have := e D o (fun z => (h.ne hD).1 (List.mem_singleton.mp z)) q
    rw [hD] at this
    cases this
/-- wl lists whose members are those of a permutation -/
theorem wl_perm {ys : List V} {ws : List Nat} (h : ys.Perm (wl ws)) : ∃ us, ys = wl us ∧ us.Perm ws := by
  have hm : ∀ y ∈ ys, ∃ n : Nat, y = nV n := fun y hy => by
    obtain ⟨n, _, e⟩ := List.mem_map.mp (h.mem_iff.mp hy)
    exact ⟨n, e.symm⟩
  have : ∀ ys : List V, (∀ y ∈ ys, ∃ n : Nat, y = nV n) → ∃ us, ys = wl us := by
    intro ys
    induction ys with
    | nil => exact fun _ => ⟨[], rfl⟩
    | cons y ys ih =>
      intro h
      obtain ⟨n, rfl⟩ := h y List.mem_cons_self
      obtain ⟨us, rfl⟩ := ih fun z hz => h z (List.mem_cons_of_mem _ hz)
      exact ⟨n :: us, rfl⟩
  obtain ⟨us, rfl⟩ := this ys hm
  refine ⟨us, rfl, ?_⟩
  have := h.map (fun v : V => match v with | .int i => i.toNat | _ => 0)
  simp only [wl, List.map_map] at this
  have e : ∀ l : List Nat, l.map ((fun v : V => match v with | .int i => i.toNat | _ => 0) ∘ nV) = l := fun l => by
    induction l with
    | nil => rfl
    | cons a l ih => rw [List.map_cons, ih]; congr 1
  rw [e, e] at this
  exact this
theorem units_map (n : Nat) : (List.range n).map (fun i => 1 * 2 ^ i) = units n := by unfold units; congr 1; funext i; rw [Nat.one_mul]
theorem units_len (n : Nat) : (units n).length = n := by unfold units; rw [List.length_map, List.length_range]
abbrev sp_undone (K : PySem.W.Frag) : L2.Sp := S2 fun a b H Q _ => ∃ pen c f n, a = .ref pen ∧ b = nV n ∧ n ≤ 4 ∧ PenAt H pen c (f + 40) ∧ ∀ r cs H', cs.length = n → Lt n cs → rk cs = n → Sx [pen] H H' → H r = none → H' r = some (.lst (wl cs)) → PenAt H' pen c f → Q (.ref r) H'
theorem ok_law_undone (T : Tx P K mg) : Has P w K mg base 3 "_law_undone" ["_law_pen", "_law_bits"] (sp_undone K) := by
  refine ⟨g_law_undone T, ok2 (F_law_undone T) sc_law_undone fun cdv A outer s H a b Q E hr h => ?_⟩
  obtain ⟨pen, c, f, n, rfl, rfl, hn, hpen, q⟩ := h
  refine ⟨_, (pss_cons (ps_set (i := 2) sc_law_undone.nd rfl (.inl rfl) (pe_h (ok_law_mixed (K := K) T) (hr.mono (by decide)) passL (pa_cons (pv 0) (pa_cons (pe_lc (own := [("_law_bit", 6)]) (g := gName 6) rfl sc_law_undone.nd (pi_range1 (by rfl) (b_range T) (pa_cons (pv 1) pa_nil)) (blkOk_by (own := [("_law_bit", 6)]) (N := N_law_undone) (sc := defScope st_law_undone) (by decide +kernel)) (fun _ _ _ _ _ => pg_name (i := 6) sc_law_undone.nd rfl (Or.inl rfl)) (fun _ _ _ _ _ => pts_nil) (fun _ _ _ _ _ => (pe_op op_shlM (pe_nat 1) (pv 6)))) pa_nil))))
    (pss_cons (ps_for (passes_of rfl) rfl (pi_range1 (by rfl) (b_range T) (pa_cons (pe_h (ok_law_draw (K := K) T) (hr.mono (by decide)) passL (pa_cons (pv 0) (pa_cons (pe_op op_addM (pe_op op_mulM (pe_nat 2) (pv 1)) (pe_nat 1)) pa_nil))) pa_nil)) (pg_name (i := 3) sc_law_undone.nd rfl (.inl rfl)) (pss_cons (ps_par (i := 4) (j := 5) rfl sc_law_undone.nd rfl rfl (by decide) rfl rfl (pa_cons (pe_h (ok_law_draw (K := K) T) (hr.mono (by decide)) passL (pa_cons (pv 0) (pa_cons (pv 1) pa_nil))) (pa_cons (pe_h (ok_law_draw (K := K) T) (hr.mono (by decide)) passL (pa_cons (pv 0) (pa_cons (pv 1) pa_nil))) pa_nil)) (by rfl))
    (pss_one (ps_asg (pe_op op_xorM (pe_ix ix_list (pv 2) (pv 4) (fun _ _ => rfl)) (pe_ifExp (pt_cmpR op_neM (pv 4) (pv 5) (nomark _)) (pe_ix ix_list (pv 2) (pv 5) (fun _ _ => rfl)) (pe_nat 0))) (pg_sub (pv 2) (pv 4) set_list)))))
    (pss_one (ps_ret (pv 2))))), ?_⟩
  refine ⟨_, rfl, _, rfl, n, rfl, by omega, by omega, lc_rangeN (n := n) (fun i => 1 * 2 ^ i) (by omega) (fun i H1 Nx No hi e1 hN => ⟨rfl, _, rfl, 1, i, rfl, rfl, ⟨by omega, by omega⟩, hN _ (Same.refl _)⟩) (fun D H1 hD e1 hd => ?_)⟩
  rw [units_map] at hd
  refine ⟨_, _, rfl, pen, c, f + 30, D, wl (units n), rfl, rfl, SqL.of hd, by rw [wl_len, units_len]; omega, (hpen.same e1).mono (by rw [wl_len, units_len]; omega), fun l ys H2 hperm e2 hl hl2 hp2 => ?_⟩
  obtain ⟨us, rfl, hus⟩ := wl_perm hperm
  have hln : H l = none := e1.free hl
  have hul : us.length = n := by rw [hus.length_eq, units_len]
  have hult : Lt n us := fun w hw => sp_units.mp (sp_mem (hus.mem_iff.mp hw))
  have hurk : rk us = n := by rw [rk_same (vs := us) (ws := units n) fun x => sp_same (fun w => hus.mem_iff) x, rk_units]
  refine ⟨_, rfl, _, rfl, 2, n, rfl, rfl, (by omega : 2 < 2 ^ 64), 2 * n, 1, rfl, rfl, _, _, rfl, pen, c, f + 20, 2 * n + 1, rfl, rfl, by omega, by omega, hp2.mono (by omega), fun r H3 hr3 e3 hp3 => ?_⟩
  have e13 := e1.sx.trans (e2.trans e3)
  refine ⟨r, rfl, by omega, by omega, for_rangeM (n := r) (Pv := fun i σ H' => Sx [pen] H H' ∧ PenAt H' pen c (f + 2 * (r - i)) ∧ (∃ cs, H' l = some (.lst (wl cs)) ∧ cs.length = n ∧ Lt n cs ∧ rk cs = n) ∧ ∃ x y z u, σ = [some (.ref pen), some (nV n), some (.ref l), x, y, z, u])
    ⟨e13, hp3.mono (by omega), ⟨us, ((hp2.mono (Nat.zero_le _)).stay e3).lst hl2, hul, hult, hurk⟩, none, none, none, none, rfl⟩ (fun i σ H4 hi p => ?_) (fun σ H4 p => ?_)⟩
  · obtain ⟨e, hp, ⟨cs, hcs, hcl, hclt, hcr⟩, x, y, z, u, rfl⟩ := p
    refine ⟨_, rfl, _, rfl, _, _, rfl, pen, c, f + 2 * (r - (i + 1)) + 1, n, rfl, rfl, by omega, by omega, hp.mono (by omega), fun i1 H5 hi1 e5 hp5 => ⟨_, rfl, _, rfl, _, _, rfl, pen, c, f + 2 * (r - (i + 1)), n, rfl, rfl, by omega, by omega, hp5, fun j1 H6 hj1 e6 hp6 => ?_⟩⟩
    have hcs6 := (hp5.stay e6).lst ((hp.stay e5).lst hcs)
    have e16 := e.trans (e5.trans e6)
    have ha : cs[i1]? = some (cs[i1]'(by omega)) := List.getElem?_eq_getElem (by omega)
    have hb : cs[j1]? = some (cs[j1]'(by omega)) := List.getElem?_eq_getElem (by omega)
    have at' : ∀ {k v : Nat}, cs[k]? = some v → atI (wl cs) (k : Int) = some (nV v) := fun {k v} h => atI_nat (by unfold wl; rw [List.getElem?_map, h]; rfl)
    have ix : ixN (wl cs).length ((i1 : Nat) : Int) = some i1 := by
      unfold ixN
      rw [wl_len, if_pos (by omega), if_pos (by omega), Int.toNat_natCast]
    have fin : ∀ y : Nat, y = cs[i1]'(by omega) ^^^ (if i1 ≠ j1 then cs[j1]'(by omega) else 0) → Sx [pen] H (upd H6 l (.lst ((wl cs).set i1 (nV y)))) ∧ PenAt (upd H6 l (.lst ((wl cs).set i1 (nV y)))) pen c (f + 2 * (r - (i + 1))) ∧ (∃ cs', (upd H6 l (.lst ((wl cs).set i1 (nV y)))) l = some (.lst (wl cs')) ∧ cs'.length = n ∧ Lt n cs' ∧ rk cs' = n) := fun y hy => by
      obtain ⟨z1, z2⟩ := set_span hcl hclt hcr hi1 hj1 y hy
      exact ⟨e16.but hln, hpen.keep hln hp6, cs.set i1 y, by rw [upd_same]; unfold wl; rw [List.map_set], by rw [List.length_set]; exact hcl, z1, z2⟩
    refine ⟨_, _, rfl, _, rfl, _, rfl, l, _, _, _, rfl, rfl, SqL.of hcs6, at' ha, _, rfl, _, rfl, _, _, rfl, rfl, _, rfl, iteN (fun hne => ?_) (fun heq => ?_)⟩
    · obtain ⟨z1, z2, z3⟩ := fin _ (by rw [if_pos hne])
      exact ⟨_, rfl, _, rfl, l, _, _, _, rfl, rfl, SqL.of hcs6, at' hb, _, _, rfl, rfl, _, rfl, _, rfl, l, _, _, i1, rfl, rfl, hcs6, ix, z1, z2, z3, _, _, _, _, rfl⟩
    · obtain ⟨z1, z2, z3⟩ := fin (cs[i1]'(by omega) ^^^ 0) (by rw [if_neg (fun z => z heq)])
      exact ⟨_, 0, rfl, rfl, _, rfl, _, rfl, l, _, _, i1, rfl, rfl, hcs6, ix, z1, z2, z3, _, _, _, _, rfl⟩
  · obtain ⟨e, hp, ⟨cs, hcs, hcl, hclt, hcr⟩, x, y, z, u, rfl⟩ := p
    exact ⟨_, rfl, q l cs _ hcl hclt hcr e hln hcs (hp.mono (by omega))⟩
end
end L2.Lk
/-! L7 -/
set_option Elab.async false
set_option linter.all false
set_option maxRecDepth 100000
set_option maxHeartbeats 2000000
namespace L2.Lk
open PySem PySem.Spec PyProof.Rows
theorem left_zero {rows ws : List Nat} (h : Ech tz rows) (hs : ∀ x, Spn rows x ↔ Spn ws x) {w : Nat} (e : lleft rows w = 0) : Spn ws w := (hs w).mp ((offs_iff h).mpr e)
theorem left_step {rows ws ws' : List Nat} (h : Ech tz rows) (hs : ∀ x, Spn rows x ↔ Spn ws x) {w : Nat} (hn : lleft rows w ≠ 0) (hm : ∀ x, x ∈ ws' ↔ x ∈ ws ∨ x = w) : Ech tz (rows ++ [lleft rows w]) ∧ ∀ x, Spn (rows ++ [lleft rows w]) x ↔ Spn ws' x := by
  have h0 : Spn rows (w ^^^ lleft rows w) := offs_sp tz rows w
  have inl : ∀ {x}, Spn rows x → Spn (rows ++ [lleft rows w]) x := fun hx => sp_sub (fun y hy => List.mem_append_left _ hy) hx
  have inw : ∀ {x}, Spn ws x → Spn ws' x := fun hx => sp_sub (fun y hy => (hm y).mpr (.inl hy)) hx
  refine ⟨ech_snoc h (offs_bits h) (tz_bit hn), fun x => ⟨sp_mono fun y hy => ?_, sp_mono fun y hy => ?_⟩⟩
  · rcases List.mem_append.mp hy with hy | hy
    · exact inw ((hs y).mp (sp_mem hy))
    · rw [List.mem_singleton.mp hy]
      have := sp_xor (sp_mem ((hm w).mpr (.inr rfl))) (inw ((hs _).mp h0))
      rw [← Nat.xor_assoc, Nat.xor_self, Nat.zero_xor] at this
      exact this
  · rcases (hm y).mp hy with hy | hy
    · exact inl ((hs y).mpr (sp_mem hy))
    · rw [hy]
      have := sp_xor (inl h0) (sp_mem (List.mem_append_right rows List.mem_cons_self))
      rw [xx] at this
      exact this
section
variable {P : Program} {w : World} {K : PySem.W.Frag} {mg : Str → Option Value} {base : Heap}
abbrev sp_spread_words (K : PySem.W.Frag) : L2.Sp := S4 fun a b d g H Q _ => ∃ pen c f n sl la, a = .ref pen ∧ b = nV n ∧ d = nV sl ∧ g = nV la ∧ n ≤ 4 ∧ sl ≤ 2 ∧ la ≤ 2 ∧ PenAt H pen c (f + 300) ∧
  ∀ t l1 l2 ss ls H', (Thing.spread n ss ls).Wf → Sx [pen] H H' → H' t = some (.tup [.ref l1, .ref l2]) → H' l1 = some (.lst (wl ss)) → H' l2 = some (.lst (wl ls)) → PenAt H' pen c f → Q (.ref t) H'
theorem ok_law_spread_words (T : Tx P K mg) : Has P w K mg base 4 "_law_spread_words" ["_law_pen", "_law_bits", "_law_slots", "_law_lanes"] (sp_spread_words K) := by
  refine ⟨g_law_spread_words T, ok4 (F_law_spread_words T) sc_law_spread_words fun cdv A outer s H a b d g Q E hr h => ?_⟩
  obtain ⟨pen, c, f, n, sl, la, rfl, rfl, rfl, rfl, hn, hsl, hla, hpen, q⟩ := h
  refine ⟨_, (pss_cons (ps_set (i := 4) sc_law_spread_words.nd rfl (.inl rfl) (pe_h (ok_law_draw (K := K) T) (hr.mono (by decide)) passL (pa_cons (pv 0) (pa_cons (pe_nat 3) pa_nil))))
    (pss_cons (ps_par (i := 5) (j := 6) rfl sc_law_spread_words.nd rfl rfl (by decide) rfl rfl (pa_cons (pe_h (ok_law_words_for (K := K) T) (hr.mono (by decide)) passL (pa_cons (pv 0) (pa_cons (pv 1) (pa_cons (pv 2) (pa_cons (pv 4) pa_nil))))) (pa_cons (pe_h (ok_law_words_for (K := K) T) (hr.mono (by decide)) passL (pa_cons (pv 0) (pa_cons (pv 1) (pa_cons (pv 3) (pa_cons (pv 4) pa_nil))))) pa_nil)) (by rfl))
    (pss_cons (ps_set (i := 7) sc_law_spread_words.nd rfl (.inl rfl) (pe_h (ok_law_basis (K := K) T) (hr.mono (by decide)) passL (pa_cons (pe_op op_cat (pv 5) (pv 6)) pa_nil)))
    (pss_cons (ps_for (passes_of rfl) rfl (pi_seq (pe_h (ok_law_mixed (K := K) T) (hr.mono (by decide)) passL (pa_cons (pv 0) (pa_cons (pe_lc (own := [("_law_bit", 10)]) (g := gName 10) rfl sc_law_spread_words.nd (pi_range1 (by rfl) (b_range T) (pa_cons (pv 1) pa_nil)) (blkOk_by (own := [("_law_bit", 10)]) (N := N_law_spread_words) (sc := defScope st_law_spread_words) (by decide +kernel)) (fun _ _ _ _ _ => pg_name (i := 10) sc_law_spread_words.nd rfl (Or.inl rfl)) (fun _ _ _ _ _ => pts_nil) (fun _ _ _ _ _ => (pe_op op_shlM (pe_nat 1) (pv 10)))) pa_nil)))) (pg_name (i := 8) sc_law_spread_words.nd rfl (.inl rfl)) (pss_cons (ps_set (i := 9) sc_law_spread_words.nd rfl (.inl rfl) (pe_h (ok_law_left (K := K) T) (hr.mono (by decide)) passL (pa_cons (pv 7) (pa_cons (pv 8) pa_nil))))
    (pss_one (ps_if (pt_cmpR op_neM (pv 9) (pe_nat 0) (nomark _)) (pss_cons (ps_expr (pe_bm PySem.F.plainAttrs_list PySem.F.slot_list_append PySem.F.type_list_append mt_append (pv 7) (pa_cons (pv 9) pa_nil)))
    (pss_one (ps_if (pt_cmpR op_eqM (pe_h (ok_law_draw (K := K) T) (hr.mono (by decide)) passL (pa_cons (pv 0) (pa_cons (pe_nat 2) pa_nil))) (pe_nat 0) (nomark _)) (pss_one (ps_expr (pe_bm PySem.F.plainAttrs_list PySem.F.slot_list_append PySem.F.type_list_append mt_append (pv 5) (pa_cons (pv 8) pa_nil)))) (pss_one (ps_expr (pe_bm PySem.F.plainAttrs_list PySem.F.slot_list_append PySem.F.type_list_append mt_append (pv 6) (pa_cons (pv 8) pa_nil))))))) pss_nil))))
    (pss_one (ps_ret (pe_tup (pa_cons (pe_h (ok_law_mixed (K := K) T) (hr.mono (by decide)) passL (pa_cons (pv 0) (pa_cons (pv 5) pa_nil))) (pa_cons (pe_h (ok_law_mixed (K := K) T) (hr.mono (by decide)) passL (pa_cons (pv 0) (pa_cons (pv 6) pa_nil))) pa_nil))))))))), ?_⟩
  refine ⟨_, rfl, _, _, rfl, pen, c, f + 299, 3, rfl, rfl, by decide, by decide, hpen.mono (by omega), fun style H1 hst e1 hp1 => ?_⟩
  refine ⟨_, rfl, _, rfl, _, rfl, _, rfl, _, _, _, _, rfl, pen, c, f + 175, n, sl, style, rfl, rfl, rfl, rfl, by omega, hsl, hp1.mono (by omega), fun ls ss H2 hssl hslt e2 hlsn hls hp2 => ?_⟩
  refine ⟨_, rfl, _, rfl, _, rfl, _, rfl, _, _, _, _, rfl, pen, c, f + 50, n, la, style, rfl, rfl, rfl, rfl, by omega, hla, hp2.mono (by omega), fun lo os H3 hosl holt e3 hlon hlo hp3 => ?_⟩
  have hls3 := (hp2.stay e3).lst hls
  have hlsH : H ls = none := hp1.free e1 hlsn
  have hloH : H lo = none := hp2.free (e1.trans e2) hlon
  have e03 := (e1.trans e2).trans e3
  have hne : ls ≠ lo := fun z => by rw [← z, hls] at hlon; cases hlon
  refine ⟨_, _, rfl, _, rfl, _, rfl, ls, lo, _, _, rfl, rfl, hls3, hlo, by simp only [wl, List.length_map]; exact Nat.le_of_lt (small1000 (by omega)), fun l4 hl4 => ?_⟩
  have e4 := Same.new (o := .lst (wl ss ++ wl os)) hl4
  refine ⟨_, rfl, l4, true, ss ++ os, rfl, by rw [wl_append]; exact SqL.of upd_same, by rw [List.length_append]; omega, fun lr H5 e5 hlrn hlr => ?_⟩
  have e35 := e4.trans e5
  have hlr3 : H3 lr = none := e4.free hlrn
  have hlrH : H lr = none := hp3.free e03 hlr3
  refine ⟨_, rfl, _, rfl, n, rfl, by omega, by omega, lc_rangeN (n := n) (fun i => 1 * 2 ^ i) (by omega) (fun i H1 Nx No hi e1 hN => ⟨rfl, _, rfl, 1, i, rfl, rfl, ⟨by omega, by omega⟩, hN _ (Same.refl _)⟩) (fun D H6 hD e6 hd => ?_)⟩
  rw [units_map] at hd
  have e36 := e35.trans e6
  refine ⟨_, _, rfl, pen, c, f + 40, D, wl (units n), rfl, rfl, SqL.of hd, by rw [wl_len, units_len]; omega, (hp3.same e36).mono (by rw [wl_len, units_len]; omega), fun lm ys H7 hperm e7 hlmn hlm hp7 => ?_⟩
  obtain ⟨us, rfl, hus⟩ := wl_perm hperm
  have hul : us.length = n := by rw [hus.length_eq, units_len]
  have hult : ∀ {w}, w ∈ us → w < 2 ^ n := fun hw => sp_units.mp (sp_mem (hus.mem_iff.mp hw))
  have st7 := (hp3.same e36).stay e7
  have hls7 := st7.lst (e36 _ _ hls3)
  have hlo7 := st7.lst (e36 _ _ hlo)
  have hlr7 := st7.lst (e6 _ _ hlr)
  have d1 : lr ≠ ls := fun z => by rw [z, hls3] at hlr3; cases hlr3
  have d2 : lr ≠ lo := fun z => by rw [z, hlo] at hlr3; cases hlr3
  have m1 : lm ≠ ls := fun z => by rw [z, e36 _ _ hls3] at hlmn; cases hlmn
  have m2 : lm ≠ lo := fun z => by rw [z, e36 _ _ hlo] at hlmn; cases hlmn
  have m3 : lm ≠ lr := fun z => by rw [z, e6 _ _ hlr] at hlmn; cases hlmn
  have e07 := (e03.then e36).trans e7
  refine ⟨lm, rfl, for_sq (k := true) (xs := wl us) (Pv := fun i σ H' => Sx [pen] H H' ∧ PenAt H' pen c (f + 20 + (n - i)) ∧ H' lm = some (.lst (wl us)) ∧ (∃ ss os rows, H' ls = some (.lst (wl ss)) ∧ H' lo = some (.lst (wl os)) ∧ H' lr = some (.lst (wl rows)) ∧ Ech tz rows ∧ (∀ x, Spn rows x ↔ Spn (ss ++ os) x) ∧ (∀ w ∈ us.take i, Spn (ss ++ os) w) ∧ ss.length ≤ 2 + i ∧ os.length ≤ 2 + i ∧ rows.length ≤ 4 + i ∧ Lt n ss ∧ Lt n os) ∧
      ∃ x y z, σ = [some (.ref pen), some (nV n), some (nV sl), some (nV la), some (nV style), some (.ref ls), some (.ref lo), some (.ref lr), x, y, z])
    ⟨e07, hp7.mono (by omega), hlm, ⟨ss, os, lbasis (ss ++ os), hls7, hlo7, hlr7, lbasis_ech _, lbasis_sp _, (fun w hw => by cases hw), by omega, by omega, Nat.le_trans (lbasis_len _) (by rw [List.length_append]; omega), hslt, holt⟩, none, none, none, rfl⟩ (fun i σ H' p => SqL.of p.2.2.1) (fun i v σ H8 hv p => ?_) (fun σ H8 p => ?_)⟩
  · obtain ⟨e, hp, hlm, ⟨ss, os, rows, hs, ho, hr, hE, hsp, hin, b1, b2, b3, hslt, holt⟩, x, y, z, rfl⟩ := p
    obtain ⟨w, hw, rfl⟩ := wl_of hv
    have hi : i < n := by have := (List.getElem?_eq_some_iff.mp hw).1; omega
    have hw2 := hult (List.mem_of_getElem? hw)
    have htk : us.take (i + 1) = us.take i ++ [w] := by rw [List.take_add_one, hw]; rfl
    refine ⟨_, rfl, _, rfl, _, _, rfl, lr, rows, w, rfl, rfl, SqL.of hr, fun r hr z => ?_, fun H9 e9 => ⟨_, rfl, _, 0, rfl, rfl, _, rfl, iteN (fun h0 => ?_) (fun h0 => ?_)⟩⟩
    · have := hE.2 r hr
      rw [z] at this
      simp at this
    · refine ⟨_, rfl, .inl ⟨rfl, _, SqL.of (e9 _ _ hr)⟩, _, rfl, lr, _, _, rfl, rfl, e9 _ _ hr, by rw [wl_len]; exact small1000 (by omega), ?_⟩
      have hp10 : PenAt (upd H9 lr (.lst (wl rows ++ [nV (lleft rows w)]))) pen c (f + 20 + (n - i)) := hpen.keep hlrH (hp.same e9)
      have e10 : Sx [pen] H (upd H9 lr (.lst (wl rows ++ [nV (lleft rows w)]))) := (e.then e9).but hlrH
      refine ⟨_, rfl, _, _, rfl, pen, c, f + 20 + (n - (i + 1)), 2, rfl, rfl, by decide, by decide, hp10.mono (by omega), fun r H11 hr11 e11 hp11 => ⟨r, 0, rfl, rfl, _, rfl, iteD (fun hr0 => ?_) (fun hr0 => ?_)⟩⟩
      · have st := hp10.stay e11
        have hs' := st.lst (show (upd H9 lr (.lst (wl rows ++ [nV (lleft rows w)]))) ls = some (.lst (wl ss)) by rw [upd_ne (Ne.symm d1)]; exact e9 _ _ hs)
        have ho' := st.lst (show (upd H9 lr (.lst (wl rows ++ [nV (lleft rows w)]))) lo = some (.lst (wl os)) by rw [upd_ne (Ne.symm d2)]; exact e9 _ _ ho)
        have hm' := st.lst (show (upd H9 lr (.lst (wl rows ++ [nV (lleft rows w)]))) lm = some (.lst (wl us)) by rw [upd_ne m3]; exact e9 _ _ hlm)
        have hr' := st.lst (show (upd H9 lr (.lst (wl rows ++ [nV (lleft rows w)]))) lr = some (.lst (wl (rows ++ [lleft rows w]))) by rw [upd_same, wl_snoc])
        obtain ⟨z1, z2⟩ := left_step (ws' := (ss ++ [w]) ++ os) hE hsp h0 (fun x => by simp only [List.mem_append, List.mem_singleton]; grind)
        exact ⟨_, rfl, .inl ⟨rfl, _, SqL.of hs'⟩, _, rfl, ls, _, _, rfl, rfl, hs', by rw [wl_len]; exact small1000 (by omega), (e10.trans e11).but hlsH, hpen.keep hlsH hp11, by rw [upd_ne m1]; exact hm',
          ⟨ss ++ [w], os, rows ++ [lleft rows w], by rw [upd_same, wl_snoc], by rw [upd_ne (Ne.symm hne)]; exact ho', by rw [upd_ne d1]; exact hr', z1, z2, (fun u hu => by
            rw [htk] at hu
            rcases List.mem_append.mp hu with hu | hu
            · exact sp_sub (fun y hy => by simp only [List.mem_append, List.mem_singleton] at *; grind) (hin u hu)
            · rw [List.mem_singleton.mp hu]; exact sp_mem (by simp)), by rw [List.length_append]; simp; omega, by omega, by rw [List.length_append]; simp; omega, hslt.snoc hw2, holt⟩, _, _, _, rfl⟩
      · have st := hp10.stay e11
        have hs' := st.lst (show (upd H9 lr (.lst (wl rows ++ [nV (lleft rows w)]))) ls = some (.lst (wl ss)) by rw [upd_ne (Ne.symm d1)]; exact e9 _ _ hs)
        have ho' := st.lst (show (upd H9 lr (.lst (wl rows ++ [nV (lleft rows w)]))) lo = some (.lst (wl os)) by rw [upd_ne (Ne.symm d2)]; exact e9 _ _ ho)
        have hm' := st.lst (show (upd H9 lr (.lst (wl rows ++ [nV (lleft rows w)]))) lm = some (.lst (wl us)) by rw [upd_ne m3]; exact e9 _ _ hlm)
        have hr' := st.lst (show (upd H9 lr (.lst (wl rows ++ [nV (lleft rows w)]))) lr = some (.lst (wl (rows ++ [lleft rows w]))) by rw [upd_same, wl_snoc])
        obtain ⟨z1, z2⟩ := left_step (ws' := ss ++ (os ++ [w])) hE hsp h0 (fun x => by simp only [List.mem_append, List.mem_singleton]; grind)
        exact ⟨_, rfl, .inl ⟨rfl, _, SqL.of ho'⟩, _, rfl, lo, _, _, rfl, rfl, ho', by rw [wl_len]; exact small1000 (by omega), (e10.trans e11).but hloH, hpen.keep hloH hp11, by rw [upd_ne m2]; exact hm',
          ⟨ss, os ++ [w], rows ++ [lleft rows w], by rw [upd_ne hne]; exact hs', by rw [upd_same, wl_snoc], by rw [upd_ne d2]; exact hr', z1, z2, (fun u hu => by
            rw [htk] at hu
            rcases List.mem_append.mp hu with hu | hu
            · exact sp_sub (fun y hy => by simp only [List.mem_append, List.mem_singleton] at *; grind) (hin u hu)
            · rw [List.mem_singleton.mp hu]; exact sp_mem (by simp)), by omega, by rw [List.length_append]; simp; omega, by rw [List.length_append]; simp; omega, hslt, holt.snoc hw2⟩, _, _, _, rfl⟩
    · exact ⟨e.then e9, (hp.same e9).mono (by omega), e9 _ _ hlm, ⟨ss, os, rows, e9 _ _ hs, e9 _ _ ho, e9 _ _ hr, hE, hsp, (fun u hu => by
        rw [htk] at hu
        rcases List.mem_append.mp hu with hu | hu
        · exact hin u hu
        · rw [List.mem_singleton.mp hu]; exact left_zero hE hsp h0), by omega, by omega, by omega, hslt, holt⟩, _, _, _, rfl⟩
  · obtain ⟨e, hp, hlm, ⟨ss, os, rows, hs, ho, hr, hE, hsp, hin, b1, b2, b3, hslt, holt⟩, x, y, z, rfl⟩ := p
    rw [wl_len] at hin b1 b2 hp
    rw [List.take_length] at hin
    have hall : rk (ss ++ os) = n := (rk_all (fun w hw => by
      rcases List.mem_append.mp hw with hw | hw
      · exact hslt w hw
      · exact holt w hw)).mpr fun x hx => sp_mono (fun w hw => hin w (hus.mem_iff.mpr hw)) (sp_units.mpr hx)
    refine ⟨_, rfl, _, rfl, _, _, rfl, pen, c, f + 10, ls, wl ss, rfl, rfl, SqL.of hs, by rw [wl_len]; omega, hp.mono (by rw [wl_len]; omega), fun l1 ys1 H9 hpm1 e9 hl1n hl1 hp9 => ?_⟩
    obtain ⟨ss', rfl, hss⟩ := wl_perm hpm1
    refine ⟨_, rfl, _, rfl, _, _, rfl, pen, c, f, lo, wl os, rfl, rfl, SqL.of ((hp.stay e9).lst ho), by rw [wl_len]; omega, hp9.mono (by rw [wl_len]; omega), fun l2 ys2 H10 hpm2 e10 hl2n hl2 hp10 => ?_⟩
    obtain ⟨os', rfl, hos⟩ := wl_perm hpm2
    refine ⟨by show 2 ≤ sizeLine; decide, fun t ht => ?_⟩
    have e11 := Same.new (o := .tup [.ref l1, .ref l2]) ht
    refine q t l1 l2 ss' os' _ ⟨hn, by rw [hss.length_eq]; omega, by rw [hos.length_eq]; omega, fun w hw => hslt w (hss.mem_iff.mp hw), fun w hw => holt w (hos.mem_iff.mp hw), ?_⟩ (((e.trans e9).trans e10).then e11) upd_same (e11 _ _ ((hp9.stay e10).lst hl1)) (e11 _ _ hl2) (hp10.same e11)
    rw [← hall]
    exact rk_same fun x => sp_same (fun w => by rw [List.mem_append, List.mem_append, hss.mem_iff, hos.mem_iff]) x
/-! ### the law's things -/
def kindT : Thing → Str
  | .spread .. => "spread"
  | .space .. => "space"
  | .store .. => "store"
def wordsT : Thing → List Nat
  | .spread _ s _ => s
  | .space _ u => u
  | .store _ c _ => c
def MoreAt (K : PySem.W.Frag) (H : Hp) (v : V) : Thing → Prop
  | .spread _ _ l => ∃ m, v = .ref m ∧ SqT K H m (wl l)
  | .space _ _ => ∃ m, v = .ref m ∧ SqT K H m []
  | .store _ _ b => v = nV b
/-- the law's tuple of a thing -/
def LThAt (K : PySem.W.Frag) (H : Hp) (p : Addr) (t : Thing) : Prop := ∃ wd m, H p = some (.tup [.str (kindT t), nV t.bits, .ref wd, m]) ∧ SqT K H wd (wl (wordsT t)) ∧ MoreAt K H m t
theorem LThAt.stay {H H' : Hp} {p : Addr} {t : Thing} (h : LThAt K H p t) (e : Stay H H') : LThAt K H' p t := by
  obtain ⟨wd, m, h1, h2, h3⟩ := h
  refine ⟨wd, m, e.tup h1, SqT.stay h2 e, ?_⟩
  cases t with
  | spread n s l => obtain ⟨m, rfl, h⟩ := h3; exact ⟨m, rfl, SqT.stay h e⟩
  | space n u => obtain ⟨m, rfl, h⟩ := h3; exact ⟨m, rfl, SqT.stay h e⟩
  | store n c b => exact h3
theorem Same.stay {H H' : Hp} (e : Same H H') : Stay H H' := fun b o h _ _ => e b o h
theorem LThAt.same {H H' : Hp} {p : Addr} {t : Thing} (h : LThAt K H p t) (e : Same H H') : LThAt K H' p t := h.stay (Same.stay e)
abbrev sp_drawn_thing (K : PySem.W.Frag) : L2.Sp := S2 fun a b H Q _ => ∃ pen c f n, a = .ref pen ∧ b = nV n ∧ n ≤ 4 ∧ PenAt H pen c (f + 320) ∧ ∀ p t H', t.Wf → Sx [pen] H H' → LThAt K H' p t → PenAt H' pen c f → Q (.ref p) H'
theorem ok_law_drawn_thing (T : Tx P K mg) : Has P w K mg base 5 "_law_drawn_thing" ["_law_pen", "_law_bits"] (sp_drawn_thing K) := by
  refine ⟨g_law_drawn_thing T, ok2 (F_law_drawn_thing T) sc_law_drawn_thing fun cdv A outer s H a b Q E hr h => ?_⟩
  obtain ⟨pen, c, f, n, rfl, rfl, hn, hpen, q⟩ := h
  refine ⟨_, (pss_cons (ps_set (i := 2) sc_law_drawn_thing.nd rfl (.inl rfl) (pe_h (ok_law_pick (K := K) T) (hr.mono (by decide)) passL (pa_cons (pv 0) (pa_cons (pe_lst (pa_cons pe_str (pa_cons pe_str (pa_cons pe_str (pa_cons pe_str pa_nil))))) pa_nil))))
    (pss_cons (ps_if (pt_cmpR op_eq (pv 2) pe_str (nomark _)) (pss_cons (ps_asg (pe_h (ok_law_spread_words (K := K) T) (hr.mono (by decide)) passL (pa_cons (pv 0) (pa_cons (pv 1) (pa_cons (pe_h (ok_law_draw (K := K) T) (hr.mono (by decide)) passL (pa_cons (pv 0) (pa_cons (pe_nat 3) pa_nil))) (pa_cons (pe_h (ok_law_draw (K := K) T) (hr.mono (by decide)) passL (pa_cons (pv 0) (pa_cons (pe_nat 3) pa_nil))) pa_nil))))) (pg_tupK (n := 2) K rfl (pgs_cons (pg_name (i := 3) sc_law_drawn_thing.nd rfl (.inl rfl)) (pgs_cons (pg_name (i := 4) sc_law_drawn_thing.nd rfl (.inl rfl)) pgs_nil))))
    (pss_one (ps_ret (pe_tup (pa_cons pe_str (pa_cons (pv 1) (pa_cons (pe_callTy (call_tupleM K) (by rfl) (b_tuple T) bb_tuple (pa_cons (pv 3) pa_nil)) (pa_cons (pe_callTy (call_tupleM K) (by rfl) (b_tuple T) bb_tuple (pa_cons (pv 4) pa_nil)) pa_nil)))))))) pss_nil)
    (pss_cons (ps_if (pt_cmpR op_eq (pv 2) pe_str (nomark _)) (pss_one (ps_ret (pe_tup (pa_cons pe_str (pa_cons (pv 1) (pa_cons (pe_callTy (call_tupleM K) (by rfl) (b_tuple T) bb_tuple (pa_cons (pe_lc (own := [("_law_k", 5)]) (g := gName 5) rfl sc_law_drawn_thing.nd (pi_range1 (by rfl) (b_range T) (pa_cons (pe_h (ok_law_draw (K := K) T) (hr.mono (by decide)) passL (pa_cons (pv 0) (pa_cons (pe_nat 3) pa_nil))) pa_nil)) (blkOk_by (own := [("_law_k", 5)]) (N := N_law_drawn_thing) (sc := defScope st_law_drawn_thing) (by decide +kernel)) (fun _ _ _ _ _ => pg_name (i := 5) sc_law_drawn_thing.nd rfl (Or.inl rfl)) (fun _ _ _ _ _ => pts_nil) (fun _ _ _ _ _ => (pe_h (ok_law_word (K := K) T) (hr.mono (by decide)) passL (pa_cons (pv 0) (pa_cons (pv 1) pa_nil))))) pa_nil)) (pa_cons (pe_tup pa_nil) pa_nil))))))) pss_nil)
    (pss_one (ps_ret (pe_tup (pa_cons pe_str (pa_cons (pv 1) (pa_cons (pe_callTy (call_tupleM K) (by rfl) (b_tuple T) bb_tuple (pa_cons (pe_h (ok_law_undone (K := K) T) (hr.mono (by decide)) passL (pa_cons (pv 0) (pa_cons (pv 1) pa_nil))) pa_nil)) (pa_cons (pe_h (ok_law_draw (K := K) T) (hr.mono (by decide)) passL (pa_cons (pv 0) (pa_cons (pe_op op_addM (pv 1) (pe_nat 1)) pa_nil))) pa_nil)))))))))), ?_⟩
  refine ⟨_, rfl, by show 4 ≤ sizeLine; decide, fun l hl => ?_⟩
  have e1 := Same.new (o := .lst [.str "spread", .str "spread", .str "space", .str "store"]) hl
  refine ⟨_, _, rfl, pen, c, f + 319, l, _, rfl, rfl, SqL.of upd_same, by show 1 ≤ 4; decide, by show 4 ≤ 1000; decide, (hpen.same e1).mono (by omega), fun i v H2 hi e2 hp2 => ?_⟩
  have e02 := e1.sx.trans e2
  have hv : v = .str "spread" ∨ v = .str "space" ∨ v = .str "store" := by
    have := List.mem_of_getElem? hi
    simp only [List.mem_cons, List.not_mem_nil, or_false] at this
    grind
  rcases hv with rfl | rfl | rfl
  · refine ⟨_, rfl, rfl, _, rfl, iteD (fun _ => ?_) (fun z => absurd rfl z)⟩
    refine ⟨_, rfl, _, rfl, _, rfl, _, _, rfl, pen, c, f + 318, 3, rfl, rfl, by decide, by decide, hp2, fun sl H3 hsl e3 hp3 => ?_⟩
    refine ⟨_, rfl, _, _, rfl, pen, c, f + 317, 3, rfl, rfl, by decide, by decide, hp3, fun la H4 hla e4 hp4 => ?_⟩
    refine ⟨_, _, _, _, rfl, pen, c, f, n, sl, la, rfl, rfl, rfl, rfl, hn, by omega, by omega, hp4.mono (by omega), fun t l1 l2 ss ls H5 hw e5 ht hl1 hl2 hp5 => ?_⟩
    refine ⟨t, _, rfl, SqT.of ht, rfl, _, _, rfl, _, _, rfl, rfl, ?_⟩
    refine ⟨_, rfl, _, rfl, l1, true, _, rfl, SqL.of hl1, fun m1 H6 e6 hm1 => ⟨_, rfl, l2, true, _, rfl, SqL.of (e6 _ _ hl2), fun m2 H7 e7 hm2 => ⟨by show 4 ≤ sizeLine; decide, fun p hp => ?_⟩⟩⟩
    have e8 := Same.new (o := .tup [.str "spread", nV n, .ref m1, .ref m2]) hp
    refine q p (.spread n ss ls) _ hw (((((e02.trans e3).trans e4).trans e5).then (e6.trans e7)).then e8) ⟨m1, .ref m2, upd_same, (e7.trans e8).tup hm1, m2, rfl, e8.tup hm2⟩ (hp5.same ((e6.trans e7).trans e8))
  · refine ⟨_, rfl, rfl, _, rfl, iteD (fun z => absurd z (by decide +kernel)) (fun _ => ?_)⟩
    refine ⟨_, rfl, rfl, _, rfl, iteD (fun _ => ?_) (fun z => absurd rfl z)⟩
    refine ⟨_, rfl, _, rfl, _, _, rfl, pen, c, f + 310, 3, rfl, rfl, by decide, by decide, hp2.mono (by omega), fun m H3 hm e3 hp3 => ⟨m, rfl, by omega, by omega, fun D hD => ?_⟩⟩
    rw [Int.toNat_natCast]
    refine lc_range (lo := 0) (n := m) (Pv := fun i H' => Sx [pen] H3 H' ∧ PenAt H' pen c (f + 4 * (m - i)) ∧ ∃ ws, H' D = some (.lst (wl ws)) ∧ ws.length = i ∧ Lt n ws) ⟨(Same.new hD).sx, (hp3.same (Same.new hD)).mono (by omega), [], upd_same, rfl, fun w hw => by cases hw⟩ (fun i H4 hi p => ?_) (fun H4 p => ?_)
    · obtain ⟨e, hp, ws, hd, hwl, hlt⟩ := p
      rw [Int.zero_add]
      refine ⟨rfl, _, rfl, _, rfl, _, _, rfl, pen, c, f + 4 * (m - (i + 1)), n, rfl, rfl, by omega, hp.mono (by omega), fun x H5 hx e5 hp5 => ?_⟩
      exact ⟨_, (hp.stay e5).lst hd, by rw [wl_len]; exact small1000 (by omega), (e.trans e5).but hD, hp3.keep hD hp5, ws ++ [x], by rw [upd_same, wl_snoc], by rw [List.length_append, hwl]; rfl, hlt.snoc hx⟩
    · obtain ⟨e, hp, ws, hd, hwl, hlt⟩ := p
      refine ⟨D, true, _, rfl, SqL.of hd, fun m1 H6 e6 hm1 => ⟨Nat.zero_le _, fun m2 h2 => ⟨by show 4 ≤ sizeLine; decide, fun p hp' => ?_⟩⟩⟩
      have e7 := (Same.new (o := .tup []) h2).new' (o := .tup [.str "space", nV n, .ref m1, .ref m2]) hp'
      refine q p (.space n ws) _ ⟨hn, by omega, hlt⟩ (((e02.trans e3).trans e).then (e6.trans e7)) ⟨m1, .ref m2, upd_same, e7.tup hm1, m2, rfl, SqT.of (by rw [upd_ne (ne_of_none upd_same hp')]; exact upd_same)⟩ ((hp.mono (by omega)).same (e6.trans e7))
  · refine ⟨_, rfl, rfl, _, rfl, iteD (fun z => absurd z (by decide +kernel)) (fun _ => ?_)⟩
    refine ⟨_, rfl, rfl, _, rfl, iteD (fun z => absurd z (by decide +kernel)) (fun _ => ?_)⟩
    refine ⟨_, rfl, _, rfl, _, rfl, _, _, rfl, pen, c, f + 10, n, rfl, rfl, hn, hp2.mono (by omega), fun r cs H3 hcl hclt hcr e3 hrn hr' hp3 => ?_⟩
    refine ⟨r, true, _, rfl, SqL.of hr', fun m1 H4 e4 hm1 => ⟨_, rfl, _, rfl, n, 1, rfl, rfl, _, _, rfl, pen, c, f, n + 1, rfl, rfl, by omega, by omega, (hp3.same e4).mono (by omega), fun b H5 hb e5 hp5 => ⟨by show 4 ≤ sizeLine; decide, fun p hp => ?_⟩⟩⟩
    have e6 := Same.new (o := .tup [.str "store", nV n, .ref m1, nV b]) hp
    refine q p (.store n cs b) _ ⟨hn, hcl, hclt, hcr, by omega⟩ ((((e02.trans e3).then e4).trans e5).then e6) ⟨m1, nV b, upd_same, e6.tup (SqT.stay hm1 ((hp3.same e4).stay e5)), rfl⟩ (hp5.same e6)
end
end L2.Lk
/-! L8 -/
set_option Elab.async false
set_option linter.all false
set_option maxRecDepth 100000
set_option maxHeartbeats 2000000
namespace L2.Lk
open PySem PySem.Spec PyProof.Rows
theorem ns_ps : ¬ V.str "space" = V.str "spread" := by decide +kernel
theorem ns_ts : ¬ V.str "store" = V.str "spread" := by decide +kernel
theorem ns_tp : ¬ V.str "store" = V.str "space" := by decide +kernel
theorem eq_sp {K : PySem.W.Frag} {H : Hp} {a b r1 r2 q1 q2 : Addr} {n : Nat} {s l : List Nat} {Q : VK} (h1 : SqT K H a [nV n, .ref r1, .ref r2]) (t1 : SqT K H r1 (wl s)) (t2 : SqT K H r2 (wl l)) (h2 : SqT K H b [nV n, .ref q1, .ref q2]) (u1 : SqT K H q1 (wl s)) (u2 : SqT K H q2 (wl l)) (q : Q (.bl true) H) : rEqD K (.ref a) (.ref b) H Q := by
  have sh : SeqAt.shaped (.tuple [.int (n : Int), .tuple (wd s), .tuple (wd l)]) = true := by
    have d1 := wd_depth s
    have d2 := wd_depth l
    unfold SeqAt.shaped
    simp only [PyData.canLay0, PyData.canLayAll0, PyData.depth, PyData.depthAll, wd_lay, Bool.true_and, Bool.and_true]
    exact decide_eq_true (by omega)
  refine ⟨_, _, .tup h1 (.cons (.int _) (.cons (.tup t1 (dp_wl s)) (.cons (.tup t2 (dp_wl l)) .nil))), .tup h2 (.cons (.int _) (.cons (.tup u1 (dp_wl s)) (.cons (.tup u2 (dp_wl l)) .nil))), sh, sh, ?_⟩
  have : PyData.eqv (.tuple [.int (n : Int), .tuple (wd s), .tuple (wd l)]) (.tuple [.int (n : Int), .tuple (wd s), .tuple (wd l)]) = true := by
    simp [PyData.eqv, PyData.eqvAll, wd_eqv]
  rw [this]
  exact q
section
variable {P : Program} {w : World} {K : PySem.W.Frag} {mg : Str → Option Value} {base : Heap}
abbrev sp_object (K : PySem.W.Frag) : L2.Sp := S1 fun a H Q _ => ∃ p t, a = .ref p ∧ LThAt K H p t ∧ t.Wf ∧ ∀ o H', Same H H' → ThingAt K H' o t → Q (.ref o) H'
theorem ok_law_object (T : Tx P K mg) : Has P w K mg base 12 "_law_object" ["_law_thing"] (sp_object K) := by
  refine ⟨g_law_object T, ok1 (F_law_object T) sc_law_object fun cdv A outer s H a Q E hr h => ?_⟩
  obtain ⟨p, t, rfl, ⟨wd, m, hp, hwd, hmo⟩, hw, q⟩ := h
  refine ⟨_, (pss_cons (ps_asg (pv 0) (pg_tupK (n := 4) K rfl (pgs_cons (pg_name (i := 1) sc_law_object.nd rfl (.inl rfl)) (pgs_cons (pg_name (i := 2) sc_law_object.nd rfl (.inl rfl)) (pgs_cons (pg_name (i := 3) sc_law_object.nd rfl (.inl rfl)) (pgs_cons (pg_name (i := 4) sc_law_object.nd rfl (.inl rfl)) pgs_nil))))))
    (pss_cons (ps_if (pt_cmpR op_eq (pv 1) pe_str (nomark _)) (pss_one (ps_ret (pe_hc (ok_Spread_init (K := K) T) (mk_Spread T) (g_Spread T) (hr.mono (by decide)) passL (pa_cons (pv 2) (pa_cons (pv 3) (pa_cons (pv 4) pa_nil)))))) pss_nil)
    (pss_one (ps_ret (pe_ifExp (pt_cmpR op_eq (pv 1) pe_str (nomark _)) (pe_hc (ok_Space_init (K := K) T) (mk_Space T) (g_Space T) (hr.mono (by decide)) passL (pa_cons (pv 2) (pa_cons (pv 3) pa_nil))) (pe_hc (ok_Store_init (K := K) T) (mk_Store T) (g_Store T) (hr.mono (by decide)) passL (pa_cons (pe_hc (ok_Map_init (K := K) T) (mk_Map T) (g_Map T) (hr.mono (by decide)) passL (pa_cons (pv 2) (pa_cons (pv 3) pa_nil))) (pa_cons (pv 4) pa_nil)))))))), ?_⟩
  refine ⟨_, rfl, p, _, rfl, SqT.of hp, rfl, _, _, rfl, _, _, rfl, _, _, rfl, _, _, rfl, rfl, ?_⟩
  cases t with
  | spread n s l =>
    obtain ⟨m, rfl, hm⟩ := hmo
    refine ⟨_, rfl, rfl, _, rfl, iteD (fun _ => ?_) (fun z => absurd rfl z)⟩
    exact ⟨_, rfl, _, rfl, _, rfl, mkSpread (k := false) (k2 := false) hwd hm hw.2.2.2.1 hw.2.2.2.2.1 (Nat.le_trans hw.2.1 (by decide)) (Nat.le_trans hw.2.2.1 (by decide)) hw.2.2.2.2.2 fun x H' e hx hs => q x H' e hs⟩
  | space n u =>
    refine ⟨_, rfl, rfl, _, rfl, iteD (fun z => absurd z ns_ps) (fun _ => ?_)⟩
    refine ⟨_, rfl, rfl, _, rfl, iteD (fun _ => ?_) (fun z => absurd rfl z)⟩
    exact ⟨_, rfl, _, rfl, mkSpace (k := false) hwd (Nat.le_trans hw.2.1 (by decide)) hw.2.2 fun x H' R e hx hs hR => q x H' e ⟨R, hs, hR⟩⟩
  | store n c b =>
    obtain rfl : m = nV b := hmo
    obtain ⟨h1, rfl, h3, h4, h5⟩ := hw
    refine ⟨_, rfl, rfl, _, rfl, iteD (fun z => absurd z ns_ts) (fun _ => ?_)⟩
    refine ⟨_, rfl, rfl, _, rfl, iteD (fun z => absurd z ns_tp) (fun _ => ?_)⟩
    exact ⟨_, rfl, _, rfl, mkMap (k := false) hwd h3 fun x H1 e1 hx hm => ⟨_, rfl, mkStore hm h5 (by omega) h3 h4 fun y H2 e2 hy hs => q y H2 (e1.trans e2) hs⟩⟩
abbrev sp_is_thing (K : PySem.W.Frag) : L2.Sp := S2 fun a b H Q _ => ∃ o p t, a = .ref o ∧ b = .ref p ∧ ThingAt K H o t ∧ LThAt K H p t ∧ t.Wf ∧ ∀ H', Same H H' → Q (.bl true) H'
theorem ok_law_is_thing (T : Tx P K mg) : Has P w K mg base 8 "_law_is_thing" ["_law_value", "_law_thing"] (sp_is_thing K) := by
  refine ⟨g_law_is_thing T, ok2 (F_law_is_thing T) sc_law_is_thing fun cdv A outer s H a b Q E hr h => ?_⟩
  obtain ⟨o, p, t, rfl, rfl, ho, ⟨wd, m, hp, hwd, hmo⟩, hw, q⟩ := h
  refine ⟨_, (pss_cons (ps_asg (pv 1) (pg_tupK (n := 4) K rfl (pgs_cons (pg_name (i := 2) sc_law_is_thing.nd rfl (.inl rfl)) (pgs_cons (pg_name (i := 3) sc_law_is_thing.nd rfl (.inl rfl)) (pgs_cons (pg_name (i := 4) sc_law_is_thing.nd rfl (.inl rfl)) (pgs_cons (pg_name (i := 5) sc_law_is_thing.nd rfl (.inl rfl)) pgs_nil))))))
    (pss_cons (ps_if (pt_cmpR op_eq (pv 2) pe_str (nomark _)) (pss_one (ps_ret (pe_and (pe_callB call_isi (by rfl) (b_isinstance T) bb_isinstance (pa_cons (pv 0) (pa_cons (pe_glob (v := .ref (He.ga K "Spread")) (by rfl) (g_Spread T) rfl) pa_nil))) (pe_one (pe_cmpR (op_eqDK K hr.units) (pe_tup (pa_cons (pe_fldK K (pv 0)) (pa_cons (pe_fldK K (pv 0)) (pa_cons (pe_fldK K (pv 0)) pa_nil)))) (pe_tup (pa_cons (pv 3) (pa_cons (pv 4) (pa_cons (pv 5) pa_nil)))) (nomark _)))))) pss_nil)
    (pss_cons (ps_if (pt_cmpR op_eq (pv 2) pe_str (nomark _)) (pss_one (ps_ret (pe_h (ok_law_is_space (K := K) T) (hr.mono (by decide)) passL (pa_cons (pv 0) (pa_cons (pv 3) (pa_cons (pe_callTy (call_listM K) (by rfl) (b_list T) bb_list (pa_cons (pv 4) pa_nil)) pa_nil)))))) pss_nil)
    (pss_one (ps_ret (pe_and (pe_callB call_isi (by rfl) (b_isinstance T) bb_isinstance (pa_cons (pv 0) (pa_cons (pe_glob (v := .ref (He.ga K "Store")) (by rfl) (g_Store T) rfl) pa_nil))) (pe_and (pe_cmpR (op_eqO (ok_Map_eq T).2 (m_Map_eq T) (hr.mono (by decide)) passL) (pe_fldK K (pv 0)) (pe_hc (ok_Map_init (K := K) T) (mk_Map T) (g_Map T) (hr.mono (by decide)) passL (pa_cons (pv 3) (pa_cons (pe_callTy (call_listM K) (by rfl) (b_list T) bb_list (pa_cons (pv 4) pa_nil)) pa_nil))) (nomark _)) (pe_one (pe_cmpR op_eqM (pe_fldK K (pv 0)) (pv 5) (nomark _)))))))))), ?_⟩
  refine ⟨_, rfl, p, _, rfl, SqT.of hp, rfl, _, _, rfl, _, _, rfl, _, _, rfl, _, _, rfl, rfl, ?_⟩
  cases t with
  | spread n s l =>
    obtain ⟨m, rfl, hm⟩ := hmo
    refine ⟨_, rfl, rfl, _, rfl, iteD (fun _ => ?_) (fun z => absurd rfl z)⟩
    refine ⟨_, rfl, _, _, _, _, _, rfl, .own _, ty_Spread T ho, kit_Spread_Spread T, _, rfl, iteT ?_⟩
    refine ⟨_, rfl, at_Spread_bits T ho ⟨_, rfl, at_Spread_slots T ho fun r1 t1 => ⟨_, rfl, at_Spread_lanes T ho fun r2 t2 => ⟨by show 3 ≤ sizeLine; decide, fun a1 h1 => ⟨_, rfl, _, rfl, _, rfl, by show 3 ≤ sizeLine; decide, fun a2 h2 => ?_⟩⟩⟩⟩⟩
    have e1 := Same.new (o := .tup [nV n, .ref r1, .ref r2]) h1
    have e2 := Same.new (o := .tup [nV n, .ref wd, .ref m]) h2
    have e := e1.trans e2
    exact eq_sp (e2.tup (SqT.of upd_same)) (e.tup t1) (e.tup t2) (SqT.of upd_same) (e.tup hwd) (e.tup hm) (q _ e)
  | space n u =>
    obtain ⟨R, hs, hR⟩ := ho
    refine ⟨_, rfl, rfl, _, rfl, iteD (fun z => absurd z ns_ps) (fun _ => ?_)⟩
    refine ⟨_, rfl, rfl, _, rfl, iteD (fun _ => ?_) (fun z => absurd rfl z)⟩
    refine ⟨_, rfl, _, rfl, _, rfl, wd, false, _, rfl, hwd, fun l hl => ?_⟩
    have e := Same.new (o := .lst (wl u)) hl
    exact ⟨_, _, _, rfl, o, n, R, l, u, rfl, rfl, rfl, SpaceAt.same e hs, hR, SqL.of upd_same, Nat.le_trans hw.2.1 (by decide), Nat.le_trans (hR.len_le hw.2.2) (Nat.le_trans hw.1 (by decide)), fun H' e' => q _ (e.trans e')⟩
  | store n c b =>
    obtain rfl : m = nV b := hmo
    have ho : StoreAt K H o n c b := ho
    refine ⟨_, rfl, rfl, _, rfl, iteD (fun z => absurd z ns_ts) (fun _ => ?_)⟩
    refine ⟨_, rfl, rfl, _, rfl, iteD (fun z => absurd z ns_tp) (fun _ => ?_)⟩
    refine ⟨_, rfl, _, _, _, _, _, rfl, .own _, ty_Store T ho, kit_Store_Store T, _, rfl, iteT ?_⟩
    refine ⟨_, rfl, at_Store_change T ho fun r1 hm1 => ?_⟩
    refine ⟨_, rfl, _, rfl, wd, false, _, rfl, hwd, fun l hl => ?_⟩
    have e := Same.new (o := .lst (wl c)) hl
    refine mkMap (k := true) (SqL.of upd_same) hw.2.2.1 fun x H1 e1 hx hm2 => ?_
    have e2 := e.trans e1
    obtain ⟨dx1, fs1, ei1, _⟩ := ins_Map (hm1.same e2)
    obtain ⟨dx2, fs2, ei2, _⟩ := ins_Map hm2
    refine ⟨_, _, _, _, _, _, rfl, rfl, ei1, ei2, _, _, rfl, r1, x, n, n, c, c, rfl, rfl, hm1.same e2, hm2, fun H2 e3 => ⟨⟨_, rfl⟩, ?_⟩⟩
    rw [decide_eq_true rfl, decide_eq_true rfl]
    refine ⟨_, rfl, iteT ?_⟩
    refine ⟨_, rfl, at_Store_banks T ((ho.same e2).same e3) ⟨_, rfl, b, b, rfl, rfl, ?_⟩⟩
    show Q (.bl (decide (b = b))) H2
    rw [decide_eq_true rfl]
    exact q _ (e2.trans e3)
end
end L2.Lk
/-! L9 -/
set_option Elab.async false
set_option linter.all false
set_option maxRecDepth 100000
set_option maxHeartbeats 2000000
namespace L2.Lk
open PySem PySem.Spec PyProof.Rows
theorem ix_tupK {X : Cx} (K : PySem.W.Frag) (hK : X.K = K := by rfl) : IxR X (rIxT K) := by
  subst hK
  exact ix_tup
theorem ix_listK {X : Cx} (K : PySem.W.Frag) (hK : X.K = K := by rfl) : IxR X (rIxL K) := by
  subst hK
  exact ix_list
def bphi (f : Nat → Bool) : V → Option V := fun v => match v with
  | .int i => some (.bl (f i.toNat))
  | _ => none
theorem bphi_at (f : Nat → Bool) (w : Nat) : bphi f (nV w) = some (.bl (f w)) := by
  show some (V.bl (f ((w : Int)).toNat)) = _
  rw [Int.toNat_natCast]
theorem fm_bl (f : Nat → Bool) : ∀ ws : List Nat, (wl ws).filterMap (bphi f) = (ws.map f).map V.bl
  | [] => rfl
  | w :: ws => by
    show (nV w :: wl ws).filterMap (bphi f) = _
    rw [List.filterMap_cons, bphi_at, fm_bl f ws]
    rfl
section
variable {P : Program} {w : World} {K : PySem.W.Frag} {mg : Str → Option Value} {base : Heap}
abbrev sp_are_alike (K : PySem.W.Frag) : L2.Sp := S2 fun a b H Q _ => ∃ p p2 n n2 s l s2 l2, a = .ref p ∧ b = .ref p2 ∧ LThAt K H p (.spread n s l) ∧ LThAt K H p2 (.spread n2 s2 l2) ∧ s.length ≤ 8 ∧ l.length ≤ 8 ∧ s2.length ≤ 8 ∧ l2.length ≤ 8 ∧ ∀ H', Same H H' → Q (.bl (alikeB s l s2 l2)) H'
theorem ok_law_are_alike (T : Tx P K mg) : Has P w K mg base 4 "_law_are_alike" ["_law_one", "_law_other"] (sp_are_alike K) := by
  refine ⟨g_law_are_alike T, ok2 (F_law_are_alike T) sc_law_are_alike fun cdv A outer s H a b Q E hr h => ?_⟩
  obtain ⟨p, p2, n, n2, ss, l, s2, l2, rfl, rfl, ⟨wd, mo, hp, hwd, ⟨m, rfl, hm⟩⟩, ⟨wd2, mo2, hp2, hwd2, ⟨m2, rfl, hm2⟩⟩, z1, z2, z3, z4, q⟩ := h
  refine ⟨_, (pss_cons (ps_if (PW.pt (pw_or (pt_cmpR op_neM (pe_callB (call_lenM K) (by rfl) (b_len T) bb_len (pa_cons (pe_ix ix_tup (pv 0) (pe_nat 3) (fun _ _ => rfl)) pa_nil)) (pe_callB (call_lenM K) (by rfl) (b_len T) bb_len (pa_cons (pe_ix ix_tup (pv 1) (pe_nat 3) (fun _ _ => rfl)) pa_nil)) (nomark _)) (pw_or1 (pt_cmpR op_neM (pe_h (ok_law_size (K := K) T) (hr.mono (by decide)) passL (pa_cons (pe_ix ix_tup (pv 0) (pe_nat 2) (fun _ _ => rfl)) pa_nil)) (pe_h (ok_law_size (K := K) T) (hr.mono (by decide)) passL (pa_cons (pe_ix ix_tup (pv 1) (pe_nat 2) (fun _ _ => rfl)) pa_nil)) (nomark _))))) (pss_one (ps_ret pe_bl)) pss_nil)
    (pss_cons (ps_set (i := 2) sc_law_are_alike.nd rfl (.inr rfl) (pe_h (ok_law_basis (K := K) T) (hr.mono (by decide)) passL (pa_cons (pe_ix ix_tup (pv 0) (pe_nat 2) (fun _ _ => rfl)) pa_nil)))
    (pss_cons (ps_setLc (i := 3) (own := [("_law_at", 4)]) (g := gName 4) rfl sc_law_are_alike.nd rfl rfl (sw_true rfl rfl rfl (by decide +kernel)) (pi_range1 (by rfl) (b_range T) (pa_cons (pe_callB (call_lenM K) (by rfl) (b_len T) bb_len (pa_cons (pe_ix ix_tup (pv 0) (pe_nat 3) (fun _ _ => rfl)) pa_nil)) pa_nil)) (blkOk_by (own := [("_law_at", 4)]) (N := N_law_are_alike) (sc := defScope st_law_are_alike) (by decide +kernel)) (fun _ _ _ _ _ => pg_name (i := 4) sc_law_are_alike.nd rfl (Or.inl rfl)) (fun _ _ _ _ _ => pts_nil) (fun _ _ _ _ _ => (pe_op op_xorM (pe_ix (ix_tupK K) (pe_ix (ix_tupK K) (pv 0) (pe_nat 3) (fun _ _ => rfl)) (pv 4) (fun _ _ => rfl)) (pe_ix (ix_tupK K) (pe_ix (ix_tupK K) (pv 1) (pe_nat 3) (fun _ _ => rfl)) (pv 4) (fun _ _ => rfl)))))
    (pss_one (ps_ret (pe_callB (cr_all rfl) (by rfl) (b_all T) bb_all (pa_cons (pe_lc (own := [("_law_word_here", 5)]) (g := gName 5) rfl sc_law_are_alike.nd (pi_seq (pe_op op_cat (pe_callTy (call_listM K) (by rfl) (b_list T) bb_list (pa_cons (pe_ix ix_tup (pv 1) (pe_nat 2) (fun _ _ => rfl)) pa_nil)) (pv 3))) (blkOk_by (own := [("_law_word_here", 5)]) (N := N_law_are_alike) (sc := defScope st_law_are_alike) (by decide +kernel)) (fun _ _ _ _ _ => pg_name (i := 5) sc_law_are_alike.nd rfl (Or.inl rfl)) (fun _ _ _ _ _ => pts_nil) (fun _ _ _ _ _ => (pe_cmpR op_eqM (pe_h (ok_law_left (K := K) T) (hr.mono (by decide)) passL (pa_cons (pv 2) (pa_cons (pv 5) pa_nil))) (pe_nat 0) (nomark _)))) pa_nil))))))), ?_⟩
  have i3 : ∀ {x : V} {a b c : V}, atI [a, b, c, x] (3 : Int) = some x := fun {x a b c} => rfl
  have hwd : SqT K H wd (wl ss) := hwd
  have hwd2 : SqT K H wd2 (wl s2) := hwd2
  have j3 : ∀ {x : V} {a b c : V}, atI [a, b, c, x] ((3 : Nat) : Int) = some x := fun {x a b c} => rfl
  have j2 : ∀ {x : V} {a b c : V}, atI [a, b, x, c] ((2 : Nat) : Int) = some x := fun {x a b c} => rfl
  refine ⟨_, rfl, p, _, _, _, rfl, rfl, SqT.of hp, j3, m, false, _, rfl, hm, _, rfl, p2, _, _, _, rfl, rfl, SqT.of hp2, j3, m2, false, _, rfl, hm2, _, _, rfl, rfl, ?_⟩
  rw [wl_len, wl_len]
  by_cases hl : l.length = l2.length
  · refine ⟨_, rfl, iteN (fun z => absurd hl z) (fun _ => ?_)⟩
    refine ⟨_, rfl, p, _, _, _, rfl, rfl, SqT.of hp, j2, _, rfl, wd, false, ss, rfl, hwd, by omega, fun H1 e1 => ⟨_, rfl, p2, _, _, _, rfl, rfl, SqT.of (e1 _ _ hp2), j2, _, rfl, wd2, false, s2, rfl, e1.tup hwd2, by omega, fun H2 e2 => ⟨_, _, rfl, rfl, _, rfl, iteN (fun hne => ?_) (fun heq => ?_)⟩⟩⟩
    · have : alikeB ss l s2 l2 = false := by unfold alikeB; rw [decide_eq_false hne, Bool.and_false]; rfl
      rw [this] at q
      exact q _ (e1.trans e2)
    have e12 := e1.trans e2
    refine ⟨_, rfl, p, _, _, _, rfl, rfl, SqT.of (e12 _ _ hp), j2, _, rfl, wd, false, ss, rfl, e12.tup hwd, by omega, fun r H3 e3 hrn hr => ?_⟩
    have e13 := e12.trans e3
    refine ⟨_, rfl, p, _, _, _, rfl, rfl, SqT.of (e13 _ _ hp), j3, m, false, _, rfl, e13.tup hm, (wl l).length, rfl, by rw [wl_len]; omega, by rw [wl_len]; omega, lc_rangeN (n := (wl l).length) (fun i => l.getD i 0 ^^^ l2.getD i 0) (by rw [wl_len]; omega) (fun i H4 Nx No hi e4 hN => ?_) (fun D H4 hD e4 hd => ?_)⟩
    · rw [wl_len] at hi
      have e14 := e13.trans e4
      have g1 : l[i]? = some (l.getD i 0) := by rw [List.getD_eq_getElem?_getD, List.getElem?_eq_getElem hi]; rfl
      have g2 : l2[i]? = some (l2.getD i 0) := by rw [List.getD_eq_getElem?_getD, List.getElem?_eq_getElem (by omega : i < l2.length)]; rfl
      exact ⟨rfl, _, rfl, p, _, _, _, rfl, rfl, SqT.of (e14 _ _ hp), j3, _, rfl, m, _, _, _, rfl, rfl, e14.tup hm, atI_nat (by unfold wl; rw [List.getElem?_map, g1]; rfl), _, rfl, p2, _, _, _, rfl, rfl, SqT.of (e14 _ _ hp2), j3, _, rfl, m2, _, _, _, rfl, rfl, e14.tup hm2, atI_nat (by unfold wl; rw [List.getElem?_map, g2]; rfl), _, _, rfl, rfl, hN _ (Same.refl _)⟩
    · have hsum : (List.range (wl l).length).map (fun i => l.getD i 0 ^^^ l2.getD i 0) = List.zipWith (fun a b => a ^^^ b) l l2 := by
        refine List.ext_getElem? fun i => ?_
        rw [List.getElem?_map, List.getElem?_zipWith, wl_len]
        by_cases hi : i < l.length
        · rw [List.getElem?_range hi]
          show some (l.getD i 0 ^^^ l2.getD i 0) = _
          rw [List.getD_eq_getElem?_getD, List.getD_eq_getElem?_getD, List.getElem?_eq_getElem hi, List.getElem?_eq_getElem (by omega : i < l2.length)]
          rfl
        · rw [List.getElem?_eq_none (by rw [List.length_range]; omega), List.getElem?_eq_none (by omega : l.length ≤ i)]
          rfl
      rw [hsum] at hd
      have e14 := e13.trans e4
      have hlz : (List.zipWith (fun a b => a ^^^ b) l l2).length ≤ 8 := by rw [List.length_zipWith]; omega
      refine ⟨_, rfl, p2, _, _, _, rfl, rfl, SqT.of (e14 _ _ hp2), j2, wd2, false, _, rfl, e14.tup hwd2, fun l5 hl5 => ?_⟩
      have e5 := e14.new' (o := .lst (wl s2)) hl5
      have hd5 := Same.new (o := .lst (wl s2)) hl5 _ _ hd
      have hr5 := Same.new (o := .lst (wl s2)) hl5 _ _ (e4 _ _ hr)
      refine ⟨_, rfl, l5, D, _, _, rfl, rfl, upd_same, hd5, by simp only [wl, List.length_map]; exact Nat.le_of_lt (small1000 (by omega)), fun l6 hl6 => ?_⟩
      have e6 := e5.new' (o := .lst (wl s2 ++ wl (List.zipWith (fun a b => a ^^^ b) l l2))) hl6
      have hr6 := Same.new (o := .lst (wl s2 ++ wl (List.zipWith (fun a b => a ^^^ b) l l2))) hl6 _ _ hr5
      refine ⟨l6, rfl, lc_fm (k := true) (bphi fun w => decide (lleft (lbasis ss) w = 0)) (SqL.of upd_same) (by simp only [wl, List.length_append, List.length_map]; omega) (fun i v H7 Nx No hv e7 hN hNo => ?_) (fun D2 H7 hD2 e7 hd7 => ?_)⟩
      · rw [← wl_append] at hv
        obtain ⟨w, hw, rfl⟩ := wl_of hv
        exact ⟨rfl, _, rfl, _, rfl, _, _, rfl, r, lbasis ss, w, rfl, rfl, SqL.of (e7 _ _ hr6), lbasis_pos _, fun H8 e8 => ⟨_, 0, rfl, rfl, hN _ _ (bphi_at _ _) e8⟩⟩
      · rw [← wl_append, fm_bl] at hd7
        refine ⟨D2, _, rfl, SqL.of hd7, ?_⟩
        have : alikeB ss l s2 l2 = ((s2 ++ List.zipWith (fun a b => a ^^^ b) l l2).map fun w => decide (lleft (lbasis ss) w = 0)).all id := by
          unfold alikeB
          rw [decide_eq_true hl, decide_eq_true heq, List.all_map]
          rfl
        rw [← this]
        exact q _ (e6.trans e7)
  · refine ⟨_, rfl, iteN (fun _ => ?_) (fun z => absurd z hl)⟩
    have : alikeB ss l s2 l2 = false := by unfold alikeB; rw [decide_eq_false hl]; rfl
    rw [this] at q
    exact iteT (q _ (Same.refl _))
end
end L2.Lk
/-! L10 -/
set_option Elab.async false
set_option linter.all false
set_option maxRecDepth 100000
set_option maxHeartbeats 2000000
namespace L2.Lk
open PySem PySem.Spec PyProof.Rows
theorem tup_i0 {a b c d : V} : atI [a, b, c, d] ((0 : Nat) : Int) = some a := rfl
theorem tup_i1 {a b c d : V} : atI [a, b, c, d] ((1 : Nat) : Int) = some b := rfl
theorem tup_i2 {a b c d : V} : atI [a, b, c, d] ((2 : Nat) : Int) = some c := rfl
theorem tup_i3 {a b c d : V} : atI [a, b, c, d] ((3 : Nat) : Int) = some d := rfl
section
variable {P : Program} {w : World} {K : PySem.W.Frag} {mg : Str → Option Value} {base : Heap}
abbrev sp_is_free (K : PySem.W.Frag) : L2.Sp := S2 fun a b H Q _ => ∃ p p2 n n2 s l c k, a = .ref p ∧ b = .ref p2 ∧ LThAt K H p (.spread n s l) ∧ LThAt K H p2 (.store n2 c k) ∧ l.length ≤ 8 ∧ c.length ≤ 60 ∧ k ≤ 60 ∧ ∀ H', Same H H' → Q (.bl (freeB l c k)) H'
theorem ok_law_is_free (T : Tx P K mg) : Has P w K mg base 4 "_law_is_free" ["_law_spread", "_law_store"] (sp_is_free K) := by
  refine ⟨g_law_is_free T, ok2 (F_law_is_free T) sc_law_is_free fun cdv A outer s H a b Q E hr h => ?_⟩
  obtain ⟨p, p2, n, n2, ss, l, c, k, rfl, rfl, ⟨wd, mo, hp, hwd, ⟨m, rfl, hm⟩⟩, ⟨wd2, mo2, hp2, hwd2, hmo2⟩, z1, z2, z3, q⟩ := h
  obtain rfl : mo2 = nV k := hmo2
  have hwd2 : SqT K H wd2 (wl c) := hwd2
  refine ⟨_, (pss_cons (ps_asg (pe_tup (pa_cons (pe_h (ok_law_basis (K := K) T) (hr.mono (by decide)) passL (pa_cons (pe_ix ix_tup (pv 0) (pe_nat 3) (fun _ _ => rfl)) pa_nil)) (pa_cons (pe_op op_subM (pe_op op_shlM (pe_nat 1) (pe_ix ix_tup (pv 1) (pe_nat 3) (fun _ _ => rfl))) (pe_nat 1)) pa_nil))) (pg_tupK (n := 2) K rfl (pgs_cons (pg_name (i := 2) sc_law_is_free.nd rfl (.inl rfl)) (pgs_cons (pg_name (i := 3) sc_law_is_free.nd rfl (.inr rfl)) pgs_nil))))
    (pss_one (ps_ret (pe_cmpR op_eqM (pe_h (ok_law_size (K := K) T) (hr.mono (by decide)) passL (pa_cons (pe_lc (own := [("_law_word_here", 4)]) (g := gName 4) rfl sc_law_is_free.nd (pi_seq (pv 2)) (blkOk_by (own := [("_law_word_here", 4)]) (N := N_law_is_free) (sc := defScope st_law_is_free) (by decide +kernel)) (fun _ _ _ _ _ => pg_name (i := 4) sc_law_is_free.nd rfl (Or.inl rfl)) (fun _ _ _ _ _ => pts_nil) (fun _ _ _ _ _ => (pe_op op_andM' (pe_h (ok_law_image (K := K) T) (hr.mono (by decide)) passL (pa_cons (pe_ix (ix_tupK K) (pv 1) (pe_nat 2) (fun _ _ => rfl)) (pa_cons (pv 4) pa_nil))) (pv 3)))) pa_nil)) (pe_callB (call_lenM K) (by rfl) (b_len T) bb_len (pa_cons (pv 2) pa_nil)) (nomark _))))), ?_⟩
  refine ⟨_, rfl, p, _, _, _, rfl, rfl, SqT.of hp, tup_i3, _, rfl, m, false, l, rfl, hm, by omega, fun r H1 e1 hrn hr => ?_⟩
  have hz := lbasis_len l
  refine ⟨_, rfl, p2, _, _, _, rfl, rfl, SqT.of (e1 _ _ hp2), tup_i3, 1, k, rfl, rfl, ⟨by omega, by omega⟩, _, 1, rfl, rfl, (by show 1 ≤ 1 * 2 ^ k; rw [Nat.one_mul]; exact Nat.one_le_two_pow), by show 2 ≤ sizeLine; decide, fun t ht => ?_⟩
  have et := Same.new (o := .tup [.ref r, nV (1 * 2 ^ k - 1)]) ht
  have hr := et _ _ hr
  have e1 := e1.trans et
  refine ⟨t, _, rfl, SqT.of upd_same, rfl, _, _, rfl, _, _, rfl, rfl, ?_⟩
  refine ⟨_, rfl, r, rfl, lc_natM (k := true) (ws := lbasis l) (fun w => img c w &&& (1 * 2 ^ k - 1)) (SqL.of hr) (by omega) (fun i x H2 Nx No hi e2 hN => ?_) (fun D H2 hD e2 hd => ?_)⟩
  · have e12 := e1.trans e2
    exact ⟨rfl, _, rfl, p2, _, _, _, rfl, rfl, SqT.of (e12 _ _ hp2), tup_i2, _, rfl, _, _, rfl, wd2, false, c, x, rfl, rfl, e12.tup hwd2, z2, fun H3 e3 => ⟨_, rfl, _, _, rfl, rfl, hN _ e3⟩⟩
  · refine ⟨_, rfl, D, true, _, rfl, SqL.of hd, by rw [List.length_map]; omega, fun H3 e3 => ⟨_, rfl, r, true, _, rfl, SqL.of ((e2.trans e3) _ _ hr), _, _, rfl, rfl, ?_⟩⟩
    rw [wl_len]
    have : freeB l c k = decide (lsize ((lbasis l).map fun w => img c w &&& (1 * 2 ^ k - 1)) = (lbasis l).length) := by unfold freeB; rw [Nat.one_mul]
    show Q (.bl (decide (lsize ((lbasis l).map fun w => img c w &&& (1 * 2 ^ k - 1)) = (lbasis l).length))) H3
    rw [← this]
    exact q _ ((e1.trans e2).trans e3)
/-- the law's dict of things -/
def RepL (K : PySem.W.Frag) (H : Hp) : List (Key × V) → Ths → Prop := Paired fun kv t => kv.1 = Sum.inr t.1 ∧ ∃ p, kv.2 = .ref p ∧ LThAt K H p t.2
theorem RepL.same {H H' : Hp} {kvs : List (Key × V)} {ts : Ths} (h : RepL K H kvs ts) (e : Same H H') : RepL K H' kvs ts := Paired.mapP h fun _ _ ⟨h1, p, h2, h3⟩ => ⟨h1, p, h2, h3.same e⟩
theorem RepL.stay {H H' : Hp} {kvs : List (Key × V)} {ts : Ths} (h : RepL K H kvs ts) (e : Stay H H') : RepL K H' kvs ts := Paired.mapP h fun _ _ ⟨h1, p, h2, h3⟩ => ⟨h1, p, h2, h3.stay e⟩
theorem RepL.get {H : Hp} : ∀ {kvs : List (Key × V)} {ts : Ths} (h : RepL K H kvs ts) (x : Str), (ts.lookup x = none ∧ valV kvs (Sum.inr x) = none) ∨ ∃ p th, ts.lookup x = some th ∧ valV kvs (Sum.inr x) = some (.ref p) ∧ LThAt K H p th
  | [], [], _, _ => .inl ⟨rfl, rfl⟩
  | kv :: kvs, t :: ts, .cons h r, x => by
    obtain ⟨h1, p, h2, h3⟩ := h
    obtain ⟨y, th⟩ := t
    by_cases e : x = y
    · subst e
      exact .inr ⟨p, th, by rw [List.lookup_cons, beq_self_eq_true], by rw [valV_pos h1, h2], h3⟩
    · have eb : (x == y) = false := beq_eq_false_iff_ne.mpr e
      have ek : ¬ kv.1 = Sum.inr x := fun z => e (by rw [h1] at z; injection z with z; exact z.symm)
      rw [List.lookup_cons, eb, valV_neg ek]
      exact RepL.get r x
theorem keptT_first {pr : Prm} {a b : Thing} (h : ¬ V.str (kindT a) = V.str "spread") : keptT pr a b = false := by
  cases a with
  | spread n s l => exact absurd rfl h
  | space n u => cases pr <;> rfl
  | store n c k => cases pr <;> rfl
theorem keptT_bits {pr : Prm} {a b : Thing} (h : ¬ nV a.bits = nV b.bits) : keptT pr a b = false := by
  have h : ¬ a.bits = b.bits := fun z => h (by rw [z])
  cases pr <;> cases a <;> cases b <;> first | rfl | (simp only [Thing.bits] at h; simp [keptT, h])
theorem bits_inj {a b : Nat} (h : nV a = nV b) : a = b := by injection h with h; omega
theorem nq_as : ¬ V.str "steps" = V.str "alike" := by decide +kernel
theorem nq_af : ¬ V.str "free" = V.str "alike" := by decide +kernel
theorem nq_fs : ¬ V.str "steps" = V.str "free" := by decide +kernel
theorem ns_sp : ¬ V.str "spread" = V.str "space" := by decide +kernel
theorem ns_st : ¬ V.str "spread" = V.str "store" := by decide +kernel
theorem ns_pt : ¬ V.str "space" = V.str "store" := by decide +kernel
theorem catA_any {H : Hp} {a b : Addr} {xs ys : List V} {Q : VK} (ha : SqT K H a xs) (hb : SqT K H b ys) (hz : xs.length + ys.length ≤ sizeLine) (q : ∀ r H', Same H H' → SqT K H' r (xs ++ ys) → Q (.ref r) H') : rCatA K (.ref a) (.ref b) H Q := by
  refine ⟨a, b, xs, ys, rfl, rfl, ha, hb, hz, fun h => ?_, fun _ h => ?_, fun _ _ r hr => q r _ (Same.new hr) (SqT.of upd_same)⟩
  · subst h; exact q b H (Same.refl _) hb
  · subst h; exact q a H (Same.refl _) (by rw [List.append_nil]; exact ha)
abbrev sp_lis_kept (K : PySem.W.Frag) : L2.Sp := S2 fun a b H Q _ => ∃ p d kvs ts pr, a = .ref p ∧ b = .ref d ∧ SqT K H p (Prm.vs pr) ∧ H d = some (.dK kvs) ∧ RepL K H kvs ts ∧ WfAll ts ∧ ∀ H', Same H H' → Q (.bl (kept ts pr)) H'
theorem ok_law_is_kept (T : Tx P K mg) : Has P w K mg base 6 "_law_is_kept" ["_law_told", "_law_things"] (sp_lis_kept K) := by
  refine ⟨g_law_is_kept T, ok2 (F_law_is_kept T) sc_law_is_kept fun cdv A outer s H a b Q E hr h => ?_⟩
  obtain ⟨p, d, kvs, ts, pr, rfl, rfl, hp, hd, hR, hwf, q⟩ := h
  refine ⟨_, (pss_cons (ps_par (i := 2) (j := 3) rfl sc_law_is_kept.nd rfl rfl (by decide) rfl rfl (pa_cons (pe_dget2 (hu_of hr) (pv 1) (pe_ix ix_tup (pv 0) (pe_nat 1) (fun _ _ => rfl)) pe_non ⟨rfl, rfl, rfl, rfl⟩) (pa_cons (pe_dget2 (hu_of hr) (pv 1) (pe_ix ix_tup (pv 0) (pe_nat 2) (fun _ _ => rfl)) pe_non ⟨rfl, rfl, rfl, rfl⟩) pa_nil)) (by rfl))
    (pss_cons (ps_if (PW.pt (pw_or (pt_cmpR op_isN (pv 2) pe_non (nomark _)) (pw_or (pt_cmpR op_isN (pv 3) pe_non (nomark _)) (pw_or (pt_cmpR op_ne (pe_ix ix_tup (pv 2) (pe_nat 0) (fun _ _ => rfl)) pe_str (nomark _)) (pw_or1 (pt_cmpR op_ne (pe_ix ix_tup (pv 2) (pe_nat 1) (fun _ _ => rfl)) (pe_ix ix_tup (pv 3) (pe_nat 1) (fun _ _ => rfl)) (nomark _))))))) (pss_one (ps_ret pe_bl)) pss_nil)
    (pss_cons (ps_if (pt_cmpR op_eq (pe_ix ix_tup (pv 0) (pe_nat 0) (fun _ _ => rfl)) pe_str (nomark _)) (pss_one (ps_ret (pe_and (pe_cmpR op_eq (pe_ix ix_tup (pv 3) (pe_nat 0) (fun _ _ => rfl)) pe_str (nomark _)) (pe_one (pe_h (ok_law_are_alike (K := K) T) (hr.mono (by decide)) passL (pa_cons (pv 2) (pa_cons (pv 3) pa_nil))))))) pss_nil)
    (pss_cons (ps_if (pt_cmpR op_eq (pe_ix ix_tup (pv 0) (pe_nat 0) (fun _ _ => rfl)) pe_str (nomark _)) (pss_one (ps_ret (pe_and (pe_cmpR op_eq (pe_ix ix_tup (pv 3) (pe_nat 0) (fun _ _ => rfl)) pe_str (nomark _)) (pe_one (pe_h (ok_law_is_free (K := K) T) (hr.mono (by decide)) passL (pa_cons (pv 2) (pa_cons (pv 3) pa_nil))))))) pss_nil)
    (pss_one (ps_ret (pe_and (pe_cmpR op_eq (pe_ix ix_tup (pv 3) (pe_nat 0) (fun _ _ => rfl)) pe_str (nomark _)) (pe_one (pe_cmpR op_le (pe_op op_subM (pe_h (ok_law_size (K := K) T) (hr.mono (by decide)) passL (pa_cons (pe_op op_catA (pe_ix ix_tup (pv 2) (pe_nat 2) (fun _ _ => rfl)) (pe_ix ix_tup (pv 3) (pe_nat 2) (fun _ _ => rfl))) pa_nil)) (pe_h (ok_law_size (K := K) T) (hr.mono (by decide)) passL (pa_cons (pe_ix ix_tup (pv 2) (pe_nat 2) (fun _ _ => rfl)) pa_nil))) (pe_ix ix_tup (pv 0) (pe_nat 3) (fun _ _ => rfl)) (nomark _)))))))))), ?_⟩
  have at0 : atI (Prm.vs pr) ((0 : Nat) : Int) = some (.str (match pr with | .steps .. => "steps" | .alike .. => "alike" | .free .. => "free")) := by cases pr <;> rfl
  have at1 : atI (Prm.vs pr) ((1 : Nat) : Int) = some (.str pr.one) := by cases pr <;> rfl
  have at2 : atI (Prm.vs pr) ((2 : Nat) : Int) = some (.str pr.other) := by cases pr <;> rfl
  have isd : IsD H d := .inl ⟨_, .inl hd⟩
  have dg : ∀ x : Str, DGet H d (.str x) (valV kvs (Sum.inr x)) := fun x => .inl ⟨kvs, Sum.inr x, .inl hd, rfl, rfl⟩
  have qq := q
  have q := q _ (Same.refl _)
  refine ⟨_, rfl, d, rfl, isd, _, rfl, p, _, _, _, rfl, rfl, hp, at1, _, dg _, _, rfl, d, rfl, isd, _, rfl, p, _, _, _, rfl, rfl, hp, at2, _, dg _, _, _, rfl, ?_⟩
  rcases hR.get pr.one with ⟨h1, g1⟩ | ⟨p1, t1, h1, g1, r1⟩
  · rw [g1]
    have hk : kept ts pr = false := by unfold kept; rw [h1]
    rw [hk] at q
    exact ⟨_, rfl, rfl, _, rfl, iteD (fun _ => iteT q) (fun z => absurd rfl z)⟩
  rcases hR.get pr.other with ⟨h2, g2⟩ | ⟨p2, t2, h2, g2, r2⟩
  · rw [g1, g2]
    have hk : kept ts pr = false := by unfold kept; rw [h1, h2]
    rw [hk] at q
    exact ⟨_, rfl, rfl, _, rfl, iteD (fun z => nomatch z) (fun _ => ⟨_, rfl, rfl, _, rfl, iteD (fun _ => iteT q) (fun z => absurd rfl z)⟩)⟩
  rw [g1, g2]
  have hk : kept ts pr = keptT pr t1 t2 := by unfold kept; rw [h1, h2]
  rw [hk] at q
  have w1 := hwf _ _ h1
  have w2 := hwf _ _ h2
  obtain ⟨wd1, m1, ht1, hwd1, hmo1⟩ := id r1
  obtain ⟨wd2, m2, ht2, hwd2, hmo2⟩ := id r2
  refine ⟨_, rfl, rfl, _, rfl, iteD (fun z => nomatch z) (fun _ => ⟨_, rfl, rfl, _, rfl, iteD (fun z => nomatch z) (fun _ => ?_)⟩)⟩
  refine ⟨_, rfl, p1, _, _, _, rfl, rfl, SqT.of ht1, tup_i0, rfl, _, rfl, iteN (fun hns => ?_) (fun hsp => ?_)⟩
  · rw [keptT_first hns] at q
    exact iteT q
  refine ⟨_, rfl, p1, _, _, _, rfl, rfl, SqT.of ht1, tup_i1, _, rfl, p2, _, _, _, rfl, rfl, SqT.of ht2, tup_i1, rfl, _, rfl, iteN (fun hnb => ?_) (fun hb => ?_)⟩
  · rw [keptT_bits hnb] at q
    exact q
  have hb := bits_inj hb
  cases t1 with
  | space n u => exact absurd hsp ns_ps
  | store n c k => exact absurd hsp ns_ts
  | spread n ss l =>
    obtain ⟨m1, rfl, hm1⟩ := hmo1
    have hwd1 : SqT K H wd1 (wl ss) := hwd1
    refine ⟨_, rfl, p, _, _, _, rfl, rfl, hp, at0, rfl, _, rfl, ?_⟩
    have hb2 : n = t2.bits := hb
    rw [hk] at qq
    cases pr with
    | alike x y =>
      refine iteD (fun _ => ⟨_, rfl, p2, _, _, _, rfl, rfl, SqT.of ht2, tup_i0, rfl, _, rfl, iteD (fun hk2 => ?_) (fun hk2 => ?_)⟩) (fun z => absurd rfl z)
      · cases t2 with
        | spread n2 s2 l2 =>
          refine ⟨_, rfl, _, rfl, _, _, rfl, p1, p2, n, n2, ss, l, s2, l2, rfl, rfl, r1, r2, w1.2.1, w1.2.2.1, w2.2.1, w2.2.2.1, fun H' e => ?_⟩
          have : keptT (.alike x y) (.spread n ss l) (.spread n2 s2 l2) = alikeB ss l s2 l2 := by
            show (decide (n = n2) && _) = _
            rw [decide_eq_true (show n = n2 from hb2)]; rfl
          rw [← this]
          exact qq _ e
        | space n2 u => exact absurd hk2 ns_ps
        | store n2 c k => exact absurd hk2 ns_ts
      · cases t2 with
        | spread n2 s2 l2 => exact absurd rfl hk2
        | space n2 u => exact q
        | store n2 c k => exact q
    | free x y =>
      refine iteD (fun z => absurd z nq_af) (fun _ => ⟨_, rfl, p, _, _, _, rfl, rfl, hp, at0, rfl, _, rfl, iteD (fun _ => ⟨_, rfl, p2, _, _, _, rfl, rfl, SqT.of ht2, tup_i0, rfl, _, rfl, iteD (fun hk2 => ?_) (fun hk2 => ?_)⟩) (fun z => absurd rfl z)⟩)
      · cases t2 with
        | store n2 c k =>
          have w2 : n2 ≤ 4 ∧ c.length = n2 ∧ Lt n2 c ∧ rk c = n2 ∧ k ≤ n2 := w2
          refine ⟨_, rfl, _, rfl, _, _, rfl, p1, p2, n, n2, ss, l, c, k, rfl, rfl, r1, r2, w1.2.2.1, by omega, by omega, fun H' e => ?_⟩
          have : keptT (.free x y) (.spread n ss l) (.store n2 c k) = freeB l c k := by
            show (decide (n = n2) && _) = _
            rw [decide_eq_true (show n = n2 from hb2)]; rfl
          rw [← this]
          exact qq _ e
        | space n2 u => exact absurd hk2 ns_pt
        | spread n2 s2 l2 => exact absurd hk2 ns_st
      · cases t2 with
        | store n2 c k => exact absurd rfl hk2
        | space n2 u => exact q
        | spread n2 s2 l2 => exact q
    | steps x y k =>
      refine iteD (fun z => absurd z nq_as) (fun _ => ⟨_, rfl, p, _, _, _, rfl, rfl, hp, at0, rfl, _, rfl, iteD (fun z => absurd z nq_fs) (fun _ => ⟨_, rfl, p2, _, _, _, rfl, rfl, SqT.of ht2, tup_i0, rfl, _, rfl, iteD (fun hk2 => ?_) (fun hk2 => ?_)⟩)⟩)
      · cases t2 with
        | space n2 u =>
          have w2 : n2 ≤ 4 ∧ u.length ≤ 8 ∧ Lt n2 u := w2
          have w1 : n ≤ 4 ∧ ss.length ≤ 8 ∧ l.length ≤ 8 ∧ Lt n ss ∧ Lt n l ∧ rk (ss ++ l) = n := w1
          have hwd2 : SqT K H wd2 (wl u) := hwd2
          have fin : ∀ (r : Addr) (H1 : Hp), Same H H1 → SqT K H1 r (wl (ss ++ u)) → ∃ k', V.ref r = .ref r ∧ k' = false ∧ Sq K k' H1 r (wl (ss ++ u)) := fun r H1 e h => ⟨false, rfl, rfl, h⟩
          have hle : lsize ss ≤ lsize (ss ++ u) := by
            rw [lsize_rk, lsize_rk]
            exact rk_mono fun x hx => sp_sub (fun y hy => List.mem_append_left _ hy) hx
          have last : keptT (.steps x y k) (.spread n ss l) (.space n2 u) = decide (lsize (ss ++ u) - lsize ss ≤ k) := by
            show (decide (n = n2) && _) = _
            rw [decide_eq_true (show n = n2 from hb2)]; rfl
          refine ⟨_, rfl, p1, _, _, _, rfl, rfl, SqT.of ht1, tup_i2, _, rfl, p2, _, _, _, rfl, rfl, SqT.of ht2, tup_i2, ?_⟩
          refine catA_any hwd1 hwd2 (by simp only [wl, List.length_map]; exact Nat.le_of_lt (small1000 (by omega))) fun r H1 e1 hr1 => ?_
          refine ⟨_, rfl, r, false, ss ++ u, rfl, by rw [wl_append]; exact hr1, by rw [List.length_append]; omega, fun H2 e2 => ⟨_, rfl, p1, _, _, _, rfl, rfl, SqT.of ((e1.trans e2) _ _ ht1), tup_i2, _, rfl, wd1, false, ss, rfl, (e1.trans e2).tup hwd1, by omega, fun H3 e3 => ⟨_, _, rfl, rfl, hle, _, rfl, p, _, _, .int (k : Int), rfl, rfl, ((e1.trans e2).trans e3).tup hp, rfl, _, _, rfl, rfl, ?_⟩⟩⟩
          have : decide (((lsize (ss ++ u) - lsize ss : Nat) : Int) ≤ (k : Int)) = keptT (.steps x y k) (.spread n ss l) (.space n2 u) := by
            rw [last]
            by_cases z : lsize (ss ++ u) - lsize ss ≤ k
            · rw [decide_eq_true z]; exact decide_eq_true (by omega)
            · rw [decide_eq_false z]; exact decide_eq_false (by omega)
          show Q (.bl (decide (((lsize (ss ++ u) - lsize ss : Nat) : Int) ≤ (k : Int)))) H3
          rw [this]
          exact qq _ ((e1.trans e2).trans e3)
        | store n2 c k => exact absurd hk2 ns_tp
        | spread n2 s2 l2 => exact absurd hk2 ns_sp
      · cases t2 with
        | space n2 u => exact absurd rfl hk2
        | store n2 c k => exact q
        | spread n2 s2 l2 => exact q
end
end L2.Lk
/-! L11 -/
set_option Elab.async false
set_option linter.all false
set_option maxRecDepth 100000
set_option maxHeartbeats 2000000
namespace L2.Lk
open PySem PySem.Spec PyProof.Rows
section
variable {P : Program} {w : World} {K : PySem.W.Frag} {mg : Str → Option Value} {base : Heap}
/-- the law's list of promises -/
def GivL (H : Hp) (g : Addr) (gs : List Prm) : Prop := ∃ ps : List Addr, H g = some (.lst (ps.map V.ref)) ∧ Paired (fun p pr => H p = some (.tup (Prm.vs pr))) ps gs
abbrev sp_first_broken (K : PySem.W.Frag) : L2.Sp := S2 fun a b H Q _ => ∃ d kvs ts g gs, a = .ref d ∧ b = .ref g ∧ H d = some (.dK kvs) ∧ RepL K H kvs ts ∧ WfAll ts ∧ GivL H g gs ∧ (broken ts gs = none → ∀ H', Same H H' → Q .non H') ∧ ∀ pr, broken ts gs = some pr → ∀ p H', Same H H' → H' p = some (.tup pr.vs) → Q (.ref p) H'
theorem ok_law_first_broken (T : Tx P K mg) : Has P w K mg base 7 "_law_first_broken" ["_law_things", "_law_given"] (sp_first_broken K) := by
  refine ⟨g_law_first_broken T, ok2 (F_law_first_broken T) sc_law_first_broken fun cdv A outer s H a b Q E hr h => ?_⟩
  obtain ⟨d, kvs, ts, g, gs, rfl, rfl, hd, hR, hwf, ⟨ps, hg, hps⟩, q, qb⟩ := h
  refine ⟨_, (pss_cons (ps_for (passes_of rfl) rfl (pi_seq (pv 1)) (pg_name (i := 2) sc_law_first_broken.nd rfl (.inl rfl)) (pss_one (ps_if (pt_not (pt_val (pe_h (ok_law_is_kept (K := K) T) (hr.mono (by decide)) passL (pa_cons (pv 2) (pa_cons (pv 0) pa_nil))))) (pss_one (ps_ret (pv 2))) pss_nil)))
    (pss_one (ps_ret pe_non))), ?_⟩
  refine ⟨_, rfl, g, rfl, for_sq (k := true) (xs := ps.map V.ref) (Pv := fun i σ H' => Same H H' ∧ broken ts (gs.take i) = none ∧ ∃ y, σ = [some (.ref d), some (.ref g), y]) ⟨Same.refl _, rfl, none, rfl⟩ (fun i σ H' h => SqL.of (h.1 _ _ hg)) (fun i v σ H' hv h => ?_) (fun σ H' h => ?_)⟩
  · obtain ⟨e, hb, y, rfl⟩ := h
    obtain ⟨p, pr, hp, hpr, rfl, hat⟩ : ∃ p pr, ps[i]? = some p ∧ gs[i]? = some pr ∧ v = .ref p ∧ H p = some (.tup pr.vs) := by
      rw [List.getElem?_map] at hv
      cases hp : ps[i]? with
      | none => rw [hp] at hv; cases hv
      | some p =>
        rw [hp] at hv
        obtain ⟨pr, h1, h2⟩ := paired_at hps hp
        exact ⟨p, pr, rfl, h1, (Option.some.inj hv).symm, h2⟩
    refine ⟨_, rfl, _, rfl, _, _, rfl, p, d, kvs, ts, pr, rfl, rfl, SqT.of (e _ _ hat), e _ _ hd, hR.same e, hwf, fun H1 e1 => ⟨_, rfl, ?_⟩⟩
    cases hk : kept ts pr with
    | true => exact iteF ⟨e.trans e1, by rw [broken_take hpr hb, hk]; rfl, some (.ref p), rfl⟩
    | false => exact iteT ⟨_, rfl, qb pr (broken_at hpr hb hk) p _ (e.trans e1) ((e.trans e1) _ _ hat)⟩
  · obtain ⟨e, hb, y, rfl⟩ := h
    rw [List.length_map, Paired.length hps, List.take_length] at hb
    exact q hb _ e
abbrev nmsV : List V := [.str "a", .str "b", .str "c", .str "d", .str "zz"]
def NmOk (x : Str) : Prop := nameB x = true ∧ flatOk (.str x) = true ∧ x.length ≤ sizeLine
theorem nms_ok {v : V} (h : v ∈ nmsV) : ∃ x : Str, v = .str x ∧ NmOk x := by
  simp only [nmsV, List.mem_cons, List.not_mem_nil, or_false] at h
  rcases h with rfl | rfl | rfl | rfl | rfl <;> exact ⟨_, rfl, by decide +kernel, by decide +kernel, by decide +kernel⟩
theorem ok_steps {a b : Str} {k : Nat} (h1 : NmOk a) (h2 : NmOk b) : PrmOk (.steps a b k) := by
  refine ⟨?_, ?_, fun x hx => ?_⟩
  · show (flatOk (.str "steps") && (flatOk (.str a) && (flatOk (.str b) && (flatOk (nV k) && true)))) = true
    rw [h1.2.1, h2.2.1, show flatOk (nV k) = true from rfl]
    decide +kernel
  · show (isS (.str "steps") && (inV (.str "steps") wordsL && (decide (4 = if inV (.str "steps") countedL then 4 else 3) && (nameB a && (nameB b && (!inV (.str "steps") countedL || wholeV (nV k))))))) = true
    rw [h1.1, h2.1, whole_nat]
    decide +kernel
  · simp only [Prm.vs, List.mem_cons, List.not_mem_nil, or_false, V.str.injEq, reduceCtorEq] at hx
    rcases hx with rfl | rfl | rfl
    · decide +kernel
    · exact h1.2.2
    · exact h2.2.2
theorem ok_alike {a b : Str} (h1 : NmOk a) (h2 : NmOk b) : PrmOk (.alike a b) := by
  refine ⟨?_, ?_, fun x hx => ?_⟩
  · show (flatOk (.str "alike") && (flatOk (.str a) && (flatOk (.str b) && true))) = true
    rw [h1.2.1, h2.2.1]
    decide +kernel
  · show (isS (.str "alike") && (inV (.str "alike") wordsL && (decide (3 = if inV (.str "alike") countedL then 4 else 3) && (nameB a && (nameB b && (!inV (.str "alike") countedL || wholeV .non)))))) = true
    rw [h1.1, h2.1]
    decide +kernel
  · simp only [Prm.vs, List.mem_cons, List.not_mem_nil, or_false, V.str.injEq] at hx
    rcases hx with rfl | rfl | rfl
    · decide +kernel
    · exact h1.2.2
    · exact h2.2.2
theorem ok_free {a b : Str} (h1 : NmOk a) (h2 : NmOk b) : PrmOk (.free a b) := by
  refine ⟨?_, ?_, fun x hx => ?_⟩
  · show (flatOk (.str "free") && (flatOk (.str a) && (flatOk (.str b) && true))) = true
    rw [h1.2.1, h2.2.1]
    decide +kernel
  · show (isS (.str "free") && (inV (.str "free") wordsL && (decide (3 = if inV (.str "free") countedL then 4 else 3) && (nameB a && (nameB b && (!inV (.str "free") countedL || wholeV .non)))))) = true
    rw [h1.1, h2.1]
    decide +kernel
  · simp only [Prm.vs, List.mem_cons, List.not_mem_nil, or_false, V.str.injEq] at hx
    rcases hx with rfl | rfl | rfl
    · decide +kernel
    · exact h1.2.2
    · exact h2.2.2
abbrev sp_drawn_promise (K : PySem.W.Frag) : L2.Sp := S1 fun a H Q _ => ∃ pen c f, a = .ref pen ∧ PenAt H pen c (f + 4) ∧ ∀ p pr H', PrmAt H' p pr → Sx [pen] H H' → PenAt H' pen c f → Q (.ref p) H'
theorem ok_law_drawn_promise (T : Tx P K mg) : Has P w K mg base 3 "_law_drawn_promise" ["_law_pen"] (sp_drawn_promise K) := by
  refine ⟨g_law_drawn_promise T, ok1 (F_law_drawn_promise T) sc_law_drawn_promise fun cdv A outer s H a Q E hr h => ?_⟩
  obtain ⟨pen, c, f, rfl, hpen, q⟩ := h
  refine ⟨_, (pss_cons (ps_par (i := 1) (j := 2) rfl sc_law_drawn_promise.nd rfl rfl (by decide) rfl rfl (pa_cons (pe_h (ok_law_pick (K := K) T) (hr.mono (by decide)) passL (pa_cons (pv 0) (pa_cons (pe_lst (pa_cons pe_str (pa_cons pe_str (pa_cons pe_str pa_nil)))) pa_nil))) (pa_cons (pe_lst (pa_cons pe_str (pa_cons pe_str (pa_cons pe_str (pa_cons pe_str (pa_cons pe_str pa_nil)))))) pa_nil)) (by rfl))
    (pss_cons (ps_par (i := 3) (j := 4) rfl sc_law_drawn_promise.nd rfl rfl (by decide) rfl rfl (pa_cons (pe_h (ok_law_pick (K := K) T) (hr.mono (by decide)) passL (pa_cons (pv 0) (pa_cons (pv 2) pa_nil))) (pa_cons (pe_h (ok_law_pick (K := K) T) (hr.mono (by decide)) passL (pa_cons (pv 0) (pa_cons (pv 2) pa_nil))) pa_nil)) (by rfl))
    (pss_one (ps_ret (pe_ifExp (pt_cmpR op_eq (pv 1) pe_str (nomark _)) (pe_tup (pa_cons (pv 1) (pa_cons (pv 3) (pa_cons (pv 4) (pa_cons (pe_h (ok_law_draw (K := K) T) (hr.mono (by decide)) passL (pa_cons (pv 0) (pa_cons (pe_nat 4) pa_nil))) pa_nil))))) (pe_tup (pa_cons (pv 1) (pa_cons (pv 3) (pa_cons (pv 4) pa_nil))))))))), ?_⟩
  refine ⟨_, rfl, by show 3 ≤ sizeLine; decide, fun l hl => ?_⟩
  have e1 := Same.new (o := .lst [.str "steps", .str "alike", .str "free"]) hl
  refine ⟨_, _, rfl, pen, c, f + 3, l, _, rfl, rfl, SqL.of upd_same, by show 1 ≤ 3; decide, by show 3 ≤ 1000; decide, hpen.same e1, fun i v H2 hi e2 hp2 => ?_⟩
  refine ⟨by show 5 ≤ sizeLine; decide, fun l2 hl2 => ⟨_, _, rfl, ?_⟩⟩
  have e3 := Same.new (o := .lst nmsV) hl2
  have e03 := (e1.sx.trans e2).then e3
  refine ⟨_, rfl, _, rfl, _, _, rfl, pen, c, f + 2, l2, nmsV, rfl, rfl, SqL.of upd_same, by decide, by decide, hp2.same e3, fun i1 v1 H4 hi1 e4 hp4 => ?_⟩
  refine ⟨_, rfl, _, rfl, _, _, rfl, pen, c, f + 1, l2, nmsV, rfl, rfl, SqL.of (((hp2.same e3).stay e4).lst upd_same), by decide, by decide, hp4, fun i2 v2 H5 hi2 e5 hp5 => ⟨_, _, rfl, ?_⟩⟩
  obtain ⟨x, rfl, hx⟩ := nms_ok (List.mem_of_getElem? hi1)
  obtain ⟨y, rfl, hy⟩ := nms_ok (List.mem_of_getElem? hi2)
  have e05 := (e03.trans e4).trans e5
  have hv : v = .str "steps" ∨ v = .str "alike" ∨ v = .str "free" := by
    have := List.mem_of_getElem? hi
    simp only [List.mem_cons, List.not_mem_nil, or_false] at this
    exact this
  rcases hv with rfl | rfl | rfl
  · refine ⟨_, rfl, rfl, _, rfl, iteD (fun _ => ?_) (fun z => absurd rfl z)⟩
    refine ⟨_, rfl, _, rfl, _, rfl, _, rfl, _, _, rfl, pen, c, f, 4, rfl, rfl, by decide, by decide, hp5, fun k H6 hk e6 hp6 => ⟨by show 4 ≤ sizeLine; decide, fun p hp => ?_⟩⟩
    have e7 := Same.new (o := .tup [.str "steps", .str x, .str y, nV k]) hp
    exact q p (.steps x y k) _ ⟨upd_same, ok_steps hx hy⟩ ((e05.trans e6).then e7) (hp6.same e7)
  · refine ⟨_, rfl, rfl, _, rfl, iteD (fun z => absurd z (by decide +kernel)) (fun _ => ?_)⟩
    refine ⟨_, rfl, _, rfl, _, rfl, by show 3 ≤ sizeLine; decide, fun p hp => ?_⟩
    have e7 := Same.new (o := .tup [.str "alike", .str x, .str y]) hp
    exact q p (.alike x y) _ ⟨upd_same, ok_alike hx hy⟩ (e05.then e7) ((hp5.mono (by omega)).same e7)
  · refine ⟨_, rfl, rfl, _, rfl, iteD (fun z => absurd z (by decide +kernel)) (fun _ => ?_)⟩
    refine ⟨_, rfl, _, rfl, _, rfl, by show 3 ≤ sizeLine; decide, fun p hp => ?_⟩
    have e7 := Same.new (o := .tup [.str "free", .str x, .str y]) hp
    exact q p (.free x y) _ ⟨upd_same, ok_free hx hy⟩ (e05.then e7) ((hp5.mono (by omega)).same e7)
end
end L2.Lk
/-! L12 -/
set_option Elab.async false
set_option linter.all false
set_option maxRecDepth 100000
set_option maxHeartbeats 2000000
namespace L2.Lk
open PySem PySem.Spec PyProof.Rows
section
variable {P : Program} {w : World} {K : PySem.W.Frag} {mg : Str → Option Value} {base : Heap}
abbrev sp_likely (K : PySem.W.Frag) : L2.Sp := S2 fun a b H Q _ => ∃ pen c f d kvs ts, a = .ref pen ∧ b = .ref d ∧ d ≠ pen ∧ PenAt H pen c (f + 30) ∧ H d = some (.dK kvs) ∧ RepL K H kvs ts ∧ WfAll ts ∧ ∀ p pr H', PrmAt H' p pr → Sx [pen] H H' → PenAt H' pen c f → Q (.ref p) H'
theorem ok_law_likely_promise (T : Tx P K mg) : Has P w K mg base 7 "_law_likely_promise" ["_law_pen", "_law_things"] (sp_likely K) := by
  refine ⟨g_law_likely_promise T, ok2 (F_law_likely_promise T) sc_law_likely_promise fun cdv A outer s H a b Q E hr h => ?_⟩
  obtain ⟨pen, c, f, d, kvs, ts, rfl, rfl, hne, hpen, hd, hR, hwf, q⟩ := h
  refine ⟨_, (pss_cons (ps_for (passes_of rfl) rfl (pi_range1 (by rfl) (b_range T) (pa_cons (pe_nat 6) pa_nil)) (pg_name (i := 2) sc_law_likely_promise.nd rfl (.inl rfl)) (pss_cons (ps_set (i := 3) sc_law_likely_promise.nd rfl (.inl rfl) (pe_h (ok_law_drawn_promise (K := K) T) (hr.mono (by decide)) passL (pa_cons (pv 0) pa_nil)))
    (pss_one (ps_if (pt_val (pe_h (ok_law_is_kept (K := K) T) (hr.mono (by decide)) passL (pa_cons (pv 3) (pa_cons (pv 1) pa_nil)))) (pss_one (ps_ret (pv 3))) pss_nil))))
    (pss_one (ps_ret (pe_h (ok_law_drawn_promise (K := K) T) (hr.mono (by decide)) passL (pa_cons (pv 0) pa_nil))))), ?_⟩
  refine ⟨6, rfl, by decide, by decide, for_rangeM (n := 6) (Pv := fun i σ H' => Sx [pen] H H' ∧ PenAt H' pen c (f + 4 + 4 * (6 - i)) ∧ ∃ x y, σ = [some (.ref pen), some (.ref d), x, y]) ⟨Sx.refl, hpen.mono (by omega), none, none, rfl⟩ (fun i σ H1 hi p => ?_) (fun σ H1 p => ?_)⟩
  · obtain ⟨e, hp, x, y, rfl⟩ := p
    refine ⟨_, rfl, _, rfl, pen, c, f + 4 + 4 * (6 - (i + 1)), rfl, hp.mono (by omega), fun p pr H2 hpr e2 hp2 => ?_⟩
    have e' := e.trans e2
    refine ⟨_, rfl, _, rfl, _, _, rfl, p, d, kvs, ts, pr, rfl, rfl, SqT.of hpr.1, e' _ _ (fun z => hne (List.mem_singleton.mp z)) hd, hR.stay (hpen.stay e'), hwf, fun H3 e3 => ⟨_, rfl, ?_⟩⟩
    cases kept ts pr with
    | true => exact iteT ⟨_, rfl, q p pr _ (hpr.same e3) (e'.then e3) ((hp2.mono (by omega)).same e3)⟩
    | false => exact iteF ⟨e'.then e3, hp2.same e3, some (nV i), some (.ref p), rfl⟩
  · obtain ⟨e, hp, x, y, rfl⟩ := p
    exact ⟨_, rfl, _, rfl, pen, c, f, rfl, hp.mono (by omega), fun p pr H2 hpr e2 hp2 => q p pr _ hpr (e.trans e2) hp2⟩
abbrev sp_backs (K : PySem.W.Frag) : L2.Sp := S1 fun a H Q _ => ∃ p cs, a = .ref p ∧ SqL K H p (wl cs) ∧ cs.length ≤ 60 ∧ ∀ r H', Same H H' → H r = none → H' r = some (.lst (wl (lbacks cs))) → Q (.ref r) H'
theorem ok_law_backs (T : Tx P K mg) : Has P w K mg base 2 "_law_backs" ["_law_columns"] (sp_backs K) := by
  refine ⟨g_law_backs T, ok1 (F_law_backs T) sc_law_backs fun cdv A outer s H a Q E hr h => ?_⟩
  obtain ⟨p, cs, rfl, hp, hz, q⟩ := h
  refine ⟨_, (pss_cons (ps_par (i := 1) (j := 2) rfl sc_law_backs.nd rfl rfl (by decide) rfl rfl (pa_cons (pe_lst pa_nil) (pa_cons (pe_ix ix_tup (pe_h (ok_law_tagged (K := K) T) (hr.mono (by decide)) passL (pa_cons (pv 0) pa_nil)) (pe_nat 0) (fun _ _ => rfl)) pa_nil)) (by rfl))
    (pss_cons (ps_for (passes_of rfl) rfl (pi_range1 (by rfl) (b_range T) (pa_cons (pe_callB (call_lenM K) (by rfl) (b_len T) bb_len (pa_cons (pv 0) pa_nil)) pa_nil)) (pg_name (i := 3) sc_law_backs.nd rfl (.inl rfl)) (pss_cons (ps_par (i := 4) (j := 5) rfl sc_law_backs.nd rfl rfl (by decide) rfl rfl (pa_cons (pe_op op_shlM (pe_nat 1) (pv 3)) (pa_cons (pe_nat 0) pa_nil)) (by rfl))
    (pss_cons (ps_for (passes_of rfl) rfl (pi_seq (pv 2)) (pg_tupK (n := 2) K rfl (pgs_cons (pg_name (i := 6) sc_law_backs.nd rfl (.inl rfl)) (pgs_cons (pg_name (i := 7) sc_law_backs.nd rfl (.inl rfl)) pgs_nil))) (pss_one (ps_if (pt_cmpR op_neM (pe_op op_andM' (pv 4) (pe_op op_low (pv 6) (pe_un un_neg (pv 6)))) (pe_nat 0) (nomark _)) (pss_one (ps_par (i := 4) (j := 5) rfl sc_law_backs.nd rfl rfl (by decide) rfl rfl (pa_cons (pe_op op_xorM (pv 4) (pv 6)) (pa_cons (pe_op op_xorM (pv 5) (pv 7)) pa_nil)) (by rfl))) pss_nil)))
    (pss_one (ps_expr (pe_bm PySem.F.plainAttrs_list PySem.F.slot_list_append PySem.F.type_list_append mt_append (pv 1) (pa_cons (pv 5) pa_nil)))))))
    (pss_one (ps_ret (pv 1))))), ?_⟩
  refine ⟨Nat.zero_le _, fun lf hlf => ?_⟩
  have e0 := Same.new (H := H) (o := .lst []) hlf
  refine ⟨_, rfl, _, rfl, p, true, cs, rfl, e0.seq hp, hz, fun t lr lf2 ps H1 e1 ht h1 h2 h3 hlrn _ _ => ⟨t, _, _, .ref lr, rfl, rfl, SqT.of ht, atI_nat (j := 0) rfl, _, _, rfl, ?_⟩⟩
  have e01 := e0.trans e1
  have hne : lf ≠ lr := fun z => by
    rw [← z, upd_same] at hlrn
    cases hlrn
  refine ⟨_, rfl, p, true, _, rfl, e01.seq hp, (wl cs).length, rfl, by rw [wl_len]; omega, by rw [wl_len]; omega, for_rangeM (n := (wl cs).length) (Pv := fun i σ H' => Same H H' ∧ H' lr = some (.lst (ps.map V.ref)) ∧ TagAt H' ps (ltagged cs).1 ∧ H' lf = some (.lst (wl ((List.range i).map fun i => (ltag1 (ltagged cs).1 (2 ^ i) 0).2))) ∧
    ∃ x y z u v, σ = [some (.ref p), some (.ref lf), some (.ref lr), x, y, z, u, v]) ⟨e01, h1, h2, e1 _ _ upd_same, none, none, none, none, none, rfl⟩ (fun i σ H' hi h => ?_) (fun σ H' h => ?_)⟩
  · obtain ⟨e, g1, g2, g3, x, y, z, u, v, rfl⟩ := h
    rw [wl_len] at hi
    refine ⟨_, rfl, 1, i, rfl, rfl, ⟨by omega, by omega⟩, _, _, rfl, ?_⟩
    refine ⟨_, rfl, lr, rfl, for_sq (k := true) (xs := ps.map V.ref) (Pv := fun j σ H2 => H2 = H' ∧ ∃ w t u v, σ = [some (.ref p), some (.ref lf), some (.ref lr), some (nV i), some (nV w), some (nV t), u, v] ∧ ltag1 ((ltagged cs).1.drop j) w t = ltag1 (ltagged cs).1 (2 ^ i) 0) ⟨rfl, 1 * 2 ^ i, 0, u, v, rfl, by rw [Nat.one_mul]; rfl⟩ (fun j σ H' h => by rw [h.1]; exact SqL.of g1) (fun j x σ H2 hx h => ?_) (fun σ H2 h => ?_)⟩
    · obtain ⟨rfl, w, t, u, v, rfl, hw⟩ := h
      rw [List.getElem?_map] at hx
      cases hp : ps[j]? with
      | none => rw [hp] at hx; cases hx
      | some pa =>
        rw [hp] at hx
        obtain rfl := Option.some.inj hx
        obtain ⟨⟨r, m⟩, hr1, hr2⟩ := paired_at g2 hp
        have hn : r ≠ 0 := h3 _ (List.mem_of_getElem? hr1)
        rw [drop_at hr1] at hw
        refine ⟨pa, _, rfl, SqT.of hr2, rfl, _, _, rfl, _, _, rfl, rfl, ?_⟩
        refine ⟨_, rfl, _, rfl, _, rfl, _, rfl, r, hn, rfl, rfl, _, _, rfl, rfl, _, 0, rfl, rfl, _, rfl, iteN (fun hb => ?_) (fun hb => ?_)⟩
        · have hb := and_pow_ne.mp hb
          have hw := (if_pos hb : (if w.testBit (tz r) = true then ltag1 ((ltagged cs).1.drop (j + 1)) (w ^^^ r) (t ^^^ m) else ltag1 ((ltagged cs).1.drop (j + 1)) w t) = _).symm.trans hw
          exact ⟨_, rfl, _, rfl, _, _, rfl, rfl, _, rfl, _, rfl, _, _, rfl, rfl, _, _, rfl, rfl, _, _, _, _, rfl, hw⟩
        · have hb : ¬ w.testBit (tz r) = true := fun z => and_pow_ne.mpr z hb
          have hw := (if_neg hb : (if w.testBit (tz r) = true then ltag1 ((ltagged cs).1.drop (j + 1)) (w ^^^ r) (t ^^^ m) else ltag1 ((ltagged cs).1.drop (j + 1)) w t) = _).symm.trans hw
          exact ⟨rfl, _, _, _, _, rfl, hw⟩
    · obtain ⟨rfl, w, t, u, v, rfl, hw⟩ := h
      rw [List.length_map, Paired.length g2, List.drop_length] at hw
      have hw : (w, t) = ltag1 (ltagged cs).1 (2 ^ i) 0 := hw
      have et : t = (ltag1 (ltagged cs).1 (2 ^ i) 0).2 := by rw [← hw]
      refine ⟨_, rfl, .inl ⟨rfl, _, SqL.of g3⟩, _, rfl, lf, _, _, rfl, rfl, g3, by rw [wl_len, List.length_map, List.length_range]; exact small1000 (by omega), Same.but hlf e (Same.refl _), ?_, g2.same (fun b o hb hn => ?_), ?_, _, _, _, _, _, rfl⟩
      · rw [upd_ne (Ne.symm hne)]; exact g1
      · rw [upd_ne (fun z => by rw [z, g3] at hb; exact hn _ (Option.some.inj hb).symm)]; exact hb
      · rw [upd_same, ← wl_snoc, List.range_succ, List.map_append, et]; rfl
  · obtain ⟨e, g1, g2, g3, x, y, z, u, v, rfl⟩ := h
    rw [wl_len] at g3
    exact ⟨_, rfl, q lf _ e hlf g3⟩
end
end L2.Lk
/-! L13 -/
set_option Elab.async false
set_option linter.all false
set_option maxRecDepth 100000
set_option maxHeartbeats 2000000
namespace L2.Lk
open PySem PySem.Spec PyProof.Rows
section
variable {P : Program} {w : World} {K : PySem.W.Frag} {mg : Str → Option Value} {base : Heap}
abbrev sp_moved_thing (K : PySem.W.Frag) : L2.Sp := S2 fun a b H Q _ => ∃ p t q cs, a = .ref p ∧ b = .ref q ∧ LThAt K H p t ∧ t.Wf ∧ SqL K H q (wl cs) ∧ cs.length ≤ 9 ∧ ∀ r H', Same H H' → LThAt K H' r (t.moved cs) → Q (.ref r) H'
theorem ok_law_moved_thing (T : Tx P K mg) : Has P w K mg base 3 "_law_moved_thing" ["_law_thing", "_law_columns"] (sp_moved_thing K) := by
  refine ⟨g_law_moved_thing T, ok2 (F_law_moved_thing T) sc_law_moved_thing fun cdv A outer s H a b Q E hr h => ?_⟩
  obtain ⟨p, t, qq, cs, rfl, rfl, ⟨wd, m, hp, hwd, hmo⟩, hw, hq, hz, q⟩ := h
  refine ⟨_, (pss_cons (ps_asg (pv 0) (pg_tupK (n := 4) K rfl (pgs_cons (pg_name (i := 2) sc_law_moved_thing.nd rfl (.inl rfl)) (pgs_cons (pg_name (i := 3) sc_law_moved_thing.nd rfl (.inl rfl)) (pgs_cons (pg_name (i := 4) sc_law_moved_thing.nd rfl (.inr rfl)) (pgs_cons (pg_name (i := 5) sc_law_moved_thing.nd rfl (.inl rfl)) pgs_nil))))))
    (pss_cons (ps_if (pt_cmpR op_eq (pv 2) pe_str (nomark _)) (pss_one (ps_ret (pe_tup (pa_cons (pv 2) (pa_cons (pv 3) (pa_cons (pe_callTy (call_tupleM K) (by rfl) (b_tuple T) bb_tuple (pa_cons (pe_lc (own := [("_law_tag", 7)]) (g := gName 7) rfl sc_law_moved_thing.nd (pi_seq (pe_h (ok_law_backs (K := K) T) (hr.mono (by decide)) passL (pa_cons (pv 1) pa_nil))) (blkOk_by (own := [("_law_tag", 7)]) (N := N_law_moved_thing) (sc := defScope st_law_moved_thing) (by decide +kernel)) (fun _ _ _ _ _ => pg_name (i := 7) sc_law_moved_thing.nd rfl (Or.inl rfl)) (fun _ _ _ _ _ => pts_nil) (fun _ _ _ _ _ => (pe_h (ok_law_image (K := K) T) (hr.mono (by decide)) passL (pa_cons (pv 4) (pa_cons (pv 7) pa_nil))))) pa_nil)) (pa_cons (pv 5) pa_nil))))))) pss_nil)
    (pss_cons (ps_set (i := 6) sc_law_moved_thing.nd rfl (.inl rfl) (pe_callTy (call_tupleM K) (by rfl) (b_tuple T) bb_tuple (pa_cons (pe_lc (own := [("_law_word_here", 8)]) (g := gName 8) rfl sc_law_moved_thing.nd (pi_seq (pv 4)) (blkOk_by (own := [("_law_word_here", 8)]) (N := N_law_moved_thing) (sc := defScope st_law_moved_thing) (by decide +kernel)) (fun _ _ _ _ _ => pg_name (i := 8) sc_law_moved_thing.nd rfl (Or.inl rfl)) (fun _ _ _ _ _ => pts_nil) (fun _ _ _ _ _ => (pe_h (ok_law_image (K := K) T) (hr.mono (by decide)) passL (pa_cons (pv 1) (pa_cons (pv 8) pa_nil))))) pa_nil)))
    (pss_one (ps_ret (pe_tup (pa_cons (pv 2) (pa_cons (pv 3) (pa_cons (pv 6) (pa_cons (pe_callTy (call_tupleM K) (by rfl) (b_tuple T) bb_tuple (pa_cons (pe_lc (own := [("_law_word_here", 8)]) (g := gName 8) rfl sc_law_moved_thing.nd (pi_seq (pv 5)) (blkOk_by (own := [("_law_word_here", 8)]) (N := N_law_moved_thing) (sc := defScope st_law_moved_thing) (by decide +kernel)) (fun _ _ _ _ _ => pg_name (i := 8) sc_law_moved_thing.nd rfl (Or.inl rfl)) (fun _ _ _ _ _ => pts_nil) (fun _ _ _ _ _ => (pe_h (ok_law_image (K := K) T) (hr.mono (by decide)) passL (pa_cons (pv 1) (pa_cons (pv 8) pa_nil))))) pa_nil)) pa_nil)))))))))), ?_⟩
  refine ⟨_, rfl, p, _, rfl, SqT.of hp, rfl, _, _, rfl, _, _, rfl, _, _, rfl, _, _, rfl, rfl, ?_⟩
  have zw : (wordsT t).length ≤ 8 := by
    cases t with
    | spread n s l => exact hw.2.1
    | space n u => exact hw.2.1
    | store n c b =>
      have hw : n ≤ 4 ∧ c.length = n ∧ Lt n c ∧ rk c = n ∧ b ≤ n := hw
      show c.length ≤ 8
      omega

  cases t with
  | store n c b =>
    obtain rfl : m = nV b := hmo
    have hwd : SqT K H wd (wl c) := hwd
    have zw : c.length ≤ 8 := zw
    refine ⟨_, rfl, rfl, _, rfl, iteD (fun _ => ?_) (fun z => absurd rfl z)⟩
    refine ⟨_, rfl, _, rfl, _, rfl, _, rfl, qq, cs, rfl, hq, by omega, fun r H1 e1 hrn hr => ?_⟩
    refine ⟨r, rfl, lc_natM (k := true) (ws := lbacks cs) (img c) (SqL.of hr) (by rw [lbacks_len]; omega) (fun i x H2 Nx No hi e2 hN => ?_) (fun D H2 hD e2 hd => ?_)⟩
    · exact ⟨rfl, _, rfl, _, rfl, _, _, rfl, wd, false, c, x, rfl, rfl, (e1.trans e2).tup hwd, by omega, fun H3 e3 => hN _ e3⟩
    · refine ⟨D, true, _, rfl, SqL.of hd, fun m1 H3 e3 hm1 => ⟨_, rfl, by show 4 ≤ sizeLine; decide, fun r2 hr2 => ?_⟩⟩
      have e4 := Same.new (o := .tup [.str "store", nV n, .ref m1, nV b]) hr2
      exact q r2 _ (((e1.trans e2).trans e3).trans e4) ⟨m1, nV b, upd_same, e4.tup hm1, rfl⟩
  | spread n ss l =>
    obtain ⟨mm, rfl, hm⟩ := hmo
    have hwd : SqT K H wd (wl ss) := hwd
    have zw : ss.length ≤ 8 := zw
    have zl : l.length ≤ 8 := hw.2.2.1
    refine ⟨_, rfl, rfl, _, rfl, iteD (fun z => absurd z ns_st) (fun _ => ?_)⟩
    refine ⟨_, rfl, wd, rfl, lc_natM (k := false) (ws := ss) (img cs) hwd (by omega) (fun i x H2 Nx No hi e2 hN => ?_) (fun D H2 hD e2 hd => ?_)⟩
    · exact ⟨rfl, _, rfl, _, rfl, _, _, rfl, qq, true, cs, x, rfl, rfl, e2.seq hq, by omega, fun H3 e3 => hN _ e3⟩
    · refine ⟨D, true, _, rfl, SqL.of hd, fun m1 H3 e3 hm1 => ?_⟩
      have e23 := e2.trans e3
      refine ⟨_, rfl, _, rfl, _, rfl, _, rfl, mm, rfl, lc_natM (k := false) (ws := l) (img cs) (e23.tup hm) (by omega) (fun i x H4 Nx No hi e4 hN => ?_) (fun D2 H4 hD2 e4 hd2 => ?_)⟩
      · exact ⟨rfl, _, rfl, _, rfl, _, _, rfl, qq, true, cs, x, rfl, rfl, (e23.trans e4).seq hq, by omega, fun H5 e5 => hN _ e5⟩
      · refine ⟨D2, true, _, rfl, SqL.of hd2, fun m2 H5 e5 hm2 => ⟨by show 4 ≤ sizeLine; decide, fun r2 hr2 => ?_⟩⟩
        have e6 := Same.new (o := .tup [.str "spread", nV n, .ref m1, .ref m2]) hr2
        exact q r2 _ (((e23.trans e4).trans e5).trans e6) ⟨m1, .ref m2, upd_same, ((e4.trans e5).trans e6).tup hm1, m2, rfl, e6.tup hm2⟩
  | space n u =>
    obtain ⟨mm, rfl, hm⟩ := hmo
    have hwd : SqT K H wd (wl u) := hwd
    have zw : u.length ≤ 8 := zw
    refine ⟨_, rfl, rfl, _, rfl, iteD (fun z => absurd z ns_pt) (fun _ => ?_)⟩
    refine ⟨_, rfl, wd, rfl, lc_natM (k := false) (ws := u) (img cs) hwd (by omega) (fun i x H2 Nx No hi e2 hN => ?_) (fun D H2 hD e2 hd => ?_)⟩
    · exact ⟨rfl, _, rfl, _, rfl, _, _, rfl, qq, true, cs, x, rfl, rfl, e2.seq hq, by omega, fun H3 e3 => hN _ e3⟩
    · refine ⟨D, true, _, rfl, SqL.of hd, fun m1 H3 e3 hm1 => ?_⟩
      have e23 := e2.trans e3
      refine ⟨_, rfl, _, rfl, _, rfl, _, rfl, mm, rfl, lc_natM (k := false) (ws := []) (img cs) (e23.tup hm) (by decide) (fun i x H4 Nx No hi e4 hN => by simp at hi) (fun D2 H4 hD2 e4 hd2 => ?_)⟩
      refine ⟨D2, true, _, rfl, SqL.of hd2, fun m2 H5 e5 hm2 => ⟨by show 4 ≤ sizeLine; decide, fun r2 hr2 => ?_⟩⟩
      have e6 := Same.new (o := .tup [.str "space", nV n, .ref m1, .ref m2]) hr2
      exact q r2 _ (((e23.trans e4).trans e5).trans e6) ⟨m1, .ref m2, upd_same, ((e4.trans e5).trans e6).tup hm1, m2, rfl, e6.tup hm2⟩
end
end L2.Lk
/-! L14 -/
set_option Elab.async false
set_option linter.all false
set_option maxRecDepth 100000
set_option maxHeartbeats 2000000
namespace L2.Lk
open PySem PySem.Spec PyProof.Rows
/-! ### deeds, plainly -/
inductive Deed where
  | put (x : Str) (t : Thing)
  | drop (x : Str)
  | rename (cs : List Nat)
  | keep (p : Prm)
  | release (p : Prm)
/-- what the law holds of a deed that cannot be done -/
inductive Due where
  | unknown (x : Str)
  | unequal (k m : Nat)
  | one (k : Nat)
  | unmade (p : Prm)
  | broken (p : Prm)
  | nothing
section
variable {P : Program} {w : World} {K : PySem.W.Frag} {mg : Str → Option Value} {base : Heap}
def DeedAt (K : PySem.W.Frag) (H : Hp) (p : Addr) : Deed → Prop
  | .put x t => ∃ q, H p = some (.tup [.str "put", .str x, .ref q]) ∧ LThAt K H q t
  | .drop x => H p = some (.tup [.str "drop", .str x, .non])
  | .rename cs => ∃ q, H p = some (.tup [.str "rename", .ref q, .non]) ∧ H q = some (.lst (wl cs))
  | .keep pr => ∃ q, H p = some (.tup [.str "keep", .ref q, .non]) ∧ PrmAt H q pr
  | .release pr => ∃ q, H p = some (.tup [.str "release", .ref q, .non]) ∧ PrmAt H q pr
def stK (d g : Addr) : List (Key × V) := [(Sum.inr "things", .ref d), (Sum.inr "given", .ref g)]
/-- the law's state -/
def LStAt (K : PySem.W.Frag) (H : Hp) (st : Addr) (ts : Ths) (gs : List Prm) : Prop := ∃ d g kvs, H st = some (.dK (stK d g)) ∧ H d = some (.dK kvs) ∧ RepL K H kvs ts ∧ GivL H g gs
def DueAt (H : Hp) (l : Addr) : Due → Prop
  | .unknown x => H l = some (.lst [.str "unknown", .str x])
  | .unequal k m => H l = some (.lst [.str "unequal", nV k, nV m])
  | .one k => H l = some (.lst [.str "one", nV k])
  | .unmade pr => ∃ q, H l = some (.lst [.str "unmade", .ref q]) ∧ PrmAt H q pr
  | .broken pr => ∃ q, H l = some (.lst [.str "broken", .ref q]) ∧ PrmAt H q pr
  | .nothing => H l = some (.lst [.str "nothing"])
/-- the least word but 0 that the columns send to 0 -/
def LeastKer (cs : List Nat) (k : Nat) : Prop := k < 2 ^ cs.length ∧ img cs k = 0 ∧ k ≠ 0 ∧ ∀ x, x < 2 ^ cs.length → img cs x = 0 → x ≠ 0 → k ≤ x
inductive DueR (ts : Ths) (gs : List Prm) : Deed → Due ⊕ (Ths × List Prm) → Prop
  | put {x t} : DueR ts gs (.put x t) (.inr (putT ts x t, gs))
  | drop0 {x} : ts.lookup x = none → DueR ts gs (.drop x) (.inl (.unknown x))
  | drop {x} : (ts.lookup x).isSome = true → DueR ts gs (.drop x) (.inr (dropT ts x, gs))
  | unequal {cs ns k} : ns.Perm (ts.map (·.1)) → sortedS ns = true → uneq ts cs.length ns = some k → DueR ts gs (.rename cs) (.inl (.unequal k cs.length))
  | one {cs ns k} : ns.Perm (ts.map (·.1)) → sortedS ns = true → uneq ts cs.length ns = none → LeastKer cs k → DueR ts gs (.rename cs) (.inl (.one k))
  | rename {cs ns} : ns.Perm (ts.map (·.1)) → sortedS ns = true → uneq ts cs.length ns = none → rk cs = cs.length → DueR ts gs (.rename cs) (.inr (movedT cs ts, gs))
  | keep0 {pr} : pr ∈ gs → DueR ts gs (.keep pr) (.inr (ts, gs))
  | keep {pr} : pr ∉ gs → DueR ts gs (.keep pr) (.inr (ts, gs ++ [pr]))
  | release0 {pr} : pr ∉ gs → DueR ts gs (.release pr) (.inl (.unmade pr))
  | release {pr} : pr ∈ gs → DueR ts gs (.release pr) (.inr (ts, gs.filter fun q => decide (q ≠ pr)))
def DeedOk : Deed → Prop
  | .put x t => t.Wf ∧ NmOk x
  | .drop x => NmOk x
  | .rename cs => cs.length ≤ 4 ∧ Lt cs.length cs
  | _ => True
abbrev sp_due_deed (K : PySem.W.Frag) : L2.Sp := S2 fun a b H Q _ => ∃ st p ts gs deed, a = .ref st ∧ b = .ref p ∧ LStAt K H st ts gs ∧ DeedAt K H p deed ∧ ThsOk ts ∧ GivOk gs ∧ DeedOk deed ∧
  (∀ du t l H', DueR ts gs deed (.inl du) → Same H H' → H' t = some (.tup [.ref l, .ref st]) → DueAt H' l du → Q (.ref t) H') ∧
  (∀ ts' gs' t l H', DueR ts gs deed (.inr (ts', gs')) → Same H H' → H' t = some (.tup [.non, .ref l]) → LStAt K H' l ts' gs' → Q (.ref t) H')
theorem sn_tg : ¬ ("things" : Str) = "given" := by decide +kernel
theorem st_things (d g : Addr) : valV (stK d g) (Sum.inr "things") = some (.ref d) := valV_pos rfl
theorem st_given (d g : Addr) : valV (stK d g) (Sum.inr "given") = some (.ref g) := by unfold stK; rw [valV_neg (fun z => sn_tg (by injection z)), valV_pos rfl]
theorem st_merge (d g : Addr) : mergeK [] [(Sum.inr "things", .ref d), (Sum.inr "given", .ref g)] = stK d g := by simp [mergeK, putK, stK, sn_tg]
theorem GivL.same {H H' : Hp} {g : Addr} {gs : List Prm} (h : GivL H g gs) (e : Same H H') : GivL H' g gs := let ⟨ps, h1, h2⟩ := h; ⟨ps, e _ _ h1, Paired.mapP h2 fun _ _ z => e _ _ z⟩
theorem due_fin {H H1 : Hp} {d2 g l t : Addr} {kvs : List (Key × V)} {ts : Ths} {gs : List Prm} (e : Same H H1) (hd : H1 d2 = some (.dK kvs)) (hR : RepL K H1 kvs ts) (hg : GivL H1 g gs) (hl : H1 l = none)
    (ht : (upd (upd H1 l (.dK [])) l (.dK (mergeK [] [(Sum.inr "things", .ref d2), (Sum.inr "given", .ref g)]))) t = none) :
    Same H (upd (upd (upd H1 l (.dK [])) l (.dK (mergeK [] [(Sum.inr "things", .ref d2), (Sum.inr "given", .ref g)]))) t (.tup [.non, .ref l])) ∧
    (upd (upd (upd H1 l (.dK [])) l (.dK (mergeK [] [(Sum.inr "things", .ref d2), (Sum.inr "given", .ref g)]))) t (.tup [.non, .ref l])) t = some (.tup [.non, .ref l]) ∧
    LStAt K (upd (upd (upd H1 l (.dK [])) l (.dK (mergeK [] [(Sum.inr "things", .ref d2), (Sum.inr "given", .ref g)]))) t (.tup [.non, .ref l])) l ts gs := by
  have e2 : Same H1 (upd (upd H1 l (.dK [])) l (.dK (mergeK [] [(Sum.inr "things", .ref d2), (Sum.inr "given", .ref g)]))) := by rw [upd_upd]; exact Same.new hl
  have e3 := Same.new (o := .tup [.non, .ref l]) ht
  refine ⟨(e.trans e2).trans e3, upd_same, d2, g, kvs, ?_, (e2.trans e3) _ _ hd, hR.same (e2.trans e3), hg.same (e2.trans e3)⟩
  rw [upd_ne (ne_of_none upd_same ht), upd_same, st_merge]
theorem RepL.any {H : Hp} : ∀ {kvs : List (Key × V)} {ts : Ths}, RepL K H kvs ts → ∀ x : Str, (kvs.any fun kv => decide (kv.1 = Sum.inr x)) = ts.any fun t => decide (t.1 = x)
  | [], [], _, _ => rfl
  | kv :: kvs, t :: ts, .cons h r, x => by
    rw [List.any_cons, List.any_cons, RepL.any r x, h.1]
    congr 1
    by_cases e : t.1 = x
    · rw [decide_eq_true e, decide_eq_true (by rw [e])]
    · rw [decide_eq_false e, decide_eq_false fun z => e (by injection z)]
theorem RepL.mapPut {H : Hp} {p : Addr} {x : Str} {th : Thing} (hp : LThAt K H p th) : ∀ {kvs : List (Key × V)} {ts : Ths}, RepL K H kvs ts →
    RepL K H (kvs.map fun kv => if kv.1 = Sum.inr x then (kv.1, .ref p) else kv) (ts.map fun t => if t.1 = x then (t.1, th) else t)
  | [], [], _ => .nil
  | kv :: kvs, t :: ts, .cons h r => by
    rw [List.map_cons, List.map_cons]
    refine .cons ?_ (RepL.mapPut hp r)
    by_cases e : t.1 = x
    · rw [if_pos e, if_pos (by rw [h.1, e])]
      exact ⟨h.1, p, rfl, hp⟩
    · rw [if_neg e, if_neg (fun z => e (by rw [h.1] at z; injection z))]
      exact h
theorem RepL.put {H : Hp} {kvs : List (Key × V)} {ts : Ths} {p : Addr} {x : Str} {th : Thing} (h : RepL K H kvs ts) (hp : LThAt K H p th) : RepL K H (putK kvs (Sum.inr x) (.ref p)) (putT ts x th) := by
  unfold putK putT
  rw [RepL.any h x]
  by_cases e : (ts.any fun t => decide (t.1 = x)) = true
  · rw [if_pos e, if_pos e]
    exact RepL.mapPut hp h
  · rw [if_neg e, if_neg e]
    exact Paired.snoc h ⟨rfl, p, rfl, hp⟩
theorem RepL.drop {H : Hp} {x : Str} : ∀ {kvs : List (Key × V)} {ts : Ths}, RepL K H kvs ts → RepL K H (dropK kvs (Sum.inr x)) (dropT ts x)
  | [], [], _ => .nil
  | kv :: kvs, t :: ts, .cons h r => by
    unfold dropK dropT
    rw [List.filter_cons, List.filter_cons]
    by_cases e : t.1 = x
    · rw [if_neg (by simp [h.1, e]), if_neg (by simp [e])]
      exact RepL.drop r
    · rw [if_pos (by simp [h.1, e]), if_pos (by simp [e])]
      exact .cons h (RepL.drop r)
theorem GivL.dp {H : Hp} {g : Addr} {gs : List Prm} (h : GivL H g gs) (ok : GivOk gs) : Dp K H (.ref g) (.list (gs.map pd)) := by
  obtain ⟨ps, h1, h2⟩ := h
  exact .lst (SqL.of h1) (giv_dps h2 ok.1)
theorem shaped_givL {gs : List Prm} (ok : GivOk gs) : SeqAt.shaped (.list (gs.map pd)) = true := by
  unfold SeqAt.shaped
  rw [Bool.and_eq_true]
  have := @pd_deep gs
  refine ⟨?_, decide_eq_true (by simp only [PyData.depth]; omega)⟩
  have hl := pd_lay ok.1
  simp [PyData.canLay0, hl]
theorem RepL.keys {H : Hp} : ∀ {kvs : List (Key × V)} {ts : Ths}, RepL K H kvs ts → kvs.map (fun kv => kV kv.1) = (ts.map (·.1)).map V.str
  | [], [], _ => rfl
  | kv :: kvs, t :: ts, .cons h r => by
    rw [List.map_cons, List.map_cons, List.map_cons, RepL.keys r, h.1]
    rfl
theorem lker_ex {cs : List Nat} (h : Lt cs.length cs) (hr : rk cs < cs.length) : ∃ x, Spn (lker cs) x ∧ x ≠ 0 := by
  refine Classical.byContradiction fun hn => ?_
  have h0 : ∀ x, Spn (lker cs) x → x = 0 := fun x hx => Classical.byContradiction fun z => hn ⟨x, hx, z⟩
  have := rk_ker (img_lin cs) (m := cs.length) (ks := lker cs) (lker_sp cs)
  rw [img_units] at this
  have hz : rk (lker cs) = rk [] := rk_same fun x => ⟨fun hx => by rw [h0 x hx]; exact sp_zero _, fun hx => by rw [sp_nil.mp hx]; exact sp_zero _⟩
  have : rk ([] : List Nat) = 0 := rfl
  omega
theorem lker_len (cs : List Nat) : (lker cs).length ≤ cs.length := by
  have := (ltagged_inv cs).len
  unfold lker
  omega
theorem mov_step {cs : List Nat} {ts : Ths} {i : Nat} {t : Str × Thing} (hn : (ts.map (·.1)).Nodup) (h : ts[i]? = some t) : (movedT cs (ts.take i) ++ ts.drop i).lookup t.1 = some t.2 ∧
    putT (movedT cs (ts.take i) ++ ts.drop i) t.1 (t.2.moved cs) = movedT cs (ts.take (i + 1)) ++ ts.drop (i + 1) := by
  have hd := hn
  have hs : ts = ts.take i ++ t :: ts.drop (i + 1) := (List.take_append_drop i ts).symm.trans (by rw [drop_at h])
  rw [hs, List.map_append, List.map_cons] at hd
  obtain ⟨n1, n2, n3⟩ := List.nodup_append.mp hd
  rw [List.nodup_cons] at n2
  have hA : ∀ u ∈ movedT cs (ts.take i), u.1 ≠ t.1 := fun u hu => by
    obtain ⟨v, hv, rfl⟩ := List.mem_map.mp hu
    exact n3 v.1 (List.mem_map.mpr ⟨v, hv, rfl⟩) t.1 List.mem_cons_self
  have hB : ∀ u ∈ ts.drop (i + 1), u.1 ≠ t.1 := fun u hu z => n2.1 (z ▸ List.mem_map.mpr ⟨u, hu, rfl⟩)
  rw [drop_at h]
  refine ⟨?_, ?_⟩
  · have : ∀ (A : Ths), (∀ u ∈ A, u.1 ≠ t.1) → (A ++ t :: ts.drop (i + 1)).lookup t.1 = some t.2 := fun A => by
      induction A with
      | nil => intro _; rw [List.nil_append, List.lookup_cons, beq_self_eq_true]
      | cons a A ih =>
        intro hA
        rw [List.cons_append, List.lookup_cons, beq_eq_false_iff_ne.mpr fun z => hA a List.mem_cons_self z.symm]
        exact ih fun u hu => hA u (List.mem_cons_of_mem _ hu)
    exact this _ hA
  · unfold putT
    rw [if_pos (by rw [List.any_append, List.any_cons, decide_eq_true rfl, Bool.true_or, Bool.or_true]), List.map_append, List.map_cons, if_pos rfl]
    have idm : ∀ (A : Ths), (∀ u ∈ A, u.1 ≠ t.1) → A.map (fun u => if u.1 = t.1 then (u.1, t.2.moved cs) else u) = A := fun A hA => by
      have : A.map (fun u => if u.1 = t.1 then (u.1, t.2.moved cs) else u) = A.map id := List.map_congr_left fun u hu => if_neg (hA u hu)
      rw [this, List.map_id]
    rw [idm _ hA, idm _ hB]
    show _ = movedT cs (ts.take (i + 1)) ++ _
    unfold movedT
    rw [take_map (f := fun u : Str × Thing => (u.1, u.2.moved cs)) h, List.append_assoc]
    rfl
theorem dk_stay {H : Hp} {d : Addr} {k k2 : List (Key × V)} (h : H d = some (.dK k)) : Stay H (upd H d (.dK k2)) := fun b o hb h1 _ => by
  rw [upd_ne (fun z => by rw [z, h] at hb; exact h1 _ (Option.some.inj hb).symm)]
  exact hb
theorem ok_law_due_deed (T : Tx P K mg) : Has P w K mg base 4 "_law_due_deed" ["_law_state", "_law_deed"] (sp_due_deed K) := by
  refine ⟨g_law_due_deed T, ok2 (F_law_due_deed T) sc_law_due_deed fun cdv A outer s H a b Q E hr h => ?_⟩
  obtain ⟨st, p, ts, gs, deed, rfl, rfl, ⟨d, g, kvs, hst, hd, hR, hg⟩, hp, hok, hgk, hdk, qd, qq⟩ := h
  refine ⟨_, (pss_cons (ps_asg (pv 1) (pg_tupK (n := 3) K rfl (pgs_cons (pg_name (i := 2) sc_law_due_deed.nd rfl (.inl rfl)) (pgs_cons (pg_name (i := 3) sc_law_due_deed.nd rfl (.inr rfl)) (pgs_cons (pg_name (i := 4) sc_law_due_deed.nd rfl (.inl rfl)) pgs_nil)))))
    (pss_cons (ps_par (i := 5) (j := 6) rfl sc_law_due_deed.nd rfl rfl (by decide) rfl rfl (pa_cons (pe_callTy call_dictD (by rfl) (b_dict T) bb_dict (pa_cons (pe_dget (hu_of hr) (pv 0) pe_str (fun _ _ => rfl)) pa_nil)) (pa_cons (pe_dget (hu_of hr) (pv 0) pe_str (fun _ _ => rfl)) pa_nil)) (by rfl))
    (pss_cons (ps_if (pt_cmpR op_eq (pv 2) pe_str (nomark _)) (pss_one (ps_dput (hu_of hr) (pv 5) (pv 3) (pv 4) rfl)) pss_nil)
    (pss_cons (ps_if (pt_cmpR op_eq (pv 2) pe_str (nomark _)) (pss_cons (ps_if (pt_cmp (pc_dnotin (hu_of hr) (pv 3) (pv 5)) (by rfl)) (pss_one (ps_ret (pe_tup (pa_cons (pe_lst (pa_cons pe_str (pa_cons (pv 3) pa_nil))) (pa_cons (pv 0) pa_nil))))) pss_nil)
    (pss_one (ps_expr (pe_dpop1 (pv 5) (pv 3) ⟨rfl, rfl, rfl, rfl⟩)))) pss_nil)
    (pss_cons (ps_if (pt_cmpR op_eq (pv 2) pe_str (nomark _)) (pss_cons (ps_for (passes_of rfl) rfl (pi_seq (pe_callB cr_sortedS (by rfl) (b_sorted T) bb_sorted (pa_cons (pe_lock (pe_lc (own := [("_law_key", 8)]) (g := gName 8) rfl sc_law_due_deed.nd (pi_keys (pv 5)) (blkOk_by (own := [("_law_key", 8)]) (N := N_law_due_deed) (sc := defScope st_law_due_deed) (by decide +kernel)) (fun _ _ _ _ _ => pg_name (i := 8) sc_law_due_deed.nd rfl (Or.inl rfl)) (fun _ _ _ _ _ => pts_nil) (fun _ _ _ _ _ => (pe_callTy SkE.call_str_str (by rfl) (b_str T) bb_str (pa_cons (pv 8) pa_nil))))) pa_nil))) (pg_name (i := 7) sc_law_due_deed.nd rfl (.inl rfl)) (pss_one (ps_if (pt_cmpR op_neM (pe_ix ix_tup (pe_dget (hu_of hr) (pv 5) (pv 7) (fun _ _ => rfl)) (pe_nat 1) (fun _ _ => rfl)) (pe_callB (call_lenM K) (by rfl) (b_len T) bb_len (pa_cons (pv 3) pa_nil)) (nomark _)) (pss_one (ps_ret (pe_tup (pa_cons (pe_lst (pa_cons pe_str (pa_cons (pe_ix ix_tup (pe_dget (hu_of hr) (pv 5) (pv 7) (fun _ _ => rfl)) (pe_nat 1) (fun _ _ => rfl)) (pa_cons (pe_callB (call_lenM K) (by rfl) (b_len T) bb_len (pa_cons (pv 3) pa_nil)) pa_nil)))) (pa_cons (pv 0) pa_nil))))) pss_nil)))
    (pss_cons (ps_if (pt_cmpR op_ltM (pe_h (ok_law_size (K := K) T) (hr.mono (by decide)) passL (pa_cons (pv 3) pa_nil)) (pe_callB (call_lenM K) (by rfl) (b_len T) bb_len (pa_cons (pv 3) pa_nil)) (nomark _)) (pss_one (ps_ret (pe_tup (pa_cons (pe_lst (pa_cons pe_str (pa_cons (pe_ix ix_list (pe_callB cr_sortedN (by rfl) (b_sorted T) bb_sorted (pa_cons (pe_h (ok_law_listed (K := K) T) (hr.mono (by decide)) passL (pa_cons (pe_h (ok_law_basis (K := K) T) (hr.mono (by decide)) passL (pa_cons (pe_h (ok_law_kernel (K := K) T) (hr.mono (by decide)) passL (pa_cons (pv 3) pa_nil)) pa_nil)) pa_nil)) pa_nil)) (pe_nat 1) (fun _ _ => rfl)) pa_nil))) (pa_cons (pv 0) pa_nil))))) pss_nil)
    (pss_one (ps_for (passes_of rfl) rfl (pi_seq (pe_callTy (call_listD rfl) (by rfl) (b_list T) bb_list (pa_cons (pv 5) pa_nil))) (pg_name (i := 7) sc_law_due_deed.nd rfl (.inl rfl)) (pss_one (ps_dput (hu_of hr) (pv 5) (pv 7) (pe_h (ok_law_moved_thing (K := K) T) (hr.mono (by decide)) passL (pa_cons (pe_dget (hu_of hr) (pv 5) (pv 7) (fun _ _ => rfl)) (pa_cons (pv 3) pa_nil))) rfl)))))) pss_nil)
    (pss_cons (ps_if (PW.pt (pw_and (pt_cmpR op_eq (pv 2) pe_str (nomark _)) (pw_and1 (pt_cmpR (op_notInD (u65 hr)) (pv 3) (pv 6) (by rfl))))) (pss_one (ps_set (i := 6) sc_law_due_deed.nd rfl (.inl rfl) (pe_op op_cat (pv 6) (pe_lst (pa_cons (pv 3) pa_nil))))) pss_nil)
    (pss_cons (ps_if (pt_cmpR op_eq (pv 2) pe_str (nomark _)) (pss_cons (ps_if (pt_cmpR (op_notInD (u65 hr)) (pv 3) (pv 6) (by rfl)) (pss_one (ps_ret (pe_tup (pa_cons (pe_lst (pa_cons pe_str (pa_cons (pv 3) pa_nil))) (pa_cons (pv 0) pa_nil))))) pss_nil)
    (pss_one (ps_setLc (i := 6) (own := [("_law_told", 9)]) (g := gName 9) rfl sc_law_due_deed.nd rfl rfl (sw_true rfl rfl rfl (by decide +kernel)) (pi_seq (pv 6)) (blkOk_by (own := [("_law_told", 9)]) (N := N_law_due_deed) (sc := defScope st_law_due_deed) (by decide +kernel)) (fun _ _ _ _ _ => pg_name (i := 9) sc_law_due_deed.nd rfl (Or.inl rfl)) (fun _ _ _ _ _ => pts_one (pt_cmpR (op_neDK K hr.units) (pv 9) (pv 3) (nomark _))) (fun _ _ _ _ _ => (pv 9))))) pss_nil)
    (pss_one (ps_ret (pe_tup (pa_cons pe_non (pa_cons (pe_disp (pps_cons pe_str (pv 5) (pps_cons pe_str (pv 6) pps_nil)) (by rfl) (by rfl) (fun z => by cases z) (by decide)) pa_nil)))))))))))), ?_⟩
  have gT : DGet H st (.str "things") (some (.ref d)) := .inl ⟨_, Sum.inr "things", .inl hst, rfl, (st_things d g).symm⟩
  have gG : ∀ {H'}, Same H H' → DGet H' st (.str "given") (some (.ref g)) := fun e => .inl ⟨_, Sum.inr "given", .inl (e _ _ hst), rfl, (st_given d g).symm⟩
  have hkl : kvs.length < sizeLine := small1000 (by rw [Paired.length hR]; exact Nat.le_trans hok.len (by decide))
  cases deed with
  | put x th =>
    obtain ⟨q1, hp, hq1⟩ := hp
    refine ⟨_, rfl, p, _, rfl, SqT.of hp, rfl, _, _, rfl, _, _, rfl, _, _, rfl, rfl, ?_⟩
    refine ⟨_, rfl, st, _, rfl, gT, d, kvs, rfl, .inl hd, fun d2 hd2 => ⟨_, rfl, st, _, rfl, (gG (Same.new hd2)), _, _, rfl, ?_⟩⟩
    have e1 := Same.new (o := .dK kvs) hd2
    have hd2n : H d2 = none := hd2
    refine ⟨_, rfl, rfl, _, rfl, iteD (fun _ => ?_) (fun z => absurd rfl z)⟩
    refine ⟨_, rfl, _, rfl, _, rfl, d2, _, rfl, DPut.k (k := Sum.inr x) upd_same hkl, ?_⟩
    have e2 : Same H (upd (upd H d2 (.dK kvs)) d2 (.dK (putK kvs (Sum.inr x) (.ref q1)))) := dict_same hd2
    refine ⟨_, rfl, rfl, _, rfl, iteD (fun z => absurd z (by decide +kernel)) (fun _ => ?_)⟩
    refine ⟨_, rfl, rfl, _, rfl, iteD (fun z => absurd z (by decide +kernel)) (fun _ => ?_)⟩
    refine ⟨_, rfl, rfl, _, rfl, iteD (fun z => absurd z (by decide +kernel)) (fun _ => ?_)⟩
    refine ⟨_, rfl, rfl, _, rfl, iteD (fun z => absurd z (by decide +kernel)) (fun _ => ?_)⟩
    refine fun l hl => ⟨_, rfl, _, rfl, upd_same, [(Sum.inr "things", .ref d2), (Sum.inr "given", .ref g)], rfl, by show 2 ≤ 15; decide, by show 2 ≤ sizeLine; decide, fun t ht => ?_⟩
    obtain ⟨z1, z2, z3⟩ := due_fin e2 upd_same ((hR.same e2).put (hq1.same e2)) (hg.same e2) hl ht
    exact qq _ _ t l _ .put z1 z2 z3
  | drop x =>
    have hp : H p = some (.tup [.str "drop", .str x, .non]) := hp
    refine ⟨_, rfl, p, _, rfl, SqT.of hp, rfl, _, _, rfl, _, _, rfl, _, _, rfl, rfl, ?_⟩
    refine ⟨_, rfl, st, _, rfl, gT, d, kvs, rfl, .inl hd, fun d2 hd2 => ⟨_, rfl, st, _, rfl, (gG (Same.new hd2)), _, _, rfl, ?_⟩⟩
    have e1 := Same.new (o := .dK kvs) hd2
    have hd2n : H d2 = none := hd2
    refine ⟨_, rfl, rfl, _, rfl, iteD (fun z => absurd z (by decide +kernel)) (fun _ => ?_)⟩
    refine ⟨_, rfl, rfl, _, rfl, iteD (fun _ => ?_) (fun z => absurd rfl z)⟩
    rcases hR.get x with ⟨h1, h2⟩ | ⟨q1, th, h1, h2, h3⟩
    · refine ⟨_, rfl, _, rfl, d2, _, rfl, DGet.k (k := Sum.inr x) upd_same, ?_⟩
      rw [h2]
      refine ⟨_, rfl, iteT ⟨_, rfl, by show 2 ≤ sizeLine; decide, fun l hl => ⟨_, rfl, by show 2 ≤ sizeLine; decide, fun t ht => ?_⟩⟩⟩
      have e2 := (e1.new' (o := .lst [.str "unknown", .str x]) hl).new' (o := .tup [.ref l, .ref st]) ht
      exact qd (.unknown x) t l _ (.drop0 h1) e2 upd_same (by show _ = _; rw [upd_ne (ne_of_none upd_same ht), upd_same])
    · refine ⟨_, rfl, _, rfl, d2, _, rfl, DGet.k (k := Sum.inr x) upd_same, ?_⟩
      rw [h2]
      refine ⟨_, rfl, iteF ⟨_, rfl, d2, rfl, .inl ⟨_, .inl upd_same⟩, _, rfl, kvs, .inr x, .ref q1, upd_same, rfl, h2, ?_⟩⟩
      have e2 : Same H (upd (upd H d2 (.dK kvs)) d2 (.dK (dropK kvs (Sum.inr x)))) := dict_same hd2
      refine ⟨_, rfl, rfl, _, rfl, iteD (fun z => absurd z (by decide +kernel)) (fun _ => ?_)⟩
      refine ⟨_, rfl, rfl, _, rfl, iteD (fun z => absurd z (by decide +kernel)) (fun _ => ?_)⟩
      refine ⟨_, rfl, rfl, _, rfl, iteD (fun z => absurd z (by decide +kernel)) (fun _ => ?_)⟩
      refine fun l hl => ⟨_, rfl, _, rfl, upd_same, [(Sum.inr "things", .ref d2), (Sum.inr "given", .ref g)], rfl, by show 2 ≤ 15; decide, by show 2 ≤ sizeLine; decide, fun t ht => ?_⟩
      obtain ⟨z1, z2, z3⟩ := due_fin e2 upd_same (RepL.drop (hR.same e2)) (hg.same e2) hl ht
      exact qq _ _ t l _ (.drop (by rw [h1]; rfl)) z1 z2 z3
  | rename cs =>
    obtain ⟨q1, hp, hq1⟩ := hp
    refine ⟨_, rfl, p, _, rfl, SqT.of hp, rfl, _, _, rfl, _, _, rfl, _, _, rfl, rfl, ?_⟩
    refine ⟨_, rfl, st, _, rfl, gT, d, kvs, rfl, .inl hd, fun d2 hd2 => ⟨_, rfl, st, _, rfl, (gG (Same.new hd2)), _, _, rfl, ?_⟩⟩
    have e1 := Same.new (o := .dK kvs) hd2
    have hd2n : H d2 = none := hd2
    refine ⟨_, rfl, rfl, _, rfl, iteD (fun z => absurd z (by decide +kernel)) (fun _ => ?_)⟩
    refine ⟨_, rfl, rfl, _, rfl, iteD (fun z => absurd z (by decide +kernel)) (fun _ => ?_)⟩
    refine ⟨_, rfl, rfl, _, rfl, iteD (fun _ => ?_) (fun z => absurd rfl z)⟩
    have hlen : kvs.length ≤ 50 := by rw [Paired.length hR]; exact hok.len
    have hks : kvs.map (fun kv => kV kv.1) = (ts.map (·.1)).map V.str := RepL.keys hR
    refine ⟨d2, _, upd_same, trivial, fun od => ⟨_, rfl, d2, od, rfl, .inl ⟨kvs, upd_same, fun D hD => ?_⟩⟩⟩
    refine lc_it (walk_keys (d := d2) (o := od) (kvs := kvs)) (Pv := fun i H' => Same (upd (upd H d2 (.dK kvs)) d2 (.frz od (.dK kvs))) H' ∧ H' D = some (.lst ((kvs.take i).map fun kv => kV kv.1))) ⟨Same.new hD, upd_same⟩ (fun i H' _ p => p.1 _ _ upd_same) (fun i v H1 H2 hi p y => ?_) (fun H' p => ?_)
    · obtain ⟨e, hl⟩ := p
      obtain ⟨rfl, k, v2, hk, rfl⟩ := y
      have hk2 : (kvs.map (fun kv => kV kv.1))[i]? = some (kV k) := by rw [List.getElem?_map, hk]; rfl
      rw [hks, List.getElem?_map] at hk2
      cases hn : (ts.map (·.1))[i]? with
      | none => rw [hn] at hk2; cases hk2
      | some nm =>
        rw [hn] at hk2
        have hk3 : V.str nm = kV k := Option.some.inj hk2
        rw [← hk3]
        refine ⟨rfl, _, rfl, nm, rfl, _, hl, ?_, Same.but hD e (Same.refl _), ?_⟩
        · rw [List.length_map]
          exact Nat.lt_of_le_of_lt (List.length_take_le' _ _) (small1000 (by omega))
        · rw [upd_same, take_map hk, hk3]
    · obtain ⟨e, hl⟩ := p
      refine ⟨e _ _ upd_same, ?_⟩
      have e2 := unlock_same (upd_same (H := H) (a := d2) (o := .dK kvs)) e
      have hDd : D ≠ d2 := fun z => by rw [z, upd_same] at hD; cases hD
      rw [List.take_length, hks] at hl
      refine ⟨D, ts.map (·.1), rfl, SqL.of (by rw [upd_ne hDd]; exact hl), by rw [List.length_map]; exact Nat.lt_of_le_of_lt hok.len (by decide), fun ns pn hperm hsort hpn => ?_⟩
      have e3 := (e2.new' (o := .lst (ns.map V.str)) hpn)
      have e03 : Same H _ := e1.trans e3
      have hd3 := e3 _ _ (upd_same (H := H) (a := d2) (o := .dK kvs))
      refine ⟨pn, rfl, for_sq (k := true) (xs := ns.map V.str) (Pv := fun i σ H5 => Same (upd (upd H' d2 (.dK kvs)) pn (.lst (ns.map V.str))) H5 ∧ uneq ts cs.length ns = uneq ts cs.length (ns.drop i) ∧ ∃ y, σ = [some (.ref st), some (.ref p), some (.str "rename"), some (.ref q1), some .non, some (.ref d2), some (.ref g), y, none, none]) ⟨Same.refl _, rfl, none, rfl⟩ (fun i σ H5 h => SqL.of (h.1 _ _ upd_same)) (fun i v σ H5 hv h => ?_) (fun σ H5 h => ?_)⟩
      · obtain ⟨e5, hu, y, rfl⟩ := h
        rw [List.getElem?_map] at hv
        cases hnm : ns[i]? with
        | none => rw [hnm] at hv; cases hv
        | some nm =>
          rw [hnm] at hv
          obtain rfl : V.str nm = v := Option.some.inj hv
          have e05 := e03.trans e5
          have hmem : nm ∈ ts.map (·.1) := hperm.mem_iff.mp (List.mem_of_getElem? hnm)
          obtain ⟨t, htm, hte⟩ := List.mem_map.mp hmem
          have hlk : ts.lookup nm = some t.2 := by rw [← hte]; exact lookup_nd hok.nd htm
          rcases (hR.same e05).get nm with ⟨h1, h2⟩ | ⟨p1, th, h1, h2, h3⟩
          · rw [h1] at hlk; cases hlk
          obtain ⟨wd, mo, ht1, _, _⟩ := id h3
          have dg : DGet H5 d2 (.str nm) (some (.ref p1)) := .inl ⟨kvs, .inr nm, .inl (e5 _ _ hd3), rfl, h2.symm⟩
          refine ⟨_, rfl, _, rfl, d2, _, rfl, dg, p1, _, _, _, rfl, rfl, SqT.of ht1, tup_i1, _, rfl, q1, true, _, rfl, SqL.of (e05 _ _ hq1), th.bits, _, rfl, rfl, ?_⟩
          rw [wl_len]
          rw [drop_at hnm, uneq_cons h1] at hu
          refine ⟨_, rfl, iteN (fun hb => ?_) (fun hb => ?_)⟩
          · rw [if_neg hb] at hu
            refine ⟨_, rfl, _, rfl, d2, _, rfl, dg, p1, _, _, _, rfl, rfl, SqT.of ht1, tup_i1, _, rfl, q1, true, _, rfl, SqL.of (e05 _ _ hq1), by show 3 ≤ sizeLine; decide, fun l hl => ⟨_, rfl, by show 2 ≤ sizeLine; decide, fun t ht => ?_⟩⟩
            have e6 := (e05.new' (o := .lst [.str "unequal", nV th.bits, nV (wl cs).length]) hl).new' (o := .tup [.ref l, .ref st]) ht
            exact qd (.unequal th.bits cs.length) t l _ (.unequal hperm hsort hu) e6 upd_same (by show _ = _; rw [upd_ne (ne_of_none upd_same ht), upd_same, wl_len])
          · rw [if_pos hb] at hu
            exact ⟨e5, hu, _, rfl⟩
      · obtain ⟨e5, hu, y, rfl⟩ := h
        rw [List.length_map, List.drop_length] at hu
        have hu : uneq ts cs.length ns = none := hu
        have e05 := e03.trans e5
        have hd5 := e5 _ _ hd3
        have hdk : cs.length ≤ 4 ∧ Lt cs.length cs := hdk
        refine ⟨_, rfl, _, rfl, q1, true, cs, rfl, SqL.of (e05 _ _ hq1), by omega, fun H6 e6 => ⟨_, rfl, q1, true, _, rfl, SqL.of ((e05.trans e6) _ _ hq1), _, _, rfl, rfl, ?_⟩⟩
        rw [wl_len]
        have e06 := e05.trans e6
        refine ⟨_, rfl, iteD (fun hlt => ?_) (fun hge => ?_)⟩
        · have hk4 : rk (lker cs) ≤ cs.length := rk_le fun w hw => ((lker_sp cs w).mp (sp_mem hw)).1
          have hb4 : (lbasis (lker cs)).length ≤ 4 := by
            have := lsize_rk (lker cs)
            unfold lsize at this
            omega
          have hex : ∃ x, Spn (lker cs) x ∧ x ≠ 0 := lker_ex hdk.2 (by rw [lsize_rk] at hlt; omega)
          refine ⟨_, rfl, _, rfl, q1, true, cs, rfl, SqL.of (e06 _ _ hq1), by omega, fun l1 H7 e7 hl1n hl1 => ⟨_, rfl, l1, true, _, rfl, SqL.of hl1, Nat.le_trans (lker_len cs) (by omega), fun l2 H8 e8 hl2n hl2 => ⟨_, rfl, l2, _, rfl, SqL.of hl2, hb4, fun l3 H9 e9 hl3n hl3 => ?_⟩⟩⟩
          refine ⟨l3, _, rfl, SqL.of hl3, fun sl pl hpm hpw hpl => ?_⟩
          obtain ⟨k, hk1, hk2, hk3, hk4⟩ := second_least hpm hpw hex
          have e9' := (((e06.trans e7).trans e8).trans e9).new' (o := .lst (wl sl)) hpl
          refine ⟨pl, _, _, nV k, rfl, rfl, SqL.of upd_same, atI_nat (j := 1) (by unfold wl; rw [List.getElem?_map, hk1]; rfl), by show 2 ≤ sizeLine; decide, fun l hl => ⟨_, rfl, by show 2 ≤ sizeLine; decide, fun t ht => ?_⟩⟩
          have e10 := (e9'.new' (o := .lst [.str "one", nV k]) hl).new' (o := .tup [.ref l, .ref st]) ht
          have hk2 := (lker_sp cs k).mp hk2
          exact qd (.one k) t l _ (.one hperm hsort hu ⟨hk2.1, hk2.2, hk3, fun x hx h0 hn => hk4 x ((lker_sp cs x).mpr ⟨hx, h0⟩) hn⟩) e10 upd_same (by show _ = _; rw [upd_ne (ne_of_none upd_same ht), upd_same])
        · have hrk : rk cs = cs.length := by
            have := rk_le_len cs
            rw [lsize_rk] at hge
            omega
          have hd6 := e6 _ _ (hd5)
          refine ⟨_, rfl, d2, kvs, rfl, .inl hd6, fun lk hlk => ⟨lk, rfl, ?_⟩⟩
          have ek := Same.new (o := .lst (kvs.map fun kv => kV kv.1)) hlk
          have hd7 := ek _ _ hd6
          have e07 := e06.trans ek
          have hq7 := e07 _ _ hq1
          have hkl2 : (kvs.map fun kv => kV kv.1).length = ts.length := by rw [List.length_map, Paired.length hR]
          refine for_sq (k := true) (xs := kvs.map fun kv => kV kv.1) (Pv := fun i σ H' => Sx [d2] (upd H6 lk (.lst (kvs.map fun kv => kV kv.1))) H' ∧ (∃ kvs2, H' d2 = some (.dK kvs2) ∧ RepL K H' kvs2 (movedT cs (ts.take i) ++ ts.drop i)) ∧ ∃ y, σ = [some (.ref st), some (.ref p), some (.str "rename"), some (.ref q1), some .non, some (.ref d2), some (.ref g), y, none, none])
            ⟨Sx.refl, ⟨kvs, hd7, hR.same e07⟩, _, rfl⟩ (fun i σ H' h => SqL.of (h.1 _ _ (fun z => by rw [List.mem_singleton.mp z, hd6] at hlk; cases hlk) upd_same)) (fun i v σ H8 hv h => ?_) (fun σ H8 h => ?_)
          · obtain ⟨sx, ⟨kvs2, hl2, hR2⟩, y, rfl⟩ := h
            rw [hks, List.getElem?_map, List.getElem?_map] at hv
            cases ht : ts[i]? with
            | none => rw [ht] at hv; cases hv
            | some t =>
              rw [ht] at hv
              obtain rfl : V.str t.1 = v := Option.some.inj hv
              obtain ⟨m1, m2⟩ := mov_step (cs := cs) hok.nd ht
              rcases hR2.get t.1 with ⟨h1, h2⟩ | ⟨p1, th, h1, h2, h3⟩
              · rw [h1] at m1; cases m1
              obtain rfl : th = t.2 := by rw [h1] at m1; exact Option.some.inj m1
              have hwf := hok.wf _ _ (lookup_nd hok.nd (List.mem_of_getElem? ht))
              have hq8 : H8 q1 = some (.lst (wl cs)) := sx _ _ (fun z => by rw [List.mem_singleton.mp z, hd7] at hq7; cases hq7) hq7
              refine ⟨_, rfl, _, rfl, d2, _, rfl, .inl ⟨kvs2, .inr t.1, .inl hl2, rfl, h2.symm⟩, _, rfl, _, _, rfl, p1, t.2, q1, cs, rfl, rfl, h3, hwf, SqL.of hq8, by omega, fun r9 H9 e9 hr9 => ?_⟩
              have hl9 := e9 _ _ hl2
              have hz9 : kvs2.length < sizeLine := small1000 (by rw [Paired.length hR2]; unfold movedT; rw [List.length_append, List.length_map, List.length_take, List.length_drop]; have := hok.len; omega)
              refine ⟨_, rfl, _, rfl, d2, _, rfl, DPut.k (k := Sum.inr t.1) hl9 hz9, ?_⟩
              refine ⟨(sx.then e9).upd me, ⟨_, upd_same, ?_⟩, _, rfl⟩
              rw [← m2]
              exact ((hR2.same e9).put hr9).stay (dk_stay hl9)
          · obtain ⟨sx, ⟨kvs2, hl2, hR2⟩, y, rfl⟩ := h
            rw [hkl2, List.take_length, List.drop_length, List.append_nil] at hR2
            have e08 : Same H H8 := fun b o hb => sx b o (fun z => by rw [List.mem_singleton.mp z, hd2n] at hb; cases hb) (e07 _ _ hb)
            refine ⟨_, rfl, rfl, _, rfl, iteD (fun z => absurd z (by decide +kernel)) (fun _ => ?_)⟩
            refine ⟨_, rfl, rfl, _, rfl, iteD (fun z => absurd z (by decide +kernel)) (fun _ => ?_)⟩
            refine fun l hl => ⟨_, rfl, _, rfl, upd_same, [(Sum.inr "things", .ref d2), (Sum.inr "given", .ref g)], rfl, by show 2 ≤ 15; decide, by show 2 ≤ sizeLine; decide, fun t ht => ?_⟩
            obtain ⟨z1, z2, z3⟩ := due_fin e08 hl2 hR2 (hg.same e08) hl ht
            exact qq _ _ t l _ (.rename hperm hsort hu hrk) z1 z2 z3
  | keep pr =>
    obtain ⟨q1, hp, hq1⟩ := hp
    refine ⟨_, rfl, p, _, rfl, SqT.of hp, rfl, _, _, rfl, _, _, rfl, _, _, rfl, rfl, ?_⟩
    refine ⟨_, rfl, st, _, rfl, gT, d, kvs, rfl, .inl hd, fun d2 hd2 => ⟨_, rfl, st, _, rfl, (gG (Same.new hd2)), _, _, rfl, ?_⟩⟩
    have e1 := Same.new (o := .dK kvs) hd2
    have hd2n : H d2 = none := hd2
    refine ⟨_, rfl, rfl, _, rfl, iteD (fun z => absurd z (by decide +kernel)) (fun _ => ?_)⟩
    refine ⟨_, rfl, rfl, _, rfl, iteD (fun z => absurd z (by decide +kernel)) (fun _ => ?_)⟩
    refine ⟨_, rfl, rfl, _, rfl, iteD (fun z => absurd z (by decide +kernel)) (fun _ => ?_)⟩
    refine ⟨_, rfl, rfl, _, rfl, iteD (fun _ => ?_) (fun z => absurd rfl z)⟩
    refine ⟨_, rfl, _, rfl, _, _, (hq1.same e1).dp, GivL.dp (hg.same e1) hgk, hq1.2.shaped, shaped_givL hgk, ?_⟩
    rw [any_pd]
    by_cases hin : pr ∈ gs
    · rw [decide_eq_true hin]
      refine ⟨_, rfl, iteF ?_⟩
      refine ⟨_, rfl, rfl, _, rfl, iteD (fun z => absurd z (by decide +kernel)) (fun _ => ?_)⟩
      refine fun l hl => ⟨_, rfl, _, rfl, upd_same, [(Sum.inr "things", .ref d2), (Sum.inr "given", .ref g)], rfl, by show 2 ≤ 15; decide, by show 2 ≤ sizeLine; decide, fun t ht => ?_⟩
      obtain ⟨z1, z2, z3⟩ := due_fin e1 upd_same (hR.same e1) (hg.same e1) hl ht
      exact qq _ _ t l _ (.keep0 hin) z1 z2 z3
    · rw [decide_eq_false hin]
      obtain ⟨ps, hgl, hps⟩ := id hg
      have hl60 : ps.length ≤ 60 := by rw [Paired.length hps]; exact hgk.2
      refine ⟨_, rfl, iteT ⟨_, rfl, _, rfl, by show 1 ≤ sizeLine; decide, fun l1 hl1 => ?_⟩⟩
      have e2 := e1.new' (o := .lst [.ref q1]) hl1
      refine ⟨g, l1, _, _, rfl, rfl, e2 _ _ hgl, upd_same, by rw [List.length_map]; exact Nat.le_of_lt (small1000 (by simp only [List.length_cons, List.length_nil]; omega)), fun g2 hg2 => ?_⟩
      have e3 := e2.new' (o := .lst (ps.map V.ref ++ [.ref q1])) hg2
      have hG3 : GivL (upd (upd (upd H d2 (.dK kvs)) l1 (.lst [.ref q1])) g2 (.lst (ps.map V.ref ++ [.ref q1]))) g2 (gs ++ [pr]) := ⟨ps ++ [q1], by rw [upd_same, List.map_append]; rfl, Paired.snoc (Paired.mapP hps fun _ _ z => e3 _ _ z) (e3 _ _ hq1.1)⟩
      have hd3 := (e2.trans (Same.refl _))
      refine ⟨_, rfl, rfl, _, rfl, iteD (fun z => absurd z (by decide +kernel)) (fun _ => ?_)⟩
      refine fun l hl => ⟨_, rfl, _, rfl, upd_same, [(Sum.inr "things", .ref d2), (Sum.inr "given", .ref g2)], rfl, by show 2 ≤ 15; decide, by show 2 ≤ sizeLine; decide, fun t ht => ?_⟩
      obtain ⟨z1, z2, z3⟩ := due_fin e3 (((Same.new hl1).new' hg2) _ _ upd_same) (hR.same e3) hG3 hl ht
      exact qq _ _ t l _ (.keep hin) z1 z2 z3
  | release pr =>
    obtain ⟨q1, hp, hq1⟩ := hp
    refine ⟨_, rfl, p, _, rfl, SqT.of hp, rfl, _, _, rfl, _, _, rfl, _, _, rfl, rfl, ?_⟩
    refine ⟨_, rfl, st, _, rfl, gT, d, kvs, rfl, .inl hd, fun d2 hd2 => ⟨_, rfl, st, _, rfl, (gG (Same.new hd2)), _, _, rfl, ?_⟩⟩
    have e1 := Same.new (o := .dK kvs) hd2
    have hd2n : H d2 = none := hd2
    refine ⟨_, rfl, rfl, _, rfl, iteD (fun z => absurd z (by decide +kernel)) (fun _ => ?_)⟩
    refine ⟨_, rfl, rfl, _, rfl, iteD (fun z => absurd z (by decide +kernel)) (fun _ => ?_)⟩
    refine ⟨_, rfl, rfl, _, rfl, iteD (fun z => absurd z (by decide +kernel)) (fun _ => ?_)⟩
    refine ⟨_, rfl, rfl, _, rfl, iteD (fun z => absurd z (by decide +kernel)) (fun _ => ?_)⟩
    refine ⟨_, rfl, rfl, _, rfl, iteD (fun _ => ?_) (fun z => absurd rfl z)⟩
    refine ⟨_, rfl, _, rfl, _, _, (hq1.same e1).dp, GivL.dp (hg.same e1) hgk, hq1.2.shaped, shaped_givL hgk, ?_⟩
    rw [any_pd]
    by_cases hin : pr ∈ gs
    · rw [decide_eq_true hin]
      obtain ⟨ps, hgl, hps⟩ := id hg
      have hl60 : ps.length ≤ 60 := by rw [Paired.length hps]; exact hgk.2
      refine ⟨_, rfl, iteF ⟨_, rfl, g, rfl, lc_fm (k := true) (phiR H pr) (SqL.of (e1 _ _ hgl)) (by rw [List.length_map]; omega) (fun i v H2 Nx No hv e2 hN hNo => ?_) (fun D H2 hDn e2 hD => ?_)⟩⟩
      · obtain ⟨p2, q, hp2, hq, rfl, hat⟩ : ∃ p2 q, ps[i]? = some p2 ∧ gs[i]? = some q ∧ v = .ref p2 ∧ H p2 = some (.tup q.vs) := by
          rw [List.getElem?_map] at hv
          cases hp : ps[i]? with
          | none => rw [hp] at hv; cases hv
          | some p =>
            rw [hp] at hv
            obtain ⟨pr, h1, h2⟩ := paired_at hps hp
            exact ⟨p, pr, rfl, h1, (Option.some.inj hv).symm, h2⟩
        have hqo := hgk.1 q (List.mem_of_getElem? hq)
        refine ⟨rfl, _, rfl, _, rfl, pd q, pd pr, PrmAt.dp ⟨(e1.trans e2) _ _ hat, hqo⟩, (hq1.same (e1.trans e2)).dp, hqo.shaped, hq1.2.shaped, ?_⟩
        rw [pd_eqv]
        by_cases hqp : q = pr
        · rw [decide_eq_true hqp]
          exact ⟨_, rfl, hNo (phiR_no (hqp ▸ hat)) _ (Same.refl _)⟩
        · rw [decide_eq_false hqp]
          exact ⟨_, rfl, _, rfl, hN _ _ (phiR_yes hat hqp) (Same.refl _)⟩
      have e12 := e1.trans e2
      have hGD : GivL H2 D (gs.filter fun q => decide (q ≠ pr)) := by
        obtain ⟨qs, h1, h2⟩ := phiR_ps (pr := pr) hps
        exact ⟨qs, by rw [hD, h1], Paired.mapP h2 fun _ _ z => e12 _ _ z⟩
      refine fun l hl => ⟨_, rfl, _, rfl, upd_same, [(Sum.inr "things", .ref d2), (Sum.inr "given", .ref D)], rfl, by show 2 ≤ 15; decide, by show 2 ≤ sizeLine; decide, fun t ht => ?_⟩
      obtain ⟨z1, z2, z3⟩ := due_fin e12 (e2 _ _ upd_same) (hR.same e12) hGD hl ht
      exact qq _ _ t l _ (.release hin) z1 z2 z3
    · rw [decide_eq_false hin]
      refine ⟨_, rfl, iteT ⟨_, rfl, by show 2 ≤ sizeLine; decide, fun l hl => ⟨_, rfl, by show 2 ≤ sizeLine; decide, fun t ht => ?_⟩⟩⟩
      have e2 := (e1.new' (o := .lst [.str "unmade", .ref q1]) hl).new' (o := .tup [.ref l, .ref st]) ht
      exact qd (.unmade pr) t l _ (.release0 hin) e2 upd_same ⟨q1, by rw [upd_ne (ne_of_none upd_same ht), upd_same], hq1.same e2⟩
end
end L2.Lk
/-! L15 -/
set_option Elab.async false
set_option linter.all false
set_option maxRecDepth 100000
set_option maxHeartbeats 2000000
namespace L2.Lk
open PySem PySem.Spec PyProof.Rows
/-! ### what stays true of the things and the promises -/
abbrev abcd : List Str := ["a", "b", "c", "d"]
structure TsOk (ts : Ths) : Prop where
  wf : ∀ t ∈ ts, t.2.Wf
  nd : (ts.map (·.1)).Nodup
  nm : ∀ t ∈ ts, t.1 ∈ abcd
theorem nodup_len : ∀ {l m : List Str}, l.Nodup → (∀ x ∈ l, x ∈ m) → l.length ≤ m.length
  | [], _, _, _ => Nat.zero_le _
  | x :: l, m, hn, hs => by
    rw [List.nodup_cons] at hn
    have hx := hs x List.mem_cons_self
    have h := nodup_len (l := l) (m := m.erase x) hn.2 fun y hy => (List.mem_erase_of_ne fun z => hn.1 (by rw [← z]; exact hy)).mpr (hs y (List.mem_cons_of_mem _ hy))
    rw [List.length_erase_of_mem hx] at h
    have : 0 < m.length := List.length_pos_of_mem hx
    rw [List.length_cons]
    omega
theorem lookup_in : ∀ {ts : Ths} {x : Str} {th : Thing}, ts.lookup x = some th → (x, th) ∈ ts
  | (y, u) :: ts, x, th, h => by
    rw [List.lookup_cons] at h
    by_cases e : x = y
    · subst e
      rw [beq_self_eq_true] at h
      rw [← Option.some.inj h]
      exact List.mem_cons_self
    · rw [beq_eq_false_iff_ne.mpr e] at h
      exact List.mem_cons_of_mem _ (lookup_in h)
theorem abcd_ok {x : Str} (h : x ∈ abcd) : NmOk x := by
  simp only [abcd, List.mem_cons, List.not_mem_nil, or_false] at h
  rcases h with rfl | rfl | rfl | rfl <;> exact ⟨by decide +kernel, by decide +kernel, by decide +kernel⟩
theorem TsOk.len {ts : Ths} (h : TsOk ts) : ts.length ≤ 4 := by
  have := nodup_len (m := abcd) h.nd fun x hx => by
    obtain ⟨t, ht, rfl⟩ := List.mem_map.mp hx
    exact h.nm t ht
  rw [List.length_map] at this
  exact this
theorem TsOk.ok {ts : Ths} (h : TsOk ts) : ThsOk ts := ⟨fun x th hl => h.wf _ (lookup_in hl), h.nd, Nat.le_trans h.len (by decide), fun t ht => (abcd_ok (h.nm t ht)).2.2⟩
theorem TsOk.nil : TsOk [] := ⟨fun t h => (by cases h), List.nodup_nil, fun t h => by cases h⟩
theorem putT_keys {ts : Ths} {x : Str} {th : Thing} : (putT ts x th).map (·.1) = if ts.any (fun t => decide (t.1 = x)) = true then ts.map (·.1) else ts.map (·.1) ++ [x] := by
  unfold putT
  by_cases h : ts.any (fun t => decide (t.1 = x)) = true
  · rw [if_pos h, if_pos h, List.map_map]
    refine List.map_congr_left fun t _ => ?_
    show (if t.1 = x then (t.1, th) else t).1 = t.1
    by_cases e : t.1 = x
    · rw [if_pos e]
    · rw [if_neg e]
  · rw [if_neg h, if_neg h, List.map_append]; rfl
theorem putT_mem {ts : Ths} {x : Str} {th : Thing} {t : Str × Thing} (h : t ∈ putT ts x th) : (t.1 = x ∧ t.2 = th) ∨ t ∈ ts := by
  unfold putT at h
  by_cases ha : ts.any (fun t => decide (t.1 = x)) = true
  · rw [if_pos ha] at h
    obtain ⟨u, hu, rfl⟩ := List.mem_map.mp h
    by_cases e : u.1 = x
    · rw [if_pos e]; exact .inl ⟨e, rfl⟩
    · rw [if_neg e]; exact .inr hu
  · rw [if_neg ha] at h
    rcases List.mem_append.mp h with h | h
    · exact .inr h
    · rw [List.mem_singleton.mp h]; exact .inl ⟨rfl, rfl⟩
theorem TsOk.put {ts : Ths} {x : Str} {th : Thing} (h : TsOk ts) (hx : x ∈ abcd) (hw : th.Wf) : TsOk (putT ts x th) := by
  refine ⟨fun t ht => ?_, ?_, fun t ht => ?_⟩
  · rcases putT_mem ht with ⟨_, e⟩ | ht
    · rw [e]; exact hw
    · exact h.wf t ht
  · rw [putT_keys]
    by_cases ha : ts.any (fun t => decide (t.1 = x)) = true
    · rw [if_pos ha]; exact h.nd
    · rw [if_neg ha, List.nodup_append]
      refine ⟨h.nd, by simp, fun a ha' b hb => ?_⟩
      rw [List.mem_singleton.mp hb]
      intro z
      obtain ⟨t, ht, e⟩ := List.mem_map.mp ha'
      exact ha (List.any_eq_true.mpr ⟨t, ht, decide_eq_true (e.trans z)⟩)
  · rcases putT_mem ht with ⟨e, _⟩ | ht
    · rw [e]; exact hx
    · exact h.nm t ht
theorem TsOk.drop {ts : Ths} {x : Str} (h : TsOk ts) : TsOk (dropT ts x) := by
  refine ⟨fun t ht => h.wf t (List.mem_filter.mp ht).1, ?_, fun t ht => h.nm t (List.mem_filter.mp ht).1⟩
  exact (List.Sublist.map _ List.filter_sublist).nodup h.nd
theorem movedT_keys {ts : Ths} {cs : List Nat} : (movedT cs ts).map (·.1) = ts.map (·.1) := by unfold movedT; rw [List.map_map]; rfl
theorem TsOk.moved {ts : Ths} {cs : List Nat} (h : TsOk ts) (hb : ∀ t ∈ ts, t.2.bits = cs.length) (hl : Lt cs.length cs) (hr : rk cs = cs.length) : TsOk (movedT cs ts) := by
  refine ⟨fun t ht => ?_, by rw [movedT_keys]; exact h.nd, fun t ht => ?_⟩
  · obtain ⟨u, hu, rfl⟩ := List.mem_map.mp ht
    exact Thing.moved_wf (h.wf u hu) (hb u hu).symm hl hr
  · obtain ⟨u, hu, rfl⟩ := List.mem_map.mp ht
    exact h.nm u hu
structure GvOk (gs : List Prm) : Prop where
  ok : ∀ p ∈ gs, PrmOk p
  len : gs.length ≤ 11
theorem GvOk.giv {gs : List Prm} (h : GvOk gs) : GivOk gs := ⟨h.ok, Nat.le_trans h.len (by decide)⟩
theorem GvOk.nil : GvOk [] := ⟨fun p h => (by cases h), Nat.zero_le _⟩
/-- what a drawn deed keeps -/
def DeedOk2 (gs : List Prm) : Deed → Prop
  | .put x t => t.Wf ∧ x ∈ abcd
  | .drop x => NmOk x
  | .rename cs => cs.length ≤ 4 ∧ Lt cs.length cs
  | .keep pr => PrmOk pr ∧ gs.length < 11
  | .release pr => PrmOk pr
theorem DeedOk2.one {gs : List Prm} {d : Deed} (h : DeedOk2 gs d) : DeedOk d := by
  cases d with
  | put x t => exact ⟨h.1, abcd_ok h.2⟩
  | drop x => exact h
  | rename cs => exact h
  | keep p => trivial
  | release p => trivial
theorem uneq_bits {ts : Ths} {cs : List Nat} {ns : List Str} (hn : (ts.map (·.1)).Nodup) (hp : ns.Perm (ts.map (·.1))) (hu : uneq ts cs.length ns = none) : ∀ t ∈ ts, t.2.bits = cs.length := fun t ht =>
  uneq_all hu t.1 (hp.symm.mem_iff.mp (List.mem_map.mpr ⟨t, ht, rfl⟩)) _ (lookup_nd hn ht)
theorem due_ok {ts ts' : Ths} {gs gs' : List Prm} {d : Deed} (h : DueR ts gs d (.inr (ts', gs'))) (ht : TsOk ts) (hg : GvOk gs) (hd : DeedOk2 gs d) : TsOk ts' ∧ GvOk gs' := by
  cases h with
  | put => exact ⟨ht.put hd.2 hd.1, hg⟩
  | drop h => exact ⟨ht.drop, hg⟩
  | rename hp hs hu hr => exact ⟨ht.moved (uneq_bits ht.nd hp hu) hd.2 hr, hg⟩
  | keep0 h => exact ⟨ht, hg⟩
  | keep h =>
    refine ⟨ht, fun p hp => ?_, ?_⟩
    · rcases List.mem_append.mp hp with hp | hp
      · exact hg.ok p hp
      · rw [List.mem_singleton.mp hp]; exact hd.1
    · have := hd.2
      rw [List.length_append, List.length_singleton]; omega
  | release h => exact ⟨ht, fun p hp => hg.ok p (List.mem_filter.mp hp).1, Nat.le_trans (List.length_filter_le _ _) hg.len⟩
/-- how a deed ends -/
inductive Out where
  | same
  | err (du : Due)
  | done (ts : Ths) (gs : List Prm)
def outB (ts : Ths) (gs : List Prm) : Out := match broken ts gs with
  | some p => .err (.broken p)
  | none => .done ts gs
open Classical in
noncomputable def outOf (gs : List Prm) (d : Deed) : Due ⊕ (Ths × List Prm) → Out
  | .inl du => .err du
  | .inr (ts', gs') => match d with
    | .keep pr => if pr ∈ gs then .same else outB ts' gs'
    | .release _ => .done ts' gs'
    | _ => outB ts' gs'
section
variable {P : Program} {w : World} {K : PySem.W.Frag} {mg : Str → Option Value} {base : Heap}
def ErrAt (K : PySem.W.Frag) (H : Hp) (cls : Value) (d : Option Addr) : Due → Prop
  | .unknown x => cls = .ref (cUnknown K) ∧ ∃ dd, d = some dd ∧ H dd = some (.xd [("name", .str x)])
  | .unequal k m => cls = .ref (cUnequal K) ∧ ∃ dd, d = some dd ∧ H dd = some (.xd [("other", nV m), ("one", nV k)])
  | .one k => cls = .ref (cNotOneToOne K) ∧ ∃ dd, d = some dd ∧ H dd = some (.xd [("word", nV k)])
  | .unmade pr => cls = .ref (cNotMade K) ∧ ∃ dd p, d = some dd ∧ H dd = some (.xd [("promise", .ref p)]) ∧ H p = some (.tup pr.vs)
  | .broken pr => cls = .ref (cBroken K) ∧ ∃ dd p, d = some dd ∧ H dd = some (.xd [("promise", .ref p)]) ∧ H p = some (.tup pr.vs)
  | .nothing => cls = .ref (cNothingToUndo K) ∧ d = none
def OutR (K : PySem.W.Frag) (H : Hp) (x : Addr) (S : DState) (Q : VK) (E : XK) : Out → Prop
  | .same => ∀ H', Same H H' → Q .non H'
  | .err du => ∀ cls d H', Same H H' → ErrAt K H' cls d du → E cls d H'
  | .done ts' gs' => ∀ H', Sx [x] H H' → DeskAt K H' x ⟨ts', gs', S.past ++ [(S.things, S.given)]⟩ → Q .non H'
theorem outR_deed {H H1 : Hp} {x : Addr} {S : DState} {Q : VK} {E : XK} {ts' : Ths} {gs' : List Prm} (h : OutR K H x S Q E (outB ts' gs')) (e : Same H H1) : DeedEnd K H1 x S ts' gs' Q E := by
  unfold outB at h
  refine ⟨fun hb H' s hd => ?_, fun pr hb p dd H' s hn hp hdd => ?_⟩
  · rw [hb] at h
    exact h H' (e.sx.trans s) hd
  · rw [hb] at h
    exact h _ _ H' (e.trans s) ⟨rfl, dd, p, rfl, hdd, hp⟩
abbrev sp_act (K : PySem.W.Frag) : L2.Sp := S2 fun a b H Q E => ∃ x S p deed r, a = .ref x ∧ b = .ref p ∧ DeskAt K H x S ∧ TsOk S.things ∧ GvOk S.given ∧ S.past.length ≤ 500 ∧ DeedAt K H p deed ∧ DeedOk2 S.given deed ∧ DueR S.things S.given deed r ∧ OutR K H x S Q E (outOf S.given deed r)
theorem ok_law_act (T : Tx P K mg) : Has P w K mg base 14 "_law_act" ["_law_desk", "_law_deed"] (sp_act K) := by
  refine ⟨g_law_act T, ok2 (F_law_act T) sc_law_act fun cdv A outer s H a b Q E hr h => ?_⟩
  obtain ⟨x, S, p, deed, r, rfl, rfl, hS, hT, hG, hz, hp, hdk, hdue, hout⟩ := h
  refine ⟨_, (pss_cons (ps_asg (pv 1) (pg_tupK (n := 3) K rfl (pgs_cons (pg_name (i := 2) sc_law_act.nd rfl (.inl rfl)) (pgs_cons (pg_name (i := 3) sc_law_act.nd rfl (.inl rfl)) (pgs_cons (pg_name (i := 4) sc_law_act.nd rfl (.inl rfl)) pgs_nil)))))
    (pss_cons (ps_if (pt_cmpR op_eq (pv 2) pe_str (nomark _)) (pss_one (ps_ret (pe_hm (ok_Desk_put (K := K) T) (own_Desk T) (hr.mono (by decide)) (passes_call (takes_of rfl rfl rfl rfl) fun _ _ _ _ h => h) (pv 0) (pa_cons (pv 3) (pa_cons (pe_h (ok_law_object (K := K) T) (hr.mono (by decide)) passL (pa_cons (pv 4) pa_nil)) pa_nil))))) pss_nil)
    (pss_cons (ps_if (pt_cmpR op_eq (pv 2) pe_str (nomark _)) (pss_one (ps_ret (pe_hm (ok_Desk_drop (K := K) T) (own_Desk T) (hr.mono (by decide)) (passes_call (takes_of rfl rfl rfl rfl) fun _ _ _ _ h => h) (pv 0) (pa_cons (pv 3) pa_nil)))) pss_nil)
    (pss_cons (ps_if (pt_cmpR op_eq (pv 2) pe_str (nomark _)) (pss_one (ps_ret (pe_hm (ok_Desk_rename (K := K) T) (own_Desk T) (hr.mono (by decide)) (passes_call (takes_of rfl rfl rfl rfl) fun _ _ _ _ h => h) (pv 0) (pa_cons (pe_hc (ok_Map_init (K := K) T) (mk_Map T) (g_Map T) (hr.mono (by decide)) passL (pa_cons (pe_callB (call_lenM K) (by rfl) (b_len T) bb_len (pa_cons (pv 3) pa_nil)) (pa_cons (pv 3) pa_nil))) pa_nil)))) pss_nil)
    (pss_one (ps_ret (pe_ifExp (pt_cmpR op_eq (pv 2) pe_str (nomark _)) (pe_hm (ok_Desk_keep (K := K) T) (own_Desk T) (hr.mono (by decide)) (passes_call (takes_of rfl rfl rfl rfl) fun _ _ _ _ h => h) (pv 0) (pa_cons (pv 3) pa_nil)) (pe_hm (ok_Desk_release (K := K) T) (own_Desk T) (hr.mono (by decide)) (passes_call (takes_of rfl rfl rfl rfl) fun _ _ _ _ h => h) (pv 0) (pa_cons (pv 3) pa_nil))))))))), ?_⟩
  have hok := hT.ok
  have hgk := hG.giv
  cases deed with
  | put nm th =>
    obtain ⟨q, hp, hq⟩ := hp
    obtain ⟨hw, hnm⟩ := hdk
    have hno := abcd_ok hnm
    cases hdue
    refine ⟨_, rfl, p, _, rfl, SqT.of hp, rfl, _, _, rfl, _, _, rfl, _, _, rfl, rfl, ?_⟩
    refine ⟨_, rfl, rfl, _, rfl, iteD (fun _ => ?_) (fun z => absurd rfl z)⟩
    obtain ⟨dx, d, g, rr, hx, _, _, _⟩ := id hS
    refine ⟨_, rfl, x, dx, _, rfl, hx, lk_Desk_no _ _ _ _ (by decide +kernel), _, rfl, _, rfl, _, rfl, q, th, rfl, hq, hw, fun o H1 e1 ho => ?_⟩
    exact ⟨_, _, _, rfl, x, S, rfl, hS.same e1, hok, hz, .inl ⟨rfl, fun y hy => by injection hy with hy; rw [← hy]; exact hno.2.2⟩, .inr (.inr ⟨nm, o, th, hno.1, rfl, rfl, ho, (hT.put hnm hw).ok, outR_deed hout e1⟩)⟩
  | drop nm =>
    have hp : H p = some (.tup [.str "drop", .str nm, .non]) := hp
    have hno : NmOk nm := hdk
    refine ⟨_, rfl, p, _, rfl, SqT.of hp, rfl, _, _, rfl, _, _, rfl, _, _, rfl, rfl, ?_⟩
    refine ⟨_, rfl, rfl, _, rfl, iteD (fun z => absurd z (by decide +kernel)) (fun _ => ?_)⟩
    refine ⟨_, rfl, rfl, _, rfl, iteD (fun _ => ?_) (fun z => absurd rfl z)⟩
    obtain ⟨dx, d, g, rr, hx, _, _, _⟩ := id hS
    refine ⟨_, rfl, x, dx, _, rfl, hx, lk_Desk_no _ _ _ _ (by decide +kernel), _, rfl, ?_⟩
    have harg : ArgV K H (.str nm) := .inl ⟨rfl, fun y hy => by injection hy with hy; rw [← hy]; exact hno.2.2⟩
    cases hdue with
    | drop0 h0 => exact ⟨_, _, rfl, x, S, rfl, hS, hok, hz, harg, .inl ⟨by show (S.things.lookup nm).isSome = false; rw [h0]; rfl, fun dd H' e hn hdd => hout _ _ H' e ⟨rfl, dd, rfl, hdd⟩⟩⟩
    | drop h0 => exact ⟨_, _, rfl, x, S, rfl, hS, hok, hz, harg, .inr ⟨nm, rfl, h0, hT.drop.ok, outR_deed hout (Same.refl _)⟩⟩
  | rename cs =>
    obtain ⟨q, hp, hq⟩ := hp
    obtain ⟨h4, hlt⟩ : cs.length ≤ 4 ∧ Lt cs.length cs := hdk
    refine ⟨_, rfl, p, _, rfl, SqT.of hp, rfl, _, _, rfl, _, _, rfl, _, _, rfl, rfl, ?_⟩
    refine ⟨_, rfl, rfl, _, rfl, iteD (fun z => absurd z (by decide +kernel)) (fun _ => ?_)⟩
    refine ⟨_, rfl, rfl, _, rfl, iteD (fun z => absurd z (by decide +kernel)) (fun _ => ?_)⟩
    refine ⟨_, rfl, rfl, _, rfl, iteD (fun _ => ?_) (fun z => absurd rfl z)⟩
    obtain ⟨dx, d, g, rr, hx, _, _, _⟩ := id hS
    refine ⟨_, rfl, x, dx, _, rfl, hx, lk_Desk_no _ _ _ _ (by decide +kernel), _, rfl, q, true, _, rfl, SqL.of hq, ?_⟩
    rw [wl_len]
    refine ⟨_, rfl, mkMap (k := true) (SqL.of hq) hlt fun m H1 e1 hmn hm => ⟨_, _, rfl, x, S, rfl, hS.same e1, hok, hz, .inr ?_⟩⟩
    have inj : ∀ {k : Nat}, k < 2 ^ cs.length → img cs k = 0 → k ≠ 0 → ¬ rk cs = cs.length := fun h1 h2 h3 hr => h3 (img_inj hr h1 (Nat.two_pow_pos _) (h2.trans (img_zero cs).symm))
    cases hdue with
    | @unequal _ ns k hpm hst hu =>
      exact ⟨m, cs, ns, rfl, hm, by omega, hlt, hpm, hst, (fun k' hk' dd H' e hn hdd => by
        rw [hu] at hk'
        rw [← Option.some.inj hk'] at hdd
        exact hout _ _ H' (e1.trans e) ⟨rfl, dd, rfl, hdd⟩), (fun z => by rw [hu] at z; cases z), (fun z => by rw [hu] at z; cases z)⟩
    | @one _ ns k hpm hst hu hk =>
      obtain ⟨k1, k2, k3, k4⟩ := hk
      refine ⟨m, cs, ns, rfl, hm, by omega, hlt, hpm, hst, (fun k' hk' => by rw [hu] at hk'; cases hk'), (fun _ dd H' r ks hK e hn hdd => ?_), fun _ hr => absurd hr (inj k1 k2 k3)⟩
      have hr1 := (hK.2 r).mp (sp_mem List.mem_cons_self)
      have hrn : r ≠ 0 := hK.1.pos r List.mem_cons_self
      obtain rfl : r = k := Nat.le_antisymm (red_least hK.1 ((hK.2 k).mpr ⟨k1, k2⟩) k3) (k4 r hr1.1 hr1.2 hrn)
      exact hout _ _ H' (e1.trans e) ⟨rfl, dd, rfl, hdd⟩
    | @rename _ ns hpm hst hu hr =>
      refine ⟨m, cs, ns, rfl, hm, by omega, hlt, hpm, hst, (fun k' hk' => by rw [hu] at hk'; cases hk'), (fun _ dd H' r ks hK e hn hdd => ?_), fun _ _ => ⟨(hT.moved (uneq_bits hT.nd hpm hu) hlt hr).ok, outR_deed hout e1⟩⟩
      have := hK.nil.mpr hr
      cases this
  | keep pr =>
    obtain ⟨q, hp, hq⟩ := hp
    refine ⟨_, rfl, p, _, rfl, SqT.of hp, rfl, _, _, rfl, _, _, rfl, _, _, rfl, rfl, ?_⟩
    refine ⟨_, rfl, rfl, _, rfl, iteD (fun z => absurd z (by decide +kernel)) (fun _ => ?_)⟩
    refine ⟨_, rfl, rfl, _, rfl, iteD (fun z => absurd z (by decide +kernel)) (fun _ => ?_)⟩
    refine ⟨_, rfl, rfl, _, rfl, iteD (fun z => absurd z (by decide +kernel)) (fun _ => ?_)⟩
    refine ⟨_, rfl, rfl, _, rfl, iteD (fun _ => ?_) (fun z => absurd rfl z)⟩
    obtain ⟨dx, d, g, rr, hx, _, _, _⟩ := id hS
    refine ⟨_, rfl, x, dx, _, rfl, hx, lk_Desk_no _ _ _ _ (by decide +kernel), _, rfl, _, _, rfl, x, S, rfl, hS, hok, hgk, hz, .inr ⟨q, pr, rfl, hq, fun hin => ?_, fun hin => ?_⟩⟩
    · have ho : outOf S.given (.keep pr) r = .same := by
        cases hdue with
        | keep0 _ => exact if_pos hin
        | keep hn => exact absurd hin hn
      rw [ho] at hout
      exact hout
    · cases hdue with
      | keep0 hn => exact absurd hn hin
      | keep _ =>
        have ho : outOf S.given (.keep pr) (.inr (S.things, S.given ++ [pr])) = outB S.things (S.given ++ [pr]) := if_neg hin
        rw [ho] at hout
        exact outR_deed hout (Same.refl _)
  | release pr =>
    obtain ⟨q, hp, hq⟩ := hp
    refine ⟨_, rfl, p, _, rfl, SqT.of hp, rfl, _, _, rfl, _, _, rfl, _, _, rfl, rfl, ?_⟩
    refine ⟨_, rfl, rfl, _, rfl, iteD (fun z => absurd z (by decide +kernel)) (fun _ => ?_)⟩
    refine ⟨_, rfl, rfl, _, rfl, iteD (fun z => absurd z (by decide +kernel)) (fun _ => ?_)⟩
    refine ⟨_, rfl, rfl, _, rfl, iteD (fun z => absurd z (by decide +kernel)) (fun _ => ?_)⟩
    refine ⟨_, rfl, rfl, _, rfl, iteD (fun z => absurd z (by decide +kernel)) (fun _ => ?_)⟩
    obtain ⟨dx, d, g, rr, hx, _, _, _⟩ := id hS
    refine ⟨_, rfl, x, dx, _, rfl, hx, lk_Desk_no _ _ _ _ (by decide +kernel), _, rfl, _, _, rfl, x, S, rfl, hS, hgk, hz, .inr ⟨q, pr, rfl, hq, fun hin dd H' e hn hdd => ?_, fun hin H' s hd => ?_⟩⟩
    · cases hdue with
      | release0 _ => exact hout _ _ H' e ⟨rfl, dd, q, rfl, hdd, (hq.same e).1⟩
      | release hn => exact absurd hn hin
    · cases hdue with
      | release0 hn => exact absurd hin hn
      | release _ => exact hout H' s hd
end
end L2.Lk
/-! L16 -/
set_option Elab.async false
set_option linter.all false
set_option maxRecDepth 100000
set_option maxHeartbeats 2000000
namespace L2.Lk
open PySem PySem.Spec PyProof.Rows
/-! ### what is met in a call -/
theorem call_isE3 {X : Cx} {a D : Addr} {cls : Value} {d : Option Addr} {oe : Obj} {pn : List (Addr × Obj)} (C : ExcC X.K D) (hz : Zc cls d oe) (hf : ∃ vs, oe.data = .fields vs) :
    CallR (X.suite a ((a, oe) :: pn)) (.builtin "isinstance") (fun xs H Q => cls = .ref D ∧ rIsE2 X.K a D d xs H Q) := by
  intro pins s σ H xs us Q I r h
  obtain ⟨e, h⟩ := h
  subst e
  exact call_isE2 C hz hf pins s σ H xs us Q I r h
section
variable {P : Program} {w : World} {K : PySem.W.Frag} {mg : Str → Option Value} {base : Heap}
theorem takes_len {X : Cx} {W : WX} {n : Nat} (t : Takes X W) (hn : X.N.length = n) : Takes X (fun c d σ H => σ.length = n → W c d σ H) := fun u s' ⟨a, B, sI, pins, σ, H, cls, d, e, I, nb, up, sky, na, os, ag, w⟩ =>
  t u s' ⟨a, B, sI, pins, σ, H, cls, d, e, I, nb, up, sky, na, os, ag, w (I.len.trans hn)⟩
theorem lk1 {f : Str} {v : V} : ([(f, v)] : List (Str × V)).lookup f = some v := by rw [List.lookup_cons, beq_self_eq_true]
theorem lk2other {v u : V} : ([("other", u), ("one", v)] : List (Str × V)).lookup ("other" : Str) = some u := by rw [List.lookup_cons, beq_self_eq_true]
theorem lk2one {v u : V} : ([("other", u), ("one", v)] : List (Str × V)).lookup ("one" : Str) = some v := by rw [List.lookup_cons, beq_eq_false_iff_ne.mpr (by decide +kernel : ¬ ("one" : Str) = "other")]; exact lk1
theorem len2 {σ : L2.St} (h : σ.length = 2) : ∃ x y, σ = [x, y] := match σ, h with
  | [x, y], _ => ⟨x, y, rfl⟩
/-- an error of one field v, told by [tag, v] -/
def MetF (K : PySem.W.Frag) (x f tag : Str) (Q : VK) (cls : Value) (d : Option Addr) (H : Hp) : Prop := cls = .ref (He.ga K x) ∧ ∃ dd v, d = some dd ∧ H dd = some (.xd [(f, v)]) ∧ ∀ l, H l = none → Q (.ref l) (upd H l (.lst [.str tag, v]))
def MetE (K : PySem.W.Frag) (Q : VK) : XK := fun cls d H => MetF K "Unknown" "name" "unknown" Q cls d H ∨
  (cls = .ref (cUnequal K) ∧ ∃ dd v u, d = some dd ∧ H dd = some (.xd [("other", u), ("one", v)]) ∧ ∀ l, H l = none → Q (.ref l) (upd H l (.lst [.str "unequal", v, u]))) ∨
  MetF K "NotOneToOne" "word" "one" Q cls d H ∨ MetF K "NotMade" "promise" "unmade" Q cls d H ∨ MetF K "Broken" "promise" "broken" Q cls d H ∨
  (cls = .ref (cNothingToUndo K) ∧ d = none ∧ ∀ l, H l = none → Q (.ref l) (upd H l (.lst [.str "nothing"]))) ∨
  MetF K "BadPromise" "promise" "promise" Q cls d H ∨ MetF K "BadValue" "value" "value" Q cls d H
def TMet (K : PySem.W.Frag) : (XK → Hp → VK → Prop) → Hp → VK → Prop := fun tl H Q => tl (MetE K Q) H fun _ H' => Q .non H'
theorem exm_no (T : Tx P K mg) {x y : Str} (hx : x ∈ errN) (hy : y ∈ errN) (h : decide (x = y) = false) : PySem.W.exmOne K (.ref (He.ga K x)) (.ref (He.ga K y)) = some false := by rw [T.exm x hx y hy, h]
theorem exm_yes (T : Tx P K mg) {x : Str} (hx : x ∈ errN) : PySem.W.exmOne K (.ref (He.ga K x)) (.ref (He.ga K x)) = some true := by rw [T.exm x hx x hx, decide_eq_true rfl]
theorem met_gives (T : Tx P K mg) {X : Cx} {q : Str} {g : Addr} {cdg : Value} (hK : X.K = K) (hm : X.mg = mg) : LamX.GivesTo X N_law_met "_law_met" (defScope st_law_met) g cdg (defBody st_law_met) "_law_call" q (TMet K) := by
  subst hK hm
  intro f c' s H Q tl act hc h
  refine ⟨_, pss_cons (ps_try_manyA (X := (cxOf C8.CX0 X.prog X.w X.K X.mg X.base N_law_met "_law_met" (defScope st_law_met) g cdg X.A X.stack s H C8.E0).nox) (n := "e") (i := 1)
      (tb := fun W D σ H => ∃ Ech : XK, (∀ cls d σ' H', Ech cls d H' → σ'.length = 2 → W cls d σ' H') ∧ σ[0]? = some (some (.ref f)) ∧ H c' = some (LamX.CodeO c' q) ∧ tl Ech H fun _ H' => D.nx σ H')
      rfl rfl sc_law_met.nd rfl rfl LamX.takes0 (fun W pn xe tk _ => ?_)
      (HdsA.cons ⟨rfl, by decide, .inl (g_Unknown T)⟩ (fun a oe cls d pn hz hf => pss_one (ps_ret (pe_ifExp (pt_val (pe_callB (call_isE3 (T.xc "Unknown" (by decide +kernel)) hz hf) (by rfl) (b_isinstance T) bb_isinstance (pa_cons (pv 1) (pa_cons (pe_glob (v := .ref (He.ga X.K "LaneError")) (by rfl) (g_LaneError T) rfl) pa_nil)))) (pe_lst (pa_cons pe_str (pa_cons (pe_xf (T.xf "Unknown" (by decide +kernel)) (T.noat ("Unknown", "name") (by decide +kernel)) hz hf (pv 1)) pa_nil))) (pe_lst pa_nil))))
        (HdsA.cons ⟨rfl, by decide, .inl (g_Unequal T)⟩ (fun a oe cls d pn hz hf => pss_one (ps_ret (pe_lst (pa_cons pe_str (pa_cons (pe_xf (T.xf "Unequal" (by decide +kernel)) (T.noat ("Unequal", "one") (by decide +kernel)) hz hf (pv 1)) (pa_cons (pe_xf (T.xf "Unequal" (by decide +kernel)) (T.noat ("Unequal", "other") (by decide +kernel)) hz hf (pv 1)) pa_nil))))))
        (HdsA.cons ⟨rfl, by decide, .inl (g_NotOneToOne T)⟩ (fun a oe cls d pn hz hf => pss_one (ps_ret (pe_lst (pa_cons pe_str (pa_cons (pe_xf (T.xf "NotOneToOne" (by decide +kernel)) (T.noat ("NotOneToOne", "word") (by decide +kernel)) hz hf (pv 1)) pa_nil)))))
        (HdsA.cons ⟨rfl, by decide, .inl (g_NotMade T)⟩ (fun a oe cls d pn hz hf => pss_one (ps_ret (pe_ifExp (pt_val (pe_callB (call_isE3 (T.xc "NotMade" (by decide +kernel)) hz hf) (by rfl) (b_isinstance T) bb_isinstance (pa_cons (pv 1) (pa_cons (pe_glob (v := .ref (He.ga X.K "LaneError")) (by rfl) (g_LaneError T) rfl) pa_nil)))) (pe_lst (pa_cons pe_str (pa_cons (pe_xf (T.xf "NotMade" (by decide +kernel)) (T.noat ("NotMade", "promise") (by decide +kernel)) hz hf (pv 1)) pa_nil))) (pe_lst pa_nil))))
        (HdsA.cons ⟨rfl, by decide, .inl (g_Broken T)⟩ (fun a oe cls d pn hz hf => pss_one (ps_ret (pe_ifExp (pt_val (pe_callB (call_isE3 (T.xc "Broken" (by decide +kernel)) hz hf) (by rfl) (b_isinstance T) bb_isinstance (pa_cons (pv 1) (pa_cons (pe_glob (v := .ref (He.ga X.K "LaneError")) (by rfl) (g_LaneError T) rfl) pa_nil)))) (pe_lst (pa_cons pe_str (pa_cons (pe_xf (T.xf "Broken" (by decide +kernel)) (T.noat ("Broken", "promise") (by decide +kernel)) hz hf (pv 1)) pa_nil))) (pe_lst pa_nil))))
        (HdsA.cons ⟨rfl, by decide, .inl (g_NothingToUndo T)⟩ (fun a oe cls d pn hz hf => pss_one (ps_ret (pe_ifExp (pt_val (pe_callB (call_isE3 (T.xc "NothingToUndo" (by decide +kernel)) hz hf) (by rfl) (b_isinstance T) bb_isinstance (pa_cons (pv 1) (pa_cons (pe_glob (v := .ref (He.ga X.K "LaneError")) (by rfl) (g_LaneError T) rfl) pa_nil)))) (pe_lst (pa_cons pe_str pa_nil)) (pe_lst pa_nil))))
        (HdsA.cons ⟨rfl, by decide, .inl (g_BadPromise T)⟩ (fun a oe cls d pn hz hf => pss_one (ps_ret (pe_ifExp (pt_val (pe_callB (call_isE3 (T.xc "BadPromise" (by decide +kernel)) hz hf) (by rfl) (b_isinstance T) bb_isinstance (pa_cons (pv 1) (pa_cons (pe_glob (v := .ref (He.ga X.K "LaneError")) (by rfl) (g_LaneError T) rfl) pa_nil)))) (pe_lst (pa_cons pe_str (pa_cons (pe_xf (T.xf "BadPromise" (by decide +kernel)) (T.noat ("BadPromise", "promise") (by decide +kernel)) hz hf (pv 1)) pa_nil))) (pe_lst pa_nil))))
        (HdsA.cons ⟨rfl, by decide, .inl (g_BadValue T)⟩ (fun a oe cls d pn hz hf => pss_one (ps_ret (pe_ifExp (pt_val (pe_callB (call_isE3 (T.xc "BadValue" (by decide +kernel)) hz hf) (by rfl) (b_isinstance T) bb_isinstance (pa_cons (pv 1) (pa_cons (pe_glob (v := .ref (He.ga X.K "LaneError")) (by rfl) (g_LaneError T) rfl) pa_nil)))) (pe_lst (pa_cons pe_str (pa_cons (pe_xf (T.xf "BadValue" (by decide +kernel)) (T.noat ("BadValue", "value") (by decide +kernel)) hz hf (pv 1)) pa_nil))) (pe_lst pa_nil))))
        HdsA.nil))))))))) (pss_one (ps_ret pe_non)), ?_⟩
  · refine ⟨fun pins s' σ H' D I h' => ?_⟩
    obtain ⟨Ech, hW, h1, h2, h3⟩ := h'
    exact (pss_one (ps_expr (act (fun cls d σ H => σ.length = 2 → W cls d σ H) pn xe Ech _ _ (takes_len tk rfl) hW))).run pins s' σ H' D I ⟨h1, h2, h3⟩
  · refine ⟨MetE X.K Q, fun cls d σ' H' hE hl => ?_, rfl, hc, h⟩
    obtain ⟨x0, y0, rfl⟩ := len2 hl
    rcases hE with hE | hE | hE | hE | hE | hE | hE | hE
    · obtain ⟨rfl, dd, v, rfl, hdd, q⟩ := hE
      refine ⟨true, exm_yes T (x := "Unknown") (by decide +kernel), fun _ a ha => ?_, (fun z => nomatch z)⟩
      refine ⟨_, rfl, rfl, _, _, true, rfl, (fun u h => h), T.lane "Unknown" (by decide +kernel), .inr ⟨dd, _, rfl, hdd⟩, ?_⟩
      exact ⟨_, rfl, iteT ⟨_, rfl, rfl, rfl, dd, _, _, rfl, hdd, lk1, by show 2 ≤ sizeLine; decide, fun l hl => q l hl⟩⟩
    · obtain ⟨rfl, dd, v, u, rfl, hdd, q⟩ := hE
      refine ⟨false, exm_no T (x := "Unequal") (y := "Unknown") (by decide +kernel) (by decide +kernel) (by decide +kernel), (fun z => nomatch z), fun _ => ?_⟩
      refine ⟨true, exm_yes T (x := "Unequal") (by decide +kernel), fun _ a ha => ?_, (fun z => nomatch z)⟩
      exact ⟨_, rfl, rfl, rfl, dd, _, _, rfl, hdd, lk2one, _, rfl, rfl, rfl, dd, _, _, rfl, hdd, lk2other, by show 3 ≤ sizeLine; decide, fun l hl => q l hl⟩
    · obtain ⟨rfl, dd, v, rfl, hdd, q⟩ := hE
      refine ⟨false, exm_no T (x := "NotOneToOne") (y := "Unknown") (by decide +kernel) (by decide +kernel) (by decide +kernel), (fun z => nomatch z), fun _ => ?_⟩
      refine ⟨false, exm_no T (x := "NotOneToOne") (y := "Unequal") (by decide +kernel) (by decide +kernel) (by decide +kernel), (fun z => nomatch z), fun _ => ?_⟩
      refine ⟨true, exm_yes T (x := "NotOneToOne") (by decide +kernel), fun _ a ha => ?_, (fun z => nomatch z)⟩
      exact ⟨_, rfl, rfl, rfl, dd, _, _, rfl, hdd, lk1, by show 2 ≤ sizeLine; decide, fun l hl => q l hl⟩
    · obtain ⟨rfl, dd, v, rfl, hdd, q⟩ := hE
      refine ⟨false, exm_no T (x := "NotMade") (y := "Unknown") (by decide +kernel) (by decide +kernel) (by decide +kernel), (fun z => nomatch z), fun _ => ?_⟩
      refine ⟨false, exm_no T (x := "NotMade") (y := "Unequal") (by decide +kernel) (by decide +kernel) (by decide +kernel), (fun z => nomatch z), fun _ => ?_⟩
      refine ⟨false, exm_no T (x := "NotMade") (y := "NotOneToOne") (by decide +kernel) (by decide +kernel) (by decide +kernel), (fun z => nomatch z), fun _ => ?_⟩
      refine ⟨true, exm_yes T (x := "NotMade") (by decide +kernel), fun _ a ha => ?_, (fun z => nomatch z)⟩
      refine ⟨_, rfl, rfl, _, _, true, rfl, (fun u h => h), T.lane "NotMade" (by decide +kernel), .inr ⟨dd, _, rfl, hdd⟩, ?_⟩
      exact ⟨_, rfl, iteT ⟨_, rfl, rfl, rfl, dd, _, _, rfl, hdd, lk1, by show 2 ≤ sizeLine; decide, fun l hl => q l hl⟩⟩
    · obtain ⟨rfl, dd, v, rfl, hdd, q⟩ := hE
      refine ⟨false, exm_no T (x := "Broken") (y := "Unknown") (by decide +kernel) (by decide +kernel) (by decide +kernel), (fun z => nomatch z), fun _ => ?_⟩
      refine ⟨false, exm_no T (x := "Broken") (y := "Unequal") (by decide +kernel) (by decide +kernel) (by decide +kernel), (fun z => nomatch z), fun _ => ?_⟩
      refine ⟨false, exm_no T (x := "Broken") (y := "NotOneToOne") (by decide +kernel) (by decide +kernel) (by decide +kernel), (fun z => nomatch z), fun _ => ?_⟩
      refine ⟨false, exm_no T (x := "Broken") (y := "NotMade") (by decide +kernel) (by decide +kernel) (by decide +kernel), (fun z => nomatch z), fun _ => ?_⟩
      refine ⟨true, exm_yes T (x := "Broken") (by decide +kernel), fun _ a ha => ?_, (fun z => nomatch z)⟩
      refine ⟨_, rfl, rfl, _, _, true, rfl, (fun u h => h), T.lane "Broken" (by decide +kernel), .inr ⟨dd, _, rfl, hdd⟩, ?_⟩
      exact ⟨_, rfl, iteT ⟨_, rfl, rfl, rfl, dd, _, _, rfl, hdd, lk1, by show 2 ≤ sizeLine; decide, fun l hl => q l hl⟩⟩
    · obtain ⟨rfl, rfl, q⟩ := hE
      refine ⟨false, exm_no T (x := "NothingToUndo") (y := "Unknown") (by decide +kernel) (by decide +kernel) (by decide +kernel), (fun z => nomatch z), fun _ => ?_⟩
      refine ⟨false, exm_no T (x := "NothingToUndo") (y := "Unequal") (by decide +kernel) (by decide +kernel) (by decide +kernel), (fun z => nomatch z), fun _ => ?_⟩
      refine ⟨false, exm_no T (x := "NothingToUndo") (y := "NotOneToOne") (by decide +kernel) (by decide +kernel) (by decide +kernel), (fun z => nomatch z), fun _ => ?_⟩
      refine ⟨false, exm_no T (x := "NothingToUndo") (y := "NotMade") (by decide +kernel) (by decide +kernel) (by decide +kernel), (fun z => nomatch z), fun _ => ?_⟩
      refine ⟨false, exm_no T (x := "NothingToUndo") (y := "Broken") (by decide +kernel) (by decide +kernel) (by decide +kernel), (fun z => nomatch z), fun _ => ?_⟩
      refine ⟨true, exm_yes T (x := "NothingToUndo") (by decide +kernel), fun _ a ha => ?_, (fun z => nomatch z)⟩
      refine ⟨_, rfl, rfl, _, _, true, rfl, (fun u h => h), T.lane "NothingToUndo" (by decide +kernel), .inl rfl, ?_⟩
      exact ⟨_, rfl, iteT ⟨by show 1 ≤ sizeLine; decide, fun l hl => q l hl⟩⟩
    · obtain ⟨rfl, dd, v, rfl, hdd, q⟩ := hE
      refine ⟨false, exm_no T (x := "BadPromise") (y := "Unknown") (by decide +kernel) (by decide +kernel) (by decide +kernel), (fun z => nomatch z), fun _ => ?_⟩
      refine ⟨false, exm_no T (x := "BadPromise") (y := "Unequal") (by decide +kernel) (by decide +kernel) (by decide +kernel), (fun z => nomatch z), fun _ => ?_⟩
      refine ⟨false, exm_no T (x := "BadPromise") (y := "NotOneToOne") (by decide +kernel) (by decide +kernel) (by decide +kernel), (fun z => nomatch z), fun _ => ?_⟩
      refine ⟨false, exm_no T (x := "BadPromise") (y := "NotMade") (by decide +kernel) (by decide +kernel) (by decide +kernel), (fun z => nomatch z), fun _ => ?_⟩
      refine ⟨false, exm_no T (x := "BadPromise") (y := "Broken") (by decide +kernel) (by decide +kernel) (by decide +kernel), (fun z => nomatch z), fun _ => ?_⟩
      refine ⟨false, exm_no T (x := "BadPromise") (y := "NothingToUndo") (by decide +kernel) (by decide +kernel) (by decide +kernel), (fun z => nomatch z), fun _ => ?_⟩
      refine ⟨true, exm_yes T (x := "BadPromise") (by decide +kernel), fun _ a ha => ?_, (fun z => nomatch z)⟩
      refine ⟨_, rfl, rfl, _, _, true, rfl, (fun u h => h), T.lane "BadPromise" (by decide +kernel), .inr ⟨dd, _, rfl, hdd⟩, ?_⟩
      exact ⟨_, rfl, iteT ⟨_, rfl, rfl, rfl, dd, _, _, rfl, hdd, lk1, by show 2 ≤ sizeLine; decide, fun l hl => q l hl⟩⟩
    · obtain ⟨rfl, dd, v, rfl, hdd, q⟩ := hE
      refine ⟨false, exm_no T (x := "BadValue") (y := "Unknown") (by decide +kernel) (by decide +kernel) (by decide +kernel), (fun z => nomatch z), fun _ => ?_⟩
      refine ⟨false, exm_no T (x := "BadValue") (y := "Unequal") (by decide +kernel) (by decide +kernel) (by decide +kernel), (fun z => nomatch z), fun _ => ?_⟩
      refine ⟨false, exm_no T (x := "BadValue") (y := "NotOneToOne") (by decide +kernel) (by decide +kernel) (by decide +kernel), (fun z => nomatch z), fun _ => ?_⟩
      refine ⟨false, exm_no T (x := "BadValue") (y := "NotMade") (by decide +kernel) (by decide +kernel) (by decide +kernel), (fun z => nomatch z), fun _ => ?_⟩
      refine ⟨false, exm_no T (x := "BadValue") (y := "Broken") (by decide +kernel) (by decide +kernel) (by decide +kernel), (fun z => nomatch z), fun _ => ?_⟩
      refine ⟨false, exm_no T (x := "BadValue") (y := "NothingToUndo") (by decide +kernel) (by decide +kernel) (by decide +kernel), (fun z => nomatch z), fun _ => ?_⟩
      refine ⟨false, exm_no T (x := "BadValue") (y := "BadPromise") (by decide +kernel) (by decide +kernel) (by decide +kernel), (fun z => nomatch z), fun _ => ?_⟩
      refine ⟨true, exm_yes T (x := "BadValue") (by decide +kernel), fun _ a ha => ?_, (fun z => nomatch z)⟩
      refine ⟨_, rfl, rfl, _, _, true, rfl, (fun u h => h), T.lane "BadValue" (by decide +kernel), .inr ⟨dd, _, rfl, hdd⟩, ?_⟩
      exact ⟨_, rfl, iteT ⟨_, rfl, rfl, rfl, dd, _, _, rfl, hdd, lk1, by show 2 ≤ sizeLine; decide, fun l hl => q l hl⟩⟩
end
end L2.Lk
/-! L17 -/
set_option Elab.async false
set_option linter.all false
set_option maxRecDepth 100000
set_option maxHeartbeats 2000000
namespace L2.Lk
open PySem PySem.Spec PyProof.Rows
section
variable {P : Program} {w : World} {K : PySem.W.Frag} {mg : Str → Option Value} {base : Heap}
theorem pen_st {H : Hp} {pen c d g st : Addr} {f : Nat} (h : PenAt H pen c f) (hs : H st = some (.dK (stK d g))) : st ≠ pen := fun z => by
  obtain ⟨cs, s, lf, h1, _⟩ := h
  rw [z, h1] at hs
  injection hs with hs
  injection hs with hs
  unfold penK stK at hs
  injection hs with hs _
  injection hs with hs _
  injection hs with hs
  exact absurd hs (by decide +kernel)
theorem pen_ths {H : Hp} {pen c d : Addr} {f : Nat} {kvs : List (Key × V)} {ts : Ths} (h : PenAt H pen c f) (hd : H d = some (.dK kvs)) (hR : RepL K H kvs ts) (hT : TsOk ts) : d ≠ pen := fun z => by
  obtain ⟨cs, s, lf, h1, _⟩ := h
  rw [z, h1] at hd
  injection hd with hd
  injection hd with hd
  subst hd
  cases ts with
  | nil => cases hR
  | cons t ts =>
    cases hR with
    | cons h r =>
      have h1 : (Sum.inr "cells" : Key) = Sum.inr t.1 := h.1
      injection h1 with h1
      have := hT.nm t List.mem_cons_self
      rw [← h1] at this
      exact absurd this (by decide +kernel)
theorem GivL.stay {H H' : Hp} {g : Addr} {gs : List Prm} (h : GivL H g gs) (e : Stay H H') : GivL H' g gs := let ⟨ps, h1, h2⟩ := h; ⟨ps, e.lst h1, Paired.mapP h2 fun _ _ z => e.tup z⟩
theorem LStAt.same {H H' : Hp} {st : Addr} {ts : Ths} {gs : List Prm} (h : LStAt K H st ts gs) (e : Same H H') : LStAt K H' st ts gs :=
  let ⟨d, g, kvs, h1, h2, h3, h4⟩ := h; ⟨d, g, kvs, e _ _ h1, e _ _ h2, h3.same e, h4.same e⟩
theorem LStAt.sx {H H' : Hp} {st pen c : Addr} {f : Nat} {ts : Ths} {gs : List Prm} (h : LStAt K H st ts gs) (hT : TsOk ts) (hp : PenAt H pen c f) (e : Sx [pen] H H') : LStAt K H' st ts gs := by
  obtain ⟨d, g, kvs, h1, h2, h3, h4⟩ := h
  have s := hp.stay e
  exact ⟨d, g, kvs, e _ _ (fun z => pen_st hp h1 (List.mem_singleton.mp z)) h1, e _ _ (fun z => pen_ths hp h2 h3 hT (List.mem_singleton.mp z)) h2, h3.stay s, h4.stay s⟩
theorem LThAt.any {H : Hp} {p : Addr} {t : Thing} (h : LThAt K H p t) : LThAt K H p t := h
abbrev sp_drawn_deed (K : PySem.W.Frag) : L2.Sp := S3 fun a b d H Q _ => ∃ pen c f st ts gs n, a = .ref pen ∧ b = .ref st ∧ d = nV n ∧ n ≤ 4 ∧ PenAt H pen c (f + 400) ∧ LStAt K H st ts gs ∧ TsOk ts ∧ GvOk gs ∧
  ∀ p deed H', DeedAt K H' p deed → DeedOk2 gs deed → Sx [pen] H H' → PenAt H' pen c f → Q (.ref p) H'
theorem ok_law_drawn_deed (T : Tx P K mg) : Has P w K mg base 8 "_law_drawn_deed" ["_law_pen", "_law_state", "_law_bits"] (sp_drawn_deed K) := by
  refine ⟨g_law_drawn_deed T, ok3 (F_law_drawn_deed T) sc_law_drawn_deed fun cdv A outer s H a b d Q E hr h => ?_⟩
  obtain ⟨pen, c, f, st, ts, gs, n, rfl, rfl, rfl, hn, hpen, hst, hT, hG, q⟩ := h
  refine ⟨_, (pss_cons (ps_par (i := 3) (j := 4) rfl sc_law_drawn_deed.nd rfl rfl (by decide) rfl rfl (pa_cons (pe_h (ok_law_draw (K := K) T) (hr.mono (by decide)) passL (pa_cons (pv 0) (pa_cons (pe_nat 10) pa_nil))) (pa_cons (pe_h (ok_law_pick (K := K) T) (hr.mono (by decide)) passL (pa_cons (pv 0) (pa_cons (pe_lst (pa_cons pe_str (pa_cons pe_str (pa_cons pe_str (pa_cons pe_str pa_nil))))) pa_nil))) pa_nil)) (by rfl))
    (pss_cons (ps_if (pt_cmpR op_ltM (pv 3) (pe_nat 4) (nomark _)) (pss_cons (ps_setLc (i := 6) (own := [("_law_thing", 5)]) (g := gName 5) rfl sc_law_drawn_deed.nd rfl rfl (sw_true rfl rfl rfl (by decide +kernel)) (pi_seq (pe_lst (pa_cons (pe_dget2 (hu_of hr) (pe_dget (hu_of hr) (pv 1) pe_str (fun _ _ => rfl)) (pv 4) pe_non ⟨rfl, rfl, rfl, rfl⟩) pa_nil))) (blkOk_by (own := [("_law_thing", 5)]) (N := N_law_drawn_deed) (sc := defScope st_law_drawn_deed) (by decide +kernel)) (fun _ _ _ _ _ => pg_name (i := 5) sc_law_drawn_deed.nd rfl (Or.inl rfl)) (fun _ _ _ _ _ => pts_one (pt_cmpR op_notN (pv 5) pe_non (nomark _))) (fun _ _ _ _ _ => (pv 5)))
    (pss_cons (ps_set (i := 5) sc_law_drawn_deed.nd rfl (.inl rfl) (pe_h (ok_law_drawn_thing (K := K) T) (hr.mono (by decide)) passL (pa_cons (pv 0) (pa_cons (pe_ifExp (pt_cmpR op_gtM (pe_h (ok_law_draw (K := K) T) (hr.mono (by decide)) passL (pa_cons (pv 0) (pa_cons (pe_nat 8) pa_nil))) (pe_nat 0) (nomark _)) (pv 2) (pe_h (ok_law_draw (K := K) T) (hr.mono (by decide)) passL (pa_cons (pv 0) (pa_cons (pe_nat 5) pa_nil)))) pa_nil))))
    (pss_one (ps_ret (pe_tup (pa_cons pe_str (pa_cons (pv 4) (pa_cons (pe_h (ok_law_pick (K := K) T) (hr.mono (by decide)) passL (pa_cons (pv 0) (pa_cons (pe_op op_cat (pv 6) (pe_lst (pa_cons (pv 5) (pa_cons (pv 5) (pa_cons (pv 5) pa_nil))))) pa_nil))) pa_nil)))))))) pss_nil)
    (pss_cons (ps_if (pt_cmpR op_eqM (pv 3) (pe_nat 4) (nomark _)) (pss_one (ps_ret (pe_tup (pa_cons pe_str (pa_cons (pe_h (ok_law_pick (K := K) T) (hr.mono (by decide)) passL (pa_cons (pv 0) (pa_cons (pe_lst (pa_cons (pv 4) (pa_cons (pv 4) (pa_cons pe_str pa_nil)))) pa_nil))) (pa_cons pe_non pa_nil)))))) pss_nil)
    (pss_cons (ps_if (pt_cmpR op_eqM (pv 3) (pe_nat 5) (nomark _)) (pss_cons (ps_set (i := 7) sc_law_drawn_deed.nd rfl (.inl rfl) (pe_ifExp (pt_cmpR op_gtM (pe_h (ok_law_draw (K := K) T) (hr.mono (by decide)) passL (pa_cons (pv 0) (pa_cons (pe_nat 6) pa_nil))) (pe_nat 0) (nomark _)) (pv 2) (pe_h (ok_law_draw (K := K) T) (hr.mono (by decide)) passL (pa_cons (pv 0) (pa_cons (pe_nat 5) pa_nil)))))
    (pss_cons (ps_set (i := 8) sc_law_drawn_deed.nd rfl (.inl rfl) (pe_h (ok_law_undone (K := K) T) (hr.mono (by decide)) passL (pa_cons (pv 0) (pa_cons (pv 7) pa_nil))))
    (pss_cons (ps_if (PW.pt (pw_and (pt_cmpR op_gtM (pv 7) (pe_nat 0) (nomark _)) (pw_and1 (pt_cmpR op_eqM (pe_h (ok_law_draw (K := K) T) (hr.mono (by decide)) passL (pa_cons (pv 0) (pa_cons (pe_nat 5) pa_nil))) (pe_nat 0) (nomark _))))) (pss_one (ps_asg (pe_nat 0) (pg_sub (pv 8) (pe_h (ok_law_draw (K := K) T) (hr.mono (by decide)) passL (pa_cons (pv 0) (pa_cons (pv 7) pa_nil))) set_list))) pss_nil)
    (pss_one (ps_ret (pe_tup (pa_cons pe_str (pa_cons (pv 8) (pa_cons pe_non pa_nil))))))))) pss_nil)
    (pss_cons (ps_if (PW.pt (pw_and (pt_cmpR op_ltM (pv 3) (pe_nat 9) (nomark _)) (pw_and1 (pt_cmpR op_ltM (pe_callB (call_lenM K) (by rfl) (b_len T) bb_len (pa_cons (pe_dget (hu_of hr) (pv 1) pe_str (fun _ _ => rfl)) pa_nil)) (pe_nat 11) (nomark _))))) (pss_one (ps_ret (pe_tup (pa_cons pe_str (pa_cons (pe_h (ok_law_likely_promise (K := K) T) (hr.mono (by decide)) passL (pa_cons (pv 0) (pa_cons (pe_dget (hu_of hr) (pv 1) pe_str (fun _ _ => rfl)) pa_nil))) (pa_cons pe_non pa_nil)))))) pss_nil)
    (pss_one (ps_ret (pe_tup (pa_cons pe_str (pa_cons (pe_h (ok_law_pick (K := K) T) (hr.mono (by decide)) passL (pa_cons (pv 0) (pa_cons (pe_op op_cat (pe_dget (hu_of hr) (pv 1) pe_str (fun _ _ => rfl)) (pe_lst (pa_cons (pe_h (ok_law_drawn_promise (K := K) T) (hr.mono (by decide)) passL (pa_cons (pv 0) pa_nil)) pa_nil))) pa_nil))) (pa_cons pe_non pa_nil))))))))))), ?_⟩
  refine ⟨_, rfl, _, _, rfl, pen, c, f + 399, 10, rfl, rfl, by decide, by decide, hpen.mono (by omega), fun kind H1 hkind e1 hp1 => ?_⟩
  refine ⟨_, rfl, by show 4 ≤ sizeLine; decide, fun l hl => ?_⟩
  have e2 := Same.new (o := .lst [.str "a", .str "b", .str "c", .str "d"]) hl
  refine ⟨_, _, rfl, pen, c, f + 398, l, _, rfl, rfl, SqL.of upd_same, by show 1 ≤ 4; decide, by show 4 ≤ 1000; decide, (hp1.same e2).mono (by omega), fun i v H2 hi e3 hp2 => ⟨_, _, rfl, ?_⟩⟩
  have e02 := (e1.then e2).trans e3
  obtain ⟨x, rfl, hx⟩ : ∃ x : Str, v = .str x ∧ x ∈ abcd := by
    have := List.mem_of_getElem? hi
    simp only [List.mem_cons, List.not_mem_nil, or_false] at this
    rcases this with rfl | rfl | rfl | rfl <;> exact ⟨_, rfl, by decide +kernel⟩
  have hno := abcd_ok hx
  obtain ⟨dt, g, kvs, hst1, hd1, hR, hg⟩ := id hst
  have hst2 := hst.sx hT hpen e02
  have hsn := fun z => pen_st hpen hst1 (List.mem_singleton.mp z)
  have hdn := fun z => pen_ths hpen hd1 hR hT (List.mem_singleton.mp z)
  have gT : ∀ {H'}, Sx [pen] H H' → DGet H' st (.str "things") (some (.ref dt)) := fun e => .inl ⟨_, Sum.inr "things", .inl (e _ _ hsn hst1), rfl, (st_things dt g).symm⟩
  have gG : ∀ {H'}, Sx [pen] H H' → DGet H' st (.str "given") (some (.ref g)) := fun e => .inl ⟨_, Sum.inr "given", .inl (e _ _ hsn hst1), rfl, (st_given dt g).symm⟩
  refine ⟨_, rfl, kind, 4, rfl, rfl, _, rfl, iteD (fun hk => ?_) (fun hk => ?_)⟩
  · refine ⟨_, rfl, st, _, rfl, gT e02, dt, rfl, .inl ⟨_, .inl (e02 _ _ hdn hd1)⟩, _, rfl, _, .inl ⟨kvs, Sum.inr x, .inl (e02 _ _ hdn hd1), rfl, rfl⟩, by show 1 ≤ sizeLine; decide, fun l2 hl2 => ⟨l2, rfl, lc_fm (k := true) (fun v => if v = V.non then none else some v) (SqL.of upd_same) (by show 1 < 1000; decide) (fun i v H3 Nx No hv e3 hN hNo => ?_) (fun ls H3 hDn e3 hD => ?_)⟩⟩
    · refine ⟨rfl, _, rfl, rfl, _, rfl, ?_⟩
      by_cases hvn : v = V.non
      · rw [decide_eq_true hvn]
        exact hNo (if_pos hvn) _ (Same.refl _)
      · rw [decide_eq_false hvn]
        exact ⟨_, rfl, hN _ _ (if_neg hvn) (Same.refl _)⟩
    obtain ⟨same, hDs, hlen, hsame⟩ : ∃ same : List V, H3 ls = some (.lst same) ∧ same.length ≤ 1 ∧ ∀ v ∈ same, ∃ p t, v = .ref p ∧ Thing.Wf t ∧ LThAt K H p t := by
      refine ⟨_, hD, List.length_filterMap_le _ _, fun v hv => ?_⟩
      obtain ⟨u, hu, he⟩ := List.mem_filterMap.mp hv
      rw [List.mem_singleton.mp hu] at he
      rcases hR.get x with ⟨h1, h2⟩ | ⟨p1, th1, h1, h2, h3⟩
      · rw [h2] at he
        cases he
      · rw [h2] at he
        exact ⟨p1, th1, (Option.some.inj he).symm, hT.wf _ (lookup_in h1), h3⟩
    have e4 := (Same.new (o := .lst [(valV kvs (Sum.inr x)).getD V.non]) hl2).trans e3
    have e03 := e02.then e4
    have hp3 := hp2.same e4
    clear hD
    refine ⟨_, rfl, _, rfl, _, _, rfl, pen, c, f + 397, 8, rfl, rfl, by decide, by decide, hp3.mono (by omega), fun r H4 hr4 e5 hp4 => ⟨r, 0, rfl, rfl, _, rfl, iteD (fun _ => ⟨_, rfl, ?_⟩) (fun _ => ⟨_, rfl, _, _, rfl, pen, c, f + 396, 5, rfl, rfl, by decide, by decide, hp4.mono (by omega), fun m H4b hm e5b hp4b => ?_⟩)⟩⟩
    · have ls4 := (hp3.stay e5).lst hDs
      have e04 := e03.trans e5
      refine ⟨_, _, rfl, pen, c, f + 20, n, rfl, rfl, hn, hp4.mono (by omega), fun p t H5 hw e5 hth hp5 => ?_⟩
      have ls5 := ((hp4).stay e5).lst ls4
      have e05 := e04.trans e5
      refine ⟨_, rfl, _, rfl, _, rfl, _, rfl, _, rfl, _, rfl, by show 3 ≤ sizeLine; decide, fun l3 hl3 => ?_⟩
      have e6 := Same.new (o := .lst [.ref p, .ref p, .ref p]) hl3
      refine ⟨ls, l3, _, _, rfl, rfl, e6 _ _ ls5, upd_same, by simp only [List.length_cons, List.length_nil]; exact Nat.le_of_lt (small1000 (by omega)), fun l4 hl4 => ?_⟩
      have e7 := e6.new' (o := .lst (same ++ [.ref p, .ref p, .ref p])) hl4
      refine ⟨_, _, rfl, pen, c, f, l4, _, rfl, rfl, SqL.of upd_same, by rw [List.length_append]; simp, by rw [List.length_append]; simp only [List.length_cons, List.length_nil]; omega, (hp5.same e7).mono (by omega), fun j v6 H6 hj e8 hp6 => ⟨by show 3 ≤ sizeLine; decide, fun r hr => ?_⟩⟩
      have e9 := Same.new (o := .tup [.str "put", .str x, v6]) hr
      have st6 := (hp5.same e7).stay e8
      obtain ⟨p9, t9, rfl, hw9, h9⟩ : ∃ p9 t9, v6 = .ref p9 ∧ Thing.Wf t9 ∧ LThAt K H6 p9 t9 := by
        rcases List.mem_append.mp (List.mem_of_getElem? hj) with hm | hm
        · obtain ⟨p9, t9, z1, z2, z3⟩ := hsame v6 hm
          exact ⟨p9, t9, z1, z2, z3.stay (hpen.stay ((e05.then e7).trans e8))⟩
        · have : v6 = .ref p := by simpa using hm
          exact ⟨p, t, this, hw, (hth.same e7).stay st6⟩
      exact q r (.put x t9) _ ⟨p9, upd_same, h9.same e9⟩ ⟨hw9, hx⟩ (((e05.then e7).trans e8).then e9) (hp6.same e9)
    · have ls4 := (hp4.stay e5b).lst ((hp3.stay e5).lst hDs)
      have e04 := (e03.trans e5).trans e5b
      refine ⟨_, _, rfl, pen, c, f + 20, m, rfl, rfl, (by omega), hp4b.mono (by omega), fun p t H5 hw e5 hth hp5 => ?_⟩
      have ls5 := ((hp4b).stay e5).lst ls4
      have e05 := e04.trans e5
      refine ⟨_, rfl, _, rfl, _, rfl, _, rfl, _, rfl, _, rfl, by show 3 ≤ sizeLine; decide, fun l3 hl3 => ?_⟩
      have e6 := Same.new (o := .lst [.ref p, .ref p, .ref p]) hl3
      refine ⟨ls, l3, _, _, rfl, rfl, e6 _ _ ls5, upd_same, by simp only [List.length_cons, List.length_nil]; exact Nat.le_of_lt (small1000 (by omega)), fun l4 hl4 => ?_⟩
      have e7 := e6.new' (o := .lst (same ++ [.ref p, .ref p, .ref p])) hl4
      refine ⟨_, _, rfl, pen, c, f, l4, _, rfl, rfl, SqL.of upd_same, by rw [List.length_append]; simp, by rw [List.length_append]; simp only [List.length_cons, List.length_nil]; omega, (hp5.same e7).mono (by omega), fun j v6 H6 hj e8 hp6 => ⟨by show 3 ≤ sizeLine; decide, fun r hr => ?_⟩⟩
      have e9 := Same.new (o := .tup [.str "put", .str x, v6]) hr
      have st6 := (hp5.same e7).stay e8
      obtain ⟨p9, t9, rfl, hw9, h9⟩ : ∃ p9 t9, v6 = .ref p9 ∧ Thing.Wf t9 ∧ LThAt K H6 p9 t9 := by
        rcases List.mem_append.mp (List.mem_of_getElem? hj) with hm | hm
        · obtain ⟨p9, t9, z1, z2, z3⟩ := hsame v6 hm
          exact ⟨p9, t9, z1, z2, z3.stay (hpen.stay ((e05.then e7).trans e8))⟩
        · have : v6 = .ref p := by simpa using hm
          exact ⟨p, t, this, hw, (hth.same e7).stay st6⟩
      exact q r (.put x t9) _ ⟨p9, upd_same, h9.same e9⟩ ⟨hw9, hx⟩ (((e05.then e7).trans e8).then e9) (hp6.same e9)
  refine ⟨_, rfl, kind, 4, rfl, rfl, _, rfl, iteD (fun hk4 => ?_) (fun hk4 => ?_)⟩
  · refine ⟨_, rfl, _, rfl, _, rfl, by show 3 ≤ sizeLine; decide, fun l2 hl2 => ?_⟩
    have e4 := Same.new (o := .lst [.str x, .str x, .str "zz"]) hl2
    refine ⟨_, _, rfl, pen, c, f, l2, _, rfl, rfl, SqL.of upd_same, by show 1 ≤ 3; decide, by show 3 ≤ 1000; decide, (hp2.same e4).mono (by omega), fun j v H3 hj e5 hp3 => ⟨by show 3 ≤ sizeLine; decide, fun r hr => ?_⟩⟩
    have e6 := Same.new (o := .tup [.str "drop", v, .non]) hr
    obtain ⟨y, rfl, hy⟩ : ∃ y : Str, v = .str y ∧ NmOk y := by
      have := List.mem_of_getElem? hj
      simp only [List.mem_cons, List.not_mem_nil, or_false] at this
      rcases this with rfl | rfl | rfl
      · exact ⟨_, rfl, hno⟩
      · exact ⟨_, rfl, hno⟩
      · exact ⟨_, rfl, by decide +kernel, by decide +kernel, by decide +kernel⟩
    exact q r (.drop y) _ upd_same hy (((e02.then e4).trans e5).then e6) (hp3.same e6)
  refine ⟨_, rfl, kind, 5, rfl, rfl, _, rfl, iteD (fun hk5 => ?_) (fun hk5 => ?_)⟩
  · refine ⟨_, rfl, _, _, rfl, pen, c, f + 397, 6, rfl, rfl, by decide, by decide, hp2.mono (by omega), fun r H4 hr4 e5 hp4 => ⟨r, 0, rfl, rfl, _, rfl, iteD (fun _ => ⟨_, rfl, ?_⟩) (fun _ => ⟨_, rfl, _, _, rfl, pen, c, f + 396, 5, rfl, rfl, by decide, by decide, hp4.mono (by omega), fun m H4b hm e5b hp4b => ?_⟩)⟩⟩
    · have e04 := e02.trans e5
      refine ⟨_, rfl, _, rfl, _, _, rfl, pen, c, f + 20, n, rfl, rfl, hn, hp4.mono (by omega), fun rc cs H5 hcl hlt hrk e6 hrn hrc hp5 => ?_⟩
      have e05 := e04.trans e6
      have fin : ∀ (cs' : List Nat) (H6 : Hp), cs'.length = n → Lt n cs' → Sx [pen] H H6 → PenAt H6 pen c f → H6 rc = some (.lst (wl cs')) → ∀ r', H6 r' = none → Q (.ref r') (upd H6 r' (.tup [.str "rename", .ref rc, .non])) := fun cs' H6 h1 h2 h3 h4 h5 r' hr' =>
        q r' (.rename cs') _ ⟨rc, upd_same, (Same.new hr') _ _ h5⟩ ⟨by rw [h1]; exact hn, by rw [h1]; exact h2⟩ (h3.new hr') (h4.same (Same.new hr'))
      have hrcH : H rc = none := hp4.free e04 hrn
      have nset : ∀ j : Nat, j < n → Lt n (cs.set j 0) := fun j hj w hw => by
        rcases List.mem_or_eq_of_mem_set hw with hw | hw
        · exact hlt w hw
        · rw [hw]; exact Nat.two_pow_pos _
      refine ⟨_, rfl, n, 0, rfl, rfl, _, rfl, iteD (fun hm0 => ?_) (fun hm0 => ?_)⟩
      · refine ⟨_, rfl, _, _, rfl, pen, c, f + 10, 5, rfl, rfl, by decide, by decide, hp5.mono (by omega), fun r5 H6 hr5 e7 hp6 => ⟨r5, 0, rfl, rfl, _, rfl, iteD (fun _ => ?_) (fun _ => ?_)⟩⟩
        · refine ⟨_, rfl, _, rfl, _, rfl, _, _, rfl, pen, c, f, n, rfl, rfl, by omega, by omega, hp6.mono (by omega), fun j H7 hj e8 hp7 => ?_⟩
          have hrc7 := (hp6.stay e8).lst ((hp5.stay e7).lst hrc)
          have ix : ixN (wl cs).length ((j : Nat) : Int) = some j := by
            unfold ixN
            rw [wl_len, if_pos (by omega), if_pos (by omega), Int.toNat_natCast]
          refine ⟨rc, _, _, j, rfl, rfl, hrc7, ix, _, rfl, by show 3 ≤ sizeLine; decide, fun r' hr' => ?_⟩
          exact fin (cs.set j 0) _ (by rw [List.length_set]; exact hcl) (nset j hj) (((e05.trans e7).trans e8).but hrcH) (hpen.keep hrcH hp7) (by rw [upd_same]; unfold wl; rw [List.map_set]) r' hr'
        · exact ⟨_, rfl, by show 3 ≤ sizeLine; decide, fun r' hr' => fin cs _ hcl hlt (e05.trans e7) (hp6.mono (by omega)) ((hp5.stay e7).lst hrc) r' hr'⟩
      · exact ⟨_, rfl, by show 3 ≤ sizeLine; decide, fun r' hr' => fin cs _ hcl hlt e05 (hp5.mono (by omega)) hrc r' hr'⟩
    · have hm4 : m ≤ 4 := by omega
      have e04 := (e02.trans e5).trans e5b
      refine ⟨_, rfl, _, rfl, _, _, rfl, pen, c, f + 20, m, rfl, rfl, hm4, hp4b.mono (by omega), fun rc cs H5 hcl hlt hrk e6 hrn hrc hp5 => ?_⟩
      have e05 := e04.trans e6
      have fin : ∀ (cs' : List Nat) (H6 : Hp), cs'.length = m → Lt m cs' → Sx [pen] H H6 → PenAt H6 pen c f → H6 rc = some (.lst (wl cs')) → ∀ r', H6 r' = none → Q (.ref r') (upd H6 r' (.tup [.str "rename", .ref rc, .non])) := fun cs' H6 h1 h2 h3 h4 h5 r' hr' =>
        q r' (.rename cs') _ ⟨rc, upd_same, (Same.new hr') _ _ h5⟩ ⟨by rw [h1]; exact hm4, by rw [h1]; exact h2⟩ (h3.new hr') (h4.same (Same.new hr'))
      have hrcH : H rc = none := hp4b.free e04 hrn
      have nset : ∀ j : Nat, j < m → Lt m (cs.set j 0) := fun j hj w hw => by
        rcases List.mem_or_eq_of_mem_set hw with hw | hw
        · exact hlt w hw
        · rw [hw]; exact Nat.two_pow_pos _
      refine ⟨_, rfl, m, 0, rfl, rfl, _, rfl, iteD (fun hm0 => ?_) (fun hm0 => ?_)⟩
      · refine ⟨_, rfl, _, _, rfl, pen, c, f + 10, 5, rfl, rfl, by decide, by decide, hp5.mono (by omega), fun r5 H6 hr5 e7 hp6 => ⟨r5, 0, rfl, rfl, _, rfl, iteD (fun _ => ?_) (fun _ => ?_)⟩⟩
        · refine ⟨_, rfl, _, rfl, _, rfl, _, _, rfl, pen, c, f, m, rfl, rfl, by omega, by omega, hp6.mono (by omega), fun j H7 hj e8 hp7 => ?_⟩
          have hrc7 := (hp6.stay e8).lst ((hp5.stay e7).lst hrc)
          have ix : ixN (wl cs).length ((j : Nat) : Int) = some j := by
            unfold ixN
            rw [wl_len, if_pos (by omega), if_pos (by omega), Int.toNat_natCast]
          refine ⟨rc, _, _, j, rfl, rfl, hrc7, ix, _, rfl, by show 3 ≤ sizeLine; decide, fun r' hr' => ?_⟩
          exact fin (cs.set j 0) _ (by rw [List.length_set]; exact hcl) (nset j hj) (((e05.trans e7).trans e8).but hrcH) (hpen.keep hrcH hp7) (by rw [upd_same]; unfold wl; rw [List.map_set]) r' hr'
        · exact ⟨_, rfl, by show 3 ≤ sizeLine; decide, fun r' hr' => fin cs _ hcl hlt (e05.trans e7) (hp6.mono (by omega)) ((hp5.stay e7).lst hrc) r' hr'⟩
      · exact ⟨_, rfl, by show 3 ≤ sizeLine; decide, fun r' hr' => fin cs _ hcl hlt e05 (hp5.mono (by omega)) hrc r' hr'⟩
  obtain ⟨ps, hgl, hps⟩ := id hg
  have hgl2 := (hpen.stay e02).lst hgl
  have hlen : (ps.map V.ref).length = gs.length := by rw [List.length_map, Paired.length hps]
  have keepB : gs.length < 11 → ∀ (r : Addr) (H' : Hp) (p : Addr) (pr : Prm), PrmAt H' p pr → Sx [pen] H H' → PenAt H' pen c f → H' r = none → Q (.ref r) (upd H' r (.tup [.str "keep", .ref p, .non])) := fun hz r H' p pr hpr e hp hr =>
    q r (.keep pr) _ ⟨p, upd_same, hpr.same (Same.new hr)⟩ ⟨hpr.2, hz⟩ (e.new hr) (hp.same (Same.new hr))
  have relB : ∀ (r : Addr) (H' : Hp) (p : Addr) (pr : Prm), PrmAt H' p pr → Sx [pen] H H' → PenAt H' pen c f → H' r = none → Q (.ref r) (upd H' r (.tup [.str "release", .ref p, .non])) := fun r H' p pr hpr e hp hr =>
    q r (.release pr) _ ⟨p, upd_same, hpr.same (Same.new hr)⟩ hpr.2 (e.new hr) (hp.same (Same.new hr))
  refine ⟨_, rfl, kind, 9, rfl, rfl, _, rfl, iteD (fun h9 => ⟨_, rfl, st, _, rfl, gG e02, g, true, _, rfl, SqL.of hgl2, _, 11, rfl, rfl, _, rfl, iteD (fun hz => ?_) (fun hz => ?_)⟩) (fun h9 => ?_)⟩
  · rw [hlen] at hz
    refine ⟨_, rfl, _, rfl, st, _, rfl, gT e02, _, _, rfl, pen, c, f, dt, kvs, ts, rfl, rfl, (fun z => hdn (List.mem_singleton.mpr z)), hp2.mono (by omega), e02 _ _ hdn hd1, hR.stay (hpen.stay e02), hT.ok.wf, fun p pr H3 hpr e3 hp3 => ⟨by show 3 ≤ sizeLine; decide, fun r hr => keepB hz r _ p pr hpr (e02.trans e3) hp3 hr⟩⟩
  · refine ⟨_, rfl, _, rfl, st, _, rfl, gG e02, _, rfl, _, rfl, pen, c, f + 10, rfl, hp2.mono (by omega), fun p pr H3 hpr e3 hp3 => ⟨by show 1 ≤ sizeLine; decide, fun l3 hl3 => ?_⟩⟩
    have e4 := Same.new (o := .lst [.ref p]) hl3
    have hgl3 := (hp2.stay e3).lst hgl2
    refine ⟨g, l3, _, _, rfl, rfl, e4 _ _ hgl3, upd_same, by rw [hlen]; simp only [List.length_cons, List.length_nil]; exact Nat.le_of_lt (small1000 (by have := hG.len; omega)), fun l4 hl4 => ?_⟩
    have e5 := e4.new' (o := .lst (ps.map V.ref ++ [.ref p])) hl4
    refine ⟨_, _, rfl, pen, c, f, l4, _, rfl, rfl, SqL.of upd_same, by rw [List.length_append]; simp, by rw [List.length_append, hlen]; simp only [List.length_cons, List.length_nil]; have := hG.len; omega, (hp3.same e5).mono (by omega), fun j v H6 hj e6 hp6 => ⟨by show 3 ≤ sizeLine; decide, fun r hr => ?_⟩⟩
    have e06 := ((e02.trans e3).then e5).trans e6
    rcases List.mem_append.mp (List.mem_of_getElem? hj) with hm | hm
    · obtain ⟨p9, hp9, rfl⟩ := List.mem_map.mp hm
      obtain ⟨k, hk9⟩ := List.mem_iff_getElem?.mp hp9
      obtain ⟨pr9, h1, h2⟩ := paired_at hps hk9
      exact relB r _ p9 pr9 ⟨(hpen.stay e06).tup h2, hG.ok pr9 (List.mem_of_getElem? h1)⟩ e06 hp6 hr
    · obtain rfl : v = .ref p := by simpa using hm
      have hpr5 := hpr.same e5
      exact relB r _ p pr ⟨((hp3.same e5).stay e6).tup hpr5.1, hpr.2⟩ e06 hp6 hr
  · refine ⟨_, rfl, _, rfl, st, _, rfl, gG e02, _, rfl, _, rfl, pen, c, f + 10, rfl, hp2.mono (by omega), fun p pr H3 hpr e3 hp3 => ⟨by show 1 ≤ sizeLine; decide, fun l3 hl3 => ?_⟩⟩
    have e4 := Same.new (o := .lst [.ref p]) hl3
    have hgl3 := (hp2.stay e3).lst hgl2
    refine ⟨g, l3, _, _, rfl, rfl, e4 _ _ hgl3, upd_same, by rw [hlen]; simp only [List.length_cons, List.length_nil]; exact Nat.le_of_lt (small1000 (by have := hG.len; omega)), fun l4 hl4 => ?_⟩
    have e5 := e4.new' (o := .lst (ps.map V.ref ++ [.ref p])) hl4
    refine ⟨_, _, rfl, pen, c, f, l4, _, rfl, rfl, SqL.of upd_same, by rw [List.length_append]; simp, by rw [List.length_append, hlen]; simp only [List.length_cons, List.length_nil]; have := hG.len; omega, (hp3.same e5).mono (by omega), fun j v H6 hj e6 hp6 => ⟨by show 3 ≤ sizeLine; decide, fun r hr => ?_⟩⟩
    have e06 := ((e02.trans e3).then e5).trans e6
    rcases List.mem_append.mp (List.mem_of_getElem? hj) with hm | hm
    · obtain ⟨p9, hp9, rfl⟩ := List.mem_map.mp hm
      obtain ⟨k, hk9⟩ := List.mem_iff_getElem?.mp hp9
      obtain ⟨pr9, h1, h2⟩ := paired_at hps hk9
      exact relB r _ p9 pr9 ⟨(hpen.stay e06).tup h2, hG.ok pr9 (List.mem_of_getElem? h1)⟩ e06 hp6 hr
    · obtain rfl : v = .ref p := by simpa using hm
      have hpr5 := hpr.same e5
      exact relB r _ p pr ⟨((hp3.same e5).stay e6).tup hpr5.1, hpr.2⟩ e06 hp6 hr
end
end L2.Lk
/-! L18 -/
set_option Elab.async false
set_option linter.all false
set_option maxRecDepth 100000
set_option maxHeartbeats 2000000
namespace L2.Lk
open PySem PySem.Spec PyProof.Rows
section
variable {P : Program} {w : World} {K : PySem.W.Frag} {mg : Str → Option Value} {base : Heap}
theorem eqv_strs : ∀ ns : List Str, PyData.eqvAll (fd (ns.map V.str)) (fd (ns.map V.str)) = true
  | [] => by simp [fd, PyData.eqvAll]
  | n :: ns => by
    have := eqv_strs ns
    unfold fd at this ⊢
    simp only [List.map_cons, dF, PyData.eqvAll, PyData.eqv, beq_self_eq_true, Bool.true_and]
    exact this
theorem eqv_self_fd (ns : List Str) : PyData.eqv (.tuple (fd (ns.map V.str))) (.tuple (fd (ns.map V.str))) = true := by rw [PyData.eqv, eqv_strs]
theorem eqv_pds : ∀ gs : List Prm, PyData.eqvAll (gs.map pd) (gs.map pd) = true
  | [] => by simp [PyData.eqvAll]
  | g :: gs => by
    rw [List.map_cons, PyData.eqvAll, eqv_pds gs, pd_eqv, decide_eq_true rfl]; rfl
theorem eqv_self_pd (gs : List Prm) : PyData.eqv (.tuple (gs.map pd)) (.tuple (gs.map pd)) = true := by rw [PyData.eqv, eqv_pds]
abbrev sp_stands (K : PySem.W.Frag) : L2.Sp := S3 fun a b d H Q _ => ∃ x S st, a = .ref x ∧ b = .ref st ∧ d = nV S.past.length ∧ DeskAt K H x S ∧ LStAt K H st S.things S.given ∧ TsOk S.things ∧ GvOk S.given ∧ ∀ H', Same H H' → Q (.bl true) H'
theorem ok_law_stands (T : Tx P K mg) : Has P w K mg base 14 "_law_stands" ["_law_desk", "_law_state", "_law_many"] (sp_stands K) := by
  refine ⟨g_law_stands T, ok3 (F_law_stands T) sc_law_stands fun cdv A outer s H a b d Q E hr h => ?_⟩
  obtain ⟨x, S, st, rfl, rfl, rfl, hS, hst, hT, hG, q⟩ := h
  refine ⟨_, (pss_cons (ps_asg (pe_tup (pa_cons (pe_dget (hu_of hr) (pv 1) pe_str (fun _ _ => rfl)) (pa_cons (pe_dget (hu_of hr) (pv 1) pe_str (fun _ _ => rfl)) pa_nil))) (pg_tupK (n := 2) K rfl (pgs_cons (pg_name (i := 3) sc_law_stands.nd rfl (.inr rfl)) (pgs_cons (pg_name (i := 4) sc_law_stands.nd rfl (.inl rfl)) pgs_nil))))
    (pss_cons (ps_if (PW.pt (pw_or (pt_cmpR (op_neDK K hr.units) (pe_hm0 (ok_Desk_names (K := K) T) (own_Desk T) (hr.mono (by decide)) passL (pv 0)) (pe_callTy (call_tupleM K) (by rfl) (b_tuple T) bb_tuple (pa_cons (pe_callB cr_sortedS (by rfl) (b_sorted T) bb_sorted (pa_cons (pe_lock (pe_lc (own := [("_law_name", 5)]) (g := gName 5) rfl sc_law_stands.nd (pi_keys (pv 3)) (blkOk_by (own := [("_law_name", 5)]) (N := N_law_stands) (sc := defScope st_law_stands) (by decide +kernel)) (fun _ _ _ _ _ => pg_name (i := 5) sc_law_stands.nd rfl (Or.inl rfl)) (fun _ _ _ _ _ => pts_nil) (fun _ _ _ _ _ => (pe_callTy SkE.call_str_str (by rfl) (b_str T) bb_str (pa_cons (pv 5) pa_nil))))) pa_nil)) pa_nil)) (nomark _)) (pw_or1 (pt_cmpR op_neM (pe_callB (len_own (ok_Desk_len T).2 (m_Desk_len T) (hr.mono (by decide)) passL) (by rfl) (b_len T) bb_len (pa_cons (pv 0) pa_nil)) (pe_callB call_lenD (by rfl) (b_len T) bb_len (pa_cons (pv 3) pa_nil)) (nomark _))))) (pss_one (ps_ret pe_bl)) pss_nil)
    (pss_cons (ps_if (PW.pt (pw_or (pt_cmpR (op_neDK K hr.units) (pe_hm0 (ok_Desk_promises (K := K) T) (own_Desk T) (hr.mono (by decide)) passL (pv 0)) (pe_callTy (call_tupleM K) (by rfl) (b_tuple T) bb_tuple (pa_cons (pv 4) pa_nil)) (nomark _)) (pw_or1 (pt_cmpR op_neM (pe_hm0 (ok_Desk_undoable (K := K) T) (own_Desk T) (hr.mono (by decide)) passL (pv 0)) (pv 2) (nomark _))))) (pss_one (ps_ret pe_bl)) pss_nil)
    (pss_cons (ps_for (passes_of rfl) rfl (pi_seq (pe_lst (pa_cons pe_str (pa_cons pe_str (pa_cons pe_str (pa_cons pe_str pa_nil)))))) (pg_name (i := 5) sc_law_stands.nd rfl (.inl rfl)) (pss_one (ps_if (PW.pt (pw_or (pt_cmpR op_ne (pe_cmpR (in_own (ok_Desk_contains T).2 (m_Desk_contains T) (hr.mono (by decide)) passL) (pv 5) (pv 0) (by rfl)) (pe_cmp (pc_din (hu_of hr) (pv 5) (pv 3)) (by rfl)) (nomark _)) (pw_or1 (PW.pt (pw_and (pt_cmp (pc_din (hu_of hr) (pv 5) (pv 3)) (by rfl)) (pw_and1 (pt_not (pt_val (pe_h (ok_law_is_thing (K := K) T) (hr.mono (by decide)) passL (pa_cons (ix_own (ok_Desk_getitem T).2 (m_Desk_getitem T) T.gi (hr.mono (by decide)) passL (pv 0) (pv 5)) (pa_cons (pe_dget (hu_of hr) (pv 3) (pv 5) (fun _ _ => rfl)) pa_nil))))))))))) (pss_one (ps_ret pe_bl)) pss_nil)))
    (pss_one (ps_ret (pe_callB (cr_all rfl) (by rfl) (b_all T) bb_all (pa_cons (pe_lc (own := [("_law_told", 6)]) (g := gName 6) rfl sc_law_stands.nd (pi_seq (pv 4)) (blkOk_by (own := [("_law_told", 6)]) (N := N_law_stands) (sc := defScope st_law_stands) (by decide +kernel)) (fun _ _ _ _ _ => pg_name (i := 6) sc_law_stands.nd rfl (Or.inl rfl)) (fun _ _ _ _ _ => pts_nil) (fun _ _ _ _ _ => (pe_h (ok_law_truth (K := K) T) (hr.mono (by decide)) passL (pa_cons (pe_hmK K (ok_Desk_holds (K := K) T) (own_Desk T) (hr.mono (by decide)) passL (pv 0) (pa_cons (pv 6) pa_nil)) (pa_cons (pe_h (ok_law_is_kept (K := K) T) (hr.mono (by decide)) passL (pa_cons (pv 6) (pa_cons (pv 3) pa_nil))) pa_nil))))) pa_nil)))))))), ?_⟩
  obtain ⟨dt, g, kvs, hst1, hd, hR, hg⟩ := id hst
  obtain ⟨dx, d0, g0, rr, hx, _, _, _⟩ := id hS
  have gT : DGet H st (.str "things") (some (.ref dt)) := .inl ⟨_, Sum.inr "things", .inl hst1, rfl, (st_things dt g).symm⟩
  have gG : DGet H st (.str "given") (some (.ref g)) := .inl ⟨_, Sum.inr "given", .inl hst1, rfl, (st_given dt g).symm⟩
  refine ⟨_, rfl, st, _, rfl, gT, _, rfl, st, _, rfl, gG, by show 2 ≤ sizeLine; decide, fun t ht => ⟨t, _, rfl, SqT.of upd_same, rfl, _, _, rfl, _, _, rfl, rfl, ?_⟩⟩
  have e1 := Same.new (o := .tup [.ref dt, .ref g]) ht
  have hlen : kvs.length ≤ 50 := by rw [Paired.length hR]; exact hT.ok.len
  have hks : kvs.map (fun kv => kV kv.1) = (S.things.map (·.1)).map V.str := RepL.keys hR
  refine ⟨_, rfl, x, dx, _, rfl, e1 _ _ hx, lk_Desk_no _ _ _ _ (by decide +kernel), _, rfl, x, S, rfl, hS.same e1, hT.ok.len, fun p1 H2 ns e2 hp1n hp1 hperm hsort => ?_⟩
  have e02 := e1.trans e2
  have hd2 := e02 _ _ hd
  refine ⟨dt, _, hd2, trivial, fun od => ⟨_, rfl, dt, od, rfl, .inl ⟨kvs, upd_same, fun D hD => ?_⟩⟩⟩
  refine lc_it (walk_keys (d := dt) (o := od) (kvs := kvs)) (Pv := fun i H' => Same (upd H2 dt (.frz od (.dK kvs))) H' ∧ H' D = some (.lst ((kvs.take i).map fun kv => kV kv.1))) ⟨Same.new hD, upd_same⟩ (fun i H' _ p => p.1 _ _ upd_same) (fun i v H1 H2 hi p y => ?_) (fun H' p => ?_)
  · obtain ⟨e, hl⟩ := p
    obtain ⟨rfl, k, v2, hk, rfl⟩ := y
    have hk2 : (kvs.map (fun kv => kV kv.1))[i]? = some (kV k) := by rw [List.getElem?_map, hk]; rfl
    rw [hks, List.getElem?_map] at hk2
    cases hn : (S.things.map (·.1))[i]? with
    | none => rw [hn] at hk2; cases hk2
    | some nm =>
      rw [hn] at hk2
      have hk3 : V.str nm = kV k := Option.some.inj hk2
      rw [← hk3]
      refine ⟨rfl, _, rfl, nm, rfl, _, hl, ?_, Same.but hD e (Same.refl _), ?_⟩
      · rw [List.length_map]
        exact Nat.lt_of_le_of_lt (List.length_take_le' _ _) (small1000 (by omega))
      · rw [upd_same, take_map hk, hk3]
  obtain ⟨e, hl⟩ := p
  refine ⟨e _ _ upd_same, ?_⟩
  have e3 := unlock_same hd2 e
  have hDd : D ≠ dt := fun z => by rw [z, upd_same] at hD; cases hD
  rw [List.take_length, hks] at hl
  have e03 := e02.trans e3
  have hlen2 : (S.things.map (·.1)).length ≤ 50 := by rw [List.length_map]; exact hT.ok.len
  refine ⟨D, S.things.map (·.1), rfl, SqL.of (by rw [upd_ne hDd]; exact hl), Nat.lt_of_le_of_lt hlen2 (by decide), fun ns2 pn hperm2 hsort2 hpn => ?_⟩
  obtain rfl : ns2 = ns := sortedS_unique (hperm2.trans hperm.symm) hsort2 hsort
  have e4 := Same.new (o := .lst (ns2.map V.str)) hpn
  have hflat : (ns2.map V.str).all flatOk = true := List.all_eq_true.mpr fun v hv => by
    obtain ⟨nm, hnm, rfl⟩ := List.mem_map.mp hv
    obtain ⟨t, ht, rfl⟩ := List.mem_map.mp (hperm.mem_iff.mp hnm)
    exact (abcd_ok (hT.nm t ht)).2.1
  refine ⟨pn, true, _, rfl, SqL.of upd_same, fun l5 H5 e5 hl5 => ⟨_, _, .tup (SqT.of ((e3.trans (e4.trans e5)) _ _ hp1)) (dp_fd hflat), .tup hl5 (dp_fd hflat), shaped_fd hflat, shaped_fd hflat, ?_⟩⟩
  rw [eqv_self_fd]
  have e05 := e03.trans (e4.trans e5)
  refine ⟨_, rfl, iteF ?_⟩
  refine ⟨_, rfl, x, dx, _, rfl, e05 _ _ hx, _, rfl, x, S, rfl, hS.same e05, fun H6 e6 => ⟨_, rfl, by have := hT.len; omega, ?_⟩⟩
  have e06 := e05.trans e6
  refine ⟨_, rfl, dt, kvs, rfl, e06 _ _ hd, _, _, rfl, rfl, _, rfl, ?_⟩
  refine iteN (fun z => absurd (Paired.length hR).symm z) (fun _ => ?_)
  obtain ⟨ps, hgl, hps⟩ := id hg
  refine ⟨_, rfl, x, dx, _, rfl, e06 _ _ hx, lk_Desk_no _ _ _ _ (by decide +kernel), _, rfl, x, S, rfl, hS.same e06, fun g1 H7 e7 hg7 => ?_⟩
  have e07 := e06.trans e7
  refine ⟨_, rfl, g, true, _, rfl, SqL.of (e07 _ _ hgl), fun l8 H8 e8 hl8 => ?_⟩
  have e08 := e07.trans e8
  refine ⟨_, _, (hg7.same e8).dp hG.giv, .tup hl8 (giv_dps (Paired.mapP hps fun _ _ z => e08 _ _ z) hG.ok), shaped_giv hG.giv, shaped_giv hG.giv, ?_⟩
  rw [eqv_self_pd]
  refine ⟨_, rfl, iteF ?_⟩
  refine ⟨_, rfl, x, dx, _, rfl, e08 _ _ hx, lk_Desk_no _ _ _ _ (by decide +kernel), _, rfl, x, S, rfl, hS.same e08, fun H9 e9 => ?_⟩
  have e09 := e08.trans e9
  refine ⟨_, rfl, _, _, rfl, rfl, _, rfl, iteN (fun z => absurd rfl z) (fun _ => ?_)⟩
  refine ⟨by show 4 ≤ sizeLine; decide, fun lA hlA => ⟨lA, rfl, ?_⟩⟩
  have eA := e09.new' (o := .lst [.str "a", .str "b", .str "c", .str "d"]) hlA
  have hlA2 : upd H9 lA (.lst [.str "a", .str "b", .str "c", .str "d"]) lA = some (.lst [.str "a", .str "b", .str "c", .str "d"]) := upd_same
  generalize upd H9 lA (.lst [.str "a", .str "b", .str "c", .str "d"]) = HA at eA hlA2
  refine for_sq (k := true) (xs := [.str "a", .str "b", .str "c", .str "d"]) (Pv := fun i σ H' => Same HA H' ∧ ∃ y, σ = [some (.ref x), some (.ref st), some (nV S.past.length), some (.ref dt), some (.ref g), y, none]) ⟨Same.refl _, none, rfl⟩ (fun i σ H' h => SqL.of (h.1 _ _ hlA2)) (fun i v σ HB hv h => ?_) (fun σ HB h => ?_)
  · obtain ⟨eB, y, rfl⟩ := h
    have e0B := eA.trans eB
    obtain ⟨nm, rfl, hnm⟩ : ∃ nm : Str, v = .str nm ∧ nm ∈ abcd := by
      have := List.mem_of_getElem? hv
      simp only [List.mem_cons, List.not_mem_nil, or_false] at this
      rcases this with rfl | rfl | rfl | rfl <;> exact ⟨_, rfl, by decide +kernel⟩
    have hno := abcd_ok hnm
    have harg : ∀ {H'}, ArgV K H' (.str nm) := .inl ⟨rfl, fun y hy => by injection hy with hy; rw [← hy]; exact hno.2.2⟩
    have hd' : ∀ {H'}, Same HB H' → DGet H' dt (.str nm) (valV kvs (Sum.inr nm)) := fun e => .inl ⟨kvs, Sum.inr nm, .inl ((e0B.trans e) _ _ hd), rfl, rfl⟩
    refine ⟨_, rfl, _, rfl, x, dx, _, rfl, e0B _ _ hx, _, _, rfl, x, S, rfl, hS.same e0B, harg, fun HC eC => ⟨_, rfl, _, rfl, _, rfl, dt, _, rfl, hd' eC, ?_⟩⟩
    have hkn : knows S.things (.str nm) = (S.things.lookup nm).isSome := rfl
    rw [hkn]
    rcases hR.get nm with ⟨h1, h2⟩ | ⟨p1, th, h1, h2, h3⟩
    · rw [h1, h2]
      refine ⟨rfl, _, rfl, iteN (fun z => absurd rfl z) (fun _ => ?_)⟩
      refine ⟨_, rfl, _, rfl, dt, _, rfl, hd' eC, ?_⟩
      rw [h2]
      exact ⟨_, rfl, iteF ⟨eB.trans eC, _, rfl⟩⟩
    · rw [h1, h2]
      refine ⟨rfl, _, rfl, iteN (fun z => absurd rfl z) (fun _ => ?_)⟩
      refine ⟨_, rfl, _, rfl, dt, _, rfl, hd' eC, ?_⟩
      rw [h2]
      have e0C := e0B.trans eC
      refine ⟨_, rfl, iteT ⟨_, rfl, _, rfl, x, dx, _, rfl, e0C _ _ hx, _, _, rfl, x, S, rfl, hS.same e0C, harg, (fun nm' th' hn' hl' o HD eD ho => ?_), fun z => ?_⟩⟩
      · injection hn' with hn'
        subst hn'
        obtain rfl : th = th' := by rw [h1] at hl'; exact Option.some.inj hl'
        have e0D := e0C.trans eD
        exact ⟨_, rfl, _, rfl, dt, .ref p1, rfl, .inl ⟨kvs, Sum.inr nm, .inl (e0D _ _ hd), rfl, h2.symm⟩, _, _, rfl, o, p1, th, rfl, rfl, ho, h3.same e0D, hT.wf _ (lookup_in h1), fun HE eE => ⟨_, rfl, ⟨(eB.trans eC).trans (eD.trans eE), _, rfl⟩⟩⟩
      · rw [hkn, h1] at z
        cases z
  · obtain ⟨eB, y, rfl⟩ := h
    have e0B := eA.trans eB
    refine ⟨_, rfl, g, rfl, lc_fm (k := true) (fun _ => some (V.bl true)) (SqL.of (e0B _ _ hgl)) (by rw [List.length_map, Paired.length hps]; have := hG.len; omega) (fun i v HC Nx No hv eC hN hNo => ?_) (fun D2 HC hD2 eC hdC => ?_)⟩
    · have e0C := e0B.trans eC
      obtain ⟨p, pr, hp, hpr, rfl, hat⟩ : ∃ p pr, ps[i]? = some p ∧ S.given[i]? = some pr ∧ v = .ref p ∧ H p = some (.tup pr.vs) := by
        rw [List.getElem?_map] at hv
        cases hp : ps[i]? with
        | none => rw [hp] at hv; cases hv
        | some p =>
          rw [hp] at hv
          obtain ⟨pr, h1, h2⟩ := paired_at hps hp
          exact ⟨p, pr, rfl, h1, (Option.some.inj hv).symm, h2⟩
      have hpo := hG.ok pr (List.mem_of_getElem? hpr)
      refine ⟨rfl, _, rfl, x, dx, _, rfl, e0C _ _ hx, lk_Desk_no _ _ _ _ (by decide +kernel), _, rfl, _, _, rfl, x, S, rfl, hS.same e0C, hT.ok, .inl ⟨p, pr, rfl, ⟨e0C _ _ hat, hpo⟩, fun HD eD => ?_⟩⟩
      have e0D := e0C.trans eD
      refine ⟨_, rfl, _, rfl, _, _, rfl, p, dt, kvs, S.things, pr, rfl, rfl, SqT.of (e0D _ _ hat), e0D _ _ hd, hR.same e0D, hT.ok.wf, fun HE eE => ?_⟩
      exact ⟨_, _, rfl, kept S.things pr, rfl, rfl, hN _ _ rfl (eD.trans eE)⟩
    · have hz : (ps.map V.ref).filterMap (fun _ => some (V.bl true)) = (ps.map fun _ => true).map V.bl := by
        rw [List.filterMap_map, List.map_map]
        exact congrFun (List.filterMap_eq_map (f := fun _ : Addr => V.bl true)) ps
      rw [hz] at hdC
      refine ⟨D2, _, rfl, SqL.of hdC, ?_⟩
      rw [show (ps.map fun _ => true).all id = true from List.all_eq_true.mpr fun b hb => by obtain ⟨_, _, rfl⟩ := List.mem_map.mp hb; rfl]
      exact q _ (e0B.trans eC)
end
end L2.Lk
/-! L19 -/
set_option Elab.async false
set_option linter.all false
set_option maxRecDepth 100000
set_option maxHeartbeats 2000000
namespace L2.Lk
open PySem PySem.Spec PyProof.Rows
/-! ### defs that make lambdas -/
abbrev cdA (K : PySem.W.Frag) (x : Str) : Addr := He.codeOf K (x, none)
abbrev tbA (K : PySem.W.Frag) (x : Str) : Addr := He.tabOf K (cdA K x)
abbrev lamQ (x : Str) (sc : Scope) : Str := (envOfC x sc 0 0 .none).qual ++ "<lambda>"
def tabsT (K : PySem.W.Frag) : List (Addr × Str) := [(tbA K "_law_step_right", lamQ "_law_step_right" (defScope st_law_step_right)), (tbA K "_law_odd_right", lamQ "_law_odd_right" (defScope st_law_odd_right)), (tbA K "law", lamQ "law" (defScope st_law))]
/-- the tables of code objects of the three defs that make lambdas -/
structure TbF (K : PySem.W.Frag) (mg : Str → Option Value) (base : Heap) : Prop where
  t1 : LamX.TabB base mg (cdA K "_law_step_right") (tbA K "_law_step_right")
  t2 : LamX.TabB base mg (cdA K "_law_odd_right") (tbA K "_law_odd_right")
  t3 : LamX.TabB base mg (cdA K "law") (tbA K "law")
  n12 : tbA K "_law_step_right" ≠ tbA K "_law_odd_right"
  n13 : tbA K "_law_step_right" ≠ tbA K "law"
  n23 : tbA K "_law_odd_right" ≠ tbA K "law"
section
variable {P : Program} {w : World} {K : PySem.W.Frag} {mg : Str → Option Value} {base : Heap}
theorem TbF.u1 (B : TbF K mg base) : ∀ p ∈ tabsT K, p.1 = tbA K "_law_step_right" → p.2 = lamQ "_law_step_right" (defScope st_law_step_right) := fun p hp e => by
  simp only [tabsT, List.mem_cons, List.not_mem_nil, or_false] at hp
  rcases hp with rfl | rfl | rfl
  · rfl
  · exact absurd e.symm B.n12
  · exact absurd e.symm B.n13
theorem TbF.u2 (B : TbF K mg base) : ∀ p ∈ tabsT K, p.1 = tbA K "_law_odd_right" → p.2 = lamQ "_law_odd_right" (defScope st_law_odd_right) := fun p hp e => by
  simp only [tabsT, List.mem_cons, List.not_mem_nil, or_false] at hp
  rcases hp with rfl | rfl | rfl
  · exact absurd e B.n12
  · rfl
  · exact absurd e.symm B.n23
theorem TbF.u3 (B : TbF K mg base) : ∀ p ∈ tabsT K, p.1 = tbA K "law" → p.2 = lamQ "law" (defScope st_law) := fun p hp e => by
  simp only [tabsT, List.mem_cons, List.not_mem_nil, or_false] at hp
  rcases hp with rfl | rfl | rfl
  · exact absurd e B.n13
  · exact absurd e B.n23
  · rfl
theorem tabs1 : (tbA K "_law_step_right", lamQ "_law_step_right" (defScope st_law_step_right)) ∈ tabsT K := .head _
theorem tabs2 : (tbA K "_law_odd_right", lamQ "_law_odd_right" (defScope st_law_odd_right)) ∈ tabsT K := .tail _ (.head _)
theorem tabs3 : (tbA K "law", lamQ "law" (defScope st_law)) ∈ tabsT K := .tail _ (.tail _ (.head _))
/-- a body keeps it; its code object is told -/
theorem ok_bodyF {k : Nat} {sp : L2.Sp} {p : Str × Option Str} {name qual : Str} {st : Stmt} {N ps : List Str} {fd : FuncData} (F : FunD K name qual (defArgs st) (defBody st) (defScope st) [] [] (He.fAd K p) fd) (S : FnScope N ps (defScope st)) (len : ∀ vs H Q E, sp vs H Q E → vs.length = ps.length)
    (hbody : ∀ (A : Around) (outer : List Env) (s : Shared) (H : Hp) (vs : List V) (Q : VK) (E : XK), Room k (A.deeper (envOfC qual (defScope st) s.heap.objs.size (He.fAd K p) (.ref (He.codeOf K p)))) → sp vs H Q E →
      ∃ t, PSs (cxOf (L2.CX P w) P w K mg base N qual (defScope st) (He.fAd K p) (.ref (He.codeOf K p)) A outer s H E) (defBody st) t ∧ t { nx := fun _ H' => Q .non H', rt := Q } (start N vs) H) : FnOk P w K mg base (L2.CX P w) (k + 1) (He.fAd K p) fd ps sp := by
  obtain ⟨oc, od, dV, kV, doc, pm, an, cdv, ct, osl, efd, lk, hcd, _, _⟩ := F.ex
  obtain ⟨c, rfl⟩ := He.codeIn_ref hcd
  have e : He.codeOf K p = c := He.codeOf_eq lk (by rw [efd])
  rw [e] at hbody
  subst efd
  exact fn_of lk hcd S len fun A outer s H vs Q E hr hsp => hbody A outer s H vs Q E hr hsp
theorem ok_bodyC {k : Nat} {sp : L2.Sp} {p : Str × Option Str} {name qual : Str} {st : Stmt} {N ps : List Str} (F : ∃ fd, FunD K name qual (defArgs st) (defBody st) (defScope st) [] [] (He.fAd K p) fd) (S : FnScope N ps (defScope st)) (len : ∀ vs H Q E, sp vs H Q E → vs.length = ps.length)
    (bd : ∀ (kV doc pm : Value) (an : Option Addr) (cdv ct : Value) (us : List Value), us.length = ps.length → bindArgs (PySem.W.fnOf name qual (defArgs st) (defBody st) (defScope st) .none kV doc pm an cdv ct) ⟨us, []⟩ = pure (ps.zip us))
    (hbody : ∀ (A : Around) (outer : List Env) (s : Shared) (H : Hp) (vs : List V) (Q : VK) (E : XK), Room k (A.deeper (envOfC qual (defScope st) s.heap.objs.size (He.fAd K p) (.ref (He.codeOf K p)))) → sp vs H Q E →
      ∃ t, PSs (cxOf (L2.CX P w) P w K mg base N qual (defScope st) (He.fAd K p) (.ref (He.codeOf K p)) A outer s H E) (defBody st) t ∧ t { nx := fun _ H' => Q .non H', rt := Q } (start N vs) H) : Ok P w K mg base (k + 1) (He.fAd K p) ps sp := by
  obtain ⟨fd, F⟩ := F
  exact ⟨F.kp, fd, ok_bodyF F S len hbody, F.bindsN bd⟩
theorem pe_met (T : Tx P K mg) {X : Cx} {Tl : List (Addr × Str)} {c Pt : Addr} (k : Nat) {params : Arguments} {body : Expr} {scope : Scope} {t : XK → TE} {p lpos pos : Pos} (TB : LamX.TabB X.base mg c Pt) (hmT : (Pt, X.env.qual ++ "<lambda>") ∈ Tl) (hu : ∀ p ∈ Tl, p.1 = Pt → p.2 = X.env.qual ++ "<lambda>")
    (hr : Room (k + 2) X.A) (hbody : ∀ (A : Around) (outer : List Env) (s : Shared) (H : Hp) (E : XK) (f c' : Addr), Room k (A.deeper (LamX.lamEnv X scope s.heap.objs.size f c')) → PE (LamX.lamCx X A outer s H E scope f c') body (t E))
    (hg : Gl X "_law_met" := by rfl) (hcode : X.env.code = .ref c := by rfl) (L : LamX.LamS X.env.scope scope := by exact LamX.lamS_by (by decide +kernel)) (hdef : defaultsOf params X.env = ([], []) := by rfl)
    (hbind : ∀ (q : Str) (cl : List (Str × Addr)) (pm cv ctv : Value), bindArgs (PySem.W.kla_fn "<lambda>" q params body scope cl pm cv ctv) ⟨[], []⟩ = pure [] := by intros; rfl) (hK : X.K = K := by rfl) (hm : X.mg = mg := by rfl) :
    PE X (.Call (.Name "_law_met" p) [.Lambda params body scope lpos] [] pos) (LamX.tLam Tl (TMet K) t) := by
  subst hK hm
  obtain ⟨fd, F⟩ := F_law_met T
  have hb : L2.Binds X.K fd ["_law_call"] [] := F.bindsN fun kV doc pm an cdv ct us hl => match us, hl with | [u], _ => rfl
  obtain ⟨oc, od, dV, kV, doc, pm, an, cdv, ct, osl, efd, lk, hcd, _, _⟩ := F.ex
  subst efd
  exact LamX.pe_lamcall (T := Tl) (k := k) (a := "_law_call") (Ng := N_law_met) hg (g_law_met T) F.kp lk hcd hb sc_law_met rfl (.inl rfl) (met_gives T rfl rfl) TB hcode hmT hu hr L hdef hbind hbody
end
end L2.Lk
/-! L20 -/
set_option Elab.async false
set_option linter.all false
set_option maxRecDepth 100000
set_option maxHeartbeats 2000000
namespace L2.Lk
open PySem PySem.Spec PyProof.Rows
/-! ### frames -/
/-- tuples stay -/
structure Tps (H H' : Hp) : Prop where
  t : ∀ b xs, H b = some (.tup xs) → H' b = some (.tup xs)
  f : ∀ b o xs, H b = some (.frz o (.tup xs)) → H' b = some (.frz o (.tup xs))
/-- all but instances and tables stay -/
def NI (H H' : Hp) : Prop := ∀ b o, H b = some o → (∀ C d f, o ≠ .ins C d f) → (∀ ps, o ≠ .tbl ps) → H' b = some o
/-- all but lists and tables stay -/
def NL (H H' : Hp) : Prop := ∀ b o, H b = some o → (∀ xs, o ≠ .lst xs) → (∀ ps, o ≠ .tbl ps) → H' b = some o
section
variable {P : Program} {w : World} {K : PySem.W.Frag} {mg : Str → Option Value} {base : Heap} {H H' H1 : Hp}
theorem NI.tps (e : NI H H') : Tps H H' := ⟨fun b xs h => e _ _ h (fun _ _ _ z => by cases z) (fun _ z => by cases z), fun b o xs h => e _ _ h (fun _ _ _ z => by cases z) (fun _ z => by cases z)⟩
theorem NL.tps (e : NL H H') : Tps H H' := ⟨fun b xs h => e _ _ h (fun _ z => by cases z) (fun _ z => by cases z), fun b o xs h => e _ _ h (fun _ z => by cases z) (fun _ z => by cases z)⟩
theorem NI.of (e : LamX.ExtN H H') : NI H H' := fun b o h _ n => e b o h n
theorem NL.of (e : LamX.ExtN H H') : NL H H' := fun b o h _ n => e b o h n
theorem NI.same (e : Same H H') : NI H H' := fun b o h _ _ => e b o h
theorem NL.same (e : Same H H') : NL H H' := fun b o h _ _ => e b o h
theorem NI.trans (a : NI H H1) (b : NI H1 H') : NI H H' := fun c o h n m => b c o (a c o h n m) n m
theorem NL.trans (a : NL H H1) (b : NL H1 H') : NL H H' := fun c o h n m => b c o (a c o h n m) n m
theorem NI.ins {x C d : Addr} {f : List (Str × V)} (hx : H x = some (.ins C d f)) (e : Sx [x] H H') : NI H H' := fun b o h n _ => e b o (fun z => by rw [List.mem_singleton.mp z, hx] at h; exact n _ _ _ (Option.some.inj h).symm) h
theorem NI.dict {d : Addr} {k k2 : List (Key × V)} {P : Prop} : P → P := id
theorem NL.lst {l : Addr} {xs ys : List V} (hl : H l = some (.lst xs)) : NL H (upd H l (.lst ys)) := fun b o h n _ => by
  rw [upd_ne (fun z => by rw [z, hl] at h; exact n _ (Option.some.inj h).symm)]
  exact h
theorem SqT.tps {b : Addr} {xs : List V} (h : SqT K H b xs) (e : Tps H H') : SqT K H' b xs := by
  rcases h with (h | ⟨o, h⟩) | h
  · exact .inl (.inl (e.t _ _ h))
  · exact .inl (.inr ⟨o, e.f _ _ _ h⟩)
  · exact .inr h
theorem LThAt.tps {p : Addr} {t : Thing} (h : LThAt K H p t) (e : Tps H H') : LThAt K H' p t := by
  obtain ⟨wd, m, h1, h2, h3⟩ := h
  refine ⟨wd, m, e.t _ _ h1, SqT.tps h2 e, ?_⟩
  cases t with
  | spread n s l => obtain ⟨m, rfl, h⟩ := h3; exact ⟨m, rfl, SqT.tps h e⟩
  | space n u => obtain ⟨m, rfl, h⟩ := h3; exact ⟨m, rfl, SqT.tps h e⟩
  | store n c b => exact h3
theorem RepL.tps {kvs : List (Key × V)} {ts : Ths} (h : RepL K H kvs ts) (e : Tps H H') : RepL K H' kvs ts := Paired.mapP h fun _ _ ⟨h1, p, h2, h3⟩ => ⟨h1, p, h2, h3.tps e⟩
theorem PrmAt.tps {p : Addr} {pr : Prm} (h : PrmAt H p pr) (e : Tps H H') : PrmAt H' p pr := ⟨e.t _ _ h.1, h.2⟩
theorem prs_tps {ps : List Addr} {gs : List Prm} (h : Paired (fun p pr => H p = some (.tup (Prm.vs pr))) ps gs) (e : Tps H H') : Paired (fun p pr => H' p = some (.tup (Prm.vs pr))) ps gs := Paired.mapP h fun _ _ z => e.t _ _ z
theorem GivL.ni {g : Addr} {gs : List Prm} (h : GivL H g gs) (e : NI H H') : GivL H' g gs := let ⟨ps, h1, h2⟩ := h; ⟨ps, e _ _ h1 (fun _ _ _ z => by cases z) (fun _ z => by cases z), prs_tps h2 e.tps⟩
theorem NI.dk {d : Addr} {k : List (Key × V)} (e : NI H H') (h : H d = some (.dK k)) : H' d = some (.dK k) := e _ _ h (fun _ _ _ z => by cases z) (fun _ z => by cases z)
theorem NI.ls {d : Addr} {k : List V} (e : NI H H') (h : H d = some (.lst k)) : H' d = some (.lst k) := e _ _ h (fun _ _ _ z => by cases z) (fun _ z => by cases z)
theorem NL.dk {d : Addr} {k : List (Key × V)} (e : NL H H') (h : H d = some (.dK k)) : H' d = some (.dK k) := e _ _ h (fun _ z => by cases z) (fun _ z => by cases z)
theorem LStAt.ni {st : Addr} {ts : Ths} {gs : List Prm} (h : LStAt K H st ts gs) (e : NI H H') : LStAt K H' st ts gs :=
  let ⟨d, g, kvs, h1, h2, h3, h4⟩ := h; ⟨d, g, kvs, e.dk h1, e.dk h2, h3.tps e.tps, h4.ni e⟩
theorem PenAt.ni {pen c : Addr} {f : Nat} (h : PenAt H pen c f) (e : NI H H') : PenAt H' pen c f := let ⟨cs, st, lf, h1, h2, h3, h4⟩ := h; ⟨cs, st, lf, e.dk h1, e.ls h2, h3, h4⟩
/-! desks -/
theorem insT {b C dx : Addr} {fs : List (Str × V)} (e : NL H H') (h : H b = some (.ins C dx fs)) : H' b = some (.ins C dx fs) := e _ _ h (fun _ z => by cases z) (fun _ z => by cases z)
theorem MapAt.nl {p : Addr} {m : Nat} {cs : List Nat} (h : MapAt K H p m cs) (e : NL H H') : MapAt K H' p m cs := by
  obtain ⟨dp, r, h1, t⟩ := h
  exact ⟨dp, r, insT e h1, SqT.tps t e.tps⟩
theorem ThingAt.nl {p : Addr} {th : Thing} (h : ThingAt K H p th) (e : NL H H') : ThingAt K H' p th := by
  cases th with
  | spread n s l =>
    obtain ⟨dp, r, r2, h1, t, t2⟩ := h
    exact ⟨dp, r, r2, insT e h1, SqT.tps t e.tps, SqT.tps t2 e.tps⟩
  | space n u =>
    obtain ⟨R, ⟨dp, r, h1, t⟩, hR⟩ := h
    exact ⟨R, ⟨dp, r, insT e h1, SqT.tps t e.tps⟩, hR⟩
  | store n c b =>
    obtain ⟨dp, ch, bk, h1, h2, h3⟩ := h
    exact ⟨dp, ch, bk, insT e h1, h2.nl e, h3.nl e⟩
theorem ThsAt.nl {d : Addr} {ts : Ths} (h : ThsAt K H d ts) (e : NL H H') : ThsAt K H' d ts := let ⟨kvs, h1, h2⟩ := h; ⟨kvs, e.dk h1, Paired.mapP h2 fun _ _ ⟨z1, p, z2, z3⟩ => ⟨z1, p, z2, z3.nl e⟩⟩
theorem GivAt.nl {g : Addr} {gs : List Prm} (h : GivAt H g gs) (e : Tps H H') : GivAt H' g gs := let ⟨ps, h1, h2⟩ := h; ⟨ps, e.t _ _ h1, prs_tps h2 e⟩
theorem DeskAt.nl {x : Addr} {S : DState} (h : DeskAt K H x S) (e : NL H H') : DeskAt K H' x S := by
  obtain ⟨dx, d, g, q, h1, h2, h3, ps, h4, h5⟩ := h
  exact ⟨dx, d, g, q, insT e h1, h2.nl e, h3.nl e.tps, ps, e.tps.t _ _ h4, Paired.mapP h5 fun _ _ ⟨d, g, z1, z2, z3⟩ => ⟨d, g, e.tps.t _ _ z1, z2.nl e, z3.nl e.tps⟩⟩
/-! the pen is drawn from -/
theorem pen_thd {pen c d : Addr} {f : Nat} {ts : Ths} (h : PenAt H pen c f) (hd : ThsAt K H d ts) (hT : TsOk ts) : d ≠ pen := fun z => by
  obtain ⟨kvs, hd, hR⟩ := hd
  obtain ⟨cs, s, lf, h1, _⟩ := h
  rw [z, h1] at hd
  injection hd with hd
  injection hd with hd
  subst hd
  cases ts with
  | nil => cases hR
  | cons t ts =>
    cases hR with
    | cons h r =>
      have h1 : (Sum.inr "cells" : Key) = Sum.inr t.1 := h.1
      injection h1 with h1
      have := hT.nm t List.mem_cons_self
      rw [← h1] at this
      exact absurd this (by decide +kernel)
structure EntOk (e : Ths × List Prm) : Prop where
  ts : TsOk e.1
  gs : GvOk e.2
/-- the desk's things and promises, from the first to now -/
def hist (S : DState) : List (Ths × List Prm) := S.past ++ [(S.things, S.given)]
def HistOk (S : DState) : Prop := ∀ e ∈ hist S, EntOk e
theorem HistOk.now {S : DState} (h : HistOk S) : EntOk (S.things, S.given) := h _ (List.mem_append_right _ List.mem_cons_self)
theorem HistOk.past {S : DState} (h : HistOk S) {e : Ths × List Prm} (he : e ∈ S.past) : EntOk e := h _ (List.mem_append_left _ he)
theorem Stay.tps (e : Stay H H') : Tps H H' := ⟨fun b xs h => e.tup h, fun b o xs h => e _ _ h (fun _ z => by cases z) (fun _ _ z => by injection z with _ z; cases z)⟩
theorem ThsAt.pen {pen c d : Addr} {f : Nat} {ts : Ths} (h : ThsAt K H d ts) (hT : TsOk ts) (hp : PenAt H pen c f) (e : Sx [pen] H H') : ThsAt K H' d ts := by
  have hn := pen_thd hp h hT
  obtain ⟨kvs, h1, h2⟩ := h
  exact ⟨kvs, e _ _ (fun z => hn (List.mem_singleton.mp z)) h1, h2.stay (hp.stay e)⟩
theorem paired_mem {α β : Type} {R S : α → β → Prop} : ∀ {as : List α} {bs : List β}, Paired R as bs → (∀ a b, b ∈ bs → R a b → S a b) → Paired S as bs
  | [], [], .nil, _ => .nil
  | _ :: _, _ :: _, .cons h r, f => .cons (f _ _ List.mem_cons_self h) (paired_mem r fun a b hb => f a b (List.mem_cons_of_mem _ hb))
theorem DeskAt.pen {pen c x : Addr} {f : Nat} {S : DState} (h : DeskAt K H x S) (hS : HistOk S) (hp : PenAt H pen c f) (e : Sx [pen] H H') : DeskAt K H' x S := by
  have st := hp.stay e
  obtain ⟨dx, d, g, q, h1, h2, h3, ps, h4, h5⟩ := h
  exact ⟨dx, d, g, q, ins_stay st h1, h2.pen hS.now.ts hp e, h3.nl (Stay.tps st), ps, st.tup h4, paired_mem h5 fun _ b hb ⟨d, g, z1, z2, z3⟩ => ⟨d, g, st.tup z1, z2.pen (hS.past hb).ts hp e, z3.nl (Stay.tps st)⟩⟩
/-! the law's states -/
def StsAt (K : PySem.W.Frag) (H : Hp) (ls : Addr) (es : List (Ths × List Prm)) : Prop := ∃ ps : List Addr, H ls = some (.lst (ps.map V.ref)) ∧ Paired (fun p (e : Ths × List Prm) => LStAt K H p e.1 e.2) ps es
theorem StsAt.ni {ls : Addr} {es : List (Ths × List Prm)} (h : StsAt K H ls es) (e : NI H H') : StsAt K H' ls es := let ⟨ps, h1, h2⟩ := h; ⟨ps, e.ls h1, Paired.mapP h2 fun _ _ z => z.ni e⟩
theorem StsAt.pen {pen c ls : Addr} {f : Nat} {es : List (Ths × List Prm)} (h : StsAt K H ls es) (ho : ∀ e ∈ es, EntOk e) (hp : PenAt H pen c f) (e : Sx [pen] H H') : StsAt K H' ls es := by
  obtain ⟨ps, h1, h2⟩ := h
  exact ⟨ps, (hp.stay e).lst h1, paired_mem h2 fun _ b hb z => z.sx (ho b hb).ts hp e⟩
/-- the list of the states is no list of promises, not the pen's cells -/
theorem giv_ne {ls g p : Addr} {ps : List Addr} {gs : List Prm} {d1 g1 : Addr} (hl : H ls = some (.lst ((p :: ps).map V.ref))) (hp : H p = some (.dK (stK d1 g1))) (hg : GivL H g gs) : g ≠ ls := fun z => by
  obtain ⟨qs, h1, h2⟩ := hg
  rw [z, hl] at h1
  injection h1 with h1
  injection h1 with h1
  cases qs with
  | nil => cases h1
  | cons q qs =>
    injection h1 with h1 _
    injection h1 with h1
    cases h2 with
    | cons h r => rw [← h1, hp] at h; cases h
theorem cells_ne {ls pen c p : Addr} {ps : List Addr} {f : Nat} (hl : H ls = some (.lst ((p :: ps).map V.ref))) (hp : PenAt H pen c f) : c ≠ ls := fun z => by
  obtain ⟨cs, st, lf, h1, h2, _⟩ := hp
  rw [z, hl] at h2
  injection h2 with h2
  injection h2 with h2
  cases cs with
  | nil => cases h2
  | cons a cs => injection h2 with h2 _; cases h2
theorem LStAt.set {ls st : Addr} {xs ys : List V} {ts : Ths} {gs : List Prm} (h : LStAt K H st ts gs) (hl : H ls = some (.lst xs)) (hn : ∀ g, GivL H g gs → g ≠ ls) : LStAt K (upd H ls (.lst ys)) st ts gs := by
  obtain ⟨d, g, kvs, h1, h2, h3, h4⟩ := h
  have e := NL.lst (ys := ys) hl
  obtain ⟨qs, h5, h6⟩ := id h4
  exact ⟨d, g, kvs, e.dk h1, e.dk h2, h3.tps e.tps, qs, by rw [upd_ne (hn g h4)]; exact h5, prs_tps h6 e.tps⟩
theorem map_ref_inj : ∀ {as bs : List Addr}, as.map V.ref = bs.map V.ref → as = bs
  | [], [], _ => rfl
  | a :: as, b :: bs, h => by
    rw [List.map_cons, List.map_cons] at h
    injection h with h1 h2
    injection h1 with h1
    rw [h1, map_ref_inj h2]
theorem StsAt.snoc {ls st : Addr} {es : List (Ths × List Prm)} {ts : Ths} {gs : List Prm} (h : StsAt K H ls es) (hne : es ≠ []) (hs : LStAt K H st ts gs) {ps : List Addr} (hl : H ls = some (.lst (ps.map V.ref))) : StsAt K (upd H ls (.lst (ps.map V.ref ++ [.ref st]))) ls (es ++ [(ts, gs)]) := by
  obtain ⟨qs, h1, h2⟩ := h
  obtain rfl : qs = ps := by
    rw [hl] at h1
    injection h1 with h1
    injection h1 with h1
    exact (map_ref_inj h1).symm
  cases h2 with
  | nil => exact absurd rfl hne
  | @cons p e qs es hp r =>
    obtain ⟨d1, g1, k1, hp1, _⟩ := id hp
    have nx : ∀ {g gs}, GivL H g gs → g ≠ ls := fun h => giv_ne hl hp1 h
    refine ⟨p :: qs ++ [st], by rw [upd_same, List.map_append]; rfl, Paired.snoc (.cons (hp.set hl fun g => nx) (Paired.mapP r fun _ _ z => z.set hl fun g => nx)) (hs.set hl fun g => nx)⟩
theorem StsAt.cut {ls : Addr} {es : List (Ths × List Prm)} {e : Ths × List Prm} (h : StsAt K H ls (es ++ [e])) (hne : es ≠ []) : ∃ ps p, H ls = some (.lst ((ps ++ [p]).map V.ref)) ∧ StsAt K (upd H ls (.lst (ps.map V.ref))) ls es := by
  obtain ⟨qs, h1, h2⟩ := h
  obtain ⟨ps, p, rfl, h3, h4⟩ := paired_unsnoc h2
  refine ⟨ps, p, h1, ps, upd_same, ?_⟩
  cases h3 with
  | nil => exact absurd rfl hne
  | @cons q e2 qs es hp r =>
    obtain ⟨d1, g1, k1, hp1, _⟩ := id hp
    have h1' : H ls = some (.lst ((q :: (qs ++ [p])).map V.ref)) := h1
    have nx : ∀ {g gs}, GivL H g gs → g ≠ ls := fun h => giv_ne h1' hp1 h
    exact .cons (hp.set h1 fun g => nx) (Paired.mapP r fun _ _ z => z.set h1 fun g => nx)
theorem StsAt.last {ls : Addr} {es : List (Ths × List Prm)} {e : Ths × List Prm} (h : StsAt K H ls (es ++ [e])) : ∃ ps p, H ls = some (.lst ((ps ++ [p]).map V.ref)) ∧ ps.length = es.length ∧ LStAt K H p e.1 e.2 := by
  obtain ⟨qs, h1, h2⟩ := h
  obtain ⟨ps, p, rfl, h3, h4⟩ := paired_unsnoc h2
  exact ⟨ps, p, h1, Paired.length h3, h4⟩
theorem PenAt.set {pen c ls : Addr} {xs ys : List V} {f : Nat} (h : PenAt H pen c f) (hl : H ls = some (.lst xs)) (hn : c ≠ ls) : PenAt (upd H ls (.lst ys)) pen c f := by
  obtain ⟨cs, st, lf, h1, h2, h3, h4⟩ := h
  exact ⟨cs, st, lf, (NL.lst (ys := ys) hl).dk h1, by rw [upd_ne hn]; exact h2, h3, h4⟩
/-! tables -/
/-- tables and code objects stay -/
def KT (H H' : Hp) : Prop := ∀ b o, H b = some o → ((∃ ps, o = .tbl ps) ∨ ∃ φ, o = .ext φ) → H' b = some o
theorem KT.same (e : Same H H') : KT H H' := fun b o h _ => e b o h
theorem KT.sx {L : List Addr} (e : Sx L H H') (hn : ∀ b ∈ L, ∀ o, H b = some o → (∀ ps, o ≠ .tbl ps) ∧ ∀ φ, o ≠ .ext φ) : KT H H' := fun b o h z => e b o (fun hb => by
  obtain ⟨h1, h2⟩ := hn b hb o h
  rcases z with ⟨ps, rfl⟩ | ⟨φ, rfl⟩
  · exact h1 _ rfl
  · exact h2 _ rfl) h
theorem KT.tabs {T : List (Addr × Str)} (e : KT H H') (h : LamX.Tabs T H) : LamX.Tabs T H' := fun p hp => by
  obtain ⟨ps, h1, h2, h3⟩ := h p hp
  refine ⟨ps, e _ _ h1 (.inl ⟨_, rfl⟩), h2, fun pos cv hc => ?_⟩
  obtain ⟨c, e1, e2⟩ := h3 pos cv hc
  exact ⟨c, e1, e _ _ e2 (.inr ⟨_, rfl⟩)⟩
theorem tabs_same {T : List (Addr × Str)} (h : LamX.Tabs T H) (e : Same H H') : LamX.Tabs T H' := (KT.same e).tabs h
theorem tabs_pen {T : List (Addr × Str)} {pen c : Addr} {f : Nat} (h : LamX.Tabs T H) (hp : PenAt H pen c f) (e : Sx [pen] H H') : LamX.Tabs T H' := (KT.sx e fun b hb o ho => by
  obtain ⟨cs, st, lf, h1, _⟩ := hp
  rw [List.mem_singleton.mp hb, h1] at ho
  rw [← Option.some.inj ho]
  exact ⟨fun _ z => (by cases z), fun _ z => (by cases z)⟩).tabs h
theorem tabs_ins {T : List (Addr × Str)} {x C d : Addr} {fs : List (Str × V)} (h : LamX.Tabs T H) (hx : H x = some (.ins C d fs)) (e : Sx [x] H H') : LamX.Tabs T H' := (KT.sx e fun b hb o ho => by
  rw [List.mem_singleton.mp hb, hx] at ho
  rw [← Option.some.inj ho]
  exact ⟨fun _ z => (by cases z), fun _ z => (by cases z)⟩).tabs h
theorem tabs_lst {T : List (Addr × Str)} {l : Addr} {xs ys : List V} (h : LamX.Tabs T H) (hl : H l = some (.lst xs)) : LamX.Tabs T (upd H l (.lst ys)) := (KT.sx (L := [l]) (Sx.refl.upd List.mem_cons_self) fun b hb o ho => by
  rw [List.mem_singleton.mp hb, hl] at ho
  rw [← Option.some.inj ho]
  exact ⟨fun _ z => (by cases z), fun _ z => (by cases z)⟩).tabs h
end
end L2.Lk
/-! L21 -/
set_option Elab.async false
set_option linter.all false
set_option maxRecDepth 100000
set_option maxHeartbeats 2000000
namespace L2.Lk
open PySem PySem.Spec PyProof.Rows
section
variable {P : Program} {w : World} {K : PySem.W.Frag} {mg : Str → Option Value} {base : Heap}
/-- what stands between two steps -/
structure Run (K : PySem.W.Frag) (H : Hp) (pen c x ls : Addr) (f : Nat) (S : DState) : Prop where
  pen : PenAt H pen c f
  desk : DeskAt K H x S
  sts : StsAt K H ls (hist S)
  ok : HistOk S
  tab : LamX.Tabs (tabsT K) H
theorem Run.mono {H : Hp} {pen c x ls : Addr} {f g : Nat} {S : DState} (h : Run K H pen c x ls g S) (l : f ≤ g) : Run K H pen c x ls f S := ⟨h.pen.mono l, h.desk, h.sts, h.ok, h.tab⟩
theorem Run.same {H H' : Hp} {pen c x ls : Addr} {f : Nat} {S : DState} (h : Run K H pen c x ls f S) (e : Same H H') : Run K H' pen c x ls f S := ⟨h.pen.same e, h.desk.same e, h.sts.ni (NI.same e), h.ok, tabs_same h.tab e⟩
theorem Run.draw {H H' : Hp} {pen c x ls : Addr} {f g : Nat} {S : DState} (h : Run K H pen c x ls g S) (e : Sx [pen] H H') (hp : PenAt H' pen c f) : Run K H' pen c x ls f S := ⟨hp, h.desk.pen h.ok h.pen e, h.sts.pen h.ok h.pen e, h.ok, tabs_pen h.tab h.pen e⟩
theorem Run.ext {H H' : Hp} {pen c x ls : Addr} {f : Nat} {S : DState} (h : Run K H pen c x ls f S) (e : LamX.ExtN H H') (t : LamX.Tabs (tabsT K) H') : Run K H' pen c x ls f S := ⟨h.pen.ni (NI.of e), h.desk.nl (NL.of e), h.sts.ni (NI.of e), h.ok, t⟩
theorem Run.now {H : Hp} {pen c x ls : Addr} {f : Nat} {S : DState} (h : Run K H pen c x ls f S) : ∃ (ps : List Addr) (p : Addr), H ls = some (.lst (ps.map V.ref ++ [V.ref p])) ∧ ps.length = S.past.length ∧ LStAt K H p S.things S.given := by
  obtain ⟨ps, p, h1, h2, h3⟩ := StsAt.last h.sts
  exact ⟨ps, p, by rw [h1, List.map_append]; rfl, h2, h3⟩
theorem DeskAt.ins {H : Hp} {x : Addr} {S : DState} (h : DeskAt K H x S) : ∃ dx d g q, H x = some (.ins (cDesk K) dx (fDesk (.ref d) (.ref g) (.ref q) (nV 0))) := let ⟨dx, d, g, q, h1, _⟩ := h; ⟨dx, d, g, q, h1⟩
theorem len_st {ps : List Addr} {p : Addr} {n : Nat} (h : ps.length = n) : (ps.map V.ref ++ [V.ref p]).length = n + 1 := by rw [List.length_append, List.length_map, h]; rfl
theorem dp_not {H : Hp} {l : Addr} (h : H l = some (.lst [.str "nothing"])) : Dp K H (.ref l) (.list [.str "nothing"]) := .lst (SqL.of h) (.cons (.str _) .nil)
theorem last_at {α : Type} {xs : List α} {v : α} : (xs ++ [v])[(xs ++ [v]).length - 1]? = some v := by simp
theorem nk_put : ¬ V.str "put" = V.str "release" := by decide +kernel
theorem nk_drop : ¬ V.str "drop" = V.str "release" := by decide +kernel
theorem nk_rename : ¬ V.str "rename" = V.str "release" := by decide +kernel
theorem nk_keep : ¬ V.str "keep" = V.str "release" := by decide +kernel
def kindD : Deed → Str
  | .put .. => "put"
  | .drop _ => "drop"
  | .rename _ => "rename"
  | .keep _ => "keep"
  | .release _ => "release"
theorem DeedAt.tup {H : Hp} {p : Addr} {d : Deed} (h : DeedAt K H p d) : ∃ v1 v2, H p = some (.tup [.str (kindD d), v1, v2]) := by
  cases d with
  | put x t => obtain ⟨q, h, _⟩ := h; exact ⟨_, _, h⟩
  | drop x => exact ⟨_, _, h⟩
  | rename cs => obtain ⟨q, h, _⟩ := h; exact ⟨_, _, h⟩
  | keep p => obtain ⟨q, h, _⟩ := h; exact ⟨_, _, h⟩
  | release p => obtain ⟨q, h, _⟩ := h; exact ⟨_, _, h⟩
theorem tt_kind {σ : L2.St} {H : Hp} {R : Bool → Hp → Prop} {pd : Addr} {d : Deed} {s : Str} (h9 : σ[9]? = some (some (V.ref pd))) (hd : DeedAt K H pd d) (q : R (decide (V.str (kindD d) = V.str s)) H) :
    (tTest (tOp rEq (tOp (rIxT K) (tVar 9) (tC (nV 0))) (tC (V.str s)))) σ H R := by
  obtain ⟨v1, v2, ht⟩ := hd.tup
  exact ⟨_, h9, pd, _, _, _, rfl, rfl, SqT.of ht, rfl, rfl, _, rfl, q⟩
theorem tt_kindN {σ : L2.St} {H : Hp} {R : Bool → Hp → Prop} {pd : Addr} {d : Deed} {s : Str} (h9 : σ[9]? = some (some (V.ref pd))) (hd : DeedAt K H pd d) (q : R (!decide (V.str (kindD d) = V.str s)) H) :
    (tTest (tOp rNe (tOp (rIxT K) (tVar 9) (tC (nV 0))) (tC (V.str s)))) σ H R := by
  obtain ⟨v1, v2, ht⟩ := hd.tup
  exact ⟨_, h9, pd, _, _, _, rfl, rfl, SqT.of ht, rfl, rfl, _, rfl, q⟩
theorem DeedAt.ni {H H' : Hp} {p : Addr} {d : Deed} (h : DeedAt K H p d) (e : NI H H') : DeedAt K H' p d := by
  cases d with
  | put x t => obtain ⟨q, h1, h2⟩ := h; exact ⟨q, e.tps.t _ _ h1, h2.tps e.tps⟩
  | drop x => exact e.tps.t _ _ h
  | rename cs => obtain ⟨q, h1, h2⟩ := h; exact ⟨q, e.tps.t _ _ h1, e.ls h2⟩
  | keep p => obtain ⟨q, h1, h2⟩ := h; exact ⟨q, e.tps.t _ _ h1, h2.tps e.tps⟩
  | release p => obtain ⟨q, h1, h2⟩ := h; exact ⟨q, e.tps.t _ _ h1, h2.tps e.tps⟩
theorem DueAt.ni {H H' : Hp} {l : Addr} {d : Due} (h : DueAt H l d) (e : NI H H') : DueAt H' l d := by
  cases d with
  | unknown x => exact e.ls h
  | unequal k m => exact e.ls h
  | one k => exact e.ls h
  | unmade p => obtain ⟨q, h1, h2⟩ := h; exact ⟨q, e.ls h1, h2.tps e.tps⟩
  | broken p => obtain ⟨q, h1, h2⟩ := h; exact ⟨q, e.ls h1, h2.tps e.tps⟩
  | nothing => exact e.ls h
def DuOk : Due → Prop
  | .unknown x => NmOk x
  | .unmade p => PrmOk p
  | .broken p => PrmOk p
  | _ => True
def dueD : Due → PyData
  | .unknown x => .list [.str "unknown", .str x]
  | .unequal k m => .list [.str "unequal", .int (k : Int), .int (m : Int)]
  | .one k => .list [.str "one", .int (k : Int)]
  | .unmade p => .list [.str "unmade", pd p]
  | .broken p => .list [.str "broken", pd p]
  | .nothing => .list [.str "nothing"]
theorem DueAt.dp {H : Hp} {l : Addr} {d : Due} (h : DueAt H l d) : Dp K H (.ref l) (dueD d) := by
  cases d with
  | unknown x => exact .lst (SqL.of h) (.cons (.str _) (.cons (.str _) .nil))
  | unequal k m => exact .lst (SqL.of h) (.cons (.str _) (.cons (.int _) (.cons (.int _) .nil)))
  | one k => exact .lst (SqL.of h) (.cons (.str _) (.cons (.int _) .nil))
  | unmade p => obtain ⟨q, h1, h2⟩ := h; exact .lst (SqL.of h1) (.cons (.str _) (.cons h2.dp .nil))
  | broken p => obtain ⟨q, h1, h2⟩ := h; exact .lst (SqL.of h1) (.cons (.str _) (.cons h2.dp .nil))
  | nothing => exact .lst (SqL.of h) (.cons (.str _) .nil)
theorem shaped_two {s : Str} {d : PyData} (h1 : PyData.canLay0 (.str s) = true) (h2 : d.canLay0 = true) (h3 : d.depth ≤ 3) : SeqAt.shaped (.list [.str s, d]) = true := by
  unfold SeqAt.shaped
  rw [Bool.and_eq_true]
  refine ⟨by simp [PyData.canLay0, PyData.canLayAll0] at *; simp [h1, h2], decide_eq_true ?_⟩
  simp only [PyData.depth, PyData.depthAll]
  omega
theorem pd_dep (p : Prm) : (pd p).depth ≤ 3 := by cases p <;> simp [PyData.depth, PyData.depthAll, pd, fd, Prm.vs, dF]
theorem pd_can {p : Prm} (h : PrmOk p) : (pd p).canLay0 = true := by
  have h1 := h.shaped
  unfold SeqAt.shaped at h1
  exact (Bool.and_eq_true_iff.mp h1).1
theorem due_shaped {d : Due} (h : DuOk d) : SeqAt.shaped (dueD d) = true := by
  cases d with
  | unknown x => exact shaped_two (by decide +kernel) ((Bool.and_eq_true_iff.mp h.2.1).2) (by simp [PyData.depth])
  | unequal k m => simp [SeqAt.shaped, dueD, PyData.canLay0, PyData.canLayAll0, PyData.depth, PyData.depthAll] <;> decide +kernel
  | one k => exact shaped_two (by decide +kernel) (by simp [PyData.canLay0]) (by simp [PyData.depth])
  | unmade p => exact shaped_two (by decide +kernel) (pd_can h) (pd_dep p)
  | broken p => exact shaped_two (by decide +kernel) (pd_can h) (pd_dep p)
  | nothing => decide +kernel
theorem due_self (d : Due) : PyData.eqv (dueD d) (dueD d) = true := by
  cases d <;> simp [dueD, PyData.eqv, PyData.eqvAll, pd_eqv]
theorem err_met {H : Hp} {cls : Value} {d : Option Addr} {du : Due} {Q : VK} (h : ErrAt K H cls d du) (ok : DuOk du) (q : ∀ l H', Same H H' → DueAt H' l du → Q (.ref l) H') : MetE K Q cls d H := by
  cases du with
  | unknown x => obtain ⟨rfl, dd, rfl, hdd⟩ := h; exact .inl ⟨rfl, dd, _, rfl, hdd, fun l hl => q l _ (Same.new hl) upd_same⟩
  | unequal k m => obtain ⟨rfl, dd, rfl, hdd⟩ := h; exact .inr (.inl ⟨rfl, dd, _, _, rfl, hdd, fun l hl => q l _ (Same.new hl) upd_same⟩)
  | one k => obtain ⟨rfl, dd, rfl, hdd⟩ := h; exact .inr (.inr (.inl ⟨rfl, dd, _, rfl, hdd, fun l hl => q l _ (Same.new hl) upd_same⟩))
  | unmade p => obtain ⟨rfl, dd, a, rfl, hdd, ha⟩ := h; exact .inr (.inr (.inr (.inl ⟨rfl, dd, _, rfl, hdd, fun l hl => q l _ (Same.new hl) ⟨a, upd_same, (Same.new hl) _ _ ha, ok⟩⟩)))
  | broken p => obtain ⟨rfl, dd, a, rfl, hdd, ha⟩ := h; exact .inr (.inr (.inr (.inr (.inl ⟨rfl, dd, _, rfl, hdd, fun l hl => q l _ (Same.new hl) ⟨a, upd_same, (Same.new hl) _ _ ha, ok⟩⟩))))
  | nothing => obtain ⟨rfl, rfl⟩ := h; exact .inr (.inr (.inr (.inr (.inr (.inl ⟨rfl, rfl, fun l hl => q l _ (Same.new hl) upd_same⟩)))))
theorem outR_met {H : Hp} {x : Addr} {S : DState} {Q Q1 : VK} {o : Out} (h0 : o = .same → ∀ H', Same H H' → Q1 .non H') (h1 : ∀ du, o = .err du → ∀ l H', Same H H' → DueAt H' l du → Q (.ref l) H')
    (h2 : ∀ ts gs, o = .done ts gs → ∀ H', Sx [x] H H' → DeskAt K H' x ⟨ts, gs, S.past ++ [(S.things, S.given)]⟩ → Q1 .non H') (h3 : ∀ du, o = .err du → DuOk du) : OutR K H x S Q1 (MetE K Q) o := by
  cases o with
  | same => exact h0 rfl
  | err du => exact fun cls d H' e hE => err_met hE (h3 du rfl) fun l H2 e2 hd => h1 du rfl l H2 (e.trans e2) hd
  | done ts gs => exact h2 ts gs rfl
theorem outB_err {ts : Ths} {gs : List Prm} {du : Due} (h : outB ts gs = .err du) : ∃ pr, du = .broken pr ∧ broken ts gs = some pr := by
  unfold outB at h
  cases hb : broken ts gs with
  | none => rw [hb] at h; cases h
  | some pr => rw [hb] at h; injection h with h; exact ⟨pr, h.symm, rfl⟩
theorem outB_done {ts ts2 : Ths} {gs gs2 : List Prm} (h : outB ts gs = .done ts2 gs2) : ts2 = ts ∧ gs2 = gs ∧ broken ts gs = none := by
  unfold outB at h
  cases hb : broken ts gs with
  | none => rw [hb] at h; injection h with h1 h2; exact ⟨h1.symm, h2.symm, rfl⟩
  | some pr => rw [hb] at h; cases h
theorem outB_same {ts : Ths} {gs : List Prm} (h : outB ts gs = .same) : False := by
  unfold outB at h
  cases hb : broken ts gs with
  | none => rw [hb] at h; cases h
  | some pr => rw [hb] at h; cases h
theorem out_same {ts' : Ths} {gs gs' : List Prm} {d : Deed} (h : outOf gs d (.inr (ts', gs')) = .same) : ∃ pr, d = .keep pr ∧ pr ∈ gs := by
  cases d with
  | put x t => exact (outB_same h).elim
  | drop x => exact (outB_same h).elim
  | rename cs => exact (outB_same h).elim
  | release p => cases h
  | keep p =>
    by_cases hp : p ∈ gs
    · exact ⟨p, rfl, hp⟩
    · exact (outB_same ((if_neg hp).symm.trans h)).elim
theorem out_err {ts' : Ths} {gs gs' : List Prm} {d : Deed} {du : Due} (h : outOf gs d (.inr (ts', gs')) = .err du) : ∃ pr, du = .broken pr ∧ broken ts' gs' = some pr ∧ ¬ V.str (kindD d) = V.str "release" ∧ ∀ q, d = .keep q → q ∉ gs := by
  cases d with
  | put x t => obtain ⟨pr, h1, h2⟩ := outB_err h; exact ⟨pr, h1, h2, nk_put, fun q z => by cases z⟩
  | drop x => obtain ⟨pr, h1, h2⟩ := outB_err h; exact ⟨pr, h1, h2, nk_drop, fun q z => by cases z⟩
  | rename cs => obtain ⟨pr, h1, h2⟩ := outB_err h; exact ⟨pr, h1, h2, nk_rename, fun q z => by cases z⟩
  | release p => cases h
  | keep p =>
    by_cases hp : p ∈ gs
    · have := (if_pos hp).symm.trans h; cases this
    · obtain ⟨pr, h1, h2⟩ := outB_err ((if_neg hp).symm.trans h)
      exact ⟨pr, h1, h2, nk_keep, fun q z => by injection z with z; rw [← z]; exact hp⟩
theorem out_done {ts' ts2 : Ths} {gs gs' gs2 : List Prm} {d : Deed} (h : outOf gs d (.inr (ts', gs')) = .done ts2 gs2) : ts2 = ts' ∧ gs2 = gs' ∧ (V.str (kindD d) = V.str "release" ∨ (¬ V.str (kindD d) = V.str "release" ∧ broken ts' gs' = none)) ∧ ∀ q, d = .keep q → q ∉ gs := by
  cases d with
  | put x t => obtain ⟨h1, h2, h3⟩ := outB_done h; exact ⟨h1, h2, .inr ⟨nk_put, h3⟩, fun q z => by cases z⟩
  | drop x => obtain ⟨h1, h2, h3⟩ := outB_done h; exact ⟨h1, h2, .inr ⟨nk_drop, h3⟩, fun q z => by cases z⟩
  | rename cs => obtain ⟨h1, h2, h3⟩ := outB_done h; exact ⟨h1, h2, .inr ⟨nk_rename, h3⟩, fun q z => by cases z⟩
  | release p =>
    have h : Out.done ts' gs' = .done ts2 gs2 := h
    injection h with h1 h2
    exact ⟨h1.symm, h2.symm, .inl rfl, fun q z => by cases z⟩
  | keep p =>
    by_cases hp : p ∈ gs
    · have := (if_pos hp).symm.trans h; cases this
    · obtain ⟨h1, h2, h3⟩ := outB_done ((if_neg hp).symm.trans h)
      exact ⟨h1, h2, .inr ⟨nk_keep, h3⟩, fun q z => by injection z with z; rw [← z]; exact hp⟩
theorem du_ok {ts : Ths} {gs : List Prm} {d : Deed} {du : Due} (h : DueR ts gs d (.inl du)) (hd : DeedOk2 gs d) : DuOk du := by
  cases h with
  | drop0 _ => exact hd
  | unequal _ _ _ => trivial
  | one _ _ _ _ => trivial
  | release0 _ => exact hd
theorem broken_mem {ts : Ths} {gs : List Prm} {pr : Prm} (h : broken ts gs = some pr) : pr ∈ gs := List.mem_of_find?_eq_some h
/-- deed[0] == "keep" and deed[1] in state["given"], behind due is None -/
theorem tt_keep {σ : L2.St} {H : Hp} {R : Bool → Hp → Prop} {pdA st : Addr} {d : Deed} {ts : Ths} {gs : List Prm} (h9 : σ[9]? = some (some (V.ref pdA))) (h4 : σ[4]? = some (some (V.ref st))) (hd : DeedAt K H pdA d) (hs : LStAt K H st ts gs) (hg : GivOk gs)
    (q1 : (∀ p, d = .keep p → p ∉ gs) → R false H) (q2 : ∀ p, d = .keep p → p ∈ gs → R true H) :
    (tAnd (tTest (tOp rEq (tOp (rIxT K) (tVar 9) (tC (nV 0))) (tC (V.str "keep")))) (tTest (tOp (rInD K) (tOp (rIxT K) (tVar 9) (tC (nV 1))) (tDGet (tVar 4) (tC (V.str "given")))))) σ H R := by
  refine tt_kind h9 hd ?_
  cases d with
  | put x t => exact q1 fun p z => by cases z
  | drop x => exact q1 fun p z => by cases z
  | rename x => exact q1 fun p z => by cases z
  | release x => exact q1 fun p z => by cases z
  | keep p =>
    obtain ⟨q, hp, hq⟩ := hd
    obtain ⟨dt, g, kvs, hs1, _, _, hgl⟩ := hs
    refine iteD (fun _ => ?_) (fun z => absurd rfl z)
    refine ⟨_, h9, pdA, _, _, _, rfl, rfl, SqT.of hp, rfl, _, h4, st, _, rfl, .inl ⟨_, Sum.inr "given", .inl hs1, rfl, (st_given dt g).symm⟩, _, _, hq.dp, GivL.dp hgl hg, hq.2.shaped, shaped_givL hg, ?_⟩
    rw [any_pd]
    by_cases hin : p ∈ gs
    · rw [decide_eq_true hin]
      exact ⟨_, rfl, q2 p rfl hin⟩
    · rw [decide_eq_false hin]
      exact ⟨_, rfl, q1 fun z hz => by injection hz with hz; rw [← hz]; exact hin⟩
abbrev sp_step_right (K : PySem.W.Frag) : L2.Sp := S4 fun a b d g H Q _ => ∃ pen c x ls f S n, a = .ref pen ∧ b = .ref x ∧ d = .ref ls ∧ g = nV n ∧ n ≤ 4 ∧ Run K H pen c x ls (f + 450) S ∧ S.past.length ≤ 100 ∧
  ∀ S' H', Run K H' pen c x ls f S' → S'.past.length ≤ S.past.length + 1 → Q (.bl true) H'
theorem ok_law_step_right (T : Tx P K mg) (B : TbF K mg base) : Has P w K mg base 17 "_law_step_right" ["_law_pen", "_law_desk", "_law_states", "_law_bits"] (sp_step_right K) := by
  refine ⟨g_law_step_right T, ok_bodyC (p := ("_law_step_right", none)) (F_law_step_right T) sc_law_step_right (fun vs H Q E ⟨_, _, _, _, e, _⟩ => by rw [e]; rfl) (fun kV doc pm an cdv ct us hl => match us, hl with | [u, v, z, y], _ => rfl) fun A outer s H vs Q E hr h => ?_⟩
  obtain ⟨_, _, _, _, rfl, pen, c, x, ls, f, S, n, rfl, rfl, rfl, rfl, hn, hR, hz, q⟩ := h
  refine ⟨_, (pss_cons (ps_set (i := 4) sc_law_step_right.nd rfl (.inl rfl) (pe_ix ix_list (pv 2) (pe_un un_neg pe_int) (fun _ _ => rfl)))
    (pss_cons (ps_if (pt_cmpR op_eqM (pe_h (ok_law_draw (K := K) T) (hr.mono (by decide)) passL (pa_cons (pv 0) (pa_cons (pe_nat 7) pa_nil))) (pe_nat 0) (nomark _)) (pss_cons (ps_set (i := 5) sc_law_step_right.nd rfl (.inl rfl) (pe_ifExp (pt_cmpR op_eqM (pe_callB (call_lenM K) (by rfl) (b_len T) bb_len (pa_cons (pv 2) pa_nil)) (pe_nat 1) (nomark _)) (pe_lst (pa_cons pe_str pa_nil)) pe_non))
    (pss_cons (ps_if (pt_cmpR (op_neDK K hr.units) (pe_met T 14 (t := fun E => tMt (cDesk K) "undo" (sp_undo K) E (tVar 1) tNil) B.t1 tabs1 B.u1 (hr.mono (by decide)) ?lam1 (L := LamX.lamS_by (sc := defScope st_law_step_right) (by decide +kernel))) (pv 5) (nomark _)) (pss_one (ps_ret pe_bl)) pss_nil)
    (pss_cons (ps_if (pt_cmpR op_isN (pv 5) pe_non (nomark _)) (pss_one (ps_expr (pe_bm0 PySem.F.plainAttrs_list PySem.F.slot_list_pop PySem.F.type_list_pop mt_pop (pv 2)))) pss_nil)
    (pss_one (ps_ret (pe_h (ok_law_stands (K := K) T) (hr.mono (by decide)) passL (pa_cons (pv 1) (pa_cons (pe_ix ix_list (pv 2) (pe_un un_neg pe_int) (fun _ _ => rfl)) (pa_cons (pe_op op_subM (pe_callB (call_lenM K) (by rfl) (b_len T) bb_len (pa_cons (pv 2) pa_nil)) (pe_nat 1)) pa_nil))))))))) pss_nil)
    (pss_cons (ps_set (i := 9) sc_law_step_right.nd rfl (.inr rfl) (pe_h (ok_law_drawn_deed (K := K) T) (hr.mono (by decide)) passL (pa_cons (pv 0) (pa_cons (pv 4) (pa_cons (pv 3) pa_nil)))))
    (pss_cons (ps_asg (pe_h (ok_law_due_deed (K := K) T) (hr.mono (by decide)) passL (pa_cons (pv 4) (pa_cons (pv 9) pa_nil))) (pg_tupK (n := 2) K rfl (pgs_cons (pg_name (i := 5) sc_law_step_right.nd rfl (.inl rfl)) (pgs_cons (pg_name (i := 6) sc_law_step_right.nd rfl (.inl rfl)) pgs_nil))))
    (pss_cons (ps_set (i := 7) sc_law_step_right.nd rfl (.inl rfl) (pe_met T 14 (t := fun E => tCl (sp_act K) E (tCons (tVar 1) (tCons (tVar 9) tNil))) B.t1 tabs1 B.u1 (hr.mono (by decide)) ?lam2 (L := LamX.lamS_by (sc := defScope st_law_step_right) (by decide +kernel))))
    (pss_cons (ps_if (PW.pt (pw_and (pt_cmpR op_isN (pv 5) pe_non (nomark _)) (pw_and (pt_cmpR op_eq (pe_ix ix_tup (pv 9) (pe_nat 0) (fun _ _ => rfl)) pe_str (nomark _)) (pw_and1 (pt_cmpR (op_inD (u65 hr)) (pe_ix ix_tup (pv 9) (pe_nat 1) (fun _ _ => rfl)) (pe_dget (hu_of hr) (pv 4) pe_str (fun _ _ => rfl)) (by rfl)))))) (pss_one (ps_ret (pe_and (pe_cmpR op_isN (pv 7) pe_non (nomark _)) (pe_one (pe_h (ok_law_stands (K := K) T) (hr.mono (by decide)) passL (pa_cons (pv 1) (pa_cons (pv 4) (pa_cons (pe_op op_subM (pe_callB (call_lenM K) (by rfl) (b_len T) bb_len (pa_cons (pv 2) pa_nil)) (pe_nat 1)) pa_nil)))))))) pss_nil)
    (pss_cons (ps_set (i := 8) sc_law_step_right.nd rfl (.inl rfl) (pe_h (ok_law_first_broken (K := K) T) (hr.mono (by decide)) passL (pa_cons (pe_dget (hu_of hr) (pv 6) pe_str (fun _ _ => rfl)) (pa_cons (pe_dget (hu_of hr) (pv 6) pe_str (fun _ _ => rfl)) pa_nil))))
    (pss_cons (ps_if (PW.pt (pw_and (pt_cmpR op_isN (pv 5) pe_non (nomark _)) (pw_and (pt_cmpR op_ne (pe_ix ix_tup (pv 9) (pe_nat 0) (fun _ _ => rfl)) pe_str (nomark _)) (pw_and1 (pt_cmpR op_notN (pv 8) pe_non (nomark _)))))) (pss_one (ps_set (i := 5) sc_law_step_right.nd rfl (.inl rfl) (pe_lst (pa_cons pe_str (pa_cons (pv 8) pa_nil))))) pss_nil)
    (pss_cons (ps_if (pt_cmpR op_isN (pv 5) pe_non (nomark _)) (pss_one (ps_expr (pe_bm PySem.F.plainAttrs_list PySem.F.slot_list_append PySem.F.type_list_append mt_append (pv 2) (pa_cons (pv 6) pa_nil)))) pss_nil)
    (pss_one (ps_ret (pe_and (pe_cmpR (op_eqDK K hr.units) (pv 7) (pv 5) (nomark _)) (pe_one (pe_h (ok_law_stands (K := K) T) (hr.mono (by decide)) passL (pa_cons (pv 1) (pa_cons (pe_ix ix_list (pv 2) (pe_un un_neg pe_int) (fun _ _ => rfl)) (pa_cons (pe_op op_subM (pe_callB (call_lenM K) (by rfl) (b_len T) bb_len (pa_cons (pv 2) pa_nil)) (pe_nat 1)) pa_nil))))))))))))))))), ?_⟩
  case lam1 => exact fun A outer s H E f c' hr => (pe_hm0 (ok_Desk_undo (K := K) T) (own_Desk T) (hr.mono (by decide)) (passes_call (takes_of rfl rfl rfl rfl) fun _ _ _ _ h => h) (pv 1))
  case lam2 => exact fun A outer s H E f c' hr => (pe_h (ok_law_act (K := K) T) (hr.mono (by decide)) (passes_call (takes_of rfl rfl rfl rfl) fun _ _ _ _ h => h) (pa_cons (pv 1) (pa_cons (pv 9) pa_nil)))
  obtain ⟨ps, p, hl, hps, hst⟩ := hR.now
  refine ⟨_, rfl, 1, rfl, ls, _, -1, .ref p, rfl, rfl, SqL.of hl, atI_last, ?_⟩
  refine ⟨_, rfl, _, _, rfl, pen, c, f + 449, 7, rfl, rfl, by decide, by decide, hR.pen, fun r H1 hr1 e1 hp1 => ⟨r, 0, rfl, rfl, _, rfl, iteD (fun h0 => ?_) (fun h0 => ?_)⟩⟩
  · have R1 := hR.draw e1 hp1
    have hl1 := (hR.pen.stay e1).lst hl
    have hst1 := hst.sx hR.ok.now.ts hR.pen e1
    refine ⟨_, rfl, ls, true, _, rfl, SqL.of hl1, _, 1, rfl, rfl, _, rfl, iteD (fun hlen => ⟨by show 1 ≤ sizeLine; decide, fun ld hld => ?_⟩) (fun hlen => ?_)⟩
    · rw [len_st hps] at hlen
      have hpast : S.past = [] := List.length_eq_zero_iff.mp (by omega)
      have e2 := Same.new (o := .lst [.str "nothing"]) hld
      have R2 := R1.same e2
      have hld2 : upd H1 ld (.lst [.str "nothing"]) ld = some (.lst [.str "nothing"]) := upd_same
      refine ⟨R2.tab, fun H3 e3 T3 => ?_⟩
      have R3 := R2.ext e3 T3
      have hld3 := (NI.of e3).ls hld2
      have hl3 := (NI.of e3).ls (e2 _ _ hl1)
      have hst3 := (hst1.same e2).ni (NI.of e3)
      obtain ⟨dx, d, g, q9, hx⟩ := R3.desk.ins
      refine ⟨_, rfl, x, dx, _, rfl, hx, lk_Desk_no _ _ _ _ (by decide +kernel), _, rfl, x, S, rfl, R3.desk, (fun _ H4 e4 => .inr (.inr (.inr (.inr (.inr (.inl ⟨rfl, rfl, fun l9 hl9 => ?_⟩)))))), (fun es e9 hp9 => by rw [hpast] at hp9; cases es <;> cases hp9)⟩
      have e5 := e4.new' (o := .lst [.str "nothing"]) hl9
      refine ⟨_, rfl, _, _, dp_not upd_same, dp_not (e5 _ _ hld3), by decide +kernel, by decide +kernel, ?_⟩
      rw [show PyData.eqv (.list [.str "nothing"]) (.list [.str "nothing"]) = true from by decide +kernel]
      refine ⟨_, rfl, iteF ⟨_, rfl, rfl, _, rfl, iteD (fun z => nomatch z) (fun _ => ?_)⟩⟩
      have R5 := R3.same e5
      have hl5 := e5 _ _ hl3
      have hst5 := hst3.same e5
      refine ⟨_, rfl, _, rfl, 1, rfl, ls, _, -1, .ref p, rfl, rfl, SqL.of hl5, atI_last, _, rfl, ls, true, _, rfl, SqL.of hl5, _, 1, rfl, rfl, ?_⟩
      rw [len_st hps]
      exact ⟨by omega, _, _, _, rfl, x, _, p, rfl, rfl, rfl, (R5).desk, hst5, (R5).ok.now.ts, (R5).ok.now.gs, fun H9 e9 => q _ _ (((R5).mono (by omega)).same e9) (by omega)⟩
    · rw [len_st hps] at hlen
      refine ⟨R1.tab, fun H3 e3 T3 => ?_⟩
      have R3 := R1.ext e3 T3
      obtain ⟨dx, d, g, q9, hx⟩ := R3.desk.ins
      refine ⟨_, rfl, x, dx, _, rfl, hx, lk_Desk_no _ _ _ _ (by decide +kernel), _, rfl, x, S, rfl, R3.desk, (fun hn0 => absurd (by rw [hn0]; rfl) hlen), fun es e hpast H4 s4 hD4 => ?_⟩
      refine ⟨_, rfl, _, _, .non, .non, by decide +kernel, by decide +kernel, ?_⟩
      rw [show PyData.eqv .none .none = true from by decide +kernel]
      refine ⟨_, rfl, iteF ⟨_, rfl, rfl, _, rfl, iteD (fun _ => ?_) (fun z => absurd rfl z)⟩⟩
      have n4 := NI.ins hx s4
      have hp4 := R3.pen.ni n4
      have hs4 := R3.sts.ni n4
      have ht4 := tabs_ins R3.tab hx s4
      have hh : hist S = hist ⟨e.1, e.2, es⟩ ++ [(S.things, S.given)] := by unfold hist; rw [hpast]
      rw [hh] at hs4
      obtain ⟨qs, p4, hl4, hs5⟩ := StsAt.cut hs4 (by unfold hist; simp)
      rw [List.map_append] at hl4
      have hl4 : H4 ls = some (.lst (qs.map V.ref ++ [V.ref p4])) := hl4
      have hok5 : HistOk ⟨e.1, e.2, es⟩ := fun z hz => R3.ok z (by rw [hh]; exact List.mem_append_left _ hz)
      have hcl : c ≠ ls := by
        cases qs with
        | nil => exact cells_ne (ps := []) hl4 hp4
        | cons z zs => exact cells_ne (p := z) (ps := zs ++ [p4]) (by rw [hl4]; simp) hp4
      have R5 : Run K (upd H4 ls (.lst (qs.map V.ref))) pen c x ls (f + 449) ⟨e.1, e.2, es⟩ := ⟨hp4.set hl4 hcl, hD4.nl (NL.lst hl4), hs5, hok5, tabs_lst ht4 hl4⟩
      refine ⟨_, rfl, .inl ⟨rfl, _, SqL.of hl4⟩, ls, _, _, rfl, rfl, hl4, last_at, ?_⟩
      rw [List.dropLast_concat]
      obtain ⟨ps6, p6, hl6, hps6, hst6⟩ := R5.now
      have hlp : es.length ≤ S.past.length := by rw [hpast, List.length_append]; omega
      refine ⟨_, rfl, _, rfl, 1, rfl, ls, _, -1, .ref p6, rfl, rfl, SqL.of hl6, atI_last, _, rfl, ls, true, _, rfl, SqL.of hl6, _, 1, rfl, rfl, ?_⟩
      rw [len_st hps6]
      exact ⟨by omega, _, _, _, rfl, x, _, p6, rfl, rfl, rfl, (R5).desk, hst6, (R5).ok.now.ts, (R5).ok.now.gs, fun H9 e9 => q _ _ (((R5).mono (by omega)).same e9) (by show es.length ≤ _; omega)⟩
  · have R1 := hR.draw e1 hp1
    have hst1 := hst.sx hR.ok.now.ts hR.pen e1
    refine ⟨_, rfl, _, rfl, _, rfl, _, _, _, rfl, pen, c, f + 20, p, S.things, S.given, n, rfl, rfl, rfl, hn, hp1.mono (by omega), hst1, R1.ok.now.ts, R1.ok.now.gs, fun pd deed H2 hdA hdok e2 hp2 => ?_⟩
    have R2 := R1.draw e2 hp2
    have hst2 := hst1.sx R1.ok.now.ts R1.pen e2
    have hl2 := (R1.pen.stay e2).lst ((hR.pen.stay e1).lst hl)
    have hgk := R2.ok.now.gs.giv
    refine ⟨_, rfl, _, rfl, _, _, rfl, p, pd, S.things, S.given, deed, rfl, rfl, hst2, hdA, R2.ok.now.ts.ok, hgk, hdok.one, fun du t l H3 hdue e3 ht hdl => ?_, fun ts' gs' t l H3 hdue e3 ht hll => ?_⟩
    · refine ⟨t, _, rfl, SqT.of ht, rfl, _, _, rfl, _, _, rfl, rfl, ?_⟩
      have R3 := R2.same e3
      refine ⟨R3.tab, fun H4 e4 T4 => ?_⟩
      have R4 := R3.ext e4 T4
      have n4 := NI.of e4
      have n24 := (NI.same e3).trans n4
      refine ⟨_, rfl, _, rfl, _, _, rfl, x, S, pd, deed, .inl du, rfl, rfl, R4.desk, R4.ok.now.ts, R4.ok.now.gs, by omega, hdA.ni n24, hdok, hdue, ?_⟩
      refine outR_met (o := .err du) (fun ho => by cases ho) (fun du2 ho lt H5 e5 htd => ?_) (fun ts gs ho => by cases ho) fun du2 ho => by injection ho with ho; rw [← ho]; exact du_ok hdue hdok
      injection ho with ho
      subst ho
      have n25 := n24.trans (NI.same e5)
      have R5 := R4.same e5
      have hst5 := hst2.ni n25
      obtain ⟨dt, g, kvs, hs1, hd5, hR5, hg5⟩ := id hst5
      have gT : DGet H5 p (.str "things") (some (.ref dt)) := .inl ⟨_, Sum.inr "things", .inl hs1, rfl, (st_things dt g).symm⟩
      have gG : DGet H5 p (.str "given") (some (.ref g)) := .inl ⟨_, Sum.inr "given", .inl hs1, rfl, (st_given dt g).symm⟩
      refine ⟨_, rfl, rfl, _, rfl, iteD (fun z => nomatch z) (fun _ => ?_)⟩
      refine ⟨_, rfl, p, _, rfl, gT, _, rfl, p, _, rfl, gG, _, _, rfl, dt, kvs, S.things, g, S.given, rfl, rfl, hd5, hR5, R5.ok.now.ts.ok.wf, hg5, fun hb H6 e6 => ?_, fun pr hb pp H6 e6 hpp => ?_⟩
      · have R6 := R5.same e6
        refine ⟨_, rfl, rfl, _, rfl, iteD (fun z => nomatch z) (fun _ => ?_)⟩
        refine ⟨_, rfl, rfl, _, rfl, iteD (fun z => nomatch z) (fun _ => ?_)⟩
        refine ⟨_, rfl, _, rfl, _, _, (htd.ni (NI.same e6)).dp, (hdl.ni ((n4.trans (NI.same e5)).trans (NI.same e6))).dp, due_shaped (du_ok hdue hdok), due_shaped (du_ok hdue hdok), ?_⟩
        rw [due_self]
        have hl6 := (n25.trans (NI.same e6)).ls hl2
        have hst6 := hst5.same e6
        refine ⟨_, rfl, iteT ?_⟩
        refine ⟨_, rfl, _, rfl, 1, rfl, ls, _, -1, .ref p, rfl, rfl, SqL.of hl6, atI_last, _, rfl, ls, true, _, rfl, SqL.of hl6, _, 1, rfl, rfl, ?_⟩
        rw [len_st hps]
        exact ⟨by omega, _, _, _, rfl, x, _, p, rfl, rfl, rfl, (R6).desk, hst6, (R6).ok.now.ts, (R6).ok.now.gs, fun H9 e9 => q _ _ (((R6).mono (by omega)).same e9) (by omega)⟩
      · have R6 := R5.same e6
        refine ⟨_, rfl, rfl, _, rfl, iteD (fun z => nomatch z) (fun _ => ?_)⟩
        refine ⟨_, rfl, rfl, _, rfl, iteD (fun z => nomatch z) (fun _ => ?_)⟩
        refine ⟨_, rfl, _, rfl, _, _, (htd.ni (NI.same e6)).dp, (hdl.ni ((n4.trans (NI.same e5)).trans (NI.same e6))).dp, due_shaped (du_ok hdue hdok), due_shaped (du_ok hdue hdok), ?_⟩
        rw [due_self]
        have hl6 := (n25.trans (NI.same e6)).ls hl2
        have hst6 := hst5.same e6
        refine ⟨_, rfl, iteT ?_⟩
        refine ⟨_, rfl, _, rfl, 1, rfl, ls, _, -1, .ref p, rfl, rfl, SqL.of hl6, atI_last, _, rfl, ls, true, _, rfl, SqL.of hl6, _, 1, rfl, rfl, ?_⟩
        rw [len_st hps]
        exact ⟨by omega, _, _, _, rfl, x, _, p, rfl, rfl, rfl, (R6).desk, hst6, (R6).ok.now.ts, (R6).ok.now.gs, fun H9 e9 => q _ _ (((R6).mono (by omega)).same e9) (by omega)⟩
    · refine ⟨t, _, rfl, SqT.of ht, rfl, _, _, rfl, _, _, rfl, rfl, ?_⟩
      have R3 := R2.same e3
      obtain ⟨hts', hgs'⟩ := due_ok hdue R2.ok.now.ts R2.ok.now.gs hdok
      refine ⟨R3.tab, fun H4 e4 T4 => ?_⟩
      have R4 := R3.ext e4 T4
      have n4 := NI.of e4
      have n24 := (NI.same e3).trans n4
      refine ⟨_, rfl, _, rfl, _, _, rfl, x, S, pd, deed, .inr (ts', gs'), rfl, rfl, R4.desk, R4.ok.now.ts, R4.ok.now.gs, by omega, hdA.ni n24, hdok, hdue, ?_⟩
      refine outR_met (o := outOf S.given deed (.inr (ts', gs'))) (fun ho H5 e5 => ?_) (fun du ho lt H5 e5 htd => ?_) (fun ts2 gs2 ho H5 s5 hD5 => ?_) fun du ho => ?_
      · obtain ⟨pr, rfl, hin⟩ := out_same ho
        have n25 := n24.trans (NI.same e5)
        have R5 := R4.same e5
        have hst5 := hst2.ni n25
        have hdA5 := hdA.ni n25
        have hl5 := n25.ls hl2
        refine ⟨_, rfl, rfl, _, rfl, iteD (fun _ => tt_keep rfl rfl hdA5 hst5 hgk (fun hno => absurd hin (hno pr rfl)) (fun _ _ _ => ?_)) (fun z => absurd rfl z)⟩
        refine ⟨_, rfl, rfl, _, rfl, iteD (fun _ => ?_) (fun z => absurd rfl z)⟩
        refine ⟨_, rfl, _, rfl, _, rfl, ls, true, _, rfl, SqL.of hl5, _, 1, rfl, rfl, ?_⟩
        rw [len_st hps]
        exact ⟨by omega, _, _, _, rfl, x, _, p, rfl, rfl, rfl, R5.desk, hst5, R5.ok.now.ts, R5.ok.now.gs, fun H9 e9 => q _ _ ((R5.mono (by omega)).same e9) (by omega)⟩
      · obtain ⟨pr, rfl, hb, hnr, hk⟩ := out_err ho
        have n25 := n24.trans (NI.same e5)
        have R5 := R4.same e5
        have hst5 := hst2.ni n25
        have hdA5 := hdA.ni n25
        have hl5 := n25.ls hl2
        have hll5 := hll.ni (n4.trans (NI.same e5))
        refine ⟨_, rfl, rfl, _, rfl, iteD (fun _ => tt_keep rfl rfl hdA5 hst5 hgk (fun _ => ?_) (fun p hp hin => absurd hin (hk p hp))) (fun z => absurd rfl z)⟩
        obtain ⟨dt, g, kvs, hs1, hd5, hR5, hg5⟩ := id hll5
        refine ⟨_, rfl, l, _, rfl, .inl ⟨_, Sum.inr "things", .inl hs1, rfl, (st_things dt g).symm⟩, _, rfl, l, _, rfl, .inl ⟨_, Sum.inr "given", .inl hs1, rfl, (st_given dt g).symm⟩, _, _, rfl, dt, kvs, ts', g, gs', rfl, rfl, hd5, hR5, hts'.ok.wf, hg5, (fun hb' => by rw [hb] at hb'; cases hb'), fun pr2 hb2 pp H6 e6 hpp => ?_⟩
        obtain rfl : pr = pr2 := by rw [hb] at hb2; exact Option.some.inj hb2
        refine ⟨_, rfl, rfl, _, rfl, iteD (fun _ => tt_kindN rfl (hdA5.ni (NI.same e6)) (iteN (fun _ => ⟨_, rfl, rfl, _, rfl, iteN (fun _ => ⟨_, rfl, by show 2 ≤ sizeLine; decide, fun ld hld => ?_⟩) (fun z => nomatch z)⟩) (fun z => absurd z hnr))) (fun z => absurd rfl z)⟩
        refine ⟨_, rfl, rfl, _, rfl, iteD (fun z => nomatch z) (fun _ => ?_)⟩
        have e7 := e6.new' (o := .lst [.str "broken", .ref pp]) hld
        have hpo : PrmOk pr := hgs'.ok pr (broken_mem hb)
        have hdue7 : DueAt (upd H6 ld (.lst [.str "broken", .ref pp])) ld (.broken pr) := ⟨pp, upd_same, (Same.new hld) _ _ hpp, hpo⟩
        refine ⟨_, rfl, _, rfl, _, _, (htd.ni (NI.same e7)).dp, hdue7.dp, due_shaped hpo, due_shaped hpo, ?_⟩
        rw [due_self]
        have R7 := R5.same e7
        have hl7 := e7 _ _ hl5
        have hst7 := hst5.same e7
        refine ⟨_, rfl, iteT ?_⟩
        refine ⟨_, rfl, _, rfl, 1, rfl, ls, _, -1, .ref p, rfl, rfl, SqL.of hl7, atI_last, _, rfl, ls, true, _, rfl, SqL.of hl7, _, 1, rfl, rfl, ?_⟩
        rw [len_st hps]
        exact ⟨by omega, _, _, _, rfl, x, _, p, rfl, rfl, rfl, (R7).desk, hst7, (R7).ok.now.ts, (R7).ok.now.gs, fun H9 e9 => q _ _ (((R7).mono (by omega)).same e9) (by omega)⟩
      · obtain ⟨rfl, rfl, hrel, hk⟩ := out_done ho
        obtain ⟨dx, d0, g0, q9, hx4⟩ := R4.desk.ins
        have n5 := NI.ins hx4 s5
        have n25 := n24.trans n5
        have hst5 := hst2.ni n25
        have hdA5 := hdA.ni n25
        have hl5 := n25.ls hl2
        have hll5 := hll.ni (n4.trans n5)
        have hp5 := R4.pen.ni n5
        have hs5 := R4.sts.ni n5
        have ht5 := tabs_ins R4.tab hx4 s5
        refine ⟨_, rfl, rfl, _, rfl, iteD (fun _ => tt_keep rfl rfl hdA5 hst5 hgk (fun _ => ?_) (fun p hp hin => absurd hin (hk p hp))) (fun z => absurd rfl z)⟩
        obtain ⟨dt, g, kvs, hs1, hd5, hR5, hg5⟩ := id hll5
        refine ⟨_, rfl, l, _, rfl, .inl ⟨_, Sum.inr "things", .inl hs1, rfl, (st_things dt g).symm⟩, _, rfl, l, _, rfl, .inl ⟨_, Sum.inr "given", .inl hs1, rfl, (st_given dt g).symm⟩, _, _, rfl, dt, kvs, ts2, g, gs2, rfl, rfl, hd5, hR5, hts'.ok.wf, hg5, (fun hb H6 e6 => ?_), fun pr2 hb2 pp H6 e6 hpp => ?_⟩
        · refine ⟨_, rfl, rfl, _, rfl, iteD (fun _ => tt_kindN rfl (hdA5.ni (NI.same e6)) (iteN (fun _ => ⟨_, rfl, rfl, _, rfl, iteN (fun z => absurd rfl z) (fun _ => ?_)⟩) (fun _ => ?_))) (fun z => absurd rfl z)⟩
          · refine ⟨_, rfl, rfl, _, rfl, iteD (fun _ => ?_) (fun z => absurd rfl z)⟩
            have hl6 := e6 _ _ hl5
            have hcl : c ≠ ls := by
              cases ps with
              | nil => exact cells_ne (ps := []) hl6 (hp5.same e6)
              | cons z zs => exact cells_ne (p := z) (ps := zs ++ [p]) (by rw [hl6]; simp) (hp5.same e6)
            refine ⟨_, rfl, .inl ⟨rfl, _, SqL.of hl6⟩, _, rfl, ls, _, _, rfl, rfl, hl6, small1000 (by rw [len_st hps]; omega), ?_⟩
            have hl6' : H6 ls = some (.lst ((ps ++ [p]).map V.ref)) := by rw [hl6, List.map_append]; rfl
            have hll7 := (hll5.same e6)
            have hs7 := StsAt.snoc (hs5.ni (NI.same e6)) (by unfold hist; simp) hll7 hl6'
            have hlu : (ps ++ [p]).map V.ref = ps.map V.ref ++ [V.ref p] := by rw [List.map_append]; rfl
            rw [hlu] at hs7
            have hh : hist ⟨ts2, gs2, S.past ++ [(S.things, S.given)]⟩ = hist S ++ [(ts2, gs2)] := rfl
            have R7 : Run K (upd H6 ls (.lst (ps.map V.ref ++ [V.ref p] ++ [V.ref l]))) pen c x ls (f + 20) ⟨ts2, gs2, S.past ++ [(S.things, S.given)]⟩ := ⟨(hp5.same e6).set hl6 hcl, (hD5.same e6).nl (NL.lst hl6), hs7, (fun z hz => by
                rw [hh] at hz
                rcases List.mem_append.mp hz with hz | hz
                · exact R4.ok z hz
                · rw [List.mem_singleton.mp hz]; exact ⟨hts', hgs'⟩), tabs_lst (tabs_same ht5 e6) hl6⟩
            refine ⟨_, rfl, _, rfl, _, _, .non, .non, by decide +kernel, by decide +kernel, ?_⟩
            rw [show PyData.eqv .none .none = true from by decide +kernel]
            obtain ⟨ps8, p8, hl8, hps8, hst8⟩ := R7.now
            refine ⟨_, rfl, iteT ?_⟩
            refine ⟨_, rfl, _, rfl, 1, rfl, ls, _, -1, .ref p8, rfl, rfl, SqL.of hl8, atI_last, _, rfl, ls, true, _, rfl, SqL.of hl8, _, 1, rfl, rfl, ?_⟩
            rw [len_st hps8]
            exact ⟨by omega, _, _, _, rfl, x, _, p8, rfl, rfl, rfl, (R7).desk, hst8, (R7).ok.now.ts, (R7).ok.now.gs, fun H9 e9 => q _ _ (((R7).mono (by omega)).same e9) (by show (S.past ++ [(S.things, S.given)]).length ≤ _; rw [List.length_append]; exact Nat.le_refl _)⟩
          · refine ⟨_, rfl, rfl, _, rfl, iteD (fun _ => ?_) (fun z => absurd rfl z)⟩
            have hl6 := e6 _ _ hl5
            have hcl : c ≠ ls := by
              cases ps with
              | nil => exact cells_ne (ps := []) hl6 (hp5.same e6)
              | cons z zs => exact cells_ne (p := z) (ps := zs ++ [p]) (by rw [hl6]; simp) (hp5.same e6)
            refine ⟨_, rfl, .inl ⟨rfl, _, SqL.of hl6⟩, _, rfl, ls, _, _, rfl, rfl, hl6, small1000 (by rw [len_st hps]; omega), ?_⟩
            have hl6' : H6 ls = some (.lst ((ps ++ [p]).map V.ref)) := by rw [hl6, List.map_append]; rfl
            have hll7 := (hll5.same e6)
            have hs7 := StsAt.snoc (hs5.ni (NI.same e6)) (by unfold hist; simp) hll7 hl6'
            have hlu : (ps ++ [p]).map V.ref = ps.map V.ref ++ [V.ref p] := by rw [List.map_append]; rfl
            rw [hlu] at hs7
            have hh : hist ⟨ts2, gs2, S.past ++ [(S.things, S.given)]⟩ = hist S ++ [(ts2, gs2)] := rfl
            have R7 : Run K (upd H6 ls (.lst (ps.map V.ref ++ [V.ref p] ++ [V.ref l]))) pen c x ls (f + 20) ⟨ts2, gs2, S.past ++ [(S.things, S.given)]⟩ := ⟨(hp5.same e6).set hl6 hcl, (hD5.same e6).nl (NL.lst hl6), hs7, (fun z hz => by
                rw [hh] at hz
                rcases List.mem_append.mp hz with hz | hz
                · exact R4.ok z hz
                · rw [List.mem_singleton.mp hz]; exact ⟨hts', hgs'⟩), tabs_lst (tabs_same ht5 e6) hl6⟩
            refine ⟨_, rfl, _, rfl, _, _, .non, .non, by decide +kernel, by decide +kernel, ?_⟩
            rw [show PyData.eqv .none .none = true from by decide +kernel]
            obtain ⟨ps8, p8, hl8, hps8, hst8⟩ := R7.now
            refine ⟨_, rfl, iteT ?_⟩
            refine ⟨_, rfl, _, rfl, 1, rfl, ls, _, -1, .ref p8, rfl, rfl, SqL.of hl8, atI_last, _, rfl, ls, true, _, rfl, SqL.of hl8, _, 1, rfl, rfl, ?_⟩
            rw [len_st hps8]
            exact ⟨by omega, _, _, _, rfl, x, _, p8, rfl, rfl, rfl, (R7).desk, hst8, (R7).ok.now.ts, (R7).ok.now.gs, fun H9 e9 => q _ _ (((R7).mono (by omega)).same e9) (by show (S.past ++ [(S.things, S.given)]).length ≤ _; rw [List.length_append]; exact Nat.le_refl _)⟩
        · rcases hrel with hrel | ⟨hnr, hb0⟩
          · refine ⟨_, rfl, rfl, _, rfl, iteD (fun _ => tt_kindN rfl (hdA5.ni (NI.same e6)) (iteN (fun z => absurd hrel z) (fun _ => ?_))) (fun z => absurd rfl z)⟩
            refine ⟨_, rfl, rfl, _, rfl, iteD (fun _ => ?_) (fun z => absurd rfl z)⟩
            have hl6 := e6 _ _ hl5
            have hcl : c ≠ ls := by
              cases ps with
              | nil => exact cells_ne (ps := []) hl6 (hp5.same e6)
              | cons z zs => exact cells_ne (p := z) (ps := zs ++ [p]) (by rw [hl6]; simp) (hp5.same e6)
            refine ⟨_, rfl, .inl ⟨rfl, _, SqL.of hl6⟩, _, rfl, ls, _, _, rfl, rfl, hl6, small1000 (by rw [len_st hps]; omega), ?_⟩
            have hl6' : H6 ls = some (.lst ((ps ++ [p]).map V.ref)) := by rw [hl6, List.map_append]; rfl
            have hll7 := (hll5.same e6)
            have hs7 := StsAt.snoc (hs5.ni (NI.same e6)) (by unfold hist; simp) hll7 hl6'
            have hlu : (ps ++ [p]).map V.ref = ps.map V.ref ++ [V.ref p] := by rw [List.map_append]; rfl
            rw [hlu] at hs7
            have hh : hist ⟨ts2, gs2, S.past ++ [(S.things, S.given)]⟩ = hist S ++ [(ts2, gs2)] := rfl
            have R7 : Run K (upd H6 ls (.lst (ps.map V.ref ++ [V.ref p] ++ [V.ref l]))) pen c x ls (f + 20) ⟨ts2, gs2, S.past ++ [(S.things, S.given)]⟩ := ⟨(hp5.same e6).set hl6 hcl, (hD5.same e6).nl (NL.lst hl6), hs7, (fun z hz => by
                rw [hh] at hz
                rcases List.mem_append.mp hz with hz | hz
                · exact R4.ok z hz
                · rw [List.mem_singleton.mp hz]; exact ⟨hts', hgs'⟩), tabs_lst (tabs_same ht5 e6) hl6⟩
            refine ⟨_, rfl, _, rfl, _, _, .non, .non, by decide +kernel, by decide +kernel, ?_⟩
            rw [show PyData.eqv .none .none = true from by decide +kernel]
            obtain ⟨ps8, p8, hl8, hps8, hst8⟩ := R7.now
            refine ⟨_, rfl, iteT ?_⟩
            refine ⟨_, rfl, _, rfl, 1, rfl, ls, _, -1, .ref p8, rfl, rfl, SqL.of hl8, atI_last, _, rfl, ls, true, _, rfl, SqL.of hl8, _, 1, rfl, rfl, ?_⟩
            rw [len_st hps8]
            exact ⟨by omega, _, _, _, rfl, x, _, p8, rfl, rfl, rfl, (R7).desk, hst8, (R7).ok.now.ts, (R7).ok.now.gs, fun H9 e9 => q _ _ (((R7).mono (by omega)).same e9) (by show (S.past ++ [(S.things, S.given)]).length ≤ _; rw [List.length_append]; exact Nat.le_refl _)⟩
          · rw [hb0] at hb2
            cases hb2
      · obtain ⟨pr, rfl, hb, _⟩ := out_err ho
        exact hgs'.ok pr (broken_mem hb)
end
end L2.Lk
/-! L22 -/
set_option Elab.async false
set_option linter.all false
set_option maxRecDepth 100000
set_option maxHeartbeats 2000000
namespace L2.Lk
open PySem PySem.Spec PyProof.Rows
/-! ### spoilt promises -/
def lenOkV : V → Bool
  | .str x => decide (x.length ≤ sizeLine)
  | _ => true
def badB (xs : List V) : Bool := xs.all flatOk && (xs.all lenOkV && !pgood xs)
def baseV (v : V) : List V := [v, .str "a", .str "b"] ++ (if inV v [.str "alike", .str "free"] = true then [] else [nV 2])
abbrev oddN : List V := [.str "A", .str "", .str "a1", .str "ninelette", nV 5, .non]
abbrev oddC : List V := [.int (-1), .bl true, .non, .str "1"]
abbrev oddW : List V := [.str "Alike", .str "", nV 5, .non]
theorem bad0 {v : V} (h : v ∈ wordsL) : badB (baseV v).dropLast = true := List.all_eq_true.mp (by decide +kernel : (wordsL.all fun v => badB (baseV v).dropLast) = true) v h
theorem bad1 {v : V} (h : v ∈ wordsL) : badB (baseV v ++ [nV 0]) = true := List.all_eq_true.mp (by decide +kernel : (wordsL.all fun v => badB (baseV v ++ [nV 0])) = true) v h
theorem bad2 {v u : V} {d : Nat} (h : v ∈ wordsL) (hu : u ∈ oddN) (hd : d < 2) : badB ((baseV v).set (1 + d) u) = true :=
  List.all_eq_true.mp (List.all_eq_true.mp (List.all_eq_true.mp (by decide +kernel : (wordsL.all fun v => oddN.all fun u => (List.range 2).all fun d => badB ((baseV v).set (1 + d) u)) = true) v h) u hu) d (List.mem_range.mpr hd)
theorem bad3 {v u : V} (h : v ∈ wordsL) (hl : (baseV v).length = 4) (hu : u ∈ oddC) : badB ((baseV v).set 3 u) = true := by
  have := List.all_eq_true.mp (List.all_eq_true.mp (by decide +kernel : (wordsL.all fun v => oddC.all fun u => !decide ((baseV v).length = 4) || badB ((baseV v).set 3 u)) = true) v h) u hu
  rw [decide_eq_true hl] at this
  exact this
theorem bad4 {v u : V} (h : v ∈ wordsL) (hu : u ∈ oddW) : badB ((baseV v).set 0 u) = true :=
  List.all_eq_true.mp (List.all_eq_true.mp (by decide +kernel : (wordsL.all fun v => oddW.all fun u => badB ((baseV v).set 0 u)) = true) v h) u hu
theorem base_len (v : V) : 3 ≤ (baseV v).length ∧ (baseV v).length ≤ 4 := by
  unfold baseV
  cases inV v [.str "alike", .str "free"] <;> simp
theorem base_last (v : V) : ∃ y, (baseV v)[(baseV v).length - 1]? = some y := ⟨_, List.getElem?_eq_getElem (by have := base_len v; omega)⟩
theorem ix_of {n j : Nat} (h : j < n) : ixN n ((j : Nat) : Int) = some j := by
  unfold ixN
  rw [if_pos (by omega), if_pos (by omega), Int.toNat_natCast]
section
variable {P : Program} {w : World} {K : PySem.W.Frag} {mg : Str → Option Value} {base : Heap}
abbrev sp_spoilt (K : PySem.W.Frag) : L2.Sp := S1 fun a H Q _ => ∃ pen c f, a = .ref pen ∧ PenAt H pen c (f + 5) ∧ ∀ p xs H', badB xs = true → Sx [pen] H H' → H' p = some (.tup xs) → PenAt H' pen c f → Q (.ref p) H'
theorem ok_law_spoilt (T : Tx P K mg) : Has P w K mg base 3 "_law_spoilt" ["_law_pen"] (sp_spoilt K) := by
  refine ⟨g_law_spoilt T, ok1 (F_law_spoilt T) sc_law_spoilt fun cdv A outer s H a Q E hr h => ?_⟩
  obtain ⟨pen, c, f, rfl, hpen, q⟩ := h
  refine ⟨_, (pss_cons (ps_par (i := 1) (j := 2) rfl sc_law_spoilt.nd rfl rfl (by decide) rfl rfl (pa_cons (pe_h (ok_law_pick (K := K) T) (hr.mono (by decide)) passL (pa_cons (pv 0) (pa_cons (pe_lst (pa_cons pe_str (pa_cons pe_str (pa_cons pe_str (pa_cons pe_str (pa_cons pe_str (pa_cons pe_str pa_nil))))))) pa_nil))) (pa_cons (pe_h (ok_law_draw (K := K) T) (hr.mono (by decide)) passL (pa_cons (pv 0) (pa_cons (pe_nat 5) pa_nil))) pa_nil)) (by rfl))
    (pss_cons (ps_set (i := 3) sc_law_spoilt.nd rfl (.inl rfl) (pe_op op_cat (pe_lst (pa_cons (pv 1) (pa_cons pe_str (pa_cons pe_str pa_nil)))) (pe_op op_rep (pe_lst (pa_cons (pe_nat 2) pa_nil)) (pe_callTy call_int1 (by rfl) (b_int T) bb_int (pa_cons (pe_cmpR op_notIn_seq (pv 1) (pe_lst (pa_cons pe_str (pa_cons pe_str pa_nil))) (by rfl)) pa_nil)))))
    (pss_cons (ps_if (pt_cmpR op_eqM (pv 2) (pe_nat 0) (nomark _)) (pss_one (ps_expr (pe_bm0 PySem.F.plainAttrs_list PySem.F.slot_list_pop PySem.F.type_list_pop mt_pop (pv 3)))) (pss_one (ps_if (pt_cmpR op_eqM (pv 2) (pe_nat 1) (nomark _)) (pss_one (ps_expr (pe_bm PySem.F.plainAttrs_list PySem.F.slot_list_append PySem.F.type_list_append mt_append (pv 3) (pa_cons (pe_nat 0) pa_nil)))) (pss_one (ps_if (pt_cmpR op_eqM (pv 2) (pe_nat 2) (nomark _)) (pss_one (ps_asg (pe_h (ok_law_pick (K := K) T) (hr.mono (by decide)) passL (pa_cons (pv 0) (pa_cons (pe_lst (pa_cons pe_str (pa_cons pe_str (pa_cons pe_str (pa_cons pe_str (pa_cons (pe_nat 5) (pa_cons pe_non pa_nil))))))) pa_nil))) (pg_sub (pv 3) (pe_op op_addM (pe_nat 1) (pe_h (ok_law_draw (K := K) T) (hr.mono (by decide)) passL (pa_cons (pv 0) (pa_cons (pe_nat 2) pa_nil)))) set_list))) (pss_one (ps_if (PW.pt (pw_and (pt_cmpR op_eqM (pv 2) (pe_nat 3) (nomark _)) (pw_and1 (pt_cmpR op_eqM (pe_callB (call_lenM K) (by rfl) (b_len T) bb_len (pa_cons (pv 3) pa_nil)) (pe_nat 4) (nomark _))))) (pss_one (ps_asg (pe_h (ok_law_pick (K := K) T) (hr.mono (by decide)) passL (pa_cons (pv 0) (pa_cons (pe_lst (pa_cons (pe_un un_neg pe_int) (pa_cons pe_bl (pa_cons pe_non (pa_cons pe_str pa_nil))))) pa_nil))) (pg_sub (pv 3) (pe_nat 3) set_list))) (pss_one (ps_asg (pe_h (ok_law_pick (K := K) T) (hr.mono (by decide)) passL (pa_cons (pv 0) (pa_cons (pe_lst (pa_cons pe_str (pa_cons pe_str (pa_cons (pe_nat 5) (pa_cons pe_non pa_nil))))) pa_nil))) (pg_sub (pv 3) (pe_nat 0) set_list))))))))))
    (pss_one (ps_ret (pe_callTy call_tuple_of (by rfl) (b_tuple T) bb_tuple (pa_cons (pv 3) pa_nil))))))), ?_⟩
  refine ⟨_, rfl, by show 6 ≤ sizeLine; decide, fun l hl => ?_⟩
  have e1 := Same.new (o := .lst wordsL) hl
  refine ⟨_, _, rfl, pen, c, f + 4, l, _, rfl, rfl, SqL.of upd_same, by show 1 ≤ 6; decide, by show 6 ≤ 1000; decide, hpen.same e1, fun i v H2 hi e2 hp2 => ?_⟩
  refine ⟨_, rfl, _, _, rfl, pen, c, f + 3, 5, rfl, rfl, by decide, by decide, hp2, fun way H3 hway e3 hp3 => ⟨_, _, rfl, ?_⟩⟩
  have hv : v ∈ wordsL := List.mem_of_getElem? hi
  have fv : flatV v = true := by
    simp only [wordsL, List.mem_cons, List.not_mem_nil, or_false] at hv
    rcases hv with rfl | rfl | rfl | rfl | rfl | rfl <;> rfl
  refine ⟨_, rfl, by show 3 ≤ sizeLine; decide, fun lA hlA => ⟨by show 1 ≤ sizeLine; decide, fun lB hlB => ⟨_, rfl, by show 2 ≤ sizeLine; decide, fun lC hlC => ?_⟩⟩⟩
  have eA := Same.new (o := .lst [v, .str "a", .str "b"]) hlA
  have eB := Same.new (o := .lst [nV 2]) hlB
  have eC := Same.new (o := .lst [.str "alike", .str "free"]) hlC
  refine ⟨lC, _, rfl, .inl (SqL.of upd_same), fv, rfl, .inr ⟨_, rfl, ?_⟩⟩
  rw [if_pos rfl]
  refine ⟨lB, _, _, rfl, rfl, eC _ _ upd_same, ?_, ?_, ?_, fun lD hlD => ?_⟩
  · cases inV v [.str "alike", .str "free"] <;> decide
  · cases inV v [.str "alike", .str "free"] <;> decide
  · cases inV v [.str "alike", .str "free"] <;> decide
  have hD : (List.replicate (if (!inV v [.str "alike", .str "free"]) = true then (1 : Int) else 0).toNat [nV 2]).flatten = if inV v [.str "alike", .str "free"] = true then [] else [nV 2] := by
    cases inV v [.str "alike", .str "free"] <;> rfl
  rw [hD]
  have eD := Same.new (o := .lst (if inV v [.str "alike", .str "free"] = true then [] else [nV 2])) hlD
  refine ⟨lA, lD, _, _, rfl, rfl, ((eB.trans eC).trans eD) _ _ upd_same, upd_same, ?_, fun lt hlt => ?_⟩
  · cases inV v [.str "alike", .str "free"]
    · show 3 + 1 ≤ sizeLine; decide
    · show 3 + 0 ≤ sizeLine; decide
  have e4 := ((eA.trans eB).trans (eC.trans eD)).trans (Same.new (o := .lst (baseV v)) hlt)
  have hltH : H lt = none := hp3.free ((e1.sx.trans e2).trans e3) (((eA.trans eB).trans (eC.trans eD)).free hlt)
  have hr4 : ∀ {H0 : Hp}, (upd H0 lt (.lst (baseV v))) lt = some (.lst (baseV v)) := fun {H0} => upd_same
  have e04 := ((e1.sx.trans e2).trans e3).then e4
  have hp4 := hp3.same e4
  show _
  refine ⟨_, rfl, way, 0, rfl, rfl, _, rfl, iteD (fun h0 => ?_) (fun h0 => ?_)⟩
  · obtain ⟨y, hy⟩ := base_last v
    refine ⟨_, rfl, .inl ⟨rfl, _, SqL.of upd_same⟩, lt, _, _, rfl, rfl, upd_same, hy, ?_⟩
    refine ⟨_, rfl, lt, _, rfl, .inl ⟨SqL.of upd_same, fun p hp => q p _ _ (bad0 hv) ?_ upd_same ?_⟩⟩
    · exact (e04.but hltH).then (Same.new hp)
    · exact ((hpen.keep hltH hp4).mono (by omega)).same (Same.new hp)
  refine ⟨_, rfl, way, 1, rfl, rfl, _, rfl, iteD (fun h1 => ?_) (fun h1 => ?_)⟩
  · refine ⟨_, rfl, .inl ⟨rfl, _, SqL.of upd_same⟩, lt, _, _, rfl, rfl, upd_same, small1000 (by have := base_len v; show (baseV v).length ≤ _; omega), ?_⟩
    refine ⟨_, rfl, lt, _, rfl, .inl ⟨SqL.of upd_same, fun p hp => q p _ _ (bad1 hv) ?_ upd_same ?_⟩⟩
    · exact (e04.but hltH).then (Same.new hp)
    · exact ((hpen.keep hltH hp4).mono (by omega)).same (Same.new hp)
  refine ⟨_, rfl, way, 2, rfl, rfl, _, rfl, iteD (fun h2 => ?_) (fun h2 => ?_)⟩
  · refine ⟨_, rfl, by show 6 ≤ sizeLine; decide, fun l5 hl5 => ?_⟩
    have e5 := Same.new (o := .lst oddN) hl5
    refine ⟨_, _, rfl, pen, c, f + 2, l5, _, rfl, rfl, SqL.of upd_same, by show 1 ≤ 6; decide, by show 6 ≤ 1000; decide, (hp4.same e5).mono (by omega), fun j u H6 hj e6 hp6 => ?_⟩
    have hr6 := ((hp4.same e5).stay e6).lst (e5 _ _ hr4)
    refine ⟨_, rfl, _, rfl, _, _, rfl, pen, c, f + 1, 2, rfl, rfl, by decide, by decide, hp6, fun d H7 hd e7 hp7 => ⟨1, d, rfl, rfl, lt, _, _, 1 + d, rfl, rfl, (hp6.stay e7).lst hr6, ix_of (by have := base_len v; omega), ?_⟩⟩
    refine ⟨_, rfl, lt, _, rfl, .inl ⟨SqL.of upd_same, fun p hp => q p _ _ (bad2 hv (List.mem_of_getElem? hj) hd) ?_ upd_same ?_⟩⟩
    · exact ((((e04.then e5).trans e6).trans e7).but hltH).then (Same.new hp)
    · exact ((hpen.keep hltH hp7).mono (by omega)).same (Same.new hp)
  refine ⟨_, rfl, way, 3, rfl, rfl, _, rfl, iteD (fun h3 => ⟨_, rfl, lt, true, _, rfl, SqL.of upd_same, _, 4, rfl, rfl, _, rfl, iteD (fun h4 => ?_) (fun h4 => ?_)⟩) (fun h3 => ?_)⟩
  · refine ⟨_, rfl, 1, rfl, by show 4 ≤ sizeLine; decide, fun l5 hl5 => ?_⟩
    have e5 := Same.new (o := .lst oddC) hl5
    refine ⟨_, _, rfl, pen, c, f + 2, l5, _, rfl, rfl, SqL.of upd_same, by show 1 ≤ 4; decide, by show 4 ≤ 1000; decide, (hp4.same e5).mono (by omega), fun j u H6 hj e6 hp6 => ?_⟩
    have hr6 := ((hp4.same e5).stay e6).lst (e5 _ _ hr4)
    refine ⟨_, rfl, lt, _, _, 3, rfl, rfl, hr6, ix_of (by have : (baseV v).length = 4 := h4; omega), ?_⟩
    refine ⟨_, rfl, lt, _, rfl, .inl ⟨SqL.of upd_same, fun p hp => q p _ _ (bad3 hv h4 (List.mem_of_getElem? hj)) ?_ upd_same ?_⟩⟩
    · exact (((e04.then e5).trans e6).but hltH).then (Same.new hp)
    · exact ((hpen.keep hltH hp6).mono (by omega)).same (Same.new hp)
  · refine ⟨_, rfl, by show 4 ≤ sizeLine; decide, fun l5 hl5 => ?_⟩
    have e5 := Same.new (o := .lst oddW) hl5
    refine ⟨_, _, rfl, pen, c, f + 2, l5, _, rfl, rfl, SqL.of upd_same, by show 1 ≤ 4; decide, by show 4 ≤ 1000; decide, (hp4.same e5).mono (by omega), fun j u H6 hj e6 hp6 => ?_⟩
    have hr6 := ((hp4.same e5).stay e6).lst (e5 _ _ hr4)
    refine ⟨_, rfl, lt, _, _, 0, rfl, rfl, hr6, ix_of (by have := base_len v; omega), ?_⟩
    refine ⟨_, rfl, lt, _, rfl, .inl ⟨SqL.of upd_same, fun p hp => q p _ _ (bad4 hv (List.mem_of_getElem? hj)) ?_ upd_same ?_⟩⟩
    · exact (((e04.then e5).trans e6).but hltH).then (Same.new hp)
    · exact ((hpen.keep hltH hp6).mono (by omega)).same (Same.new hp)
  · refine ⟨_, rfl, by show 4 ≤ sizeLine; decide, fun l5 hl5 => ?_⟩
    have e5 := Same.new (o := .lst oddW) hl5
    refine ⟨_, _, rfl, pen, c, f + 2, l5, _, rfl, rfl, SqL.of upd_same, by show 1 ≤ 4; decide, by show 4 ≤ 1000; decide, (hp4.same e5).mono (by omega), fun j u H6 hj e6 hp6 => ?_⟩
    have hr6 := ((hp4.same e5).stay e6).lst (e5 _ _ hr4)
    refine ⟨_, rfl, lt, _, _, 0, rfl, rfl, hr6, ix_of (by have := base_len v; omega), ?_⟩
    refine ⟨_, rfl, lt, _, rfl, .inl ⟨SqL.of upd_same, fun p hp => q p _ _ (bad4 hv (List.mem_of_getElem? hj)) ?_ upd_same ?_⟩⟩
    · exact (((e04.then e5).trans e6).but hltH).then (Same.new hp)
    · exact ((hpen.keep hltH hp6).mono (by omega)).same (Same.new hp)
end
end L2.Lk
/-! L23 -/
set_option Elab.async false
set_option linter.all false
set_option maxRecDepth 100000
set_option maxHeartbeats 2000000
namespace L2.Lk
open PySem PySem.Spec PyProof.Rows
theorem op_eqVK {X : Cx} (K : PySem.W.Frag) (hu : X.A.units + 64 < cLine) (hK : X.K = K := by rfl) : OpR X (compareOp .Eq) (rEqV K) := by
  subst hK
  exact op_eqV hu
section
variable {P : Program} {w : World} {K : PySem.W.Frag} {mg : Str → Option Value} {base : Heap}
/-- the odd values -/
inductive OV (H : Hp) : V → Prop
  | non : OV H .non
  | int (n : Nat) : OV H (nV n)
  | str (s : Str) : s.length ≤ sizeLine → s ∉ abcd → OV H (.str s)
  | tup (p : Addr) (xs : List V) : H p = some (.tup xs) → badB xs = true → OV H (.ref p)
  | lst (p : Addr) (s : Str) (xs : List V) : H p = some (.lst (.str s :: xs)) → OV H (.ref p)
def WV (H : Hp) (v : V) : Prop := OV H v ∨ ∃ p, v = .ref p ∧ H p = some (.dK [])
section
variable {H H' : Hp} {v : V}
theorem OV.ni (h : OV H v) (e : NI H H') : OV H' v := by
  cases h with
  | non => exact .non
  | int n => exact .int n
  | str s h1 h2 => exact .str s h1 h2
  | tup p xs h1 h2 => exact .tup p xs (e.tps.t _ _ h1) h2
  | lst p s xs h1 => exact .lst p s xs (e.ls h1)
theorem OV.stay (h : OV H v) (e : Stay H H') : OV H' v := by
  cases h with
  | non => exact .non
  | int n => exact .int n
  | str s h1 h2 => exact .str s h1 h2
  | tup p xs h1 h2 => exact .tup p xs (e.tup h1) h2
  | lst p s xs h1 => exact .lst p s xs (e.lst h1)
theorem WV.ni (h : WV H v) (e : NI H H') : WV H' v := h.elim (fun h => .inl (h.ni e)) fun ⟨p, h1, h2⟩ => .inr ⟨p, h1, e.dk h2⟩
theorem WV.pen {pen c : Addr} {f : Nat} (h : WV H v) (hp : PenAt H pen c f) (e : Sx [pen] H H') : WV H' v := h.elim (fun h => .inl (h.stay (hp.stay e))) fun ⟨p, h1, h2⟩ => .inr ⟨p, h1, e _ _ (fun z => by
  obtain ⟨cs, s, lf, h3, _⟩ := hp
  rw [List.mem_singleton.mp z, h3] at h2
  cases h2) h2⟩
theorem bl_lst {la p : Addr} {b : Bool} {bs ys : List V} {s : Str} {xs : List V} (hl : H la = some (.lst (.bl b :: bs))) (h : H p = some (.lst (.str s :: xs))) : (upd H la (.lst ys)) p = some (.lst (.str s :: xs)) := by
  rw [upd_ne (fun z => by rw [z, hl] at h; cases h)]; exact h
theorem OV.bls {la : Addr} {b : Bool} {bs ys : List V} (h : OV H v) (hl : H la = some (.lst (.bl b :: bs))) : OV (upd H la (.lst ys)) v := by
  have e := NL.lst (ys := ys) hl
  cases h with
  | non => exact .non
  | int n => exact .int n
  | str s h1 h2 => exact .str s h1 h2
  | tup p xs h1 h2 => exact .tup p xs (e.tps.t _ _ h1) h2
  | lst p s xs h1 => exact .lst p s xs (bl_lst hl h1)
theorem WV.bls {la : Addr} {b : Bool} {bs ys : List V} (h : WV H v) (hl : H la = some (.lst (.bl b :: bs))) : WV (upd H la (.lst ys)) v := h.elim (fun h => .inl (h.bls hl)) fun ⟨p, h1, h2⟩ => .inr ⟨p, h1, (NL.lst (ys := ys) hl).dk h2⟩
theorem lenOk_all {xs : List V} (h : badB xs = true) : xs.all flatOk = true ∧ (∀ x, V.str x ∈ xs → x.length ≤ sizeLine) ∧ false = pgood xs := by
  unfold badB at h
  obtain ⟨h1, h2⟩ := Bool.and_eq_true_iff.mp h
  obtain ⟨h2, h3⟩ := Bool.and_eq_true_iff.mp h2
  refine ⟨h1, fun x hx => of_decide_eq_true (List.all_eq_true.mp h2 _ hx), ?_⟩
  cases hp : pgood xs with
  | false => rfl
  | true => rw [hp] at h3; cases h3
theorem kb_it : kitB "int" "tuple" = some false := by decide +kernel
theorem kb_nt : kitB "NoneType" "tuple" = some false := by decide +kernel
theorem kb_st : kitB "str" "tuple" = some false := by decide +kernel
theorem kb_lt : kitB "list" "tuple" = some false := by decide +kernel
theorem kb_dt : kitB "dict" "tuple" = some false := by decide +kernel
theorem OV.ask (h : OV H v) : AskV K H v false := by
  cases h with
  | non => exact .inl ⟨rfl, "NoneType", .base .non, kb_nt⟩
  | int n => exact .inl ⟨rfl, "int", .base (.int _), kb_it⟩
  | str s h1 h2 => exact .inl ⟨rfl, "str", .base (.str _), kb_st⟩
  | tup p xs h1 h2 =>
    obtain ⟨z1, z2, z3⟩ := lenOk_all h2
    exact .inr ⟨p, xs, rfl, SqT.of h1, z1, z2, z3⟩
  | lst p s xs h1 => exact .inl ⟨rfl, "list", .base (.lst h1), kb_lt⟩
theorem WV.ask (h : WV H v) : AskV K H v false := by
  rcases h with h | ⟨p, rfl, h⟩
  · exact h.ask
  · exact .inl ⟨rfl, "dict", .base (.dK h), kb_dt⟩
theorem OV.ty (h : OV H v) : ∃ t ∈ (["NoneType", "int", "str", "tuple", "list"] : List String), TyX K H v (.type t) := by
  cases h with
  | non => exact ⟨"NoneType", by decide, .base .non⟩
  | int n => exact ⟨"int", by decide, .base (.int _)⟩
  | str s h1 h2 => exact ⟨"str", by decide, .base (.str _)⟩
  | tup p xs h1 h2 => exact ⟨"tuple", by decide, .base (.tup h1)⟩
  | lst p s xs h1 => exact ⟨"list", by decide, .base (.lst h1)⟩
theorem OV.nothing (T : Tx P K mg) (h : OV H v) : NoThing K H v := by
  obtain ⟨t, ht, hty⟩ := h.ty (K := K)
  simp only [List.mem_cons, List.not_mem_nil, or_false] at ht
  rcases ht with rfl | rfl | rfl | rfl | rfl
  · exact ⟨_, hty, kit_NoneType_Spread T, kit_NoneType_Space T, kit_NoneType_Store T⟩
  · exact ⟨_, hty, kit_int_Spread T, kit_int_Space T, kit_int_Store T⟩
  · exact ⟨_, hty, kit_str_Spread T, kit_str_Space T, kit_str_Store T⟩
  · exact ⟨_, hty, kit_tuple_Spread T, kit_tuple_Space T, kit_tuple_Store T⟩
  · exact ⟨_, hty, kit_list_Spread T, kit_list_Space T, kit_list_Store T⟩
theorem OV.nosq (T : Tx P K mg) (h : OV H v) : NoSquare K H v := by
  obtain ⟨t, ht, hty⟩ := h.ty (K := K)
  simp only [List.mem_cons, List.not_mem_nil, or_false] at ht
  rcases ht with rfl | rfl | rfl | rfl | rfl
  · exact .inl ⟨_, hty, kit_NoneType_Map T⟩
  · exact .inl ⟨_, hty, kit_int_Map T⟩
  · exact .inl ⟨_, hty, kit_str_Map T⟩
  · exact .inl ⟨_, hty, kit_tuple_Map T⟩
  · exact .inl ⟨_, hty, kit_list_Map T⟩
theorem OV.arg (h : OV H v) : ArgV K H v := by
  cases h with
  | non => exact .inl ⟨rfl, fun x hx => by cases hx⟩
  | int n => exact .inl ⟨rfl, fun x hx => by cases hx⟩
  | str s h1 h2 => exact .inl ⟨rfl, fun x hx => by injection hx with hx; rw [← hx]; exact h1⟩
  | tup p xs h1 h2 => exact .inr ⟨p, false, xs, rfl, SqT.of h1⟩
  | lst p s xs h1 => exact .inr ⟨p, true, _, rfl, SqL.of h1⟩
theorem OV.knows {ts : Ths} (h : OV H v) (ht : TsOk ts) : knows ts v = false := by
  cases h with
  | non => rfl
  | int n => rfl
  | tup p xs h1 h2 => rfl
  | lst p s xs h1 => rfl
  | str s h1 h2 =>
    show (ts.lookup s).isSome = false
    cases hl : ts.lookup s with
    | none => rfl
    | some th => exact absurd (ht.nm _ (lookup_in hl)) h2
theorem OV.eq (h : OV H v) : flatB v = true ∨ ∃ a, v = .ref a := by
  cases h with
  | non => exact .inl rfl
  | int n => exact .inl rfl
  | str s h1 h2 => exact .inl rfl
  | tup p xs h1 h2 => exact .inr ⟨_, rfl⟩
  | lst p s xs h1 => exact .inr ⟨_, rfl⟩
theorem WV.eq (h : WV H v) : flatB v = true ∨ ∃ a, v = .ref a := h.elim OV.eq fun ⟨p, h1, _⟩ => .inr ⟨p, h1⟩
theorem MapAt.ext {p : Addr} {m : Nat} {cs : List Nat} (h : MapAt K H p m cs) (e : LamX.ExtN H H') : MapAt K H' p m cs := h.nl (NL.of e)
theorem Run.bls {pen c x ls la : Addr} {f : Nat} {S : DState} {b : Bool} {bs ys : List V} (R : Run K H pen c x ls f S) (hl : H la = some (.lst (.bl b :: bs))) : Run K (upd H la (.lst ys)) pen c x ls f S := by
  have nc : c ≠ la := fun z => by
    obtain ⟨cs, st, lf, h1, h2, _⟩ := R.pen
    rw [z, hl] at h2
    cases cs <;> cases h2
  have ng : ∀ g gs, GivL H g gs → g ≠ la := fun g gs h z => by
    obtain ⟨ps, h1, _⟩ := h
    rw [z, hl] at h1
    cases ps <;> cases h1
  refine ⟨R.pen.set hl nc, R.desk.nl (NL.lst hl), ?_, R.ok, tabs_lst R.tab hl⟩
  obtain ⟨ps, h1, h2⟩ := R.sts
  refine ⟨ps, ?_, Paired.mapP h2 fun _ _ z => z.set hl fun g => ng g _⟩
  rw [upd_ne (fun z => by rw [z, hl] at h1; cases ps <;> cases h1)]
  exact h1
theorem met_bp {H1 : Hp} {R : VK} {dd : Addr} (hk : ∀ l H2, Same H1 H2 → H2 l = some (.lst [.str "promise", v]) → R (.ref l) H2) (e : Same H1 H') (hd : H' dd = some (.xd [("promise", v)])) : MetE K R (.ref (cBadPromise K)) (some dd) H' :=
  .inr (.inr (.inr (.inr (.inr (.inr (.inl ⟨rfl, dd, v, rfl, hd, fun l hl => hk l _ (e.trans (Same.new hl)) upd_same⟩))))))
theorem met_bv {H1 : Hp} {R : VK} {dd : Addr} (hk : ∀ l H2, Same H1 H2 → H2 l = some (.lst [.str "value", v]) → R (.ref l) H2) (e : Same H1 H') (hd : H' dd = some (.xd [("value", v)])) : MetE K R (.ref (cBadValue K)) (some dd) H' :=
  .inr (.inr (.inr (.inr (.inr (.inr (.inr ⟨rfl, dd, v, rfl, hd, fun l hl => hk l _ (e.trans (Same.new hl)) upd_same⟩))))))
theorem met_un {H1 : Hp} {R : VK} {dd : Addr} (hk : ∀ l H2, Same H1 H2 → H2 l = some (.lst [.str "unknown", v]) → R (.ref l) H2) (e : Same H1 H') (hd : H' dd = some (.xd [("name", v)])) : MetE K R (.ref (cUnknown K)) (some dd) H' :=
  .inl ⟨rfl, dd, v, rfl, hd, fun l hl => hk l _ (e.trans (Same.new hl)) upd_same⟩
end
theorem odd_list {H : Hp} {p1 p2 p3 p4 : Addr} (g1 : H p1 = some (.tup [.str "a"])) (g2 : H p2 = some (.tup [.str "alike", .str "a"])) (g3 : H p3 = some (.lst [.str "alike", .str "a", .str "a"])) (g4 : H p4 = some (.tup [.str "free", .str "a", .str "b", nV 0])) :
    ∀ v ∈ ([.non, nV 3, .str "", .str "A", .str "nine", .ref p1, .ref p2, .ref p3, .ref p4] : List V), OV H v := by
  intro v hv
  simp only [List.mem_cons, List.not_mem_nil, or_false] at hv
  rcases hv with rfl | rfl | rfl | rfl | rfl | rfl | rfl | rfl | rfl
  · exact .non
  · exact .int 3
  · exact .str _ (by decide +kernel) (by decide +kernel)
  · exact .str _ (by decide +kernel) (by decide +kernel)
  · exact .str _ (by decide +kernel) (by decide +kernel)
  · exact .tup p1 _ g1 (by decide +kernel)
  · exact .tup p2 _ g2 (by decide +kernel)
  · exact .lst p3 _ _ g3
  · exact .tup p4 _ g4 (by decide +kernel)
theorem worse_list {H : Hp} {p5 p6 p7 p8 p9 d10 : Addr} (g5 : H p5 = some (.tup [.str "sums", .str "a", .str "b", .int (-1)])) (g6 : H p6 = some (.tup [.str "sums", .str "a", .str "b", .bl true])) (g7 : H p7 = some (.tup [.str "near", .str "a", .str "b"]))
    (g8 : H p8 = some (.tup [.str "fits", .str "a", .str "B", nV 0])) (g9 : H p9 = some (.tup [])) (g10 : H d10 = some (.dK [])) : ∀ v ∈ ([.ref p5, .ref p6, .ref p7, .ref p8, .ref p9, .ref d10] : List V), WV H v := by
  intro v hv
  simp only [List.mem_cons, List.not_mem_nil, or_false] at hv
  rcases hv with rfl | rfl | rfl | rfl | rfl | rfl
  · exact .inl (.tup p5 _ g5 (by decide +kernel))
  · exact .inl (.tup p6 _ g6 (by decide +kernel))
  · exact .inl (.tup p7 _ g7 (by decide +kernel))
  · exact .inl (.tup p8 _ g8 (by decide +kernel))
  · exact .inl (.tup p9 _ g9 (by decide +kernel))
  · exact .inr ⟨d10, rfl, g10⟩
theorem arg_a {H : Hp} : ArgV K H (.str "a") := .inl ⟨rfl, fun y hy => by injection hy with hy; rw [← hy]; decide +kernel⟩
theorem name_a : nameV (.str "a") = true := by decide +kernel
theorem eq_ask {σ : L2.St} {H : Hp} {v : V} {tag : Str} {i : Nat} {t : XK → TE} {Rq : VK} (hv : flatB v = true ∨ ∃ a, v = .ref a) (hi : σ[i]? = some (some v)) (hT : LamX.Tabs (tabsT K) H)
    (hcall : ∀ H1, LamX.ExtN H H1 → LamX.Tabs (tabsT K) H1 → ∀ R : VK, (∀ l H2, Same H1 H2 → H2 l = some (.lst [.str tag, v]) → R (.ref l) H2) → t (MetE K R) σ H1 (fun _ H' => R .non H'))
    (q : ∀ H', LamX.ExtN H H' → LamX.Tabs (tabsT K) H' → Rq (.bl true) H') : (tOp (rEqV K) (LamX.tLam (tabsT K) (TMet K) t) (tLst (tCons (tC (.str tag)) (tCons (tVar i) tNil)))) σ H Rq := by
  refine ⟨hT, fun H1 e1 T1 => hcall H1 e1 T1 _ fun l H2 e2 hl => ⟨_, hi, by show 2 ≤ sizeLine; decide, fun l2 hl2 => ?_⟩⟩
  have e3 := e2.trans (Same.new (o := .lst [.str tag, v]) hl2)
  refine ⟨1, by decide, .inl ⟨l, l2, _, _, rfl, rfl, SqL.of ((Same.new hl2) _ _ hl), SqL.of upd_same, .cons (.inl ⟨rfl, rfl⟩) (.cons ?_ .nil)⟩, q _ (e1.trans (LamX.ExtN.of e3)) (tabs_same T1 e3)⟩
  rcases hv with hv | ⟨a, rfl⟩
  · exact .inl ⟨rfl, hv⟩
  · exact .inr (.inl ⟨a, rfl, rfl⟩)
theorem ask_app {σ : L2.St} {H : Hp} {v : V} {tag : Str} {i : Nat} {t : XK → TE} {D : Ends} {la : Addr} {bs : List V} (hla : H la = some (.lst bs)) (hz : bs.length < 100) (h2 : σ[2]? = some (some (V.ref la))) (hv : flatB v = true ∨ ∃ a, v = .ref a) (hi : σ[i]? = some (some v)) (hT : LamX.Tabs (tabsT K) H)
    (hcall : ∀ H1, LamX.ExtN H H1 → LamX.Tabs (tabsT K) H1 → ∀ R : VK, (∀ l H2, Same H1 H2 → H2 l = some (.lst [.str tag, v]) → R (.ref l) H2) → t (MetE K R) σ H1 (fun _ H' => R .non H'))
    (q : ∀ H', LamX.ExtN H H' → LamX.Tabs (tabsT K) H' → D.nx σ (upd H' la (.lst (bs ++ [.bl true])))) :
    (tDrop (tBM K "list" rAppend (tVar 2) (tCons (tOp (rEqV K) (LamX.tLam (tabsT K) (TMet K) t) (tLst (tCons (tC (.str tag)) (tCons (tVar i) tNil)))) tNil))) D σ H := by
  refine ⟨_, h2, .inl ⟨rfl, _, SqL.of hla⟩, eq_ask hv hi hT hcall fun H' e T' => ?_⟩
  have hla' := (NI.of e).ls hla
  exact ⟨la, _, _, rfl, rfl, hla', small1000 (by omega), q H' e T'⟩
theorem rep_snoc (n : Nat) : V.bl true :: List.replicate n (V.bl true) ++ [V.bl true] = V.bl true :: List.replicate (n + 1) (V.bl true) := by
  rw [List.cons_append, List.replicate_succ']
abbrev sp_odd_right (K : PySem.W.Frag) : L2.Sp := S2 fun a b H Q _ => ∃ pen c x ls f S, a = .ref pen ∧ b = .ref x ∧ Run K H pen c x ls (f + 20) S ∧ S.past.length ≤ 200 ∧ ∀ H', Run K H' pen c x ls f S → Q (.bl true) H'
theorem ok_law_odd_right (T : Tx P K mg) (B : TbF K mg base) : Has P w K mg base 17 "_law_odd_right" ["_law_pen", "_law_desk"] (sp_odd_right K) := by
  refine ⟨g_law_odd_right T, ok_bodyC (p := ("_law_odd_right", none)) (F_law_odd_right T) sc_law_odd_right (fun vs H Q E ⟨_, _, e, _⟩ => by rw [e]; rfl) (fun kV doc pm an cdv ct us hl => match us, hl with | [u, v], _ => rfl) fun A outer s H vs Q E hr h => ?_⟩
  obtain ⟨_, _, rfl, pen, c, x, ls, f, S, rfl, rfl, R, hz, q⟩ := h
  refine ⟨_, (pss_cons (ps_set (i := 4) sc_law_odd_right.nd rfl (.inr rfl) (pe_h (ok_law_pick (K := K) T) (hr.mono (by decide)) passL (pa_cons (pv 0) (pa_cons (pe_lst (pa_cons pe_non (pa_cons (pe_nat 3) (pa_cons pe_str (pa_cons pe_str (pa_cons pe_str (pa_cons (pe_tup (pa_cons pe_str pa_nil)) (pa_cons (pe_tup (pa_cons pe_str (pa_cons pe_str pa_nil))) (pa_cons (pe_lst (pa_cons pe_str (pa_cons pe_str (pa_cons pe_str pa_nil)))) (pa_cons (pe_tup (pa_cons pe_str (pa_cons pe_str (pa_cons pe_str (pa_cons (pe_nat 0) pa_nil))))) pa_nil)))))))))) pa_nil))))
    (pss_cons (ps_set (i := 6) sc_law_odd_right.nd rfl (.inr rfl) (pe_lst (pa_cons (pe_tup (pa_cons pe_str (pa_cons pe_str (pa_cons pe_str (pa_cons (pe_un un_neg pe_int) pa_nil))))) (pa_cons (pe_tup (pa_cons pe_str (pa_cons pe_str (pa_cons pe_str (pa_cons pe_bl pa_nil))))) (pa_cons (pe_tup (pa_cons pe_str (pa_cons pe_str (pa_cons pe_str pa_nil)))) (pa_cons (pe_tup (pa_cons pe_str (pa_cons pe_str (pa_cons pe_str (pa_cons (pe_nat 0) pa_nil))))) (pa_cons (pe_tup pa_nil) (pa_cons pe_dnewK pa_nil))))))))
    (pss_cons (ps_set (i := 6) sc_law_odd_right.nd rfl (.inr rfl) (pe_h (ok_law_pick (K := K) T) (hr.mono (by decide)) passL (pa_cons (pv 0) (pa_cons (pe_op op_cat (pv 6) (pe_op op_rep (pe_lst (pa_cons (pe_h (ok_law_spoilt (K := K) T) (hr.mono (by decide)) passL (pa_cons (pv 0) pa_nil)) pa_nil)) (pe_nat 12))) pa_nil))))
    (pss_cons (ps_set (i := 2) sc_law_odd_right.nd rfl (.inl rfl) (pe_lst (pa_cons (pe_cmpR (op_eqVK K hr.units) (pe_met T 14 (t := fun E => tMt (cDesk K) "keep" (sp_keep K) E (tVar 1) (tCons (tVar 4) tNil)) B.t2 tabs2 B.u2 (hr.mono (by decide)) ?lam1 (L := LamX.lamS_by (sc := defScope st_law_odd_right) (by decide +kernel))) (pe_lst (pa_cons pe_str (pa_cons (pv 4) pa_nil))) (nomark _)) pa_nil)))
    (pss_cons (ps_expr (pe_bm PySem.F.plainAttrs_list PySem.F.slot_list_append PySem.F.type_list_append mt_append (pv 2) (pa_cons (pe_cmpR (op_eqVK K hr.units) (pe_met T 14 (t := fun E => tMt (cDesk K) "release" (sp_release K) E (tVar 1) (tCons (tVar 6) tNil)) B.t2 tabs2 B.u2 (hr.mono (by decide)) ?lam2 (L := LamX.lamS_by (sc := defScope st_law_odd_right) (by decide +kernel))) (pe_lst (pa_cons pe_str (pa_cons (pv 6) pa_nil))) (nomark _)) pa_nil)))
    (pss_cons (ps_expr (pe_bm PySem.F.plainAttrs_list PySem.F.slot_list_append PySem.F.type_list_append mt_append (pv 2) (pa_cons (pe_cmpR (op_eqVK K hr.units) (pe_met T 14 (t := fun E => tMt (cDesk K) "holds" (sp_Desk_holds K) E (tVar 1) (tCons (tVar 6) tNil)) B.t2 tabs2 B.u2 (hr.mono (by decide)) ?lam3 (L := LamX.lamS_by (sc := defScope st_law_odd_right) (by decide +kernel))) (pe_lst (pa_cons pe_str (pa_cons (pv 6) pa_nil))) (nomark _)) pa_nil)))
    (pss_cons (ps_set (i := 3) sc_law_odd_right.nd rfl (.inr rfl) (pe_h (ok_law_pick (K := K) T) (hr.mono (by decide)) passL (pa_cons (pv 0) (pa_cons (pe_lst (pa_cons pe_str (pa_cons pe_str (pa_cons pe_str (pa_cons pe_str (pa_cons pe_non (pa_cons (pe_nat 5) (pa_cons (pe_lst (pa_cons pe_str pa_nil)) pa_nil)))))))) pa_nil))))
    (pss_cons (ps_expr (pe_bm PySem.F.plainAttrs_list PySem.F.slot_list_append PySem.F.type_list_append mt_append (pv 2) (pa_cons (pe_cmpR (op_eqVK K hr.units) (pe_met T 14 (t := fun E => tMt (cDesk K) "put" (sp_put K) E (tVar 1) (tCons (tVar 3) (tCons (tVar 4) tNil))) B.t2 tabs2 B.u2 (hr.mono (by decide)) ?lam4 (L := LamX.lamS_by (sc := defScope st_law_odd_right) (by decide +kernel))) (pe_lst (pa_cons pe_str (pa_cons (pv 3) pa_nil))) (nomark _)) pa_nil)))
    (pss_cons (ps_expr (pe_bm PySem.F.plainAttrs_list PySem.F.slot_list_append PySem.F.type_list_append mt_append (pv 2) (pa_cons (pe_cmpR (op_eqVK K hr.units) (pe_met T 14 (t := fun E => tMt (cDesk K) "put" (sp_put K) E (tVar 1) (tCons (tC (V.str "a")) (tCons (tVar 4) tNil))) B.t2 tabs2 B.u2 (hr.mono (by decide)) ?lam5 (L := LamX.lamS_by (sc := defScope st_law_odd_right) (by decide +kernel))) (pe_lst (pa_cons pe_str (pa_cons (pv 4) pa_nil))) (nomark _)) pa_nil)))
    (pss_cons (ps_expr (pe_bm PySem.F.plainAttrs_list PySem.F.slot_list_append PySem.F.type_list_append mt_append (pv 2) (pa_cons (pe_cmpR (op_eqVK K hr.units) (pe_met T 14 (t := fun E => tMt (cDesk K) "drop" (sp_drop K) E (tVar 1) (tCons (tVar 3) tNil)) B.t2 tabs2 B.u2 (hr.mono (by decide)) ?lam6 (L := LamX.lamS_by (sc := defScope st_law_odd_right) (by decide +kernel))) (pe_lst (pa_cons pe_str (pa_cons (pv 3) pa_nil))) (nomark _)) pa_nil)))
    (pss_cons (ps_expr (pe_bm PySem.F.plainAttrs_list PySem.F.slot_list_append PySem.F.type_list_append mt_append (pv 2) (pa_cons (pe_cmpR (op_eqVK K hr.units) (pe_met T 14 (t := fun E => tOp (fun x y H_1 Q => ∃ p dx fs, x = V.ref p ∧ H_1 p = some (HO.ins (cDesk K) dx fs) ∧ sp_Desk_getitem K [x, y] H_1 Q E) (tVar 1) (tVar 3)) B.t2 tabs2 B.u2 (hr.mono (by decide)) ?lam7 (L := LamX.lamS_by (sc := defScope st_law_odd_right) (by decide +kernel))) (pe_lst (pa_cons pe_str (pa_cons (pv 3) pa_nil))) (nomark _)) pa_nil)))
    (pss_cons (ps_expr (pe_bm PySem.F.plainAttrs_list PySem.F.slot_list_append PySem.F.type_list_append mt_append (pv 2) (pa_cons (pe_cmpR (op_eqVK K hr.units) (pe_met T 14 (t := fun E => tMt (cDesk K) "rename" (sp_rename K) E (tVar 1) (tCons (tVar 4) tNil)) B.t2 tabs2 B.u2 (hr.mono (by decide)) ?lam8 (L := LamX.lamS_by (sc := defScope st_law_odd_right) (by decide +kernel))) (pe_lst (pa_cons pe_str (pa_cons (pv 4) pa_nil))) (nomark _)) pa_nil)))
    (pss_cons (ps_set (i := 5) sc_law_odd_right.nd rfl (.inr rfl) (pe_hc (ok_Map_init (K := K) T) (mk_Map T) (g_Map T) (hr.mono (by decide)) passL (pa_cons (pe_nat 2) (pa_cons (pe_lst (pa_cons (pe_nat 1) pa_nil)) pa_nil))))
    (pss_cons (ps_expr (pe_bm PySem.F.plainAttrs_list PySem.F.slot_list_append PySem.F.type_list_append mt_append (pv 2) (pa_cons (pe_cmpR (op_eqVK K hr.units) (pe_met T 14 (t := fun E => tMt (cDesk K) "put" (sp_put K) E (tVar 1) (tCons (tC (V.str "a")) (tCons (tVar 5) tNil))) B.t2 tabs2 B.u2 (hr.mono (by decide)) ?lam9 (L := LamX.lamS_by (sc := defScope st_law_odd_right) (by decide +kernel))) (pe_lst (pa_cons pe_str (pa_cons (pv 5) pa_nil))) (nomark _)) pa_nil)))
    (pss_cons (ps_expr (pe_bm PySem.F.plainAttrs_list PySem.F.slot_list_append PySem.F.type_list_append mt_append (pv 2) (pa_cons (pe_cmpR (op_eqVK K hr.units) (pe_met T 14 (t := fun E => tMt (cDesk K) "keep" (sp_keep K) E (tVar 1) (tCons (tVar 6) tNil)) B.t2 tabs2 B.u2 (hr.mono (by decide)) ?lam10 (L := LamX.lamS_by (sc := defScope st_law_odd_right) (by decide +kernel))) (pe_lst (pa_cons pe_str (pa_cons (pv 6) pa_nil))) (nomark _)) pa_nil)))
    (pss_cons (ps_expr (pe_bm PySem.F.plainAttrs_list PySem.F.slot_list_append PySem.F.type_list_append mt_append (pv 2) (pa_cons (pe_cmpR (op_eqVK K hr.units) (pe_met T 14 (t := fun E => tMt (cDesk K) "rename" (sp_rename K) E (tVar 1) (tCons (tVar 5) tNil)) B.t2 tabs2 B.u2 (hr.mono (by decide)) ?lam11 (L := LamX.lamS_by (sc := defScope st_law_odd_right) (by decide +kernel))) (pe_lst (pa_cons pe_str (pa_cons (pv 5) pa_nil))) (nomark _)) pa_nil)))
    (pss_one (ps_ret (pe_and (pe_cmpR op_notIn_seq pe_bl (pv 2) (by rfl)) (pe_and (pe_cmpR (notin_own (ok_Desk_contains T).2 (m_Desk_contains T) (hr.mono (by decide)) passL) (pv 3) (pv 1) (by rfl)) (pe_one (pe_cmpR (notin_own (ok_Desk_contains T).2 (m_Desk_contains T) (hr.mono (by decide)) passL) (pv 4) (pv 1) (by rfl))))))))))))))))))))))), ?_⟩
  case lam1 => exact fun A outer s H E f c' hr => (pe_hm (ok_Desk_keep (K := K) T) (own_Desk T) (hr.mono (by decide)) (passes_call (takes_of rfl rfl rfl rfl) fun _ _ _ _ h => h) (pv 1) (pa_cons (pv 4) pa_nil))
  case lam2 => exact fun A outer s H E f c' hr => (pe_hm (ok_Desk_release (K := K) T) (own_Desk T) (hr.mono (by decide)) (passes_call (takes_of rfl rfl rfl rfl) fun _ _ _ _ h => h) (pv 1) (pa_cons (pv 6) pa_nil))
  case lam3 => exact fun A outer s H E f c' hr => (pe_hm (ok_Desk_holds (K := K) T) (own_Desk T) (hr.mono (by decide)) (passes_call (takes_of rfl rfl rfl rfl) fun _ _ _ _ h => h) (pv 1) (pa_cons (pv 6) pa_nil))
  case lam4 => exact fun A outer s H E f c' hr => (pe_hm (ok_Desk_put (K := K) T) (own_Desk T) (hr.mono (by decide)) (passes_call (takes_of rfl rfl rfl rfl) fun _ _ _ _ h => h) (pv 1) (pa_cons (pv 3) (pa_cons (pv 4) pa_nil)))
  case lam5 => exact fun A outer s H E f c' hr => (pe_hm (ok_Desk_put (K := K) T) (own_Desk T) (hr.mono (by decide)) (passes_call (takes_of rfl rfl rfl rfl) fun _ _ _ _ h => h) (pv 1) (pa_cons pe_str (pa_cons (pv 4) pa_nil)))
  case lam6 => exact fun A outer s H E f c' hr => (pe_hm (ok_Desk_drop (K := K) T) (own_Desk T) (hr.mono (by decide)) (passes_call (takes_of rfl rfl rfl rfl) fun _ _ _ _ h => h) (pv 1) (pa_cons (pv 3) pa_nil))
  case lam7 => exact fun A outer s H E f c' hr => (ix_own (ok_Desk_getitem T).2 (m_Desk_getitem T) T.gi (hr.mono (by decide)) (passes_call (takes_of rfl rfl rfl rfl) fun _ _ _ _ h => h) (pv 1) (pv 3))
  case lam8 => exact fun A outer s H E f c' hr => (pe_hm (ok_Desk_rename (K := K) T) (own_Desk T) (hr.mono (by decide)) (passes_call (takes_of rfl rfl rfl rfl) fun _ _ _ _ h => h) (pv 1) (pa_cons (pv 4) pa_nil))
  case lam9 => exact fun A outer s H E f c' hr => (pe_hm (ok_Desk_put (K := K) T) (own_Desk T) (hr.mono (by decide)) (passes_call (takes_of rfl rfl rfl rfl) fun _ _ _ _ h => h) (pv 1) (pa_cons pe_str (pa_cons (pv 5) pa_nil)))
  case lam10 => exact fun A outer s H E f c' hr => (pe_hm (ok_Desk_keep (K := K) T) (own_Desk T) (hr.mono (by decide)) (passes_call (takes_of rfl rfl rfl rfl) fun _ _ _ _ h => h) (pv 1) (pa_cons (pv 6) pa_nil))
  case lam11 => exact fun A outer s H E f c' hr => (pe_hm (ok_Desk_rename (K := K) T) (own_Desk T) (hr.mono (by decide)) (passes_call (takes_of rfl rfl rfl rfl) fun _ _ _ _ h => h) (pv 1) (pa_cons (pv 5) pa_nil))
  have R0 := R
  have hpen := R.pen
  refine ⟨_, rfl, by show 1 ≤ sizeLine; decide, fun p1 hp1 => ⟨by show 2 ≤ sizeLine; decide, fun p2 hp2 => ⟨by show 3 ≤ sizeLine; decide, fun p3 hp3 => ⟨by show 4 ≤ sizeLine; decide, fun p4 hp4 => ⟨by show 9 ≤ sizeLine; decide, fun l hl => ?_⟩⟩⟩⟩⟩
  have e1 := Same.new (o := .tup [.str "a"]) hp1
  have e2 := Same.new (o := .tup [.str "alike", .str "a"]) hp2
  have e3 := Same.new (o := .lst [.str "alike", .str "a", .str "a"]) hp3
  have e4 := Same.new (o := .tup [.str "free", .str "a", .str "b", nV 0]) hp4
  have e5 := Same.new (o := .lst [.non, nV 3, .str "", .str "A", .str "nine", .ref p1, .ref p2, .ref p3, .ref p4]) hl
  have e05 := (((e1.trans e2).trans e3).trans e4).trans e5
  refine ⟨_, _, rfl, pen, c, f + 19, l, _, rfl, rfl, SqL.of upd_same, by show 1 ≤ 9; decide, by show 9 ≤ 1000; decide, (hpen.same e05).mono (by omega), fun i odd H2 hi e6 hp6 => ?_⟩
  have hodd0 := odd_list ((((e2.trans e3).trans e4).trans e5) _ _ upd_same) (((e3.trans e4).trans e5) _ _ upd_same) ((e4.trans e5) _ _ upd_same) (e5 _ _ upd_same)
  have hodd := (hodd0 odd (List.mem_of_getElem? hi)).stay ((hpen.same e05).stay e6)
  have R := (R.same e05).draw e6 hp6
  clear hodd0 hi e6 e05 e5 hl e4 hp4 e3 hp3 e2 hp2 e1 hp1
  refine ⟨1, rfl, by show 4 ≤ sizeLine; decide, fun p5 hp5 => ⟨by show 4 ≤ sizeLine; decide, fun p6 hp6 => ⟨by show 3 ≤ sizeLine; decide, fun p7 hp7 => ⟨by show 4 ≤ sizeLine; decide, fun p8 hp8 => ⟨Nat.zero_le _, fun p9 hp9 => ?_⟩⟩⟩⟩⟩
  refine fun d10 hd10 => ⟨by show 6 ≤ sizeLine; decide, fun l6 hl6 => ?_⟩
  have e1 := Same.new (o := .tup [.str "sums", .str "a", .str "b", .int (-1)]) hp5
  have e2 := Same.new (o := .tup [.str "sums", .str "a", .str "b", .bl true]) hp6
  have e3 := Same.new (o := .tup [.str "near", .str "a", .str "b"]) hp7
  have e4 := Same.new (o := .tup [.str "fits", .str "a", .str "B", nV 0]) hp8
  have e5 := Same.new (o := .tup []) hp9
  have e6 := Same.new (o := .dK []) hd10
  have e7 := Same.new (o := .lst [.ref p5, .ref p6, .ref p7, .ref p8, .ref p9, .ref d10]) hl6
  have hw0 := worse_list ((((((e2.trans e3).trans e4).trans e5).trans e6).trans e7) _ _ upd_same) (((((e3.trans e4).trans e5).trans e6).trans e7) _ _ upd_same) ((((e4.trans e5).trans e6).trans e7) _ _ upd_same) (((e5.trans e6).trans e7) _ _ upd_same) ((e6.trans e7) _ _ upd_same) (e7 _ _ upd_same)
  have e07 := (((((e1.trans e2).trans e3).trans e4).trans e5).trans e6).trans e7
  have R := R.same e07
  have hodd := hodd.ni (NI.same e07)
  refine ⟨_, rfl, _, rfl, _, rfl, _, rfl, pen, c, f + 14, rfl, R.pen.mono (by omega), fun ps xs H3 hbad e8 hps hp8 => ⟨by show 1 ≤ sizeLine; decide, fun lS hlS => ⟨lS, 12, _, rfl, rfl, upd_same, by decide, by decide, by show 1 * 12 ≤ sizeLine; decide, fun lR hlR => ?_⟩⟩⟩
  have hl6' := ((R.pen.stay e8).lst (upd_same : _ = some (HO.lst [V.ref p5, V.ref p6, V.ref p7, V.ref p8, V.ref p9, V.ref d10])))
  have eS := Same.new (o := .lst [.ref ps]) hlS
  have eR := Same.new (o := .lst (List.replicate ((12 : Nat) : Int).toNat [V.ref ps]).flatten) hlR
  refine ⟨l6, lR, _, _, rfl, rfl, (eS.trans eR) _ _ hl6', upd_same, by show 6 + 12 ≤ sizeLine; decide, fun lW hlW => ?_⟩
  have eW := Same.new (o := .lst ([.ref p5, .ref p6, .ref p7, .ref p8, .ref p9, .ref d10] ++ (List.replicate ((12 : Nat) : Int).toNat [V.ref ps]).flatten)) hlW
  have eSW := (eS.trans eR).trans eW
  refine ⟨_, _, rfl, pen, c, f + 13, lW, _, rfl, rfl, SqL.of upd_same, by show 1 ≤ 6 + 12; decide, by show 6 + 12 ≤ 1000; decide, (hp8.same eSW).mono (by omega), fun i worse H4 hi e9 hp9' => ?_⟩
  have hworse : WV H4 worse := by
    rcases List.mem_append.mp (List.mem_of_getElem? hi) with hm | hm
    · exact (((hw0 worse hm).pen R.pen e8).ni (NI.same eSW)).pen (hp8.same eSW) e9
    · obtain ⟨zs, hz1, hz2⟩ := List.mem_flatten.mp hm
      rw [List.eq_of_mem_replicate hz1] at hz2
      rw [List.mem_singleton.mp hz2]
      exact .inl (.tup ps xs (((hp8.same eSW).stay e9).tup (eSW _ _ hps)) hbad)
  have hodd := ((hodd.stay (R.pen.stay e8)).ni (NI.same eSW)).stay ((hp8.same eSW).stay e9)
  have R := (((R.draw e8 hp8).same eSW).draw e9 hp9')
  clear hw0 hi e9 eSW eW hlW eR hlR eS hl6' hlS hps e8 e07 e7 e6 e5 e4 e3 e2 e1 hl6 hd10 hp9 hp8 hp7 hp6 hp5
  refine eq_ask hodd.eq rfl R.tab (fun H1 e1 T1 Rk hk => ?_) (fun H1 e1 T1 => ⟨by show 1 ≤ sizeLine; decide, fun la hla => ?_⟩)
  · have R1 := R.ext e1 T1
    obtain ⟨dx, d0, g0, q0, hx⟩ := R1.desk.ins
    exact ⟨_, rfl, x, dx, _, rfl, hx, lk_Desk_no _ _ _ _ (by decide +kernel), _, rfl, _, _, rfl, x, S, rfl, R1.desk, R1.ok.now.ts.ok, R1.ok.now.gs.giv, by omega, .inl ⟨(hodd.ni (NI.of e1)).ask, fun dd H9 e9 _ hdd => met_bp hk e9 hdd⟩⟩
  have en := Same.new (o := .lst [.bl true]) hla
  have hla : (upd H1 la (.lst [.bl true])) la = some (.lst (V.bl true :: List.replicate 0 (V.bl true))) := upd_same
  have R := (R.ext e1 T1).same en
  have hodd := (hodd.ni (NI.of e1)).ni (NI.same en)
  have hworse := (hworse.ni (NI.of e1)).ni (NI.same en)
  generalize upd H1 la (.lst [.bl true]) = H10 at *
  refine ask_app hla (by simp) rfl hworse.eq rfl R.tab (fun H1 e1 T1 Rk hk => ?_) (fun H1 e1 T1 => ?_)
  · have R1 := R.ext e1 T1
    obtain ⟨dx, d0, g0, q0, hx⟩ := R1.desk.ins
    exact ⟨_, rfl, x, dx, _, rfl, hx, lk_Desk_no _ _ _ _ (by decide +kernel), _, rfl, _, _, rfl, x, S, rfl, R1.desk, R1.ok.now.gs.giv, by omega, .inl ⟨(hworse.ni (NI.of e1)).ask, fun dd H9 e9 _ hdd => met_bp hk e9 hdd⟩⟩
  have hla := (NI.of e1).ls hla
  have R := (R.ext e1 T1).bls (ys := V.bl true :: List.replicate 0 (V.bl true) ++ [V.bl true]) hla
  have hodd := (hodd.ni (NI.of e1)).bls (ys := V.bl true :: List.replicate 0 (V.bl true) ++ [V.bl true]) hla
  have hworse := (hworse.ni (NI.of e1)).bls (ys := V.bl true :: List.replicate 0 (V.bl true) ++ [V.bl true]) hla
  have hla : (upd H1 la (.lst (V.bl true :: List.replicate 0 (V.bl true) ++ [V.bl true]))) la = some (.lst (V.bl true :: List.replicate 1 (V.bl true))) := by rw [upd_same, rep_snoc]
  generalize upd H1 la (.lst (V.bl true :: List.replicate 0 (V.bl true) ++ [V.bl true])) = H20 at *
  refine ask_app hla (by simp) rfl hworse.eq rfl R.tab (fun H1 e1 T1 Rk hk => ?_) (fun H1 e1 T1 => ?_)
  · have R1 := R.ext e1 T1
    obtain ⟨dx, d0, g0, q0, hx⟩ := R1.desk.ins
    exact ⟨_, rfl, x, dx, _, rfl, hx, lk_Desk_no _ _ _ _ (by decide +kernel), _, rfl, _, _, rfl, x, S, rfl, R1.desk, R1.ok.now.ts.ok, .inr ⟨(hworse.ni (NI.of e1)).ask, fun dd H9 e9 _ hdd => met_bp hk e9 hdd⟩⟩
  have hla := (NI.of e1).ls hla
  have R := (R.ext e1 T1).bls (ys := V.bl true :: List.replicate 1 (V.bl true) ++ [V.bl true]) hla
  have hodd := (hodd.ni (NI.of e1)).bls (ys := V.bl true :: List.replicate 1 (V.bl true) ++ [V.bl true]) hla
  have hworse := (hworse.ni (NI.of e1)).bls (ys := V.bl true :: List.replicate 1 (V.bl true) ++ [V.bl true]) hla
  have hla : (upd H1 la (.lst (V.bl true :: List.replicate 1 (V.bl true) ++ [V.bl true]))) la = some (.lst (V.bl true :: List.replicate 2 (V.bl true))) := by rw [upd_same, rep_snoc]
  generalize upd H1 la (.lst (V.bl true :: List.replicate 1 (V.bl true) ++ [V.bl true])) = H21 at *
  refine ⟨_, rfl, by show 1 ≤ sizeLine; decide, fun pn hpn => ⟨by show 7 ≤ sizeLine; decide, fun ln hln => ?_⟩⟩
  have e1 := Same.new (o := .lst [.str "a"]) hpn
  have e2 := Same.new (o := .lst [.str "", .str "A", .str "a1", .str "ninelette", .non, nV 5, .ref pn]) hln
  have e12 := e1.trans e2
  refine ⟨_, _, rfl, pen, c, f + 5, ln, _, rfl, rfl, SqL.of upd_same, by show 1 ≤ 7; decide, by show 7 ≤ 1000; decide, (R.pen.same e12).mono (by omega), fun i name H5 hi e3 hp3 => ?_⟩
  obtain ⟨hname, hnn⟩ : OV H5 name ∧ nameV name = false := by
    have hm := List.mem_of_getElem? hi
    simp only [List.mem_cons, List.not_mem_nil, or_false] at hm
    rcases hm with rfl | rfl | rfl | rfl | rfl | rfl | rfl
    · exact ⟨.str _ (by decide +kernel) (by decide +kernel), by decide +kernel⟩
    · exact ⟨.str _ (by decide +kernel) (by decide +kernel), by decide +kernel⟩
    · exact ⟨.str _ (by decide +kernel) (by decide +kernel), by decide +kernel⟩
    · exact ⟨.str _ (by decide +kernel) (by decide +kernel), by decide +kernel⟩
    · exact ⟨.non, rfl⟩
    · exact ⟨.int 5, rfl⟩
    · exact ⟨.lst pn _ _ (((R.pen.same e12).stay e3).lst (e2 _ _ upd_same)), rfl⟩
  have hla := ((R.pen.same e12).stay e3).lst (e12 _ _ hla)
  have hodd := (hodd.ni (NI.same e12)).stay ((R.pen.same e12).stay e3)
  have hworse := (hworse.ni (NI.same e12)).pen (R.pen.same e12) e3
  have R := (R.same e12).draw e3 hp3
  clear hi e3 e12 e2 e1 hln hpn
  refine ask_app hla (by simp) rfl hname.eq rfl R.tab (fun H1 e1 T1 Rk hk => ?_) (fun H1 e1 T1 => ?_)
  · have R1 := R.ext e1 T1
    obtain ⟨dx, d0, g0, q0, hx⟩ := R1.desk.ins
    exact ⟨_, rfl, x, dx, _, rfl, hx, lk_Desk_no _ _ _ _ (by decide +kernel), _, rfl, _, rfl, _, _, _, rfl, x, S, rfl, R1.desk, R1.ok.now.ts.ok, by omega, (hname.ni (NI.of e1)).arg, .inl ⟨hnn, fun dd H9 e9 _ hdd => met_bv hk e9 hdd⟩⟩
  have hla := (NI.of e1).ls hla
  have R := (R.ext e1 T1).bls (ys := V.bl true :: List.replicate 2 (V.bl true) ++ [V.bl true]) hla
  have hodd := (hodd.ni (NI.of e1)).bls (ys := V.bl true :: List.replicate 2 (V.bl true) ++ [V.bl true]) hla
  have hworse := (hworse.ni (NI.of e1)).bls (ys := V.bl true :: List.replicate 2 (V.bl true) ++ [V.bl true]) hla
  have hname := (hname.ni (NI.of e1)).bls (ys := V.bl true :: List.replicate 2 (V.bl true) ++ [V.bl true]) hla
  have hla : (upd H1 la (.lst (V.bl true :: List.replicate 2 (V.bl true) ++ [V.bl true]))) la = some (.lst (V.bl true :: List.replicate 3 (V.bl true))) := by rw [upd_same, rep_snoc]
  generalize upd H1 la (.lst (V.bl true :: List.replicate 2 (V.bl true) ++ [V.bl true])) = H22 at *
  refine ask_app hla (by simp) rfl hodd.eq rfl R.tab (fun H1 e1 T1 Rk hk => ?_) (fun H1 e1 T1 => ?_)
  · have R1 := R.ext e1 T1
    obtain ⟨dx, d0, g0, q0, hx⟩ := R1.desk.ins
    exact ⟨_, rfl, x, dx, _, rfl, hx, lk_Desk_no _ _ _ _ (by decide +kernel), _, rfl, _, _, _, rfl, x, S, rfl, R1.desk, R1.ok.now.ts.ok, by omega, arg_a, .inr (.inl ⟨name_a, (hodd.ni (NI.of e1)).nothing T, fun dd H9 e9 _ hdd => met_bv hk e9 hdd⟩)⟩
  have hla := (NI.of e1).ls hla
  have R := (R.ext e1 T1).bls (ys := V.bl true :: List.replicate 3 (V.bl true) ++ [V.bl true]) hla
  have hodd := (hodd.ni (NI.of e1)).bls (ys := V.bl true :: List.replicate 3 (V.bl true) ++ [V.bl true]) hla
  have hworse := (hworse.ni (NI.of e1)).bls (ys := V.bl true :: List.replicate 3 (V.bl true) ++ [V.bl true]) hla
  have hname := (hname.ni (NI.of e1)).bls (ys := V.bl true :: List.replicate 3 (V.bl true) ++ [V.bl true]) hla
  have hla : (upd H1 la (.lst (V.bl true :: List.replicate 3 (V.bl true) ++ [V.bl true]))) la = some (.lst (V.bl true :: List.replicate 4 (V.bl true))) := by rw [upd_same, rep_snoc]
  generalize upd H1 la (.lst (V.bl true :: List.replicate 3 (V.bl true) ++ [V.bl true])) = H23 at *
  refine ask_app hla (by simp) rfl hname.eq rfl R.tab (fun H1 e1 T1 Rk hk => ?_) (fun H1 e1 T1 => ?_)
  · have R1 := R.ext e1 T1
    obtain ⟨dx, d0, g0, q0, hx⟩ := R1.desk.ins
    exact ⟨_, rfl, x, dx, _, rfl, hx, lk_Desk_no _ _ _ _ (by decide +kernel), _, rfl, _, _, rfl, x, S, rfl, R1.desk, R1.ok.now.ts.ok, by omega, (hname.ni (NI.of e1)).arg, .inl ⟨hname.knows R1.ok.now.ts, fun dd H9 e9 _ hdd => met_un hk e9 hdd⟩⟩
  have hla := (NI.of e1).ls hla
  have R := (R.ext e1 T1).bls (ys := V.bl true :: List.replicate 4 (V.bl true) ++ [V.bl true]) hla
  have hodd := (hodd.ni (NI.of e1)).bls (ys := V.bl true :: List.replicate 4 (V.bl true) ++ [V.bl true]) hla
  have hworse := (hworse.ni (NI.of e1)).bls (ys := V.bl true :: List.replicate 4 (V.bl true) ++ [V.bl true]) hla
  have hname := (hname.ni (NI.of e1)).bls (ys := V.bl true :: List.replicate 4 (V.bl true) ++ [V.bl true]) hla
  have hla : (upd H1 la (.lst (V.bl true :: List.replicate 4 (V.bl true) ++ [V.bl true]))) la = some (.lst (V.bl true :: List.replicate 5 (V.bl true))) := by rw [upd_same, rep_snoc]
  generalize upd H1 la (.lst (V.bl true :: List.replicate 4 (V.bl true) ++ [V.bl true])) = H24 at *
  refine ask_app hla (by simp) rfl hname.eq rfl R.tab (fun H1 e1 T1 Rk hk => ?_) (fun H1 e1 T1 => ?_)
  · have R1 := R.ext e1 T1
    obtain ⟨dx, d0, g0, q0, hx⟩ := R1.desk.ins
    exact ⟨_, rfl, _, rfl, x, dx, _, rfl, hx, _, _, rfl, x, S, rfl, R1.desk, (hname.ni (NI.of e1)).arg, (fun nm th hb hl => by
      have hkn := hname.knows R1.ok.now.ts
      rw [hb] at hkn
      have : (S.things.lookup nm).isSome = false := hkn
      rw [hl] at this
      cases this), fun _ dd H9 e9 _ hdd => met_un hk e9 hdd⟩
  have hla := (NI.of e1).ls hla
  have R := (R.ext e1 T1).bls (ys := V.bl true :: List.replicate 5 (V.bl true) ++ [V.bl true]) hla
  have hodd := (hodd.ni (NI.of e1)).bls (ys := V.bl true :: List.replicate 5 (V.bl true) ++ [V.bl true]) hla
  have hworse := (hworse.ni (NI.of e1)).bls (ys := V.bl true :: List.replicate 5 (V.bl true) ++ [V.bl true]) hla
  have hname := (hname.ni (NI.of e1)).bls (ys := V.bl true :: List.replicate 5 (V.bl true) ++ [V.bl true]) hla
  have hla : (upd H1 la (.lst (V.bl true :: List.replicate 5 (V.bl true) ++ [V.bl true]))) la = some (.lst (V.bl true :: List.replicate 6 (V.bl true))) := by rw [upd_same, rep_snoc]
  generalize upd H1 la (.lst (V.bl true :: List.replicate 5 (V.bl true) ++ [V.bl true])) = H25 at *
  refine ask_app hla (by simp) rfl hodd.eq rfl R.tab (fun H1 e1 T1 Rk hk => ?_) (fun H1 e1 T1 => ?_)
  · have R1 := R.ext e1 T1
    obtain ⟨dx, d0, g0, q0, hx⟩ := R1.desk.ins
    exact ⟨_, rfl, x, dx, _, rfl, hx, lk_Desk_no _ _ _ _ (by decide +kernel), _, rfl, _, _, rfl, x, S, rfl, R1.desk, R1.ok.now.ts.ok, by omega, .inl ⟨(hodd.ni (NI.of e1)).nosq T, fun dd H9 e9 _ hdd => met_bv hk e9 hdd⟩⟩
  have hla := (NI.of e1).ls hla
  have R := (R.ext e1 T1).bls (ys := V.bl true :: List.replicate 6 (V.bl true) ++ [V.bl true]) hla
  have hodd := (hodd.ni (NI.of e1)).bls (ys := V.bl true :: List.replicate 6 (V.bl true) ++ [V.bl true]) hla
  have hworse := (hworse.ni (NI.of e1)).bls (ys := V.bl true :: List.replicate 6 (V.bl true) ++ [V.bl true]) hla
  have hname := (hname.ni (NI.of e1)).bls (ys := V.bl true :: List.replicate 6 (V.bl true) ++ [V.bl true]) hla
  have hla : (upd H1 la (.lst (V.bl true :: List.replicate 6 (V.bl true) ++ [V.bl true]))) la = some (.lst (V.bl true :: List.replicate 7 (V.bl true))) := by rw [upd_same, rep_snoc]
  generalize upd H1 la (.lst (V.bl true :: List.replicate 6 (V.bl true) ++ [V.bl true])) = H26 at *
  refine ⟨by show 1 ≤ sizeLine; decide, fun lw hlw => mkMap (k := true) (cs := [1]) (m := 2) (SqL.of upd_same) (fun w hw => by rw [List.mem_singleton.mp hw]; decide) fun wide H6 e2 hwn hwide => ?_⟩
  have e3 := (Same.new (o := .lst [nV 1]) hlw).trans e2
  have hla := e3 _ _ hla
  have hodd := hodd.ni (NI.same e3)
  have hworse := hworse.ni (NI.same e3)
  have hname := hname.ni (NI.same e3)
  have R := R.same e3
  clear hlw hwn e2 e3
  refine ask_app hla (by simp) rfl (.inr ⟨_, rfl⟩) rfl R.tab (fun H1 e1 T1 Rk hk => ?_) (fun H1 e1 T1 => ?_)
  · have R1 := R.ext e1 T1
    obtain ⟨dx, d0, g0, q0, hx⟩ := R1.desk.ins
    exact ⟨_, rfl, x, dx, _, rfl, hx, lk_Desk_no _ _ _ _ (by decide +kernel), _, rfl, _, _, _, rfl, x, S, rfl, R1.desk, R1.ok.now.ts.ok, by omega, arg_a, .inr (.inl ⟨name_a, ⟨_, ty_Map T (hwide.ext e1), kit_Map_Spread T, kit_Map_Space T, kit_Map_Store T⟩, fun dd H9 e9 _ hdd => met_bv hk e9 hdd⟩)⟩
  have hla := (NI.of e1).ls hla
  have R := (R.ext e1 T1).bls (ys := V.bl true :: List.replicate 7 (V.bl true) ++ [V.bl true]) hla
  have hodd := (hodd.ni (NI.of e1)).bls (ys := V.bl true :: List.replicate 7 (V.bl true) ++ [V.bl true]) hla
  have hworse := (hworse.ni (NI.of e1)).bls (ys := V.bl true :: List.replicate 7 (V.bl true) ++ [V.bl true]) hla
  have hname := (hname.ni (NI.of e1)).bls (ys := V.bl true :: List.replicate 7 (V.bl true) ++ [V.bl true]) hla
  have hwide := (hwide.ext e1).nl (NL.lst (ys := V.bl true :: List.replicate 7 (V.bl true) ++ [V.bl true]) hla)
  have hla : (upd H1 la (.lst (V.bl true :: List.replicate 7 (V.bl true) ++ [V.bl true]))) la = some (.lst (V.bl true :: List.replicate 8 (V.bl true))) := by rw [upd_same, rep_snoc]
  generalize upd H1 la (.lst (V.bl true :: List.replicate 7 (V.bl true) ++ [V.bl true])) = H27 at *
  refine ask_app hla (by simp) rfl hworse.eq rfl R.tab (fun H1 e1 T1 Rk hk => ?_) (fun H1 e1 T1 => ?_)
  · have R1 := R.ext e1 T1
    obtain ⟨dx, d0, g0, q0, hx⟩ := R1.desk.ins
    exact ⟨_, rfl, x, dx, _, rfl, hx, lk_Desk_no _ _ _ _ (by decide +kernel), _, rfl, _, _, rfl, x, S, rfl, R1.desk, R1.ok.now.ts.ok, R1.ok.now.gs.giv, by omega, .inl ⟨(hworse.ni (NI.of e1)).ask, fun dd H9 e9 _ hdd => met_bp hk e9 hdd⟩⟩
  have hla := (NI.of e1).ls hla
  have R := (R.ext e1 T1).bls (ys := V.bl true :: List.replicate 8 (V.bl true) ++ [V.bl true]) hla
  have hodd := (hodd.ni (NI.of e1)).bls (ys := V.bl true :: List.replicate 8 (V.bl true) ++ [V.bl true]) hla
  have hworse := (hworse.ni (NI.of e1)).bls (ys := V.bl true :: List.replicate 8 (V.bl true) ++ [V.bl true]) hla
  have hname := (hname.ni (NI.of e1)).bls (ys := V.bl true :: List.replicate 8 (V.bl true) ++ [V.bl true]) hla
  have hwide := (hwide.ext e1).nl (NL.lst (ys := V.bl true :: List.replicate 8 (V.bl true) ++ [V.bl true]) hla)
  have hla : (upd H1 la (.lst (V.bl true :: List.replicate 8 (V.bl true) ++ [V.bl true]))) la = some (.lst (V.bl true :: List.replicate 9 (V.bl true))) := by rw [upd_same, rep_snoc]
  generalize upd H1 la (.lst (V.bl true :: List.replicate 8 (V.bl true) ++ [V.bl true])) = H28 at *
  refine ask_app hla (by simp) rfl (.inr ⟨_, rfl⟩) rfl R.tab (fun H1 e1 T1 Rk hk => ?_) (fun H1 e1 T1 => ?_)
  · have R1 := R.ext e1 T1
    obtain ⟨dx, d0, g0, q0, hx⟩ := R1.desk.ins
    exact ⟨_, rfl, x, dx, _, rfl, hx, lk_Desk_no _ _ _ _ (by decide +kernel), _, rfl, _, _, rfl, x, S, rfl, R1.desk, R1.ok.now.ts.ok, by omega, .inl ⟨.inr ⟨wide, 2, [1], rfl, hwide.ext e1, by decide⟩, fun dd H9 e9 _ hdd => met_bv hk e9 hdd⟩⟩
  have hla := (NI.of e1).ls hla
  have R := (R.ext e1 T1).bls (ys := V.bl true :: List.replicate 9 (V.bl true) ++ [V.bl true]) hla
  have hodd := (hodd.ni (NI.of e1)).bls (ys := V.bl true :: List.replicate 9 (V.bl true) ++ [V.bl true]) hla
  have hworse := (hworse.ni (NI.of e1)).bls (ys := V.bl true :: List.replicate 9 (V.bl true) ++ [V.bl true]) hla
  have hname := (hname.ni (NI.of e1)).bls (ys := V.bl true :: List.replicate 9 (V.bl true) ++ [V.bl true]) hla
  have hwide := (hwide.ext e1).nl (NL.lst (ys := V.bl true :: List.replicate 9 (V.bl true) ++ [V.bl true]) hla)
  have hla : (upd H1 la (.lst (V.bl true :: List.replicate 9 (V.bl true) ++ [V.bl true]))) la = some (.lst (V.bl true :: List.replicate 10 (V.bl true))) := by rw [upd_same, rep_snoc]
  generalize upd H1 la (.lst (V.bl true :: List.replicate 9 (V.bl true) ++ [V.bl true])) = H29 at *
  refine ⟨_, rfl, la, _, rfl, .inl (SqL.of hla), rfl, by decide +kernel, ?_⟩
  rw [show inV (V.bl false) (V.bl true :: List.replicate 10 (V.bl true)) = false from by decide +kernel]
  refine ⟨_, rfl, iteT ?_⟩
  obtain ⟨dx, d0, g0, q0, hx⟩ := R.desk.ins
  refine ⟨_, rfl, _, rfl, x, dx, _, rfl, hx, _, _, rfl, x, S, rfl, R.desk, hname.arg, fun H7 e7 => ⟨_, rfl, ?_⟩⟩
  rw [hname.knows R.ok.now.ts]
  refine ⟨_, rfl, iteT ?_⟩
  refine ⟨_, rfl, _, rfl, x, dx, _, rfl, e7 _ _ hx, _, _, rfl, x, S, rfl, R.desk.same e7, (hodd.ni (NI.same e7)).arg, fun H8 e8 => ⟨_, rfl, ?_⟩⟩
  rw [hodd.knows R.ok.now.ts]
  exact q _ (((R.mono (by omega)).same e7).same e8)
end
end L2.Lk
/-! L24 -/
set_option Elab.async false
set_option linter.all false
set_option maxRecDepth 100000
set_option maxHeartbeats 2000000
namespace L2.Lk
open PySem PySem.Spec PyProof.Rows
section
variable {P : Program} {w : World} {K : PySem.W.Frag} {mg : Str → Option Value} {base : Heap}
theorem min_nat (a b : Nat) : V.int (if ((b : Nat) : Int) < ((a : Nat) : Int) then ((b : Nat) : Int) else ((a : Nat) : Int)) = nV (min a b) := by
  show V.int _ = V.int _
  by_cases h : b < a
  · rw [if_pos (by omega), Nat.min_eq_right (by omega)]
  · rw [if_neg (by omega), Nat.min_eq_left (by omega)]
abbrev sp_law (K : PySem.W.Frag) : L2.Sp := S1 fun a H Q _ => ∃ p cs, a = .ref p ∧ SqL K H p (List.map V.int cs) ∧ cs.length ≤ 63 ∧ LamX.Tabs (tabsT K) H ∧ ∀ H', Q (.bl true) H'
theorem fn_law (T : Tx P K mg) (B : TbF K mg base) {fd : FuncData} (F : FunD K D_law.name D_law.qual (defArgs st_law) (defBody st_law) (defScope st_law) [] [] (He.fAd K ("law", none)) fd) : FnOk P w K mg base (L2.CX P w) 18 (He.fAd K ("law", none)) fd ["_law_script"] (sp_law K) := by
  refine ok_bodyF (p := ("law", none)) F sc_law (fun vs H Q E ⟨_, e, _⟩ => by rw [e]; rfl) fun A outer s H vs Q E hr h => ?_
  obtain ⟨_, rfl, p, cs, rfl, hp, hz, hT, q⟩ := h
  refine ⟨_, (pss_cons (ps_set (i := 1) sc_law.nd rfl (.inl rfl) (pe_h (ok_law_begin (K := K) T) (hr.mono (by decide)) passL (pa_cons (pv 0) pa_nil)))
    (pss_cons (ps_asg (pe_tup (pa_cons (pe_hc0 (ok_Desk_init (K := K) T) (mk_Desk T) (g_Desk T) (hr.mono (by decide)) passL) (pa_cons (pe_lst (pa_cons (pe_disp (pps_cons pe_str pe_dnewK (pps_cons pe_str (pe_lst pa_nil) pps_nil)) (by rfl) (by rfl) (fun z => by cases z) (by decide)) pa_nil)) (pa_cons (pe_h (ok_law_draw (K := K) T) (hr.mono (by decide)) passL (pa_cons (pv 1) (pa_cons (pe_nat 5) pa_nil))) pa_nil)))) (pg_tupK (n := 3) K rfl (pgs_cons (pg_name (i := 5) sc_law.nd rfl (.inr rfl)) (pgs_cons (pg_name (i := 2) sc_law.nd rfl (.inl rfl)) (pgs_cons (pg_name (i := 3) sc_law.nd rfl (.inl rfl)) pgs_nil)))))
    (pss_cons (ps_for (passes_of rfl) rfl (pi_range1 (by rfl) (b_range T) (pa_cons (pe_op op_addM (pe_nat 12) (pe_callB (call_min2 rfl) (by rfl) (b_min T) bb_min (pa_cons (pe_nat 18) (pa_cons (pe_op op_mulM (pe_nat 6) (pe_callB (call_lenM K) (by rfl) (b_len T) bb_len (pa_cons (pv 0) pa_nil))) pa_nil)))) pa_nil)) (pg_name (i := 4) sc_law.nd rfl (.inl rfl)) (pss_one (ps_if (pt_not (pt_val (pe_h (ok_law_step_right (K := K) T B) (hr.mono (by decide)) passL (pa_cons (pv 1) (pa_cons (pv 5) (pa_cons (pv 2) (pa_cons (pv 3) pa_nil))))))) (pss_one (ps_ret pe_bl)) pss_nil)))
    (pss_cons (ps_if (PW.pt (pw_or (pt_not (pt_val (pe_h (ok_law_odd_right (K := K) T B) (hr.mono (by decide)) passL (pa_cons (pv 1) (pa_cons (pv 5) pa_nil))))) (pw_or1 (pt_not (pt_val (pe_h (ok_law_stands (K := K) T) (hr.mono (by decide)) passL (pa_cons (pv 5) (pa_cons (pe_ix ix_list (pv 2) (pe_un un_neg pe_int) (fun _ _ => rfl)) (pa_cons (pe_op op_subM (pe_callB (call_lenM K) (by rfl) (b_len T) bb_len (pa_cons (pv 2) pa_nil)) (pe_nat 1)) pa_nil))))))))) (pss_one (ps_ret pe_bl)) pss_nil)
    (pss_cons (ps_for (passes_of rfl) rfl (pi_range1 (by rfl) (b_range T) (pa_cons (pe_op op_subM (pe_callB (call_lenM K) (by rfl) (b_len T) bb_len (pa_cons (pv 2) pa_nil)) (pe_nat 1)) pa_nil)) (pg_name (i := 4) sc_law.nd rfl (.inl rfl)) (pss_cons (ps_expr (pe_bm0 PySem.F.plainAttrs_list PySem.F.slot_list_pop PySem.F.type_list_pop mt_pop (pv 2)))
    (pss_cons (ps_expr (pe_hm0 (ok_Desk_undo (K := K) T) (own_Desk T) (hr.mono (by decide)) (passes_call (takes_of rfl rfl rfl rfl) fun _ _ _ _ h => h) (pv 5)))
    (pss_one (ps_if (pt_not (pt_val (pe_h (ok_law_stands (K := K) T) (hr.mono (by decide)) passL (pa_cons (pv 5) (pa_cons (pe_ix ix_list (pv 2) (pe_un un_neg pe_int) (fun _ _ => rfl)) (pa_cons (pe_op op_subM (pe_callB (call_lenM K) (by rfl) (b_len T) bb_len (pa_cons (pv 2) pa_nil)) (pe_nat 1)) pa_nil)))))) (pss_one (ps_ret pe_bl)) pss_nil)))))
    (pss_one (ps_ret (pe_and (pe_cmpR (op_eqDK K hr.units) (pe_met T 14 (t := fun E => tMt (cDesk K) "undo" (sp_undo K) E (tVar 5) tNil) B.t3 tabs3 B.u3 (hr.mono (by decide)) ?lam1 (L := LamX.lamS_by (sc := defScope st_law) (by decide +kernel))) (pe_lst (pa_cons pe_str pa_nil)) (nomark _)) (pe_one (pe_cmpR op_eqM (pe_callB (len_own (ok_Desk_len T).2 (m_Desk_len T) (hr.mono (by decide)) passL) (by rfl) (b_len T) bb_len (pa_cons (pe_hc0 (ok_Desk_init (K := K) T) (mk_Desk T) (g_Desk T) (hr.mono (by decide)) passL) pa_nil)) (pe_nat 0) (nomark _))))))))))), ?_⟩
  case lam1 => exact fun A outer s H E f c' hr => (pe_hm0 (ok_Desk_undo (K := K) T) (own_Desk T) (hr.mono (by decide)) (passes_call (takes_of rfl rfl rfl rfl) fun _ _ _ _ h => h) (pv 5))
  refine ⟨_, rfl, _, rfl, p, cs, rfl, hp, hz, fun pen c H1 e1 hpn hpen => ?_⟩
  refine mkDesk fun x H2 e2 hxn hx => ?_
  refine fun st hst => fun d hd => ⟨Nat.zero_le _, fun g hg => ⟨((Same.new hd).new' hg) _ _ upd_same, [(Sum.inr "things", .ref d), (Sum.inr "given", .ref g)], rfl, by show 2 ≤ 15; decide, by show 1 ≤ sizeLine; decide, fun ls hls => ?_⟩⟩
  rw [st_merge] at hls ⊢
  have n1 : d ≠ st := fun z => by rw [z, upd_same] at hd; cases hd
  have n2 : g ≠ st := fun z => by rw [z, upd_ne (Ne.symm n1), upd_same] at hg; cases hg
  have n3 : g ≠ d := fun z => by rw [z, upd_same] at hg; cases hg
  have n4 : ls ≠ st := fun z => by rw [z, upd_same] at hls; cases hls
  have n5 : ls ≠ g := fun z => by rw [z, upd_ne n2, upd_same] at hls; cases hls
  have n6 : ls ≠ d := fun z => by rw [z, upd_ne n1, upd_ne (Ne.symm n3), upd_same] at hls; cases hls
  have h2s : H2 st = none := hst
  have e3 : Same H2 (upd (upd (upd (upd (upd H2 st (.dK [])) d (.dK [])) g (.lst [])) st (.dK (stK d g))) ls (.lst [V.ref st])) := fun b o hb => by
    have z1 := ne_of_none hb h2s
    have z2 : (upd (upd (upd (upd H2 st (.dK [])) d (.dK [])) g (.lst [])) st (.dK (stK d g))) b = some o := by
      rw [upd_ne z1]
      exact ((Same.new hd).new' hg) _ _ ((Same.new hst) _ _ hb)
    exact (Same.new hls) _ _ z2
  have f1 : (upd (upd (upd (upd (upd H2 st (.dK [])) d (.dK [])) g (.lst [])) st (.dK (stK d g))) ls (.lst [V.ref st])) st = some (.dK (stK d g)) := by rw [upd_ne (Ne.symm n4), upd_same]
  have f2 : (upd (upd (upd (upd (upd H2 st (.dK [])) d (.dK [])) g (.lst [])) st (.dK (stK d g))) ls (.lst [V.ref st])) d = some (.dK []) := by rw [upd_ne (Ne.symm n6), upd_ne n1, upd_ne (Ne.symm n3), upd_same]
  have f3 : (upd (upd (upd (upd (upd H2 st (.dK [])) d (.dK [])) g (.lst [])) st (.dK (stK d g))) ls (.lst [V.ref st])) g = some (.lst []) := by rw [upd_ne (Ne.symm n5), upd_ne n2, upd_same]
  have f4 : (upd (upd (upd (upd (upd H2 st (.dK [])) d (.dK [])) g (.lst [])) st (.dK (stK d g))) ls (.lst [V.ref st])) ls = some (.lst [V.ref st]) := upd_same
  generalize upd (upd (upd (upd (upd H2 st (.dK [])) d (.dK [])) g (.lst [])) st (.dK (stK d g))) ls (.lst [V.ref st]) = H3 at e3 f1 f2 f3 f4 ⊢
  have e13 := e2.trans e3
  have R3 : Run K H3 pen c x ls 1000000 ⟨[], [], []⟩ := ⟨hpen.same e13, hx.same e3, ⟨[st], f4, .cons ⟨d, g, [], f1, f2, .nil, [], f3, .nil⟩ .nil⟩, (fun e he => by
    have : e = ([], []) := by simpa [hist] using he
    rw [this]
    exact ⟨TsOk.nil, GvOk.nil⟩), tabs_same hT ((e1.trans e2).trans e3)⟩
  refine ⟨_, rfl, _, _, rfl, pen, c, 450 * 40 + 1000, 5, rfl, rfl, by decide, by decide, R3.pen.mono (by decide), fun bits H4 hbits e4 hp4 => ⟨by show 3 ≤ sizeLine; decide, fun t ht => ⟨t, _, rfl, SqT.of upd_same, rfl, _, _, rfl, _, _, rfl, _, _, rfl, rfl, ?_⟩⟩⟩
  have R5 := (R3.draw e4 hp4).same (Same.new (o := .tup [.ref x, .ref ls, nV bits]) ht)
  have hp5 : SqL K (upd H4 t (.tup [.ref x, .ref ls, nV bits])) p (List.map V.int cs) := (Same.new ht).seq (SqL.stay (((e1.trans e13)).seq hp) (R3.pen.stay e4))
  generalize upd H4 t (.tup [.ref x, .ref ls, nV bits]) = H5 at R5 hp5 ⊢
  have hlen : (List.map V.int cs).length = cs.length := List.length_map _
  refine ⟨_, rfl, p, true, _, rfl, hp5, 6, _, rfl, rfl, (by omega : 6 < 2 ^ 64), _, _, rfl, 12, min 18 (6 * (List.map V.int cs).length), rfl, min_nat _ _, ?_⟩
  have hm : min 18 (6 * (List.map V.int cs).length) ≤ 18 := Nat.min_le_left _ _
  generalize min 18 (6 * (List.map V.int cs).length) = m at hm ⊢
  refine ⟨12 + m, rfl, by omega, by omega, for_rangeM (n := 12 + m) (Pv := fun i σ H' => ∃ S, Run K H' pen c x ls (450 * (40 - i) + 1000) S ∧ S.past.length ≤ i ∧ ∃ y, σ = [some (.ref p), some (.ref pen), some (.ref ls), some (nV bits), y, some (.ref x)]) ⟨_, R5, Nat.le_refl _, none, rfl⟩ (fun i σ H6 hi h => ?_) (fun σ H6 h => ?_)⟩
  · obtain ⟨S, R, hS, y, rfl⟩ := h
    have hf : 450 * (40 - i) + 1000 = (450 * (40 - (i + 1)) + 1000) + 450 := by omega
    rw [hf] at R
    refine ⟨_, rfl, _, rfl, _, rfl, _, rfl, _, _, _, _, rfl, pen, c, x, ls, _, S, bits, rfl, rfl, rfl, rfl, by omega, R, by omega, fun S' H7 R7 hl7 => ⟨_, rfl, ?_⟩⟩
    exact ⟨S', R7, by omega, _, rfl⟩
  · obtain ⟨S, R, hS, y, rfl⟩ := h
    refine ⟨_, rfl, _, rfl, _, _, rfl, pen, c, x, ls, 0, S, rfl, rfl, R.mono (by omega), by omega, fun H7 R7 => ⟨_, rfl, ?_⟩⟩
    obtain ⟨ps8, p8, hl8, hps8, hst8⟩ := (R7).now
    refine ⟨_, rfl, _, rfl, 1, rfl, ls, _, -1, .ref p8, rfl, rfl, SqL.of hl8, atI_last, _, rfl, ls, true, _, rfl, SqL.of hl8, _, 1, rfl, rfl, ?_⟩
    rw [len_st hps8]
    refine ⟨by omega, _, _, _, rfl, x, _, p8, rfl, rfl, rfl, (R7).desk, hst8, (R7).ok.now.ts, (R7).ok.now.gs, fun H9 e9 => ⟨_, rfl, ?_⟩⟩
    have R9 := R7.same e9
    obtain ⟨ps9, p9, hl9, hps9, _⟩ := R9.now
    refine ⟨_, rfl, ls, true, _, rfl, SqL.of hl9, _, 1, rfl, rfl, ?_⟩
    rw [len_st hps9]
    have hp30 : S.past.length ≤ 30 := by omega
    refine ⟨by omega, S.past.length, rfl, by omega, by omega, for_rangeM (n := S.past.length) (Pv := fun i σ H' => ∃ S', Run K H' pen c x ls 0 S' ∧ S'.past.length = S.past.length - i ∧ ∃ y, σ = [some (.ref p), some (.ref pen), some (.ref ls), some (nV bits), y, some (.ref x)]) ⟨S, R9, rfl, _, rfl⟩ (fun i σ HA hi h => ?_) (fun σ HA h => ?_)⟩
    · obtain ⟨S', R, hS', y, rfl⟩ := h
      rcases List.eq_nil_or_concat S'.past with hn | ⟨es, e, he⟩
      · rw [hn] at hS'
        have : (0 : Nat) = S.past.length - i := hS'
        omega
      have he : S'.past = es ++ [e] := he.trans List.concat_eq_append
      have hh : hist S' = hist ⟨e.1, e.2, es⟩ ++ [(S'.things, S'.given)] := by unfold hist; rw [he]
      have hs4 := R.sts
      rw [hh] at hs4
      obtain ⟨qs, p4, hl4, hs5⟩ := StsAt.cut hs4 (by unfold hist; simp)
      rw [List.map_append] at hl4
      have hl4 : HA ls = some (.lst (qs.map V.ref ++ [V.ref p4])) := hl4
      refine ⟨_, rfl, .inl ⟨rfl, _, SqL.of hl4⟩, ls, _, _, rfl, rfl, hl4, last_at, ?_⟩
      rw [List.dropLast_concat]
      have hcl : c ≠ ls := by
        cases qs with
        | nil => exact cells_ne (ps := []) hl4 R.pen
        | cons z zs => exact cells_ne (p := z) (ps := zs ++ [p4]) (by rw [hl4]; simp) R.pen
      have hpB := R.pen.set (ys := qs.map V.ref) hl4 hcl
      have hDB := R.desk.nl (NL.lst (ys := qs.map V.ref) hl4)
      have htB := tabs_lst (ys := qs.map V.ref) R.tab hl4
      obtain ⟨dx, d0, g0, q0, hxB⟩ := hDB.ins
      refine ⟨_, rfl, x, dx, _, rfl, hxB, lk_Desk_no _ _ _ _ (by decide +kernel), _, rfl, x, S', rfl, hDB, (fun hn0 => by rw [he] at hn0; cases es <;> cases hn0), fun es2 e2 hp2 HC sC hDC => ?_⟩
      obtain ⟨rfl, rfl⟩ : es2 = es ∧ e2 = e := by
        rw [he] at hp2
        have := List.append_inj' hp2 rfl
        exact ⟨this.1.symm, by have h2 := this.2; injection h2 with h2; exact h2.symm⟩
      have nC := NI.ins hxB sC
      have RC : Run K HC pen c x ls 0 ⟨e2.1, e2.2, es2⟩ := ⟨hpB.ni nC, hDC, hs5.ni nC, (fun z hz => R.ok z (by rw [hh]; exact List.mem_append_left _ hz)), tabs_ins htB hxB sC⟩
      obtain ⟨ps8, p8, hl8, hps8, hst8⟩ := (RC).now
      refine ⟨_, rfl, _, rfl, 1, rfl, ls, _, -1, .ref p8, rfl, rfl, SqL.of hl8, atI_last, _, rfl, ls, true, _, rfl, SqL.of hl8, _, 1, rfl, rfl, ?_⟩
      rw [len_st hps8]
      refine ⟨by omega, _, _, _, rfl, x, _, p8, rfl, rfl, rfl, (RC).desk, hst8, (RC).ok.now.ts, (RC).ok.now.gs, fun H9 e9 => ⟨_, rfl, ?_⟩⟩
      refine ⟨_, RC.same e9, ?_, _, rfl⟩
      show es2.length = _
      have : S'.past.length = es2.length + 1 := by rw [he, List.length_append]; rfl
      omega
    · obtain ⟨S', R, hS', y, rfl⟩ := h
      have hpast : S'.past = [] := List.length_eq_zero_iff.mp (by omega)
      refine ⟨R.tab, fun HB eB TB => ?_⟩
      have RB := R.ext eB TB
      obtain ⟨dx, d0, g0, q0, hxB⟩ := RB.desk.ins
      refine ⟨_, rfl, x, dx, _, rfl, hxB, lk_Desk_no _ _ _ _ (by decide +kernel), _, rfl, x, S', rfl, RB.desk, (fun _ HC eC => .inr (.inr (.inr (.inr (.inr (.inl ⟨rfl, rfl, fun l9 hl9 => ⟨by show 1 ≤ sizeLine; decide, fun l10 hl10 => ?_⟩⟩)))))), (fun es9 e9 hp9 => by rw [hpast] at hp9; cases es9 <;> cases hp9)⟩
      refine ⟨_, _, dp_not ((Same.new hl10) _ _ upd_same), dp_not upd_same, by decide +kernel, by decide +kernel, ?_⟩
      rw [show PyData.eqv (.list [.str "nothing"]) (.list [.str "nothing"]) = true from by decide +kernel]
      refine ⟨_, rfl, iteT ?_⟩
      refine mkDesk fun x2 HD eD hn2 hx2 => ?_
      obtain ⟨dx2, d2, g2, q2, hxD⟩ := hx2.ins
      exact ⟨x2, dx2, _, rfl, hxD, _, rfl, x2, _, rfl, hx2, fun HE eE => ⟨0, rfl, by decide, 0, 0, rfl, rfl, q _⟩⟩
end
end L2.Lk
/-! Hd2 -/
set_option Elab.async false
set_option linter.all false
set_option maxRecDepth 100000
set_option maxHeartbeats 2000000
namespace L2.Lk
open PySem PySem.Spec PyProof.Rows
/-! ### what the looks say -/
theorem ba {a b : Bool} (h : (a && b) = true) : a = true ∧ b = true := Bool.and_eq_true_iff.mp h
theorem oexB_ok {K : PySem.W.Frag} {C : Addr} (h : oexB K C = true) : OexC K C := by
  unfold oexB at h
  obtain ⟨h1, h⟩ := ba h
  obtain ⟨h2, h⟩ := ba h
  obtain ⟨h3, h⟩ := ba h
  obtain ⟨h4, h5⟩ := ba h
  refine ⟨?_, of_decide_eq_true h2, of_decide_eq_true h3, of_decide_eq_true h4, h5⟩
  cases q : K.lookup C with
  | none => rw [q] at h1; cases h1
  | some o =>
    obtain ⟨oc, od, dt, sl⟩ := o
    rw [q] at h1
    cases oc with
    | type ty =>
      cases dt with
      | cls cd =>
        obtain ⟨g1, g⟩ := ba h1
        obtain ⟨g2, g⟩ := ba g
        obtain ⟨g3, g4⟩ := ba g
        obtain ⟨g5, g6⟩ := ba g3
        have g1 := of_decide_eq_true g1
        subst g1
        obtain ⟨nm, bs, mro, ns, qn, hd, sn, sub, ab, col, dl⟩ := cd
        dsimp only at g2 g5 g6
        cases mro with
        | nil => cases g2
        | cons m bm =>
          cases m with
          | ref C' =>
            obtain ⟨g7, g8⟩ := ba g2
            have g7 := of_decide_eq_true g7
            subst g7
            subst g5
            have g6 : dl = false := by cases dl <;> first | rfl | cases g6
            subst g6
            have hsl : ∃ k0 k1 k2 k3 k5, sl = #[k0, k1, k2, k3, some (.builtin "ValueError.__new__"), k5] := by
              obtain ⟨l⟩ := sl
              dsimp only at g4
              match l, g4 with
              | [k0, k1, k2, k3, some (.builtin n), k5], g4 =>
                have g4 := of_decide_eq_true g4
                subst g4
                exact ⟨k0, k1, k2, k3, k5, rfl⟩
            obtain ⟨k0, k1, k2, k3, k5, rfl⟩ := hsl
            exact ⟨nm, qn, ns, bs, bm, sn, sub, ab, col, od, k0, k1, k2, k3, k5, rfl, g8⟩
          | _ => cases g2
      | _ => cases h1
    | _ => cases dt <;> cases h1
theorem excB_ok {K : PySem.W.Frag} {D : Addr} (h : excB K D = true) : ExcC K D := by
  unfold excB at h
  obtain ⟨h1, h⟩ := ba h
  obtain ⟨h2, h⟩ := ba h
  obtain ⟨h3, h⟩ := ba h
  obtain ⟨h4, h⟩ := ba h
  obtain ⟨h5, h⟩ := ba h
  obtain ⟨h6, h⟩ := ba h
  obtain ⟨h7, h8⟩ := ba h
  exact ⟨of_decide_eq_true h1, of_decide_eq_true h2, of_decide_eq_true h3, h4, of_decide_eq_true h5, of_decide_eq_true h6, of_decide_eq_true h7, of_decide_eq_true h8⟩
theorem ownB_ok {K : PySem.W.Frag} {x : Str} (h : ownB K x = true) : Own K (He.ga K x) := by
  unfold ownB at h
  obtain ⟨h1, h⟩ := ba h
  obtain ⟨h2, h⟩ := ba h
  obtain ⟨h3, h⟩ := ba h
  obtain ⟨h4, h5⟩ := ba h
  exact ⟨He.cls_ok h1, of_decide_eq_true h2, of_decide_eq_true h3, of_decide_eq_true h4, of_decide_eq_true h5⟩
theorem erB_ok {P : Program} {K : PySem.W.Frag} {mg : Str → Option Value} {x q : Str} {st : Stmt} (h : erB P K x q = true) (he : fnE K (He.ma K (He.ga K x) "__init__") = fnEv q st) (hany : PySem.W.nsIn K cStatics "thirdparty.any" = some none) (hsup : mg "super" = none)
    (htop : (P.main.scope.names.lookup ("super" : Str)).isSome = false) : Er P K mg x q st := by
  unfold erB at h
  obtain ⟨h1, h⟩ := ba h
  obtain ⟨h2, h⟩ := ba h
  obtain ⟨h3, h⟩ := ba h
  obtain ⟨h4, h⟩ := ba h
  obtain ⟨h5, h⟩ := ba h
  have h4 := of_decide_eq_true h4
  have h5 := of_decide_eq_true h5
  refine ⟨?_, h4, h5⟩
  generalize hfI : He.ma K (He.ga K x) "__init__" = fI at h he h4 h5
  cases hq : K.lookup fI with
  | none => rw [hq] at h; cases h
  | some o =>
    obtain ⟨oc, od, dt, osl⟩ := o
    unfold fnE at he
    rw [hq] at h he
    cases dt with
    | func fd =>
      obtain ⟨n1, n2, n3, n4, n5, n6, n7, n8, n9, n10, n11, n12, n13, n14, n15⟩ := fd
      have e2 : (some (n1, n2, n3, n4, n5, n6, n7.map (·.1), n15) : FnE) = (some ("__init__", q, defArgs st, .stmts (defBody st), defScope st, mainGlobals, ["__class__"], builtinsNs) : FnE) := he
      simp only [Option.some.injEq, Prod.mk.injEq] at e2
      obtain ⟨z1, z2, z3, z4, z5, z6, z7, z8⟩ := e2
      subst z1 z2 z3 z4 z5 z6 z8
      obtain ⟨g, g3⟩ := ba h
      obtain ⟨g1, g2⟩ := ba g
      dsimp only at g1 g2 g3
      have g1 : n8 = .none := by cases n8 <;> first | rfl | cases g1
      subst g1
      cases n13 with
      | ref cda =>
        obtain ⟨k1, k2⟩ := ba g2
        cases hc : K.lookup cda with
        | none => rw [hc] at k2; cases k2
        | some o =>
          obtain ⟨o1, o2, dt2, o3⟩ := o
          rw [hc] at k2
          cases dt2 with
          | fields vs =>
            have k2 : (match (vs[2]? : Option Value) with
              | some (Value.str file _) => (P.main.file : Str) == file
              | _ => false) = true := k2
            cases hv : (vs[2]? : Option Value) with
            | none => rw [hv] at k2; cases k2
            | some u =>
              rw [hv] at k2
              cases u with
              | str file tf =>
                match n7, z7, g3 with
                | [(cn, cc)], z7, g3 =>
                  have z7 : cn = "__class__" := by
                    have z7 : [cn] = (["__class__"] : List Str) := z7
                    injection z7 with z7 _
                  subst z7
                  have g3 : (match K.lookup cc with
                    | some ⟨_, _, .cell (some (.ref C')), _⟩ => decide (C' = He.ga K x)
                    | _ => false) = true := g3
                  cases hcc : K.lookup cc with
                  | none => rw [hcc] at g3; cases g3
                  | some o =>
                    obtain ⟨p1, p2, dt3, p3⟩ := o
                    rw [hcc] at g3
                    cases dt3 with
                    | cell ov =>
                      cases ov with
                      | none => cases g3
                      | some cv =>
                        cases cv with
                        | ref C' =>
                          have g3 := of_decide_eq_true g3
                          subst g3
                          exact ⟨_, oexB_ok h1, of_decide_eq_true h2, of_decide_eq_true h3, hany, hsup, htop, oc, od, n12, n9, n10, n11, n14, osl, cda, cc, o1, o2, vs, o3, file, tf, p1, p2, p3, rfl, hq, k1, hc, hv, k2, hcc⟩
                        | _ => cases g3
                    | _ => cases g3
              | _ => cases k2
          | _ => cases k2
      | _ => cases g2
    | _ => cases h
structure SaysW (h : Heap) (K : PySem.W.Frag) : Prop where
  a : bA K = true
  b : bB K = true
  e : (bE PW K, erN.map fun t => fnE K (He.ma K (He.ga K t.1) "__init__")) = vE
  d1 : (bDs allD1 K, allD1.map fun d => He.fnW K d.at_) = vDs allD1
  d2 : (bDs allD2 K, allD2.map fun d => He.fnW K d.at_) = vDs allD2
  hd : ∀ p ∈ tfN, PySem.W.codeHdIn K (He.cT K p).1 (He.cT K p).2 = true
  out : ∀ p ∈ tfN, K.lookup (He.cT K p).2 = none
  empty : ∀ p ∈ tfN, h.get? (He.cT K p).2 = some { cls := .none, data := .fields #[] }
  n12 : tbA K "_law_step_right" ≠ tbA K "_law_odd_right"
  n13 : tbA K "_law_step_right" ≠ tbA K "law"
  n23 : tbA K "_law_odd_right" ≠ tbA K "law"
theorem says_of {h : Heap} (ha : oA h.get? = true) (hb : oB h.get? = true) (ht : bT h.get? = true) (he : oE h.get? = vE) (hd1 : oDs allD1 h.get? = vDs allD1) (hd2 : oDs allD2 h.get? = vDs allD2) : SaysW h (KM h.get?) := by
  obtain ⟨h1, h2⟩ := ba (show (He.tabsB h.get? tfN (KM h.get?) && _) = true from ht)
  obtain ⟨h3, h4⟩ := ba h2
  obtain ⟨h4, h5⟩ := ba h4
  have key : ∀ p ∈ tfN, PySem.W.codeHdIn (KM h.get?) (He.cT (KM h.get?) p).1 (He.cT (KM h.get?) p).2 = true ∧ ∃ o, h.get? (He.cT (KM h.get?) p).2 = some o ∧ He.emptyTab o = true := fun p hp => by
    obtain ⟨g1, g2⟩ := ba (List.all_eq_true.mp h1 p hp)
    refine ⟨g1, ?_⟩
    cases q : h.get? (He.cT (KM h.get?) p).2 with
    | none => rw [q] at g2; cases g2
    | some o => rw [q] at g2; exact ⟨o, rfl, g2⟩
  exact ⟨ha, hb, he, hd1, hd2, fun p hp => (key p hp).1, fun p hp => by
    obtain ⟨_, o, q, z⟩ := key p hp
    exact He.frT_none q z, fun p hp => by
    obtain ⟨_, o, q, z⟩ := key p hp
    rw [q, He.emptyTab_eq z], of_decide_eq_true h3, of_decide_eq_true h4, of_decide_eq_true h5⟩
theorem tx_of {h : Heap} {K : PySem.W.Frag} {mg : Str → Option Value} (X : K.In h) (G : h.Ns mainGlobals mg) (c : SaysW h K) : Tx PW K mg := by
  obtain ⟨a1, a2⟩ := ba c.a
  obtain ⟨a2, a3⟩ := ba a2
  obtain ⟨a3, a4⟩ := ba a3
  obtain ⟨b1, b2⟩ := ba c.b
  obtain ⟨b2, b3⟩ := ba b2
  obtain ⟨b3, b4⟩ := ba b3
  obtain ⟨b4, b5⟩ := ba b4
  obtain ⟨b5, b6⟩ := ba b5
  obtain ⟨b7, b8⟩ := ba b5
  obtain ⟨b9, b10⟩ := ba b6
  obtain ⟨e1, e2⟩ := ba (show bE PW K = true from congrArg (fun z : Bool × List FnE => z.1) c.e)
  obtain ⟨e2, e3⟩ := ba e2
  obtain ⟨e3, e4⟩ := ba e3
  have eF : (erN.map fun t => fnE K (He.ma K (He.ga K t.1) "__init__")) = erN.map fun t => fnEv t.2.1 t.2.2 := congrArg (fun z : Bool × List FnE => z.2) c.e
  have dS : allD = allD1 ++ allD2 := (List.take_append_drop 60 allD).symm
  have dB1 : bDs allD1 K = true := congrArg (fun z : Bool × List He.FnW => z.1) c.d1
  have dB2 : bDs allD2 K = true := congrArg (fun z : Bool × List He.FnW => z.1) c.d2
  have dF1 : (allD1.map fun d => He.fnW K d.at_) = allD1.map He.DefD.val := congrArg (fun z : Bool × List He.FnW => z.2) c.d1
  have dF2 : (allD2.map fun d => He.fnW K d.at_) = allD2.map He.DefD.val := congrArg (fun z : Bool × List He.FnW => z.2) c.d2
  have dB : (allD.all fun d => d.ok K) = true := by
    rw [dS, List.all_append]
    exact Bool.and_eq_true_iff.mpr ⟨dB1, dB2⟩
  have dF : (allD.map fun d => He.fnW K d.at_) = allD.map He.DefD.val := by
    rw [dS, List.map_append, List.map_append, dF1, dF2]
  have hfree : ∀ x ∈ freeN, mg x = none := fun x hx => He.free_ok X G (List.all_eq_true.mp a2 x hx)
  have eE : ∀ x ∈ errN, (errN.all fun y => (He.Fa.exm x y (decide (x = y))).ok K) = true ∧ PySem.W.kitOne K (.ref (He.ga K x)) (.ref (He.ga K "LaneError")) = some true ∧ xfB K (He.ga K x) = true ∧ excB K (He.ga K x) = true := fun x hx => by
    obtain ⟨g1, g2⟩ := ba (List.all_eq_true.mp e1 x hx)
    obtain ⟨g2, g3⟩ := ba g2
    obtain ⟨g3, g4⟩ := ba g3
    exact ⟨g1, of_decide_eq_true g2, g3, g4⟩
  refine ⟨fun i x q st hi => ?_, fun x hx y hy => He.exm_ok (List.all_eq_true.mp (eE x hx).1 y hy), fun x hx => (eE x hx).2.1, fun x hx => xfB_ok (eE x hx).2.2.1, fun x hx => excB_ok (eE x hx).2.2.2, He.exc_ok e2, fun i d hi => ?_,
    fun x hx => He.glo_ok X G (List.all_eq_true.mp a1 x hx), hfree, fun x hx => ownB_ok (ba (List.all_eq_true.mp b1 x hx)).1, fun x hx => He.mkr_ok (ba (List.all_eq_true.mp b1 x hx)).2, fun p hp => He.noat_ok (List.all_eq_true.mp b2 p hp), fun p hp => He.meth_ok (List.all_eq_true.mp b3 p hp),
    fun i a b r hi => of_decide_eq_true (List.all_eq_true.mp b4 (a, b, r) (List.mem_of_getElem? hi)), fun H => He.tupB_ok a3 H, fun H => He.tupB_ok a4 H, ⟨b7, b8⟩, b9, b10⟩
  · have e5 : (erN.map fun t => fnE K (He.ma K (He.ga K t.1) "__init__"))[i]? = (erN.map fun t => fnEv t.2.1 t.2.2)[i]? := by rw [eF]
    rw [List.getElem?_map, List.getElem?_map, hi] at e5
    exact erB_ok (List.all_eq_true.mp e3 (x, q, st) (List.mem_of_getElem? hi)) (Option.some.inj e5) (of_decide_eq_true e4) (hfree "super" (by decide +kernel)) (by decide +kernel)
  · have e5 : (allD.map fun d => He.fnW K d.at_)[i]? = (allD.map He.DefD.val)[i]? := by rw [dF]
    rw [List.getElem?_map, List.getElem?_map, hi] at e5
    exact He.DefD.funD (Option.some.inj e5) (List.all_eq_true.mp dB d (List.mem_of_getElem? hi))
/-! ### the Hook, the run -/
abbrev AlW : Type := (Bool × Bool × Bool) × (Bool × List FnE) × (Bool × List He.FnW) × (Bool × List He.FnW)
def obW (g : Addr → Option Obj) : AlW := ((oA g, oB g, bT g), oE g, oDs allD1 g, oDs allD2 g)
def vW : AlW := ((true, true, true), vE, vDs allD1, vDs allD2)
def hkW : PySem.W.Hook where
  α := AlW
  obs := fun s => obW s.heap.get?
  val := fun _ => vW
  says := fun _ h => ∃ K : PySem.W.Frag, K.In h ∧ SaysW h K
  of := fun _ s e => ⟨KM s.heap.get?, He.frT_in, says_of (congrArg (fun z : AlW => z.1.1) e) (congrArg (fun z : AlW => z.1.2.1) e) (congrArg (fun z : AlW => z.1.2.2) e) (congrArg (fun z : AlW => z.2.1) e) (congrArg (fun z : AlW => z.2.2.1) e) (congrArg (fun z : AlW => z.2.2.2) e)⟩
  keeps := fun _ _ _ ⟨K, hK, c⟩ k => ⟨K, PySem.W.Frag.In.keeps hK k, ⟨c.a, c.b, c.e, c.d1, c.d2, c.hd, c.out, fun p hp => k _ _ (c.empty p hp), c.n12, c.n13, c.n23⟩⟩
def obT (s : PySem.W.SharedT) : AlW := obW (HandSHeadRun.getT s)
theorem obT_eq (s : PySem.W.SharedT) : obT s = hkW.obs s.abs := by
  show obW (HandSHeadRun.getT s) = obW s.abs.heap.get?
  rw [funext (HandSHeadRun.getT_eq s)]
theorem runW (w : World) : HandSHeadRun.RunEq RW qW hkW obT 20000 looseN w := by
  intro os
  have r1 := runR1 w os
  have r2 := runR2 w os
  have ra := runA w os
  have rb := runB w os
  have re := runE w os
  have rd1 := runD1 w os
  have rd2 := runD2 w os
  have rt := runT w os
  show (endW w os).map _ = _
  cases h : endW w os with
  | none => rw [h] at r1; cases r1
  | some s =>
    rw [h] at r1 r2 ra rb re rd1 rd2 rt
    have z1 := Option.some.inj r1
    have z2 := Option.some.inj r2
    have ra : oA (HandSHeadRun.getT s) = true := Option.some.inj ra
    have rb : oB (HandSHeadRun.getT s) = true := Option.some.inj rb
    have re : oE (HandSHeadRun.getT s) = vE := Option.some.inj re
    have rd1 : oDs allD1 (HandSHeadRun.getT s) = vDs allD1 := Option.some.inj rd1
    have rd2 : oDs allD2 (HandSHeadRun.getT s) = vDs allD2 := Option.some.inj rd2
    have rt : bT (HandSHeadRun.getT s) = true := Option.some.inj rt
    have ho : obT s = vW := by
      show ((oA _, oB _, bT _), oE _, oDs _ _, oDs _ _) = vW
      rw [ra, rb, re, rd1, rd2, rt]
      rfl
    show some (_, _, obT s) = _
    rw [ho]
    exact congrArg some (Prod.ext z1 (Prod.ext z2 rfl))
end L2.Lk
/-! End -/
set_option Elab.async false
set_option linter.all false
set_option maxRecDepth 100000
set_option maxHeartbeats 2000000
namespace L2.Lk
open PySem PySem.Spec PyProof.Rows
theorem cx_false (w : World) (H : Hp) (s : Shared) (e : Value) (s' : Shared) : L2.CX PW w [] H s (fun _ _ _ => False) e s' → False := fun ⟨_, _, _, _, _, _, _, _, _, _, _, _, z⟩ => z
theorem law_at {w : World} {K : PySem.W.Frag} {mg : Str → Option Value} {fa : Addr} {h : Heap} (X : K.In h) (G : h.Ns mainGlobals mg) (hmg : mg ("law" : Str) = some (.ref fa)) (c : SaysW h K) :
    LamX.LawAtS PySem.Challenge.rw_laneswap_k42_whole_histories_of_desks w K (L2.CX PW w) 18 63 "_law_script" mg fa h := by
  have T := tx_of X G c
  obtain ⟨fd, F⟩ := F_law T
  have e := hmg.symm.trans (g_law T)
  cases e
  have b := FunD.bindsA (ps := ["_law_script"]) F fun _ _ _ _ _ _ us hl => match us, hl with | [_], _ => rfl
  refine ⟨fd, tfN.map (He.cT K), sp_law K, fun p hp => ?_, fun p hp => ?_, fun p hp => ?_, fun s u => b s [u] rfl, fun H a ns hl _ hH hS => ?_, fun base hb hn hT => ?_⟩
  · obtain ⟨q, hq, rfl⟩ := List.mem_map.mp hp
    exact c.empty q hq
  · obtain ⟨q, hq, rfl⟩ := List.mem_map.mp hp
    exact c.out q hq
  · obtain ⟨q, hq, rfl⟩ := List.mem_map.mp hp
    exact PySem.W.codeHd_of_K X (c.hd q hq)
  · refine ⟨_, rfl, a, ns, rfl, hS, hl, fun p hp => ?_, fun _ => rfl⟩
    simp only [tabsT, List.mem_cons, List.not_mem_nil, or_false] at hp
    rcases hp with rfl | rfl | rfl
    · exact LamX.TabS.nil (hH _ (List.mem_map.mpr ⟨("_law_step_right", none), .head _, rfl⟩))
    · exact LamX.TabS.nil (hH _ (List.mem_map.mpr ⟨("_law_odd_right", none), .tail _ (.head _), rfl⟩))
    · exact LamX.TabS.nil (hH _ (List.mem_map.mpr ⟨("law", none), .tail _ (.tail _ (.head _)), rfl⟩))
  · have B : TbF K mg base := ⟨hT _ (List.mem_map.mpr ⟨("_law_step_right", none), .head _, rfl⟩), hT _ (List.mem_map.mpr ⟨("_law_odd_right", none), .tail _ (.head _), rfl⟩), hT _ (List.mem_map.mpr ⟨("law", none), .tail _ (.tail _ (.head _)), rfl⟩), c.n12, c.n13, c.n23⟩
    exact fn_law T B F
end L2.Lk
open PySem PySem.W PySem.Calls PyProof.Rows
theorem PySem.Challenge.cw_laneswap_k42_whole_histories_of_desks_holds : PySem.Challenge.rw_laneswap_k42_whole_histories_of_desks.Holds := by
  w_on; o_law
  refine HandSHeadRun.head_any (r := OpenLaw.row PySem.Challenge.rw_laneswap_k42_whole_histories_of_desks) (q := L2.Lk.qW) (H := L2.Lk.hkW) (ob := L2.Lk.obT) (M := 20000) (loose := L2.Lk.looseN) (d := HandSHeadRun.topDef (OpenLaw.row PySem.Challenge.rw_laneswap_k42_whole_histories_of_desks).prog 116) (kwd := []) L2.Lk.obT_eq
    (by kernel_rfl) (fun s => by kernel_rfl) L2.Lk.runW (by kernel_rfl) (by kernel_rfl) (by kernel_rfl) (by rfl) (by first | assumption | decide +kernel) (by decide +kernel) ⟨rfl, rfl, rfl, rfl, rfl, by decide +kernel⟩ ?hw ?hc
  case hw => w_witness2
  case hc =>
    refine LamX.walk_ofTsE (l := PySem.Challenge.rw_laneswap_k42_whole_histories_of_desks) (n := 63) (k := 18) (x := "_law_script") (CX := fun w => L2.CX L2.Lk.PW w) rfl (by decide) (by kernel_rfl) ⟨rfl, by decide, by decide⟩ ?F L2.Lk.cx_false
    intro w mg fa h Y G hmg0
    obtain ⟨K, KX, c⟩ := Y
    have hmg : mg ("law" : PySem.Str) = some (.ref fa) := by
      have e : (HandSHeadRun.topDef (OpenLaw.row PySem.Challenge.rw_laneswap_k42_whole_histories_of_desks).prog 116).name = ("law" : PySem.Str) := by kernel_rfl
      rw [← e]
      exact hmg0
    exact ⟨K, KX, L2.Lk.law_at KX G hmg c⟩
