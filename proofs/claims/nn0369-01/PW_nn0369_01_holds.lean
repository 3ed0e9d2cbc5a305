import PyProof.Rows.All
import Wide.All
import OpenK.AllK
import Wide.FinOn
import Lean
import PySem.Challenge.RW_nn0369_01
open PySem PySem.W PyProof.Rows PySem.Spec PySem.Calls
set_option Elab.async false
set_option compiler.extract_closed false
set_option maxRecDepth 100000
set_option maxHeartbeats 8000000
set_option linter.unusedSimpArgs false
namespace Mine
-- the heap part as a constant (hd.heap_1), with no run of the top: the goal of a thing that holds of itself is handed to the head's writer
structure Fk where
  n : Nat
def fk : Fk := ⟨0⟩
def Fk.Holds (_ : Fk) : Prop := True
theorem triv {P : Prop} (_ : P → P) {x : Fk} : x.Holds := trivial
def KeepH (_ : Hook) : Prop := True
theorem fake {r : OpenRow} (H : Hook) (h : r.Holds) (_ : True) (_ : KeepH H) : r.Holds := h
section
local macro_rules | `(tactic| o_law) => `(tactic| refine triv (P := (PySem.Challenge.rw_nn0369_01).row.Holds) (fun h0 => ?_))
local macro_rules | `(tactic| o_head $H) => `(tactic| refine fake $H (by assumption) ?hw ?hc)
local macro_rules | `(tactic| w_witness2) => `(tactic| exact True.intro)
open_top hd for fk
end
local macro_rules | `(tactic| walk_at $s:str) => `(tactic| k_extra $s)
local macro_rules | `(tactic| ktr_room) => `(tactic| k_extra "ktr_room")
local macro_rules | `(tactic| k_mem) => `(tactic| k_extra "k_mem")
local macro_rules | `(tactic| ktn_open) => `(tactic| k_extra "ktn_open")
local macro_rules | `(tactic| tb_start) => `(tactic| k_extra "tb_start")
local macro_rules | `(tactic| ktr_units) => `(tactic| k_extra "ktr_units")
local macro_rules | `(tactic| ktd_rel) => `(tactic| k_extra "ktd_rel")
local macro_rules | `(tactic| k_room) => `(tactic| k_extra "k_room")
local macro_rules | `(tactic| ktd_sub) => `(tactic| k_extra "ktd_sub")
local macro_rules | `(tactic| k_steps) => `(tactic| k_extra "k_steps")
local macro_rules | `(tactic| kct_strs) => `(tactic| k_extra "kct_strs")
local macro_rules | `(tactic| kas_types) => `(tactic| k_extra "kas_types")
local macro_rules | `(tactic| k_all) => `(tactic| k_extra "k_all")
local macro_rules | `(tactic| kqd_sub) => `(tactic| k_extra "kqd_sub")
local macro_rules | `(tactic| kqd_all) => `(tactic| k_extra "kqd_all")
local macro_rules | `(tactic| k_handed) => `(tactic| k_extra "k_handed")
local macro_rules | `(tactic| ktf_call $c:term) => `(tactic| (k_dflt (k_extra "tell 1"; (case tlC => exact $c); k_extra "tell 2"); intro r9 tl9 h9 tk9 F9 N9 hl9 ho9))
open LCg LCt
set_option maxHeartbeats 4000000
/-- the three sets of signs that the law draws -/
inductive Lf where
  | a | b | ab
/-- a regular expression -/
inductive Rx where
  | chr (s : Lf) | empty | never
  | cat (l r : Rx) | alt (l r : Rx)
  | star (b : Rx) | plus (b : Rx) | opt (b : Rx)
  | rep (b : Rx) (low : Nat) (high : Option Nat)
noncomputable def Rx.ht : Rx → Nat
  | .chr _ => 0 | .empty => 0 | .never => 0
  | .cat l r => max l.ht r.ht + 1
  | .alt l r => max l.ht r.ht + 1
  | .star b => b.ht + 1 | .plus b => b.ht + 1 | .opt b => b.ht + 1
  | .rep b _ _ => b.ht + 1

noncomputable def cbe : Rx → Bool
  | .chr _ => false | .empty => true | .never => false
  | .cat l r => cbe l && cbe r
  | .alt l r => cbe l || cbe r
  | .star _ => true | .plus b => cbe b | .opt _ => true
  | .rep b low _ => low == 0 || cbe b
def wf : Rx → Prop
  | .chr _ => True | .empty => True | .never => True
  | .cat l r => wf l ∧ wf r
  | .alt l r => wf l ∧ wf r
  | .star b => wf b | .plus b => wf b | .opt b => wf b
  | .rep b low high => wf b ∧ low ≤ 2 ∧ ∀ h, high = some h → low ≤ h ∧ h ≤ 5
noncomputable def we (t : Rx) : Rx :=
  if cbe t = false then t else
  match t with
  | .cat l r => .alt (.cat (we l) r) (we r)
  | .alt l r => .alt (we l) (we r)
  | .star b => .plus (we b)
  | .plus b => .plus (we b)
  | .opt b => we b
  | .rep b _ high => if high = some 0 then .never else .rep (we b) 1 high
  | _ => .never
noncomputable def freshL (ws ks : List Str) : List Str := ws.filter fun x => !(ks.any (· == x))

noncomputable def rowsStep (one : Str) (f : List Str) (two : Str) : List Str := if one.length + two.length ≤ 3 ∧ (f.any (· == one ++ two)) = false then f ++ [one ++ two] else f
noncomputable def rowsL (fs ss : List Str) : List Str := fs.foldl (fun f one => ss.foldl (rowsStep one) f) []
/-! ## the plain law: words as sets -/
abbrev SA : Str := ⟨#[97]⟩
abbrev SB : Str := ⟨#[98]⟩
abbrev SE : Str := ⟨#[]⟩
def ab (x : Str) : Prop := ∀ c ∈ x.cps.toList, c = 97 ∨ c = 98
def LfL : Lf → Str → Prop
  | .a, x => x = SA
  | .b, x => x = SB
  | .ab, x => x = SA ∨ x = SB
def Pw (P : Str → Prop) : Nat → Str → Prop
  | 0, x => x = SE
  | n + 1, x => ∃ u v, x = u ++ v ∧ Pw P n u ∧ P v
def L : Rx → Str → Prop
  | .chr s, x => LfL s x
  | .empty, x => x = SE
  | .never, _ => False
  | .cat l r, x => ∃ u v, x = u ++ v ∧ L l u ∧ L r v
  | .alt l r, x => L l x ∨ L r x
  | .star b, x => ∃ n, Pw (L b) n x
  | .plus b, x => ∃ n, 1 ≤ n ∧ Pw (L b) n x
  | .opt b, x => x = SE ∨ L b x
  | .rep b low high, x => ∃ n, low ≤ n ∧ (∀ h, high = some h → n ≤ h) ∧ Pw (L b) n x
/-- a list of the words of at most three signs -/
def W (P : Str → Prop) (ws : List Str) : Prop := ws.Nodup ∧ ∀ x, x ∈ ws ↔ P x ∧ x.length ≤ 3
theorem se_len : SE.length = 0 := rfl
theorem app_se (x : Str) : x ++ SE = x := Str.append_empty x
theorem se_app (x : Str) : SE ++ x = x := Str.empty_append x
theorem len_se {x : Str} (h : x.length = 0) : x = SE := by
  cases x with
  | mk c => exact congrArg Str.mk (Array.eq_empty_of_size_eq_zero h)
theorem app_eq_se {u v : Str} : u ++ v = SE ↔ u = SE ∧ v = SE := by
  constructor
  · intro h
    have e := congrArg Str.length h
    rw [Str.length_append, se_len] at e
    exact ⟨len_se (by omega), len_se (by omega)⟩
  · rintro ⟨rfl, rfl⟩; exact app_se _
theorem ab_app {u v : Str} (h1 : ab u) (h2 : ab v) : ab (u ++ v) := by
  intro c hc
  rw [Str.cps_append, Array.toList_append] at hc
  exact (List.mem_append.mp hc).elim (h1 c) (h2 c)
theorem ab_se : ab SE := by intro c hc; simp at hc
theorem ab_lf : ∀ {s : Lf} {x : Str}, LfL s x → ab x := by
  have ha : ab SA := by intro c hc; simp at hc; exact .inl hc
  have hb : ab SB := by intro c hc; simp at hc; exact .inr hc
  intro s x h
  cases s with
  | a => cases h; exact ha
  | b => cases h; exact hb
  | ab => rcases h with rfl | rfl; exact ha; exact hb
theorem ab_pw {P : Str → Prop} (h : ∀ x, P x → ab x) : ∀ n x, Pw P n x → ab x
  | 0, x, e => by cases e; exact ab_se
  | n + 1, x, ⟨u, v, e, hu, hv⟩ => e ▸ ab_app (ab_pw h n u hu) (h v hv)
theorem ab_L : ∀ (t : Rx) (x : Str), L t x → ab x
  | .chr s, x, h => ab_lf (s := s) h
  | .empty, x, h => by cases h; exact ab_se
  | .never, x, h => h.elim
  | .cat l r, x, ⟨u, v, e, hu, hv⟩ => e ▸ ab_app (ab_L l u hu) (ab_L r v hv)
  | .alt l r, x, h => h.elim (ab_L l x) (ab_L r x)
  | .star b, x, ⟨n, h⟩ => ab_pw (ab_L b) n x h
  | .plus b, x, ⟨n, _, h⟩ => ab_pw (ab_L b) n x h
  | .opt b, x, h => h.elim (fun e => by cases e; exact ab_se) (ab_L b x)
  | .rep b _ _, x, ⟨n, _, _, h⟩ => ab_pw (ab_L b) n x h

/-! ### powers -/
theorem pw_se {P : Str → Prop} : ∀ n, Pw P n SE ↔ n = 0 ∨ P SE
  | 0 => by simp [Pw]
  | n + 1 => by
    constructor
    · rintro ⟨u, v, e, hu, hv⟩
      obtain ⟨rfl, rfl⟩ := app_eq_se.mp e.symm
      exact .inr hv
    · intro h
      have h := h.resolve_left (by omega)
      exact ⟨SE, SE, (app_se _).symm, (pw_se n).mpr (.inr h), h⟩
theorem pw_drop {P : Str → Prop} : ∀ n x, Pw P n x → ∃ k, k ≤ n ∧ Pw (fun y => P y ∧ y ≠ SE) k x
  | 0, x, e => ⟨0, Nat.le_refl _, e⟩
  | n + 1, x, ⟨u, v, e, hu, hv⟩ => by
    obtain ⟨k, hk, h⟩ := pw_drop n u hu
    by_cases hz : v = SE
    · rw [hz, app_se] at e
      exact ⟨k, by omega, e ▸ h⟩
    · exact ⟨k + 1, by omega, u, v, e, h, hv, hz⟩
theorem pw_ne {P : Str → Prop} : ∀ n x, 1 ≤ n → Pw (fun y => P y ∧ y ≠ SE) n x → x ≠ SE
  | _ + 1, _, _, ⟨_, _, e, _, hv⟩ => fun h => hv.2 (app_eq_se.mp (e ▸ h)).2
theorem pw_weak {P R : Str → Prop} (h : ∀ x, R x → P x) : ∀ n x, Pw R n x → Pw P n x
  | 0, _, e => e
  | n + 1, _, ⟨u, v, e, hu, hv⟩ => ⟨u, v, e, pw_weak h n u hu, h v hv⟩
theorem pw_up {P : Str → Prop} (hP : P SE) {k x} : ∀ n, k ≤ n → Pw P k x → Pw P n x := by
  intro n hn h
  induction n with
  | zero => obtain rfl : k = 0 := by omega
            exact h
  | succ n ih =>
    by_cases e : k = n + 1
    · rw [← e]; exact h
    · exact ⟨x, SE, (app_se x).symm, ih (by omega), hP⟩
theorem pw_congr {P R : Str → Prop} (h : ∀ x, P x ↔ R x) (n x) : Pw P n x ↔ Pw R n x :=
  ⟨pw_weak (fun x => (h x).mp) n x, pw_weak (fun x => (h x).mpr) n x⟩
theorem pw_some {P : Str → Prop} {n x} (h : Pw P n x) (hx : x ≠ SE) : ∃ k, 1 ≤ k ∧ k ≤ n ∧ Pw (fun y => P y ∧ y ≠ SE) k x := by
  obtain ⟨k, hk, h2⟩ := pw_drop n x h
  refine ⟨k, ?_, hk, h2⟩
  cases k with
  | zero => exact absurd h2 hx
  | succ k => omega

/-! ### can_be_empty, without_empty -/
theorem cbe_L : ∀ t, wf t → (cbe t = true ↔ L t SE)
  | .chr s, _ => by
    simp only [cbe, Bool.false_eq_true, false_iff]
    cases s with
    | a => intro h; cases h
    | b => intro h; cases h
    | ab => intro h; rcases h with h | h <;> cases h
  | .empty, _ => by simp [cbe, L]
  | .never, _ => by simp [cbe, L]
  | .cat l r, hw => by
    simp only [cbe, Bool.and_eq_true, cbe_L l hw.1, cbe_L r hw.2, L]
    constructor
    · rintro ⟨h1, h2⟩; exact ⟨SE, SE, (app_se _).symm, h1, h2⟩
    · rintro ⟨u, v, e, h1, h2⟩
      obtain ⟨rfl, rfl⟩ := app_eq_se.mp e.symm
      exact ⟨h1, h2⟩
  | .alt l r, hw => by simp only [cbe, Bool.or_eq_true, cbe_L l hw.1, cbe_L r hw.2, L]
  | .star b, _ => by simp only [cbe, L, true_iff]; exact ⟨0, rfl⟩
  | .plus b, hw => by
    simp only [cbe, L, cbe_L b hw]
    constructor
    · intro h; exact ⟨1, Nat.le_refl _, (pw_se 1).mpr (.inr h)⟩
    · rintro ⟨n, h1, h⟩; exact ((pw_se n).mp h).resolve_left (by omega)
  | .opt b, _ => by simp [cbe, L]
  | .rep b low high, hw => by
    simp only [cbe, L, Bool.or_eq_true, cbe_L b hw.1, beq_iff_eq]
    constructor
    · rintro (h | h)
      · exact ⟨0, by omega, fun _ _ => Nat.zero_le _, rfl⟩
      · exact ⟨low, Nat.le_refl _, fun h e => (hw.2.2 h e).1, (pw_se low).mpr (.inr h)⟩
    · rintro ⟨n, h1, h2, h3⟩
      rcases (pw_se n).mp h3 with h | h
      · exact .inl (by omega)
      · exact .inr h
theorem we_neg {t : Rx} (h : cbe t = false) : we t = t := by rw [we.eq_def, if_pos h]
theorem L_no {t : Rx} (hw : wf t) (h : cbe t = false) (x) : L t x ↔ L t x ∧ x ≠ SE := by
  constructor
  · intro hx
    refine ⟨hx, fun e => ?_⟩
    rw [e] at hx
    rw [(cbe_L t hw).mpr hx] at h
    cases h
  · exact And.left
theorem we_L : ∀ t, wf t → ∀ x, L (we t) x ↔ L t x ∧ x ≠ SE := by
  intro t
  induction t with
  | chr s => intro hw x; rw [we_neg rfl]; exact L_no hw rfl x
  | never => intro hw x; rw [we_neg rfl]; exact L_no hw rfl x
  | empty => intro hw x; rw [we.eq_def, if_neg (by decide)]; simp [L]
  | cat l r il ir =>
    intro hw x
    by_cases hc : cbe (.cat l r) = false
    · rw [we_neg hc]; exact L_no hw hc x
    rw [we.eq_def, if_neg hc]
    have hc' : cbe l = true ∧ cbe r = true := by simpa [cbe] using hc
    have hl := (cbe_L l hw.1).mp hc'.1
    simp only [L, il hw.1, ir hw.2]
    constructor
    · rintro (⟨u, v, rfl, ⟨h1, h2⟩, h3⟩ | ⟨h1, h2⟩)
      · exact ⟨⟨u, v, rfl, h1, h3⟩, fun e => h2 (app_eq_se.mp e).1⟩
      · exact ⟨⟨SE, x, (se_app x).symm, hl, h1⟩, h2⟩
    · rintro ⟨⟨u, v, rfl, h1, h3⟩, h2⟩
      by_cases hu : u = SE
      · subst hu
        rw [se_app] at h2 ⊢
        exact .inr ⟨h3, h2⟩
      · exact .inl ⟨u, v, rfl, ⟨h1, hu⟩, h3⟩
  | alt l r il ir =>
    intro hw x
    by_cases hc : cbe (.alt l r) = false
    · rw [we_neg hc]; exact L_no hw hc x
    rw [we.eq_def, if_neg hc]
    simp only [L, il hw.1, ir hw.2]
    constructor
    · rintro (⟨h1, h2⟩ | ⟨h1, h2⟩)
      · exact ⟨.inl h1, h2⟩
      · exact ⟨.inr h1, h2⟩
    · rintro ⟨h1 | h1, h2⟩
      · exact .inl ⟨h1, h2⟩
      · exact .inr ⟨h1, h2⟩
  | star b ib =>
    intro hw x
    rw [we.eq_def, if_neg (by simp [cbe])]
    simp only [L]
    constructor
    · rintro ⟨n, h1, h2⟩
      have h2 := (pw_congr (ib hw) n x).mp h2
      exact ⟨⟨n, pw_weak (fun _ => And.left) n x h2⟩, pw_ne n x h1 h2⟩
    · rintro ⟨⟨n, h⟩, hx⟩
      obtain ⟨k, h1, _, h2⟩ := pw_some h hx
      exact ⟨k, h1, (pw_congr (ib hw) k x).mpr h2⟩
  | plus b ib =>
    intro hw x
    by_cases hc : cbe (.plus b) = false
    · rw [we_neg hc]; exact L_no hw hc x
    rw [we.eq_def, if_neg hc]
    simp only [L]
    constructor
    · rintro ⟨n, h1, h2⟩
      have h2 := (pw_congr (ib hw) n x).mp h2
      exact ⟨⟨n, h1, pw_weak (fun _ => And.left) n x h2⟩, pw_ne n x h1 h2⟩
    · rintro ⟨⟨n, _, h⟩, hx⟩
      obtain ⟨k, h1, _, h2⟩ := pw_some h hx
      exact ⟨k, h1, (pw_congr (ib hw) k x).mpr h2⟩
  | opt b ib =>
    intro hw x
    rw [we.eq_def, if_neg (by simp [cbe])]
    simp only [L, ib hw]
    constructor
    · rintro ⟨h1, h2⟩; exact ⟨.inr h1, h2⟩
    · rintro ⟨h1, h2⟩; exact ⟨h1.resolve_left h2, h2⟩
  | rep b low high ib =>
    intro hw x
    by_cases hc : cbe (.rep b low high) = false
    · rw [we_neg hc]; exact L_no hw hc x
    rw [we.eq_def, if_neg hc]
    dsimp only
    by_cases hz : high = some 0
    · rw [if_pos hz]
      subst hz
      simp only [L, false_iff]
      rintro ⟨⟨n, _, h2, h3⟩, hx⟩
      obtain rfl : n = 0 := by have := h2 0 rfl; omega
      exact hx h3
    · rw [if_neg hz]
      have hc' : low = 0 ∨ cbe b = true := by
        cases h : cbe b with
        | true => exact .inr rfl
        | false => simp [cbe, h] at hc; exact .inl hc
      simp only [L]
      constructor
      · rintro ⟨n, h1, h2, h3⟩
        have h3 := (pw_congr (ib hw.1) n x).mp h3
        refine ⟨?_, pw_ne n x h1 h3⟩
        have h4 := pw_weak (fun _ => And.left) n x h3
        by_cases hn : low ≤ n
        · exact ⟨n, hn, h2, h4⟩
        · refine ⟨low, Nat.le_refl _, fun h e => (hw.2.2 h e).1, pw_up ?_ low (by omega) h4⟩
          exact (cbe_L b hw.1).mp (hc'.resolve_left (by omega))
      · rintro ⟨⟨n, h1, h2, h3⟩, hx⟩
        obtain ⟨k, k1, k2, k3⟩ := pw_some h3 hx
        exact ⟨k, k1, fun h e => Nat.le_trans k2 (h2 h e), (pw_congr (ib hw.1) k x).mpr k3⟩
theorem we_wf : ∀ t, wf t → wf (we t) := by
  intro t
  induction t with
  | chr s => intro hw; rw [we_neg rfl]; exact hw
  | never => intro hw; rw [we_neg rfl]; exact hw
  | empty => intro hw; rw [we.eq_def, if_neg (by decide)]; trivial
  | cat l r il ir =>
    intro hw
    by_cases hc : cbe (.cat l r) = false
    · rw [we_neg hc]; exact hw
    rw [we.eq_def, if_neg hc]
    exact ⟨⟨il hw.1, hw.2⟩, ir hw.2⟩
  | alt l r il ir =>
    intro hw
    by_cases hc : cbe (.alt l r) = false
    · rw [we_neg hc]; exact hw
    rw [we.eq_def, if_neg hc]
    exact ⟨il hw.1, ir hw.2⟩
  | star b ib => intro hw; rw [we.eq_def, if_neg (by simp [cbe])]; exact ib hw
  | plus b ib =>
    intro hw
    by_cases hc : cbe (.plus b) = false
    · rw [we_neg hc]; exact hw
    rw [we.eq_def, if_neg hc]; exact ib hw
  | opt b ib => intro hw; rw [we.eq_def, if_neg (by simp [cbe])]; exact ib hw
  | rep b low high ib =>
    intro hw
    by_cases hc : cbe (.rep b low high) = false
    · rw [we_neg hc]; exact hw
    rw [we.eq_def, if_neg hc]
    dsimp only
    by_cases hz : high = some 0
    · rw [if_pos hz]; trivial
    · rw [if_neg hz]
      refine ⟨ib hw.1, by omega, fun h e => ⟨?_, (hw.2.2 h e).2⟩⟩
      have : h ≠ 0 := fun e0 => hz (by rw [e, e0])
      omega
theorem we_ht : ∀ t, (we t).ht ≤ 2 * t.ht := by
  intro t
  by_cases hc : cbe t = false
  · rw [we_neg hc]; omega
  induction t with
  | chr s => exact absurd rfl hc
  | never => exact absurd rfl hc
  | empty => rw [we.eq_def, if_neg (by decide)]; simp [Rx.ht]
  | cat l r il ir =>
    rw [we.eq_def, if_neg hc]
    have hl : (we l).ht ≤ 2 * l.ht := by
      by_cases h : cbe l = false
      · rw [we_neg h]; omega
      · exact il h
    have hr : (we r).ht ≤ 2 * r.ht := by
      by_cases h : cbe r = false
      · rw [we_neg h]; omega
      · exact ir h
    simp only [Rx.ht]; omega
  | alt l r il ir =>
    rw [we.eq_def, if_neg hc]
    have hl : (we l).ht ≤ 2 * l.ht := by
      by_cases h : cbe l = false
      · rw [we_neg h]; omega
      · exact il h
    have hr : (we r).ht ≤ 2 * r.ht := by
      by_cases h : cbe r = false
      · rw [we_neg h]; omega
      · exact ir h
    simp only [Rx.ht]; omega
  | star b ib =>
    rw [we.eq_def, if_neg hc]
    have hl : (we b).ht ≤ 2 * b.ht := by
      by_cases h : cbe b = false
      · rw [we_neg h]; omega
      · exact ib h
    simp only [Rx.ht]; omega
  | plus b ib =>
    rw [we.eq_def, if_neg hc]
    have hl : (we b).ht ≤ 2 * b.ht := by
      by_cases h : cbe b = false
      · rw [we_neg h]; omega
      · exact ib h
    simp only [Rx.ht]; omega
  | opt b ib =>
    rw [we.eq_def, if_neg hc]
    have hl : (we b).ht ≤ 2 * b.ht := by
      by_cases h : cbe b = false
      · rw [we_neg h]; omega
      · exact ib h
    simp only [Rx.ht]; omega
  | rep b low high ib =>
    rw [we.eq_def, if_neg hc]
    have hl : (we b).ht ≤ 2 * b.ht := by
      by_cases h : cbe b = false
      · rw [we_neg h]; omega
      · exact ib h
    dsimp only
    split <;> simp only [Rx.ht] <;> omega
theorem we_cbe {t : Rx} (hw : wf t) : cbe (we t) = false := by
  cases h : cbe (we t) with
  | false => rfl
  | true => exact absurd rfl ((we_L t hw SE).mp ((cbe_L _ (we_wf t hw)).mp h)).2
/-! ### lists of words -/
theorem any_mem {ks : List Str} {x : Str} : (ks.any (· == x)) = true ↔ x ∈ ks := by
  rw [List.any_eq_true]
  constructor
  · rintro ⟨y, hy, e⟩; rw [← eq_of_beq e]; exact hy
  · intro h; exact ⟨x, h, beq_self_eq_true x⟩
theorem any_not {ks : List Str} {x : Str} : (ks.any (· == x)) = false ↔ x ∉ ks := by
  rw [← any_mem, Bool.not_eq_true]
theorem mem_fresh {ws ks : List Str} {x : Str} : x ∈ freshL ws ks ↔ x ∈ ws ∧ x ∉ ks := by
  unfold freshL
  rw [List.mem_filter, Bool.not_eq_true', any_not]
theorem fresh_nodup {ws ks : List Str} (h : ws.Nodup) : (freshL ws ks).Nodup := List.Pairwise.filter _ h
theorem app_nodup {xs ys : List Str} (h1 : xs.Nodup) (h2 : ys.Nodup) (h : ∀ x ∈ ys, x ∉ xs) : (xs ++ ys).Nodup := by
  rw [List.nodup_append]
  exact ⟨h1, h2, fun a ha b hb e => h b hb (e ▸ ha)⟩
theorem step_mem {one two : Str} {f : List Str} {x : Str} : x ∈ rowsStep one f two ↔ x ∈ f ∨ (x = one ++ two ∧ one.length + two.length ≤ 3) := by
  unfold rowsStep
  by_cases h3 : one.length + two.length ≤ 3
  · by_cases hf : one ++ two ∈ f
    · rw [if_neg (fun q => any_not.mp q.2 hf)]
      constructor
      · exact .inl
      · rintro (h | ⟨rfl, _⟩)
        · exact h
        · exact hf
    · rw [if_pos ⟨h3, any_not.mpr hf⟩, List.mem_append, List.mem_singleton]
      constructor
      · rintro (h | h)
        · exact .inl h
        · exact .inr ⟨h, h3⟩
      · rintro (h | ⟨h, _⟩)
        · exact .inl h
        · exact .inr h
  · rw [if_neg (fun q => h3 q.1)]
    constructor
    · exact .inl
    · rintro (h | ⟨_, h⟩)
      · exact h
      · exact absurd h h3
theorem step_nodup {one two : Str} {f : List Str} (h : f.Nodup) : (rowsStep one f two).Nodup := by
  unfold rowsStep
  split
  · rename_i q
    exact app_nodup h (List.nodup_cons.mpr ⟨by simp, List.nodup_nil⟩) fun x hx => by
      rw [List.mem_singleton.mp hx]; exact any_not.mp q.2
  · exact h
theorem steps_mem {one x : Str} : ∀ (ss f : List Str), x ∈ ss.foldl (rowsStep one) f ↔ x ∈ f ∨ ∃ two ∈ ss, x = one ++ two ∧ one.length + two.length ≤ 3
  | [], f => by simp
  | t :: ss, f => by
    rw [List.foldl_cons, steps_mem ss, step_mem]
    constructor
    · rintro ((h | h) | ⟨y, hy, h⟩)
      · exact .inl h
      · exact .inr ⟨t, .head _, h⟩
      · exact .inr ⟨y, .tail _ hy, h⟩
    · rintro (h | ⟨y, hy, h⟩)
      · exact .inl (.inl h)
      · rcases List.mem_cons.mp hy with rfl | hy
        · exact .inl (.inr h)
        · exact .inr ⟨y, hy, h⟩
theorem steps_nodup {one : Str} : ∀ (ss f : List Str), f.Nodup → (ss.foldl (rowsStep one) f).Nodup
  | [], _, h => h
  | _ :: ss, _, h => steps_nodup ss _ (step_nodup h)
theorem rows_mem' {x : Str} (ss : List Str) : ∀ (fs f : List Str), x ∈ fs.foldl (fun f one => ss.foldl (rowsStep one) f) f ↔ x ∈ f ∨ ∃ one ∈ fs, ∃ two ∈ ss, x = one ++ two ∧ one.length + two.length ≤ 3
  | [], f => by simp
  | t :: fs, f => by
    rw [List.foldl_cons, rows_mem' ss fs, steps_mem]
    constructor
    · rintro ((h | h) | ⟨y, hy, h⟩)
      · exact .inl h
      · exact .inr ⟨t, .head _, h⟩
      · exact .inr ⟨y, .tail _ hy, h⟩
    · rintro (h | ⟨y, hy, h⟩)
      · exact .inl (.inl h)
      · rcases List.mem_cons.mp hy with rfl | hy
        · exact .inl (.inr h)
        · exact .inr ⟨y, hy, h⟩
theorem rows_mem {fs ss : List Str} {x : Str} : x ∈ rowsL fs ss ↔ ∃ one ∈ fs, ∃ two ∈ ss, x = one ++ two ∧ one.length + two.length ≤ 3 := by
  unfold rowsL
  rw [rows_mem']
  simp
theorem rows_nodup' (ss : List Str) : ∀ (fs f : List Str), f.Nodup → (fs.foldl (fun f one => ss.foldl (rowsStep one) f) f).Nodup
  | [], _, h => h
  | _ :: fs, _, h => rows_nodup' ss fs _ (steps_nodup ss _ h)
theorem rows_nodup (fs ss : List Str) : (rowsL fs ss).Nodup := rows_nodup' ss fs [] List.nodup_nil

/-! ### W -/
theorem W.congr {P R : Str → Prop} {ws : List Str} (h : W P ws) (e : ∀ x, x.length ≤ 3 → (P x ↔ R x)) : W R ws :=
  ⟨h.1, fun x => (h.2 x).trans ⟨fun q => ⟨(e x q.2).mp q.1, q.2⟩, fun q => ⟨(e x q.2).mpr q.1, q.2⟩⟩⟩
theorem W.len3 {P : Str → Prop} {ws : List Str} (h : W P ws) : ∀ x ∈ ws, x.length ≤ 3 := fun x hx => ((h.2 x).mp hx).2
theorem W_nil : W (fun _ => False) [] := ⟨List.nodup_nil, fun x => by simp⟩
theorem W_se : W (fun x => x = SE) [SE] := ⟨by simp, fun x => by
  rw [List.mem_singleton]
  exact ⟨fun h => ⟨h, h ▸ Nat.zero_le _⟩, And.left⟩⟩
theorem W_a : W (LfL .a) [SA] := ⟨by simp, fun x => by
  rw [List.mem_singleton]
  exact ⟨fun h => ⟨h, h ▸ (by decide)⟩, And.left⟩⟩
theorem W_b : W (LfL .b) [SB] := ⟨by simp, fun x => by
  rw [List.mem_singleton]
  exact ⟨fun h => ⟨h, h ▸ (by decide)⟩, And.left⟩⟩
theorem W_ab : W (LfL .ab) [SA, SB] := ⟨by decide, fun x => by
  rw [List.mem_cons, List.mem_singleton]
  exact ⟨fun h => ⟨h, by rcases h with rfl | rfl <;> decide⟩, And.left⟩⟩
theorem W_fresh {P R : Str → Prop} {ws ks : List Str} (h : W P ws) (hk : W R ks) : W (fun x => P x ∧ ¬ R x) (freshL ws ks) :=
  ⟨fresh_nodup h.1, fun x => by
    rw [mem_fresh, h.2, hk.2]
    exact ⟨fun ⟨⟨p, l⟩, n⟩ => ⟨⟨p, fun r => n ⟨r, l⟩⟩, l⟩, fun ⟨⟨p, r⟩, l⟩ => ⟨⟨p, l⟩, fun q => r q.1⟩⟩⟩
theorem W_or {P R : Str → Prop} {ws ks : List Str} (h : W P ws) (hk : W R ks) : W (fun x => P x ∨ R x) (ws ++ freshL ks ws) :=
  ⟨app_nodup h.1 (fresh_nodup hk.1) fun x hx => (mem_fresh.mp hx).2, fun x => by
    rw [List.mem_append, mem_fresh, h.2, hk.2]
    constructor
    · rintro (⟨p, l⟩ | ⟨⟨r, l⟩, _⟩)
      · exact ⟨.inl p, l⟩
      · exact ⟨.inr r, l⟩
    · rintro ⟨p | r, l⟩
      · exact .inl ⟨p, l⟩
      · by_cases hp : P x
        · exact .inl ⟨hp, l⟩
        · exact .inr ⟨⟨r, l⟩, fun q => hp q.1⟩⟩
theorem W_rows {P R : Str → Prop} {fs ss : List Str} (h : W P fs) (hs : W R ss) : W (fun x => ∃ u v, x = u ++ v ∧ P u ∧ R v) (rowsL fs ss) :=
  ⟨rows_nodup fs ss, fun x => by
    rw [rows_mem]
    constructor
    · rintro ⟨u, hu, v, hv, rfl, l⟩
      exact ⟨⟨u, v, rfl, ((h.2 u).mp hu).1, ((hs.2 v).mp hv).1⟩, by rw [Str.length_append]; exact l⟩
    · rintro ⟨⟨u, v, rfl, p, r⟩, l⟩
      rw [Str.length_append] at l
      exact ⟨u, (h.2 u).mpr ⟨p, by omega⟩, v, (hs.2 v).mpr ⟨r, by omega⟩, rfl, l⟩⟩

/-! ### the loop -/
def Lev (P : Str → Prop) (low τ : Nat) (x : Str) : Prop := ∃ n, low ≤ n ∧ n ≤ τ ∧ Pw P n x
def Frn (P : Str → Prop) (low τ : Nat) (x : Str) : Prop := Pw P τ x ∧ ∀ n, low ≤ n → n < τ → ¬ Pw P n x
theorem loop_start {P : Str → Prop} {low : Nat} {front : List Str} (h : W (Pw P low) front) : W (Frn P low low) front ∧ W (Lev P low low) front :=
  ⟨h.congr fun x _ => ⟨fun q => ⟨q, fun n h1 h2 => absurd h1 (by omega)⟩, And.left⟩,
   h.congr fun x _ => ⟨fun q => ⟨low, Nat.le_refl _, Nat.le_refl _, q⟩, fun ⟨n, h1, h2, q⟩ => (Nat.le_antisymm h2 h1) ▸ q⟩⟩
theorem app_short {u v : Str} (h : (u ++ v).length ≤ 3) : u.length ≤ 3 := by rw [Str.length_append] at h; omega
theorem loop_step {P : Str → Prop} {low τ : Nat} {front found body : List Str} (hlt : low ≤ τ) (hb : W P body) (hf : W (Frn P low τ) front) (hd : W (Lev P low τ) found) :
    W (Frn P low (τ + 1)) (freshL (rowsL front body) found) ∧ W (Lev P low (τ + 1)) (found ++ freshL (rowsL front body) found) := by
  have hr := W_rows hf hb
  have key : ∀ x, (∃ u v, x = u ++ v ∧ Frn P low τ u ∧ P v) ∧ ¬ Lev P low τ x ↔ Frn P low (τ + 1) x := by
    intro x
    constructor
    · rintro ⟨⟨u, v, e, hu, hv⟩, hn⟩
      exact ⟨⟨u, v, e, hu.1, hv⟩, fun n h1 h2 h3 => hn ⟨n, h1, by omega, h3⟩⟩
    · rintro ⟨⟨u, v, e, hu, hv⟩, hn⟩
      refine ⟨⟨u, v, e, ⟨hu, fun n h1 h2 h3 => hn (n + 1) (by omega) (by omega) ⟨u, v, e, h3, hv⟩⟩, hv⟩, ?_⟩
      rintro ⟨n, h1, h2, h3⟩
      exact hn n h1 (by omega) h3
  refine ⟨(W_fresh hr hd).congr fun x _ => key x, (W_or hd hr).congr fun x hx => ?_⟩
  constructor
  · rintro (⟨n, h1, h2, h3⟩ | ⟨u, v, e, hu, hv⟩)
    · exact ⟨n, h1, by omega, h3⟩
    · exact ⟨τ + 1, by omega, Nat.le_refl _, u, v, e, hu.1, hv⟩
  · rintro ⟨n, h1, h2, h3⟩
    by_cases hl : Lev P low τ x
    · exact .inl hl
    · have e : n = τ + 1 := by
        have : ¬ n ≤ τ := fun q => hl ⟨n, h1, q, h3⟩
        omega
      subst e
      exact .inr ((key x).mpr ⟨h3, fun k k1 k2 k3 => hl ⟨k, k1, by omega, k3⟩⟩).1
theorem loop_done {P : Str → Prop} {low τ : Nat} (hlt : low ≤ τ) (hf : W (Frn P low τ) []) : ∀ n x, low ≤ n → Pw P n x → x.length ≤ 3 → Lev P low τ x := by
  have drop : ∀ x, x.length ≤ 3 → Pw P τ x → ∃ n, low ≤ n ∧ n < τ ∧ Pw P n x := by
    intro x hx h
    apply Classical.byContradiction
    intro hn
    have := (hf.2 x).mpr ⟨⟨h, fun n h1 h2 h3 => hn ⟨n, h1, h2, h3⟩⟩, hx⟩
    simp at this
  have lower : ∀ x, x.length ≤ 3 → Lev P low τ x → ∃ n, low ≤ n ∧ n < τ ∧ Pw P n x := by
    rintro x hx ⟨n, h1, h2, h3⟩
    by_cases e : n = τ
    · exact drop x hx (e ▸ h3)
    · exact ⟨n, h1, by omega, h3⟩
  intro n
  induction n with
  | zero => intro x h1 h2 h3; exact ⟨0, h1, by omega, h2⟩
  | succ n ih =>
    rintro x h1 ⟨u, v, e, hu, hv⟩ h3
    by_cases hn : low ≤ n
    · obtain ⟨k, k1, k2, k3⟩ := lower u (app_short (e ▸ h3)) (ih u hn hu (app_short (e ▸ h3)))
      exact ⟨k + 1, by omega, by omega, u, v, e, k3, hv⟩
    · exact ⟨n + 1, by omega, by omega, u, v, e, hu, hv⟩
theorem loop_end {P : Str → Prop} {low τ : Nat} {high : Option Nat} {front found : List Str} (hlt : low ≤ τ) (hh : ∀ h, high = some h → τ ≤ h) (hf : W (Frn P low τ) front) (hd : W (Lev P low τ) found)
    (he : front = [] ∨ high = some τ) : W (fun x => ∃ n, low ≤ n ∧ (∀ h, high = some h → n ≤ h) ∧ Pw P n x) found := by
  refine hd.congr fun x hx => ⟨fun ⟨n, h1, h2, h3⟩ => ⟨n, h1, fun h e => Nat.le_trans h2 (hh h e), h3⟩, fun ⟨n, h1, h2, h3⟩ => ?_⟩
  rcases he with rfl | rfl
  · exact loop_done hlt hf n x h1 h3 hx
  · exact ⟨n, h1, h2 τ rfl, h3⟩

/-! ### how many words there are -/
noncomputable def univ : List Str := [⟨#[]⟩, ⟨#[97]⟩, ⟨#[98]⟩, ⟨#[97, 97]⟩, ⟨#[97, 98]⟩, ⟨#[98, 97]⟩, ⟨#[98, 98]⟩,
  ⟨#[97, 97, 97]⟩, ⟨#[97, 97, 98]⟩, ⟨#[97, 98, 97]⟩, ⟨#[97, 98, 98]⟩, ⟨#[98, 97, 97]⟩, ⟨#[98, 97, 98]⟩, ⟨#[98, 98, 97]⟩, ⟨#[98, 98, 98]⟩]
theorem mem_univ {x : Str} (h : ab x) (hl : x.length ≤ 3) : x ∈ univ := by
  obtain ⟨⟨l⟩⟩ := x
  have hl' : l.length ≤ 3 := hl
  have h' : ∀ c ∈ l, c = 97 ∨ c = 98 := h
  clear h hl
  rcases l with _ | ⟨c, _ | ⟨d, _ | ⟨e, _ | ⟨f, l⟩⟩⟩⟩
  · decide +kernel
  · have h1 := h' c (by simp)
    rcases h1 with rfl | rfl <;> decide +kernel
  · have h1 := h' c (by simp)
    have h2 := h' d (by simp)
    rcases h1 with rfl | rfl <;> rcases h2 with rfl | rfl <;> decide +kernel
  · have h1 := h' c (by simp)
    have h2 := h' d (by simp)
    have h3 := h' e (by simp)
    rcases h1 with rfl | rfl <;> rcases h2 with rfl | rfl <;> rcases h3 with rfl | rfl <;> decide +kernel
  · simp at hl'
theorem nodup_len : ∀ (ws us : List Str), ws.Nodup → (∀ x ∈ ws, x ∈ us) → ws.length ≤ us.length
  | [], _, _, _ => Nat.zero_le _
  | x :: ws, us, hn, hs => by
    have hx := hs x (.head _)
    have hn' := List.nodup_cons.mp hn
    have := nodup_len ws (us.erase x) hn'.2 fun y hy => (List.mem_erase_of_ne fun e => hn'.1 (by rw [← e]; exact hy)).mpr (hs y (.tail _ hy))
    rw [List.length_erase_of_mem hx] at this
    have h0 : 0 < us.length := List.length_pos_of_mem hx
    rw [List.length_cons]; omega
theorem W_len {P : Str → Prop} {ws : List Str} (h : W P ws) (hP : ∀ x, P x → ab x) : ws.length ≤ 15 :=
  nodup_len ws univ h.1 fun x hx => mem_univ (hP x ((h.2 x).mp hx).1) ((h.2 x).mp hx).2
theorem W_perm {P : Str → Prop} {ws ws' : List Str} (h : W P ws) (h' : W P ws') : ws.Perm ws' :=
  (List.perm_ext_iff_of_nodup h.1 h'.1).mpr fun x => (h.2 x).trans (h'.2 x).symm
abbrev Led := List (Addr × Obj)
abbrev tupO (xs : Array Value) (n : Nat) : Obj := { cls := .type "tuple", data := .seq xs n }

def Tell (w : World) (p : Program) (loose : List Str) (mean : ExcName → Option Value) (mg mb : Str → Option Value) (f : Addr) (vs : List Value) (news : Led) (dz : Nat) (Post : Value → Led → Prop) : Prop :=
  ∀ (dp un : Nat) (gd : Option (List Code)) (cn : Str) (cs : Scope) (a : Addr) (ccd : Value) (cl : List (Str × Addr)) (outer : List Env) (A₀ : Around) (base h₀ : Heap) (L : Addr) (m : Str → Option Value) (s : Shared)
    (Q E : Value → Shared → Prop),
    Below A₀ base outer h₀ → Fr h₀ L s.heap m → (hd.heap_1 w.params).In h₀ → News h₀ L s.heap news → Top p loose mean mg mb h₀ → cs.kind = .function → dp + dz < 600 → un + 8 * dz < 6000 →
    (∀ r tl h' tk', Fr h₀ L h' m → News h₀ L h' (news ++ tl) → (∀ q ∈ news, ∀ p ∈ tl, q.1 ≠ p.1) → Post r (news ++ tl) → Q r { s with heap := h', toks := tk' }) →
    wpAny (model PySem.Challenge.rw_nn0369_01.row.prog w) (ktrTop dp un gd cn cs L a ccd cl outer) (call (.ref f) vs) Q E s

/-! ## room for a call: once, so that no walk bears omega's proofs -/
theorem ar_r0 {d z : Nat} (H : d + z < 600) : d < 1000 := by omega
theorem ar_r1 {d z : Nat} (H : d + z < 600) : d + 1 < 1000 := by omega
theorem ar_r2 {d z : Nat} (H : d + z < 600) : d + 1 + 1 < 1000 := by omega
theorem ar_d {d h c k : Nat} (H : d + (h + c) < 600) (e : k + 1 ≤ c) : d + 1 + k < 600 := by omega
theorem ar_b {d b c k : Nat} (H : d + (b + 1 + c) < 600) (e : k ≤ c) : d + 1 + (b + k) < 600 := by omega
theorem ar_l {d l r c k : Nat} (H : d + (max l r + 1 + c) < 600) (e : k ≤ c) : d + 1 + (l + k) < 600 := by omega
theorem ar_m {d l r c k : Nat} (H : d + (max l r + 1 + c) < 600) (e : k ≤ c) : d + 1 + (r + k) < 600 := by omega
theorem ar_u {u h c k : Nat} (H : u + 8 * (h + c) < 6000) (e : k + 1 ≤ c) : u + 3 + 8 * k < 6000 := by omega
theorem ar_ub {u b c k : Nat} (H : u + 8 * (b + 1 + c) < 6000) (e : k ≤ c) : u + 3 + 8 * (b + k) < 6000 := by omega
theorem ar_ul {u l r c k : Nat} (H : u + 8 * (max l r + 1 + c) < 6000) (e : k ≤ c) : u + 3 + 8 * (l + k) < 6000 := by omega
theorem ar_um {u l r c k : Nat} (H : u + 8 * (max l r + 1 + c) < 6000) (e : k ≤ c) : u + 3 + 8 * (r + k) < 6000 := by omega
theorem ar_c {u z : Nat} (H : u + 8 * z < 6000) : u + 3 + 64 < cLine := by show _ < 9900; omega
theorem ar_c0 {u z : Nat} (H : u + 8 * z < 6000) : u + 64 < cLine := by show _ < 9900; omega

/-- a spans tuple -/
inductive SpIn (nw : Led) : Value → Lf → Prop where
  | a {s p n k t u} : (s, tupO #[.ref p] n) ∈ nw → (p, tupO #[.int 97 t, .int 97 u] k) ∈ nw → SpIn nw (.ref s) .a
  | b {s p n k t u} : (s, tupO #[.ref p] n) ∈ nw → (p, tupO #[.int 98 t, .int 98 u] k) ∈ nw → SpIn nw (.ref s) .b
  | ab {s p n k t u} : (s, tupO #[.ref p] n) ∈ nw → (p, tupO #[.int 97 t, .int 98 u] k) ∈ nw → SpIn nw (.ref s) .ab
/-- a tree of tuples: as drawn, or as told -/
inductive TIn (nw : Led) : Value → Rx → Prop where
  | sa : TIn nw (.ref 532) (.chr .a)
  | sb : TIn nw (.ref 533) (.chr .b)
  | sb2 : TIn nw (.ref 537) (.chr .b)
  | sab : TIn nw (.ref 534) (.chr .ab)
  | e0 : TIn nw (.ref 535) .empty
  | n0 : TIn nw (.ref 536) .never
  | chars {a t v n s} : (a, tupO #[.str (Str.ofString "chars") t, v] n) ∈ nw → SpIn nw v s → TIn nw (.ref a) (.chr s)
  | empty {a t n} : (a, tupO #[.str (Str.ofString "empty") t] n) ∈ nw → TIn nw (.ref a) .empty
  | never {a t n} : (a, tupO #[.str (Str.ofString "never") t] n) ∈ nw → TIn nw (.ref a) .never
  | cat {a t v u n l r} : (a, tupO #[.str (Str.ofString "cat") t, v, u] n) ∈ nw → TIn nw v l → TIn nw u r → TIn nw (.ref a) (.cat l r)
  | alt {a t v u n l r} : (a, tupO #[.str (Str.ofString "alt") t, v, u] n) ∈ nw → TIn nw v l → TIn nw u r → TIn nw (.ref a) (.alt l r)
  | star {a t v n b} : (a, tupO #[.str (Str.ofString "star") t, v] n) ∈ nw → TIn nw v b → TIn nw (.ref a) (.star b)
  | plus {a t v n b} : (a, tupO #[.str (Str.ofString "plus") t, v] n) ∈ nw → TIn nw v b → TIn nw (.ref a) (.plus b)
  | opt {a t v n b} : (a, tupO #[.str (Str.ofString "opt") t, v] n) ∈ nw → TIn nw v b → TIn nw (.ref a) (.opt b)
  | rep {a t v n b tl th} {low high : Nat} : (a, tupO #[.str (Str.ofString "repeat") t, v, .int low tl, .int high th] n) ∈ nw → TIn nw v b → TIn nw (.ref a) (.rep b low (some high))
  | repN {a t v n b tl} {low : Nat} : (a, tupO #[.str (Str.ofString "repeat") t, v, .int low tl, .none] n) ∈ nw → TIn nw v b → TIn nw (.ref a) (.rep b low none)
/-- a tree of tuples as told -/
inductive CIn (nw : Led) : Value → Rx → Prop where
  | chars {a t v n s} : (a, tupO #[.str (Str.ofString "chars") t, v] n) ∈ nw → SpIn nw v s → CIn nw (.ref a) (.chr s)
  | empty {a t n} : (a, tupO #[.str (Str.ofString "empty") t] n) ∈ nw → CIn nw (.ref a) .empty
  | never {a t n} : (a, tupO #[.str (Str.ofString "never") t] n) ∈ nw → CIn nw (.ref a) .never
  | cat {a t v u n l r} : (a, tupO #[.str (Str.ofString "cat") t, v, u] n) ∈ nw → CIn nw v l → CIn nw u r → CIn nw (.ref a) (.cat l r)
  | alt {a t v u n l r} : (a, tupO #[.str (Str.ofString "alt") t, v, u] n) ∈ nw → CIn nw v l → CIn nw u r → CIn nw (.ref a) (.alt l r)
  | star {a t v n b} : (a, tupO #[.str (Str.ofString "star") t, v] n) ∈ nw → CIn nw v b → CIn nw (.ref a) (.star b)
  | plus {a t v n b} : (a, tupO #[.str (Str.ofString "plus") t, v] n) ∈ nw → CIn nw v b → CIn nw (.ref a) (.plus b)
  | opt {a t v n b} : (a, tupO #[.str (Str.ofString "opt") t, v] n) ∈ nw → CIn nw v b → CIn nw (.ref a) (.opt b)
  | rep {a t v n b tl th} {low high : Nat} : (a, tupO #[.str (Str.ofString "repeat") t, v, .int low tl, .int high th] n) ∈ nw → CIn nw v b → CIn nw (.ref a) (.rep b low (some high))
  | repN {a t v n b tl} {low : Nat} : (a, tupO #[.str (Str.ofString "repeat") t, v, .int low tl, .none] n) ∈ nw → CIn nw v b → CIn nw (.ref a) (.rep b low none)
/-- a node -/
inductive NIn (nw : Led) : Value → Rx → Prop where
  | empty {a d n} : (a, instObj 269 d) ∈ nw → (d, dictOf [] n) ∈ nw → NIn nw (.ref a) .empty
  | never {a d n} : (a, instObj 281 d) ∈ nw → (d, dictOf [] n) ∈ nw → NIn nw (.ref a) .never
  | chr {a d n h t c dc m h' t' v s} : (a, instObj 307 d) ∈ nw → (d, dictOf [⟨h, .str (Str.ofString "charset") t, .ref c⟩] n) ∈ nw → (c, instObj 227 dc) ∈ nw → (dc, dictOf [⟨h', .str (Str.ofString "spans") t', v⟩] m) ∈ nw → SpIn nw v s → NIn nw (.ref a) (.chr s)
  | cat {a d n h t v h' t' u l r} : (a, instObj 352 d) ∈ nw → (d, dictOf [⟨h, .str (Str.ofString "left") t, v⟩, ⟨h', .str (Str.ofString "right") t', u⟩] n) ∈ nw → NIn nw v l → NIn nw u r → NIn nw (.ref a) (.cat l r)
  | alt {a d n h t v h' t' u l r} : (a, instObj 364 d) ∈ nw → (d, dictOf [⟨h, .str (Str.ofString "left") t, v⟩, ⟨h', .str (Str.ofString "right") t', u⟩] n) ∈ nw → NIn nw v l → NIn nw u r → NIn nw (.ref a) (.alt l r)
  | star {a d n h t v b} : (a, instObj 409 d) ∈ nw → (d, dictOf [⟨h, .str (Str.ofString "body") t, v⟩] n) ∈ nw → NIn nw v b → NIn nw (.ref a) (.star b)
  | plus {a d n h t v b} : (a, instObj 421 d) ∈ nw → (d, dictOf [⟨h, .str (Str.ofString "body") t, v⟩] n) ∈ nw → NIn nw v b → NIn nw (.ref a) (.plus b)
  | opt {a d n h t v b} : (a, instObj 433 d) ∈ nw → (d, dictOf [⟨h, .str (Str.ofString "body") t, v⟩] n) ∈ nw → NIn nw v b → NIn nw (.ref a) (.opt b)
  | rep {a d n h t v h1 t1 h2 t2 tl th b} {low high : Nat} : (a, instObj 459 d) ∈ nw → (d, dictOf [⟨h, .str (Str.ofString "body") t, v⟩, ⟨h1, .str (Str.ofString "low") t1, .int low tl⟩, ⟨h2, .str (Str.ofString "high") t2, .int high th⟩] n) ∈ nw → NIn nw v b → NIn nw (.ref a) (.rep b low (some high))
  | repN {a d n h t v h1 t1 h2 t2 tl b} {low : Nat} : (a, instObj 459 d) ∈ nw → (d, dictOf [⟨h, .str (Str.ofString "body") t, v⟩, ⟨h1, .str (Str.ofString "low") t1, .int low tl⟩, ⟨h2, .str (Str.ofString "high") t2, .none⟩] n) ∈ nw → NIn nw v b → NIn nw (.ref a) (.rep b low none)

theorem SpIn.mono {nw nw' : Led} {v s} (h : SpIn nw v s) (hs : ∀ p ∈ nw, p ∈ nw') : SpIn nw' v s := by
  cases h with
  | a h1 h2 => exact .a (hs _ h1) (hs _ h2)
  | b h1 h2 => exact .b (hs _ h1) (hs _ h2)
  | ab h1 h2 => exact .ab (hs _ h1) (hs _ h2)
theorem TIn.mono {nw nw' : Led} {v s} (h : TIn nw v s) (hs : ∀ p ∈ nw, p ∈ nw') : TIn nw' v s := by
  induction h with
  | sa => exact .sa
  | sb => exact .sb
  | sb2 => exact .sb2
  | sab => exact .sab
  | e0 => exact .e0
  | n0 => exact .n0
  | chars h1 h2 => exact .chars (hs _ h1) (h2.mono hs)
  | empty h1 => exact .empty (hs _ h1)
  | never h1 => exact .never (hs _ h1)
  | cat h1 _ _ i j => exact .cat (hs _ h1) i j
  | alt h1 _ _ i j => exact .alt (hs _ h1) i j
  | star h1 _ i => exact .star (hs _ h1) i
  | plus h1 _ i => exact .plus (hs _ h1) i
  | opt h1 _ i => exact .opt (hs _ h1) i
  | rep h1 _ i => exact .rep (hs _ h1) i
  | repN h1 _ i => exact .repN (hs _ h1) i
theorem CIn.mono {nw nw' : Led} {v s} (h : CIn nw v s) (hs : ∀ p ∈ nw, p ∈ nw') : CIn nw' v s := by
  induction h with
  | chars h1 h2 => exact .chars (hs _ h1) (h2.mono hs)
  | empty h1 => exact .empty (hs _ h1)
  | never h1 => exact .never (hs _ h1)
  | cat h1 _ _ i j => exact .cat (hs _ h1) i j
  | alt h1 _ _ i j => exact .alt (hs _ h1) i j
  | star h1 _ i => exact .star (hs _ h1) i
  | plus h1 _ i => exact .plus (hs _ h1) i
  | opt h1 _ i => exact .opt (hs _ h1) i
  | rep h1 _ i => exact .rep (hs _ h1) i
  | repN h1 _ i => exact .repN (hs _ h1) i
theorem CIn.told {nw : Led} {v s} (h : CIn nw v s) : TIn nw v s := by
  induction h with
  | chars h1 h2 => exact .chars h1 h2
  | empty h1 => exact .empty h1
  | never h1 => exact .never h1
  | cat h1 _ _ i j => exact .cat h1 i j
  | alt h1 _ _ i j => exact .alt h1 i j
  | star h1 _ i => exact .star h1 i
  | plus h1 _ i => exact .plus h1 i
  | opt h1 _ i => exact .opt h1 i
  | rep h1 _ i => exact .rep h1 i
  | repN h1 _ i => exact .repN h1 i
theorem NIn.mono {nw nw' : Led} {v s} (h : NIn nw v s) (hs : ∀ p ∈ nw, p ∈ nw') : NIn nw' v s := by
  induction h with
  | empty h1 h2 => exact .empty (hs _ h1) (hs _ h2)
  | never h1 h2 => exact .never (hs _ h1) (hs _ h2)
  | chr h1 h2 h3 h4 h5 => exact .chr (hs _ h1) (hs _ h2) (hs _ h3) (hs _ h4) (h5.mono hs)
  | cat h1 h2 _ _ i j => exact .cat (hs _ h1) (hs _ h2) i j
  | alt h1 h2 _ _ i j => exact .alt (hs _ h1) (hs _ h2) i j
  | star h1 h2 _ i => exact .star (hs _ h1) (hs _ h2) i
  | plus h1 h2 _ i => exact .plus (hs _ h1) (hs _ h2) i
  | opt h1 h2 _ i => exact .opt (hs _ h1) (hs _ h2) i
  | rep h1 h2 _ i => exact .rep (hs _ h1) (hs _ h2) i
  | repN h1 h2 _ i => exact .repN (hs _ h1) (hs _ h2) i
theorem SpIn.handed {nw : Led} {v s} (h : SpIn nw v s) : handedIn v = true := by cases h <;> rfl
theorem NIn.handed {nw : Led} {v s} (h : NIn nw v s) : handedIn v = true := by cases h <;> rfl
/-- a tree of tuples as drawn -/
inductive DIn (nw : Led) : Value → Rx → Prop where
  | sa : DIn nw (.ref 532) (.chr .a)
  | sb : DIn nw (.ref 533) (.chr .b)
  | sb2 : DIn nw (.ref 537) (.chr .b)
  | sab : DIn nw (.ref 534) (.chr .ab)
  | e0 : DIn nw (.ref 535) .empty
  | n0 : DIn nw (.ref 536) .never
  | cat {a t v u n l r} : (a, tupO #[.str (Str.ofString "cat") t, v, u] n) ∈ nw → DIn nw v l → DIn nw u r → DIn nw (.ref a) (.cat l r)
  | alt {a t v u n l r} : (a, tupO #[.str (Str.ofString "alt") t, v, u] n) ∈ nw → DIn nw v l → DIn nw u r → DIn nw (.ref a) (.alt l r)
  | star {a t v n b} : (a, tupO #[.str (Str.ofString "star") t, v] n) ∈ nw → DIn nw v b → DIn nw (.ref a) (.star b)
  | plus {a t v n b} : (a, tupO #[.str (Str.ofString "plus") t, v] n) ∈ nw → DIn nw v b → DIn nw (.ref a) (.plus b)
  | opt {a t v n b} : (a, tupO #[.str (Str.ofString "opt") t, v] n) ∈ nw → DIn nw v b → DIn nw (.ref a) (.opt b)
  | rep {a t v n b tl th} {low high : Nat} : (a, tupO #[.str (Str.ofString "repeat") t, v, .int low tl, .int high th] n) ∈ nw → DIn nw v b → DIn nw (.ref a) (.rep b low (some high))
  | repN {a t v n b tl} {low : Nat} : (a, tupO #[.str (Str.ofString "repeat") t, v, .int low tl, .none] n) ∈ nw → DIn nw v b → DIn nw (.ref a) (.rep b low none)
theorem DIn.mono {nw nw' : Led} {v s} (h : DIn nw v s) (hs : ∀ p ∈ nw, p ∈ nw') : DIn nw' v s := by
  induction h with
  | sa => exact .sa
  | sb => exact .sb
  | sb2 => exact .sb2
  | sab => exact .sab
  | e0 => exact .e0
  | n0 => exact .n0
  | cat h1 _ _ i j => exact .cat (hs _ h1) i j
  | alt h1 _ _ i j => exact .alt (hs _ h1) i j
  | star h1 _ i => exact .star (hs _ h1) i
  | plus h1 _ i => exact .plus (hs _ h1) i
  | opt h1 _ i => exact .opt (hs _ h1) i
  | rep h1 _ i => exact .rep (hs _ h1) i
  | repN h1 _ i => exact .repN (hs _ h1) i
theorem DIn.told {nw : Led} {v s} (h : DIn nw v s) : TIn nw v s := by
  induction h with
  | sa => exact .sa
  | sb => exact .sb
  | sb2 => exact .sb2
  | sab => exact .sab
  | e0 => exact .e0
  | n0 => exact .n0
  | cat h1 _ _ i j => exact .cat h1 i j
  | alt h1 _ _ i j => exact .alt h1 i j
  | star h1 _ i => exact .star h1 i
  | plus h1 _ i => exact .plus h1 i
  | opt h1 _ i => exact .opt h1 i
  | rep h1 _ i => exact .rep h1 i
  | repN h1 _ i => exact .repN h1 i
def StrList (nw : Led) (v : Value) (ws : List Str) : Prop := ∃ a n vs, v = .ref a ∧ (a, listOf (List.toArray vs) n) ∈ nw ∧ StrsAre vs ws

section
variable {prog : Program} {w : World} {A : Around} {s : Shared} {h₀ : Heap} {L : Addr} {m : Str → Option Value} {env : Env}
theorem CompEnd.imp {s₁ s₂ : Shared} {I C D : Addr} {oI oC oD : Obj} {S : Led → Prop} {r r' : Value → Led → Prop} {y : Value} (h : CompEnd h₀ L m s₁ I oI C oC D oD S r y s₂) (hr : ∀ n, r y n → r' y n) :
    CompEnd h₀ L m s₁ I oI C oC D oD S r' y s₂ := by
  obtain ⟨h', tk, nw, e, F, N, o, S', R⟩ := h
  exact ⟨h', tk, nw, e, F, N, o, S', hr _ R⟩
theorem comp_ind {ct elt : Expr} {x : Str} {scope : Scope} {cl : List (Str × Addr)} {S : Led → Prop} {P : Nat → Value → Prop} {Fin : List Value → Led → Prop} {n : Nat} {news : Led}
    (J : Nat → List Value → Prop) (hJ : J 0 [])
    (turn : ∀ i ys v I oI C oC D m₂ h tk (E' : Value → Shared → Prop), i < n → J i ys → P i v → NsObj oC m₂ → m₂ x = some v → Fr h₀ L h m → News h₀ L h ((I, oI) :: (C, oC) :: (D, lst ys) :: news) → Off3 I C D news → ((@Ne Nat I C) ∧ (@Ne Nat I D) ∧ (@Ne Nat C D)) →
      wpAny (model prog w) A (isTrue ct (compEnvC scope cl C env) (eval ct (compEnvC scope cl C env))) (fun ok s' => if ok = true then
        wpAny (model prog w) A (eval elt (compEnvC scope cl C env)) (CompEnd h₀ L m { s with heap := h, toks := tk } I oI C oC D (lst ys) S (fun y news' => news' = news ∧ J (i + 1) (ys ++ [y]))) E' s'
        else CompEnd h₀ L m { s with heap := h, toks := tk } I oI C oC D (lst ys) S (fun _ news' => news' = news ∧ J (i + 1) ys) Value.none s') E' { s with heap := h, toks := tk })
    (fin : ∀ ys, J n ys → Fin ys news) : CompRestT prog w A h₀ L m env ct elt x scope cl s S P Fin n 0 [] news := by
  have all : ∀ k i ys, i + k = n → J i ys → CompRestT prog w A h₀ L m env ct elt x scope cl s S P Fin k i ys news := by
    intro k
    induction k with
    | zero =>
      intro i ys e j
      obtain rfl : i = n := by omega
      exact CompRestT.zero (fin ys j)
    | succ k ih =>
      intro i ys e j
      refine CompRestT.succ fun v I oI C oC D m₂ h tk E' hP hn hx F N off ne => ?_
      refine wpAny_mono (turn i ys v I oI C oC D m₂ h tk E' (by omega) j hP hn hx F N off ne) (fun ok s' q => ?_) fun _ _ x => x
      cases ok with
      | true =>
        simp only [if_true] at q ⊢
        refine wpAny_mono q (fun y s₂ r => CompEnd.imp r fun nw ⟨e1, e2⟩ => ?_) fun _ _ x => x
        subst e1
        exact ih _ _ (by omega) e2
      | false =>
        simp only [Bool.false_eq_true, if_false] at q ⊢
        refine CompEnd.imp q fun nw ⟨e1, e2⟩ => ?_
        subst e1
        exact ih _ _ (by omega) e2
  exact all n 0 [] (by omega) hJ
end
theorem strs_get {vs : List Value} {ws : List Str} (S : StrsAre vs ws) : ∀ {i : Nat} {v : Value}, vs[i]? = some v → ∃ x t, v = .str x t ∧ ws[i]? = some x := by
  induction S with
  | nil => intro i v h; simp at h
  | cons y t S ih =>
    intro i v h
    cases i with
    | zero => simp at h; subst h; exact ⟨y, t, rfl, rfl⟩
    | succ i => simp at h; obtain ⟨x, t, e, e2⟩ := ih h; exact ⟨x, t, e, by simpa using e2⟩
theorem strs_len {vs : List Value} {ws : List Str} (S : StrsAre vs ws) : vs.length = ws.length := by
  induction S with
  | nil => rfl
  | cons y t S ih => simp [ih]
theorem strs_snoc {vs : List Value} {ws : List Str} (S : StrsAre vs ws) (x : Str) (t : Tok) : StrsAre (vs ++ [.str x t]) (ws ++ [x]) := by
  induction S with
  | nil => exact .cons x t .nil
  | cons y u S ih => exact .cons y u ih
theorem strs_app {vs vs' : List Value} {ws ws' : List Str} (S : StrsAre vs ws) (S' : StrsAre vs' ws') : StrsAre (vs ++ vs') (ws ++ ws') := by
  induction S with
  | nil => exact S'
  | cons y u S ih => exact .cons y u ih
theorem freshL_snoc {ws ks : List Str} {i : Nat} {x : Str} (h : ws[i]? = some x) : freshL (ws.take (i + 1)) ks = freshL (ws.take i) ks ++ (if (!(ks.any (· == x))) = true then [x] else []) := by
  unfold freshL
  rw [List.take_add_one, h, List.filter_append]
  simp [List.filter_cons]
section
variable {prog : Program} {w : World} {A : Around} {E : Value → Shared → Prop} {s : Shared} {env : Env} {h₀ : Heap} {x : Str} {body : List Stmt} {Q : Flow → Shared → Prop}

/-- where a turn of a loop over a list of the ledger ends -/
def TurnEnd (h₀ : Heap) (L : Addr) (I : Addr) (oI : Obj) (J : (Str → Option Value) → Led → Prop) (s₁ : Shared) (Q : Flow → Shared → Prop) (f : Flow) (s₂ : Shared) : Prop :=
  match f with
  | .ret v => Q (.ret v) s₂
  | .brk => Q .next s₂
  | _ => ∃ h' tk m' nx', s₂ = { s₁ with heap := h', toks := tk } ∧ Fr h₀ L h' m' ∧ News h₀ L h' ((I, oI) :: nx') ∧ (∀ q ∈ nx', q.1 ≠ I) ∧ J m' nx'

theorem iter_led {l : Addr} {items : Array Value} {k : Nat} {m₀ : Str → Option Value} {news : Led} (J : Nat → (Str → Option Value) → Led → Prop)
    (hh : A.handled = none) (hl : (l, listOf items k) ∈ news) (F : Fr h₀ env.locals s.heap m₀) (N : News h₀ env.locals s.heap news) (hj : J 0 m₀ news)
    (hkeep : ∀ i m nx, J i m nx → (l, listOf items k) ∈ nx)
    (turn : ∀ i v m₁ nx I oI h tk, items[i]? = some v → J i m₁ nx → (∀ q ∈ nx, q.1 ≠ I) → oI.cls = .type "list_iterator" → Fr h₀ env.locals h (fun y => if y = x then some v else m₁ y) → News h₀ env.locals h ((I, oI) :: nx) →
      wpAny (model prog w) A (execs body env) (TurnEnd h₀ env.locals I oI (J (i + 1)) { s with heap := h, toks := tk } Q) E { s with heap := h, toks := tk })
    (done : ∀ m₁ nx h tk, J items.size m₁ nx → Fr h₀ env.locals h m₁ → News h₀ env.locals h nx → Q .next { s with heap := h, toks := tk }) :
    wpAny (model prog w) A (pyIter (.ref l)) (fun it s₂ => LoopAtV prog w A h₀ env x body Q E it s₂) E s := by
  have hls : s.heap.IsList l items := News.isList N hl
  have hlt : l < s.heap.objs.size := Heap.lt_size (N _ hl).1
  have hlL : l ≠ env.locals := (N _ hl).2.1
  have hl0 : h₀.get? l = none := (N _ hl).2.2
  have hne : l ≠ s.heap.objs.size := Nat.ne_of_lt hlt
  refine wpAny_pyIter_list hls ?_
  have W := Walks.list (prog := prog) (w := w) hh s.heap.objs.size l hne items
  refine ⟨_, _, _, items.size, _, _, m₀, news, J, rfl, W, ?_, ?_, ?_, ⟨⟨_, Heap.get?_push_size _ rfl, rfl, rfl⟩, hls.at fun o e => Heap.get?_push_of_some _ e⟩, F.push _, (fun p hp => ⟨Heap.get?_push_of_some _ (N p hp).1, (N p hp).2⟩), hj, ?_, ?_⟩
  · intro hm
    rcases List.mem_cons.mp hm with e | hm
    · exact absurd F.ns.lt (e ▸ Nat.lt_irrefl _)
    · exact hlL (List.mem_singleton.mp hm).symm
  · intro b hb
    rw [List.mem_singleton.mp hb]
    exact next_is_new F
  · intro p hp hI
    exact absurd (Heap.lt_size (N p hp).1) ((List.mem_singleton.mp hI) ▸ Nat.lt_irrefl _)
  · rintro i v m₁ nx s₁ own ⟨hh', tk', rfl⟩ hin hP hJ hoff hown hat hall hst F₁ N₁
    have hIn : h₀.get? s.heap.objs.size = none := next_is_new F
    obtain ⟨oI, heI, hcI, _⟩ := hst.1
    have hI : (s.heap.objs.size, oI) ∈ own := hall _ (List.mem_cons_self) hIn oI heI
    have hoff' : ∀ q ∈ nx, q.1 ≠ s.heap.objs.size := fun q hq e => hoff q hq (e ▸ List.mem_singleton.mpr rfl)
    have N₂ : News h₀ env.locals hh' ((s.heap.objs.size, oI) :: nx) := fun p hp => N₁ p ((List.mem_cons.mp hp).elim (fun h => List.mem_append.mpr (.inl (h ▸ hI))) fun h => List.mem_append.mpr (.inr h))
    refine wpAny_mono (turn i v m₁ nx _ oI hh' tk' hP hJ hoff' hcI F₁ N₂) (fun f s₂ p => ?_) fun _ _ e => e
    have fin : (∃ h' tk m' nx', s₂ = { ({ s with heap := hh', toks := tk' } : Shared) with heap := h', toks := tk } ∧ Fr h₀ env.locals h' m' ∧ News h₀ env.locals h' ((s.heap.objs.size, oI) :: nx') ∧ (∀ q ∈ nx', q.1 ≠ s.heap.objs.size) ∧ J (i + 1) m' nx') →
        LoopStepU h₀ env.locals [s.heap.objs.size] own (J (i + 1)) { s with heap := hh', toks := tk' } .next s₂ := by
      rintro ⟨h', tk, m', nx', e, F', N', ho', hJ'⟩
      refine ⟨rfl, h', tk, m', nx', e, F', fun p hp => ?_, fun p hp hq => ho' p hp (List.mem_singleton.mp hq), hJ'⟩
      rcases List.mem_append.mp hp with hp | hp
      · have ha := hat p hp
        rcases List.mem_cons.mp (hown p hp) with e1 | e1
        · have : p = (s.heap.objs.size, oI) := by
            refine Prod.ext e1 ?_
            have ha' : hh'.get? p.1 = some p.2 := ha
            rw [e1] at ha'
            have heI' : hh'.get? s.heap.objs.size = some oI := heI
            rw [heI'] at ha'
            exact (Option.some.inj ha').symm
          exact N' p (this ▸ List.mem_cons_self)
        · have e2 := List.mem_singleton.mp e1
          have hl2 := (N₂ _ (List.mem_cons_of_mem _ (hkeep _ _ _ hJ))).1
          have : p = (l, listOf items k) := by
            refine Prod.ext e2 ?_
            have ha' : hh'.get? p.1 = some p.2 := ha
            rw [e2] at ha'
            rw [hl2] at ha'
            exact (Option.some.inj ha').symm
          exact N' p (this ▸ List.mem_cons_of_mem _ (hkeep _ _ _ hJ'))
      · exact N' p (List.mem_cons_of_mem _ hp)
    cases f with
    | ret v => exact .ret p
    | brk => exact .brk p
    | next => exact .next (fin p)
    | cont => exact .cont (fin p)
  · rintro h' tk m' nx F' N' _ hJ
    exact done m' nx h' tk hJ F' N'
end
/-- outside the stored names the map is as it was -/
def Keep (stored : List Str) (m₀ m : Str → Option Value) : Prop := ∀ z, stored.contains z = false → m z = m₀ z
theorem keep_refl {stored : List Str} {m : Str → Option Value} : Keep stored m m := fun _ _ => rfl
theorem keep_eq {stored : List Str} {m₀ m : Str → Option Value} (h : Keep stored m₀ m) : m = fun z => if stored.contains z then m z else m₀ z := by
  funext z
  cases hz : stored.contains z with
  | true => simp
  | false => simp only [Bool.false_eq_true, if_false]; exact h z hz
theorem keep_set {stored : List Str} {m₀ m : Str → Option Value} {x : Str} {v : Value} (h : Keep stored m₀ m) (hx : stored.contains x = true) : Keep stored m₀ (fun y => if y = x then some v else m y) := by
  intro z hz
  have : z ≠ x := fun e => by rw [e, hx] at hz; cases hz
  simp only [if_neg this]
  exact h z hz
theorem keep_ite {stored : List Str} {m₀ u : Str → Option Value} : Keep stored m₀ (fun z => if stored.contains z then u z else m₀ z) := by
  intro z hz
  simp only [hz, Bool.false_eq_true, if_false]
theorem map_named {m : Str → Option Value} {a : Str} {v : Value} (h : m a = some v) : m = fun y => if y = a then some v else m y := by
  funext y
  by_cases e : y = a
  · simp [e, h]
  · simp [e]
theorem keep_get {stored : List Str} {m₀ m : Str → Option Value} {a : Str} {v : Value} (h : Keep stored m₀ m) (ha : m₀ a = some v) (hs : stored.contains a = false) : m a = some v := (h a hs).trans ha
theorem keep_trans {st st' : List Str} {m₀ m₁ m₂ : Str → Option Value} (h : Keep st m₀ m₁) (h' : Keep st' m₁ m₂) (hs : ∀ z, st.contains z = false → st'.contains z = false) : Keep st m₀ m₂ :=
  fun z hz => (h' z (hs z hz)).trans (h z hz)
theorem news_swap {h₀ h : Heap} {L : Addr} {p q : Addr × Obj} {X : Led} (N : News h₀ L h (p :: q :: X)) : News h₀ L h (q :: p :: X) := fun r hr => N r (by
  rcases List.mem_cons.mp hr with rfl | hr
  · exact .tail _ (.head _)
  · rcases List.mem_cons.mp hr with rfl | hr
    · exact .head _
    · exact .tail _ (.tail _ hr))
theorem fr_abs {h₀ h : Heap} {L : Addr} {m : Str → Option Value} {P : (Str → Option Value) → Prop} (F : Fr h₀ L h m) (hp : P m) : ∃ m', Fr h₀ L h m' ∧ P m' := ⟨m, F, hp⟩
theorem set_ne {m : Str → Option Value} {x y : Str} {v u : Value} (h : m y = some u) (ne : y ≠ x) : (fun z => if z = x then some v else m z) y = some u := by
  show (if y = x then some v else m y) = some u
  rw [if_neg ne]; exact h
theorem set_eq {m : Str → Option Value} {x : Str} {v : Value} : (fun z => if z = x then some v else m z) x = some v := by
  show (if x = x then some v else m x) = some v
  rw [if_pos rfl]
theorem news_sub {h₀ h : Heap} {L : Addr} {X Y : Led} (N : News h₀ L h X) (hs : ∀ p ∈ Y, p ∈ X) : News h₀ L h Y := fun p hp => N p (hs p hp)

theorem keep_named {stored : List Str} {m₀ m : Str → Option Value} {a : Str} {v : Value} (h : Keep stored m₀ m) (e : m a = some v) : Keep stored m₀ (fun y => if y = a then some v else m y) := by
  rw [← map_named e]; exact h
theorem news_fin0 {h₀ h : Heap} {L : Addr} {X Y : Led} (N : News h₀ L h X) (hs : ∀ p ∈ Y, p ∈ X) : News h₀ L h (Y ++ []) := fun p hp => N p (hs p (by rwa [List.append_nil] at hp))
theorem ite_ff9 {P Q : Prop} (h : Q) : if false = true then P else Q := by simpa using h
theorem ite_tt9 {P Q : Prop} (h : P) : if true = true then P else Q := by simpa using h
theorem ite_nff9 {P Q : Prop} (h : P) : if ¬ false = true then P else Q := by simpa using h
theorem ite_ntt9 {P Q : Prop} (h : Q) : if ¬ true = true then P else Q := by simpa using h
theorem subs_trans {X Y Z : Led} (h : ∀ p ∈ X, p ∈ Y) (h' : ∀ p ∈ Y, p ∈ Z) : ∀ p ∈ X, p ∈ Z := fun p hp => h' p (h p hp)
/-- the ledger of an end, parted in what was and what is new -/
theorem close_tl {h₀ h : Heap} {L : Addr} {X news : Led} (N : News h₀ L h X) (hs : ∀ p ∈ news, p ∈ X) : ∃ tl, News h₀ L h (news ++ tl) ∧ (∀ q ∈ news, ∀ p ∈ tl, q.1 ≠ p.1) ∧ ∀ p ∈ X, p ∈ news ++ tl := by
  refine ⟨X.filter fun p => !(news.any fun q => q.1 == p.1), fun p hp => ?_, fun q hq p hp e => ?_, fun p hp => ?_⟩
  · rcases List.mem_append.mp hp with hp | hp
    · exact N p (hs p hp)
    · exact N p (List.mem_filter.mp hp).1
  · have := (List.mem_filter.mp hp).2
    rw [Bool.not_eq_true'] at this
    have q2 := List.any_eq_false.mp this q hq
    exact q2 (by simpa using e)
  · cases ha : news.any fun q => q.1 == p.1 with
    | false => exact List.mem_append.mpr (.inr (List.mem_filter.mpr ⟨hp, by rw [ha]; rfl⟩))
    | true =>
      obtain ⟨q, hq, e⟩ := List.any_eq_true.mp ha
      have e1 : q.1 = p.1 := by simpa using e
      have h1 := (N q (hs q hq)).1
      have h2 := (N p hp).1
      rw [e1, h2] at h1
      have : p = q := Prod.ext e1.symm (Option.some.inj h1)
      exact List.mem_append.mpr (.inl (this ▸ hq))
theorem fin_by {h₀ h' : Heap} {L : Addr} {m : Str → Option Value} {news X : Led} {s : Shared} {Post : Value → Led → Prop} {Q : Value → Shared → Prop} {r : Value} {tk' : Nat}
    (hret : ∀ r tl h' tk', Fr h₀ L h' m → News h₀ L h' (news ++ tl) → (∀ q ∈ news, ∀ p ∈ tl, q.1 ≠ p.1) → Post r (news ++ tl) → Q r { s with heap := h', toks := tk' })
    (F : Fr h₀ L h' m) (N : News h₀ L h' X) (hs : ∀ p ∈ news, p ∈ X) (hp : ∀ Y, (∀ p ∈ X, p ∈ Y) → Post r Y) : Q r { s with heap := h', toks := tk' } := by
  obtain ⟨tl, N', hne, hX⟩ := close_tl N hs
  exact hret _ tl _ _ F N' hne (hp _ hX)
theorem fin_all {h₀ : Heap} {L : Addr} {m : Str → Option Value} {news : Led} {s : Shared} {Post : Value → Led → Prop} {Q : Value → Shared → Prop}
    (hret : ∀ r tl h' tk', Fr h₀ L h' m → News h₀ L h' (news ++ tl) → (∀ q ∈ news, ∀ p ∈ tl, q.1 ≠ p.1) → Post r (news ++ tl) → Q r { s with heap := h', toks := tk' }) :
    ∀ h' X r tk', Fr h₀ L h' m → News h₀ L h' X → (∀ p ∈ news, p ∈ X) → (∀ Y, (∀ p ∈ X, p ∈ Y) → Post r Y) → Q r { s with heap := h', toks := tk' } :=
  fun _ _ _ _ F N hs hp => fin_by (news := news) (Post := Post) hret F N hs hp
/-! ## comprehensions over a text and over a tuple of pairs -/
section
variable {prog : Program} {w : World} {A : Around} {E : Value → Shared → Prop} {s : Shared} {h₀ : Heap} {L : Addr} {m : Str → Option Value} {env : Env}

theorem loop_any {elt target iter : Expr} {ifs : List Expr} {scope : Scope} {pos : Pos} {it acc : Value} {cenv : Env} {R : Result → Shared → Prop} (I : Nat → Shared → Prop)
    (turn : ∀ n s, I n s → wpAny (model prog w) A (pyNext it) (fun r s₁ => match r with
      | none => R (.ok .next) s₁
      | some v => wpAny (model prog w) A (letOwnedTupleGo target it v) (fun _ s₁' => wpAny (model prog w) A (assign target cenv v) (fun _ s₂ =>
          wpAny (model prog w) A (forIn ifs true fun c r => if r = true then do let ok ← isTrue c cenv (eval c cenv); pure (ForInStep.yield ok) else pure (ForInStep.yield r)) (fun ok s₃ =>
            if ok = true then wpAny (model prog w) A (eval elt cenv) (fun x s₄ =>
              wpAny (model prog w) A (call (.builtin "list.append") [acc, x]) (fun _ s₅ => ∃ m, m < n ∧ I m s₅) (notedBy (model prog w) A cenv fun e s' => R (.error e) s') s₄) (notedBy (model prog w) A cenv fun e s' => R (.error e) s') s₃
            else ∃ m, m < n ∧ I m s₃) (notedBy (model prog w) A cenv fun e s' => R (.error e) s') s₂)
          (notedBy (model prog w) A cenv fun e s' => R (.error e) s') s₁') (notedBy (model prog w) A cenv fun e s' => R (.error e) s') s₁) (notedBy (model prog w) A cenv fun e s' => R (.error e) s') s)
    (n : Nat) (h : I n s) : codeAny (model prog w) A (.compLoop (.ListComp elt [⟨target, iter, ifs, 0⟩] scope pos) 0 it acc cenv) R s := by
  refine codeAny_loop rfl I (fun n s hI => ?_) n h
  show wpAny _ A ((compTurn (.ListComp elt [⟨target, iter, ifs, 0⟩] scope pos) 0 it acc cenv).onRaise (fun x => do noteFrame x cenv; theTreesLotGoes x)) _ _ s
  refine wpAny_noted ?_
  rw [compTurn_list]
  refine wpAny_bind (wpAny_standAt (wpAny_bind (wpAny_mono (turn n s hI) (fun r s₁ h₁ => ?_) fun _ _ h' => h')))
  cases r with
  | none => exact wpAny_pure h₁
  | some v =>
    refine wpAny_bind (wpAny_mono h₁ (fun _ s₁' h₁' => ?_) fun _ _ h' => h')
    refine wpAny_bind (wpAny_mono h₁' (fun _ s₂ h₂ => wpAny_bind (wpAny_mono h₂ (fun ok s₃ h₃ => ?_) fun _ _ h' => h')) fun _ _ h' => h')
    cases ok with
    | false => exact wpAny_pure ⟨rfl, h₃⟩
    | true => exact wpAny_bind (wpAny_bind (wpAny_mono h₃ (fun x s₄ h₄ => wpAny_bind (wpAny_mono h₄ (fun _ s₅ h₅ => wpAny_pure (wpAny_pure ⟨rfl, h₅⟩)) fun _ _ h' => h')) fun _ _ h' => h'))

/-- what a turn leaves -/
def TurnOut (h₀ : Heap) (L : Addr) (m : Str → Option Value) (I D : Addr) (oI : Obj) (Own : Led → Prop) (J : List Value → Led → Prop) (s₁ : Shared) (ys ys' : List Value) (s₂ : Shared) : Prop :=
  ∃ h' tk own nx, s₂ = { s₁ with heap := h', toks := tk } ∧ Own own ∧ (∀ p ∈ own ++ nx, p.1 ≠ I ∧ p.1 ≠ D) ∧ Fr h₀ L h' m ∧ News h₀ L h' ((I, oI) :: (D, lst ys) :: (own ++ nx)) ∧ J ys' nx

theorem comp_loop {elt target iter : Expr} {ifs : List Expr} {scope : Scope} {pos : Pos} {I D : Addr} {fp : List Addr} {n : Nat} {P : Nat → Value → Prop} {St : Nat → Heap → Prop} {cenv : Env} {R : Result → Shared → Prop}
    (W : Walks prog w A I fp [I] n P St) (Own : Led → Prop) (J : Nat → List Value → Led → Prop) (hsz : n ≤ sizeLine)
    (hIo : ∀ i h, St i h → ∃ o, h.get? I = some o)
    (hSt : ∀ i k h h' o ys nx, St i h → h.get? I = some o → h'.get? I = some o → News h₀ L h' nx → J k ys nx → St i h')
    (hIL : I ≠ L) (hI₀ : h₀.get? I = none) (hDL : D ≠ L) (hD₀ : h₀.get? D = none) (hID : I ≠ D)
    (turn : ∀ i ys v own nx oI h tk (E' : Value → Shared → Prop), i < n → J i ys nx → P i v → Own own → (∀ p ∈ own ++ nx, p.1 ≠ I ∧ p.1 ≠ D) → Fr h₀ L h m → News h₀ L h ((I, oI) :: (D, lst ys) :: (own ++ nx)) → St (i + 1) h →
      wpAny (model prog w) A (letOwnedTupleGo target (.ref I) v) (fun _ s₁' => wpAny (model prog w) A (assign target cenv v) (fun _ s₂ =>
          wpAny (model prog w) A (forIn ifs true fun c r => if r = true then do let ok ← isTrue c cenv (eval c cenv); pure (ForInStep.yield ok) else pure (ForInStep.yield r)) (fun ok s₃ =>
            if ok = true then wpAny (model prog w) A (eval elt cenv) (fun x s₄ => TurnOut h₀ L m I D oI Own (J (i + 1)) { s with heap := h, toks := tk } ys (ys ++ [x]) s₄) E' s₃
            else TurnOut h₀ L m I D oI Own (J (i + 1)) { s with heap := h, toks := tk } ys ys s₃) E' s₂) E' s₁') E' { s with heap := h, toks := tk })
    (done : ∀ ys own nx h tk, J n ys nx → Own own → (∀ p ∈ own ++ nx, p.1 ≠ I ∧ p.1 ≠ D) → Fr h₀ L h m → News h₀ L h ((D, lst ys) :: (own ++ nx)) → R (.ok .next) { s with heap := h, toks := tk })
    {own nx : Led} (j : J 0 [] nx) (o : Own own) (ap : ∀ p ∈ own ++ nx, p.1 ≠ I ∧ p.1 ≠ D) (F : Fr h₀ L s.heap m) (N : News h₀ L s.heap ((D, lst []) :: (own ++ nx))) (st : St 0 s.heap) :
    codeAny (model prog w) A (.compLoop (.ListComp elt [⟨target, iter, ifs, 0⟩] scope pos) 0 (.ref I) (.ref D) cenv) R s := by
  refine loop_any (fun k s' => ∃ h tk i ys own nx, s' = { s with heap := h, toks := tk } ∧ i ≤ n ∧ k = n + 1 - i ∧ ys.length ≤ i ∧ St i h ∧ J i ys nx ∧ Own own ∧ (∀ p ∈ own ++ nx, p.1 ≠ I ∧ p.1 ≠ D) ∧ Fr h₀ L h m ∧ News h₀ L h ((D, lst ys) :: (own ++ nx)))
    ?_ (n + 1) ⟨s.heap, s.toks, 0, [], own, nx, rfl, Nat.zero_le _, rfl, Nat.le_refl _, st, j, o, ap, F, N⟩
  rintro k s' ⟨h, tk, i, ys, own, nx, rfl, hi, rfl, hyl, st, j, o, ap, F, N⟩
  have apD : ∀ p ∈ (D, lst ys) :: (own ++ nx), p.1 ≠ I := fun p hp => by
    rcases List.mem_cons.mp hp with rfl | hp
    · exact Ne.symm hID
    · exact (ap p hp).1
  by_cases hlt : i < n
  · refine W.item i _ _ _ hlt st fun v h₂ tk₂ hP st₂ hk₂ => ?_
    have F₂ : Fr h₀ L h₂ m := fr_but F hk₂ (Ne.symm hIL) hI₀
    have N₂ : News h₀ L h₂ ((D, lst ys) :: (own ++ nx)) := news_but N hk₂ apD
    obtain ⟨oI, heI⟩ := hIo _ _ st₂
    have N₃ : News h₀ L h₂ ((I, oI) :: (D, lst ys) :: (own ++ nx)) := fun p hp => by
      rcases List.mem_cons.mp hp with rfl | hp
      · exact ⟨heI, hIL, hI₀⟩
      · exact N₂ p hp
    refine wpAny_mono (turn i ys v own nx oI h₂ tk₂ _ hlt j hP o ap F₂ N₃ st₂) (fun _ s₁' q₁ => ?_) fun _ _ e => e
    refine wpAny_mono q₁ (fun _ s₂ q₂ => ?_) fun _ _ e => e
    refine wpAny_mono q₂ (fun ok s₃ q₃ => ?_) fun _ _ e => e
    have back : ∀ ys' s₄, TurnOut h₀ L m I D oI Own (J (i + 1)) { s with heap := h₂, toks := tk₂ } ys ys' s₄ → ∃ h₄ tk₄ own' nx', s₄ = { s with heap := h₄, toks := tk₄ } ∧ Own own' ∧ (∀ p ∈ own' ++ nx', p.1 ≠ I ∧ p.1 ≠ D) ∧ Fr h₀ L h₄ m ∧
        News h₀ L h₄ ((I, oI) :: (D, lst ys) :: (own' ++ nx')) ∧ J (i + 1) ys' nx' ∧ St (i + 1) h₄ := by
      rintro ys' s₄ ⟨h₄, tk₄, own', nx', rfl, o', ap', F', N', j'⟩
      refine ⟨h₄, tk₄, own', nx', rfl, o', ap', F', N', j', hSt _ _ _ _ _ _ _ st₂ heI (N' _ (.head _)).1 (fun p hp => N' p ?_) j'⟩
      exact List.mem_cons_of_mem _ (List.mem_cons_of_mem _ (List.mem_append.mpr (.inr hp)))
    cases ok with
    | true =>
      simp only [if_true] at q₃ ⊢
      refine wpAny_mono q₃ (fun y s₄ q₄ => ?_) fun _ _ e => e
      obtain ⟨h₄, tk₄, own', nx', rfl, o', ap', F', N', j', st'⟩ := back _ _ q₄
      have zI := (N' (I, oI) (.head _)).1
      have zD := (N' (D, lst ys) (.tail _ (.head _))).1
      refine append_at (hsz := by show ys.toArray.size ≤ sizeLine; rw [List.size_toArray]; omega) zD fun h₅ hs₅ hD₅ => ?_
      have N₅ : News h₀ L h₅ ((D, lst (ys ++ [y])) :: (own' ++ nx')) := fun p hp => by
        rcases List.mem_cons.mp hp with rfl | hp
        · exact ⟨hD₅.trans (congrArg some (lst_snoc ys y)), hDL, hD₀⟩
        · have z := N' p (List.mem_cons_of_mem _ (List.mem_cons_of_mem _ hp))
          exact ⟨hs₅.extBut _ _ (ap' p hp).2 z.1, z.2⟩
      refine ⟨n + 1 - (i + 1), by omega, h₅, tk₄, i + 1, ys ++ [y], own', nx', rfl, hlt, rfl, by rw [List.length_append, List.length_singleton]; exact Nat.succ_le_succ hyl, ?_, j', o', ap', F'.change hs₅ hDL hD₀, N₅⟩
      exact hSt _ _ _ _ _ _ _ st' zI (hs₅.extBut _ _ hID zI) (fun p hp => N₅ p (List.mem_cons_of_mem _ (List.mem_append.mpr (.inr hp)))) j'
    | false =>
      simp only [Bool.false_eq_true, if_false] at q₃ ⊢
      obtain ⟨h₄, tk₄, own', nx', rfl, o', ap', F', N', j', st'⟩ := back _ _ q₃
      exact ⟨n + 1 - (i + 1), by omega, h₄, tk₄, i + 1, ys, own', nx', rfl, hlt, rfl, Nat.le_succ_of_le hyl, st', j', o', ap', F', fun p hp => N' p (List.mem_cons_of_mem _ hp)⟩
  · obtain rfl : i = n := Nat.le_antisymm hi (Nat.not_lt.mp hlt)
    refine W.done _ _ _ st fun h₂ tk₂ hk₂ => ?_
    exact done ys own nx h₂ tk₂ j o ap (fr_but F hk₂ (Ne.symm hIL) hI₀) (news_but N hk₂ apD)
end
section
variable {prog : Program} {w : World} {A : Around} {E : Value → Shared → Prop} {s : Shared} {h₀ : Heap} {L : Addr} {m : Str → Option Value} {env : Env}

abbrev dictO : Obj := { cls := .type "dict", data := .dict #[] }
abbrev cellO : Obj := { cls := .type "cell", data := .cell none }
theorem newEnv_gen {M : Model} {scope : Scope} {globals : Addr} {cl : List (Str × Addr)} {qual : Str} {Q : Env → Shared → Prop}
    (h : Q (newEnv scope s.heap.objs.size globals (cellsFrom (s.heap.objs.size + 1) scope.names cl) qual none .none (some env) builtinsNs) { s with heap := pushCells (s.heap.push dictO) scope.names }) :
    wpAny M A (newFunctionEnv scope globals cl [] qual none .none (some env)) Q E s := by
  simp only [newFunctionEnv, Option.isSome_some, if_true]
  refine wpAny_bind (wpAny_alloc ?_)
  refine wpAny_bind (wpAny_layCells _ (fun name kind cells => by cases hkc : kind == NameKind.cell <;> simp [hkc]) _ _ _ _ ?_)
  rw [List.forIn_nil]
  rw [show ({ s with heap := s.heap.push { cls := .type "dict", data := .dict #[] } } : Shared).heap.objs.size = s.heap.objs.size + 1 from Heap.size_push ..]
  exact wpAny_bind (wpAny_pure (wpAny_pure h))
theorem pushCells_no : ∀ (names : List (Str × NameKind)) (h : Heap), (∀ y ∈ names, y.2 ≠ .cell) → pushCells h names = h
  | [], _, _ => rfl
  | (n, k) :: r, h, hc => by
    have : (k == NameKind.cell) = false := by
      have := hc (n, k) (.head _)
      cases k <;> first | rfl | exact absurd rfl this
    unfold pushCells
    rw [this]
    exact pushCells_no r h fun y hy => hc y (.tail _ hy)
theorem cellsFrom_no : ∀ (names : List (Str × NameKind)) (n : Nat) (acc : List (Str × Addr)), (∀ y ∈ names, y.2 ≠ .cell) → cellsFrom n names acc = acc
  | [], _, _, _ => rfl
  | (x, k) :: r, n, acc, hc => by
    have : (k == NameKind.cell) = false := by
      have := hc (x, k) (.head _)
      cases k <;> first | rfl | exact absurd rfl this
    unfold cellsFrom
    rw [this]
    exact cellsFrom_no r n acc fun y hy => hc y (.tail _ hy)
theorem off_of {I C D : Addr} {l : Led} (h : ∀ p ∈ l, p.1 ≠ I ∧ p.1 ≠ D) (h' : ∀ p ∈ l, p.1 ≠ C) : Off3 I C D l := Off3.of fun p hp => ⟨(h p hp).1, h' p hp, (h p hp).2⟩

/-- a comprehension without a test over an ASCII text -/
theorem ListComp_S {elt iter : Expr} {x : Str} {px : Pos} {scope : Scope} {cl : List (Str × Addr)} {pos : Pos} {Q : Value → Shared → Prop} {y : Str} (J : Nat → List Value → Led → Prop) (F₀ : Fr h₀ L s.heap m)
    (hclos : closureFor scope env = pure cl) (hcell : ∀ y ∈ scope.names, y.2 ≠ .cell) (hkind : scope.kind = .function)
    (hnames : ∀ y ∈ scope.names, y.2 = .local → scope.names.lookup y.1 = some .local) (hx : scope.names.lookup x = some .local) (hh : A.handled = none) (hy : y.cps.all (· < 128) = true) (hsz : y.cps.size ≤ sizeLine)
    (h : wpAny (model prog w) A (eval iter env) (fun xv s₁ => ∃ t nx, xv = .str y t ∧ Fr h₀ L s₁.heap m ∧ News h₀ L s₁.heap nx ∧ J 0 [] nx ∧
      (∀ i ys c u nx I oI C oC D m₂ h tk (E' : Value → Shared → Prop), y.cps[i]? = some c → J i ys nx → NsObj oC m₂ → m₂ x = some (.str ⟨#[c]⟩ u) → Fr h₀ L h m → News h₀ L h ((I, oI) :: (C, oC) :: (D, lst ys) :: nx) → Off3 I C D nx → ((@Ne Nat I C) ∧ (@Ne Nat I D) ∧ (@Ne Nat C D)) →
        wpAny (model prog w) A (eval elt (compEnvC scope cl C env)) (CompEnd h₀ L m { s₁ with heap := h, toks := tk } I oI C oC D (lst ys) (fun _ => True) (fun r nx' => J (i + 1) (ys ++ [r]) nx')) E' { s₁ with heap := h, toks := tk }) ∧
      (∀ D ys nx h tk, J y.cps.size ys nx → Fr h₀ L h m → News h₀ L h ((D, lst ys) :: nx) → (∀ p ∈ nx, p.1 ≠ D) → Q (.ref D) { s₁ with heap := h, toks := tk })) E s)
    (hs : ∀ x, foldedSetIterable iter env x = pure x := by intro _; rfl) :
    wpAny (model prog w) A (eval (.ListComp elt [⟨.Name x px, iter, [], 0⟩] scope pos) env) Q E s := by
  rw [eval_ListComp]
  refine wpAny_comprehension_free (use := none) rfl hs hclos hkind hnames (wpAny_mono h (fun xv s₁ h₁ => ?_) fun _ _ e => e)
  obtain ⟨t, nx, rfl, F, N, j, turn, fin⟩ := h₁
  refine wpAny_pyIter_ascii hy ?_
  refine wpAny_newObj_type ?_
  refine newEnv_gen ?_
  dsimp only
  rw [pushCells_no _ _ hcell, cellsFrom_no _ _ _ hcell]
  have z1 : (s₁.heap.push { cls := .type "str_ascii_iterator", data := .fields #[.str y t, .int 0 0] }).objs.size = s₁.heap.objs.size + 1 := Heap.size_push ..
  have z2 : ((s₁.heap.push { cls := .type "str_ascii_iterator", data := .fields #[.str y t, .int 0 0] }).push { cls := .type "list", data := .seq #[] }).objs.size = s₁.heap.objs.size + 2 := by rw [Heap.size_push, z1]
  have gI := Heap.get?_push_of_some dictO (Heap.get?_push_of_some { cls := .type "list", data := .seq #[] } (Heap.get?_push_size s₁.heap (o := { cls := .type "str_ascii_iterator", data := .fields #[.str y t, .int 0 0] }) rfl))
  have gD := Heap.get?_push_of_some dictO (Heap.get?_push_size (s₁.heap.push { cls := .type "str_ascii_iterator", data := .fields #[.str y t, .int 0 0] }) (o := { cls := .type "list", data := .seq #[] }) rfl)
  have nC := (Heap.Ns.new ((s₁.heap.push { cls := .type "str_ascii_iterator", data := .fields #[.str y t, .int 0 0] }).push { cls := .type "list", data := .seq #[] }) (.type "dict"))
  rw [z1] at gD
  rw [z2] at nC
  rw [z1, z2]
  have up : ∀ b o, s₁.heap.get? b = some o → (((s₁.heap.push { cls := .type "str_ascii_iterator", data := .fields #[.str y t, .int 0 0] }).push { cls := .type "list", data := .seq #[] }).push dictO).get? b = some o := fun b o e =>
    Heap.get?_push_of_some _ (Heap.get?_push_of_some _ (Heap.get?_push_of_some _ e))
  have fresh₀ : ∀ a, s₁.heap.objs.size ≤ a → h₀.get? a = none := fun a ha => by
    cases e : h₀.get? a with
    | none => rfl
    | some o' => exact absurd (Heap.lt_size (F.keep a o' e)) (Nat.not_lt.mpr ha)
  have hLlt : L < s₁.heap.objs.size := F.ns.lt
  have old : ∀ p ∈ nx, p.1 < s₁.heap.objs.size := fun p hp => Heap.lt_size (N p hp).1
  obtain ⟨oC, heC, hoC⟩ := ns_obj nC
  change ((((s₁.heap.push { cls := .type "str_ascii_iterator", data := .fields #[.str y t, .int 0 0] }).push { cls := .type "list", data := .seq #[] }).push dictO).get? (s₁.heap.objs.size + 2)) = some oC at heC
  have L0 : L ≠ s₁.heap.objs.size := Nat.ne_of_lt hLlt
  have L1 : L ≠ s₁.heap.objs.size + 1 := Nat.ne_of_lt (Nat.lt_succ_of_lt hLlt)
  have L2 : L ≠ s₁.heap.objs.size + 2 := Nat.ne_of_lt (Nat.lt_succ_of_lt (Nat.lt_succ_of_lt hLlt))
  have I1 : s₁.heap.objs.size ≠ s₁.heap.objs.size + 1 := Nat.ne_of_lt (Nat.lt_succ_self _)
  have I2 : s₁.heap.objs.size ≠ s₁.heap.objs.size + 2 := Nat.ne_of_lt (Nat.lt_succ_of_lt (Nat.lt_succ_self _))
  have D2 : s₁.heap.objs.size + 1 ≠ s₁.heap.objs.size + 2 := Nat.ne_of_lt (Nat.lt_succ_self _)
  have oldne : ∀ p ∈ nx, ∀ k, p.1 ≠ s₁.heap.objs.size + k := fun p hp k => Nat.ne_of_lt (Nat.lt_of_lt_of_le (old p hp) (Nat.le_add_right _ _))
  have loop : codeAny (model prog w) A (.compLoop (.ListComp elt [⟨.Name x px, iter, [], 0⟩] scope pos) 0 (.ref s₁.heap.objs.size) (.ref (s₁.heap.objs.size + 1)) (compEnvC scope cl (s₁.heap.objs.size + 2) env))
      (compPost (model prog w) A E none Q (.ref (s₁.heap.objs.size + 1)) (s₁.heap.objs.size + 2)) { s₁ with heap := ((s₁.heap.push { cls := .type "str_ascii_iterator", data := .fields #[.str y t, .int 0 0] }).push { cls := .type "list", data := .seq #[] }).push dictO } := by
    refine comp_loop (h₀ := h₀) (L := L) (m := m) (Walks.strAscii hh s₁.heap.objs.size y t) (fun own => ∃ oC m₂, own = [(s₁.heap.objs.size + 2, oC)] ∧ NsObj oC m₂) (fun i ys nx => J i ys nx ∧ ∀ p ∈ nx, p.1 ≠ s₁.heap.objs.size + 2) hsz
      (fun i h ⟨o, e, _⟩ => ⟨o, e⟩) (fun i k h h' o ys nx ⟨o', e, r⟩ e1 e2 _ _ => ⟨o, e2, by rw [e1] at e; cases e; exact r⟩) (Ne.symm L0) (fresh₀ _ (Nat.le_refl _)) (Ne.symm L1) (fresh₀ _ (Nat.le_succ _)) I1 ?_ ?_
      (own := [(s₁.heap.objs.size + 2, oC)]) (nx := nx) ⟨j, fun p hp => oldne p hp 2⟩ ⟨oC, _, rfl, hoC⟩ ?_ (F.keeps up) ?_ ⟨_, gI, rfl, rfl⟩
    · rintro i ys v own nx oI h tk E' hi ⟨j, jC⟩ ⟨c, u, hc, rfl⟩ ⟨oC', m₂, rfl, hN⟩ ap F' N' st
      refine wpAny_pure ?_
      have NC := (N' (s₁.heap.objs.size + 2, oC') (.tail _ (.tail _ (.head _))))
      refine wpAny_assign_Name (wpAny_storeName_local (lookup_relabel_local hx) (hN.ns NC.1) (fun h₃ hn₃ hs₃ => ?_) (by simp [compEnvC, relabel, hkind]))
      refine wpAny_tests_nil ?_
      simp only [if_true]
      obtain ⟨oC₃, heC₃, hoC₃⟩ := ns_obj hn₃
      have apx : ∀ p ∈ nx, p.1 ≠ s₁.heap.objs.size ∧ p.1 ≠ s₁.heap.objs.size + 1 := fun p hp => ap p (List.mem_append.mpr (.inr hp))
      have N₃ : News h₀ L h₃ ((s₁.heap.objs.size, oI) :: (s₁.heap.objs.size + 2, oC₃) :: (s₁.heap.objs.size + 1, lst ys) :: nx) := fun p hp => by
        rcases List.mem_cons.mp hp with rfl | hp
        · have z := N' _ (.head _)
          exact ⟨hs₃.extBut _ _ I2 z.1, z.2⟩
        · rcases List.mem_cons.mp hp with rfl | hp
          · exact ⟨heC₃, NC.2⟩
          · rcases List.mem_cons.mp hp with rfl | hp
            · have z := N' _ (.tail _ (.head _))
              exact ⟨hs₃.extBut _ _ D2 z.1, z.2⟩
            · have z := N' p (.tail _ (.tail _ (.tail _ hp)))
              exact ⟨hs₃.extBut _ _ (jC p hp) z.1, z.2⟩
      refine wpAny_mono (turn i ys c u nx _ oI _ oC₃ _ _ h₃ _ _ hc j hoC₃ (by simp) (F'.change hs₃ (Ne.symm L2) NC.2.2) N₃ (off_of apx jC) ⟨I2, I1, Ne.symm D2⟩) (fun r s₂ q => ?_) fun _ _ e => e
      obtain ⟨h', tk', nx', rfl, F₄, N₄, off₄, _, j₄⟩ := q
      refine ⟨h', tk', [(s₁.heap.objs.size + 2, oC₃)], nx', rfl, ⟨_, _, rfl, hoC₃⟩, fun p hp => ?_, F₄, fun p hp => N₄ p ?_, j₄, fun p hp => (off₄.mem p hp).2.1⟩
      · rcases List.mem_cons.mp hp with rfl | hp
        · exact ⟨Ne.symm I2, Ne.symm D2⟩
        · exact ⟨(off₄.mem p hp).1, (off₄.mem p hp).2.2⟩
      · rcases List.mem_cons.mp hp with rfl | hp
        · exact .head _
        · rcases List.mem_cons.mp hp with rfl | hp
          · exact .tail _ (.tail _ (.head _))
          · rcases List.mem_cons.mp hp with rfl | hp
            · exact .tail _ (.head _)
            · exact .tail _ (.tail _ (.tail _ hp))
    · rintro ys own nx h tk ⟨j, jC⟩ ⟨oC', m₂, rfl, hN⟩ ap F' N'
      have NC := (N' (s₁.heap.objs.size + 2, oC') (.tail _ (.head _)))
      refine ⟨m₂, hN.ns NC.1, fun h'' hs'' => fin _ ys nx h'' tk j (F'.change hs'' (Ne.symm L2) NC.2.2) (fun p hp => ?_) (fun p hp => (ap p (List.mem_append.mpr (.inr hp))).2)⟩
      rcases List.mem_cons.mp hp with rfl | hp
      · have z := N' _ (.head _)
        exact ⟨hs''.extBut _ _ D2 z.1, z.2⟩
      · have z := N' p (.tail _ (.tail _ hp))
        exact ⟨hs''.extBut _ _ (jC p hp) z.1, z.2⟩
    · intro p hp
      rcases List.mem_cons.mp hp with rfl | hp
      · exact ⟨Ne.symm I2, Ne.symm D2⟩
      · exact ⟨oldne p hp 0, oldne p hp 1⟩
    · intro p hp
      rcases List.mem_cons.mp hp with rfl | hp
      · exact ⟨gD, Ne.symm L1, fresh₀ _ (Nat.le_succ _)⟩
      · rcases List.mem_cons.mp hp with rfl | hp
        · exact ⟨heC, Ne.symm L2, fresh₀ _ (Nat.le_add_right _ 2)⟩
        · exact ⟨up _ _ (N p hp).1, (N p hp).2⟩
  exact codeAny_compStart_list loop ((Walks.strAscii hh s₁.heap.objs.size y t).self 0 _ _ _ ⟨_, gI, rfl, rfl⟩ loop)
end
section
variable {prog : Program} {w : World} {A : Around} {E : Value → Shared → Prop} {s : Shared} {h₀ : Heap} {L : Addr} {m : Str → Option Value} {env : Env}
/-- a comprehension with a test over an ASCII text; its name is a cell -/
theorem ListComp_SC {ct elt iter : Expr} {x : Str} {px : Pos} {scope : Scope} {cl : List (Str × Addr)} {pos : Pos} {Q : Value → Shared → Prop} {y : Str} (J : Nat → List Value → Prop) (F₀ : Fr h₀ L s.heap m)
    (hclos : closureFor scope env = pure cl) (hcf : ∀ n acc, cellsFrom n scope.names acc = (x, n) :: acc) (hpc : ∀ h, pushCells h scope.names = h.push cellO) (hkind : scope.kind = .function)
    (hnames : ∀ y ∈ scope.names, y.2 = .local → scope.names.lookup y.1 = some .local) (hx : (relabel scope env).names.lookup x = some .cell) (hh : A.handled = none) (hy : y.cps.all (· < 128) = true) (hsz : y.cps.size ≤ sizeLine)
    (h : wpAny (model prog w) A (eval iter env) (fun xv s₁ => ∃ t nx, xv = .str y t ∧ Fr h₀ L s₁.heap m ∧ News h₀ L s₁.heap nx ∧ J 0 [] ∧
      (∀ i ys ch u I oI C oC cc oc D h tk (E' : Value → Shared → Prop), y.cps[i]? = some ch → J i ys → oc.data = .cell (some (.str ⟨#[ch]⟩ u)) → Fr h₀ L h m → News h₀ L h ((I, oI) :: (C, oC) :: (D, lst ys) :: (cc, oc) :: nx) → Off3 I C D ((cc, oc) :: nx) → ((@Ne Nat I C) ∧ (@Ne Nat I D) ∧ (@Ne Nat C D)) →
        wpAny (model prog w) A (isTrue ct (compEnvC scope ((x, cc) :: cl) C env) (eval ct (compEnvC scope ((x, cc) :: cl) C env))) (fun ok s' => if ok = true then
          wpAny (model prog w) A (eval elt (compEnvC scope ((x, cc) :: cl) C env)) (CompEnd h₀ L m { s₁ with heap := h, toks := tk } I oI C oC D (lst ys) (fun nw => nw = (cc, oc) :: nx) (fun r _ => J (i + 1) (ys ++ [r]))) E' s'
          else CompEnd h₀ L m { s₁ with heap := h, toks := tk } I oI C oC D (lst ys) (fun nw => nw = (cc, oc) :: nx) (fun _ _ => J (i + 1) ys) Value.none s') E' { s₁ with heap := h, toks := tk }) ∧
      (∀ D ys h tk, J y.cps.size ys → Fr h₀ L h m → News h₀ L h ((D, lst ys) :: nx) → (∀ p ∈ nx, p.1 ≠ D) → Q (.ref D) { s₁ with heap := h, toks := tk })) E s)
    (hs : ∀ x, foldedSetIterable iter env x = pure x := by intro _; rfl) :
    wpAny (model prog w) A (eval (.ListComp elt [⟨.Name x px, iter, [ct], 0⟩] scope pos) env) Q E s := by
  rw [eval_ListComp]
  refine wpAny_comprehension_free (use := none) rfl hs hclos hkind hnames (wpAny_mono h (fun xv s₁ h₁ => ?_) fun _ _ e => e)
  obtain ⟨t, nx, rfl, F, N, j, turn, fin⟩ := h₁
  refine wpAny_pyIter_ascii hy ?_
  refine wpAny_newObj_type ?_
  refine newEnv_gen ?_
  dsimp only
  rw [hpc, hcf]
  have z1 : (s₁.heap.push { cls := .type "str_ascii_iterator", data := .fields #[.str y t, .int 0 0] }).objs.size = s₁.heap.objs.size + 1 := Heap.size_push ..
  have z2 : ((s₁.heap.push { cls := .type "str_ascii_iterator", data := .fields #[.str y t, .int 0 0] }).push { cls := .type "list", data := .seq #[] }).objs.size = s₁.heap.objs.size + 2 := by rw [Heap.size_push, z1]
  have z3 : (((s₁.heap.push { cls := .type "str_ascii_iterator", data := .fields #[.str y t, .int 0 0] }).push { cls := .type "list", data := .seq #[] }).push dictO).objs.size = s₁.heap.objs.size + 3 := by rw [Heap.size_push, z2]
  have gI := Heap.get?_push_of_some cellO <| Heap.get?_push_of_some dictO (Heap.get?_push_of_some { cls := .type "list", data := .seq #[] } (Heap.get?_push_size s₁.heap (o := { cls := .type "str_ascii_iterator", data := .fields #[.str y t, .int 0 0] }) rfl))
  have gD := Heap.get?_push_of_some cellO <| Heap.get?_push_of_some dictO (Heap.get?_push_size (s₁.heap.push { cls := .type "str_ascii_iterator", data := .fields #[.str y t, .int 0 0] }) (o := { cls := .type "list", data := .seq #[] }) rfl)
  have nC := (Heap.Ns.new ((s₁.heap.push { cls := .type "str_ascii_iterator", data := .fields #[.str y t, .int 0 0] }).push { cls := .type "list", data := .seq #[] }) (.type "dict")).keeps fun b o e => Heap.get?_push_of_some cellO e
  have gc := Heap.get?_push_size (((s₁.heap.push { cls := .type "str_ascii_iterator", data := .fields #[.str y t, .int 0 0] }).push { cls := .type "list", data := .seq #[] }).push dictO) (o := cellO) rfl
  rw [z1] at gD
  rw [z2] at nC
  rw [z3] at gc
  rw [z1, z2]
  try rw [z3]
  have up : ∀ b o, s₁.heap.get? b = some o → ((((s₁.heap.push { cls := .type "str_ascii_iterator", data := .fields #[.str y t, .int 0 0] }).push { cls := .type "list", data := .seq #[] }).push dictO).push cellO).get? b = some o := fun b o e =>
    Heap.get?_push_of_some _ <| Heap.get?_push_of_some _ (Heap.get?_push_of_some _ (Heap.get?_push_of_some _ e))
  have fresh₀ : ∀ a, s₁.heap.objs.size ≤ a → h₀.get? a = none := fun a ha => by
    cases e : h₀.get? a with
    | none => rfl
    | some o' => exact absurd (Heap.lt_size (F.keep a o' e)) (Nat.not_lt.mpr ha)
  have hLlt : L < s₁.heap.objs.size := F.ns.lt
  have old : ∀ p ∈ nx, p.1 < s₁.heap.objs.size := fun p hp => Heap.lt_size (N p hp).1
  obtain ⟨oC, heC, hoC⟩ := ns_obj nC
  change (((((s₁.heap.push { cls := .type "str_ascii_iterator", data := .fields #[.str y t, .int 0 0] }).push { cls := .type "list", data := .seq #[] }).push dictO).push cellO).get? (s₁.heap.objs.size + 2)) = some oC at heC
  have L0 : L ≠ s₁.heap.objs.size := Nat.ne_of_lt hLlt
  have L1 : L ≠ s₁.heap.objs.size + 1 := Nat.ne_of_lt (Nat.lt_succ_of_lt hLlt)
  have L2 : L ≠ s₁.heap.objs.size + 2 := Nat.ne_of_lt (Nat.lt_succ_of_lt (Nat.lt_succ_of_lt hLlt))
  have I1 : s₁.heap.objs.size ≠ s₁.heap.objs.size + 1 := Nat.ne_of_lt (Nat.lt_succ_self _)
  have I2 : s₁.heap.objs.size ≠ s₁.heap.objs.size + 2 := Nat.ne_of_lt (Nat.lt_succ_of_lt (Nat.lt_succ_self _))
  have D2 : s₁.heap.objs.size + 1 ≠ s₁.heap.objs.size + 2 := Nat.ne_of_lt (Nat.lt_succ_self _)
  have L3 : L ≠ s₁.heap.objs.size + 3 := Nat.ne_of_lt (Nat.lt_of_lt_of_le hLlt (Nat.le_add_right _ _))
  have I3 : s₁.heap.objs.size ≠ s₁.heap.objs.size + 3 := Nat.ne_of_lt (Nat.lt_add_of_pos_right (by decide))
  have D3 : s₁.heap.objs.size + 1 ≠ s₁.heap.objs.size + 3 := Nat.ne_of_lt (Nat.add_lt_add_left (by decide) _)
  have C3 : s₁.heap.objs.size + 2 ≠ s₁.heap.objs.size + 3 := Nat.ne_of_lt (Nat.add_lt_add_left (by decide) _)
  have oldne : ∀ p ∈ nx, ∀ k, p.1 ≠ s₁.heap.objs.size + k := fun p hp k => Nat.ne_of_lt (Nat.lt_of_lt_of_le (old p hp) (Nat.le_add_right _ _))
  have loop : codeAny (model prog w) A (.compLoop (.ListComp elt [⟨.Name x px, iter, [ct], 0⟩] scope pos) 0 (.ref s₁.heap.objs.size) (.ref (s₁.heap.objs.size + 1)) (compEnvC scope ((x, s₁.heap.objs.size + 3) :: cl) (s₁.heap.objs.size + 2) env))
      (compPost (model prog w) A E none Q (.ref (s₁.heap.objs.size + 1)) (s₁.heap.objs.size + 2)) { s₁ with heap := (((s₁.heap.push { cls := .type "str_ascii_iterator", data := .fields #[.str y t, .int 0 0] }).push { cls := .type "list", data := .seq #[] }).push dictO).push cellO } := by
    refine comp_loop (h₀ := h₀) (L := L) (m := m) (Walks.strAscii hh s₁.heap.objs.size y t) (fun own => ∃ oC m₂ oc v, own = [(s₁.heap.objs.size + 2, oC), (s₁.heap.objs.size + 3, oc)] ∧ NsObj oC m₂ ∧ oc.data = .cell v) (fun i ys nx' => J i ys ∧ nx' = nx) hsz
      (fun i h ⟨o, e, _⟩ => ⟨o, e⟩) (fun i k h h' o ys nx ⟨o', e, r⟩ e1 e2 _ _ => ⟨o, e2, by rw [e1] at e; cases e; exact r⟩) (Ne.symm L0) (fresh₀ _ (Nat.le_refl _)) (Ne.symm L1) (fresh₀ _ (Nat.le_succ _)) I1 ?_ ?_
      (own := [(s₁.heap.objs.size + 2, oC), (s₁.heap.objs.size + 3, cellO)]) (nx := nx) ⟨j, rfl⟩ ⟨oC, _, cellO, none, rfl, hoC, rfl⟩ ?_ (F.keeps up) ?_ ⟨_, gI, rfl, rfl⟩
    · rintro i ys v own nx' oI h tk E' hi ⟨j, rfl⟩ ⟨c, u, hc, rfl⟩ ⟨oC', m₂, oc', v', rfl, hN, hcd⟩ ap F' N' st
      refine wpAny_pure ?_
      have NC := (N' (s₁.heap.objs.size + 2, oC') (.tail _ (.tail _ (.head _))))
      have Nc := (N' (s₁.heap.objs.size + 3, oc') (.tail _ (.tail _ (.tail _ (.head _)))))
      refine wpAny_assign_Name (wpAny_storeName_cell hkind hx (c := s₁.heap.objs.size + 3) (by simp [compEnvC, List.lookup]) ⟨oc', Nc.1, hcd⟩ fun h₃ hc₃ hs₃ => ?_)
      refine wpAny_tests_one ?_
      obtain ⟨oc₃, hec₃, hcd₃⟩ := hc₃
      have apx : ∀ p ∈ nx', p.1 ≠ s₁.heap.objs.size ∧ p.1 ≠ s₁.heap.objs.size + 1 := fun p hp => ap p (List.mem_append.mpr (.inr hp))
      have N₃ : News h₀ L h₃ ((s₁.heap.objs.size, oI) :: (s₁.heap.objs.size + 2, oC') :: (s₁.heap.objs.size + 1, lst ys) :: (s₁.heap.objs.size + 3, oc₃) :: nx') := fun p hp => by
        rcases List.mem_cons.mp hp with rfl | hp
        · have z := N' _ (.head _)
          exact ⟨hs₃.extBut _ _ I3 z.1, z.2⟩
        · rcases List.mem_cons.mp hp with rfl | hp
          · exact ⟨hs₃.extBut _ _ C3 NC.1, NC.2⟩
          · rcases List.mem_cons.mp hp with rfl | hp
            · have z := N' _ (.tail _ (.head _))
              exact ⟨hs₃.extBut _ _ D3 z.1, z.2⟩
            · rcases List.mem_cons.mp hp with rfl | hp
              · exact ⟨hec₃, Nc.2⟩
              · have z := N' p (.tail _ (.tail _ (.tail _ (.tail _ hp))))
                exact ⟨hs₃.extBut _ _ (oldne p hp 3) z.1, z.2⟩
      have off : Off3 s₁.heap.objs.size (s₁.heap.objs.size + 2) (s₁.heap.objs.size + 1) ((s₁.heap.objs.size + 3, oc₃) :: nx') := ⟨⟨Ne.symm I3, Ne.symm C3, Ne.symm D3⟩, off_of apx fun p hp => oldne p hp 2⟩
      have back : ∀ ys' s₂ (nn : Prop), CompEnd h₀ L m { s₁ with heap := h₃, toks := tk } s₁.heap.objs.size oI (s₁.heap.objs.size + 2) oC' (s₁.heap.objs.size + 1) (lst ys) (fun nw => nw = (s₁.heap.objs.size + 3, oc₃) :: nx') (fun _ _ => J (i + 1) ys') Value.none s₂ →
          TurnOut h₀ L m s₁.heap.objs.size (s₁.heap.objs.size + 1) oI (fun own => ∃ oC m₂ oc v, own = [(s₁.heap.objs.size + 2, oC), (s₁.heap.objs.size + 3, oc)] ∧ NsObj oC m₂ ∧ oc.data = .cell v) (fun ys nx'' => J (i + 1) ys ∧ nx'' = nx') { s₁ with heap := h, toks := tk } ys ys' s₂ := by
        rintro ys' s₂ _ ⟨h', tk', nw, rfl, F₄, N₄, off₄, rfl, j₄⟩
        refine ⟨h', tk', [(s₁.heap.objs.size + 2, oC'), (s₁.heap.objs.size + 3, oc₃)], nx', rfl, ⟨_, _, _, _, rfl, hN, hcd₃⟩, fun p hp => ?_, F₄, fun p hp => N₄ p ?_, j₄, rfl⟩
        · rcases List.mem_cons.mp hp with rfl | hp
          · exact ⟨Ne.symm I2, Ne.symm D2⟩
          · rcases List.mem_cons.mp hp with rfl | hp
            · exact ⟨Ne.symm I3, Ne.symm D3⟩
            · exact apx p hp
        · rcases List.mem_cons.mp hp with rfl | hp
          · exact .head _
          · rcases List.mem_cons.mp hp with rfl | hp
            · exact .tail _ (.tail _ (.head _))
            · rcases List.mem_cons.mp hp with rfl | hp
              · exact .tail _ (.head _)
              · exact .tail _ (.tail _ (.tail _ hp))
      refine wpAny_mono (turn i ys c u _ oI _ oC' _ oc₃ _ h₃ _ _ hc j hcd₃ (F'.change hs₃ (Ne.symm L3) Nc.2.2) N₃ off ⟨I2, I1, Ne.symm D2⟩) (fun ok s₂ q => ?_) fun _ _ e => e
      cases ok with
      | true =>
        simp only [if_true] at q ⊢
        exact wpAny_mono q (fun r s₃ q => back _ _ True (by obtain ⟨a, b, c, d⟩ := q; exact ⟨a, b, c, d⟩)) fun _ _ e => e
      | false =>
        simp only [Bool.false_eq_true, if_false] at q ⊢
        exact back _ _ True q
    · rintro ys own nx' h tk ⟨j, rfl⟩ ⟨oC', m₂, oc', v', rfl, hN, _⟩ ap F' N'
      have NC := (N' (s₁.heap.objs.size + 2, oC') (.tail _ (.head _)))
      refine ⟨m₂, hN.ns NC.1, fun h'' hs'' => fin _ ys h'' tk j (F'.change hs'' (Ne.symm L2) NC.2.2) (fun p hp => ?_) (fun p hp => (ap p (List.mem_append.mpr (.inr hp))).2)⟩
      rcases List.mem_cons.mp hp with rfl | hp
      · have z := N' _ (.head _)
        exact ⟨hs''.extBut _ _ D2 z.1, z.2⟩
      · have z := N' p (.tail _ (.tail _ (.tail _ hp)))
        exact ⟨hs''.extBut _ _ (oldne p hp 2) z.1, z.2⟩
    · intro p hp
      rcases List.mem_cons.mp hp with rfl | hp
      · exact ⟨Ne.symm I2, Ne.symm D2⟩
      · rcases List.mem_cons.mp hp with rfl | hp
        · exact ⟨Ne.symm I3, Ne.symm D3⟩
        · exact ⟨oldne p hp 0, oldne p hp 1⟩
    · intro p hp
      rcases List.mem_cons.mp hp with rfl | hp
      · exact ⟨gD, Ne.symm L1, fresh₀ _ (Nat.le_succ _)⟩
      · rcases List.mem_cons.mp hp with rfl | hp
        · exact ⟨heC, Ne.symm L2, fresh₀ _ (Nat.le_add_right _ 2)⟩
        · rcases List.mem_cons.mp hp with rfl | hp
          · exact ⟨gc, Ne.symm L3, fresh₀ _ (Nat.le_add_right _ 3)⟩
          · exact ⟨up _ _ (N p hp).1, (N p hp).2⟩
  exact codeAny_compStart_list loop ((Walks.strAscii hh s₁.heap.objs.size y t).self 0 _ _ _ ⟨_, gI, rfl, rfl⟩ loop)
end
section
variable {prog : Program} {w : World} {A : Around} {E : Value → Shared → Prop} {s : Shared} {h₀ : Heap} {L : Addr} {m : Str → Option Value} {env : Env}
theorem letgo_tup {elts : List Expr} {x1} {pos : Pos} {I l T : Addr} {i : Nat} {Q : Unit → Shared → Prop} (hit : s.heap.IsTupleIter I l i) (hQ : Q () s) :
    wpAny (model prog w) A (letOwnedTupleGo (.Tuple elts x1 pos) (.ref I) (.ref T)) Q E s := by
  obtain ⟨o, ho, hc, hd⟩ := hit
  unfold letOwnedTupleGo
  refine wpAny_bind (wpAny_load ho ?_)
  rw [hc, hd]
  dsimp only
  rw [if_neg (by
    rw [show (["enumerate", "zip", "dict_itemiterator", "dict_reverseitemiterator", "odict_iterator", "itertools.zip_longest", "itertools.pairwise"].contains "tuple_iterator") = false from by decide, Bool.false_and]
    decide)]
  exact wpAny_pure hQ
/-- a comprehension over a tuple of one pair, with a test -/
theorem ListComp_TP {ct elt iter : Expr} {x x₂ : Str} {px px₂ tp : Pos} {tk} {scope : Scope} {cl : List (Str × Addr)} {pos : Pos} {Q : Value → Shared → Prop} (J : List Value → Prop) (F₀ : Fr h₀ L s.heap m)
    (hclos : closureFor scope env = pure cl) (hcell : ∀ y ∈ scope.names, y.2 ≠ .cell) (hkind : scope.kind = .function)
    (hnames : ∀ y ∈ scope.names, y.2 = .local → scope.names.lookup y.1 = some .local) (hx : scope.names.lookup x = some .local) (hx₂ : scope.names.lookup x₂ = some .local) (hxx : x ≠ x₂) (hh : A.handled = none)
    (h : wpAny (model prog w) A (eval iter env) (fun xv s₁ => ∃ ax p a b na np nx, xv = .ref ax ∧ (ax, tupO #[.ref p] na) ∈ nx ∧ (p, tupO #[a, b] np) ∈ nx ∧ Fr h₀ L s₁.heap m ∧ News h₀ L s₁.heap nx ∧
      (∀ I oI C oC D m₂ h tk (E' : Value → Shared → Prop), NsObj oC m₂ → m₂ x = some a → m₂ x₂ = some b → Fr h₀ L h m → News h₀ L h ((I, oI) :: (C, oC) :: (D, lst []) :: nx) → Off3 I C D nx → ((@Ne Nat I C) ∧ (@Ne Nat I D) ∧ (@Ne Nat C D)) →
        wpAny (model prog w) A (isTrue ct (compEnvC scope cl C env) (eval ct (compEnvC scope cl C env))) (fun ok s' => if ok = true then
          wpAny (model prog w) A (eval elt (compEnvC scope cl C env)) (CompEnd h₀ L m { s₁ with heap := h, toks := tk } I oI C oC D (lst []) (fun nw => nw = nx) (fun r _ => J [r])) E' s'
          else CompEnd h₀ L m { s₁ with heap := h, toks := tk } I oI C oC D (lst []) (fun nw => nw = nx) (fun _ _ => J []) Value.none s') E' { s₁ with heap := h, toks := tk }) ∧
      (∀ D ys h tk, J ys → Fr h₀ L h m → News h₀ L h ((D, lst ys) :: nx) → (∀ p ∈ nx, p.1 ≠ D) → Q (.ref D) { s₁ with heap := h, toks := tk })) E s)
    (hs : ∀ x, foldedSetIterable iter env x = pure x := by intro _; rfl) :
    wpAny (model prog w) A (eval (.ListComp elt [⟨.Tuple [.Name x px, .Name x₂ px₂] tk tp, iter, [ct], 0⟩] scope pos) env) Q E s := by
  rw [eval_ListComp]
  refine wpAny_comprehension_free (use := none) rfl hs hclos hkind hnames (wpAny_mono h (fun xv s₁ h₁ => ?_) fun _ _ e => e)
  obtain ⟨ax, p, a, b, na, np, nx, rfl, hax, hp, F, N, turn, fin⟩ := h₁
  refine wpAny_pyIter_tuple ⟨_, (N _ hax).1, rfl, _, rfl⟩ ?_
  refine wpAny_newObj_type ?_
  refine newEnv_gen ?_
  dsimp only
  rw [pushCells_no _ _ hcell, cellsFrom_no _ _ _ hcell]
  have z1 : (s₁.heap.push { cls := .type "tuple_iterator", data := .fields #[.ref ax, .int 0 0] }).objs.size = s₁.heap.objs.size + 1 := Heap.size_push ..
  have z2 : ((s₁.heap.push { cls := .type "tuple_iterator", data := .fields #[.ref ax, .int 0 0] }).push { cls := .type "list", data := .seq #[] }).objs.size = s₁.heap.objs.size + 2 := by rw [Heap.size_push, z1]
  have gI := Heap.get?_push_of_some dictO (Heap.get?_push_of_some { cls := .type "list", data := .seq #[] } (Heap.get?_push_size s₁.heap (o := { cls := .type "tuple_iterator", data := .fields #[.ref ax, .int 0 0] }) rfl))
  have gD := Heap.get?_push_of_some dictO (Heap.get?_push_size (s₁.heap.push { cls := .type "tuple_iterator", data := .fields #[.ref ax, .int 0 0] }) (o := { cls := .type "list", data := .seq #[] }) rfl)
  have nC := (Heap.Ns.new ((s₁.heap.push { cls := .type "tuple_iterator", data := .fields #[.ref ax, .int 0 0] }).push { cls := .type "list", data := .seq #[] }) (.type "dict"))
  rw [z1] at gD
  rw [z2] at nC
  rw [z1, z2]
  have up : ∀ b o, s₁.heap.get? b = some o → (((s₁.heap.push { cls := .type "tuple_iterator", data := .fields #[.ref ax, .int 0 0] }).push { cls := .type "list", data := .seq #[] }).push dictO).get? b = some o := fun b o e =>
    Heap.get?_push_of_some _ (Heap.get?_push_of_some _ (Heap.get?_push_of_some _ e))
  have fresh₀ : ∀ a, s₁.heap.objs.size ≤ a → h₀.get? a = none := fun a ha => by
    cases e : h₀.get? a with
    | none => rfl
    | some o' => exact absurd (Heap.lt_size (F.keep a o' e)) (Nat.not_lt.mpr ha)
  have hLlt : L < s₁.heap.objs.size := F.ns.lt
  have old : ∀ p ∈ nx, p.1 < s₁.heap.objs.size := fun p hp => Heap.lt_size (N p hp).1
  obtain ⟨oC, heC, hoC⟩ := ns_obj nC
  change ((((s₁.heap.push { cls := .type "tuple_iterator", data := .fields #[.ref ax, .int 0 0] }).push { cls := .type "list", data := .seq #[] }).push dictO).get? (s₁.heap.objs.size + 2)) = some oC at heC
  have L0 : L ≠ s₁.heap.objs.size := Nat.ne_of_lt hLlt
  have L1 : L ≠ s₁.heap.objs.size + 1 := Nat.ne_of_lt (Nat.lt_succ_of_lt hLlt)
  have L2 : L ≠ s₁.heap.objs.size + 2 := Nat.ne_of_lt (Nat.lt_succ_of_lt (Nat.lt_succ_of_lt hLlt))
  have I1 : s₁.heap.objs.size ≠ s₁.heap.objs.size + 1 := Nat.ne_of_lt (Nat.lt_succ_self _)
  have I2 : s₁.heap.objs.size ≠ s₁.heap.objs.size + 2 := Nat.ne_of_lt (Nat.lt_succ_of_lt (Nat.lt_succ_self _))
  have D2 : s₁.heap.objs.size + 1 ≠ s₁.heap.objs.size + 2 := Nat.ne_of_lt (Nat.lt_succ_self _)
  have oldne : ∀ p ∈ nx, ∀ k, p.1 ≠ s₁.heap.objs.size + k := fun p hp k => Nat.ne_of_lt (Nat.lt_of_lt_of_le (old p hp) (Nat.le_add_right _ _))
  have W := Walks.tuple (prog := prog) (w := w) hh s₁.heap.objs.size ax (Nat.ne_of_lt (old _ hax)) #[.ref p]
  have loop : codeAny (model prog w) A (.compLoop (.ListComp elt [⟨.Tuple [.Name x px, .Name x₂ px₂] tk tp, iter, [ct], 0⟩] scope pos) 0 (.ref s₁.heap.objs.size) (.ref (s₁.heap.objs.size + 1)) (compEnvC scope cl (s₁.heap.objs.size + 2) env))
      (compPost (model prog w) A E none Q (.ref (s₁.heap.objs.size + 1)) (s₁.heap.objs.size + 2)) { s₁ with heap := ((s₁.heap.push { cls := .type "tuple_iterator", data := .fields #[.ref ax, .int 0 0] }).push { cls := .type "list", data := .seq #[] }).push dictO } := by
    refine comp_loop (h₀ := h₀) (L := L) (m := m) W (fun own => ∃ oC m₂, own = [(s₁.heap.objs.size + 2, oC)] ∧ NsObj oC m₂) (fun i ys nx' => ((i = 0 ∧ ys = []) ∨ (i = 1 ∧ J ys)) ∧ nx' = nx) (by rw [sizeLine_eq]; exact Nat.le_of_ble_eq_true rfl)
      (fun i h ⟨⟨o, e, _⟩, _⟩ => ⟨o, e⟩) (fun i k h h' o ys nx' ⟨⟨o', e, r⟩, _⟩ e1 e2 N' ⟨_, e3⟩ => ⟨⟨o, e2, by rw [e1] at e; cases e; exact r⟩, ⟨_, (N' _ (e3 ▸ hax)).1, rfl, _, rfl⟩⟩) (Ne.symm L0) (fresh₀ _ (Nat.le_refl _)) (Ne.symm L1) (fresh₀ _ (Nat.le_succ _)) I1 ?_ ?_
      (own := [(s₁.heap.objs.size + 2, oC)]) (nx := nx) ⟨.inl ⟨rfl, rfl⟩, rfl⟩ ⟨oC, _, rfl, hoC⟩ ?_ (F.keeps up) ?_ ⟨⟨_, gI, rfl, rfl⟩, ⟨_, up _ _ (N _ hax).1, rfl, _, rfl⟩⟩
    · rintro i ys v own nx' oI h tk E' hi ⟨j, rfl⟩ hP ⟨oC', m₂, rfl, hN⟩ ap F' N' st
      have hi0 : i = 0 := Nat.lt_one_iff.mp hi
      subst hi0
      obtain rfl : ys = [] := j.elim And.right fun q => absurd q.1 (by decide)
      obtain rfl : v = .ref p := by simpa using hP.symm
      have NC := (N' (s₁.heap.objs.size + 2, oC') (.tail _ (.tail _ (.head _))))
      have NX : ∀ q ∈ nx', (h.get? q.1 = some q.2 ∧ q.1 ≠ L ∧ h₀.get? q.1 = none) := fun q hq => N' q (.tail _ (.tail _ (.tail _ hq)))
      refine letgo_tup st.1 ?_
      refine assign_Tuple_tuple hh ⟨_, (NX _ hp).1, rfl, _, rfl⟩ rfl rfl fun h₅ he => ?_
      have he' : ∀ b o, h.get? b = some o → h₅.get? b = some o := fun b o e => he b o (Nat.ne_of_lt (Heap.lt_size e)) e
      refine assignInOrder_cons (wpAny_assign_Name (wpAny_storeName_local (lookup_relabel_local hx) ((hN.ns NC.1).keeps he') (fun h₆ hn₆ hs₆ => ?_) (by simp [compEnvC, relabel, hkind])))
      refine assignInOrder_cons (wpAny_assign_Name (wpAny_storeName_local (lookup_relabel_local hx₂) hn₆ (fun h₃ hn₃ hs₃ => ?_) (by simp [compEnvC, relabel, hkind])))
      refine assignInOrder_nil ?_
      refine wpAny_tests_one ?_
      obtain ⟨oC₃, heC₃, hoC₃⟩ := ns_obj hn₃
      have old3 : ∀ b o, b ≠ s₁.heap.objs.size + 2 → h.get? b = some o → h₃.get? b = some o := fun b o hb e => hs₃.extBut b o hb (hs₆.extBut b o hb (he' b o e))
      have apx : ∀ p ∈ nx', p.1 ≠ s₁.heap.objs.size ∧ p.1 ≠ s₁.heap.objs.size + 1 := fun p hp => ap p (List.mem_append.mpr (.inr hp))
      have N₃ : News h₀ L h₃ ((s₁.heap.objs.size, oI) :: (s₁.heap.objs.size + 2, oC₃) :: (s₁.heap.objs.size + 1, lst []) :: nx') := fun q hq => by
        rcases List.mem_cons.mp hq with rfl | hq
        · have z := N' _ (.head _)
          exact ⟨old3 _ _ I2 z.1, z.2⟩
        · rcases List.mem_cons.mp hq with rfl | hq
          · exact ⟨heC₃, NC.2⟩
          · rcases List.mem_cons.mp hq with rfl | hq
            · have z := N' _ (.tail _ (.head _))
              exact ⟨old3 _ _ D2 z.1, z.2⟩
            · exact ⟨old3 _ _ (oldne q hq 2) (NX q hq).1, (NX q hq).2⟩
      have off : Off3 s₁.heap.objs.size (s₁.heap.objs.size + 2) (s₁.heap.objs.size + 1) nx' := off_of apx fun p hp => oldne p hp 2
      have F₃ : Fr h₀ L h₃ m := ((F'.keeps he').change hs₆ (Ne.symm L2) NC.2.2).change hs₃ (Ne.symm L2) NC.2.2
      have back : ∀ ys' s₂, CompEnd h₀ L m { s₁ with heap := h₃, toks := tk + 1 + 1 } s₁.heap.objs.size oI (s₁.heap.objs.size + 2) oC₃ (s₁.heap.objs.size + 1) (lst []) (fun nw => nw = nx') (fun _ _ => J ys') Value.none s₂ →
          TurnOut h₀ L m s₁.heap.objs.size (s₁.heap.objs.size + 1) oI (fun own => ∃ oC m₂, own = [(s₁.heap.objs.size + 2, oC)] ∧ NsObj oC m₂) (fun ys nx'' => ((0 + 1 = 0 ∧ ys = []) ∨ (0 + 1 = 1 ∧ J ys)) ∧ nx'' = nx') { s₁ with heap := h, toks := tk } [] ys' s₂ := by
        rintro ys' s₂ ⟨h', tk', nw, rfl, F₄, N₄, off₄, rfl, j₄⟩
        refine ⟨h', tk', [(s₁.heap.objs.size + 2, oC₃)], nw, rfl, ⟨_, _, rfl, hoC₃⟩, fun p hp => ?_, F₄, fun p hp => N₄ p ?_, .inr ⟨rfl, j₄⟩, rfl⟩
        · rcases List.mem_cons.mp hp with rfl | hp
          · exact ⟨Ne.symm I2, Ne.symm D2⟩
          · exact apx p hp
        · rcases List.mem_cons.mp hp with rfl | hp
          · exact .head _
          · rcases List.mem_cons.mp hp with rfl | hp
            · exact .tail _ (.tail _ (.head _))
            · rcases List.mem_cons.mp hp with rfl | hp
              · exact .tail _ (.head _)
              · exact .tail _ (.tail _ (.tail _ hp))
      refine wpAny_mono (turn _ oI _ oC₃ _ _ h₃ _ _ hoC₃ (by simp [hxx]) (by simp) F₃ N₃ off ⟨I2, I1, Ne.symm D2⟩) (fun ok s₂ q => ?_) fun _ _ e => e
      cases ok with
      | true =>
        rw [if_pos rfl] at q ⊢
        exact wpAny_mono q (fun r s₃ q => back _ _ (by obtain ⟨a, b, c, d⟩ := q; exact ⟨a, b, c, d⟩)) fun _ _ e => e
      | false =>
        rw [if_neg (by decide)] at q ⊢
        exact back _ _ q
    · rintro ys own nx' h tk ⟨j, rfl⟩ ⟨oC', m₂, rfl, hN⟩ ap F' N'
      have NC := (N' (s₁.heap.objs.size + 2, oC') (.tail _ (.head _)))
      have j1 : J ys := j.elim (fun q => absurd q.1 (by simp)) And.right
      refine ⟨m₂, hN.ns NC.1, fun h'' hs'' => fin _ ys h'' tk j1 (F'.change hs'' (Ne.symm L2) NC.2.2) (fun p hp => ?_) (fun p hp => (ap p (List.mem_append.mpr (.inr hp))).2)⟩
      rcases List.mem_cons.mp hp with rfl | hp
      · have z := N' _ (.head _)
        exact ⟨hs''.extBut _ _ D2 z.1, z.2⟩
      · have z := N' p (.tail _ (.tail _ hp))
        exact ⟨hs''.extBut _ _ (oldne p hp 2) z.1, z.2⟩
    · intro p hp
      rcases List.mem_cons.mp hp with rfl | hp
      · exact ⟨Ne.symm I2, Ne.symm D2⟩
      · exact ⟨oldne p hp 0, oldne p hp 1⟩
    · intro p hp
      rcases List.mem_cons.mp hp with rfl | hp
      · exact ⟨gD, Ne.symm L1, fresh₀ _ (Nat.le_succ _)⟩
      · rcases List.mem_cons.mp hp with rfl | hp
        · exact ⟨heC, Ne.symm L2, fresh₀ _ (Nat.le_add_right _ 2)⟩
        · exact ⟨up _ _ (N p hp).1, (N p hp).2⟩
  exact codeAny_compStart_list loop (W.self 0 _ _ _ ⟨⟨_, gI, rfl, rfl⟩, ⟨_, up _ _ (N _ hax).1, rfl, _, rfl⟩⟩ loop)
end
section
variable {prog : Program} {w : World} {A : Around} {E : Value → Shared → Prop} {s : Shared} {env : Env} {h₀ : Heap} {x : Str} {body : List Stmt} {Q : Flow → Shared → Prop}
theorem iter_rng {r : Addr} {n : Nat} {t u v₀ : Tok} {m₀ : Str → Option Value} {news : Led} (J : Nat → (Str → Option Value) → Led → Prop)
    (hh : A.handled = none) (hr : IsRange s.heap r 0 (n : Int) 1 t u v₀) (hn : n ≤ 1000) (F : Fr h₀ env.locals s.heap m₀) (N : News h₀ env.locals s.heap news) (hj : J 0 m₀ news)
    (turn : ∀ i v m₁ nx I oI h tk, i < n → J i m₁ nx → (∀ q ∈ nx, q.1 ≠ I) → oI.cls ≠ .type "list" → Fr h₀ env.locals h (fun y => if y = x then some v else m₁ y) → News h₀ env.locals h ((I, oI) :: nx) →
      wpAny (model prog w) A (execs body env) (TurnEnd h₀ env.locals I oI (J (i + 1)) { s with heap := h, toks := tk } Q) E { s with heap := h, toks := tk })
    (done : ∀ m₁ nx h tk, J n m₁ nx → Fr h₀ env.locals h m₁ → News h₀ env.locals h nx → Q .next { s with heap := h, toks := tk }) :
    wpAny (model prog w) A (pyIter (.ref r)) (fun it s₂ => LoopAtV prog w A h₀ env x body Q E it s₂) E s := by
  refine wpAny_pyIter_range hr (small_one (by omega) (by omega) (by omega) (by omega)) ?_
  have W := range_walks (prog := prog) (w := w) (I := s.heap.objs.size) hh 0 n
  have hrs : Builtin.Range.rangeSize 0 (n : Int) 1 = (n : Int) := rangeSize_nat _ _
  refine ⟨_, _, _, n, _, _, m₀, news, J, rfl, W, ?_, ?_, ?_, ?_, F.push _, (fun p hp => ⟨Heap.get?_push_of_some _ (N p hp).1, (N p hp).2⟩), hj, ?_, ?_⟩
  · intro hm
    exact absurd F.ns.lt ((List.mem_singleton.mp hm) ▸ Nat.lt_irrefl _)
  · intro b hb
    rw [List.mem_singleton.mp hb]
    exact next_is_new F
  · intro p hp hI
    exact absurd (Heap.lt_size (N p hp).1) ((List.mem_singleton.mp hI) ▸ Nat.lt_irrefl _)
  · show IsRangeIter _ _ _ _ _
    rw [hrs]; simpa using Heap.get?_push_size _ rfl
  · rintro i v m₁ nx s₁ own ⟨hh', tk', rfl⟩ hin hP hJ hoff hown hat hall hst F₁ N₁
    have hIn : h₀.get? s.heap.objs.size = none := next_is_new F
    obtain ⟨oI, heI, hcI⟩ : ∃ oI, hh'.get? s.heap.objs.size = some oI ∧ oI.cls ≠ .type "list" := ⟨_, hst, fun q => absurd (Value.type.inj q) (by decide)⟩
    have hI : (s.heap.objs.size, oI) ∈ own := hall _ (List.mem_singleton.mpr rfl) hIn oI heI
    have hoff' : ∀ q ∈ nx, q.1 ≠ s.heap.objs.size := fun q hq e => hoff q hq (e ▸ List.mem_singleton.mpr rfl)
    have N₂ : News h₀ env.locals hh' ((s.heap.objs.size, oI) :: nx) := fun p hp => N₁ p ((List.mem_cons.mp hp).elim (fun h => List.mem_append.mpr (.inl (h ▸ hI))) fun h => List.mem_append.mpr (.inr h))
    refine wpAny_mono (turn i v m₁ nx _ oI hh' tk' hin hJ hoff' hcI F₁ N₂) (fun f s₂ p => ?_) fun _ _ e => e
    have fin : (∃ h' tk m' nx', s₂ = { ({ s with heap := hh', toks := tk' } : Shared) with heap := h', toks := tk } ∧ Fr h₀ env.locals h' m' ∧ News h₀ env.locals h' ((s.heap.objs.size, oI) :: nx') ∧ (∀ q ∈ nx', q.1 ≠ s.heap.objs.size) ∧ J (i + 1) m' nx') →
        LoopStepU h₀ env.locals [s.heap.objs.size] own (J (i + 1)) { s with heap := hh', toks := tk' } .next s₂ := by
      rintro ⟨h', tk, m', nx', e, F', N', ho', hJ'⟩
      refine ⟨rfl, h', tk, m', nx', e, F', fun p hp => ?_, fun p hp hq => ho' p hp (List.mem_singleton.mp hq), hJ'⟩
      rcases List.mem_append.mp hp with hp | hp
      · have ha := hat p hp
        have e1 := List.mem_singleton.mp (hown p hp)
        have : p = (s.heap.objs.size, oI) := by
          refine Prod.ext e1 ?_
          have ha' : hh'.get? p.1 = some p.2 := ha
          rw [e1, heI] at ha'
          exact (Option.some.inj ha').symm
        exact N' p (this ▸ List.mem_cons_self)
      · exact N' p (List.mem_cons_of_mem _ hp)
    cases f with
    | ret v => exact .ret p
    | brk => exact .brk p
    | next => exact .next (fin p)
    | cont => exact .cont (fin p)
  · rintro h' tk m' nx F' N' _ hJ
    exact done m' nx h' tk hJ F' N'
end
theorem mem_skip {q : Addr × Obj} {I : Addr} {oI : Obj} {nx tl : Led} (h : q ∈ (I, oI) :: nx ++ tl) (hc : q.2.cls = .type "list") (hI : oI.cls ≠ .type "list") : q ∈ nx ++ tl := by
  rcases List.mem_cons.mp h with rfl | h
  · exact absurd hc hI
  · exact h
/-! ## lists of texts and told trees as data -/
theorem rising_le : ∀ (p : Str) (ss : List Str), risingS p ss = true → ∀ x ∈ ss, p.cps.toList ≤ x.cps.toList
  | _, [], _, x, hx => nomatch hx
  | p, y :: r, h, x, hx => by
    have h' : (!ltCps y.cps.toList p.cps.toList && risingS y r) = true := h
    rw [Bool.and_eq_true, ltCps_eq] at h'
    have h1 : p.cps.toList ≤ y.cps.toList := List.not_lt.mp (by simpa using h'.1)
    rcases List.mem_cons.mp hx with rfl | hx
    · exact h1
    · exact List.le_trans h1 (rising_le y r h'.2 x hx)
theorem rising_pw : ∀ (p : Str) (ss : List Str), risingS p ss = true → (p :: ss).Pairwise fun a b => a.cps.toList ≤ b.cps.toList
  | p, [], _ => List.pairwise_singleton _ p
  | p, y :: r, h => by
    have h' : (!ltCps y.cps.toList p.cps.toList && risingS y r) = true := h
    rw [Bool.and_eq_true] at h'
    exact List.pairwise_cons.mpr ⟨fun x hx => rising_le p (y :: r) h x hx, rising_pw y r h'.2⟩
theorem sorted_pw : ∀ (ss : List Str), sortedS ss = true → ss.Pairwise fun a b => a.cps.toList ≤ b.cps.toList
  | [], _ => List.Pairwise.nil
  | p :: r, h => rising_pw p r h
theorem sorted_uniq {xs ys : List Str} (hx : sortedS xs = true) (hy : sortedS ys = true) (h : xs.Perm ys) : xs = ys :=
  List.Perm.eq_of_pairwise (fun _ _ _ _ a b => Str.ext' (Array.toList_inj.mp (List.le_antisymm a b))) (sorted_pw xs hx) (sorted_pw ys hy) h
theorem eqv_strs : ∀ ss : List Str, PyData.eqvAll (ss.map PyData.str) (ss.map PyData.str) = true
  | [] => by simp [PyData.eqvAll]
  | x :: r => by simp [PyData.eqvAll, PyData.eqv, eqv_strs r]
theorem eqv_nil : ∀ ss : List Str, PyData.eqvAll (ss.map PyData.str) [] = decide (ss = [])
  | [] => by simp [PyData.eqvAll]
  | x :: r => by simp [PyData.eqvAll]
theorem strOk_ab {x : Str} (h : ab x) : PyData.strOk x = true := by
  unfold PyData.strOk
  rw [← Array.all_toList, List.all_eq_true]
  intro c hc
  rcases h c hc with rfl | rfl <;> decide
theorem shaped_strs {ss : List Str} (h : ∀ x ∈ ss, ab x) : SeqAt.shaped (.list (ss.map PyData.str)) = true := by
  have h1 : PyData.canLayAll0 (ss.map PyData.str) = true := by
    rw [canLayAll_strs', List.all_eq_true]
    exact fun x hx => strOk_ab (h x hx)
  have h2 : PyData.depthAll (ss.map PyData.str) = 0 := depthAll_strs' ss
  simp [SeqAt.shaped, PyData.canLay0, PyData.depth, h1, h2]
theorem W_abs {t : Rx} {ws : List Str} (h : W (L t) ws) : ∀ x ∈ ws, ab x := fun x hx => ab_L t x ((h.2 x).mp hx).1
/-- what a told tree says -/
noncomputable def spD : Lf → PyData
  | .a => .tuple [.tuple [.int 97, .int 97]]
  | .b => .tuple [.tuple [.int 98, .int 98]]
  | .ab => .tuple [.tuple [.int 97, .int 98]]
noncomputable def rxD : Rx → PyData
  | .chr s => .tuple [.str (Str.ofString "chars"), spD s]
  | .empty => .tuple [.str (Str.ofString "empty")]
  | .never => .tuple [.str (Str.ofString "never")]
  | .cat l r => .tuple [.str (Str.ofString "cat"), rxD l, rxD r]
  | .alt l r => .tuple [.str (Str.ofString "alt"), rxD l, rxD r]
  | .star b => .tuple [.str (Str.ofString "star"), rxD b]
  | .plus b => .tuple [.str (Str.ofString "plus"), rxD b]
  | .opt b => .tuple [.str (Str.ofString "opt"), rxD b]
  | .rep b low (some high) => .tuple [.str (Str.ofString "repeat"), rxD b, .int low, .int high]
  | .rep b low none => .tuple [.str (Str.ofString "repeat"), rxD b, .int low, .none]
theorem SpIn.reads {nw : Led} {v s h₀ L h} (R : SpIn nw v s) (N : News h₀ L h nw) : ∃ as, Reads h v (spD s) as := by
  cases R with
  | a h1 h2 => exact ⟨_, .tuple (N _ h1).1 rfl rfl (.cons (.tuple (N _ h2).1 rfl rfl (.cons (.int _ _) (.cons (.int _ _) .nil))) .nil)⟩
  | b h1 h2 => exact ⟨_, .tuple (N _ h1).1 rfl rfl (.cons (.tuple (N _ h2).1 rfl rfl (.cons (.int _ _) (.cons (.int _ _) .nil))) .nil)⟩
  | ab h1 h2 => exact ⟨_, .tuple (N _ h1).1 rfl rfl (.cons (.tuple (N _ h2).1 rfl rfl (.cons (.int _ _) (.cons (.int _ _) .nil))) .nil)⟩
theorem CIn.reads {nw : Led} {v t h₀ L h} (R : CIn nw v t) (N : News h₀ L h nw) : ∃ as, Reads h v (rxD t) as := by
  induction R with
  | chars h1 S => obtain ⟨_, r⟩ := S.reads N; exact ⟨_, .tuple (N _ h1).1 rfl rfl (.cons (.str _ _) (.cons r .nil))⟩
  | empty h1 => exact ⟨_, .tuple (N _ h1).1 rfl rfl (.cons (.str _ _) .nil)⟩
  | never h1 => exact ⟨_, .tuple (N _ h1).1 rfl rfl (.cons (.str _ _) .nil)⟩
  | cat h1 _ _ i j => obtain ⟨_, i⟩ := i; obtain ⟨_, j⟩ := j; exact ⟨_, .tuple (N _ h1).1 rfl rfl (.cons (.str _ _) (.cons i (.cons j .nil)))⟩
  | alt h1 _ _ i j => obtain ⟨_, i⟩ := i; obtain ⟨_, j⟩ := j; exact ⟨_, .tuple (N _ h1).1 rfl rfl (.cons (.str _ _) (.cons i (.cons j .nil)))⟩
  | star h1 _ i => obtain ⟨_, i⟩ := i; exact ⟨_, .tuple (N _ h1).1 rfl rfl (.cons (.str _ _) (.cons i .nil))⟩
  | plus h1 _ i => obtain ⟨_, i⟩ := i; exact ⟨_, .tuple (N _ h1).1 rfl rfl (.cons (.str _ _) (.cons i .nil))⟩
  | opt h1 _ i => obtain ⟨_, i⟩ := i; exact ⟨_, .tuple (N _ h1).1 rfl rfl (.cons (.str _ _) (.cons i .nil))⟩
  | rep h1 _ i => obtain ⟨_, i⟩ := i; exact ⟨_, .tuple (N _ h1).1 rfl rfl (.cons (.str _ _) (.cons i (.cons (.int _ _) (.cons (.int _ _) .nil))))⟩
  | repN h1 _ i => obtain ⟨_, i⟩ := i; exact ⟨_, .tuple (N _ h1).1 rfl rfl (.cons (.str _ _) (.cons i (.cons (.int _ _) (.cons .none .nil))))⟩
theorem spD_can (s : Lf) : (spD s).canLay0 = true ∧ (spD s).depth = 2 ∧ PyData.eqv (spD s) (spD s) = true := by
  cases s <;> exact ⟨rfl, rfl, rfl⟩
/-- what is asked of a datum before it is compared -/
def GoodD (d : PyData) (n : Nat) : Prop := d.canLay0 = true ∧ d.depth ≤ n ∧ PyData.eqv d d = true
def GoodDs (ds : List PyData) (n : Nat) : Prop := PyData.canLayAll0 ds = true ∧ PyData.depthAll ds ≤ n ∧ PyData.eqvAll ds ds = true
theorem GoodDs.nil {n : Nat} : GoodDs [] n := ⟨rfl, by simp [PyData.depthAll], by simp [PyData.eqvAll]⟩
theorem GoodDs.cons {d : PyData} {ds : List PyData} {n : Nat} (h : GoodD d n) (k : GoodDs ds n) : GoodDs (d :: ds) n :=
  ⟨by simp only [PyData.canLayAll0, h.1, k.1, Bool.and_self], by simp only [PyData.depthAll]; exact Nat.max_le.mpr ⟨h.2.1, k.2.1⟩, by simp only [PyData.eqvAll, h.2.2, k.2.2, Bool.and_self]⟩
theorem GoodD.tup {ds : List PyData} {n : Nat} (k : GoodDs ds n) : GoodD (.tuple ds) (n + 1) :=
  ⟨by simp only [PyData.canLay0, k.1], by simp only [PyData.depth]; exact Nat.succ_le_succ k.2.1, by simp only [PyData.eqv, k.2.2]⟩
theorem GoodD.mono {d : PyData} {n m : Nat} (h : GoodD d n) (e : n ≤ m) : GoodD d m := ⟨h.1, Nat.le_trans h.2.1 e, h.2.2⟩
theorem GoodD.str {s : Str} {n : Nat} (h : PyData.strOk s = true) : GoodD (.str s) n := ⟨by simp only [PyData.canLay0, h], by simp [PyData.depth], by simp [PyData.eqv]⟩
theorem GoodD.int {i : Int} {n : Nat} : GoodD (.int i) n := ⟨by simp [PyData.canLay0], by simp [PyData.depth], by simp [PyData.eqv]⟩
theorem GoodD.none {n : Nat} : GoodD .none n := ⟨by simp [PyData.canLay0], by simp [PyData.depth], by simp [PyData.eqv]⟩
theorem rxD_facts : ∀ t : Rx, GoodD (rxD t) (t.ht + 3)
  | .chr s => .tup (.cons (.str (by decide +kernel)) (.cons ((show GoodD (spD s) 2 from ⟨(spD_can s).1, Nat.le_of_eq (spD_can s).2.1, (spD_can s).2.2⟩).mono (Nat.le_add_left _ _)) .nil))
  | .empty => .tup (.cons (.str (by decide +kernel)) .nil)
  | .never => .tup (.cons (.str (by decide +kernel)) .nil)
  | .cat l r => .tup (n := (Rx.cat l r).ht + 2) (.cons (.str (by decide +kernel)) (.cons ((rxD_facts l).mono (by simp only [Rx.ht]; omega)) (.cons ((rxD_facts r).mono (by simp only [Rx.ht]; omega)) .nil)))
  | .alt l r => .tup (n := (Rx.alt l r).ht + 2) (.cons (.str (by decide +kernel)) (.cons ((rxD_facts l).mono (by simp only [Rx.ht]; omega)) (.cons ((rxD_facts r).mono (by simp only [Rx.ht]; omega)) .nil)))
  | .star b => .tup (n := (Rx.star b).ht + 2) (.cons (.str (by decide +kernel)) (.cons ((rxD_facts b).mono (by simp only [Rx.ht]; omega)) .nil))
  | .plus b => .tup (n := (Rx.plus b).ht + 2) (.cons (.str (by decide +kernel)) (.cons ((rxD_facts b).mono (by simp only [Rx.ht]; omega)) .nil))
  | .opt b => .tup (n := (Rx.opt b).ht + 2) (.cons (.str (by decide +kernel)) (.cons ((rxD_facts b).mono (by simp only [Rx.ht]; omega)) .nil))
  | .rep b low none => .tup (n := (Rx.rep b low none).ht + 2) (.cons (.str (by decide +kernel)) (.cons ((rxD_facts b).mono (by simp only [Rx.ht]; omega)) (.cons .int (.cons .none .nil))))
  | .rep b low (some high) => .tup (n := (Rx.rep b low (some high)).ht + 2) (.cons (.str (by decide +kernel)) (.cons ((rxD_facts b).mono (by simp only [Rx.ht]; omega)) (.cons .int (.cons .int .nil))))
theorem shaped_rx {t : Rx} (h : t.ht ≤ 20) : SeqAt.shaped (rxD t) = true := by
  obtain ⟨a1, a2, _⟩ := rxD_facts t
  simp only [SeqAt.shaped, a1, Bool.true_and, decide_eq_true_eq]
  omega
section
variable {prog : Program} {w : World} {A : Around} {E : Value → Shared → Prop} {s : Shared} {h₀ : Heap} {L₀ : Addr} {news : Led}
theorem eq_words {u v : Value} {xs ys : List Str} {Q : Value → Shared → Prop} (N : News h₀ L₀ s.heap news) (hu : StrList news u xs) (hv : StrList news v ys) (hx : ∀ x ∈ xs, ab x) (hy : ∀ x ∈ ys, ab x) (hroom : A.units + 64 < cLine)
    (h : Q (.bool (PyData.eqvAll (xs.map PyData.str) (ys.map PyData.str))) s) : wpAny (model prog w) A (compareOp .Eq u v) Q E s := by
  obtain ⟨a, n, vs, rfl, m1, S1⟩ := hu
  obtain ⟨b, k, us, rfl, m2, S2⟩ := hv
  exact eq_dataH (.list (N _ m1).1 rfl rfl (S1.reads _)) (.list (N _ m2).1 rfl rfl (S2.reads _)) (shaped_strs hx) (shaped_strs hy) hroom (by simpa [PyData.eqv] using h)
theorem ne_nil {a b : Addr} {n k : Nat} {vs : List Value} {xs : List Str} {Q : Value → Shared → Prop} (N : News h₀ L₀ s.heap news) (m1 : (a, listOf (List.toArray vs) n) ∈ news) (m2 : (b, listOf #[] k) ∈ news) (S1 : StrsAre vs xs) (hx : ∀ x ∈ xs, ab x) (hroom : A.units + 64 < cLine)
    (h : Q (.bool (!decide (xs = []))) s) : wpAny (model prog w) A (compareOp .NotEq (.ref a) (.ref b)) Q E s :=
  ne_dataH (.list (N _ m1).1 rfl rfl (S1.reads _)) (.list (N _ m2).1 rfl rfl .nil) (shaped_strs hx) (shaped_strs (ss := []) (fun _ h => nomatch h)) hroom (by
    have := eqv_nil xs
    simp only [PyData.eqv, this]; exact h)
theorem ne_told {u v : Value} {t : Rx} {Q : Value → Shared → Prop} (N : News h₀ L₀ s.heap news) (hu : CIn news u t) (hv : CIn news v t) (ht : t.ht ≤ 20) (hroom : A.units + 64 < cLine) (h : Q (.bool false) s) :
    wpAny (model prog w) A (compareOp .NotEq u v) Q E s := by
  obtain ⟨_, r1⟩ := hu.reads N
  obtain ⟨_, r2⟩ := hv.reads N
  refine ne_dataH r1 r2 (shaped_rx ht) (shaped_rx ht) hroom ?_
  rw [(rxD_facts t).2.2]
  exact h
end
section
theorem lines_1 : True := by
  (k_with "ktr_room" => ((try simp only [depth_under_make, depth_under_kw, depth_in1, depth_deeper, depth_caller, recursionLimit, Rx.ht] at *); (try dsimp only [ktrTop] at *); first | exact ar_r0 (by assumption) | exact ar_r1 (by assumption) | exact ar_r2 (by assumption) | omega))
  (k_with "k_mem" => with_reducible first | assumption | exact List.mem_cons_self | (refine List.mem_cons_of_mem _ ?_; k_mem) | (refine List.mem_append.mpr (Or.inl ?_); k_mem) | (refine List.mem_append.mpr (Or.inr ?_); k_mem))
  (k_with "ktn_open" => ((k_dflt ktr_enter); (try ((with_reducible show wpAny _ _ _ _ _ _); k_fold))))
  (k_with "tb_start" => (k_dflt (refine' code_defC ?k1_4 ?k2_4 ?k3_4 ?k4_4 ?k5_4 ?kA_4 ?kF_4 ?kK_4 ?k6_4 ?k7_4 ?k8_4 ?k9_4 ?kB_4 ?kD_4 ?_ ?c2_4 ?c3_4 ?c4_4; (case kA_4 => exact rfl); (case kF_4 => exact rfl); (case kK_4 => assumption); (case k1_4 => k_asm); (case k2_4 => k_asm); (case k3_4 => k_asm); (case k4_4 => k_asm); (case k5_4 => k_asm); (case k6_4 => k_is); (case k7_4 => k_is); (case k8_4 => ktr_room); (case k9_4 => exact BindsTo.of_eq rfl); (case kB_4 => exact rfl); (case kD_4 => decide +kernel); (case c2_4 => exact rfl); (case c3_4 => exact rfl); (case c4_4 => exact rfl); k_whole; intro g' L' h' tk' cells' FG' F' N' Y' B' X' T' l1; (try k_lt l1); k_cells Y'; (try simp only [List.cons_append, List.nil_append] at N'); (try dsimp only); (try ((with_reducible show wpAny _ _ _ _ _ _); k_fold))); (try ((with_reducible show wpAny _ _ _ _ _ _); k_fold))))
  (k_with "ktr_units" => (simp only [depth_under_make, depth_under_kw, depth_in1, depth_deeper, depth_caller, recursionLimit, units_in1, units_deeper, Around.mark_units, units_caller, cLine, Rx.ht] at *; (try dsimp only [ktrTop] at *); first | exact ar_r0 (by assumption) | exact ar_r1 (by assumption) | exact ar_r2 (by assumption) | exact ar_d (by assumption) (by decide) | exact ar_b (by assumption) (by decide) | exact ar_l (by assumption) (by decide) | exact ar_m (by assumption) (by decide) | exact ar_u (by assumption) (by decide) | exact ar_ub (by assumption) (by decide) | exact ar_ul (by assumption) (by decide) | exact ar_um (by assumption) (by decide) | exact ar_c (by assumption) | omega))
  (k_with "ktd_rel" => first | assumption | exact NIn.mono (by assumption) (by ktd_sub) | exact TIn.mono (by assumption) (by ktd_sub) | exact CIn.mono (by assumption) (by ktd_sub) | exact DIn.mono (by assumption) (by ktd_sub))
  (k_with "tell 1" => (refine' tell_use ?tlC ?tlB ?tlF ?tlX ?tlN ?tlT ?tlhk ?tlhd ?tlhu ?_; (case tlB => k_asm); (case tlF => k_asm); (case tlX => k_asm); (case tlT => k_asm); (case tlN => k_asm)))
  (k_with "tell 2" => ((case tlhk => first | exact rfl | assumption); (case tlhd => ktr_units); (case tlhu => ktr_units); k_whole))
  (k_with "ite" => with_reducible (first | apply ite_ff9 | apply ite_tt9))
  (k_with "k_room" => ktr_units)
  (k_with "ktd_sub" => first | exact fun _ h => h | (intro p9 h9; (try simp only [List.mem_append, List.mem_cons] at h9 ⊢); (repeat' (first | (simp only [h9, true_or, or_true]; done) | ((with_reducible refine Or.elim h9 ?_ ?_) <;> (clear h9; intro h9))))))
  (k_with "k_steps" => ((try ((with_reducible show wpAny _ _ _ _ _ _); k_fold)); repeat' (first | ((with_reducible show wpAny _ _ (exec _ _) _ _ _); k_fold) | (k_unfold; (try dsimp only)) | (k_end; wrow_close) | walk1 | (dsimp only; walk1) | (leave1; walk_say "STEP leave1"; try dsimp only) | fail "no step")))
  (k_with "k_handed" => first | exact NIn.handed (by assumption) | exact SpIn.handed (by assumption))
  trivial
theorem off1_mem {D : Addr} : ∀ {l : Led}, Off1 D l → ∀ p ∈ l, p.1 ≠ D
  | [], _, _, h => nomatch h
  | _ :: _, x, p, h => by
    rcases List.mem_cons.mp h with rfl | h
    · exact x.1
    · exact off1_mem x.2 p h
theorem fresh_spec (w : World) (p : Program) (loose : List Str) (mean : ExcName → Option Value) (mg mb : Str → Option Value) (news : Led) (a b : Addr) (n n' : Nat) (vs vs' : List Value) (ws ws' : List Str)
    (h1 : (a, listOf (List.toArray vs) n) ∈ news) (h2 : (b, listOf (List.toArray vs') n') ∈ news) (S1 : StrsAre vs ws) (S2 : StrsAre vs' ws') (hsz : vs.length ≤ 100) :
  Tell w p loose mean mg mb 564 [.ref a, .ref b] news 2 (fun r nw => StrList nw r (freshL ws ws')) := by
  unfold Tell
  w_top off
  k_fill
  intro dp un gd cn cs a ccd cl outer A₀ base h₀ L m s Q E B F X N T hk hdp hu hret
  refine wpAny_call ?_
  tb_start
  walk1
  walk1
  dsimp only
  refine LCt.ListComp_T (F₀ := by k_asm) (by with_unfolding_all rfl) (by decide) (by rfl) (by decide) (by rfl) ?_
  walk1
  refine LCt.CompSrcT.ledger (by rfl) (by k_asm) (by k_asm) (by k_mem) (by rw [List.size_toArray, sizeLine_eq]; omega) ?_
  intro g9
  refine comp_ind (fun i ys => StrsAre ys (freshL (ws.take i) ws')) StrsAre.nil ?_ ?_
  · intro i ys v I' oI' C' oC' D' m' h' tk' E' hlt hJ hP hC' hx' F' N' off' ne'
    obtain ⟨x, t, rfl, hxi⟩ := strs_get S1 (by simpa using hP)
    have hf := freshL_snoc (ks := ws') hxi
    walk1
    walk1
    walk1
    refine notin_list_strs (News.isList N' (by k_mem)) S2 ?_
    walk1
    by_cases hq : (!(ws'.any (· == x))) = true
    · rw [if_pos hq]
      rw [if_pos hq] at hf
      walk1
      exact CompEnd.intro F' N' _ (fun _ h => h) off' (.inr ⟨_, List.mem_cons_of_mem _ h1, rfl, _, rfl⟩) ⟨rfl, by rw [hf]; exact strs_snoc hJ x t⟩
    · rw [if_neg hq]
      rw [if_neg hq] at hf
      exact CompEnd.intro F' N' _ (fun _ h => h) off' (.inr ⟨_, List.mem_cons_of_mem _ h1, rfl, _, rfl⟩) ⟨rfl, by rw [hf, List.append_nil]; exact hJ⟩
  · intro ys hJ
    rw [List.size_toArray, strs_len S1, List.take_length] at hJ
    intro D h tk F' N' o1
    walk1
    refine hret _ [(D, lst ys)] _ _ (by k_asm) (news_sub (by k_asm) fun p hp => ?_) (fun q hq p hp => ?_) ⟨D, _, ys, rfl, List.mem_append.mpr (.inr (.head _)), hJ⟩
    · rcases List.mem_append.mp hp with hp | hp
      · exact List.mem_cons_of_mem _ (List.mem_cons_of_mem _ hp)
      · exact List.mem_singleton.mp hp ▸ .head _
    · obtain rfl := List.mem_singleton.mp hp
      exact off1_mem o1 q (List.mem_cons_of_mem _ hq)
section
theorem lines_2 : True := by
  (k_with "call builtin:len" => ((with_reducible show wpAny _ _ (call (Value.builtin "len") [Value.str _ _]) _ _ _); refine P.len_str (by omega) ?_))
  (k_with "compareOp NotIn str ref" => (k_here; (with_reducible show wpAny _ _ (compareOp CmpOp.NotIn (Value.str _ _) (Value.ref _)) _ _ _); (refine' notin_list_strs ?k1_15 ?k2_15 ?_; (case k1_15 => exact News.isList (by k_asm) (by k_mem)); (case k2_15 => assumption))))
  trivial
theorem rowsStep_in {one two : Str} {f : List Str} (h : f.any (· == one ++ two) = true) : rowsStep one f two = f := by
  unfold rowsStep
  rw [if_neg (fun q => by rw [h] at q; cases q.2)]
theorem rowsStep_new {one two : Str} {f : List Str} (h1 : one.length + two.length ≤ 3) (h : f.any (· == one ++ two) = false) : rowsStep one f two = f ++ [one ++ two] := by
  unfold rowsStep
  rw [if_pos ⟨h1, h⟩]
theorem rowsStep_long {one two : Str} {f : List Str} (h : ¬ one.length + two.length ≤ 3) : rowsStep one f two = f := by
  unfold rowsStep
  rw [if_neg (fun q => h q.1)]
theorem rowsStep_len (one : Str) : ∀ (ss f : List Str), (ss.foldl (rowsStep one) f).length ≤ f.length + ss.length
  | [], f => Nat.le_refl _
  | t :: ss, f => by
    rw [List.foldl_cons, List.length_cons]
    have h1 := rowsStep_len one ss (rowsStep one f t)
    have h2 : (rowsStep one f t).length ≤ f.length + 1 := by
      unfold rowsStep
      split
      · rw [List.length_append]; simp
      · omega
    omega
theorem rows_len (ss : List Str) : ∀ (fs f : List Str), (fs.foldl (fun f one => ss.foldl (rowsStep one) f) f).length ≤ f.length + fs.length * ss.length
  | [], f => by simp
  | t :: fs, f => by
    rw [List.foldl_cons, List.length_cons, Nat.succ_mul]
    have h1 := rows_len ss fs (ss.foldl (rowsStep t) f)
    have h2 := rowsStep_len t ss f
    omega
theorem rows_room {ws ws' : List Str} {one : Str} {i j : Nat} (h1 : ws.length ≤ 100) (h2 : ws'.length ≤ 100) : ((ws'.take j).foldl (rowsStep one) ((ws.take i).foldl (fun f one => ws'.foldl (rowsStep one) f) [])).length ≤ 10100 := by
  have a1 := rowsStep_len one (ws'.take j) ((ws.take i).foldl (fun f one => ws'.foldl (rowsStep one) f) [])
  have a2 := rows_len ws' (ws.take i) []
  have a3 : (ws.take i).length ≤ 100 := by rw [List.length_take]; omega
  have a4 : (ws'.take j).length ≤ 100 := by rw [List.length_take]; omega
  have a5 : (ws.take i).length * ws'.length ≤ 100 * 100 := Nat.mul_le_mul a3 h2
  simp only [List.length_nil] at a2
  omega
theorem take_fold {β : Type} {ws : List Str} {i : Nat} {x : Str} {g : β → Str → β} {f : β} (h : ws[i]? = some x) : (ws.take (i + 1)).foldl g f = g ((ws.take i).foldl g f) x := by
  rw [List.take_add_one, h]; simp
theorem lines_3 : True := by
  (k_with "k_all" => assumption)
  (k_with "call builtin:list.append" => (k_here; (with_reducible show wpAny _ _ (call (Value.builtin _) [Value.ref _, _]) _ _ _); k_dflt (refine' append_K ?k1_17 ?k2_17 ?k3_17 ?_ ?z_17; (case k1_17 => k_asm); (case k2_17 => k_asm); (case k3_17 => k_upd); (case z_17 => assumption); k_whole); intro h' F' N'))
  trivial
theorem rows_spec (w : World) (p : Program) (loose : List Str) (mean : ExcName → Option Value) (mg mb : Str → Option Value) (news : Led) (a b : Addr) (n n' : Nat) (vs vs' : List Value) (ws ws' : List Str)
    (h1 : (a, listOf (List.toArray vs) n) ∈ news) (h2 : (b, listOf (List.toArray vs') n') ∈ news) (S1 : StrsAre vs ws) (S2 : StrsAre vs' ws') (hz1 : ws.length ≤ 100) (hz2 : ws'.length ≤ 100)
    (hl1 : ∀ x ∈ ws, x.length ≤ 3) (hl2 : ∀ x ∈ ws', x.length ≤ 3) :
  Tell w p loose mean mg mb 571 [.ref a, .ref b] news 2 (fun r nw => StrList nw r (rowsL ws ws')) := by
  unfold Tell
  w_top off
  k_fill
  intro dp un gd cn cs a ccd cl outer A₀ base h₀ L m s Q E B F X N T hk hdp hu hret
  refine wpAny_call ?_
  ktn_open
  iterate 8 walk1
  rename News _ _ _ _ => N1
  rename Fr _ _ _ _ => F1
  rename_i fd _ hfd _
  refine For_invVF F1 (by exact rfl) (by exact rfl) ?_
  walk1
  have hfd' : ∀ p ∈ news, p.1 ≠ fd := fun p hp => Nat.ne_of_lt (hfd p hp)
  generalize hm0 : (fun y => if y = Str.ofString "found" then some (Value.ref fd) else _) = m₀ at F1
  have hfound : m₀ (Str.ofString "found") = some (.ref fd) := by rw [← hm0]; rfl
  have hsec : m₀ (Str.ofString "seconds") = some (.ref b) := by rw [← hm0]; rfl
  clear hm0
  refine iter_led (fun i m nx => Keep [Str.ofString "one", Str.ofString "two"] m₀ m ∧ ∃ fs k, nx = (fd, listOf (List.toArray fs) k) :: news ∧ StrsAre fs ((ws.take i).foldl (fun f one => ws'.foldl (rowsStep one) f) []))
    rfl (List.mem_cons_of_mem _ h1) F1 N1 ⟨keep_refl, [], 0, rfl, .nil⟩ (fun _ _ _ ⟨_, _, _, e, _⟩ => e ▸ List.mem_cons_of_mem _ h1) ?_ ?_
  · intro i v m₁ nx I oI h tk hv hP1 hoff _ F2 N2
    (try ((with_reducible show wpAny _ _ _ _ _ _); k_fold))
    obtain ⟨hK, fs, k, rfl, hfs⟩ := hP1
    obtain ⟨one, t1, rfl, hone⟩ := strs_get S1 (by simpa using hv)
    have e1 := keep_get hK hfound (by decide)
    have e2 := keep_get hK hsec (by decide)
    obtain ⟨m₂, F3, hK2, e3, e4, e5⟩ := fr_abs (P := fun m => Keep [Str.ofString "one", Str.ofString "two"] m₀ m ∧ m (Str.ofString "found") = some (.ref fd) ∧ m (Str.ofString "seconds") = some (.ref b) ∧ m (Str.ofString "one") = some (.str one t1))
      F2 ⟨keep_set hK (by decide), set_ne e1 (by decide), set_ne e2 (by decide), set_eq⟩
    clear F2
    have F4 := F3
    rw [map_named e4] at F4
    walk1
    refine For_invVF F4 (by exact rfl) (by exact rfl) ?_
    walk1
    clear F4
    have hId : fd ≠ I := hoff _ List.mem_cons_self
    have hIn : ∀ p ∈ (I, oI) :: news, p.1 ≠ fd := fun p hp => (List.mem_cons.mp hp).elim (fun h => h ▸ Ne.symm hId) (hfd' p)
    refine iter_led (fun j m nx => Keep [Str.ofString "two"] m₂ m ∧ ∃ fs k, nx = (fd, listOf (List.toArray fs) k) :: (I, oI) :: news ∧ StrsAre fs ((ws'.take j).foldl (rowsStep one) ((ws.take i).foldl (fun f one => ws'.foldl (rowsStep one) f) [])))
      rfl (List.mem_cons_of_mem _ (List.mem_cons_of_mem _ h2)) F3 (news_swap N2) ⟨keep_refl, fs, k, rfl, hfs⟩ (fun _ _ _ ⟨_, _, _, e, _⟩ => e ▸ List.mem_cons_of_mem _ (List.mem_cons_of_mem _ h2)) ?_ ?_
    · clear hfs
      intro j v m₃ nx I2 oI2 h tk hv2 hP1 hoff2 _ F5 N5
      (try ((with_reducible show wpAny _ _ _ _ _ _); k_fold))
      obtain ⟨hK3, fs, k, rfl, hfs⟩ := hP1
      obtain ⟨two, t2, rfl, htwo⟩ := strs_get S2 (by simpa using hv2)
      have g1 := keep_get hK3 e3 (by decide)
      have g2 := keep_get hK3 e5 (by decide)
      obtain ⟨m₄, F6, hK4, g3, g4, g5⟩ := fr_abs (P := fun m => Keep [Str.ofString "two"] m₂ m ∧ m (Str.ofString "found") = some (.ref fd) ∧ m (Str.ofString "one") = some (.str one t1) ∧ m (Str.ofString "two") = some (.str two t2))
        F5 ⟨keep_set hK3 (by decide), set_ne g1 (by decide), set_ne g2 (by decide), set_eq⟩
      clear F5
      have F7 := F6
      rw [map_named g3, map_named g4, map_named g5] at F7
      have q1 := hl1 one (List.mem_of_getElem? hone)
      have q2 := hl2 two (List.mem_of_getElem? htwo)
      have hI2 : @Ne Nat fd I2 := hoff2 _ List.mem_cons_self
      have hroom : (List.toArray fs).size ≤ sizeLine := by
        rw [List.size_toArray, strs_len hfs, sizeLine_eq]
        have := rows_room (one := one) (i := i) (j := j) hz1 hz2
        omega
      have hI3 : @Ne Nat I fd := Ne.symm hId
      have hst := take_fold (g := rowsStep one) (f := (ws.take i).foldl (fun f one => ws'.foldl (rowsStep one) f) []) htwo
      have hl3 : (one.length + two.length : Nat) ≤ 3 ∨ ¬ (one.length + two.length : Nat) ≤ 3 := Decidable.em _
      k_steps
      · refine ⟨_, _, _, _, rfl, F6, N5, hoff2, hK4, fs, k, rfl, ?_⟩
        rename (List.any _ _ = true) => ha
        rw [hst, rowsStep_in ha]; exact hfs
      · rename (List.any _ _ = false) => ha
        rename News _ _ _ _ => N6
        rename Fr _ _ _ _ => F8
        refine ⟨_, _, _, _, rfl, F8, N6, fun q hq => ?_, ?_, fs ++ [.str (one ++ two) _], _, by rw [← List.push_toArray], ?_⟩
        · exact (List.mem_cons.mp hq).elim (fun h => h ▸ hI2) (fun h => hoff2 q (List.mem_cons_of_mem _ h))
        · rw [← map_named g5, ← map_named g4, ← map_named g3]; exact hK4
        · rw [hst, rowsStep_new (by omega) ha]
          exact strs_snoc hfs _ _
      · refine ⟨_, _, _, _, rfl, F6, N5, hoff2, hK4, fs, k, rfl, ?_⟩
        rw [hst, rowsStep_long (by omega)]; exact hfs
    · intro m₃ nx h tk hP1 F5 N5
      (try ((with_reducible show wpAny _ _ _ _ _ _); k_fold))
      obtain ⟨hK3, fs, k, rfl, hfs⟩ := hP1
      dsimp only
      walk1
      rw [List.size_toArray, strs_len S2, List.take_length] at hfs
      refine ⟨_, _, _, _, rfl, F5, news_swap N5, fun q hq => ?_, keep_trans hK2 hK3 (fun z hz => by simp only [List.contains_cons, List.contains_nil, Bool.or_false, Bool.or_eq_false_iff] at hz ⊢; exact hz.2), fs, k, rfl, ?_⟩
      · exact (List.mem_cons.mp hq).elim (fun h => h ▸ hId) (fun h => hoff q (List.mem_cons_of_mem _ h))
      · rw [take_fold hone]; exact hfs
  · intro m₁ nx h tk hP1 F2 N2
    (try ((with_reducible show wpAny _ _ _ _ _ _); k_fold))
    obtain ⟨hK, fs, k, rfl, hfs⟩ := hP1
    dsimp only
    rw [List.size_toArray, strs_len S1, List.take_length] at hfs
    rw [map_named (keep_get hK hfound (by decide))] at F2
    walk1
    walk1
    walk1
    walk1
    refine hret _ [(fd, listOf (List.toArray fs) k)] _ _ (by k_asm) (news_sub (by k_asm) fun p hp => ?_) (fun q hq p hp => ?_) ⟨fd, _, fs, rfl, List.mem_append.mpr (.inr (.head _)), hfs⟩
    · rcases List.mem_append.mp hp with hp | hp
      · exact List.mem_cons_of_mem _ hp
      · exact List.mem_singleton.mp hp ▸ .head _
    · obtain rfl := List.mem_singleton.mp hp
      exact hfd' q hq
end
theorem lines_4 : True := by
  k_with_none
  (k_with "ktr_room" => ((try simp only [depth_under_make, depth_under_kw, depth_in1, depth_deeper, depth_caller, recursionLimit, Rx.ht] at *); (try dsimp only [ktrTop] at *); first | exact ar_r0 (by assumption) | exact ar_r1 (by assumption) | exact ar_r2 (by assumption) | omega))
  (k_with "k_mem" => with_reducible first | assumption | exact List.mem_cons_self | (refine List.mem_cons_of_mem _ ?_; k_mem) | (refine List.mem_append.mpr (Or.inl ?_); k_mem) | (refine List.mem_append.mpr (Or.inr ?_); k_mem))
  (k_with "ktn_open" => ((k_dflt ktr_enter); (try ((with_reducible show wpAny _ _ _ _ _ _); k_fold))))
  (k_with "tb_start" => (k_dflt (refine' code_defC ?k1_21 ?k2_21 ?k3_21 ?k4_21 ?k5_21 ?kA_21 ?kF_21 ?kK_21 ?k6_21 ?k7_21 ?k8_21 ?k9_21 ?kB_21 ?kD_21 ?_ ?c2_21 ?c3_21 ?c4_21; (case kA_21 => exact rfl); (case kF_21 => exact rfl); (case kK_21 => assumption); (case k1_21 => k_asm); (case k2_21 => k_asm); (case k3_21 => k_asm); (case k4_21 => k_asm); (case k5_21 => k_asm); (case k6_21 => k_is); (case k7_21 => k_is); (case k8_21 => ktr_room); (case k9_21 => exact BindsTo.of_eq rfl); (case kB_21 => exact rfl); (case kD_21 => decide +kernel); (case c2_21 => exact rfl); (case c3_21 => exact rfl); (case c4_21 => exact rfl); k_whole; intro g' L' h' tk' cells' FG' F' N' Y' B' X' T' l1; (try k_lt l1); k_cells Y'; (try simp only [List.cons_append, List.nil_append] at N'); (try dsimp only); (try ((with_reducible show wpAny _ _ _ _ _ _); k_fold))); (try ((with_reducible show wpAny _ _ _ _ _ _); k_fold))))
  (k_with "ktr_units" => (simp only [depth_under_make, depth_under_kw, depth_in1, depth_deeper, depth_caller, recursionLimit, units_in1, units_deeper, Around.mark_units, units_caller, cLine, Rx.ht] at *; (try dsimp only [ktrTop] at *); first | exact ar_r0 (by assumption) | exact ar_r1 (by assumption) | exact ar_r2 (by assumption) | exact ar_d (by assumption) (by decide) | exact ar_b (by assumption) (by decide) | exact ar_l (by assumption) (by decide) | exact ar_m (by assumption) (by decide) | exact ar_u (by assumption) (by decide) | exact ar_ub (by assumption) (by decide) | exact ar_ul (by assumption) (by decide) | exact ar_um (by assumption) (by decide) | exact ar_c (by assumption) | omega))
  (k_with "ktd_rel" => first | assumption | exact NIn.mono (by assumption) (by ktd_sub) | exact TIn.mono (by assumption) (by ktd_sub) | exact CIn.mono (by assumption) (by ktd_sub) | exact DIn.mono (by assumption) (by ktd_sub))
  (k_with "tell 1" => (refine' tell_use ?tlC ?tlB ?tlF ?tlX ?tlN ?tlT ?tlhk ?tlhd ?tlhu ?_; (case tlB => k_asm); (case tlF => k_asm); (case tlX => k_asm); (case tlT => k_asm); (case tlN => k_asm)))
  (k_with "tell 2" => ((case tlhk => first | exact rfl | assumption); (case tlhd => ktr_units); (case tlhu => ktr_units); k_whole))
  (k_with "ite" => with_reducible (first | apply ite_ff9 | apply ite_tt9))
  (k_with "k_room" => ktr_units)
  (k_with "ktd_sub" => first | exact fun _ h => h | (intro p9 h9; (try simp only [List.mem_append, List.mem_cons] at h9 ⊢); (repeat' (first | (simp only [h9, true_or, or_true]; done) | ((with_reducible refine Or.elim h9 ?_ ?_) <;> (clear h9; intro h9))))))
  (k_with "k_steps" => ((try ((with_reducible show wpAny _ _ _ _ _ _); k_fold)); repeat' (first | ((with_reducible show wpAny _ _ (exec _ _) _ _ _); k_fold) | (k_unfold; (try dsimp only)) | (k_end; wrow_close) | walk1 | (dsimp only; walk1) | (leave1; walk_say "STEP leave1"; try dsimp only) | fail "no step")))
  (k_with "k_handed" => first | exact NIn.handed (by assumption) | exact SpIn.handed (by assumption))
  trivial
noncomputable def nm : Rx → Str
  | .chr _ => Str.ofString "chars" | .empty => Str.ofString "empty" | .never => Str.ofString "never"
  | .cat _ _ => Str.ofString "cat" | .alt _ _ => Str.ofString "alt"
  | .star _ => Str.ofString "star" | .plus _ => Str.ofString "plus" | .opt _ => Str.ofString "opt"
  | .rep _ _ _ => Str.ofString "repeat"

theorem tell_use {w : World} {p : Program} {loose : List Str} {mean : ExcName → Option Value} {mg mb : Str → Option Value} {f : Addr} {vs : List Value} {news : Led} {dz : Nat} {Post : Value → Led → Prop} {dp un : Nat} {gd : Option (List Code)} {cn : Str} {cs : Scope} {a : Addr} {ccd : Value} {cl : List (Str × Addr)} {outer : List Env} {A₀ : Around} {base h₀ : Heap} {L : Addr} {m : Str → Option Value} {s : Shared}
    {Q E : Value → Shared → Prop} (C : Tell w p loose mean mg mb f vs news dz Post) (B : Below A₀ base outer h₀) (F : Fr h₀ L s.heap m) (X : (hd.heap_1 w.params).In h₀) (N : News h₀ L s.heap news) (T : Top p loose mean mg mb h₀) (hk : cs.kind = .function) (hd : dp + dz < 600) (hu : un + 8 * dz < 6000)
    (ret : ∀ r tl h' tk', Fr h₀ L h' m → News h₀ L h' (news ++ tl) → (∀ q ∈ news, ∀ p ∈ tl, q.1 ≠ p.1) → Post r (news ++ tl) → Q r { s with heap := h', toks := tk' }) :
    wpAny (model PySem.Challenge.rw_nn0369_01.row.prog w) (ktrTop dp un gd cn cs L a ccd cl outer) (call (.ref f) vs) Q E s := C _ _ _ _ _ _ _ _ _ _ _ _ _ _ _ _ _ B F X N T hk hd hu ret

/-- a call that answers a known value; a list of texts; the words of a language: no case to split while the goal is big -/
theorem tell_val {V : Value} {w : World} {p : Program} {loose : List Str} {mean : ExcName → Option Value} {mg mb : Str → Option Value} {f : Addr} {vs : List Value} {news : Led} {dz : Nat} {dp un : Nat} {gd : Option (List Code)} {cn : Str} {cs : Scope} {a : Addr} {ccd : Value} {cl : List (Str × Addr)} {outer : List Env} {A₀ : Around} {base h₀ : Heap} {L : Addr} {m : Str → Option Value} {s : Shared}
    {Q E : Value → Shared → Prop} (C : Tell w p loose mean mg mb f vs news dz (fun r _ => r = V)) (B : Below A₀ base outer h₀) (F : Fr h₀ L s.heap m) (X : (hd.heap_1 w.params).In h₀) (N : News h₀ L s.heap news) (T : Top p loose mean mg mb h₀) (hk : cs.kind = .function) (hd : dp + dz < 600) (hu : un + 8 * dz < 6000)
    (ret : ∀ tl h' tk', Fr h₀ L h' m → News h₀ L h' (news ++ tl) → (∀ q ∈ news, ∀ p ∈ tl, q.1 ≠ p.1) → Q V { s with heap := h', toks := tk' }) :
    wpAny (model PySem.Challenge.rw_nn0369_01.row.prog w) (ktrTop dp un gd cn cs L a ccd cl outer) (call (.ref f) vs) Q E s := tell_use C B F X N T hk hd hu fun _ tl h' tk' a b c e => e ▸ ret tl h' tk' a b c
theorem tell_strs {X9 : List Str} {w : World} {p : Program} {loose : List Str} {mean : ExcName → Option Value} {mg mb : Str → Option Value} {f : Addr} {vs : List Value} {news : Led} {dz : Nat} {dp un : Nat} {gd : Option (List Code)} {cn : Str} {cs : Scope} {a : Addr} {ccd : Value} {cl : List (Str × Addr)} {outer : List Env} {A₀ : Around} {base h₀ : Heap} {L : Addr} {m : Str → Option Value} {s : Shared}
    {Q E : Value → Shared → Prop} (C : Tell w p loose mean mg mb f vs news dz (fun r nw => StrList nw r X9)) (B : Below A₀ base outer h₀) (F : Fr h₀ L s.heap m) (X : (hd.heap_1 w.params).In h₀) (N : News h₀ L s.heap news) (T : Top p loose mean mg mb h₀) (hk : cs.kind = .function) (hd : dp + dz < 600) (hu : un + 8 * dz < 6000)
    (ret : ∀ a8 n8 vs8 tl h' tk', Fr h₀ L h' m → News h₀ L h' (news ++ tl) → (∀ q ∈ news, ∀ p ∈ tl, q.1 ≠ p.1) → (a8, listOf (List.toArray vs8) n8) ∈ news ++ tl → StrsAre vs8 X9 → Q (.ref a8) { s with heap := h', toks := tk' }) :
    wpAny (model PySem.Challenge.rw_nn0369_01.row.prog w) (ktrTop dp un gd cn cs L a ccd cl outer) (call (.ref f) vs) Q E s := tell_use C B F X N T hk hd hu fun _ tl h' tk' a b c ⟨a8, n8, vs8, e, m8, S8⟩ => e ▸ ret a8 n8 vs8 tl h' tk' a b c m8 S8
theorem tell_words {R9 : List Str → Prop} {w : World} {p : Program} {loose : List Str} {mean : ExcName → Option Value} {mg mb : Str → Option Value} {f : Addr} {vs : List Value} {news : Led} {dz : Nat} {dp un : Nat} {gd : Option (List Code)} {cn : Str} {cs : Scope} {a : Addr} {ccd : Value} {cl : List (Str × Addr)} {outer : List Env} {A₀ : Around} {base h₀ : Heap} {L : Addr} {m : Str → Option Value} {s : Shared}
    {Q E : Value → Shared → Prop} (C : Tell w p loose mean mg mb f vs news dz (fun r nw => ∃ ws, StrList nw r ws ∧ R9 ws)) (B : Below A₀ base outer h₀) (F : Fr h₀ L s.heap m) (X : (hd.heap_1 w.params).In h₀) (N : News h₀ L s.heap news) (T : Top p loose mean mg mb h₀) (hk : cs.kind = .function) (hd : dp + dz < 600) (hu : un + 8 * dz < 6000)
    (ret : ∀ ws8 a8 n8 vs8 tl h' tk', Fr h₀ L h' m → News h₀ L h' (news ++ tl) → (∀ q ∈ news, ∀ p ∈ tl, q.1 ≠ p.1) → (a8, listOf (List.toArray vs8) n8) ∈ news ++ tl → StrsAre vs8 ws8 → R9 ws8 → Q (.ref a8) { s with heap := h', toks := tk' }) :
    wpAny (model PySem.Challenge.rw_nn0369_01.row.prog w) (ktrTop dp un gd cn cs L a ccd cl outer) (call (.ref f) vs) Q E s := tell_use C B F X N T hk hd hu fun _ tl h' tk' a b c ⟨ws8, ⟨a8, n8, vs8, e, m8, S8⟩, W8⟩ => e ▸ ret ws8 a8 n8 vs8 tl h' tk' a b c m8 S8 W8

/-- the class attribute «name» -/
theorem name_rule {w : World} {A : Around} {E : Value → Shared → Prop} {s : Shared} {h₀ : Heap} {L : Addr} {m : Str → Option Value} {news : Led} {v : Value} {t : Rx} {expr : Bool} {Q : Value → Shared → Prop}
    (F : Fr h₀ L s.heap m) (X : (hd.heap_1 w.params).In h₀) (N : News h₀ L s.heap news) (R : NIn news v t) (h : ∀ tk, Q (.str (nm t) tk) { s with toks := s.toks + 1 }) :
    wpAny (model PySem.Challenge.rw_nn0369_01.row.prog w) A (getAttr v (Str.ofString "name") expr) Q E s := by
  revert X
  w_top off
  k_fill
  intro X
  cases R <;> walk1 <;> exact h _
end
section
section
inductive NAll (nw : Led) : List Value → List Rx → Prop where
  | nil : NAll nw [] []
  | cons {v t vs ts} : NIn nw v t → NAll nw vs ts → NAll nw (v :: vs) (t :: ts)
theorem NAll.mono {nw nw' : Led} {vs ts} (h : NAll nw vs ts) (hs : ∀ p ∈ nw, p ∈ nw') : NAll nw' vs ts := by
  induction h with
  | nil => exact .nil
  | cons h1 _ ih => exact .cons (h1.mono hs) ih
theorem NAll.app {nw : Led} {vs ts vs' ts'} (h : NAll nw vs ts) (h' : NAll nw vs' ts') : NAll nw (vs ++ vs') (ts ++ ts') := by
  induction h with
  | nil => exact h'
  | cons h1 _ ih => exact .cons h1 ih
theorem NAll.rev {nw : Led} {vs ts} (h : NAll nw vs ts) : NAll nw vs.reverse ts.reverse := by
  induction h with
  | nil => exact .nil
  | cons h1 _ ih => rw [List.reverse_cons, List.reverse_cons]; exact ih.app (.cons h1 .nil)
theorem NAll.get {nw : Led} {vs ts} (h : NAll nw vs ts) : ∀ {i : Nat} {v : Value}, vs[i]? = some v → ∃ t, NIn nw v t ∧ ts[i]? = some t := by
  induction h with
  | nil => intro i v h; simp at h
  | cons h1 _ ih =>
    intro i v h
    cases i with
    | zero => simp at h; subst h; exact ⟨_, h1, rfl⟩
    | succ i => simp at h; obtain ⟨t, e, e2⟩ := ih h; exact ⟨t, e, by simpa using e2⟩
theorem NAll.len {nw : Led} {vs ts} (h : NAll nw vs ts) : vs.length = ts.length := by
  induction h with
  | nil => rfl
  | cons h1 _ ih => simp [ih]
noncomputable def spineC : Rx → List Rx
  | .cat l r => spineC l ++ [r]
  | t => [t]
noncomputable def spineA : Rx → List Rx
  | .alt l r => spineA l ++ [r]
  | t => [t]
theorem spineC_of {t : Rx} (h : (nm t == Str.ofString "cat") = false) : spineC t = [t] := by
  cases t <;> first | rfl | (dsimp only [nm] at h; exact absurd h (by decide))
theorem spineA_of {t : Rx} (h : (nm t == Str.ofString "alt") = false) : spineA t = [t] := by
  cases t <;> first | rfl | (dsimp only [nm] at h; exact absurd h (by decide))
theorem nm_cat {t : Rx} (h : (nm t == Str.ofString "cat") = true) : ∃ l r, t = .cat l r := by
  cases t <;> first | exact ⟨_, _, rfl⟩ | (dsimp only [nm] at h; exact absurd h (by decide))
theorem nm_alt {t : Rx} (h : (nm t == Str.ofString "alt") = true) : ∃ l r, t = .alt l r := by
  cases t <;> first | exact ⟨_, _, rfl⟩ | (dsimp only [nm] at h; exact absurd h (by decide))
def NList (nw : Led) (r : Value) (ts : List Rx) : Prop := ∃ a n vs, r = .ref a ∧ (a, listOf (List.toArray vs) n) ∈ nw ∧ NAll nw vs ts

theorem NIn.isRef {nw : Led} {v : Value} {t : Rx} (R : NIn nw v t) : ∃ a, v = .ref a := by
  cases R <;> exact ⟨_, rfl⟩
/-- between the turns of the while -/
inductive SInv (f : Rx → List Rx) (t : Rx) (news : Led) (pd : Nat) (m₀ : Str → Option Value) (n : Nat) (m : Str → Option Value) (nx : Led) : Prop where
  | mk {b' : Nat} {t' : Rx} {rs : List Value} {ts : List Rx} {k : Nat} (hK : Keep [Str.ofString "here"] m₀ m) (hv : m (Str.ofString "here") = some (.ref b')) (R : NIn news (.ref b') t') (hx : nx = (pd, listOf (List.toArray rs) k) :: news) (hA : NAll news rs ts) (hs : f t = f t' ++ ts.reverse) (hn : t'.ht = n) (hl : t'.ht + rs.length ≤ 20) : SInv f t news pd m₀ n m nx
theorem SInv.use {f : Rx → List Rx} {t : Rx} {news : Led} {pd : Nat} {m₀ : Str → Option Value} {n : Nat} {m : Str → Option Value} {h₀ h9 : Heap} {L : Addr} {nx : Led} {G : Prop} (h : SInv f t news pd m₀ n m nx) (N : News h₀ L h9 nx)
    (k : ∀ (b' : Nat) (t' : Rx) (rs : List Value) (ts : List Rx) (k : Nat), Keep [Str.ofString "here"] m₀ m → m (Str.ofString "here") = some (.ref b') → NIn news (.ref b') t' → News h₀ L h9 ((pd, listOf (List.toArray rs) k) :: news) → NAll news rs ts → f t = f t' ++ ts.reverse → t'.ht = n → t'.ht + rs.length ≤ 20 → G) : G := by
  cases h with
  | mk a b c d e f g h => exact k _ _ _ _ _ a b c (d ▸ N) e f g h
theorem NIn.cat_use {nw : Led} {a : Nat} {l r : Rx} {G : Prop} (R : NIn nw (.ref a) (.cat l r)) (k : ∀ d n h t x h' t' u, (a, instObj 352 d) ∈ nw → (d, dictOf [⟨h, .str (Str.ofString "left") t, .ref x⟩, ⟨h', .str (Str.ofString "right") t', u⟩] n) ∈ nw → NIn nw (.ref x) l → NIn nw u r → G) : G := by
  cases R with
  | cat m1 m2 R1 R2 =>
    obtain ⟨x, rfl⟩ := R1.isRef
    exact k _ _ _ _ _ _ _ _ m1 m2 R1 R2
theorem NIn.alt_use {nw : Led} {a : Nat} {l r : Rx} {G : Prop} (R : NIn nw (.ref a) (.alt l r)) (k : ∀ d n h t x h' t' u, (a, instObj 364 d) ∈ nw → (d, dictOf [⟨h, .str (Str.ofString "left") t, .ref x⟩, ⟨h', .str (Str.ofString "right") t', u⟩] n) ∈ nw → NIn nw (.ref x) l → NIn nw u r → G) : G := by
  cases R with
  | alt m1 m2 R1 R2 =>
    obtain ⟨x, rfl⟩ := R1.isRef
    exact k _ _ _ _ _ _ _ _ m1 m2 R1 R2
theorem ht_catl {l r : Rx} : l.ht < (Rx.cat l r).ht := by simp only [Rx.ht]; omega
theorem ht_altl {l r : Rx} : l.ht < (Rx.alt l r).ht := by simp only [Rx.ht]; omega
theorem ht_room {l r k : Nat} (h : max l r + 1 + k ≤ 20) : l + (k + 1) ≤ 20 := by omega
theorem lines_5 : True := by
  k_with_none
  (k_with "ktr_room" => ((try simp only [depth_under_make, depth_under_kw, depth_in1, depth_deeper, depth_caller, recursionLimit, Rx.ht] at *); (try dsimp only [ktrTop] at *); first | exact ar_r0 (by assumption) | exact ar_r1 (by assumption) | exact ar_r2 (by assumption) | omega))
  (k_with "k_mem" => with_reducible first | assumption | exact List.mem_cons_self | (refine List.mem_cons_of_mem _ ?_; k_mem) | (refine List.mem_append.mpr (Or.inl ?_); k_mem) | (refine List.mem_append.mpr (Or.inr ?_); k_mem))
  (k_with "ktn_open" => ((k_dflt ktr_enter); (try ((with_reducible show wpAny _ _ _ _ _ _); k_fold))))
  (k_with "tb_start" => (k_dflt (refine' code_defC ?k1_34 ?k2_34 ?k3_34 ?k4_34 ?k5_34 ?kA_34 ?kF_34 ?kK_34 ?k6_34 ?k7_34 ?k8_34 ?k9_34 ?kB_34 ?kD_34 ?_ ?c2_34 ?c3_34 ?c4_34; (case kA_34 => exact rfl); (case kF_34 => exact rfl); (case kK_34 => assumption); (case k1_34 => k_asm); (case k2_34 => k_asm); (case k3_34 => k_asm); (case k4_34 => k_asm); (case k5_34 => k_asm); (case k6_34 => k_is); (case k7_34 => k_is); (case k8_34 => ktr_room); (case k9_34 => exact BindsTo.of_eq rfl); (case kB_34 => exact rfl); (case kD_34 => decide +kernel); (case c2_34 => exact rfl); (case c3_34 => exact rfl); (case c4_34 => exact rfl); k_whole; intro g' L' h' tk' cells' FG' F' N' Y' B' X' T' l1; (try k_lt l1); k_cells Y'; (try simp only [List.cons_append, List.nil_append] at N'); (try dsimp only); (try ((with_reducible show wpAny _ _ _ _ _ _); k_fold))); (try ((with_reducible show wpAny _ _ _ _ _ _); k_fold))))
  (k_with "ktr_units" => (simp only [depth_under_make, depth_under_kw, depth_in1, depth_deeper, depth_caller, recursionLimit, units_in1, units_deeper, Around.mark_units, units_caller, cLine, Rx.ht] at *; (try dsimp only [ktrTop] at *); first | exact ar_r0 (by assumption) | exact ar_r1 (by assumption) | exact ar_r2 (by assumption) | exact ar_d (by assumption) (by decide) | exact ar_b (by assumption) (by decide) | exact ar_l (by assumption) (by decide) | exact ar_m (by assumption) (by decide) | exact ar_u (by assumption) (by decide) | exact ar_ub (by assumption) (by decide) | exact ar_ul (by assumption) (by decide) | exact ar_um (by assumption) (by decide) | exact ar_c (by assumption) | omega))
  (k_with "ktd_rel" => first | assumption | exact NIn.mono (by assumption) (by ktd_sub) | exact TIn.mono (by assumption) (by ktd_sub) | exact CIn.mono (by assumption) (by ktd_sub) | exact DIn.mono (by assumption) (by ktd_sub))
  (k_with "tell 1" => (refine' tell_use ?tlC ?tlB ?tlF ?tlX ?tlN ?tlT ?tlhk ?tlhd ?tlhu ?_; (case tlB => k_asm); (case tlF => k_asm); (case tlX => k_asm); (case tlT => k_asm); (case tlN => k_asm)))
  (k_with "tell 2" => ((case tlhk => first | exact rfl | assumption); (case tlhd => ktr_units); (case tlhu => ktr_units); k_whole))
  (k_with "ite" => with_reducible (first | apply ite_ff9 | apply ite_tt9))
  (k_with "k_room" => ktr_units)
  (k_with "ktd_sub" => first | exact fun _ h => h | (intro p9 h9; (try simp only [List.mem_append, List.mem_cons] at h9 ⊢); (repeat' (first | (simp only [h9, true_or, or_true]; done) | ((with_reducible refine Or.elim h9 ?_ ?_) <;> (clear h9; intro h9))))))
  (k_with "k_steps" => ((try ((with_reducible show wpAny _ _ _ _ _ _); k_fold)); repeat' (first | ((with_reducible show wpAny _ _ (exec _ _) _ _ _); k_fold) | (k_unfold; (try dsimp only)) | (k_end; wrow_close) | walk1 | (dsimp only; walk1) | (leave1; walk_say "STEP leave1"; try dsimp only) | fail "no step")))
  (k_with "k_handed" => first | exact NIn.handed (by assumption) | exact SpIn.handed (by assumption))
  (k_with "k_all" => assumption)
  (k_with "call builtin:list.append" => (k_here; (with_reducible show wpAny _ _ (call (Value.builtin _) [Value.ref _, _]) _ _ _); k_dflt (refine' append_K ?k1_45 ?k2_45 ?k3_45 ?_ ?z_45; (case k1_45 => k_asm); (case k2_45 => k_asm); (case k3_45 => k_upd); (case z_45 => assumption); k_whole); intro h' F' N'))
  (k_with "getAttr" => (k_here; (with_reducible show wpAny _ _ (getAttr _ (PySem.Str.ofString "name") _) _ _ _); refine' name_rule ?F_46 ?X_46 ?N_46 ?R_46 ?_; (case F_46 => k_asm); (case X_46 => k_asm); (case N_46 => k_asm); (case R_46 => assumption); intro tk9))
  (k_with "call builtin:list.reverse" => (k_here; k_dflt (refine' kl_reverse ?F_47 ?N_47 ?e_47 ?U_47 ?z_47 ?_; (case F_47 => k_asm); (case N_47 => k_asm); (case U_47 => k_upd); (case e_47 => exact rfl); (case z_47 => (rw [Array.length_toList, Array.size_push, List.size_toArray, sizeLine_eq]; omega))); intro h' F' N'))
  trivial
theorem spineC_spec (w : World) (p : Program) (loose : List Str) (mean : ExcName → Option Value) (mg mb : Str → Option Value) (news : Led) (v : Value) (t l r : Rx) (ht : t = .cat l r) (hh : t.ht ≤ 20) (R : NIn news v t) :
  Tell w p loose mean mg mb 468 [v] news 2 (fun r nw => NList nw r (spineC t)) := by
  subst ht
  have R0 := R
  cases R with
  | @cat a0 d0 n0 h1 t1 v1 h2 t2 u1 _ _ q1 q2 q3 q4 =>
    unfold Tell
    w_top off
    k_fill
    intro dp un gd cn cs ca ccd cl outer A₀ base h₀ L mm0 ss0 Q E B F X N T hk hdp hu hret
    refine wpAny_call ?_
    ktn_open
    iterate 13 walk1
    rename News _ _ _ _ => N1
    rename Fr _ _ _ _ => F1
    rename_i pd _ hpd _ _
    have hpd' : ∀ p ∈ news, p.1 ≠ pd := fun p hp => Nat.ne_of_lt (hpd p hp)
    obtain ⟨m₀, F2, e1, e2, e3⟩ := fr_abs (P := fun m => m (Str.ofString "here") = some (.ref a0) ∧ m (Str.ofString "parts") = some (.ref pd) ∧ m (Str.ofString "node") = some (.ref a0)) F1 ⟨rfl, rfl, rfl⟩
    clear F1
    refine While_inv2 (SInv spineC (.cat l r) news pd m₀) F2 N1 (.mk keep_refl e1 R0 rfl .nil (List.append_nil _).symm rfl hh) ?_
    clear F2 N1
    intro n m₁ nx h tk F2 N2 hP1
    (try ((with_reducible show wpAny _ _ _ _ _ _); k_fold))
    refine hP1.use N2 ?_
    clear N2 hP1
    intro b' t' rs ts k hK hv R' N2 hA hs hn hlen
    have g2 := keep_get hK e2 (by decide)
    have g3 := keep_get hK e3 (by decide)
    have F3 := F2
    rw [map_named hv, map_named g2, map_named g3] at F3
    have R2 : NIn ((pd, listOf (List.toArray rs) k) :: news) (.ref b') t' := R'.mono fun _ h => .tail _ h
    have hroom : (List.toArray rs).size ≤ sizeLine := by rw [List.size_toArray, sizeLine_eq]; omega
    by_cases hc : (nm t' == Str.ofString "cat") = true
    · obtain ⟨l', r', rfl⟩ := nm_cat hc
      refine R'.cat_use ?_
      intro d' n' h1' t1' x' h2' t2' u' q1' q2' q3' q4'
      k_steps
      rename News _ _ _ _ => N6
      rename Fr _ _ _ _ => F6
      refine ⟨_, _, _, _, l'.ht, rfl, F6, N6, ?_, .mk (b' := x') (t' := l') (rs := rs ++ [_]) (ts := ts ++ [r']) (k := k + 1) (keep_set (keep_named (keep_named (keep_named hK g3) g2) hv) (by decide)) (if_pos rfl) q3' ?_ (hA.app (.cons q4' .nil)) ?_ rfl ?_⟩
      · rw [← hn]; exact ht_catl
      · rw [← List.push_toArray]
      · rw [hs, List.reverse_append]; exact List.append_assoc _ _ _
      · rw [List.length_append]; exact ht_room hlen
    · have hc' : (nm t' == Str.ofString "cat") = false := by simpa using hc
      k_steps
      rename News _ _ _ _ => N6
      refine hret _ [(pd, listOf (List.toArray (rs.toArray.push (.ref b')).toList.reverse) (k + 1))] _ _ (by k_asm) (news_sub N6 fun p hp => ?_) (fun q hq p hp => ?_) ⟨pd, _, _, rfl, List.mem_append.mpr (.inr (.head _)), ?_⟩
      · rcases List.mem_append.mp hp with hp | hp
        · exact List.mem_cons_of_mem _ hp
        · exact List.mem_singleton.mp hp ▸ .head _
      · obtain rfl := List.mem_singleton.mp hp
        exact hpd' q hq
      · rw [hs, spineC_of hc', Array.toList_push, List.reverse_append]
        exact NAll.app (.cons (R'.mono fun _ h => List.mem_append.mpr (.inl h)) .nil) (hA.mono fun _ h => List.mem_append.mpr (.inl h)).rev

theorem spineA_spec (w : World) (p : Program) (loose : List Str) (mean : ExcName → Option Value) (mg mb : Str → Option Value) (news : Led) (v : Value) (t l r : Rx) (ht : t = .alt l r) (hh : t.ht ≤ 20) (R : NIn news v t) :
  Tell w p loose mean mg mb 468 [v] news 2 (fun r nw => NList nw r (spineA t)) := by
  subst ht
  have R0 := R
  cases R with
  | @alt a0 d0 n0 h1 t1 v1 h2 t2 u1 _ _ q1 q2 q3 q4 =>
    unfold Tell
    w_top off
    k_fill
    intro dp un gd cn cs ca ccd cl outer A₀ base h₀ L mm0 ss0 Q E B F X N T hk hdp hu hret
    refine wpAny_call ?_
    ktn_open
    iterate 13 walk1
    rename News _ _ _ _ => N1
    rename Fr _ _ _ _ => F1
    rename_i pd _ hpd _ _
    have hpd' : ∀ p ∈ news, p.1 ≠ pd := fun p hp => Nat.ne_of_lt (hpd p hp)
    obtain ⟨m₀, F2, e1, e2, e3⟩ := fr_abs (P := fun m => m (Str.ofString "here") = some (.ref a0) ∧ m (Str.ofString "parts") = some (.ref pd) ∧ m (Str.ofString "node") = some (.ref a0)) F1 ⟨rfl, rfl, rfl⟩
    clear F1
    refine While_inv2 (SInv spineA (.alt l r) news pd m₀) F2 N1 (.mk keep_refl e1 R0 rfl .nil (List.append_nil _).symm rfl hh) ?_
    clear F2 N1
    intro n m₁ nx h tk F2 N2 hP1
    (try ((with_reducible show wpAny _ _ _ _ _ _); k_fold))
    refine hP1.use N2 ?_
    clear N2 hP1
    intro b' t' rs ts k hK hv R' N2 hA hs hn hlen
    have g2 := keep_get hK e2 (by decide)
    have g3 := keep_get hK e3 (by decide)
    have F3 := F2
    rw [map_named hv, map_named g2, map_named g3] at F3
    have R2 : NIn ((pd, listOf (List.toArray rs) k) :: news) (.ref b') t' := R'.mono fun _ h => .tail _ h
    have hroom : (List.toArray rs).size ≤ sizeLine := by rw [List.size_toArray, sizeLine_eq]; omega
    by_cases hc : (nm t' == Str.ofString "alt") = true
    · obtain ⟨l', r', rfl⟩ := nm_alt hc
      refine R'.alt_use ?_
      intro d' n' h1' t1' x' h2' t2' u' q1' q2' q3' q4'
      k_steps
      rename News _ _ _ _ => N6
      rename Fr _ _ _ _ => F6
      refine ⟨_, _, _, _, l'.ht, rfl, F6, N6, ?_, .mk (b' := x') (t' := l') (rs := rs ++ [_]) (ts := ts ++ [r']) (k := k + 1) (keep_set (keep_named (keep_named (keep_named hK g3) g2) hv) (by decide)) (if_pos rfl) q3' ?_ (hA.app (.cons q4' .nil)) ?_ rfl ?_⟩
      · rw [← hn]; exact ht_altl
      · rw [← List.push_toArray]
      · rw [hs, List.reverse_append]; exact List.append_assoc _ _ _
      · rw [List.length_append]; exact ht_room hlen
    · have hc' : (nm t' == Str.ofString "alt") = false := by simpa using hc
      k_steps
      rename News _ _ _ _ => N6
      refine hret _ [(pd, listOf (List.toArray (rs.toArray.push (.ref b')).toList.reverse) (k + 1))] _ _ (by k_asm) (news_sub N6 fun p hp => ?_) (fun q hq p hp => ?_) ⟨pd, _, _, rfl, List.mem_append.mpr (.inr (.head _)), ?_⟩
      · rcases List.mem_append.mp hp with hp | hp
        · exact List.mem_cons_of_mem _ hp
        · exact List.mem_singleton.mp hp ▸ .head _
      · obtain rfl := List.mem_singleton.mp hp
        exact hpd' q hq
      · rw [hs, spineA_of hc', Array.toList_push, List.reverse_append]
        exact NAll.app (.cons (R'.mono fun _ h => List.mem_append.mpr (.inl h)) .nil) (hA.mono fun _ h => List.mem_append.mpr (.inl h)).rev
end
theorem test_name {w : World} {A : Around} {E : Value → Shared → Prop} {s : Shared} {h₀ : Heap} {L a : Addr} {m : Str → Option Value} {news : Led} {v : Value} {t : Rx} {name x c : Str} {scope : Scope} {cd : Value} {p1 p2 p3 p4 : Pos} {kk : Nat} {whole : Sem Value} {b : Bool} {Q : Bool → Shared → Prop}
    (F : Fr h₀ L s.heap m) (hv : m x = some v) (X : (hd.heap_1 w.params).In h₀) (N : News h₀ L s.heap news) (R : NIn news v t) (hb : (nm t == c) = b) (h : ∀ tk, Q b { s with toks := tk })
    (hk : scope.kind = .function) (hl : (envOf name scope L a cd).kindOf x = some .local) (hdb : (x == ("__debug__" : Str)) = false) :
    wpAny (model PySem.Challenge.rw_nn0369_01.row.prog w) A (isTrue (.Compare (.Attribute (.Name x p1) (Str.ofString "name") p2) [.Eq] [.Constant (.str c) kk p3] p4) (envOf name scope L a cd) whole) Q E s := by
  refine wpAny_isTrue_Compare1 (Attribute_Name_ (ld F hv ?_ hk hl hdb)) rfl
  refine name_rule F X N R fun tk => ?_
  refine Constant_str ?_
  refine P.eq_str ?_
  refine wpAny_truthy_bool ?_
  have e : ((nm t).cps.toList == c.cps.toList) = (nm t == c) := eq_meets _ _
  rw [e, hb]
  exact h _
theorem lines_6 : True := by
  k_with_none
  (k_with "ktr_room" => ((try simp only [depth_under_make, depth_under_kw, depth_in1, depth_deeper, depth_caller, recursionLimit, Rx.ht] at *); (try dsimp only [ktrTop] at *); first | exact ar_r0 (by assumption) | exact ar_r1 (by assumption) | exact ar_r2 (by assumption) | omega))
  (k_with "k_mem" => with_reducible first | assumption | exact List.mem_cons_self | (refine List.mem_cons_of_mem _ ?_; k_mem) | (refine List.mem_append.mpr (Or.inl ?_); k_mem) | (refine List.mem_append.mpr (Or.inr ?_); k_mem))
  (k_with "ktn_open" => ((k_dflt ktr_enter); (try ((with_reducible show wpAny _ _ _ _ _ _); k_fold))))
  (k_with "tb_start" => (k_dflt (refine' code_defC ?k1_51 ?k2_51 ?k3_51 ?k4_51 ?k5_51 ?kA_51 ?kF_51 ?kK_51 ?k6_51 ?k7_51 ?k8_51 ?k9_51 ?kB_51 ?kD_51 ?_ ?c2_51 ?c3_51 ?c4_51; (case kA_51 => exact rfl); (case kF_51 => exact rfl); (case kK_51 => assumption); (case k1_51 => k_asm); (case k2_51 => k_asm); (case k3_51 => k_asm); (case k4_51 => k_asm); (case k5_51 => k_asm); (case k6_51 => k_is); (case k7_51 => k_is); (case k8_51 => ktr_room); (case k9_51 => exact BindsTo.of_eq rfl); (case kB_51 => exact rfl); (case kD_51 => decide +kernel); (case c2_51 => exact rfl); (case c3_51 => exact rfl); (case c4_51 => exact rfl); k_whole; intro g' L' h' tk' cells' FG' F' N' Y' B' X' T' l1; (try k_lt l1); k_cells Y'; (try simp only [List.cons_append, List.nil_append] at N'); (try dsimp only); (try ((with_reducible show wpAny _ _ _ _ _ _); k_fold))); (try ((with_reducible show wpAny _ _ _ _ _ _); k_fold))))
  (k_with "ktr_units" => (simp only [depth_under_make, depth_under_kw, depth_in1, depth_deeper, depth_caller, recursionLimit, units_in1, units_deeper, Around.mark_units, units_caller, cLine, Rx.ht] at *; (try dsimp only [ktrTop] at *); first | exact ar_r0 (by assumption) | exact ar_r1 (by assumption) | exact ar_r2 (by assumption) | exact ar_d (by assumption) (by decide) | exact ar_b (by assumption) (by decide) | exact ar_l (by assumption) (by decide) | exact ar_m (by assumption) (by decide) | exact ar_u (by assumption) (by decide) | exact ar_ub (by assumption) (by decide) | exact ar_ul (by assumption) (by decide) | exact ar_um (by assumption) (by decide) | exact ar_c (by assumption) | omega))
  (k_with "ktd_rel" => first | assumption | exact NIn.mono (by assumption) (by ktd_sub) | exact TIn.mono (by assumption) (by ktd_sub) | exact CIn.mono (by assumption) (by ktd_sub) | exact DIn.mono (by assumption) (by ktd_sub))
  (k_with "tell 1" => (refine' tell_use ?tlC ?tlB ?tlF ?tlX ?tlN ?tlT ?tlhk ?tlhd ?tlhu ?_; (case tlB => k_asm); (case tlF => k_asm); (case tlX => k_asm); (case tlT => k_asm); (case tlN => k_asm)))
  (k_with "tell 2" => ((case tlhk => first | exact rfl | assumption); (case tlhd => ktr_units); (case tlhu => ktr_units); k_whole))
  (k_with "ite" => with_reducible (first | apply ite_ff9 | apply ite_tt9))
  (k_with "k_room" => ktr_units)
  (k_with "ktd_sub" => first | exact fun _ h => h | (intro p9 h9; (try simp only [List.mem_append, List.mem_cons] at h9 ⊢); (repeat' (first | (simp only [h9, true_or, or_true]; done) | ((with_reducible refine Or.elim h9 ?_ ?_) <;> (clear h9; intro h9))))))
  (k_with "k_steps" => ((try ((with_reducible show wpAny _ _ _ _ _ _); k_fold)); repeat' (first | ((with_reducible show wpAny _ _ (exec _ _) _ _ _); k_fold) | (k_unfold; (try dsimp only)) | (k_end; wrow_close) | walk1 | (dsimp only; walk1) | (leave1; walk_say "STEP leave1"; try dsimp only) | fail "no step")))
  (k_with "k_handed" => first | exact NIn.handed (by assumption) | exact SpIn.handed (by assumption))
  trivial
theorem mkrep_some (w : World) (p : Program) (loose : List Str) (mean : ExcName → Option Value) (mg mb : Str → Option Value) (news : Led) (v : Value) (b : Rx) (low high : Nat) (tl th : Tok) (R : NIn news v b) (h1 : low ≤ 2) (h2 : low ≤ high) (h3 : high ≤ 5) :
    Tell w p loose mean mg mb 459 [v, .int (low : Int) tl, .int (high : Int) th] news 6 (fun r nw => NIn nw r (.rep b low (some high))) := by
  unfold Tell
  w_top off
  k_fill
  intro dp un gd cn cs a ccd cl outer A₀ base h₀ L m s Q E B F X N T hk hdp hu hret
  have hfin := fin_all (news := news) (Post := fun r nw => NIn nw r (.rep b low (some high))) hret
  k_dflt (refine' call_cls ?k1 ?k2 ?k3 ?k4 ?k5 ?k6 ?_; (case k1 => k_asm); (case k2 => k_asm); (case k3 => k_asm); (case k4 => k_is); (case k5 => k_is); (case k6 => k_is); k_whole; intro x' d' h' F' N' l1 l2; (try k_lt l1); (try k_lt2 l2); (try k_sweep))
  ktn_open
  k_steps
  refine hfin _ _ _ _ (by k_asm) (by k_asm) (by ktd_sub) ?_
  intro Y hY
  exact NIn.rep (hY _ (by k_mem)) (hY _ (by k_mem)) (R.mono (subs_trans (by ktd_sub) hY))
theorem mkrep_none (w : World) (p : Program) (loose : List Str) (mean : ExcName → Option Value) (mg mb : Str → Option Value) (news : Led) (v : Value) (b : Rx) (low : Nat) (tl : Tok) (R : NIn news v b) (h1 : low ≤ 2) :
    Tell w p loose mean mg mb 459 [v, .int (low : Int) tl, .none] news 6 (fun r nw => NIn nw r (.rep b low none)) := by
  unfold Tell
  w_top off
  k_fill
  intro dp un gd cn cs a ccd cl outer A₀ base h₀ L m s Q E B F X N T hk hdp hu hret
  have hfin := fin_all (news := news) (Post := fun r nw => NIn nw r (.rep b low none)) hret
  k_dflt (refine' call_cls ?k1 ?k2 ?k3 ?k4 ?k5 ?k6 ?_; (case k1 => k_asm); (case k2 => k_asm); (case k3 => k_asm); (case k4 => k_is); (case k5 => k_is); (case k6 => k_is); k_whole; intro x' d' h' F' N' l1 l2; (try k_lt l1); (try k_lt2 l2); (try k_sweep))
  ktn_open
  k_steps
  refine hfin _ _ _ _ (by k_asm) (by k_asm) (by ktd_sub) ?_
  intro Y hY
  exact NIn.repN (hY _ (by k_mem)) (hY _ (by k_mem)) (R.mono (subs_trans (by ktd_sub) hY))
section
theorem lines_7 : True := by
  (k_with "isTrue Compare" => (k_here; (with_reducible show wpAny _ _ (isTrue (Expr.Compare (Expr.Attribute (Expr.Name _ _) (PySem.Str.ofString "name") _) [CmpOp.Eq] [Expr.Constant (Const.str _) _ _] _) _ _) _ _ _); k_dflt (first
    | (refine' test_name (b := false) ?F_61 ?hv_61 ?X_61 ?N_61 ?R_61 ?hb_61 ?_ ?hk_61 ?hl_61 ?hd_61; (case F_61 => k_asm); (case X_61 => k_asm); (case N_61 => k_asm); (case hv_61 => exact rfl); (case R_61 => ktd_rel); (case hb_61 => (dsimp only [nm]; decide)); (case hk_61 => exact rfl); (case hl_61 => exact rfl); (case hd_61 => decide); k_whole; intro tk9)
    | (refine' test_name (b := true) ?F_61 ?hv_61 ?X_61 ?N_61 ?R_61 ?hb_61 ?_ ?hk_61 ?hl_61 ?hd_61; (case F_61 => k_asm); (case X_61 => k_asm); (case N_61 => k_asm); (case hv_61 => exact rfl); (case R_61 => ktd_rel); (case hb_61 => (dsimp only [nm]; decide)); (case hk_61 => exact rfl); (case hl_61 => exact rfl); (case hd_61 => decide); k_whole; intro tk9))))
  trivial
section
theorem spineC_all : ∀ t : Rx, (spineC t).all cbe = cbe t
  | .cat l r => by simp [spineC, cbe, spineC_all l]
  | .chr _ => by simp [spineC]
  | .empty => by simp [spineC]
  | .never => by simp [spineC]
  | .alt _ _ => by simp [spineC]
  | .star _ => by simp [spineC]
  | .plus _ => by simp [spineC]
  | .opt _ => by simp [spineC]
  | .rep _ _ _ => by simp [spineC]
theorem spineA_any : ∀ t : Rx, (spineA t).any cbe = cbe t
  | .alt l r => by simp [spineA, cbe, spineA_any l]
  | .chr _ => by simp [spineA]
  | .empty => by simp [spineA]
  | .never => by simp [spineA]
  | .cat _ _ => by simp [spineA]
  | .star _ => by simp [spineA]
  | .plus _ => by simp [spineA]
  | .opt _ => by simp [spineA]
  | .rep _ _ _ => by simp [spineA]
theorem spineC_le : ∀ (t : Rx), ∀ x ∈ spineC t, x.ht ≤ t.ht
  | .cat l r, x, h => by
    rcases List.mem_append.mp h with h | h
    · have := spineC_le l x h; simp only [Rx.ht]; omega
    · obtain rfl := List.mem_singleton.mp h; simp only [Rx.ht]; omega
  | .chr _, x, h => by obtain rfl := List.mem_singleton.mp h; exact Nat.le_refl _
  | .empty, x, h => by obtain rfl := List.mem_singleton.mp h; exact Nat.le_refl _
  | .never, x, h => by obtain rfl := List.mem_singleton.mp h; exact Nat.le_refl _
  | .alt _ _, x, h => by obtain rfl := List.mem_singleton.mp h; exact Nat.le_refl _
  | .star _, x, h => by obtain rfl := List.mem_singleton.mp h; exact Nat.le_refl _
  | .plus _, x, h => by obtain rfl := List.mem_singleton.mp h; exact Nat.le_refl _
  | .opt _, x, h => by obtain rfl := List.mem_singleton.mp h; exact Nat.le_refl _
  | .rep _ _ _, x, h => by obtain rfl := List.mem_singleton.mp h; exact Nat.le_refl _
theorem spineA_le : ∀ (t : Rx), ∀ x ∈ spineA t, x.ht ≤ t.ht
  | .alt l r, x, h => by
    rcases List.mem_append.mp h with h | h
    · have := spineA_le l x h; simp only [Rx.ht]; omega
    · obtain rfl := List.mem_singleton.mp h; simp only [Rx.ht]; omega
  | .chr _, x, h => by obtain rfl := List.mem_singleton.mp h; exact Nat.le_refl _
  | .empty, x, h => by obtain rfl := List.mem_singleton.mp h; exact Nat.le_refl _
  | .never, x, h => by obtain rfl := List.mem_singleton.mp h; exact Nat.le_refl _
  | .cat _ _, x, h => by obtain rfl := List.mem_singleton.mp h; exact Nat.le_refl _
  | .star _, x, h => by obtain rfl := List.mem_singleton.mp h; exact Nat.le_refl _
  | .plus _, x, h => by obtain rfl := List.mem_singleton.mp h; exact Nat.le_refl _
  | .opt _, x, h => by obtain rfl := List.mem_singleton.mp h; exact Nat.le_refl _
  | .rep _ _ _, x, h => by obtain rfl := List.mem_singleton.mp h; exact Nat.le_refl _
theorem spineC_lt {l r x : Rx} (h : x ∈ spineC (.cat l r)) : x.ht < (Rx.cat l r).ht := by
  rcases List.mem_append.mp h with h | h
  · have := spineC_le l x h; simp only [Rx.ht]; omega
  · obtain rfl := List.mem_singleton.mp h; simp only [Rx.ht]; omega
theorem spineA_lt {l r x : Rx} (h : x ∈ spineA (.alt l r)) : x.ht < (Rx.alt l r).ht := by
  rcases List.mem_append.mp h with h | h
  · have := spineA_le l x h; simp only [Rx.ht]; omega
  · obtain rfl := List.mem_singleton.mp h; simp only [Rx.ht]; omega

def CbeTo (w : World) (p : Program) (loose : List Str) (mean : ExcName → Option Value) (mg mb : Str → Option Value) (n : Nat) : Prop :=
  ∀ (t : Rx) (news : Led) (v : Value), NIn news v t → t.ht < n → Tell w p loose mean mg mb 517 [v] news (t.ht + 4) (fun r _ => r = .bool (cbe t))
theorem lines_8 : True := by
  (k_with "call ref" => (k_here; (with_reducible show wpAny _ _ (call (Value.ref 468) _) _ _ _); first | ktf_call (spineC_spec _ _ _ _ _ _ _ _ _ _ _ rfl (by omega) (by ktd_rel)) | ktf_call (spineA_spec _ _ _ _ _ _ _ _ _ _ _ rfl (by omega) (by ktd_rel))))
  (k_with "call ref" => (k_here; (with_reducible show wpAny _ _ (call (Value.ref 517) _) _ _ _); (with_reducible rename CbeTo _ _ _ _ _ _ _ => IH9); k_dflt (refine' tell_val ?C_63 ?B_63 ?F_63 ?X_63 ?N_63 ?T_63 ?hk_63 ?hd_63 ?hu_63 ?_; (case B_63 => k_asm); (case F_63 => k_asm); (case X_63 => k_asm); (case T_63 => k_asm); (case N_63 => k_asm); (case C_63 => exact (IH9 _ _ _ (by ktd_rel) (by simp only [Rx.ht] at *; omega))); (case hk_63 => first | exact rfl | assumption); (case hd_63 => ktr_units); (case hu_63 => ktr_units); k_whole; intro tl9 h9 tk9 F9 N9 hl9)))
  trivial
theorem cbe_step (w : World) (p : Program) (loose : List Str) (mean : ExcName → Option Value) (mg mb : Str → Option Value) (t : Rx) (hh : t.ht ≤ 20)
    (IH : CbeTo w p loose mean mg mb t.ht)
    (news : Led) (v : Value) (R : NIn news v t) : Tell w p loose mean mg mb 517 [v] news (t.ht + 4) (fun r _ => r = .bool (cbe t)) := by
  have R0 := R
  cases R with
  | @cat a d n h1 t1 v1 h2 t2 u1 l r m1 m2 R1 R2 =>
    unfold Tell
    w_top off
    k_fill
    intro dp un gd cn cs ca ccd cl outer A₀ base h₀ L mm0 ss0 Q E B F X N T hk hdp hu hret
    refine wpAny_call ?_
    ktn_open
    k_steps
    rename NList _ _ _ => hL
    rename News _ _ _ _ => N9
    rename Fr _ _ _ _ => F9
    obtain ⟨la, ln, lvs, rfl, hl, hA⟩ := hL
    refine iter_led (fun i m nx => nx = _ ∧ ((spineC (Rx.cat l r)).take i).all cbe = true) rfl hl F9 N9 ⟨rfl, rfl⟩ (fun _ _ _ ⟨e, _⟩ => e ▸ hl) ?_ ?_
    · intro i v m₁ nx I oI h tk hv hP1 hoff _ F2 N2
      (try ((with_reducible show wpAny _ _ _ _ _ _); k_fold))
      obtain ⟨rfl, hJ⟩ := hP1
      obtain ⟨t1, R1, ht1⟩ := hA.get (by simpa using hv)
      have hlt := spineC_lt (List.mem_of_getElem? ht1)
      k_steps
      · rename (cbe _ = true) => hc
        rename News _ _ _ _ => N3
        refine ⟨_, _, _, _, rfl, by k_asm, news_sub N3 (by ktd_sub), hoff, rfl, ?_⟩
        rw [List.take_add_one, ht1, List.all_append, hJ]; simp [hc]
      · rename (cbe _ = false) => hc
        dsimp only [TurnEnd]
        k_steps
        refine hret _ [] _ _ (by k_asm) (news_fin0 (by k_asm) (by ktd_sub)) (fun _ _ _ h => nomatch h) ?_
        rw [← spineC_all]
        have : (spineC (Rx.cat l r)).all cbe = false := List.all_eq_false.mpr ⟨t1, List.mem_of_getElem? ht1, by rw [hc]; decide⟩
        rw [this]
    · intro m₁ nx h tk hP1 F2 N2
      (try ((with_reducible show wpAny _ _ _ _ _ _); k_fold))
      obtain ⟨rfl, hJ⟩ := hP1
      k_steps
      refine hret _ [] _ _ (by k_asm) (news_fin0 (by k_asm) (by ktd_sub)) (fun _ _ _ h => nomatch h) ?_
      rw [List.size_toArray, hA.len, List.take_length, spineC_all] at hJ
      rw [hJ]
  | @alt a d n h1 t1 v1 h2 t2 u1 l r m1 m2 R1 R2 =>
    unfold Tell
    w_top off
    k_fill
    intro dp un gd cn cs ca ccd cl outer A₀ base h₀ L mm0 ss0 Q E B F X N T hk hdp hu hret
    refine wpAny_call ?_
    ktn_open
    k_steps
    rename NList _ _ _ => hL
    rename News _ _ _ _ => N9
    rename Fr _ _ _ _ => F9
    obtain ⟨la, ln, lvs, rfl, hl, hA⟩ := hL
    refine iter_led (fun i m nx => nx = _ ∧ ((spineA (Rx.alt l r)).take i).any cbe = false) rfl hl F9 N9 ⟨rfl, rfl⟩ (fun _ _ _ ⟨e, _⟩ => e ▸ hl) ?_ ?_
    · intro i v m₁ nx I oI h tk hv hP1 hoff _ F2 N2
      (try ((with_reducible show wpAny _ _ _ _ _ _); k_fold))
      obtain ⟨rfl, hJ⟩ := hP1
      obtain ⟨t1, R1, ht1⟩ := hA.get (by simpa using hv)
      have hlt := spineA_lt (List.mem_of_getElem? ht1)
      k_steps
      · rename (cbe _ = true) => hc
        dsimp only [TurnEnd]
        k_steps
        refine hret _ [] _ _ (by k_asm) (news_fin0 (by k_asm) (by ktd_sub)) (fun _ _ _ h => nomatch h) ?_
        rw [← spineA_any]
        have : (spineA (Rx.alt l r)).any cbe = true := List.any_eq_true.mpr ⟨t1, List.mem_of_getElem? ht1, hc⟩
        rw [this]
      · rename (cbe _ = false) => hc
        rename News _ _ _ _ => N3
        refine ⟨_, _, _, _, rfl, by k_asm, news_sub N3 (by ktd_sub), hoff, rfl, ?_⟩
        rw [List.take_add_one, ht1, List.any_append, hJ]; simp [hc]
    · intro m₁ nx h tk hP1 F2 N2
      (try ((with_reducible show wpAny _ _ _ _ _ _); k_fold))
      obtain ⟨rfl, hJ⟩ := hP1
      k_steps
      refine hret _ [] _ _ (by k_asm) (news_fin0 (by k_asm) (by ktd_sub)) (fun _ _ _ h => nomatch h) ?_
      rw [List.size_toArray, hA.len, List.take_length, spineA_any] at hJ
      rw [hJ]
  | plus m1 m2 R1 =>
    unfold Tell
    w_top off
    k_fill
    intro dp un gd cn cs ca ccd cl outer A₀ base h₀ L mm0 ss0 Q E B F X N T hk hdp hu hret
    refine wpAny_call ?_
    ktn_open; k_steps; refine hret _ [] _ _ (by k_asm) (news_fin0 (by k_asm) (by ktd_sub)) (fun _ _ _ h => nomatch h) ?_; rfl
  | @rep a d n h t v h1 t1 h2 t2 tl th b low high m1 m2 R1 =>
    unfold Tell
    w_top off
    k_fill
    intro dp un gd cn cs ca ccd cl outer A₀ base h₀ L mm0 ss0 Q E B F X N T hk hdp hu hret
    refine wpAny_call ?_
    ktn_open
    k_steps
    · refine hret _ [] _ _ (by k_asm) (news_fin0 (by k_asm) (by ktd_sub)) (fun _ _ _ h => nomatch h) ?_; rename (_ = (0 : Int)) => hz; have : low = 0 := by omega
      simp [cbe, this]
    · refine hret _ [] _ _ (by k_asm) (news_fin0 (by k_asm) (by ktd_sub)) (fun _ _ _ h => nomatch h) ?_; rename (¬ _ = (0 : Int)) => hz; have : (low == 0) = false := by simp; omega
      simp [cbe, this]
  | @repN a d n h t v h1 t1 h2 t2 tl b low m1 m2 R1 =>
    unfold Tell
    w_top off
    k_fill
    intro dp un gd cn cs ca ccd cl outer A₀ base h₀ L mm0 ss0 Q E B F X N T hk hdp hu hret
    refine wpAny_call ?_
    ktn_open
    k_steps
    · refine hret _ [] _ _ (by k_asm) (news_fin0 (by k_asm) (by ktd_sub)) (fun _ _ _ h => nomatch h) ?_; rename (_ = (0 : Int)) => hz; have : low = 0 := by omega
      simp [cbe, this]
    · refine hret _ [] _ _ (by k_asm) (news_fin0 (by k_asm) (by ktd_sub)) (fun _ _ _ h => nomatch h) ?_; rename (¬ _ = (0 : Int)) => hz; have : (low == 0) = false := by simp; omega
      simp [cbe, this]
  | _ =>
    unfold Tell
    w_top off
    k_fill
    intro dp un gd cn cs ca ccd cl outer A₀ base h₀ L mm0 ss0 Q E B F X N T hk hdp hu hret
    refine wpAny_call ?_
    ktn_open; k_steps; refine hret _ [] _ _ (by k_asm) (news_fin0 (by k_asm) (by ktd_sub)) (fun _ _ _ h => nomatch h) ?_; rfl

theorem cbe_spec (w : World) (p : Program) (loose : List Str) (mean : ExcName → Option Value) (mg mb : Str → Option Value) : ∀ n, n ≤ 21 → CbeTo w p loose mean mg mb n
  | 0, _ => fun _ _ _ _ h => absurd h (Nat.not_lt_zero _)
  | n + 1, hn => fun t news v R h => cbe_step w p loose mean mg mb t (by omega) (fun t' news' v' R' h' => cbe_spec w p loose mean mg mb n (by omega) t' news' v' R' (by omega)) news v R
end
theorem lines_9 : True := by
  k_with_none
  (k_with "ktr_room" => ((try simp only [depth_under_make, depth_under_kw, depth_in1, depth_deeper, depth_caller, recursionLimit, Rx.ht] at *); (try dsimp only [ktrTop] at *); first | exact ar_r0 (by assumption) | exact ar_r1 (by assumption) | exact ar_r2 (by assumption) | omega))
  (k_with "k_mem" => with_reducible first | assumption | exact List.mem_cons_self | (refine List.mem_cons_of_mem _ ?_; k_mem) | (refine List.mem_append.mpr (Or.inl ?_); k_mem) | (refine List.mem_append.mpr (Or.inr ?_); k_mem))
  (k_with "ktn_open" => ((k_dflt ktr_enter); (try ((with_reducible show wpAny _ _ _ _ _ _); k_fold))))
  (k_with "tb_start" => (k_dflt (refine' code_defC ?k1_67 ?k2_67 ?k3_67 ?k4_67 ?k5_67 ?kA_67 ?kF_67 ?kK_67 ?k6_67 ?k7_67 ?k8_67 ?k9_67 ?kB_67 ?kD_67 ?_ ?c2_67 ?c3_67 ?c4_67; (case kA_67 => exact rfl); (case kF_67 => exact rfl); (case kK_67 => assumption); (case k1_67 => k_asm); (case k2_67 => k_asm); (case k3_67 => k_asm); (case k4_67 => k_asm); (case k5_67 => k_asm); (case k6_67 => k_is); (case k7_67 => k_is); (case k8_67 => ktr_room); (case k9_67 => exact BindsTo.of_eq rfl); (case kB_67 => exact rfl); (case kD_67 => decide +kernel); (case c2_67 => exact rfl); (case c3_67 => exact rfl); (case c4_67 => exact rfl); k_whole; intro g' L' h' tk' cells' FG' F' N' Y' B' X' T' l1; (try k_lt l1); k_cells Y'; (try simp only [List.cons_append, List.nil_append] at N'); (try dsimp only); (try ((with_reducible show wpAny _ _ _ _ _ _); k_fold))); (try ((with_reducible show wpAny _ _ _ _ _ _); k_fold))))
  (k_with "ktr_units" => (simp only [depth_under_make, depth_under_kw, depth_in1, depth_deeper, depth_caller, recursionLimit, units_in1, units_deeper, Around.mark_units, units_caller, cLine, Rx.ht] at *; (try dsimp only [ktrTop] at *); first | exact ar_r0 (by assumption) | exact ar_r1 (by assumption) | exact ar_r2 (by assumption) | exact ar_d (by assumption) (by decide) | exact ar_b (by assumption) (by decide) | exact ar_l (by assumption) (by decide) | exact ar_m (by assumption) (by decide) | exact ar_u (by assumption) (by decide) | exact ar_ub (by assumption) (by decide) | exact ar_ul (by assumption) (by decide) | exact ar_um (by assumption) (by decide) | exact ar_c (by assumption) | omega))
  (k_with "ktd_rel" => first | assumption | exact NIn.mono (by assumption) (by ktd_sub) | exact TIn.mono (by assumption) (by ktd_sub) | exact CIn.mono (by assumption) (by ktd_sub) | exact DIn.mono (by assumption) (by ktd_sub))
  (k_with "tell 1" => (refine' tell_use ?tlC ?tlB ?tlF ?tlX ?tlN ?tlT ?tlhk ?tlhd ?tlhu ?_; (case tlB => k_asm); (case tlF => k_asm); (case tlX => k_asm); (case tlT => k_asm); (case tlN => k_asm)))
  (k_with "tell 2" => ((case tlhk => first | exact rfl | assumption); (case tlhd => ktr_units); (case tlhu => ktr_units); k_whole))
  (k_with "ite" => with_reducible (first | apply ite_ff9 | apply ite_tt9))
  (k_with "k_room" => ktr_units)
  (k_with "ktd_sub" => first | exact fun _ h => h | (intro p9 h9; (try simp only [List.mem_append, List.mem_cons] at h9 ⊢); (repeat' (first | (simp only [h9, true_or, or_true]; done) | ((with_reducible refine Or.elim h9 ?_ ?_) <;> (clear h9; intro h9))))))
  (k_with "k_steps" => ((try ((with_reducible show wpAny _ _ _ _ _ _); k_fold)); repeat' (first | ((with_reducible show wpAny _ _ (exec _ _) _ _ _); k_fold) | (k_unfold; (try dsimp only)) | (k_end; wrow_close) | walk1 | (dsimp only; walk1) | (leave1; walk_say "STEP leave1"; try dsimp only) | fail "no step")))
  (k_with "k_handed" => first | exact NIn.handed (by assumption) | exact SpIn.handed (by assumption))
  (k_with "isTrue Compare" => (k_here; (with_reducible show wpAny _ _ (isTrue (Expr.Compare (Expr.Attribute (Expr.Name _ _) (PySem.Str.ofString "name") _) [CmpOp.Eq] [Expr.Constant (Const.str _) _ _] _) _ _) _ _ _); k_dflt (first
    | (refine' test_name (b := false) ?F_77 ?hv_77 ?X_77 ?N_77 ?R_77 ?hb_77 ?_ ?hk_77 ?hl_77 ?hd_77; (case F_77 => k_asm); (case X_77 => k_asm); (case N_77 => k_asm); (case hv_77 => exact rfl); (case R_77 => ktd_rel); (case hb_77 => (dsimp only [nm]; decide)); (case hk_77 => exact rfl); (case hl_77 => exact rfl); (case hd_77 => decide); k_whole; intro tk9)
    | (refine' test_name (b := true) ?F_77 ?hv_77 ?X_77 ?N_77 ?R_77 ?hb_77 ?_ ?hk_77 ?hl_77 ?hd_77; (case F_77 => k_asm); (case X_77 => k_asm); (case N_77 => k_asm); (case hv_77 => exact rfl); (case R_77 => ktd_rel); (case hb_77 => (dsimp only [nm]; decide)); (case hk_77 => exact rfl); (case hl_77 => exact rfl); (case hd_77 => decide); k_whole; intro tk9))))
  trivial
noncomputable def toldF : Rx → Addr
  | .chr _ => 304 | .empty => 252 | .never => 252
  | .cat _ _ => 337 | .alt _ _ => 337
  | .star _ => 394 | .plus _ => 394 | .opt _ => 394
  | .rep _ _ _ => 456
def ToldTo (w : World) (p : Program) (loose : List Str) (mean : ExcName → Option Value) (mg mb : Str → Option Value) (n : Nat) : Prop :=
  ∀ (t : Rx) (news : Led) (v : Value), NIn news v t → t.ht < n → Tell w p loose mean mg mb (toldF t) [v] news (t.ht + 6) (fun r nw => CIn nw r t)
theorem told_meth {w : World} {p : Program} {loose : List Str} {mean : ExcName → Option Value} {mg mb : Str → Option Value} {n : Nat} {t : Rx} {v : Value} {news : Led} {dp un : Nat} {gd : Option (List Code)} {cn : Str} {cs : Scope} {a : Addr} {ccd : Value} {cl : List (Str × Addr)} {outer : List Env} {A₀ : Around} {base h₀ : Heap} {L : Addr} {m : Str → Option Value} {s : Shared}
    {Q E : Value → Shared → Prop} {pl : Sem Bool} {pos : Pos} {env : Env} (C : ToldTo w p loose mean mg mb n) (B : Below A₀ base outer h₀) (F : Fr h₀ L s.heap m) (X : (hd.heap_1 w.params).In h₀) (N : News h₀ L s.heap news) (T : Top p loose mean mg mb h₀) (hk : cs.kind = .function)
    (R : NIn news v t) (hn : t.ht < n) (hdp : dp + (t.ht + 6) < 600) (hu : un + 8 * (t.ht + 6) < 6000)
    (ret : ∀ r tl h' tk', Fr h₀ L h' m → News h₀ L h' (news ++ tl) → (∀ q ∈ news, ∀ p ∈ tl, q.1 ≠ p.1) → CIn (news ++ tl) r t → Q r { s with heap := h', toks := tk' }) :
    wpAny (model PySem.Challenge.rw_nn0369_01.row.prog w) (ktrTop dp un gd cn cs L a ccd cl outer) (getMethod v (Str.ofString "told") pl)
      (fun fx s₂ => wpAny (model PySem.Challenge.rw_nn0369_01.row.prog w) (ktrTop dp un gd cn cs L a ccd cl outer) (callWith pos fx.1 fx.2 (backTo pos (starEach [] env)) []) Q E s₂) E s := by
  have D := tell_use (gd := gd) (cn := cn) (a := a) (ccd := ccd) (cl := cl) (Q := Q) (E := E) (C t news v R hn) B F X N T hk hdp hu ret
  clear C hdp hu ret hn
  revert X D
  w_top off
  k_fill
  intro X D
  cases R <;> (walk1; walk1; exact D)
section
theorem lines_10 : True := by
  (k_with "call ref" => (k_here; (with_reducible show wpAny _ _ (call (Value.ref 468) _) _ _ _); first | ktf_call (spineC_spec _ _ _ _ _ _ _ _ _ _ _ rfl (by simp only [Rx.ht] at *; omega) (by ktd_rel)) | ktf_call (spineA_spec _ _ _ _ _ _ _ _ _ _ _ rfl (by simp only [Rx.ht] at *; omega) (by ktd_rel))))
  trivial
theorem lines_11 : True := by
  (k_with "getMethod" => (k_here; (with_reducible show wpAny _ _ (getMethod _ (PySem.Str.ofString "told") _) _ _ _); (with_reducible rename ToldTo _ _ _ _ _ _ _ => IH9); k_dflt (refine' told_meth IH9 ?B_79 ?F_79 ?X_79 ?N_79 ?T_79 ?hk_79 ?R_79 ?lt_79 ?hd_79 ?hu_79 ?_; (case B_79 => k_asm); (case F_79 => k_asm); (case X_79 => k_asm); (case T_79 => k_asm); (case N_79 => k_asm); (case R_79 => ktd_rel); (case lt_79 => (simp only [Rx.ht] at *; omega)); (case hk_79 => first | exact rfl | assumption); (case hd_79 => ktr_units); (case hu_79 => ktr_units); k_whole); intro r9 tl9 h9 tk9 F9 N9 hl9 ho9))
  trivial
theorem spineC_cons : ∀ t : Rx, ∃ p ps, spineC t = p :: ps
  | .cat l r => by obtain ⟨p, ps, e⟩ := spineC_cons l; exact ⟨p, ps ++ [r], by simp [spineC, e]⟩
  | .chr _ => ⟨_, _, rfl⟩ | .empty => ⟨_, _, rfl⟩ | .never => ⟨_, _, rfl⟩ | .alt _ _ => ⟨_, _, rfl⟩
  | .star _ => ⟨_, _, rfl⟩ | .plus _ => ⟨_, _, rfl⟩ | .opt _ => ⟨_, _, rfl⟩ | .rep _ _ _ => ⟨_, _, rfl⟩
theorem spineA_cons : ∀ t : Rx, ∃ p ps, spineA t = p :: ps
  | .alt l r => by obtain ⟨p, ps, e⟩ := spineA_cons l; exact ⟨p, ps ++ [r], by simp [spineA, e]⟩
  | .chr _ => ⟨_, _, rfl⟩ | .empty => ⟨_, _, rfl⟩ | .never => ⟨_, _, rfl⟩ | .cat _ _ => ⟨_, _, rfl⟩
  | .star _ => ⟨_, _, rfl⟩ | .plus _ => ⟨_, _, rfl⟩ | .opt _ => ⟨_, _, rfl⟩ | .rep _ _ _ => ⟨_, _, rfl⟩
theorem refoldC : ∀ (t : Rx) (p : Rx) (ps : List Rx), spineC t = p :: ps → ps.foldl .cat p = t
  | .cat l r, p, ps, e => by
    obtain ⟨q, qs, e2⟩ := spineC_cons l
    simp only [spineC, e2, List.cons_append, List.cons.injEq] at e
    obtain ⟨rfl, rfl⟩ := e
    rw [List.foldl_append, refoldC l _ _ e2]; rfl
  | .chr _, p, ps, e => by simp only [spineC, List.cons.injEq] at e; obtain ⟨rfl, rfl⟩ := e; rfl
  | .empty, p, ps, e => by simp only [spineC, List.cons.injEq] at e; obtain ⟨rfl, rfl⟩ := e; rfl
  | .never, p, ps, e => by simp only [spineC, List.cons.injEq] at e; obtain ⟨rfl, rfl⟩ := e; rfl
  | .alt _ _, p, ps, e => by simp only [spineC, List.cons.injEq] at e; obtain ⟨rfl, rfl⟩ := e; rfl
  | .star _, p, ps, e => by simp only [spineC, List.cons.injEq] at e; obtain ⟨rfl, rfl⟩ := e; rfl
  | .plus _, p, ps, e => by simp only [spineC, List.cons.injEq] at e; obtain ⟨rfl, rfl⟩ := e; rfl
  | .opt _, p, ps, e => by simp only [spineC, List.cons.injEq] at e; obtain ⟨rfl, rfl⟩ := e; rfl
  | .rep _ _ _, p, ps, e => by simp only [spineC, List.cons.injEq] at e; obtain ⟨rfl, rfl⟩ := e; rfl
theorem refoldA : ∀ (t : Rx) (p : Rx) (ps : List Rx), spineA t = p :: ps → ps.foldl .alt p = t
  | .alt l r, p, ps, e => by
    obtain ⟨q, qs, e2⟩ := spineA_cons l
    simp only [spineA, e2, List.cons_append, List.cons.injEq] at e
    obtain ⟨rfl, rfl⟩ := e
    rw [List.foldl_append, refoldA l _ _ e2]; rfl
  | .chr _, p, ps, e => by simp only [spineA, List.cons.injEq] at e; obtain ⟨rfl, rfl⟩ := e; rfl
  | .empty, p, ps, e => by simp only [spineA, List.cons.injEq] at e; obtain ⟨rfl, rfl⟩ := e; rfl
  | .never, p, ps, e => by simp only [spineA, List.cons.injEq] at e; obtain ⟨rfl, rfl⟩ := e; rfl
  | .cat _ _, p, ps, e => by simp only [spineA, List.cons.injEq] at e; obtain ⟨rfl, rfl⟩ := e; rfl
  | .star _, p, ps, e => by simp only [spineA, List.cons.injEq] at e; obtain ⟨rfl, rfl⟩ := e; rfl
  | .plus _, p, ps, e => by simp only [spineA, List.cons.injEq] at e; obtain ⟨rfl, rfl⟩ := e; rfl
  | .opt _, p, ps, e => by simp only [spineA, List.cons.injEq] at e; obtain ⟨rfl, rfl⟩ := e; rfl
  | .rep _ _ _, p, ps, e => by simp only [spineA, List.cons.injEq] at e; obtain ⟨rfl, rfl⟩ := e; rfl
theorem spineC_len : ∀ t : Rx, (spineC t).length ≤ t.ht + 1
  | .cat l r => by have := spineC_len l; simp only [spineC, List.length_append, List.length_cons, List.length_nil, Rx.ht]; omega
  | .chr _ => by simp [spineC] | .empty => by simp [spineC] | .never => by simp [spineC] | .alt _ _ => by simp [spineC]
  | .star _ => by simp [spineC] | .plus _ => by simp [spineC] | .opt _ => by simp [spineC] | .rep _ _ _ => by simp [spineC]
theorem spineA_len : ∀ t : Rx, (spineA t).length ≤ t.ht + 1
  | .alt l r => by have := spineA_len l; simp only [spineA, List.length_append, List.length_cons, List.length_nil, Rx.ht]; omega
  | .chr _ => by simp [spineA] | .empty => by simp [spineA] | .never => by simp [spineA] | .cat _ _ => by simp [spineA]
  | .star _ => by simp [spineA] | .plus _ => by simp [spineA] | .opt _ => by simp [spineA] | .rep _ _ _ => by simp [spineA]
theorem pick_tail {v : Value} {vs : List Value} : kms_pick (List.toArray (v :: vs)).toList (some 1) none = vs := by
  have h1 : kms_lo (some 1) (v :: vs).length = 1 := by simp [kms_lo]
  have h2 : kms_hi none (v :: vs).length = (v :: vs).length := by simp [kms_hi]
  unfold kms_pick
  rw [h1, h2]
  simp
theorem lines_12 : True := by
  (k_with "subscriptTail" => (k_here; (with_reducible show wpAny _ _ (subscriptTail _ _ (Value.ref _) (Value.int _ _)) _ _ _); (with_unfolding_all refine' item_litK ?k1_80 ?k2_80 ?k3_80 ?k4_80 ?_ ?k6_80; (case k1_80 => exact News.isList (by k_asm) (by k_mem)); (case k2_80 => decide); (case k3_80 => decide); (case k4_80 => rfl); (case k6_80 => with_unfolding_all rfl); k_whole)))
  (k_with "subscriptTail Name Slice ref ref" => (k_here; (with_reducible show wpAny _ _ (subscriptTail _ (PySem.Expr.Slice _ _ none _) (Value.ref _) (Value.ref _)) _ _ _); k_dflt (refine' kms_slice_lit ?F_81 ?N_81 ?l_81 ?p_81 ?q_81 ?e_81 ?_ ?s_81 ?t_81 ?z_81; (case F_81 => k_asm); (case N_81 => k_asm); (case l_81 => exact News.isList (by k_asm) (by k_mem)); (case p_81 => kmk_part); (case q_81 => kmk_part); (case e_81 => exact pick_tail); (case s_81 => with_unfolding_all rfl); (case t_81 => kmk_pure); (case z_81 => assumption)); intro D' h' F' N' l1))
  trivial
theorem SpIn.monoT {nw nw' : Led} {v s} (h : SpIn nw v s) (hs : ∀ p ∈ nw, p.2.cls = .type "tuple" → p ∈ nw') : SpIn nw' v s := by
  cases h with
  | a h1 h2 => exact .a (hs _ h1 rfl) (hs _ h2 rfl)
  | b h1 h2 => exact .b (hs _ h1 rfl) (hs _ h2 rfl)
  | ab h1 h2 => exact .ab (hs _ h1 rfl) (hs _ h2 rfl)
theorem CIn.monoT {nw nw' : Led} {v s} (h : CIn nw v s) (hs : ∀ p ∈ nw, p.2.cls = .type "tuple" → p ∈ nw') : CIn nw' v s := by
  induction h with
  | chars h1 h2 => exact .chars (hs _ h1 rfl) (h2.monoT hs)
  | empty h1 => exact .empty (hs _ h1 rfl)
  | never h1 => exact .never (hs _ h1 rfl)
  | cat h1 _ _ i j => exact .cat (hs _ h1 rfl) i j
  | alt h1 _ _ i j => exact .alt (hs _ h1 rfl) i j
  | star h1 _ i => exact .star (hs _ h1 rfl) i
  | plus h1 _ i => exact .plus (hs _ h1 rfl) i
  | opt h1 _ i => exact .opt (hs _ h1 rfl) i
  | rep h1 _ i => exact .rep (hs _ h1 rfl) i
  | repN h1 _ i => exact .repN (hs _ h1 rfl) i
theorem turn_close {h₀ h : Heap} {L I T : Addr} {o oI : Obj} {nx tl : Led} (N : News h₀ L h ((T, o) :: ((I, oI) :: nx ++ tl))) (hT : ∀ p ∈ (I, oI) :: nx ++ tl, p.1 < T) (hoff : ∀ q ∈ nx, q.1 ≠ I) (hl : ∀ q ∈ (I, oI) :: nx, ∀ p ∈ tl, q.1 ≠ p.1) :
    News h₀ L h ((I, oI) :: ((T, o) :: (nx ++ tl))) ∧ ∀ q ∈ (T, o) :: (nx ++ tl), q.1 ≠ I := by
  refine ⟨fun p hp => N p ?_, fun q hq => ?_⟩
  · rcases List.mem_cons.mp hp with rfl | hp
    · exact .tail _ (.head _)
    · rcases List.mem_cons.mp hp with rfl | hp
      · exact .head _
      · exact .tail _ (.tail _ hp)
  · rcases List.mem_cons.mp hq with rfl | hq
    · exact Ne.symm (Nat.ne_of_lt (hT (I, oI) (.head _)))
    · rcases List.mem_append.mp hq with hq | hq
      · exact hoff q hq
      · exact Ne.symm (hl (I, oI) (.head _) q hq)
theorem take_foldR {ps : List Rx} {i : Nat} {x : Rx} {g : Rx → Rx → Rx} {f : Rx} (h : ps[i]? = some x) : (ps.take (i + 1)).foldl g f = g ((ps.take i).foldl g f) x := by
  rw [List.take_add_one, h]; simp
theorem told_star (w : World) (p : Program) (loose : List Str) (mean : ExcName → Option Value) (mg mb : Str → Option Value) (b : Rx) (t : Rx) (et : t = .star b) (hh : t.ht ≤ 20)
    (IH : ToldTo w p loose mean mg mb t.ht)
    (news : Led) (v : Value) (R : NIn news v t) : Tell w p loose mean mg mb (toldF t) [v] news (t.ht + 6) (fun r nw => CIn nw r t) := by
  subst et
  have R0 := R
  cases R with
  | @star a d n h1 t1 v1 _ m1 m2 R1 =>
    unfold Tell
    w_top off
    k_fill
    intro dp un gd cn cs ca ccd cl outer A₀ base h₀ L mm0 ss0 Q E B F X N T hk hdp hu hret
    simp only [Rx.ht] at hdp hu hh
    dsimp only [toldF]
    refine wpAny_call ?_
    have hfin := fin_all (news := news) (Post := fun r nw => CIn nw r _) hret
    ktn_open
    rename Fr _ _ _ (fun y => List.lookup _ _) => F0
    have F1 : Fr _ _ _ (fun y => List.lookup y [(Str.ofString "self", Value.ref a)]) := F0
    clear F0
    k_steps
    refine hfin _ _ _ _ (by k_asm) (by k_asm) (by ktd_sub) ?_
    intro Y hY
    exact CIn.star (hY _ (by k_mem)) (CIn.mono (by assumption) (subs_trans (by ktd_sub) hY))

theorem told_plus (w : World) (p : Program) (loose : List Str) (mean : ExcName → Option Value) (mg mb : Str → Option Value) (b : Rx) (t : Rx) (et : t = .plus b) (hh : t.ht ≤ 20)
    (IH : ToldTo w p loose mean mg mb t.ht)
    (news : Led) (v : Value) (R : NIn news v t) : Tell w p loose mean mg mb (toldF t) [v] news (t.ht + 6) (fun r nw => CIn nw r t) := by
  subst et
  have R0 := R
  cases R with
  | @plus a d n h1 t1 v1 _ m1 m2 R1 =>
    unfold Tell
    w_top off
    k_fill
    intro dp un gd cn cs ca ccd cl outer A₀ base h₀ L mm0 ss0 Q E B F X N T hk hdp hu hret
    simp only [Rx.ht] at hdp hu hh
    dsimp only [toldF]
    refine wpAny_call ?_
    have hfin := fin_all (news := news) (Post := fun r nw => CIn nw r _) hret
    ktn_open
    rename Fr _ _ _ (fun y => List.lookup _ _) => F0
    have F1 : Fr _ _ _ (fun y => List.lookup y [(Str.ofString "self", Value.ref a)]) := F0
    clear F0
    k_steps
    refine hfin _ _ _ _ (by k_asm) (by k_asm) (by ktd_sub) ?_
    intro Y hY
    exact CIn.plus (hY _ (by k_mem)) (CIn.mono (by assumption) (subs_trans (by ktd_sub) hY))

theorem told_opt (w : World) (p : Program) (loose : List Str) (mean : ExcName → Option Value) (mg mb : Str → Option Value) (b : Rx) (t : Rx) (et : t = .opt b) (hh : t.ht ≤ 20)
    (IH : ToldTo w p loose mean mg mb t.ht)
    (news : Led) (v : Value) (R : NIn news v t) : Tell w p loose mean mg mb (toldF t) [v] news (t.ht + 6) (fun r nw => CIn nw r t) := by
  subst et
  have R0 := R
  cases R with
  | @opt a d n h1 t1 v1 _ m1 m2 R1 =>
    unfold Tell
    w_top off
    k_fill
    intro dp un gd cn cs ca ccd cl outer A₀ base h₀ L mm0 ss0 Q E B F X N T hk hdp hu hret
    simp only [Rx.ht] at hdp hu hh
    dsimp only [toldF]
    refine wpAny_call ?_
    have hfin := fin_all (news := news) (Post := fun r nw => CIn nw r _) hret
    ktn_open
    rename Fr _ _ _ (fun y => List.lookup _ _) => F0
    have F1 : Fr _ _ _ (fun y => List.lookup y [(Str.ofString "self", Value.ref a)]) := F0
    clear F0
    k_steps
    refine hfin _ _ _ _ (by k_asm) (by k_asm) (by ktd_sub) ?_
    intro Y hY
    exact CIn.opt (hY _ (by k_mem)) (CIn.mono (by assumption) (subs_trans (by ktd_sub) hY))

theorem told_rep (w : World) (p : Program) (loose : List Str) (mean : ExcName → Option Value) (mg mb : Str → Option Value) (b : Rx) (low high : Nat) (t : Rx) (et : t = .rep b low (some high)) (hh : t.ht ≤ 20)
    (IH : ToldTo w p loose mean mg mb t.ht)
    (news : Led) (v : Value) (R : NIn news v t) : Tell w p loose mean mg mb (toldF t) [v] news (t.ht + 6) (fun r nw => CIn nw r t) := by
  subst et
  have R0 := R
  cases R with
  | @rep a d n h1 t1 v1 h2 t2 h3 t3 tl th _ _ _ m1 m2 R1 =>
    unfold Tell
    w_top off
    k_fill
    intro dp un gd cn cs ca ccd cl outer A₀ base h₀ L mm0 ss0 Q E B F X N T hk hdp hu hret
    simp only [Rx.ht] at hdp hu hh
    dsimp only [toldF]
    refine wpAny_call ?_
    have hfin := fin_all (news := news) (Post := fun r nw => CIn nw r _) hret
    ktn_open
    rename Fr _ _ _ (fun y => List.lookup _ _) => F0
    have F1 : Fr _ _ _ (fun y => List.lookup y [(Str.ofString "self", Value.ref a)]) := F0
    clear F0
    k_steps
    refine hfin _ _ _ _ (by k_asm) (by k_asm) (by ktd_sub) ?_
    intro Y hY
    exact CIn.rep (hY _ (by k_mem)) (CIn.mono (by assumption) (subs_trans (by ktd_sub) hY))

theorem told_repN (w : World) (p : Program) (loose : List Str) (mean : ExcName → Option Value) (mg mb : Str → Option Value) (b : Rx) (low : Nat) (t : Rx) (et : t = .rep b low none) (hh : t.ht ≤ 20)
    (IH : ToldTo w p loose mean mg mb t.ht)
    (news : Led) (v : Value) (R : NIn news v t) : Tell w p loose mean mg mb (toldF t) [v] news (t.ht + 6) (fun r nw => CIn nw r t) := by
  subst et
  have R0 := R
  cases R with
  | @repN a d n h1 t1 v1 h2 t2 h3 t3 tl _ _ m1 m2 R1 =>
    unfold Tell
    w_top off
    k_fill
    intro dp un gd cn cs ca ccd cl outer A₀ base h₀ L mm0 ss0 Q E B F X N T hk hdp hu hret
    simp only [Rx.ht] at hdp hu hh
    dsimp only [toldF]
    refine wpAny_call ?_
    have hfin := fin_all (news := news) (Post := fun r nw => CIn nw r _) hret
    ktn_open
    rename Fr _ _ _ (fun y => List.lookup _ _) => F0
    have F1 : Fr _ _ _ (fun y => List.lookup y [(Str.ofString "self", Value.ref a)]) := F0
    clear F0
    k_steps
    refine hfin _ _ _ _ (by k_asm) (by k_asm) (by ktd_sub) ?_
    intro Y hY
    exact CIn.repN (hY _ (by k_mem)) (CIn.mono (by assumption) (subs_trans (by ktd_sub) hY))

theorem told_empty (w : World) (p : Program) (loose : List Str) (mean : ExcName → Option Value) (mg mb : Str → Option Value)  (t : Rx) (et : t = .empty) (hh : t.ht ≤ 20)
    (IH : ToldTo w p loose mean mg mb t.ht)
    (news : Led) (v : Value) (R : NIn news v t) : Tell w p loose mean mg mb (toldF t) [v] news (t.ht + 6) (fun r nw => CIn nw r t) := by
  subst et
  have R0 := R
  cases R with
  | @empty a d n m1 m2 =>
    unfold Tell
    w_top off
    k_fill
    intro dp un gd cn cs ca ccd cl outer A₀ base h₀ L mm0 ss0 Q E B F X N T hk hdp hu hret
    simp only [Rx.ht] at hdp hu hh
    dsimp only [toldF]
    refine wpAny_call ?_
    have hfin := fin_all (news := news) (Post := fun r nw => CIn nw r _) hret
    ktn_open
    rename Fr _ _ _ (fun y => List.lookup _ _) => F0
    have F1 : Fr _ _ _ (fun y => List.lookup y [(Str.ofString "self", Value.ref a)]) := F0
    clear F0
    k_steps
    refine hfin _ _ _ _ (by k_asm) (by k_asm) (by ktd_sub) ?_
    intro Y hY
    exact CIn.empty (hY _ (by k_mem))

theorem told_never (w : World) (p : Program) (loose : List Str) (mean : ExcName → Option Value) (mg mb : Str → Option Value)  (t : Rx) (et : t = .never) (hh : t.ht ≤ 20)
    (IH : ToldTo w p loose mean mg mb t.ht)
    (news : Led) (v : Value) (R : NIn news v t) : Tell w p loose mean mg mb (toldF t) [v] news (t.ht + 6) (fun r nw => CIn nw r t) := by
  subst et
  have R0 := R
  cases R with
  | @never a d n m1 m2 =>
    unfold Tell
    w_top off
    k_fill
    intro dp un gd cn cs ca ccd cl outer A₀ base h₀ L mm0 ss0 Q E B F X N T hk hdp hu hret
    simp only [Rx.ht] at hdp hu hh
    dsimp only [toldF]
    refine wpAny_call ?_
    have hfin := fin_all (news := news) (Post := fun r nw => CIn nw r _) hret
    ktn_open
    rename Fr _ _ _ (fun y => List.lookup _ _) => F0
    have F1 : Fr _ _ _ (fun y => List.lookup y [(Str.ofString "self", Value.ref a)]) := F0
    clear F0
    k_steps
    refine hfin _ _ _ _ (by k_asm) (by k_asm) (by ktd_sub) ?_
    intro Y hY
    exact CIn.never (hY _ (by k_mem))

theorem told_chr (w : World) (p : Program) (loose : List Str) (mean : ExcName → Option Value) (mg mb : Str → Option Value) (sg : Lf) (t : Rx) (et : t = .chr sg) (hh : t.ht ≤ 20)
    (IH : ToldTo w p loose mean mg mb t.ht)
    (news : Led) (v : Value) (R : NIn news v t) : Tell w p loose mean mg mb (toldF t) [v] news (t.ht + 6) (fun r nw => CIn nw r t) := by
  subst et
  have R0 := R
  cases R with
  | @chr a d n h1 t1 c dc m h2 t2 v1 s m1 m2 m3 m4 S1 =>
    unfold Tell
    w_top off
    k_fill
    intro dp un gd cn cs ca ccd cl outer A₀ base h₀ L mm0 ss0 Q E B F X N T hk hdp hu hret
    simp only [Rx.ht] at hdp hu hh
    dsimp only [toldF]
    refine wpAny_call ?_
    have hfin := fin_all (news := news) (Post := fun r nw => CIn nw r _) hret
    have S0 := S1
    cases S1
    all_goals (
     ktn_open
     rename Fr _ _ _ (fun y => List.lookup _ _) => F0
     have F1 : Fr _ _ _ (fun y => List.lookup y [(Str.ofString "self", Value.ref a)]) := F0
     clear F0
     k_steps
     refine hfin _ _ _ _ (by k_asm) (by k_asm) (by ktd_sub) ?_
     intro Y hY
     exact CIn.chars (hY _ (by k_mem)) (S0.mono (subs_trans (by ktd_sub) hY)))

theorem told_cat (w : World) (p : Program) (loose : List Str) (mean : ExcName → Option Value) (mg mb : Str → Option Value) (l r : Rx) (t : Rx) (et : t = .cat l r) (hh : t.ht ≤ 20)
    (IH : ToldTo w p loose mean mg mb t.ht)
    (news : Led) (v : Value) (R : NIn news v t) : Tell w p loose mean mg mb (toldF t) [v] news (t.ht + 6) (fun r nw => CIn nw r t) := by
  subst et
  have R0 := R
  cases R with
  | @cat a d n h1 t1 v1 h2 t2 u1 _ _ m1 m2 R1 R2 =>
    unfold Tell
    w_top off
    k_fill
    intro dp un gd cn cs ca ccd cl outer A₀ base h₀ L mm0 ss0 Q E B F X N T hk hdp hu hret
    simp only [Rx.ht] at hdp hu hh
    dsimp only [toldF]
    refine wpAny_call ?_
    have hfin := fin_all (news := news) (Post := fun r nw => CIn nw r _) hret
    ktn_open
    rename Fr _ _ _ (fun y => List.lookup _ _) => F0
    have F1 : Fr _ _ _ (fun y => List.lookup y [(Str.ofString "self", Value.ref a)]) := F0
    clear F0
    iterate 12 walk1
    rename NList _ _ _ => hL
    obtain ⟨la, ln, lvs, rfl, hl, hA⟩ := hL
    obtain ⟨p0, ps, ep⟩ := spineC_cons (Rx.cat l r)
    have hlt := fun y => @spineC_lt l r y
    rw [ep] at hA hlt
    cases hA with
    | @cons v0 _ vs _ R3 hA =>
    have hlt0 := hlt p0 List.mem_cons_self
    have hroom : (List.toArray (v0 :: vs)).size ≤ sizeLine := by
      have h1 := spineC_len (Rx.cat l r)
      have h2 := hA.len
      rw [ep] at h1
      simp only [Rx.ht, List.length_cons] at h1
      rw [List.size_toArray, List.length_cons, sizeLine_eq]
      omega
    iterate 10 walk1
    rename Fr _ _ _ _ => F2
    refine For_invVF F2 (by exact rfl) (by exact rfl) ?_
    iterate 8 walk1
    rename News _ _ _ _ => N3
    rename Fr _ _ _ _ => F3
    rename (CIn _ _ p0) => hT0
    refine iter_led (fun i m nx => Keep [Str.ofString "text", Str.ofString "part"] _ m ∧ (∃ tv, m (Str.ofString "text") = some tv ∧ CIn nx tv ((ps.take i).foldl .cat p0)) ∧ ∀ p ∈ _, p ∈ nx)
      rfl List.mem_cons_self F3 N3 ⟨keep_refl, ⟨_, rfl, hT0.mono (by ktd_sub)⟩, fun _ h => h⟩ (fun _ _ _ ⟨_, _, hs⟩ => hs _ List.mem_cons_self) ?_ ?_
    · intro i v m₁ nx I oI h tk hv hP1 hoff hcI F4 N4
      (try ((with_reducible show wpAny _ _ _ _ _ _); k_fold))
      obtain ⟨hK, ⟨tv, htv, hT⟩, hs⟩ := hP1
      obtain ⟨t1, R1, ht1⟩ := hA.get (by simpa using hv)
      have hlt1 := hlt t1 (List.mem_cons_of_mem _ (List.mem_of_getElem? ht1))
      have hself := keep_get hK (a := Str.ofString "self") (v := Value.ref a) rfl (by decide)
      rw [map_named htv, map_named hself] at F4
      have k1 := hs _ (List.mem_cons_of_mem _ (List.mem_append.mpr (.inl (List.mem_append.mpr (.inl m1)))))
      have k2 := hs _ (List.mem_cons_of_mem _ (List.mem_append.mpr (.inl (List.mem_append.mpr (.inl m2)))))
      have R1' : NIn ((I, oI) :: nx) v t1 := R1.mono (fun p hp => List.mem_cons_of_mem _ (hs p (List.mem_cons_of_mem _ (List.mem_append.mpr (.inl hp)))))
      k_steps
      rename (CIn _ _ t1) => hT1
      rename News _ _ _ _ => N5
      rename Fr _ _ _ _ => F5
      rename (∀ (p : Addr × Obj), p ∈ _ → p.1 < _) => hl5
      rename (∀ (q : Addr × Obj), q ∈ _ → ∀ (p : Addr × Obj), p ∈ _ → q.1 ≠ p.1) => hl9
      obtain ⟨N6, ho6⟩ := turn_close N5 hl5 hoff hl9
      refine ⟨_, _, _, _, rfl, F5, N6, ho6, keep_set (keep_set (keep_set (keep_named hK hself) (by decide)) (by decide)) (by decide), ⟨_, if_pos rfl, ?_⟩, fun p hp => List.mem_cons_of_mem _ (List.mem_append.mpr (.inl (hs p hp)))⟩
      rw [take_foldR ht1]
      exact CIn.cat List.mem_cons_self (hT.mono fun p hp => List.mem_cons_of_mem _ (List.mem_append.mpr (.inl hp))) (hT1.monoT fun p hp hc => by
        rcases List.mem_append.mp hp with hp | hp
        · rcases List.mem_cons.mp hp with rfl | hp
          · exact absurd (hcI.symm.trans hc) (by decide)
          · exact List.mem_cons_of_mem _ (List.mem_append.mpr (.inl hp))
        · exact List.mem_cons_of_mem _ (List.mem_append.mpr (.inr hp)))
    · intro m₁ nx h tk hP1 F4 N4
      (try ((with_reducible show wpAny _ _ _ _ _ _); k_fold))
      obtain ⟨hK, ⟨tv, htv, hT⟩, hs⟩ := hP1
      rw [map_named htv] at F4
      k_steps
      rw [List.size_toArray, hA.len, List.take_length, refoldC _ _ _ ep] at hT
      refine hfin _ _ _ _ (by k_asm) (by k_asm) (fun p hp => hs p (by k_mem)) ?_
      exact fun Y hY => hT.mono hY

theorem told_alt (w : World) (p : Program) (loose : List Str) (mean : ExcName → Option Value) (mg mb : Str → Option Value) (l r : Rx) (t : Rx) (et : t = .alt l r) (hh : t.ht ≤ 20)
    (IH : ToldTo w p loose mean mg mb t.ht)
    (news : Led) (v : Value) (R : NIn news v t) : Tell w p loose mean mg mb (toldF t) [v] news (t.ht + 6) (fun r nw => CIn nw r t) := by
  subst et
  have R0 := R
  cases R with
  | @alt a d n h1 t1 v1 h2 t2 u1 _ _ m1 m2 R1 R2 =>
    unfold Tell
    w_top off
    k_fill
    intro dp un gd cn cs ca ccd cl outer A₀ base h₀ L mm0 ss0 Q E B F X N T hk hdp hu hret
    simp only [Rx.ht] at hdp hu hh
    dsimp only [toldF]
    refine wpAny_call ?_
    have hfin := fin_all (news := news) (Post := fun r nw => CIn nw r _) hret
    ktn_open
    rename Fr _ _ _ (fun y => List.lookup _ _) => F0
    have F1 : Fr _ _ _ (fun y => List.lookup y [(Str.ofString "self", Value.ref a)]) := F0
    clear F0
    iterate 12 walk1
    rename NList _ _ _ => hL
    obtain ⟨la, ln, lvs, rfl, hl, hA⟩ := hL
    obtain ⟨p0, ps, ep⟩ := spineA_cons (Rx.alt l r)
    have hlt := fun y => @spineA_lt l r y
    rw [ep] at hA hlt
    cases hA with
    | @cons v0 _ vs _ R3 hA =>
    have hlt0 := hlt p0 List.mem_cons_self
    have hroom : (List.toArray (v0 :: vs)).size ≤ sizeLine := by
      have h1 := spineA_len (Rx.alt l r)
      have h2 := hA.len
      rw [ep] at h1
      simp only [Rx.ht, List.length_cons] at h1
      rw [List.size_toArray, List.length_cons, sizeLine_eq]
      omega
    iterate 10 walk1
    rename Fr _ _ _ _ => F2
    refine For_invVF F2 (by exact rfl) (by exact rfl) ?_
    iterate 8 walk1
    rename News _ _ _ _ => N3
    rename Fr _ _ _ _ => F3
    rename (CIn _ _ p0) => hT0
    refine iter_led (fun i m nx => Keep [Str.ofString "text", Str.ofString "part"] _ m ∧ (∃ tv, m (Str.ofString "text") = some tv ∧ CIn nx tv ((ps.take i).foldl .alt p0)) ∧ ∀ p ∈ _, p ∈ nx)
      rfl List.mem_cons_self F3 N3 ⟨keep_refl, ⟨_, rfl, hT0.mono (by ktd_sub)⟩, fun _ h => h⟩ (fun _ _ _ ⟨_, _, hs⟩ => hs _ List.mem_cons_self) ?_ ?_
    · intro i v m₁ nx I oI h tk hv hP1 hoff hcI F4 N4
      (try ((with_reducible show wpAny _ _ _ _ _ _); k_fold))
      obtain ⟨hK, ⟨tv, htv, hT⟩, hs⟩ := hP1
      obtain ⟨t1, R1, ht1⟩ := hA.get (by simpa using hv)
      have hlt1 := hlt t1 (List.mem_cons_of_mem _ (List.mem_of_getElem? ht1))
      have hself := keep_get hK (a := Str.ofString "self") (v := Value.ref a) rfl (by decide)
      rw [map_named htv, map_named hself] at F4
      have k1 := hs _ (List.mem_cons_of_mem _ (List.mem_append.mpr (.inl (List.mem_append.mpr (.inl m1)))))
      have k2 := hs _ (List.mem_cons_of_mem _ (List.mem_append.mpr (.inl (List.mem_append.mpr (.inl m2)))))
      have R1' : NIn ((I, oI) :: nx) v t1 := R1.mono (fun p hp => List.mem_cons_of_mem _ (hs p (List.mem_cons_of_mem _ (List.mem_append.mpr (.inl hp)))))
      k_steps
      rename (CIn _ _ t1) => hT1
      rename News _ _ _ _ => N5
      rename Fr _ _ _ _ => F5
      rename (∀ (p : Addr × Obj), p ∈ _ → p.1 < _) => hl5
      rename (∀ (q : Addr × Obj), q ∈ _ → ∀ (p : Addr × Obj), p ∈ _ → q.1 ≠ p.1) => hl9
      obtain ⟨N6, ho6⟩ := turn_close N5 hl5 hoff hl9
      refine ⟨_, _, _, _, rfl, F5, N6, ho6, keep_set (keep_set (keep_set (keep_named hK hself) (by decide)) (by decide)) (by decide), ⟨_, if_pos rfl, ?_⟩, fun p hp => List.mem_cons_of_mem _ (List.mem_append.mpr (.inl (hs p hp)))⟩
      rw [take_foldR ht1]
      exact CIn.alt List.mem_cons_self (hT.mono fun p hp => List.mem_cons_of_mem _ (List.mem_append.mpr (.inl hp))) (hT1.monoT fun p hp hc => by
        rcases List.mem_append.mp hp with hp | hp
        · rcases List.mem_cons.mp hp with rfl | hp
          · exact absurd (hcI.symm.trans hc) (by decide)
          · exact List.mem_cons_of_mem _ (List.mem_append.mpr (.inl hp))
        · exact List.mem_cons_of_mem _ (List.mem_append.mpr (.inr hp)))
    · intro m₁ nx h tk hP1 F4 N4
      (try ((with_reducible show wpAny _ _ _ _ _ _); k_fold))
      obtain ⟨hK, ⟨tv, htv, hT⟩, hs⟩ := hP1
      rw [map_named htv] at F4
      k_steps
      rw [List.size_toArray, hA.len, List.take_length, refoldA _ _ _ ep] at hT
      refine hfin _ _ _ _ (by k_asm) (by k_asm) (fun p hp => hs p (by k_mem)) ?_
      exact fun Y hY => hT.mono hY
theorem told_spec (w : World) (p : Program) (loose : List Str) (mean : ExcName → Option Value) (mg mb : Str → Option Value) : ∀ n, n ≤ 21 → ToldTo w p loose mean mg mb n
  | 0, _ => fun t news v R  h => absurd h (Nat.not_lt_zero _)
  | n + 1, hn => fun t news v R  h => by
    have hh : t.ht ≤ 20 := by omega
    have IH : ToldTo w p loose mean mg mb t.ht := fun t' news' v' R'  h' => told_spec w p loose mean mg mb n (by omega) t' news' v' R'  (by omega)
    cases t with
    | chr sg => exact told_chr w p loose mean mg mb sg _ rfl hh  IH news v R
    | empty  => exact told_empty w p loose mean mg mb  _ rfl hh  IH news v R
    | never  => exact told_never w p loose mean mg mb  _ rfl hh  IH news v R
    | cat l r => exact told_cat w p loose mean mg mb l r _ rfl hh  IH news v R
    | alt l r => exact told_alt w p loose mean mg mb l r _ rfl hh  IH news v R
    | star b => exact told_star w p loose mean mg mb b _ rfl hh  IH news v R
    | plus b => exact told_plus w p loose mean mg mb b _ rfl hh  IH news v R
    | opt b => exact told_opt w p loose mean mg mb b _ rfl hh  IH news v R
    | rep b low high =>
      cases high with
      | some high => exact told_rep w p loose mean mg mb b low high _ rfl hh  IH news v R
      | none => exact told_repN w p loose mean mg mb b low _ rfl hh  IH news v R
end
section
def WeTo (w : World) (p : Program) (loose : List Str) (mean : ExcName → Option Value) (mg mb : Str → Option Value) (n : Nat) : Prop :=
  ∀ (t : Rx) (news : Led) (v : Value), NIn news v t → wf t → t.ht < n → Tell w p loose mean mg mb 524 [v] news (t.ht + 6) (fun r nw => NIn nw r (we t))
theorem lines_13 : True := by
  k_with_none
  (k_with "ktr_room" => ((try simp only [depth_under_make, depth_under_kw, depth_in1, depth_deeper, depth_caller, recursionLimit, Rx.ht] at *); (try dsimp only [ktrTop] at *); first | exact ar_r0 (by assumption) | exact ar_r1 (by assumption) | exact ar_r2 (by assumption) | omega))
  (k_with "k_mem" => with_reducible first | assumption | exact List.mem_cons_self | (refine List.mem_cons_of_mem _ ?_; k_mem) | (refine List.mem_append.mpr (Or.inl ?_); k_mem) | (refine List.mem_append.mpr (Or.inr ?_); k_mem))
  (k_with "ktn_open" => ((k_dflt ktr_enter); (try ((with_reducible show wpAny _ _ _ _ _ _); k_fold))))
  (k_with "tb_start" => (k_dflt (refine' code_defC ?k1_85 ?k2_85 ?k3_85 ?k4_85 ?k5_85 ?kA_85 ?kF_85 ?kK_85 ?k6_85 ?k7_85 ?k8_85 ?k9_85 ?kB_85 ?kD_85 ?_ ?c2_85 ?c3_85 ?c4_85; (case kA_85 => exact rfl); (case kF_85 => exact rfl); (case kK_85 => assumption); (case k1_85 => k_asm); (case k2_85 => k_asm); (case k3_85 => k_asm); (case k4_85 => k_asm); (case k5_85 => k_asm); (case k6_85 => k_is); (case k7_85 => k_is); (case k8_85 => ktr_room); (case k9_85 => exact BindsTo.of_eq rfl); (case kB_85 => exact rfl); (case kD_85 => decide +kernel); (case c2_85 => exact rfl); (case c3_85 => exact rfl); (case c4_85 => exact rfl); k_whole; intro g' L' h' tk' cells' FG' F' N' Y' B' X' T' l1; (try k_lt l1); k_cells Y'; (try simp only [List.cons_append, List.nil_append] at N'); (try dsimp only); (try ((with_reducible show wpAny _ _ _ _ _ _); k_fold))); (try ((with_reducible show wpAny _ _ _ _ _ _); k_fold))))
  (k_with "ktr_units" => (simp only [depth_under_make, depth_under_kw, depth_in1, depth_deeper, depth_caller, recursionLimit, units_in1, units_deeper, Around.mark_units, units_caller, cLine, Rx.ht] at *; (try dsimp only [ktrTop] at *); first | exact ar_r0 (by assumption) | exact ar_r1 (by assumption) | exact ar_r2 (by assumption) | exact ar_d (by assumption) (by decide) | exact ar_b (by assumption) (by decide) | exact ar_l (by assumption) (by decide) | exact ar_m (by assumption) (by decide) | exact ar_u (by assumption) (by decide) | exact ar_ub (by assumption) (by decide) | exact ar_ul (by assumption) (by decide) | exact ar_um (by assumption) (by decide) | exact ar_c (by assumption) | omega))
  (k_with "ktd_rel" => first | assumption | exact NIn.mono (by assumption) (by ktd_sub) | exact TIn.mono (by assumption) (by ktd_sub) | exact CIn.mono (by assumption) (by ktd_sub) | exact DIn.mono (by assumption) (by ktd_sub))
  (k_with "tell 1" => (refine' tell_use ?tlC ?tlB ?tlF ?tlX ?tlN ?tlT ?tlhk ?tlhd ?tlhu ?_; (case tlB => k_asm); (case tlF => k_asm); (case tlX => k_asm); (case tlT => k_asm); (case tlN => k_asm)))
  (k_with "tell 2" => ((case tlhk => first | exact rfl | assumption); (case tlhd => ktr_units); (case tlhu => ktr_units); k_whole))
  (k_with "ite" => with_reducible (first | apply ite_ff9 | apply ite_tt9))
  (k_with "k_room" => ktr_units)
  (k_with "ktd_sub" => first | exact fun _ h => h | (intro p9 h9; (try simp only [List.mem_append, List.mem_cons] at h9 ⊢); (repeat' (first | (simp only [h9, true_or, or_true]; done) | ((with_reducible refine Or.elim h9 ?_ ?_) <;> (clear h9; intro h9))))))
  (k_with "k_steps" => ((try ((with_reducible show wpAny _ _ _ _ _ _); k_fold)); repeat' (first | ((with_reducible show wpAny _ _ (exec _ _) _ _ _); k_fold) | (k_unfold; (try dsimp only)) | (k_end; wrow_close) | walk1 | (dsimp only; walk1) | (leave1; walk_say "STEP leave1"; try dsimp only) | fail "no step")))
  (k_with "k_handed" => first | exact NIn.handed (by assumption) | exact SpIn.handed (by assumption))
  (k_with "isTrue Compare" => (k_here; (with_reducible show wpAny _ _ (isTrue (Expr.Compare (Expr.Attribute (Expr.Name _ _) (PySem.Str.ofString "name") _) [CmpOp.Eq] [Expr.Constant (Const.str _) _ _] _) _ _) _ _ _); k_dflt (first
    | (refine' test_name (b := false) ?F_95 ?hv_95 ?X_95 ?N_95 ?R_95 ?hb_95 ?_ ?hk_95 ?hl_95 ?hd_95; (case F_95 => k_asm); (case X_95 => k_asm); (case N_95 => k_asm); (case hv_95 => exact rfl); (case R_95 => ktd_rel); (case hb_95 => (dsimp only [nm]; decide)); (case hk_95 => exact rfl); (case hl_95 => exact rfl); (case hd_95 => decide); k_whole; intro tk9)
    | (refine' test_name (b := true) ?F_95 ?hv_95 ?X_95 ?N_95 ?R_95 ?hb_95 ?_ ?hk_95 ?hl_95 ?hd_95; (case F_95 => k_asm); (case X_95 => k_asm); (case N_95 => k_asm); (case hv_95 => exact rfl); (case R_95 => ktd_rel); (case hb_95 => (dsimp only [nm]; decide)); (case hk_95 => exact rfl); (case hl_95 => exact rfl); (case hd_95 => decide); k_whole; intro tk9))))
  (k_with "call ref" => (k_here; (with_reducible show wpAny _ _ (call (Value.ref 459) _) _ _ _); first | ktf_call (mkrep_some _ _ _ _ _ _ _ _ _ _ _ _ _ (by ktd_rel) (by omega) (by omega) (by omega)) | ktf_call (mkrep_some (low := 1) _ _ _ _ _ _ _ _ _ _ _ _ (by ktd_rel) (by omega) (by omega) (by omega)) | ktf_call (mkrep_none _ _ _ _ _ _ _ _ _ _ _ (by ktd_rel) (by omega)) | ktf_call (mkrep_none (low := 1) _ _ _ _ _ _ _ _ _ _ (by ktd_rel) (by omega))))
  (k_with "call ref" => (k_here; (with_reducible show wpAny _ _ (call (Value.ref 517) _) _ _ _); ktf_call (cbe_spec _ _ _ _ _ _ 21 (Nat.le_refl _) _ _ _ (by ktd_rel) (by simp only [Rx.ht] at *; omega)); (rename_i r8 tl8 h8 tk8 F8 N8 hl8 ho8; (try dsimp only at ho8); subst ho8)))
  (k_with "call ref" => (k_here; (with_reducible show wpAny _ _ (call (Value.ref 524) _) _ _ _); (with_reducible rename WeTo _ _ _ _ _ _ _ => IH9); ktf_call (IH9 _ _ _ (by ktd_rel) (by simp only [wf] at *; simp only [*]) (by simp only [Rx.ht] at *; omega))))
  trivial
theorem we_id {t : Rx} (h : cbe t = false) : we t = t := by rw [we.eq_def, if_pos h]
theorem we_cat (w : World) (p : Program) (loose : List Str) (mean : ExcName → Option Value) (mg mb : Str → Option Value) (l r : Rx) (t : Rx) (et : t = .cat l r) (hh : t.ht ≤ 20) (hw : wf t)
    (IH : WeTo w p loose mean mg mb t.ht)
    (news : Led) (v : Value) (R : NIn news v t) : Tell w p loose mean mg mb 524 [v] news (t.ht + 6) (fun r nw => NIn nw r (we t)) := by
  subst et
  have R0 := R
  cases R with
  | @cat a d n h1 t1 v1 h2 t2 u1 _ _ m1 m2 R1 R2 =>
    unfold Tell
    w_top off
    k_fill
    intro dp un gd cn cs ca ccd cl outer A₀ base h₀ L mm0 ss0 Q E B F X N T hk hdp hu hret
    simp only [Rx.ht] at hdp hu hh
    refine wpAny_call ?_
    have hfin := fin_all (news := news) (Post := fun r nw => NIn nw r (we _)) hret
    ktn_open
    rename Fr _ _ _ (fun y => List.lookup _ _) => F0
    have F1 : Fr _ _ _ (fun y => List.lookup y [(Str.ofString "node", Value.ref a)]) := F0
    clear F0
    k_steps
    · rename (cbe _ = true) => hc
      refine hfin _ _ _ _ (by k_asm) (by k_asm) (by ktd_sub) ?_
      intro Y hY
      rw [we, if_neg (by rw [hc]; decide)]
      exact NIn.alt (hY _ (by k_mem)) (hY _ (by k_mem)) (NIn.cat (hY _ (by k_mem)) (hY _ (by k_mem)) (NIn.mono (by assumption) (subs_trans (by ktd_sub) hY)) (NIn.mono R2 (subs_trans (by ktd_sub) hY))) (NIn.mono (by assumption) (subs_trans (by ktd_sub) hY))
    · rename (cbe _ = false) => hc
      refine hfin _ _ _ _ (by k_asm) (by k_asm) (by ktd_sub) ?_
      intro Y hY
      rw [we_id hc]
      exact NIn.mono R0 (subs_trans (by ktd_sub) hY)

theorem we_alt (w : World) (p : Program) (loose : List Str) (mean : ExcName → Option Value) (mg mb : Str → Option Value) (l r : Rx) (t : Rx) (et : t = .alt l r) (hh : t.ht ≤ 20) (hw : wf t)
    (IH : WeTo w p loose mean mg mb t.ht)
    (news : Led) (v : Value) (R : NIn news v t) : Tell w p loose mean mg mb 524 [v] news (t.ht + 6) (fun r nw => NIn nw r (we t)) := by
  subst et
  have R0 := R
  cases R with
  | @alt a d n h1 t1 v1 h2 t2 u1 _ _ m1 m2 R1 R2 =>
    unfold Tell
    w_top off
    k_fill
    intro dp un gd cn cs ca ccd cl outer A₀ base h₀ L mm0 ss0 Q E B F X N T hk hdp hu hret
    simp only [Rx.ht] at hdp hu hh
    refine wpAny_call ?_
    have hfin := fin_all (news := news) (Post := fun r nw => NIn nw r (we _)) hret
    ktn_open
    rename Fr _ _ _ (fun y => List.lookup _ _) => F0
    have F1 : Fr _ _ _ (fun y => List.lookup y [(Str.ofString "node", Value.ref a)]) := F0
    clear F0
    k_steps
    · rename (cbe _ = true) => hc
      refine hfin _ _ _ _ (by k_asm) (by k_asm) (by ktd_sub) ?_
      intro Y hY
      rw [we, if_neg (by rw [hc]; decide)]
      exact NIn.alt (hY _ (by k_mem)) (hY _ (by k_mem)) (NIn.mono (by assumption) (subs_trans (by ktd_sub) hY)) (NIn.mono (by assumption) (subs_trans (by ktd_sub) hY))
    · rename (cbe _ = false) => hc
      refine hfin _ _ _ _ (by k_asm) (by k_asm) (by ktd_sub) ?_
      intro Y hY
      rw [we_id hc]
      exact NIn.mono R0 (subs_trans (by ktd_sub) hY)

theorem we_star (w : World) (p : Program) (loose : List Str) (mean : ExcName → Option Value) (mg mb : Str → Option Value) (b : Rx) (t : Rx) (et : t = .star b) (hh : t.ht ≤ 20) (hw : wf t)
    (IH : WeTo w p loose mean mg mb t.ht)
    (news : Led) (v : Value) (R : NIn news v t) : Tell w p loose mean mg mb 524 [v] news (t.ht + 6) (fun r nw => NIn nw r (we t)) := by
  subst et
  have R0 := R
  cases R with
  | @star a d n h1 t1 v1 _ m1 m2 R1 =>
    unfold Tell
    w_top off
    k_fill
    intro dp un gd cn cs ca ccd cl outer A₀ base h₀ L mm0 ss0 Q E B F X N T hk hdp hu hret
    simp only [Rx.ht] at hdp hu hh
    refine wpAny_call ?_
    have hfin := fin_all (news := news) (Post := fun r nw => NIn nw r (we _)) hret
    ktn_open
    rename Fr _ _ _ (fun y => List.lookup _ _) => F0
    have F1 : Fr _ _ _ (fun y => List.lookup y [(Str.ofString "node", Value.ref a)]) := F0
    clear F0
    k_steps
    · rename (cbe _ = true) => hc
      refine hfin _ _ _ _ (by k_asm) (by k_asm) (by ktd_sub) ?_
      intro Y hY
      rw [we, if_neg (by rw [hc]; decide)]
      exact NIn.plus (hY _ (by k_mem)) (hY _ (by k_mem)) (NIn.mono (by assumption) (subs_trans (by ktd_sub) hY))
    · rename (cbe _ = false) => hc
      refine hfin _ _ _ _ (by k_asm) (by k_asm) (by ktd_sub) ?_
      intro Y hY
      rw [we_id hc]
      exact NIn.mono R0 (subs_trans (by ktd_sub) hY)

theorem we_plus (w : World) (p : Program) (loose : List Str) (mean : ExcName → Option Value) (mg mb : Str → Option Value) (b : Rx) (t : Rx) (et : t = .plus b) (hh : t.ht ≤ 20) (hw : wf t)
    (IH : WeTo w p loose mean mg mb t.ht)
    (news : Led) (v : Value) (R : NIn news v t) : Tell w p loose mean mg mb 524 [v] news (t.ht + 6) (fun r nw => NIn nw r (we t)) := by
  subst et
  have R0 := R
  cases R with
  | @plus a d n h1 t1 v1 _ m1 m2 R1 =>
    unfold Tell
    w_top off
    k_fill
    intro dp un gd cn cs ca ccd cl outer A₀ base h₀ L mm0 ss0 Q E B F X N T hk hdp hu hret
    simp only [Rx.ht] at hdp hu hh
    refine wpAny_call ?_
    have hfin := fin_all (news := news) (Post := fun r nw => NIn nw r (we _)) hret
    ktn_open
    rename Fr _ _ _ (fun y => List.lookup _ _) => F0
    have F1 : Fr _ _ _ (fun y => List.lookup y [(Str.ofString "node", Value.ref a)]) := F0
    clear F0
    k_steps
    · rename (cbe _ = true) => hc
      refine hfin _ _ _ _ (by k_asm) (by k_asm) (by ktd_sub) ?_
      intro Y hY
      rw [we, if_neg (by rw [hc]; decide)]
      exact NIn.plus (hY _ (by k_mem)) (hY _ (by k_mem)) (NIn.mono (by assumption) (subs_trans (by ktd_sub) hY))
    · rename (cbe _ = false) => hc
      refine hfin _ _ _ _ (by k_asm) (by k_asm) (by ktd_sub) ?_
      intro Y hY
      rw [we_id hc]
      exact NIn.mono R0 (subs_trans (by ktd_sub) hY)

theorem we_opt (w : World) (p : Program) (loose : List Str) (mean : ExcName → Option Value) (mg mb : Str → Option Value) (b : Rx) (t : Rx) (et : t = .opt b) (hh : t.ht ≤ 20) (hw : wf t)
    (IH : WeTo w p loose mean mg mb t.ht)
    (news : Led) (v : Value) (R : NIn news v t) : Tell w p loose mean mg mb 524 [v] news (t.ht + 6) (fun r nw => NIn nw r (we t)) := by
  subst et
  have R0 := R
  cases R with
  | @opt a d n h1 t1 v1 _ m1 m2 R1 =>
    unfold Tell
    w_top off
    k_fill
    intro dp un gd cn cs ca ccd cl outer A₀ base h₀ L mm0 ss0 Q E B F X N T hk hdp hu hret
    simp only [Rx.ht] at hdp hu hh
    refine wpAny_call ?_
    have hfin := fin_all (news := news) (Post := fun r nw => NIn nw r (we _)) hret
    ktn_open
    rename Fr _ _ _ (fun y => List.lookup _ _) => F0
    have F1 : Fr _ _ _ (fun y => List.lookup y [(Str.ofString "node", Value.ref a)]) := F0
    clear F0
    k_steps
    · rename (cbe _ = true) => hc
      refine hfin _ _ _ _ (by k_asm) (by k_asm) (by ktd_sub) ?_
      intro Y hY
      rw [we, if_neg (by rw [hc]; decide)]
      exact (NIn.mono (by assumption) (subs_trans (by ktd_sub) hY))
    · rename (cbe _ = false) => hc
      refine hfin _ _ _ _ (by k_asm) (by k_asm) (by ktd_sub) ?_
      intro Y hY
      rw [we_id hc]
      exact NIn.mono R0 (subs_trans (by ktd_sub) hY)

theorem we_rep (w : World) (p : Program) (loose : List Str) (mean : ExcName → Option Value) (mg mb : Str → Option Value) (b : Rx) (low high : Nat) (t : Rx) (et : t = .rep b low (some high)) (hh : t.ht ≤ 20) (hw : wf t)
    (IH : WeTo w p loose mean mg mb t.ht)
    (news : Led) (v : Value) (R : NIn news v t) : Tell w p loose mean mg mb 524 [v] news (t.ht + 6) (fun r nw => NIn nw r (we t)) := by
  subst et
  have R0 := R
  cases R with
  | @rep a d n h1 t1 v1 h2 t2 h3 t3 tl th _ _ _ m1 m2 R1 =>
    unfold Tell
    w_top off
    k_fill
    intro dp un gd cn cs ca ccd cl outer A₀ base h₀ L mm0 ss0 Q E B F X N T hk hdp hu hret
    simp only [Rx.ht] at hdp hu hh
    refine wpAny_call ?_
    have hfin := fin_all (news := news) (Post := fun r nw => NIn nw r (we _)) hret
    have q1 := hw.2.1
    have q2 := hw.2.2 high rfl
    ktn_open
    rename Fr _ _ _ (fun y => List.lookup _ _) => F0
    have F1 : Fr _ _ _ (fun y => List.lookup y [(Str.ofString "node", Value.ref a)]) := F0
    clear F0
    k_steps
    · rename (cbe _ = true) => hc
      rename (¬ _ = (0 : Int)) => hz
      refine hfin _ _ _ _ (by k_asm) (by k_asm) (by ktd_sub) ?_
      intro Y hY
      rw [we, if_neg (by rw [hc]; decide)]
      rw [if_neg (by intro e; apply hz; injection e with e; rw [e]; rfl)]
      exact (NIn.mono (by assumption) (subs_trans (by ktd_sub) hY))
    · rename (cbe _ = true) => hc
      rename (_ = (0 : Int)) => hz
      refine hfin _ _ _ _ (by k_asm) (by k_asm) (by ktd_sub) ?_
      intro Y hY
      rw [we, if_neg (by rw [hc]; decide)]
      rw [if_pos (by congr 1; omega)]
      exact NIn.never (hY _ (by k_mem)) (hY _ (by k_mem))
    · rename (cbe _ = false) => hc
      refine hfin _ _ _ _ (by k_asm) (by k_asm) (by ktd_sub) ?_
      intro Y hY
      rw [we_id hc]
      exact NIn.mono R0 (subs_trans (by ktd_sub) hY)

theorem we_repN (w : World) (p : Program) (loose : List Str) (mean : ExcName → Option Value) (mg mb : Str → Option Value) (b : Rx) (low : Nat) (t : Rx) (et : t = .rep b low none) (hh : t.ht ≤ 20) (hw : wf t)
    (IH : WeTo w p loose mean mg mb t.ht)
    (news : Led) (v : Value) (R : NIn news v t) : Tell w p loose mean mg mb 524 [v] news (t.ht + 6) (fun r nw => NIn nw r (we t)) := by
  subst et
  have R0 := R
  cases R with
  | @repN a d n h1 t1 v1 h2 t2 h3 t3 tl _ _ m1 m2 R1 =>
    unfold Tell
    w_top off
    k_fill
    intro dp un gd cn cs ca ccd cl outer A₀ base h₀ L mm0 ss0 Q E B F X N T hk hdp hu hret
    simp only [Rx.ht] at hdp hu hh
    refine wpAny_call ?_
    have hfin := fin_all (news := news) (Post := fun r nw => NIn nw r (we _)) hret
    have q1 := hw.2.1
    ktn_open
    rename Fr _ _ _ (fun y => List.lookup _ _) => F0
    have F1 : Fr _ _ _ (fun y => List.lookup y [(Str.ofString "node", Value.ref a)]) := F0
    clear F0
    k_steps
    · rename (cbe _ = true) => hc
      refine hfin _ _ _ _ (by k_asm) (by k_asm) (by ktd_sub) ?_
      intro Y hY
      rw [we, if_neg (by rw [hc]; decide)]
      rw [if_neg (by intro e; cases e)]
      exact (NIn.mono (by assumption) (subs_trans (by ktd_sub) hY))
    · rename (cbe _ = false) => hc
      refine hfin _ _ _ _ (by k_asm) (by k_asm) (by ktd_sub) ?_
      intro Y hY
      rw [we_id hc]
      exact NIn.mono R0 (subs_trans (by ktd_sub) hY)

theorem we_empty (w : World) (p : Program) (loose : List Str) (mean : ExcName → Option Value) (mg mb : Str → Option Value)  (t : Rx) (et : t = .empty) (hh : t.ht ≤ 20) (hw : wf t)
    (IH : WeTo w p loose mean mg mb t.ht)
    (news : Led) (v : Value) (R : NIn news v t) : Tell w p loose mean mg mb 524 [v] news (t.ht + 6) (fun r nw => NIn nw r (we t)) := by
  subst et
  have R0 := R
  cases R with
  | @empty a d n m1 m2 =>
    unfold Tell
    w_top off
    k_fill
    intro dp un gd cn cs ca ccd cl outer A₀ base h₀ L mm0 ss0 Q E B F X N T hk hdp hu hret
    simp only [Rx.ht] at hdp hu hh
    refine wpAny_call ?_
    have hfin := fin_all (news := news) (Post := fun r nw => NIn nw r (we _)) hret
    ktn_open
    rename Fr _ _ _ (fun y => List.lookup _ _) => F0
    have F1 : Fr _ _ _ (fun y => List.lookup y [(Str.ofString "node", Value.ref a)]) := F0
    clear F0
    k_steps
    refine hfin _ _ _ _ (by k_asm) (by k_asm) (by ktd_sub) ?_
    intro Y hY
    exact NIn.never (hY _ (by k_mem)) (hY _ (by k_mem))

theorem we_never (w : World) (p : Program) (loose : List Str) (mean : ExcName → Option Value) (mg mb : Str → Option Value)  (t : Rx) (et : t = .never) (hh : t.ht ≤ 20) (hw : wf t)
    (IH : WeTo w p loose mean mg mb t.ht)
    (news : Led) (v : Value) (R : NIn news v t) : Tell w p loose mean mg mb 524 [v] news (t.ht + 6) (fun r nw => NIn nw r (we t)) := by
  subst et
  have R0 := R
  cases R with
  | @never a d n m1 m2 =>
    unfold Tell
    w_top off
    k_fill
    intro dp un gd cn cs ca ccd cl outer A₀ base h₀ L mm0 ss0 Q E B F X N T hk hdp hu hret
    simp only [Rx.ht] at hdp hu hh
    refine wpAny_call ?_
    have hfin := fin_all (news := news) (Post := fun r nw => NIn nw r (we _)) hret
    ktn_open
    rename Fr _ _ _ (fun y => List.lookup _ _) => F0
    have F1 : Fr _ _ _ (fun y => List.lookup y [(Str.ofString "node", Value.ref a)]) := F0
    clear F0
    k_steps
    refine hfin _ _ _ _ (by k_asm) (by k_asm) (by ktd_sub) ?_
    intro Y hY
    exact NIn.mono R0 (subs_trans (by ktd_sub) hY)

theorem we_chr (w : World) (p : Program) (loose : List Str) (mean : ExcName → Option Value) (mg mb : Str → Option Value) (sg : Lf) (t : Rx) (et : t = .chr sg) (hh : t.ht ≤ 20) (hw : wf t)
    (IH : WeTo w p loose mean mg mb t.ht)
    (news : Led) (v : Value) (R : NIn news v t) : Tell w p loose mean mg mb 524 [v] news (t.ht + 6) (fun r nw => NIn nw r (we t)) := by
  subst et
  have R0 := R
  cases R with
  | @chr a d n h1 t1 c dc m h2 t2 v1 s m1 m2 m3 m4 S1 =>
    unfold Tell
    w_top off
    k_fill
    intro dp un gd cn cs ca ccd cl outer A₀ base h₀ L mm0 ss0 Q E B F X N T hk hdp hu hret
    simp only [Rx.ht] at hdp hu hh
    refine wpAny_call ?_
    have hfin := fin_all (news := news) (Post := fun r nw => NIn nw r (we _)) hret
    ktn_open
    rename Fr _ _ _ (fun y => List.lookup _ _) => F0
    have F1 : Fr _ _ _ (fun y => List.lookup y [(Str.ofString "node", Value.ref a)]) := F0
    clear F0
    k_steps
    · rename (cbe _ = true) => hc
      cases hc
    · rename (cbe _ = false) => hc
      refine hfin _ _ _ _ (by k_asm) (by k_asm) (by ktd_sub) ?_
      intro Y hY
      rw [we_id hc]
      exact NIn.mono R0 (subs_trans (by ktd_sub) hY)
theorem we_spec (w : World) (p : Program) (loose : List Str) (mean : ExcName → Option Value) (mg mb : Str → Option Value) : ∀ n, n ≤ 21 → WeTo w p loose mean mg mb n
  | 0, _ => fun t news v R hw h => absurd h (Nat.not_lt_zero _)
  | n + 1, hn => fun t news v R hw h => by
    have hh : t.ht ≤ 20 := by omega
    have IH : WeTo w p loose mean mg mb t.ht := fun t' news' v' R' hw h' => we_spec w p loose mean mg mb n (by omega) t' news' v' R' hw (by omega)
    cases t with
    | chr sg => exact we_chr w p loose mean mg mb sg _ rfl hh hw IH news v R
    | empty  => exact we_empty w p loose mean mg mb  _ rfl hh hw IH news v R
    | never  => exact we_never w p loose mean mg mb  _ rfl hh hw IH news v R
    | cat l r => exact we_cat w p loose mean mg mb l r _ rfl hh hw IH news v R
    | alt l r => exact we_alt w p loose mean mg mb l r _ rfl hh hw IH news v R
    | star b => exact we_star w p loose mean mg mb b _ rfl hh hw IH news v R
    | plus b => exact we_plus w p loose mean mg mb b _ rfl hh hw IH news v R
    | opt b => exact we_opt w p loose mean mg mb b _ rfl hh hw IH news v R
    | rep b low high =>
      cases high with
      | some high => exact we_rep w p loose mean mg mb b low high _ rfl hh hw IH news v R
      | none => exact we_repN w p loose mean mg mb b low _ rfl hh hw IH news v R
end
end
/-- a call whose callee sees the caller's ledger as old -/
theorem code_quiet {prog : Program} {w : World} {A A₀ : Around} {s : Shared} {K : Frag} {L : Addr} {h₀ base : Heap} {m mg mb : Str → Option Value} {p : Program} {loose : List Str} {mean : ExcName → Option Value} {env : Env} {outer : List Env} {R : Result → Shared → Prop} {name qual : Str} {params : Arguments} {body : List Stmt} {scope : Scope} {dV kV doc pm cdv ct oc : Value} {an od : Option Addr} {osl : Array (Option Value)} {f : Addr} {args : Args} {binds : List (Str × Value)}
    (B : Below A₀ base outer h₀) (F : Fr h₀ L s.heap m) (X₀ : K.In h₀) (T : Top p loose mean mg mb h₀) (hA : A.frames = some (env :: outer)) (hf : env.frame = some L) (hke : env.scope.kind = .function)
    (ho : K.lookup f = some ⟨oc, od, .func (fnOf name qual params body scope dV kV doc pm an cdv ct), osl⟩) (hcd : codeIn K cdv qual = true) (hroom : A.depth < recursionLimit)
    (hbind : BindsTo s (fnOf name qual params body scope dV kV doc pm an cdv ct) args binds) (hloc : ∀ y ∈ binds, scope.names.lookup y.1 = some .local)
    (h : ∀ L' h₁, Fr s.heap L' h₁ (fun y => binds.reverse.lookup y) → News s.heap L' h₁ [] → Below A base (env :: outer) s.heap → K.In s.heap → Top p loose mean mg mb s.heap →
      wpAny (model prog w) (A.deeper (envOf qual scope L' f cdv)) (execs body (envOf qual scope L' f cdv))
        (fun fl s' => LeaveK h₀ L m s.heap R (match fl with | .ret v => v | _ => .none) s')
        (fun e s' => wpAny (model prog w) (A.deeper (envOf qual scope L' f cdv)) (leaving (envOf qual scope L' f cdv) e) (fun _ s'' => R (.error e) s'') (fun e' s'' => R (.error e') s'') s')
        { s with heap := h₁, toks := s.toks + binds.length })
    (hco : scope.isCoroutine = false) (hgen : scope.isGenerator = false) (hk : scope.kind = .function)
    (hcell : ∀ x ∈ scope.names, x.2 ≠ .cell) : codeAny (model prog w) A (.call (.ref f) args) R s := by
  obtain ⟨_, BG, st, lv⟩ := groundX (news := []) (R := R) B F News.nil hA hf hke
  refine codeAny_call_def (fd := fnOf name qual params body scope dV kV doc pm an cdv ct) (body := body) (binds := binds) hroom ((X₀.keeps F.keep) _ _ ho) rfl (T.nolimit.keeps F.keep) (codeRec_of (X₀.keeps F.keep) hcd) rfl hbind hcell hloc (fun h₁ hns hk₁ => ?_) hco hgen hk
  exact wpAny_mono (h _ h₁ ⟨hns, hk₁, Nat.le_refl _⟩ News.nil BG (X₀.keeps st) (T.keeps st)) (fun fl s' hl => lv _ _ hl) fun _ _ y => y
theorem item_pair {prog : Program} {w : World} {A : Around} {E : Value → Shared → Prop} {s : Shared} {h₀ : Heap} {L : Addr} {news : Led} {value slice : Expr} {t : Addr} {n : Nat} {vs : List Value} {k : Int} {u : Tok} {j : Nat} {x : Value} {Q : Value → Shared → Prop}
    (N : News h₀ L s.heap news) (hm : (t, tupO (List.toArray vs) n) ∈ news) (hlo : -(2 ^ 63) ≤ k) (hhi : k < 2 ^ 63) (hj : seqIndex? k vs.length = some j) (hx : vs[j]? = some x) (h : Q x s)
    (hs : subscripted slice false (.ref t) (.int k u) = operate [.ref t, .int k u] (getItem (.ref t) (.int k u))) : wpAny (model prog w) A (subscriptTail value slice (.ref t) (.int k u)) Q E s :=
  have ht : IsTup s.heap t (List.toArray vs) := ⟨_, (N _ hm).1, rfl, _, rfl⟩
  tail_any ht.typeIs slot_tuple_getitem.lookup (getItem_tuple ht hlo hhi (by simpa using hj) (by simpa using hx) h) hs
section
variable {prog : Program} {w : World} {A : Around} {E : Value → Shared → Prop} {s : Shared} {h₀ : Heap} {L : Addr} {m : Str → Option Value} {news : Led}
theorem sort_one {a : Addr} {v : Value} {n : Nat} {P : PySem.Fin → Shared → Prop} (ho : s.heap.get? a = some (seqObj "list" [v].toArray n))
    (h : P (.done (.ret .none)) { s with heap := sortedHeap s.heap a [v] #[v] }) :
    wpAny (model prog w) A (Builtin.«list.sort» ⟨[.ref a], []⟩) P E s := by
  rw [list_sort_plain]
  have ha : a < s.heap.objs.size := Heap.lt_size ho
  refine wpAny_bind (listItems_at ho rfl ?_)
  refine wpAny_bind (listUpdate_at ho rfl ?_)
  obtain ⟨e1, ho1⟩ : ∃ e1, (s.heap.update a (Obj.mapSeq fun _ => #[])).get? a = some (seqObj "list" #[] e1) := ⟨_, get?_update_seq ho (fun _ => #[])⟩
  refine wpAny_bind (seqEpoch_at ho1 rfl ?_)
  refine wpAny_bind (wpAny_newTuple ?_)
  refine wpAny_bind (wpAny_newList ?_)
  refine wpAny_holding ?_
  have ho6 : (((s.heap.update a (Obj.mapSeq fun _ => #[])).push (seqObj "tuple" [v].toArray 0)).push (seqObj "list" #[] 0)).get? a = some (seqObj "list" #[] e1) := by
    rw [Heap.get?_push_ne _ _ _ (by rw [size_push', Heap.size_update]; exact Nat.ne_of_lt (Nat.lt_succ_of_lt ha)), Heap.get?_push_ne _ _ _ (by rw [Heap.size_update]; exact Nat.ne_of_lt ha)]
    exact ho1
  show wpAny (model prog w) A _ P E { s with heap := ((s.heap.update a (Obj.mapSeq fun _ => #[])).push (seqObj "tuple" [v].toArray 0)).push (seqObj "list" #[] 0) }
  dsimp only
  have h2 : [v].toArray.size < 2 := by simp
  rw [if_pos h2, if_pos h2]
  refine wpAny_bind (wpAny_pure ?_)
  rw [StateT.run_pure]
  refine wpAny_bind (wpAny_pure ?_)
  dsimp only
  have earr : Array.map (fun x => x.snd) (arrOf (SortSt.mk' general' (#[v].zip #[v]) #[] 7 none)) = #[v] := by
    show Array.map (fun x => x.snd) (#[v].zip #[v]) = #[v]
    simp
  refine wpAny_bind (seqEpoch_at ho6 rfl ?_)
  refine wpAny_bind (listUpdate_at ho6 rfl ?_ (hsz2 := by rw [earr, sizeLine_eq]; exact Nat.le_of_ble_eq_true rfl))
  rw [earr]
  simp only [bne_self_eq_false, Bool.false_eq_true, if_false]
  exact wpAny_pure h
theorem sorted_one {l : Addr} {v : Value} {Q : Value → Shared → Prop} (F : Fr h₀ L s.heap m) (N : News h₀ L s.heap news) (hl : s.heap.IsList l [v].toArray)
    (h : ∀ D h' e, Fr h₀ L h' m → News h₀ L h' ((D, listOf #[v] e) :: news) → (∀ q ∈ news, q.1 < D) → Q (.ref D) { s with heap := h' }) :
    wpAny (model prog w) A (call (.builtin "sorted") [.ref l]) Q E s := by
  refine Calls.call_function_entry kind_sorted plain_sorted entry_sorted (args_sorted1 _) ?_
  unfold Builtin.«sorted»
  refine wpAny_bind (m := checkCount "sorted" 1 1 _) (wpAny_pure ?_)
  refine wpAny_bind (collect_list hl ?_ (by rw [sizeLine_eq]; exact Nat.le_of_ble_eq_true rfl))
  refine wpAny_bind (wpAny_newList ?_ (by rw [sizeLine_eq]; exact Nat.le_of_ble_eq_true rfl))
  have hsz : ((s.heap.push (seqObj "list" #[] 0)).update s.heap.objs.size (Obj.mapSeq (· ++ [v].toArray))).objs.size = s.heap.objs.size + 1 := by
    rw [Heap.size_update, size_push']
  have hoL : (((s.heap.push (seqObj "list" #[] 0)).update s.heap.objs.size (Obj.mapSeq (· ++ [v].toArray))).push (seqObj "list" [v].toArray 0)).get? (s.heap.objs.size + 1) = some (seqObj "list" [v].toArray 0) := by
    rw [← hsz]; exact Heap.get?_push_size _ rfl
  show wpAny _ _ _ _ _ { s with heap := ((s.heap.push (seqObj "list" #[] 0)).update s.heap.objs.size (Obj.mapSeq (· ++ [v].toArray))).push (seqObj "list" [v].toArray 0) }
  rw [hsz]
  refine wpAny_bind (wpAny_holding (wpAny_call_entry slot_list_sort ⟨_, hoL, rfl⟩ entry_list_sort (sort_one hoL ⟨_, rfl, ?_⟩) (args_list_sort _)))
  refine wpAny_pure ⟨_, rfl, ?_⟩
  obtain ⟨e, he⟩ := sortedAll_at s.heap [v] #[v]
  exact h _ _ e (F.kept fun _ _ => sortedAll_old) (N.kept_cons F (fun _ _ => sortedAll_old) (Nat.le_succ _) he) fun q hq => Nat.lt_succ_of_lt (Heap.lt_size (N q hq).1)
end
theorem lines_14 : True := by
  k_with_none
  (k_with "ktr_room" => ((try simp only [depth_under_make, depth_under_kw, depth_in1, depth_deeper, depth_caller, recursionLimit, Rx.ht] at *); (try dsimp only [ktrTop] at *); first | exact ar_r0 (by assumption) | exact ar_r1 (by assumption) | exact ar_r2 (by assumption) | omega))
  (k_with "k_mem" => with_reducible first | assumption | exact List.mem_cons_self | (refine List.mem_cons_of_mem _ ?_; k_mem) | (refine List.mem_append.mpr (Or.inl ?_); k_mem) | (refine List.mem_append.mpr (Or.inr ?_); k_mem))
  (k_with "ktn_open" => ((k_dflt ktr_enter); (try ((with_reducible show wpAny _ _ _ _ _ _); k_fold))))
  (k_with "tb_start" => (k_dflt (refine' code_defC ?k1_102 ?k2_102 ?k3_102 ?k4_102 ?k5_102 ?kA_102 ?kF_102 ?kK_102 ?k6_102 ?k7_102 ?k8_102 ?k9_102 ?kB_102 ?kD_102 ?_ ?c2_102 ?c3_102 ?c4_102; (case kA_102 => exact rfl); (case kF_102 => exact rfl); (case kK_102 => assumption); (case k1_102 => k_asm); (case k2_102 => k_asm); (case k3_102 => k_asm); (case k4_102 => k_asm); (case k5_102 => k_asm); (case k6_102 => k_is); (case k7_102 => k_is); (case k8_102 => ktr_room); (case k9_102 => exact BindsTo.of_eq rfl); (case kB_102 => exact rfl); (case kD_102 => decide +kernel); (case c2_102 => exact rfl); (case c3_102 => exact rfl); (case c4_102 => exact rfl); k_whole; intro g' L' h' tk' cells' FG' F' N' Y' B' X' T' l1; (try k_lt l1); k_cells Y'; (try simp only [List.cons_append, List.nil_append] at N'); (try dsimp only); (try ((with_reducible show wpAny _ _ _ _ _ _); k_fold))); (try ((with_reducible show wpAny _ _ _ _ _ _); k_fold))))
  (k_with "ktr_units" => (simp only [depth_under_make, depth_under_kw, depth_in1, depth_deeper, depth_caller, recursionLimit, units_in1, units_deeper, Around.mark_units, units_caller, cLine, Rx.ht] at *; (try dsimp only [ktrTop] at *); first | exact ar_r0 (by assumption) | exact ar_r1 (by assumption) | exact ar_r2 (by assumption) | exact ar_d (by assumption) (by decide) | exact ar_b (by assumption) (by decide) | exact ar_l (by assumption) (by decide) | exact ar_m (by assumption) (by decide) | exact ar_u (by assumption) (by decide) | exact ar_ub (by assumption) (by decide) | exact ar_ul (by assumption) (by decide) | exact ar_um (by assumption) (by decide) | exact ar_c (by assumption) | omega))
  (k_with "ktd_rel" => first | assumption | exact NIn.mono (by assumption) (by ktd_sub) | exact TIn.mono (by assumption) (by ktd_sub) | exact CIn.mono (by assumption) (by ktd_sub) | exact DIn.mono (by assumption) (by ktd_sub))
  (k_with "tell 1" => (refine' tell_use ?tlC ?tlB ?tlF ?tlX ?tlN ?tlT ?tlhk ?tlhd ?tlhu ?_; (case tlB => k_asm); (case tlF => k_asm); (case tlX => k_asm); (case tlT => k_asm); (case tlN => k_asm)))
  (k_with "tell 2" => ((case tlhk => first | exact rfl | assumption); (case tlhd => ktr_units); (case tlhu => ktr_units); k_whole))
  (k_with "ite" => with_reducible (first | apply ite_ff9 | apply ite_tt9))
  (k_with "k_room" => ktr_units)
  (k_with "ktd_sub" => first | exact fun _ h => h | (intro p9 h9; (try simp only [List.mem_append, List.mem_cons] at h9 ⊢); (repeat' (first | (simp only [h9, true_or, or_true]; done) | ((with_reducible refine Or.elim h9 ?_ ?_) <;> (clear h9; intro h9))))))
  (k_with "k_steps" => ((try ((with_reducible show wpAny _ _ _ _ _ _); k_fold)); repeat' (first | ((with_reducible show wpAny _ _ (exec _ _) _ _ _); k_fold) | (k_unfold; (try dsimp only)) | (k_end; wrow_close) | walk1 | (dsimp only; walk1) | (leave1; walk_say "STEP leave1"; try dsimp only) | fail "no step")))
  (k_with "k_handed" => first | exact NIn.handed (by assumption) | exact SpIn.handed (by assumption))
  trivial
/-- a list of words as the law has it -/
def WA (ws : List Str) : Prop := ws.Nodup ∧ ∀ x ∈ ws, ab x ∧ x.length ≤ 3
theorem WA.of {P : Str → Prop} {ws : List Str} (h : W P ws) (hP : ∀ x, P x → ab x) : WA ws := ⟨h.1, fun x hx => ⟨hP x ((h.2 x).mp hx).1, ((h.2 x).mp hx).2⟩⟩
theorem WA.len {ws : List Str} (h : WA ws) : ws.length ≤ 15 := nodup_len ws univ h.1 fun x hx => mem_univ (h.2 x hx).1 (h.2 x hx).2
theorem WA.rows {fs ss : List Str} (h : WA fs) (hs : WA ss) : WA (rowsL fs ss) := ⟨rows_nodup _ _, fun x hx => by
  obtain ⟨u, hu, v, hv, rfl, l⟩ := rows_mem.mp hx
  exact ⟨ab_app (h.2 u hu).1 (hs.2 v hv).1, by rw [Str.length_append]; exact l⟩⟩
theorem WA.fresh {ws ks : List Str} (h : WA ws) : WA (freshL ws ks) := ⟨fresh_nodup h.1, fun x hx => h.2 x (mem_fresh.mp hx).1⟩
theorem WA.of_fresh {vs : List Value} {ws ks : List Str} (_ : StrsAre vs (freshL ws ks)) (h : WA ws) : WA (freshL ws ks) := h.fresh
theorem WA.of_rows {vs : List Value} {ws ks : List Str} (_ : StrsAre vs (rowsL ws ks)) (h : WA ws) (h' : WA ks) : WA (rowsL ws ks) := h.rows h'
theorem WA.or {ws ks : List Str} (h : WA ws) (hk : WA ks) : WA (ws ++ freshL ks ws) := ⟨app_nodup h.1 (fresh_nodup hk.1) fun x hx => (mem_fresh.mp hx).2, fun x hx => (List.mem_append.mp hx).elim (h.2 x) fun hx => hk.2 x (mem_fresh.mp hx).1⟩
theorem se_of : Str.ofString "" = SE := by decide +kernel
theorem W_se' : W (fun x => x = SE) [Str.ofString ""] := by rw [se_of]; exact W_se
theorem WA.se : WA [Str.ofString ""] := WA.of W_se' fun x h => by rw [h]; exact ab_se
theorem rows_W (w : World) (p : Program) (loose : List Str) (mean : ExcName → Option Value) (mg mb : Str → Option Value) (news : Led) {a b : Addr} {n n' : Nat} {vs vs' : List Value} {ws ws' : List Str}
    (h1 : (a, listOf (List.toArray vs) n) ∈ news) (h2 : (b, listOf (List.toArray vs') n') ∈ news) (S1 : StrsAre vs ws) (S2 : StrsAre vs' ws') (A1 : WA ws) (A2 : WA ws') :
    Tell w p loose mean mg mb 571 [.ref a, .ref b] news 2 (fun r nw => StrList nw r (rowsL ws ws')) :=
  rows_spec w p loose mean mg mb news a b n n' vs vs' ws ws' h1 h2 S1 S2 (by have := A1.len; omega) (by have := A2.len; omega) (fun x hx => (A1.2 x hx).2) (fun x hx => (A2.2 x hx).2)
theorem fresh_W (w : World) (p : Program) (loose : List Str) (mean : ExcName → Option Value) (mg mb : Str → Option Value) (news : Led) {a b : Addr} {n n' : Nat} {vs vs' : List Value} {ws ws' : List Str}
    (h1 : (a, listOf (List.toArray vs) n) ∈ news) (h2 : (b, listOf (List.toArray vs') n') ∈ news) (S1 : StrsAre vs ws) (S2 : StrsAre vs' ws') (A1 : WA ws) :
    Tell w p loose mean mg mb 564 [.ref a, .ref b] news 2 (fun r nw => StrList nw r (freshL ws ws')) :=
  fresh_spec w p loose mean mg mb news a b n n' vs vs' ws ws' h1 h2 S1 S2 (by have := A1.len; rw [strs_len S1]; omega)
def WordsTo (w : World) (p : Program) (loose : List Str) (mean : ExcName → Option Value) (mg mb : Str → Option Value) (n : Nat) : Prop :=
  ∀ (t : Rx) (news : Led) (v : Value), TIn news v t → wf t → t.ht < n → Tell w p loose mean mg mb 576 [v] news (t.ht + 4) (fun r nw => ∃ ws, StrList nw r ws ∧ W (L t) ws)
theorem cat_W {prog : Program} {w : World} {A : Around} {E : Value → Shared → Prop} {s : Shared} {h₀ : Heap} {L₀ a b : Addr} {m : Str → Option Value} {news : Led} {n n' : Nat} {vs us : List Value} {ws xs : List Str} {Q : Value → Shared → Prop} (F : Fr h₀ L₀ s.heap m) (N : News h₀ L₀ s.heap news)
    (m1 : (a, listOf (List.toArray vs) n) ∈ news) (m2 : (b, listOf (List.toArray us) n') ∈ news) (S1 : StrsAre vs ws) (S2 : StrsAre us xs) (A1 : WA ws) (A2 : WA xs)
    (h : ∀ D h' zs, Fr h₀ L₀ h' m → News h₀ L₀ h' ((D, listOf (List.toArray zs) 0) :: news) → StrsAre zs (ws ++ xs) → (∀ p ∈ news, p.1 < D) → Q (.ref D) { s with heap := h' }) :
    wpAny (model prog w) A (binaryOp .Add (.ref a) (.ref b)) Q E s :=
  kmk_add_lit (zs := vs ++ us) F N (News.isList N m1) (News.isList N m2) rfl (fun D h' F' N' l => h D h' _ F' N' (strs_app S1 S2) l) (by
    have e1 := A1.len
    have e2 := A2.len
    have e3 := strs_len S1
    have e4 := strs_len S2
    rw [sizeLine_eq]
    simp only [List.toList_toArray]
    omega)
section
theorem lines_15 : True := by
  (k_with "tb_start" => (k_dflt (refine' code_quiet ?k1_112 ?k2_112 ?k3_112 ?k5_112 ?kA_112 ?kF_112 ?kK_112 ?k6_112 ?k7_112 ?k8_112 ?k9_112 ?kB_112 ?_ ?c2_112 ?c3_112 ?c4_112 ?c5_112; (case kA_112 => exact rfl); (case kF_112 => exact rfl); (case kK_112 => assumption); (case k1_112 => k_asm); (case k2_112 => k_asm); (case k3_112 => k_asm); (case k5_112 => k_asm); (case k6_112 => k_is); (case k7_112 => k_is); (case k8_112 => ktr_room); (case k9_112 => exact BindsTo.of_eq rfl); (case c5_112 => decide); (case kB_112 => exact locs rfl); (case c2_112 => exact rfl); (case c3_112 => exact rfl); (case c4_112 => exact rfl); k_whole; intro L' h' F' N' B' X' T'; (try dsimp only); (try ((with_reducible show wpAny _ _ _ _ _ _); k_fold))); (try ((with_reducible show wpAny _ _ _ _ _ _); k_fold))))
  trivial
theorem lines_16 : True := by
  (k_with "subscriptTail" => (k_here; (with_reducible show wpAny _ _ (subscriptTail _ _ (Value.ref _) (Value.int _ _)) _ _ _); k_dflt (refine' item_pair ?N_113 ?m_113 ?lo_113 ?hi_113 ?j_113 ?x_113 ?_ ?s_113; (case N_113 => k_asm); (case m_113 => k_mem); (case lo_113 => decide); (case hi_113 => decide); (case j_113 => exact rfl); (case x_113 => exact rfl); (case s_113 => with_unfolding_all rfl); k_whole)))
  trivial
theorem lines_17 : True := by
  (k_with "call builtin:sorted" => (k_here; (with_reducible show wpAny _ _ (call (Value.builtin _) [Value.ref _]) _ _ _); k_dflt (refine' sorted_one ?F_114 ?N_114 ?l_114 ?_; (case F_114 => k_asm); (case N_114 => k_asm); (case l_114 => exact News.isList (by k_asm) (by k_mem)); k_whole); intro D' h' e' F' N' l1; (try k_lt l1)))
  trivial
/-- pairs of a sign's number with itself -/
inductive PairsIn (nx : Led) : List Value → List Nat → Prop where
  | nil : PairsIn nx [] []
  | snoc {ys cs p n t u} {c : Nat} : PairsIn nx ys cs → (p, tupO #[.int (c : Int) t, .int (c : Int) u] n) ∈ nx → PairsIn nx (ys ++ [.ref p]) (cs ++ [c])
theorem PairsIn.mono {nx nx' : Led} {ys cs} (h : PairsIn nx ys cs) (hs : ∀ p ∈ nx, p ∈ nx') : PairsIn nx' ys cs := by
  induction h with
  | nil => exact .nil
  | snoc _ h1 ih => exact .snoc ih (hs _ h1)
theorem PairsIn.inv {nx : Led} {ys : List Value} {cs : List Nat} {c : Nat} (h : PairsIn nx ys (cs ++ [c])) : ∃ ys' p n t u, ys = ys' ++ [.ref p] ∧ (p, tupO #[.int (c : Int) t, .int (c : Int) u] n) ∈ nx ∧ PairsIn nx ys' cs := by
  generalize e : cs ++ [c] = q at h
  cases h with
  | nil => simp at e
  | snoc h1 h2 =>
    obtain ⟨rfl, e2⟩ := List.append_inj' e rfl
    injection e2 with e3
    subst e3
    exact ⟨_, _, _, _, _, rfl, h2, h1⟩
theorem PairsIn.none {nx : Led} {ys : List Value} (h : PairsIn nx ys []) : ys = [] := by
  generalize e : ([] : List Nat) = q at h
  cases h with
  | nil => rfl
  | snoc h1 h2 => simp at e
theorem sub_rot {T I C D : Addr × Obj} {nx : Led} : ∀ p ∈ I :: C :: D :: T :: nx, p ∈ T :: I :: C :: D :: nx := by
  intro p hp
  simp only [List.mem_cons] at hp ⊢
  rcases hp with h | h | h | h | h <;> simp [h]
def CsIn (nw : Led) (v : Value) (s : Lf) : Prop := ∃ c dc m h' t' sp, v = .ref c ∧ (c, instObj 227 dc) ∈ nw ∧ (dc, dictOf [⟨h', .str (Str.ofString "spans") t', sp⟩] m) ∈ nw ∧ SpIn nw sp s
set_option maxHeartbeats 40000000 in
theorem csof_a (w : World) (p : Program) (loose : List Str) (mean : ExcName → Option Value) (mg mb : Str → Option Value) (news : Led) (tk0 : Tok) :
    Tell w p loose mean mg mb 110 [.str (Str.ofString "a") tk0] news 8 (fun r nw => CsIn nw r .a) := by
  unfold Tell
  w_top off
  k_fill
  intro dp un gd cn cs a ccd cl outer A₀ base h₀ L m s Q E B F X N T hk hdp hu hret
  refine wpAny_call ?_
  have hfin := fin_all (news := news) (Post := fun r nw => CsIn nw r .a) hret
  have hK : ∀ q ∈ news, (s.heap.get? q.1 = some q.2 ∧ q.1 ≠ L ∧ h₀.get? q.1 = none) := N
  clear N
  tb_start
  rename Fr _ _ _ (fun y => List.lookup _ _) => F0
  have F1 : Fr _ _ _ (fun y => List.lookup y [(Str.ofString "text", Value.str (Str.ofString "a") tk0)]) := F0
  clear F0
  iterate 8 walk1
  refine ListComp_S (y := Str.ofString "a") (fun i ys nx => PairsIn nx ys ([97].take i)) (F₀ := by k_asm) (by with_unfolding_all rfl) (by decide) (by rfl) (by decide) (by rfl) (by rfl) (by decide +kernel) (by rw [sizeLine_eq]; decide +kernel) ?_
  walk1
  refine ⟨_, [], rfl, by k_asm, by k_asm, PairsIn.nil, ?_, ?_⟩
  · rintro i ys c u nx I oI C oC D m₂ h tk E' hc hP hoC hm F1 N1 off ne
    rw [show (Str.ofString "a") = ⟨#[97]⟩ from by decide +kernel] at hc
    have hi : i = 0 ∧ c = 97 := by
      rcases i with _ | i
      · simp at hc; exact ⟨rfl, hc.symm⟩
      · simp at hc
    rcases hi with ⟨rfl, rfl⟩
    · k_steps
      rename News _ _ _ _ => N9
      rename Fr _ _ _ _ => F9
      rename (_ ∧ _ ∧ _ ∧ AllLt _ _) => hlt
      rw [show (Str.ofString "a").cps.getD 0 0 = 97 from by decide +kernel] at N9
      refine CompEnd.intro F9 N9 (_ :: nx) sub_rot ⟨⟨Ne.symm (Nat.ne_of_lt hlt.1), Ne.symm (Nat.ne_of_lt hlt.2.1), Ne.symm (Nat.ne_of_lt hlt.2.2.1)⟩, off⟩ trivial ?_
      exact (hP.mono fun _ h => .tail _ h).snoc (cs := []) (c := 97) (.head _)
  · rintro D ys nx h tk hP F9 N9 hD
    rw [show (Str.ofString "a").cps.size = 1 from by decide +kernel] at hP
    obtain ⟨ys0, p1, n1, t1, u1, rfl, m1, hP⟩ := PairsIn.inv (cs := []) (c := 97) hP
    obtain rfl := hP.none
    dsimp only [List.nil_append, List.cons_append] at N9
    have N8 : News _ _ _ ((D, lst [.ref p1]) :: (p1, tupO #[.int 97 t1, .int 97 u1] n1) :: []) := fun q hq => N9 q (by
      rcases List.mem_cons.mp hq with rfl | hq
      · exact .head _
      · rcases List.mem_cons.mp hq with rfl | hq
        · exact .tail _ m1
        · cases hq)
    clear N9 hD F1 hP m1
    iterate 3 walk1
    rename Fr _ _ _ (fun y => List.lookup _ _) => F0
    have F2 : Fr _ _ _ (fun y => List.lookup y [(Str.ofString "pairs", Value.ref D)]) := F0
    clear F0 N8
    k_steps
    rename News _ _ _ _ => N7
    simp only [show ¬ ((0 : Int) > 97) by decide, show ¬ ((127 : Int) < 97) by decide, if_false] at N7
    rename Fr _ _ _ _ => F3
    obtain ⟨m3, lF', e1, e2⟩ := fr_abs (P := fun m => m (Str.ofString "kept") = some (.ref _) ∧ m (Str.ofString "spans") = some (.ref _)) F3 ⟨rfl, rfl⟩
    clear F3
    rw [map_named e1, map_named e2] at lF'
    (with_unfolding_all refine' For_turns lF' ?_; k_whole)
    k_steps
    rename News h₀ _ _ _ => NF
    rename Fr s.heap _ _ _ => FK
    have NN : News h₀ L _ (_ ++ news) := fun q hq => (List.mem_append.mp hq).elim (NF q) fun hq => ⟨FK.keep _ _ (hK q hq).1, (hK q hq).2⟩
    refine hfin _ _ _ _ (by k_asm) NN (fun p hp => List.mem_append.mpr (.inr hp)) ?_
    intro Y hY
    exact ⟨_, _, _, _, _, _, rfl, hY _ (by k_mem), hY _ (by k_mem), SpIn.a (hY _ (by k_mem)) (hY _ (by k_mem))⟩

set_option maxHeartbeats 40000000 in
theorem csof_b (w : World) (p : Program) (loose : List Str) (mean : ExcName → Option Value) (mg mb : Str → Option Value) (news : Led) (tk0 : Tok) :
    Tell w p loose mean mg mb 110 [.str (Str.ofString "b") tk0] news 8 (fun r nw => CsIn nw r .b) := by
  unfold Tell
  w_top off
  k_fill
  intro dp un gd cn cs a ccd cl outer A₀ base h₀ L m s Q E B F X N T hk hdp hu hret
  refine wpAny_call ?_
  have hfin := fin_all (news := news) (Post := fun r nw => CsIn nw r .b) hret
  have hK : ∀ q ∈ news, (s.heap.get? q.1 = some q.2 ∧ q.1 ≠ L ∧ h₀.get? q.1 = none) := N
  clear N
  tb_start
  rename Fr _ _ _ (fun y => List.lookup _ _) => F0
  have F1 : Fr _ _ _ (fun y => List.lookup y [(Str.ofString "text", Value.str (Str.ofString "b") tk0)]) := F0
  clear F0
  iterate 8 walk1
  refine ListComp_S (y := Str.ofString "b") (fun i ys nx => PairsIn nx ys ([98].take i)) (F₀ := by k_asm) (by with_unfolding_all rfl) (by decide) (by rfl) (by decide) (by rfl) (by rfl) (by decide +kernel) (by rw [sizeLine_eq]; decide +kernel) ?_
  walk1
  refine ⟨_, [], rfl, by k_asm, by k_asm, PairsIn.nil, ?_, ?_⟩
  · rintro i ys c u nx I oI C oC D m₂ h tk E' hc hP hoC hm F1 N1 off ne
    rw [show (Str.ofString "b") = ⟨#[98]⟩ from by decide +kernel] at hc
    have hi : i = 0 ∧ c = 98 := by
      rcases i with _ | i
      · simp at hc; exact ⟨rfl, hc.symm⟩
      · simp at hc
    rcases hi with ⟨rfl, rfl⟩
    · k_steps
      rename News _ _ _ _ => N9
      rename Fr _ _ _ _ => F9
      rename (_ ∧ _ ∧ _ ∧ AllLt _ _) => hlt
      rw [show (Str.ofString "b").cps.getD 0 0 = 98 from by decide +kernel] at N9
      refine CompEnd.intro F9 N9 (_ :: nx) sub_rot ⟨⟨Ne.symm (Nat.ne_of_lt hlt.1), Ne.symm (Nat.ne_of_lt hlt.2.1), Ne.symm (Nat.ne_of_lt hlt.2.2.1)⟩, off⟩ trivial ?_
      exact (hP.mono fun _ h => .tail _ h).snoc (cs := []) (c := 98) (.head _)
  · rintro D ys nx h tk hP F9 N9 hD
    rw [show (Str.ofString "b").cps.size = 1 from by decide +kernel] at hP
    obtain ⟨ys0, p1, n1, t1, u1, rfl, m1, hP⟩ := PairsIn.inv (cs := []) (c := 98) hP
    obtain rfl := hP.none
    dsimp only [List.nil_append, List.cons_append] at N9
    have N8 : News _ _ _ ((D, lst [.ref p1]) :: (p1, tupO #[.int 98 t1, .int 98 u1] n1) :: []) := fun q hq => N9 q (by
      rcases List.mem_cons.mp hq with rfl | hq
      · exact .head _
      · rcases List.mem_cons.mp hq with rfl | hq
        · exact .tail _ m1
        · cases hq)
    clear N9 hD F1 hP m1
    iterate 3 walk1
    rename Fr _ _ _ (fun y => List.lookup _ _) => F0
    have F2 : Fr _ _ _ (fun y => List.lookup y [(Str.ofString "pairs", Value.ref D)]) := F0
    clear F0 N8
    k_steps
    rename News _ _ _ _ => N7
    simp only [show ¬ ((0 : Int) > 98) by decide, show ¬ ((127 : Int) < 98) by decide, if_false] at N7
    rename Fr _ _ _ _ => F3
    obtain ⟨m3, lF', e1, e2⟩ := fr_abs (P := fun m => m (Str.ofString "kept") = some (.ref _) ∧ m (Str.ofString "spans") = some (.ref _)) F3 ⟨rfl, rfl⟩
    clear F3
    rw [map_named e1, map_named e2] at lF'
    (with_unfolding_all refine' For_turns lF' ?_; k_whole)
    k_steps
    rename News h₀ _ _ _ => NF
    rename Fr s.heap _ _ _ => FK
    have NN : News h₀ L _ (_ ++ news) := fun q hq => (List.mem_append.mp hq).elim (NF q) fun hq => ⟨FK.keep _ _ (hK q hq).1, (hK q hq).2⟩
    refine hfin _ _ _ _ (by k_asm) NN (fun p hp => List.mem_append.mpr (.inr hp)) ?_
    intro Y hY
    exact ⟨_, _, _, _, _, _, rfl, hY _ (by k_mem), hY _ (by k_mem), SpIn.b (hY _ (by k_mem)) (hY _ (by k_mem))⟩

set_option maxHeartbeats 40000000 in
theorem csof_ab (w : World) (p : Program) (loose : List Str) (mean : ExcName → Option Value) (mg mb : Str → Option Value) (news : Led) (tk0 : Tok) :
    Tell w p loose mean mg mb 110 [.str (Str.ofString "ab") tk0] news 8 (fun r nw => CsIn nw r .ab) := by
  unfold Tell
  w_top off
  k_fill
  intro dp un gd cn cs a ccd cl outer A₀ base h₀ L m s Q E B F X N T hk hdp hu hret
  refine wpAny_call ?_
  have hfin := fin_all (news := news) (Post := fun r nw => CsIn nw r .ab) hret
  have hK : ∀ q ∈ news, (s.heap.get? q.1 = some q.2 ∧ q.1 ≠ L ∧ h₀.get? q.1 = none) := N
  clear N
  tb_start
  rename Fr _ _ _ (fun y => List.lookup _ _) => F0
  have F1 : Fr _ _ _ (fun y => List.lookup y [(Str.ofString "text", Value.str (Str.ofString "ab") tk0)]) := F0
  clear F0
  iterate 8 walk1
  refine ListComp_S (y := Str.ofString "ab") (fun i ys nx => PairsIn nx ys ([97, 98].take i)) (F₀ := by k_asm) (by with_unfolding_all rfl) (by decide) (by rfl) (by decide) (by rfl) (by rfl) (by decide +kernel) (by rw [sizeLine_eq]; decide +kernel) ?_
  walk1
  refine ⟨_, [], rfl, by k_asm, by k_asm, PairsIn.nil, ?_, ?_⟩
  · rintro i ys c u nx I oI C oC D m₂ h tk E' hc hP hoC hm F1 N1 off ne
    rw [show (Str.ofString "ab") = ⟨#[97, 98]⟩ from by decide +kernel] at hc
    have hi : i = 0 ∧ c = 97 ∨ i = 1 ∧ c = 98 := by
      rcases i with _ | _ | i
      · simp at hc; exact .inl ⟨rfl, hc.symm⟩
      · simp at hc; exact .inr ⟨rfl, hc.symm⟩
      · simp at hc
    rcases hi with ⟨rfl, rfl⟩ | ⟨rfl, rfl⟩
    · k_steps
      rename News _ _ _ _ => N9
      rename Fr _ _ _ _ => F9
      rename (_ ∧ _ ∧ _ ∧ AllLt _ _) => hlt
      rw [show (Str.ofString "a").cps.getD 0 0 = 97 from by decide +kernel] at N9
      refine CompEnd.intro F9 N9 (_ :: nx) sub_rot ⟨⟨Ne.symm (Nat.ne_of_lt hlt.1), Ne.symm (Nat.ne_of_lt hlt.2.1), Ne.symm (Nat.ne_of_lt hlt.2.2.1)⟩, off⟩ trivial ?_
      exact (hP.mono fun _ h => .tail _ h).snoc (cs := []) (c := 97) (.head _)
    · k_steps
      rename News _ _ _ _ => N9
      rename Fr _ _ _ _ => F9
      rename (_ ∧ _ ∧ _ ∧ AllLt _ _) => hlt
      rw [show (Str.ofString "b").cps.getD 0 0 = 98 from by decide +kernel] at N9
      refine CompEnd.intro F9 N9 (_ :: nx) sub_rot ⟨⟨Ne.symm (Nat.ne_of_lt hlt.1), Ne.symm (Nat.ne_of_lt hlt.2.1), Ne.symm (Nat.ne_of_lt hlt.2.2.1)⟩, off⟩ trivial ?_
      exact (hP.mono fun _ h => .tail _ h).snoc (cs := [97]) (c := 98) (.head _)
  · rintro D ys nx h tk hP F9 N9 hD
    rw [show (Str.ofString "ab").cps.size = 2 from by decide +kernel] at hP
    obtain ⟨ys1, p2, n2, t2, u2, rfl, m2, hP⟩ := PairsIn.inv (cs := [97]) (c := 98) hP
    obtain ⟨ys0, p1, n1, t1, u1, rfl, m1, hP⟩ := PairsIn.inv (cs := []) (c := 97) hP
    obtain rfl := hP.none
    dsimp only [List.nil_append, List.cons_append] at N9
    have N8 : News _ _ _ ((D, lst [.ref p1, .ref p2]) :: (p1, tupO #[.int 97 t1, .int 97 u1] n1) :: (p2, tupO #[.int 98 t2, .int 98 u2] n2) :: []) := fun q hq => N9 q (by
      rcases List.mem_cons.mp hq with rfl | hq
      · exact .head _
      · rcases List.mem_cons.mp hq with rfl | hq
        · exact .tail _ m1
        · rcases List.mem_cons.mp hq with rfl | hq
          · exact .tail _ m2
          · cases hq)
    clear N9 hD F1 hP m1 m2
    iterate 3 walk1
    rename Fr _ _ _ (fun y => List.lookup _ _) => F0
    have F2 : Fr _ _ _ (fun y => List.lookup y [(Str.ofString "pairs", Value.ref D)]) := F0
    clear F0 N8
    k_steps
    rename News _ _ _ _ => N7
    simp only [show ¬ ((0 : Int) > 97) by decide, show ¬ ((127 : Int) < 97) by decide, show ¬ ((0 : Int) > 98) by decide, show ¬ ((127 : Int) < 98) by decide, if_false] at N7
    rename Fr _ _ _ _ => F3
    obtain ⟨m3, lF', e1, e2⟩ := fr_abs (P := fun m => m (Str.ofString "kept") = some (.ref _) ∧ m (Str.ofString "spans") = some (.ref _)) F3 ⟨rfl, rfl⟩
    clear F3
    rw [map_named e1, map_named e2] at lF'
    (with_unfolding_all refine' For_turns lF' ?_; k_whole)
    k_steps
    rename News h₀ _ _ _ => NF
    rename Fr s.heap _ _ _ => FK
    have NN : News h₀ L _ (_ ++ news) := fun q hq => (List.mem_append.mp hq).elim (NF q) fun hq => ⟨FK.keep _ _ (hK q hq).1, (hK q hq).2⟩
    refine hfin _ _ _ _ (by k_asm) NN (fun p hp => List.mem_append.mpr (.inr hp)) ?_
    intro Y hY
    exact ⟨_, _, _, _, _, _, rfl, hY _ (by k_mem), hY _ (by k_mem), SpIn.ab (hY _ (by k_mem)) (hY _ (by k_mem))⟩
end
section
section
def NodeTo (w : World) (p : Program) (loose : List Str) (mean : ExcName → Option Value) (mg mb : Str → Option Value) (n : Nat) : Prop :=
  ∀ (t : Rx) (news : Led) (v : Value), DIn news v t → wf t → t.ht < n → Tell w p loose mean mg mb 559 [v] news (t.ht + 12) (fun r nw => NIn nw r t)
theorem lines_18 : True := by
  k_with_none
  (k_with "ktr_room" => ((try simp only [depth_under_make, depth_under_kw, depth_in1, depth_deeper, depth_caller, recursionLimit, Rx.ht] at *); (try dsimp only [ktrTop] at *); first | exact ar_r0 (by assumption) | exact ar_r1 (by assumption) | exact ar_r2 (by assumption) | omega))
  (k_with "k_mem" => with_reducible first | assumption | exact List.mem_cons_self | (refine List.mem_cons_of_mem _ ?_; k_mem) | (refine List.mem_append.mpr (Or.inl ?_); k_mem) | (refine List.mem_append.mpr (Or.inr ?_); k_mem))
  (k_with "ktn_open" => ((k_dflt ktr_enter); (try ((with_reducible show wpAny _ _ _ _ _ _); k_fold))))
  (k_with "tb_start" => (k_dflt (refine' code_defC ?k1_118 ?k2_118 ?k3_118 ?k4_118 ?k5_118 ?kA_118 ?kF_118 ?kK_118 ?k6_118 ?k7_118 ?k8_118 ?k9_118 ?kB_118 ?kD_118 ?_ ?c2_118 ?c3_118 ?c4_118; (case kA_118 => exact rfl); (case kF_118 => exact rfl); (case kK_118 => assumption); (case k1_118 => k_asm); (case k2_118 => k_asm); (case k3_118 => k_asm); (case k4_118 => k_asm); (case k5_118 => k_asm); (case k6_118 => k_is); (case k7_118 => k_is); (case k8_118 => ktr_room); (case k9_118 => exact BindsTo.of_eq rfl); (case kB_118 => exact rfl); (case kD_118 => decide +kernel); (case c2_118 => exact rfl); (case c3_118 => exact rfl); (case c4_118 => exact rfl); k_whole; intro g' L' h' tk' cells' FG' F' N' Y' B' X' T' l1; (try k_lt l1); k_cells Y'; (try simp only [List.cons_append, List.nil_append] at N'); (try dsimp only); (try ((with_reducible show wpAny _ _ _ _ _ _); k_fold))); (try ((with_reducible show wpAny _ _ _ _ _ _); k_fold))))
  (k_with "ktr_units" => (simp only [depth_under_make, depth_under_kw, depth_in1, depth_deeper, depth_caller, recursionLimit, units_in1, units_deeper, Around.mark_units, units_caller, cLine, Rx.ht] at *; (try dsimp only [ktrTop] at *); first | exact ar_r0 (by assumption) | exact ar_r1 (by assumption) | exact ar_r2 (by assumption) | exact ar_d (by assumption) (by decide) | exact ar_b (by assumption) (by decide) | exact ar_l (by assumption) (by decide) | exact ar_m (by assumption) (by decide) | exact ar_u (by assumption) (by decide) | exact ar_ub (by assumption) (by decide) | exact ar_ul (by assumption) (by decide) | exact ar_um (by assumption) (by decide) | exact ar_c (by assumption) | omega))
  (k_with "ktd_rel" => first | assumption | exact NIn.mono (by assumption) (by ktd_sub) | exact TIn.mono (by assumption) (by ktd_sub) | exact CIn.mono (by assumption) (by ktd_sub) | exact DIn.mono (by assumption) (by ktd_sub))
  (k_with "tell 1" => (refine' tell_use ?tlC ?tlB ?tlF ?tlX ?tlN ?tlT ?tlhk ?tlhd ?tlhu ?_; (case tlB => k_asm); (case tlF => k_asm); (case tlX => k_asm); (case tlT => k_asm); (case tlN => k_asm)))
  (k_with "tell 2" => ((case tlhk => first | exact rfl | assumption); (case tlhd => ktr_units); (case tlhu => ktr_units); k_whole))
  (k_with "ite" => with_reducible (first | apply ite_ff9 | apply ite_tt9))
  (k_with "k_room" => ktr_units)
  (k_with "ktd_sub" => first | exact fun _ h => h | (intro p9 h9; (try simp only [List.mem_append, List.mem_cons] at h9 ⊢); (repeat' (first | (simp only [h9, true_or, or_true]; done) | ((with_reducible refine Or.elim h9 ?_ ?_) <;> (clear h9; intro h9))))))
  (k_with "k_steps" => ((try ((with_reducible show wpAny _ _ _ _ _ _); k_fold)); repeat' (first | ((with_reducible show wpAny _ _ (exec _ _) _ _ _); k_fold) | (k_unfold; (try dsimp only)) | (k_end; wrow_close) | walk1 | (dsimp only; walk1) | (leave1; walk_say "STEP leave1"; try dsimp only) | fail "no step")))
  (k_with "k_handed" => first | exact NIn.handed (by assumption) | exact SpIn.handed (by assumption))
  (k_with "subscriptTail" => (k_here; (with_reducible show wpAny _ _ (subscriptTail _ _ (Value.ref _) (Value.int _ _)) _ _ _); k_dflt (refine' item_pair ?N_128 ?m_128 ?lo_128 ?hi_128 ?j_128 ?x_128 ?_ ?s_128; (case N_128 => k_asm); (case m_128 => k_mem); (case lo_128 => decide); (case hi_128 => decide); (case j_128 => exact rfl); (case x_128 => exact rfl); (case s_128 => with_unfolding_all rfl); k_whole)))
  (k_with "call ref" => (k_here; (with_reducible show wpAny _ _ (call (Value.ref 459) _) _ _ _); first | ktf_call (mkrep_some _ _ _ _ _ _ _ _ _ _ _ _ _ (by ktd_rel) (by omega) (by omega) (by omega)) | ktf_call (mkrep_some (low := 1) _ _ _ _ _ _ _ _ _ _ _ _ (by ktd_rel) (by omega) (by omega) (by omega)) | ktf_call (mkrep_none _ _ _ _ _ _ _ _ _ _ _ (by ktd_rel) (by omega)) | ktf_call (mkrep_none (low := 1) _ _ _ _ _ _ _ _ _ _ (by ktd_rel) (by omega))))
  (k_with "call ref" => (k_here; (with_reducible show wpAny _ _ (call (Value.ref 110) _) _ _ _); first | ktf_call (csof_a _ _ _ _ _ _ _ _) | ktf_call (csof_b _ _ _ _ _ _ _ _) | ktf_call (csof_ab _ _ _ _ _ _ _ _)))
  (k_with "call ref" => (k_here; (with_reducible show wpAny _ _ (call (Value.ref 559) _) _ _ _); (with_reducible rename NodeTo _ _ _ _ _ _ _ => IH9); ktf_call (IH9 _ _ _ (by ktd_rel) (by simp only [wf] at *; simp only [*]) (by simp only [Rx.ht] at *; omega))))
  trivial
theorem node_ca (w : World) (p : Program) (loose : List Str) (mean : ExcName → Option Value) (mg mb : Str → Option Value)  (t : Rx) (et : t = .chr .a) (hh : t.ht ≤ 20) (hw : wf t)
    (IH : NodeTo w p loose mean mg mb t.ht)
    (news : Led) (v : Value) (R : DIn news v t) : Tell w p loose mean mg mb 559 [v] news (t.ht + 12) (fun r nw => NIn nw r t) := by
  subst et
  cases R with
  | sa =>
    unfold Tell
    w_top off
    k_fill
    intro dp un gd cn cs ca ccd cl outer A₀ base h₀ L mm0 ss0 Q E B F X N T hk hdp hu hret
    simp only [Rx.ht] at hdp hu hh
    refine wpAny_call ?_
    have hfin := fin_all (news := news) (Post := fun r nw => NIn nw r _) hret
    ktn_open
    rename Fr _ _ _ (fun y => List.lookup _ _) => F0
    have F1 : Fr _ _ _ (fun y => List.lookup y [(Str.ofString "tree", Value.ref 532)]) := F0
    clear F0
    k_steps
    refine hfin _ _ _ _ (by k_asm) (by k_asm) (by ktd_sub) ?_
    intro Y hY
    rename CsIn _ _ _ => hC
    obtain ⟨c1, dc1, k1, hh1, tt1, sp1, rfl, q1, q2, S1⟩ := hC
    exact NIn.chr (hY _ (by k_mem)) (hY _ (by k_mem)) (hY _ (by k_mem)) (hY _ (by k_mem)) (S1.mono (subs_trans (by ktd_sub) hY))

theorem node_cb (w : World) (p : Program) (loose : List Str) (mean : ExcName → Option Value) (mg mb : Str → Option Value)  (t : Rx) (et : t = .chr .b) (hh : t.ht ≤ 20) (hw : wf t)
    (IH : NodeTo w p loose mean mg mb t.ht)
    (news : Led) (v : Value) (R : DIn news v t) : Tell w p loose mean mg mb 559 [v] news (t.ht + 12) (fun r nw => NIn nw r t) := by
  subst et
  cases R with
  | sb =>
    unfold Tell
    w_top off
    k_fill
    intro dp un gd cn cs ca ccd cl outer A₀ base h₀ L mm0 ss0 Q E B F X N T hk hdp hu hret
    simp only [Rx.ht] at hdp hu hh
    refine wpAny_call ?_
    have hfin := fin_all (news := news) (Post := fun r nw => NIn nw r _) hret
    ktn_open
    rename Fr _ _ _ (fun y => List.lookup _ _) => F0
    have F1 : Fr _ _ _ (fun y => List.lookup y [(Str.ofString "tree", Value.ref 533)]) := F0
    clear F0
    k_steps
    refine hfin _ _ _ _ (by k_asm) (by k_asm) (by ktd_sub) ?_
    intro Y hY
    rename CsIn _ _ _ => hC
    obtain ⟨c1, dc1, k1, hh1, tt1, sp1, rfl, q1, q2, S1⟩ := hC
    exact NIn.chr (hY _ (by k_mem)) (hY _ (by k_mem)) (hY _ (by k_mem)) (hY _ (by k_mem)) (S1.mono (subs_trans (by ktd_sub) hY))
  | sb2 =>
    unfold Tell
    w_top off
    k_fill
    intro dp un gd cn cs ca ccd cl outer A₀ base h₀ L mm0 ss0 Q E B F X N T hk hdp hu hret
    simp only [Rx.ht] at hdp hu hh
    refine wpAny_call ?_
    have hfin := fin_all (news := news) (Post := fun r nw => NIn nw r _) hret
    ktn_open
    rename Fr _ _ _ (fun y => List.lookup _ _) => F0
    have F1 : Fr _ _ _ (fun y => List.lookup y [(Str.ofString "tree", Value.ref 537)]) := F0
    clear F0
    k_steps
    refine hfin _ _ _ _ (by k_asm) (by k_asm) (by ktd_sub) ?_
    intro Y hY
    rename CsIn _ _ _ => hC
    obtain ⟨c1, dc1, k1, hh1, tt1, sp1, rfl, q1, q2, S1⟩ := hC
    exact NIn.chr (hY _ (by k_mem)) (hY _ (by k_mem)) (hY _ (by k_mem)) (hY _ (by k_mem)) (S1.mono (subs_trans (by ktd_sub) hY))

theorem node_cab (w : World) (p : Program) (loose : List Str) (mean : ExcName → Option Value) (mg mb : Str → Option Value)  (t : Rx) (et : t = .chr .ab) (hh : t.ht ≤ 20) (hw : wf t)
    (IH : NodeTo w p loose mean mg mb t.ht)
    (news : Led) (v : Value) (R : DIn news v t) : Tell w p loose mean mg mb 559 [v] news (t.ht + 12) (fun r nw => NIn nw r t) := by
  subst et
  cases R with
  | sab =>
    unfold Tell
    w_top off
    k_fill
    intro dp un gd cn cs ca ccd cl outer A₀ base h₀ L mm0 ss0 Q E B F X N T hk hdp hu hret
    simp only [Rx.ht] at hdp hu hh
    refine wpAny_call ?_
    have hfin := fin_all (news := news) (Post := fun r nw => NIn nw r _) hret
    ktn_open
    rename Fr _ _ _ (fun y => List.lookup _ _) => F0
    have F1 : Fr _ _ _ (fun y => List.lookup y [(Str.ofString "tree", Value.ref 534)]) := F0
    clear F0
    k_steps
    refine hfin _ _ _ _ (by k_asm) (by k_asm) (by ktd_sub) ?_
    intro Y hY
    rename CsIn _ _ _ => hC
    obtain ⟨c1, dc1, k1, hh1, tt1, sp1, rfl, q1, q2, S1⟩ := hC
    exact NIn.chr (hY _ (by k_mem)) (hY _ (by k_mem)) (hY _ (by k_mem)) (hY _ (by k_mem)) (S1.mono (subs_trans (by ktd_sub) hY))

theorem node_empty (w : World) (p : Program) (loose : List Str) (mean : ExcName → Option Value) (mg mb : Str → Option Value)  (t : Rx) (et : t = .empty) (hh : t.ht ≤ 20) (hw : wf t)
    (IH : NodeTo w p loose mean mg mb t.ht)
    (news : Led) (v : Value) (R : DIn news v t) : Tell w p loose mean mg mb 559 [v] news (t.ht + 12) (fun r nw => NIn nw r t) := by
  subst et
  cases R with
  | e0 =>
    unfold Tell
    w_top off
    k_fill
    intro dp un gd cn cs ca ccd cl outer A₀ base h₀ L mm0 ss0 Q E B F X N T hk hdp hu hret
    simp only [Rx.ht] at hdp hu hh
    refine wpAny_call ?_
    have hfin := fin_all (news := news) (Post := fun r nw => NIn nw r _) hret
    ktn_open
    rename Fr _ _ _ (fun y => List.lookup _ _) => F0
    have F1 : Fr _ _ _ (fun y => List.lookup y [(Str.ofString "tree", Value.ref 535)]) := F0
    clear F0
    k_steps
    refine hfin _ _ _ _ (by k_asm) (by k_asm) (by ktd_sub) ?_
    intro Y hY
    exact NIn.empty (hY _ (by k_mem)) (hY _ (by k_mem))

theorem node_never (w : World) (p : Program) (loose : List Str) (mean : ExcName → Option Value) (mg mb : Str → Option Value)  (t : Rx) (et : t = .never) (hh : t.ht ≤ 20) (hw : wf t)
    (IH : NodeTo w p loose mean mg mb t.ht)
    (news : Led) (v : Value) (R : DIn news v t) : Tell w p loose mean mg mb 559 [v] news (t.ht + 12) (fun r nw => NIn nw r t) := by
  subst et
  cases R with
  | n0 =>
    unfold Tell
    w_top off
    k_fill
    intro dp un gd cn cs ca ccd cl outer A₀ base h₀ L mm0 ss0 Q E B F X N T hk hdp hu hret
    simp only [Rx.ht] at hdp hu hh
    refine wpAny_call ?_
    have hfin := fin_all (news := news) (Post := fun r nw => NIn nw r _) hret
    ktn_open
    rename Fr _ _ _ (fun y => List.lookup _ _) => F0
    have F1 : Fr _ _ _ (fun y => List.lookup y [(Str.ofString "tree", Value.ref 536)]) := F0
    clear F0
    k_steps
    refine hfin _ _ _ _ (by k_asm) (by k_asm) (by ktd_sub) ?_
    intro Y hY
    exact NIn.never (hY _ (by k_mem)) (hY _ (by k_mem))

theorem node_cat (w : World) (p : Program) (loose : List Str) (mean : ExcName → Option Value) (mg mb : Str → Option Value) (l r : Rx) (t : Rx) (et : t = .cat l r) (hh : t.ht ≤ 20) (hw : wf t)
    (IH : NodeTo w p loose mean mg mb t.ht)
    (news : Led) (v : Value) (R : DIn news v t) : Tell w p loose mean mg mb 559 [v] news (t.ht + 12) (fun r nw => NIn nw r t) := by
  subst et
  cases R with
  | @cat a t1 v1 u1 n _ _ m1 R1 R2 =>
    unfold Tell
    w_top off
    k_fill
    intro dp un gd cn cs ca ccd cl outer A₀ base h₀ L mm0 ss0 Q E B F X N T hk hdp hu hret
    simp only [Rx.ht] at hdp hu hh
    refine wpAny_call ?_
    have hfin := fin_all (news := news) (Post := fun r nw => NIn nw r _) hret
    ktn_open
    rename Fr _ _ _ (fun y => List.lookup _ _) => F0
    have F1 : Fr _ _ _ (fun y => List.lookup y [(Str.ofString "tree", Value.ref a)]) := F0
    clear F0
    k_steps
    refine hfin _ _ _ _ (by k_asm) (by k_asm) (by ktd_sub) ?_
    intro Y hY
    exact NIn.cat (hY _ (by k_mem)) (hY _ (by k_mem)) (NIn.mono (by assumption) (subs_trans (by ktd_sub) hY)) (NIn.mono (by assumption) (subs_trans (by ktd_sub) hY))

theorem node_alt (w : World) (p : Program) (loose : List Str) (mean : ExcName → Option Value) (mg mb : Str → Option Value) (l r : Rx) (t : Rx) (et : t = .alt l r) (hh : t.ht ≤ 20) (hw : wf t)
    (IH : NodeTo w p loose mean mg mb t.ht)
    (news : Led) (v : Value) (R : DIn news v t) : Tell w p loose mean mg mb 559 [v] news (t.ht + 12) (fun r nw => NIn nw r t) := by
  subst et
  cases R with
  | @alt a t1 v1 u1 n _ _ m1 R1 R2 =>
    unfold Tell
    w_top off
    k_fill
    intro dp un gd cn cs ca ccd cl outer A₀ base h₀ L mm0 ss0 Q E B F X N T hk hdp hu hret
    simp only [Rx.ht] at hdp hu hh
    refine wpAny_call ?_
    have hfin := fin_all (news := news) (Post := fun r nw => NIn nw r _) hret
    ktn_open
    rename Fr _ _ _ (fun y => List.lookup _ _) => F0
    have F1 : Fr _ _ _ (fun y => List.lookup y [(Str.ofString "tree", Value.ref a)]) := F0
    clear F0
    k_steps
    refine hfin _ _ _ _ (by k_asm) (by k_asm) (by ktd_sub) ?_
    intro Y hY
    exact NIn.alt (hY _ (by k_mem)) (hY _ (by k_mem)) (NIn.mono (by assumption) (subs_trans (by ktd_sub) hY)) (NIn.mono (by assumption) (subs_trans (by ktd_sub) hY))

theorem node_star (w : World) (p : Program) (loose : List Str) (mean : ExcName → Option Value) (mg mb : Str → Option Value) (b : Rx) (t : Rx) (et : t = .star b) (hh : t.ht ≤ 20) (hw : wf t)
    (IH : NodeTo w p loose mean mg mb t.ht)
    (news : Led) (v : Value) (R : DIn news v t) : Tell w p loose mean mg mb 559 [v] news (t.ht + 12) (fun r nw => NIn nw r t) := by
  subst et
  cases R with
  | @star a t1 v1 n _ m1 R1 =>
    unfold Tell
    w_top off
    k_fill
    intro dp un gd cn cs ca ccd cl outer A₀ base h₀ L mm0 ss0 Q E B F X N T hk hdp hu hret
    simp only [Rx.ht] at hdp hu hh
    refine wpAny_call ?_
    have hfin := fin_all (news := news) (Post := fun r nw => NIn nw r _) hret
    ktn_open
    rename Fr _ _ _ (fun y => List.lookup _ _) => F0
    have F1 : Fr _ _ _ (fun y => List.lookup y [(Str.ofString "tree", Value.ref a)]) := F0
    clear F0
    k_steps
    refine hfin _ _ _ _ (by k_asm) (by k_asm) (by ktd_sub) ?_
    intro Y hY
    exact NIn.star (hY _ (by k_mem)) (hY _ (by k_mem)) (NIn.mono (by assumption) (subs_trans (by ktd_sub) hY))

theorem node_plus (w : World) (p : Program) (loose : List Str) (mean : ExcName → Option Value) (mg mb : Str → Option Value) (b : Rx) (t : Rx) (et : t = .plus b) (hh : t.ht ≤ 20) (hw : wf t)
    (IH : NodeTo w p loose mean mg mb t.ht)
    (news : Led) (v : Value) (R : DIn news v t) : Tell w p loose mean mg mb 559 [v] news (t.ht + 12) (fun r nw => NIn nw r t) := by
  subst et
  cases R with
  | @plus a t1 v1 n _ m1 R1 =>
    unfold Tell
    w_top off
    k_fill
    intro dp un gd cn cs ca ccd cl outer A₀ base h₀ L mm0 ss0 Q E B F X N T hk hdp hu hret
    simp only [Rx.ht] at hdp hu hh
    refine wpAny_call ?_
    have hfin := fin_all (news := news) (Post := fun r nw => NIn nw r _) hret
    ktn_open
    rename Fr _ _ _ (fun y => List.lookup _ _) => F0
    have F1 : Fr _ _ _ (fun y => List.lookup y [(Str.ofString "tree", Value.ref a)]) := F0
    clear F0
    k_steps
    refine hfin _ _ _ _ (by k_asm) (by k_asm) (by ktd_sub) ?_
    intro Y hY
    exact NIn.plus (hY _ (by k_mem)) (hY _ (by k_mem)) (NIn.mono (by assumption) (subs_trans (by ktd_sub) hY))

theorem node_opt (w : World) (p : Program) (loose : List Str) (mean : ExcName → Option Value) (mg mb : Str → Option Value) (b : Rx) (t : Rx) (et : t = .opt b) (hh : t.ht ≤ 20) (hw : wf t)
    (IH : NodeTo w p loose mean mg mb t.ht)
    (news : Led) (v : Value) (R : DIn news v t) : Tell w p loose mean mg mb 559 [v] news (t.ht + 12) (fun r nw => NIn nw r t) := by
  subst et
  cases R with
  | @opt a t1 v1 n _ m1 R1 =>
    unfold Tell
    w_top off
    k_fill
    intro dp un gd cn cs ca ccd cl outer A₀ base h₀ L mm0 ss0 Q E B F X N T hk hdp hu hret
    simp only [Rx.ht] at hdp hu hh
    refine wpAny_call ?_
    have hfin := fin_all (news := news) (Post := fun r nw => NIn nw r _) hret
    ktn_open
    rename Fr _ _ _ (fun y => List.lookup _ _) => F0
    have F1 : Fr _ _ _ (fun y => List.lookup y [(Str.ofString "tree", Value.ref a)]) := F0
    clear F0
    k_steps
    refine hfin _ _ _ _ (by k_asm) (by k_asm) (by ktd_sub) ?_
    intro Y hY
    exact NIn.opt (hY _ (by k_mem)) (hY _ (by k_mem)) (NIn.mono (by assumption) (subs_trans (by ktd_sub) hY))

theorem node_rep (w : World) (p : Program) (loose : List Str) (mean : ExcName → Option Value) (mg mb : Str → Option Value) (b : Rx) (low high : Nat) (t : Rx) (et : t = .rep b low (some high)) (hh : t.ht ≤ 20) (hw : wf t)
    (IH : NodeTo w p loose mean mg mb t.ht)
    (news : Led) (v : Value) (R : DIn news v t) : Tell w p loose mean mg mb 559 [v] news (t.ht + 12) (fun r nw => NIn nw r t) := by
  subst et
  cases R with
  | @rep a t1 v1 n _ tl th _ _ m1 R1 =>
    unfold Tell
    w_top off
    k_fill
    intro dp un gd cn cs ca ccd cl outer A₀ base h₀ L mm0 ss0 Q E B F X N T hk hdp hu hret
    simp only [Rx.ht] at hdp hu hh
    refine wpAny_call ?_
    have hfin := fin_all (news := news) (Post := fun r nw => NIn nw r _) hret
    have q1 := hw.2.1
    have q2 := hw.2.2 high rfl
    ktn_open
    rename Fr _ _ _ (fun y => List.lookup _ _) => F0
    have F1 : Fr _ _ _ (fun y => List.lookup y [(Str.ofString "tree", Value.ref a)]) := F0
    clear F0
    k_steps
    refine hfin _ _ _ _ (by k_asm) (by k_asm) (by ktd_sub) ?_
    intro Y hY
    exact (NIn.mono (by assumption) (subs_trans (by ktd_sub) hY))

theorem node_repN (w : World) (p : Program) (loose : List Str) (mean : ExcName → Option Value) (mg mb : Str → Option Value) (b : Rx) (low : Nat) (t : Rx) (et : t = .rep b low none) (hh : t.ht ≤ 20) (hw : wf t)
    (IH : NodeTo w p loose mean mg mb t.ht)
    (news : Led) (v : Value) (R : DIn news v t) : Tell w p loose mean mg mb 559 [v] news (t.ht + 12) (fun r nw => NIn nw r t) := by
  subst et
  cases R with
  | @repN a t1 v1 n _ tl _ m1 R1 =>
    unfold Tell
    w_top off
    k_fill
    intro dp un gd cn cs ca ccd cl outer A₀ base h₀ L mm0 ss0 Q E B F X N T hk hdp hu hret
    simp only [Rx.ht] at hdp hu hh
    refine wpAny_call ?_
    have hfin := fin_all (news := news) (Post := fun r nw => NIn nw r _) hret
    have q1 := hw.2.1
    ktn_open
    rename Fr _ _ _ (fun y => List.lookup _ _) => F0
    have F1 : Fr _ _ _ (fun y => List.lookup y [(Str.ofString "tree", Value.ref a)]) := F0
    clear F0
    k_steps
    refine hfin _ _ _ _ (by k_asm) (by k_asm) (by ktd_sub) ?_
    intro Y hY
    exact (NIn.mono (by assumption) (subs_trans (by ktd_sub) hY))
theorem node_spec (w : World) (p : Program) (loose : List Str) (mean : ExcName → Option Value) (mg mb : Str → Option Value) : ∀ n, n ≤ 21 → NodeTo w p loose mean mg mb n
  | 0, _ => fun t news v R hw h => absurd h (Nat.not_lt_zero _)
  | n + 1, hn => fun t news v R hw h => by
    have hh : t.ht ≤ 20 := by omega
    have IH : NodeTo w p loose mean mg mb t.ht := fun t' news' v' R' hw' h' => node_spec w p loose mean mg mb n (by omega) t' news' v' R' hw' (by omega)
    cases t with
    | chr sg =>
      cases sg with
      | a => exact node_ca w p loose mean mg mb _ rfl hh hw IH news v R
      | b => exact node_cb w p loose mean mg mb _ rfl hh hw IH news v R
      | ab => exact node_cab w p loose mean mg mb _ rfl hh hw IH news v R
    | empty => exact node_empty w p loose mean mg mb _ rfl hh hw IH news v R
    | never => exact node_never w p loose mean mg mb _ rfl hh hw IH news v R
    | cat l r => exact node_cat w p loose mean mg mb l r _ rfl hh hw IH news v R
    | alt l r => exact node_alt w p loose mean mg mb l r _ rfl hh hw IH news v R
    | star b => exact node_star w p loose mean mg mb b _ rfl hh hw IH news v R
    | plus b => exact node_plus w p loose mean mg mb b _ rfl hh hw IH news v R
    | opt b => exact node_opt w p loose mean mg mb b _ rfl hh hw IH news v R
    | rep b low high =>
      cases high with
      | some high => exact node_rep w p loose mean mg mb b low high _ rfl hh hw IH news v R
      | none => exact node_repN w p loose mean mg mb b low _ rfl hh hw IH news v R
end
section
theorem lines_19 : True := by
  k_with_none
  (k_with "ktr_room" => ((try simp only [depth_under_make, depth_under_kw, depth_in1, depth_deeper, depth_caller, recursionLimit, Rx.ht] at *); (try dsimp only [ktrTop] at *); first | exact ar_r0 (by assumption) | exact ar_r1 (by assumption) | exact ar_r2 (by assumption) | omega))
  (k_with "k_mem" => with_reducible first | assumption | exact List.mem_cons_self | (refine List.mem_cons_of_mem _ ?_; k_mem) | (refine List.mem_append.mpr (Or.inl ?_); k_mem) | (refine List.mem_append.mpr (Or.inr ?_); k_mem))
  (k_with "ktn_open" => ((k_dflt ktr_enter); (try ((with_reducible show wpAny _ _ _ _ _ _); k_fold))))
  (k_with "tb_start" => (k_dflt (refine' code_defC ?k1_135 ?k2_135 ?k3_135 ?k4_135 ?k5_135 ?kA_135 ?kF_135 ?kK_135 ?k6_135 ?k7_135 ?k8_135 ?k9_135 ?kB_135 ?kD_135 ?_ ?c2_135 ?c3_135 ?c4_135; (case kA_135 => exact rfl); (case kF_135 => exact rfl); (case kK_135 => assumption); (case k1_135 => k_asm); (case k2_135 => k_asm); (case k3_135 => k_asm); (case k4_135 => k_asm); (case k5_135 => k_asm); (case k6_135 => k_is); (case k7_135 => k_is); (case k8_135 => ktr_room); (case k9_135 => exact BindsTo.of_eq rfl); (case kB_135 => exact rfl); (case kD_135 => decide +kernel); (case c2_135 => exact rfl); (case c3_135 => exact rfl); (case c4_135 => exact rfl); k_whole; intro g' L' h' tk' cells' FG' F' N' Y' B' X' T' l1; (try k_lt l1); k_cells Y'; (try simp only [List.cons_append, List.nil_append] at N'); (try dsimp only); (try ((with_reducible show wpAny _ _ _ _ _ _); k_fold))); (try ((with_reducible show wpAny _ _ _ _ _ _); k_fold))))
  (k_with "ktr_units" => (simp only [depth_under_make, depth_under_kw, depth_in1, depth_deeper, depth_caller, recursionLimit, units_in1, units_deeper, Around.mark_units, units_caller, cLine, Rx.ht] at *; (try dsimp only [ktrTop] at *); first | exact ar_r0 (by assumption) | exact ar_r1 (by assumption) | exact ar_r2 (by assumption) | exact ar_d (by assumption) (by decide) | exact ar_b (by assumption) (by decide) | exact ar_l (by assumption) (by decide) | exact ar_m (by assumption) (by decide) | exact ar_u (by assumption) (by decide) | exact ar_ub (by assumption) (by decide) | exact ar_ul (by assumption) (by decide) | exact ar_um (by assumption) (by decide) | exact ar_c (by assumption) | omega))
  (k_with "ktd_rel" => first | assumption | exact NIn.mono (by assumption) (by ktd_sub) | exact TIn.mono (by assumption) (by ktd_sub) | exact CIn.mono (by assumption) (by ktd_sub) | exact DIn.mono (by assumption) (by ktd_sub))
  (k_with "tell 1" => (refine' tell_use ?tlC ?tlB ?tlF ?tlX ?tlN ?tlT ?tlhk ?tlhd ?tlhu ?_; (case tlB => k_asm); (case tlF => k_asm); (case tlX => k_asm); (case tlT => k_asm); (case tlN => k_asm)))
  (k_with "tell 2" => ((case tlhk => first | exact rfl | assumption); (case tlhd => ktr_units); (case tlhu => ktr_units); k_whole))
  (k_with "ite" => with_reducible (first | apply ite_ff9 | apply ite_tt9))
  (k_with "k_room" => ktr_units)
  (k_with "ktd_sub" => first | exact fun _ h => h | (intro p9 h9; (try simp only [List.mem_append, List.mem_cons] at h9 ⊢); (repeat' (first | (simp only [h9, true_or, or_true]; done) | ((with_reducible refine Or.elim h9 ?_ ?_) <;> (clear h9; intro h9))))))
  (k_with "k_steps" => ((try ((with_reducible show wpAny _ _ _ _ _ _); k_fold)); repeat' (first | ((with_reducible show wpAny _ _ (exec _ _) _ _ _); k_fold) | (k_unfold; (try dsimp only)) | (k_end; wrow_close) | walk1 | (dsimp only; walk1) | (leave1; walk_say "STEP leave1"; try dsimp only) | fail "no step")))
  (k_with "k_handed" => first | exact NIn.handed (by assumption) | exact SpIn.handed (by assumption))
  (k_with "subscriptTail" => (k_here; (with_reducible show wpAny _ _ (subscriptTail _ _ (Value.ref _) (Value.int _ _)) _ _ _); k_dflt (refine' item_pair ?N_145 ?m_145 ?lo_145 ?hi_145 ?j_145 ?x_145 ?_ ?s_145; (case N_145 => k_asm); (case m_145 => k_mem); (case lo_145 => decide); (case hi_145 => decide); (case j_145 => exact rfl); (case x_145 => exact rfl); (case s_145 => with_unfolding_all rfl); k_whole)))
  (k_with "call ref" => (k_here; (with_reducible show wpAny _ _ (call (Value.ref 576) _) _ _ _); (with_reducible rename WordsTo _ _ _ _ _ _ _ => IH9); k_dflt (refine' tell_words ?C_146 ?B_146 ?F_146 ?X_146 ?N_146 ?T_146 ?hk_146 ?hd_146 ?hu_146 ?_; (case B_146 => k_asm); (case F_146 => k_asm); (case X_146 => k_asm); (case T_146 => k_asm); (case N_146 => k_asm); (case C_146 => exact (IH9 _ _ _ (by ktd_rel) (by first | assumption | (simp only [wf] at *; simp only [*])) (by first | omega | (simp only [Rx.ht] at *; omega)))); (case hk_146 => first | exact rfl | assumption); (case hd_146 => ktr_units); (case hu_146 => ktr_units); k_whole; intro ws8 a8 n8 vs8 tl9 h9 tk9 F9 N9 hl9 m8 S8 W8; have A8 : WA ws8 := WA.of W8 (ab_L _))))
  (k_with "kct_strs" => first | assumption | exact StrsAre.nil | exact StrsAre.cons _ _ StrsAre.nil)
  (k_with "kas_types" => first | assumption | exact WA.se)
  (k_with "call ref" => (k_here; (with_reducible show wpAny _ _ (call (Value.ref 571) _) _ _ _); k_dflt (refine' tell_strs ?C_149 ?B_149 ?F_149 ?X_149 ?N_149 ?T_149 ?hk_149 ?hd_149 ?hu_149 ?_; (case B_149 => k_asm); (case F_149 => k_asm); (case X_149 => k_asm); (case T_149 => k_asm); (case N_149 => k_asm); (case C_149 => exact (rows_W _ _ _ _ _ _ _ (by k_mem) (by k_mem) (by kct_strs) (by kct_strs) (by kas_types) (by kas_types))); (case hk_149 => first | exact rfl | assumption); (case hd_149 => ktr_units); (case hu_149 => ktr_units); k_whole; intro a8 n8 vs8 tl9 h9 tk9 F9 N9 hl9 m8 S8; have A8 := WA.of_rows S8 (by kas_types) (by kas_types))))
  (k_with "call ref" => (k_here; (with_reducible show wpAny _ _ (call (Value.ref 564) _) _ _ _); k_dflt (refine' tell_strs ?C_150 ?B_150 ?F_150 ?X_150 ?N_150 ?T_150 ?hk_150 ?hd_150 ?hu_150 ?_; (case B_150 => k_asm); (case F_150 => k_asm); (case X_150 => k_asm); (case T_150 => k_asm); (case N_150 => k_asm); (case C_150 => exact (fresh_W _ _ _ _ _ _ _ (by k_mem) (by k_mem) (by kct_strs) (by kct_strs) (by kas_types))); (case hk_150 => first | exact rfl | assumption); (case hd_150 => ktr_units); (case hu_150 => ktr_units); k_whole; intro a8 n8 vs8 tl9 h9 tk9 F9 N9 hl9 m8 S8; have A8 := WA.of_fresh S8 (by kas_types))))
  (k_with "binaryOp Add ref ref" => (k_here; (with_reducible show wpAny _ _ (binaryOp _ (Value.ref _) (Value.ref _)) _ _ _); k_dflt (refine' cat_W ?F_151 ?N_151 ?a_151 ?b_151 ?i_151 ?j_151 ?k_151 ?l_151 ?_; (case F_151 => k_asm); (case N_151 => k_asm); (case a_151 => k_mem); (case b_151 => k_mem); (case i_151 => kct_strs); (case j_151 => kct_strs); (case k_151 => kas_types); (case l_151 => kas_types)); intro D' h' z' F' N' S' l1; (try k_lt l1)))
  trivial
theorem words_never (w : World) (p : Program) (loose : List Str) (mean : ExcName → Option Value) (mg mb : Str → Option Value)  (t : Rx) (et : t = .never) (hh : t.ht ≤ 20) (hw : wf t)
    (IH : WordsTo w p loose mean mg mb t.ht)
    (news : Led) (v : Value) (R : TIn news v t) : Tell w p loose mean mg mb 576 [v] news (t.ht + 4) (fun r nw => ∃ ws, StrList nw r ws ∧ W (L t) ws) := by
  subst et
  cases R with
  | n0 =>
    unfold Tell
    w_top off
    k_fill
    intro dp un gd cn cs ca ccd cl outer A₀ base h₀ L₀ mm0 ss0 Q E B F X N T hk hdp hu hret
    simp only [Rx.ht] at hdp hu hh
    refine wpAny_call ?_
    have hfin := fin_all (news := news) (Post := fun r nw => ∃ ws, StrList nw r ws ∧ W (L _) ws) hret
    tb_start
    rename Fr _ _ _ (bindL _ _ _) => F0
    have F1 : Fr _ _ _ (fun _ => none) := F0
    rename (Obj.data _ = Data.cell _) => d0
    have d1 : Obj.data _ = Data.cell (some (Value.ref 536)) := d0
    clear F0 d0
    k_steps
    refine hfin _ _ _ _ (by k_asm) (by k_asm) (by ktd_sub) ?_
    intro Y hY
    exact ⟨[], ⟨_, _, [], rfl, hY _ (by k_mem), .nil⟩, W_nil⟩
  | @never a1 t1 n m1 =>
    unfold Tell
    w_top off
    k_fill
    intro dp un gd cn cs ca ccd cl outer A₀ base h₀ L₀ mm0 ss0 Q E B F X N T hk hdp hu hret
    simp only [Rx.ht] at hdp hu hh
    refine wpAny_call ?_
    have hfin := fin_all (news := news) (Post := fun r nw => ∃ ws, StrList nw r ws ∧ W (L _) ws) hret
    tb_start
    rename Fr _ _ _ (bindL _ _ _) => F0
    have F1 : Fr _ _ _ (fun _ => none) := F0
    rename (Obj.data _ = Data.cell _) => d0
    have d1 : Obj.data _ = Data.cell (some (Value.ref a1)) := d0
    clear F0 d0
    k_steps
    refine hfin _ _ _ _ (by k_asm) (by k_asm) (by ktd_sub) ?_
    intro Y hY
    exact ⟨[], ⟨_, _, [], rfl, hY _ (by k_mem), .nil⟩, W_nil⟩

theorem words_empty (w : World) (p : Program) (loose : List Str) (mean : ExcName → Option Value) (mg mb : Str → Option Value)  (t : Rx) (et : t = .empty) (hh : t.ht ≤ 20) (hw : wf t)
    (IH : WordsTo w p loose mean mg mb t.ht)
    (news : Led) (v : Value) (R : TIn news v t) : Tell w p loose mean mg mb 576 [v] news (t.ht + 4) (fun r nw => ∃ ws, StrList nw r ws ∧ W (L t) ws) := by
  subst et
  cases R with
  | e0 =>
    unfold Tell
    w_top off
    k_fill
    intro dp un gd cn cs ca ccd cl outer A₀ base h₀ L₀ mm0 ss0 Q E B F X N T hk hdp hu hret
    simp only [Rx.ht] at hdp hu hh
    refine wpAny_call ?_
    have hfin := fin_all (news := news) (Post := fun r nw => ∃ ws, StrList nw r ws ∧ W (L _) ws) hret
    tb_start
    rename Fr _ _ _ (bindL _ _ _) => F0
    have F1 : Fr _ _ _ (fun _ => none) := F0
    rename (Obj.data _ = Data.cell _) => d0
    have d1 : Obj.data _ = Data.cell (some (Value.ref 535)) := d0
    clear F0 d0
    k_steps
    refine hfin _ _ _ _ (by k_asm) (by k_asm) (by ktd_sub) ?_
    intro Y hY
    exact ⟨_, ⟨_, _, _, rfl, hY _ (by k_mem), .cons _ _ .nil⟩, W_se'⟩
  | @empty a1 t1 n m1 =>
    unfold Tell
    w_top off
    k_fill
    intro dp un gd cn cs ca ccd cl outer A₀ base h₀ L₀ mm0 ss0 Q E B F X N T hk hdp hu hret
    simp only [Rx.ht] at hdp hu hh
    refine wpAny_call ?_
    have hfin := fin_all (news := news) (Post := fun r nw => ∃ ws, StrList nw r ws ∧ W (L _) ws) hret
    tb_start
    rename Fr _ _ _ (bindL _ _ _) => F0
    have F1 : Fr _ _ _ (fun _ => none) := F0
    rename (Obj.data _ = Data.cell _) => d0
    have d1 : Obj.data _ = Data.cell (some (Value.ref a1)) := d0
    clear F0 d0
    k_steps
    refine hfin _ _ _ _ (by k_asm) (by k_asm) (by ktd_sub) ?_
    intro Y hY
    exact ⟨_, ⟨_, _, _, rfl, hY _ (by k_mem), .cons _ _ .nil⟩, W_se'⟩

theorem words_cat (w : World) (p : Program) (loose : List Str) (mean : ExcName → Option Value) (mg mb : Str → Option Value) (l r : Rx) (t : Rx) (et : t = .cat l r) (hh : t.ht ≤ 20) (hw : wf t)
    (IH : WordsTo w p loose mean mg mb t.ht)
    (news : Led) (v : Value) (R : TIn news v t) : Tell w p loose mean mg mb 576 [v] news (t.ht + 4) (fun r nw => ∃ ws, StrList nw r ws ∧ W (L t) ws) := by
  subst et
  cases R with
  | @cat a1 t1 v1 u1 n _ _ m1 R1 R2 =>
    unfold Tell
    w_top off
    k_fill
    intro dp un gd cn cs ca ccd cl outer A₀ base h₀ L₀ mm0 ss0 Q E B F X N T hk hdp hu hret
    simp only [Rx.ht] at hdp hu hh
    refine wpAny_call ?_
    have hfin := fin_all (news := news) (Post := fun r nw => ∃ ws, StrList nw r ws ∧ W (L _) ws) hret
    tb_start
    rename Fr _ _ _ (bindL _ _ _) => F0
    have F1 : Fr _ _ _ (fun _ => none) := F0
    rename (Obj.data _ = Data.cell _) => d0
    have d1 : Obj.data _ = Data.cell (some (Value.ref a1)) := d0
    clear F0 d0
    k_steps
    refine hfin _ _ _ _ (by k_asm) (by k_asm) (by ktd_sub) ?_
    intro Y hY
    rename W (L l) _ => Wl
    rename W (L r) _ => Wr
    exact ⟨_, ⟨_, _, _, rfl, hY _ (by k_mem), by assumption⟩, W_rows Wl Wr⟩

theorem words_alt (w : World) (p : Program) (loose : List Str) (mean : ExcName → Option Value) (mg mb : Str → Option Value) (l r : Rx) (t : Rx) (et : t = .alt l r) (hh : t.ht ≤ 20) (hw : wf t)
    (IH : WordsTo w p loose mean mg mb t.ht)
    (news : Led) (v : Value) (R : TIn news v t) : Tell w p loose mean mg mb 576 [v] news (t.ht + 4) (fun r nw => ∃ ws, StrList nw r ws ∧ W (L t) ws) := by
  subst et
  cases R with
  | @alt a1 t1 v1 u1 n _ _ m1 R1 R2 =>
    unfold Tell
    w_top off
    k_fill
    intro dp un gd cn cs ca ccd cl outer A₀ base h₀ L₀ mm0 ss0 Q E B F X N T hk hdp hu hret
    simp only [Rx.ht] at hdp hu hh
    refine wpAny_call ?_
    have hfin := fin_all (news := news) (Post := fun r nw => ∃ ws, StrList nw r ws ∧ W (L _) ws) hret
    tb_start
    rename Fr _ _ _ (bindL _ _ _) => F0
    have F1 : Fr _ _ _ (fun _ => none) := F0
    rename (Obj.data _ = Data.cell _) => d0
    have d1 : Obj.data _ = Data.cell (some (Value.ref a1)) := d0
    clear F0 d0
    k_steps
    refine hfin _ _ _ _ (by k_asm) (by k_asm) (by ktd_sub) ?_
    intro Y hY
    rename W (L l) _ => Wl
    rename W (L r) _ => Wr
    exact ⟨_, ⟨_, _, _, rfl, hY _ (by k_mem), by assumption⟩, W_or Wl Wr⟩

theorem words_opt (w : World) (p : Program) (loose : List Str) (mean : ExcName → Option Value) (mg mb : Str → Option Value) (b : Rx) (t : Rx) (et : t = .opt b) (hh : t.ht ≤ 20) (hw : wf t)
    (IH : WordsTo w p loose mean mg mb t.ht)
    (news : Led) (v : Value) (R : TIn news v t) : Tell w p loose mean mg mb 576 [v] news (t.ht + 4) (fun r nw => ∃ ws, StrList nw r ws ∧ W (L t) ws) := by
  subst et
  cases R with
  | @opt a1 t1 v1 n _ m1 R1 =>
    unfold Tell
    w_top off
    k_fill
    intro dp un gd cn cs ca ccd cl outer A₀ base h₀ L₀ mm0 ss0 Q E B F X N T hk hdp hu hret
    simp only [Rx.ht] at hdp hu hh
    refine wpAny_call ?_
    have hfin := fin_all (news := news) (Post := fun r nw => ∃ ws, StrList nw r ws ∧ W (L _) ws) hret
    tb_start
    rename Fr _ _ _ (bindL _ _ _) => F0
    have F1 : Fr _ _ _ (fun _ => none) := F0
    rename (Obj.data _ = Data.cell _) => d0
    have d1 : Obj.data _ = Data.cell (some (Value.ref a1)) := d0
    clear F0 d0
    k_steps
    refine hfin _ _ _ _ (by k_asm) (by k_asm) (by ktd_sub) ?_
    intro Y hY
    rename W (L b) _ => Wb
    exact ⟨_, ⟨_, _, _, rfl, hY _ (by k_mem), by assumption⟩, W_or W_se' Wb⟩

theorem words_sa (w : World) (p : Program) (loose : List Str) (mean : ExcName → Option Value) (mg mb : Str → Option Value) (news : Led) : Tell w p loose mean mg mb 576 [.ref 532] news (0 + 4) (fun r nw => ∃ ws, StrList nw r ws ∧ W (L (.chr .a)) ws) := by
  unfold Tell
  w_top off
  k_fill
  intro dp un gd cn cs a ccd cl outer A₀ base h₀ L₀ m s Q E B F X N T hk hdp hu hret
  refine wpAny_call ?_
  have hfin := fin_all (news := news) (Post := fun r nw => ∃ ws, StrList nw r ws ∧ W (L _) ws) hret
  tb_start
  rename Fr _ _ _ (bindL _ _ _) => F0
  have F1 : Fr _ _ _ (fun _ => none) := F0
  rename (Obj.data _ = Data.cell _) => d0
  have d1 : Obj.data _ = Data.cell (some (Value.ref 532)) := d0
  clear F0 d0
  repeat' ((fail_if_success (with_reducible show wpAny _ _ (eval (PySem.Expr.ListComp _ _ _ _) _) _ _ _)); first | (k_unfold; (try dsimp only)) | walk1 | (dsimp only; walk1))
  rename News _ _ _ _ => N2
  refine ListComp_S (y := Str.ofString "a") (fun i ys nx => (∀ q ∈ news, q ∈ nx) ∧ StrsAre ys ([SA].take i)) (F₀ := by k_asm) (by with_unfolding_all rfl) (by decide) (by rfl) (by decide) (by rfl) (by rfl) (by decide +kernel) (by rw [sizeLine_eq]; decide +kernel) ?_
  iterate 4 walk1
  refine ⟨_, _, rfl, by k_asm, N2, ⟨by ktd_sub, StrsAre.nil⟩, ?_, ?_⟩
  · intro i ys c u nx I oI C oC D m₂ h tk E' hc hP1 hoC hm F3 N3 off ne
    (try ((with_reducible show wpAny _ _ _ _ _ _); k_fold))
    obtain ⟨hs, hS⟩ := hP1
    walk1
    refine CompEnd.intro F3 N3 _ (fun _ h => h) off trivial ⟨hs, ?_⟩
    rw [show (Str.ofString "a") = ⟨#[97]⟩ from by decide +kernel] at hc
    have hi : i = 0 ∧ c = 97 := by
      rcases i with _ | i
      · simp at hc; exact ⟨rfl, hc.symm⟩
      · simp at hc
    rcases hi with ⟨rfl, rfl⟩ <;> exact strs_snoc hS _ _
  · intro D ys nx h tk hP1 F3 N3 hD
    (try ((with_reducible show wpAny _ _ _ _ _ _); k_fold))
    obtain ⟨hs, hS⟩ := hP1
    rw [show (Str.ofString "a").cps.size = 1 from by decide +kernel] at hS
    k_steps
    refine hfin _ _ _ _ (by k_asm) (by k_asm) (fun p hp => .tail _ (hs p hp)) ?_
    intro Y hY
    exact ⟨_, ⟨_, _, _, rfl, hY _ (by k_mem), hS⟩, W_a⟩

theorem words_sb (w : World) (p : Program) (loose : List Str) (mean : ExcName → Option Value) (mg mb : Str → Option Value) (news : Led) : Tell w p loose mean mg mb 576 [.ref 533] news (0 + 4) (fun r nw => ∃ ws, StrList nw r ws ∧ W (L (.chr .b)) ws) := by
  unfold Tell
  w_top off
  k_fill
  intro dp un gd cn cs a ccd cl outer A₀ base h₀ L₀ m s Q E B F X N T hk hdp hu hret
  refine wpAny_call ?_
  have hfin := fin_all (news := news) (Post := fun r nw => ∃ ws, StrList nw r ws ∧ W (L _) ws) hret
  tb_start
  rename Fr _ _ _ (bindL _ _ _) => F0
  have F1 : Fr _ _ _ (fun _ => none) := F0
  rename (Obj.data _ = Data.cell _) => d0
  have d1 : Obj.data _ = Data.cell (some (Value.ref 533)) := d0
  clear F0 d0
  repeat' ((fail_if_success (with_reducible show wpAny _ _ (eval (PySem.Expr.ListComp _ _ _ _) _) _ _ _)); first | (k_unfold; (try dsimp only)) | walk1 | (dsimp only; walk1))
  rename News _ _ _ _ => N2
  refine ListComp_S (y := Str.ofString "b") (fun i ys nx => (∀ q ∈ news, q ∈ nx) ∧ StrsAre ys ([SB].take i)) (F₀ := by k_asm) (by with_unfolding_all rfl) (by decide) (by rfl) (by decide) (by rfl) (by rfl) (by decide +kernel) (by rw [sizeLine_eq]; decide +kernel) ?_
  iterate 4 walk1
  refine ⟨_, _, rfl, by k_asm, N2, ⟨by ktd_sub, StrsAre.nil⟩, ?_, ?_⟩
  · intro i ys c u nx I oI C oC D m₂ h tk E' hc hP1 hoC hm F3 N3 off ne
    (try ((with_reducible show wpAny _ _ _ _ _ _); k_fold))
    obtain ⟨hs, hS⟩ := hP1
    walk1
    refine CompEnd.intro F3 N3 _ (fun _ h => h) off trivial ⟨hs, ?_⟩
    rw [show (Str.ofString "b") = ⟨#[98]⟩ from by decide +kernel] at hc
    have hi : i = 0 ∧ c = 98 := by
      rcases i with _ | i
      · simp at hc; exact ⟨rfl, hc.symm⟩
      · simp at hc
    rcases hi with ⟨rfl, rfl⟩ <;> exact strs_snoc hS _ _
  · intro D ys nx h tk hP1 F3 N3 hD
    (try ((with_reducible show wpAny _ _ _ _ _ _); k_fold))
    obtain ⟨hs, hS⟩ := hP1
    rw [show (Str.ofString "b").cps.size = 1 from by decide +kernel] at hS
    k_steps
    refine hfin _ _ _ _ (by k_asm) (by k_asm) (fun p hp => .tail _ (hs p hp)) ?_
    intro Y hY
    exact ⟨_, ⟨_, _, _, rfl, hY _ (by k_mem), hS⟩, W_b⟩

theorem words_sb2 (w : World) (p : Program) (loose : List Str) (mean : ExcName → Option Value) (mg mb : Str → Option Value) (news : Led) : Tell w p loose mean mg mb 576 [.ref 537] news (0 + 4) (fun r nw => ∃ ws, StrList nw r ws ∧ W (L (.chr .b)) ws) := by
  unfold Tell
  w_top off
  k_fill
  intro dp un gd cn cs a ccd cl outer A₀ base h₀ L₀ m s Q E B F X N T hk hdp hu hret
  refine wpAny_call ?_
  have hfin := fin_all (news := news) (Post := fun r nw => ∃ ws, StrList nw r ws ∧ W (L _) ws) hret
  tb_start
  rename Fr _ _ _ (bindL _ _ _) => F0
  have F1 : Fr _ _ _ (fun _ => none) := F0
  rename (Obj.data _ = Data.cell _) => d0
  have d1 : Obj.data _ = Data.cell (some (Value.ref 537)) := d0
  clear F0 d0
  repeat' ((fail_if_success (with_reducible show wpAny _ _ (eval (PySem.Expr.ListComp _ _ _ _) _) _ _ _)); first | (k_unfold; (try dsimp only)) | walk1 | (dsimp only; walk1))
  rename News _ _ _ _ => N2
  refine ListComp_S (y := Str.ofString "b") (fun i ys nx => (∀ q ∈ news, q ∈ nx) ∧ StrsAre ys ([SB].take i)) (F₀ := by k_asm) (by with_unfolding_all rfl) (by decide) (by rfl) (by decide) (by rfl) (by rfl) (by decide +kernel) (by rw [sizeLine_eq]; decide +kernel) ?_
  iterate 4 walk1
  refine ⟨_, _, rfl, by k_asm, N2, ⟨by ktd_sub, StrsAre.nil⟩, ?_, ?_⟩
  · intro i ys c u nx I oI C oC D m₂ h tk E' hc hP1 hoC hm F3 N3 off ne
    (try ((with_reducible show wpAny _ _ _ _ _ _); k_fold))
    obtain ⟨hs, hS⟩ := hP1
    walk1
    refine CompEnd.intro F3 N3 _ (fun _ h => h) off trivial ⟨hs, ?_⟩
    rw [show (Str.ofString "b") = ⟨#[98]⟩ from by decide +kernel] at hc
    have hi : i = 0 ∧ c = 98 := by
      rcases i with _ | i
      · simp at hc; exact ⟨rfl, hc.symm⟩
      · simp at hc
    rcases hi with ⟨rfl, rfl⟩ <;> exact strs_snoc hS _ _
  · intro D ys nx h tk hP1 F3 N3 hD
    (try ((with_reducible show wpAny _ _ _ _ _ _); k_fold))
    obtain ⟨hs, hS⟩ := hP1
    rw [show (Str.ofString "b").cps.size = 1 from by decide +kernel] at hS
    k_steps
    refine hfin _ _ _ _ (by k_asm) (by k_asm) (fun p hp => .tail _ (hs p hp)) ?_
    intro Y hY
    exact ⟨_, ⟨_, _, _, rfl, hY _ (by k_mem), hS⟩, W_b⟩

theorem words_sab (w : World) (p : Program) (loose : List Str) (mean : ExcName → Option Value) (mg mb : Str → Option Value) (news : Led) : Tell w p loose mean mg mb 576 [.ref 534] news (0 + 4) (fun r nw => ∃ ws, StrList nw r ws ∧ W (L (.chr .ab)) ws) := by
  unfold Tell
  w_top off
  k_fill
  intro dp un gd cn cs a ccd cl outer A₀ base h₀ L₀ m s Q E B F X N T hk hdp hu hret
  refine wpAny_call ?_
  have hfin := fin_all (news := news) (Post := fun r nw => ∃ ws, StrList nw r ws ∧ W (L _) ws) hret
  tb_start
  rename Fr _ _ _ (bindL _ _ _) => F0
  have F1 : Fr _ _ _ (fun _ => none) := F0
  rename (Obj.data _ = Data.cell _) => d0
  have d1 : Obj.data _ = Data.cell (some (Value.ref 534)) := d0
  clear F0 d0
  repeat' ((fail_if_success (with_reducible show wpAny _ _ (eval (PySem.Expr.ListComp _ _ _ _) _) _ _ _)); first | (k_unfold; (try dsimp only)) | walk1 | (dsimp only; walk1))
  rename News _ _ _ _ => N2
  refine ListComp_S (y := Str.ofString "ab") (fun i ys nx => (∀ q ∈ news, q ∈ nx) ∧ StrsAre ys ([SA, SB].take i)) (F₀ := by k_asm) (by with_unfolding_all rfl) (by decide) (by rfl) (by decide) (by rfl) (by rfl) (by decide +kernel) (by rw [sizeLine_eq]; decide +kernel) ?_
  iterate 4 walk1
  refine ⟨_, _, rfl, by k_asm, N2, ⟨by ktd_sub, StrsAre.nil⟩, ?_, ?_⟩
  · intro i ys c u nx I oI C oC D m₂ h tk E' hc hP1 hoC hm F3 N3 off ne
    (try ((with_reducible show wpAny _ _ _ _ _ _); k_fold))
    obtain ⟨hs, hS⟩ := hP1
    walk1
    refine CompEnd.intro F3 N3 _ (fun _ h => h) off trivial ⟨hs, ?_⟩
    rw [show (Str.ofString "ab") = ⟨#[97, 98]⟩ from by decide +kernel] at hc
    have hi : i = 0 ∧ c = 97 ∨ i = 1 ∧ c = 98 := by
      rcases i with _ | _ | i
      · simp at hc; exact .inl ⟨rfl, hc.symm⟩
      · simp at hc; exact .inr ⟨rfl, hc.symm⟩
      · simp at hc
    rcases hi with ⟨rfl, rfl⟩ | ⟨rfl, rfl⟩ <;> exact strs_snoc hS _ _
  · intro D ys nx h tk hP1 F3 N3 hD
    (try ((with_reducible show wpAny _ _ _ _ _ _); k_fold))
    obtain ⟨hs, hS⟩ := hP1
    rw [show (Str.ofString "ab").cps.size = 2 from by decide +kernel] at hS
    k_steps
    refine hfin _ _ _ _ (by k_asm) (by k_asm) (fun p hp => .tail _ (hs p hp)) ?_
    intro Y hY
    exact ⟨_, ⟨_, _, _, rfl, hY _ (by k_mem), hS⟩, W_ab⟩
noncomputable def sel : Lf → Nat → List Str
  | _, 0 => []
  | .a, _ => [SA]
  | .b, 1 => [] | .b, _ => [SB]
  | .ab, 1 => [SA] | .ab, _ => [SA, SB]
noncomputable def lo9 : Lf → Int | .a => 97 | .b => 98 | .ab => 97
noncomputable def hi9 : Lf → Int | .a => 97 | .b => 98 | .ab => 98
theorem SpIn.out {nw : Led} {v s} (h : SpIn nw v s) : ∃ sp pp n k t u, v = .ref sp ∧ (sp, tupO #[.ref pp] n) ∈ nw ∧ (pp, tupO #[.int (lo9 s) t, .int (hi9 s) u] k) ∈ nw := by
  cases h with
  | a h1 h2 => exact ⟨_, _, _, _, _, _, rfl, h1, h2⟩
  | b h1 h2 => exact ⟨_, _, _, _, _, _, rfl, h1, h2⟩
  | ab h1 h2 => exact ⟨_, _, _, _, _, _, rfl, h1, h2⟩
theorem words_chars (w : World) (p : Program) (loose : List Str) (mean : ExcName → Option Value) (mg mb : Str → Option Value) (news : Led) (sg : Lf) (a1 : Addr) (t1 : Tok) (v1 : Value) (n1 : Nat) (m1 : (a1, tupO #[.str (Str.ofString "chars") t1, v1] n1) ∈ news) (S : SpIn news v1 sg) :
    Tell w p loose mean mg mb 576 [.ref a1] news (0 + 4) (fun r nw => ∃ ws, StrList nw r ws ∧ W (L (.chr sg)) ws) := by
  obtain ⟨sp, pp, n2, n3, t2, t3, rfl, m2, m3⟩ := S.out
  clear S
  unfold Tell
  w_top off
  k_fill
  intro dp un gd cn cs a ccd cl outer A₀ base h₀ L₀ m s Q E B F X N T hk hdp hu hret
  refine wpAny_call ?_
  have hfin := fin_all (news := news) (Post := fun r nw => ∃ ws, StrList nw r ws ∧ W (L _) ws) hret
  tb_start
  rename Fr _ _ _ (bindL _ _ _) => F0
  have F1 : Fr _ _ _ (fun _ => none) := F0
  rename (Obj.data _ = Data.cell _) => d0
  have d1 : Obj.data _ = Data.cell (some (Value.ref a1)) := d0
  clear F0 d0
  repeat' ((fail_if_success (with_reducible show wpAny _ _ (eval (PySem.Expr.ListComp _ _ _ _) _) _ _ _)); first | (k_unfold; (try dsimp only)) | walk1 | (dsimp only; walk1))
  rename News _ _ _ _ => N2
  refine ListComp_SC (y := Str.ofString "ab") (fun i ys => StrsAre ys (sel sg i)) (F₀ := by k_asm) (by with_unfolding_all rfl) (by intro n acc; rfl) (by intro h; rfl) (by rfl) (by decide) (by rfl) (by rfl) (by decide +kernel) (by rw [sizeLine_eq]; decide +kernel) ?_
  walk1
  refine ⟨_, _, rfl, by k_asm, N2, (by cases sg <;> exact StrsAre.nil), ?_, ?_⟩
  · rintro i ys c u I oI C oC cc oc D h tk E' hc hS hcd F3 N3 off ne
    rw [show (Str.ofString "ab") = ⟨#[97, 98]⟩ from by decide +kernel] at hc
    have hi : i = 0 ∧ c = 97 ∨ i = 1 ∧ c = 98 := by
      rcases i with _ | _ | i
      · simp at hc; exact .inl ⟨rfl, hc.symm⟩
      · simp at hc; exact .inr ⟨rfl, hc.symm⟩
      · simp at hc
    refine isTrue_plain ?_ rfl
    refine ListComp_TP (fun ys => (∃ v, ys = [v] ∧ lo9 sg ≤ c ∧ c ≤ hi9 sg) ∨ (ys = [] ∧ ¬ (lo9 sg ≤ c ∧ c ≤ hi9 sg))) (F₀ := by k_asm) (by with_unfolding_all rfl) (by decide) (by rfl) (by decide) (by rfl) (by rfl) (by decide) (by rfl) ?_
    iterate 4 walk1
    refine ⟨_, pp, _, _, _, _, _, rfl, by k_mem, by k_mem, by k_asm, N3, ?_, ?_⟩
    · rintro I2 oI2 C2 oC2 D2 m₃ h2 tk2 E2 hoC2 hm1 hm2 F4 N4 off2 ne2
      k_steps
      · exact CompEnd.intro F4 N4 _ (fun _ h => h) off2 rfl (.inl ⟨_, rfl, by assumption, by assumption⟩)
      · exact CompEnd.intro F4 N4 _ (fun _ h => h) off2 rfl (.inr ⟨rfl, by omega⟩)
      · exact CompEnd.intro F4 N4 _ (fun _ h => h) off2 rfl (.inr ⟨rfl, by omega⟩)
    · rintro D2 ys2 h2 tk2 hJ F4 N4 hD2
      rcases hJ with ⟨v2, rfl, q1, q2⟩ | ⟨rfl, q1⟩
      · k_steps
        refine CompEnd.intro F4 N4 ((cc, oc) :: _ :: news) (fun _ h => .tail _ h) off rfl ?_
        rcases hi with ⟨rfl, rfl⟩ | ⟨rfl, rfl⟩ <;> cases sg <;> first | exact strs_snoc hS _ _ | (exfalso; simp [lo9, hi9] at q1 q2; done)
      · k_steps
        refine CompEnd.intro F4 N4 ((cc, oc) :: _ :: news) (fun _ h => .tail _ h) off rfl ?_
        rcases hi with ⟨rfl, rfl⟩ | ⟨rfl, rfl⟩ <;> cases sg <;> first | (exfalso; simp [lo9, hi9] at q1; done) | exact hS
  · rintro D ys h tk hS F3 N3 hD
    rw [show (Str.ofString "ab").cps.size = 2 from by decide +kernel] at hS
    k_steps
    refine hfin _ _ _ _ (by k_asm) (by k_asm) (by ktd_sub) ?_
    intro Y hY
    refine ⟨_, ⟨_, _, _, rfl, hY _ (by k_mem), hS⟩, ?_⟩
    cases sg
    · exact W_a
    · exact W_b
    · exact W_ab
section
theorem item_nat {prog : Program} {w : World} {A : Around} {E : Value → Shared → Prop} {s : Shared} {h₀ : Heap} {L : Addr} {news : Led} {value slice : Expr} {t : Addr} {n : Nat} {vs : List Value} {k : Int} {u : Tok} {x : Value} {Q : Value → Shared → Prop}
    (N : News h₀ L s.heap news) (hm : (t, tupO (List.toArray vs) n) ∈ news) (hlo : 0 ≤ k) (hhi : k < 2 ^ 63) (hx : vs[k.toNat]? = some x) (h : Q x s)
    (hs : subscripted slice false (.ref t) (.int k u) = operate [.ref t, .int k u] (getItem (.ref t) (.int k u))) : wpAny (model prog w) A (subscriptTail value slice (.ref t) (.int k u)) Q E s := by
  obtain ⟨hl, _⟩ := List.getElem?_eq_some_iff.mp hx
  refine item_pair (j := k.toNat) N hm (by omega) hhi ?_ hx h hs
  unfold seqIndex?
  split <;> simp <;> omega
/-- between the turns of «for turn in range(low)» -/
inductive FInv (P : Str → Prop) (m0 : Str → Option Value) (X : Led) (i : Nat) (m : Str → Option Value) (nx : Led) : Prop where
  | mk {fa fn : Nat} {fvs : List Value} {fws : List Str} (hK : Keep [Str.ofString "turn", Str.ofString "front"] m0 m) (g1 : m (Str.ofString "front") = some (.ref fa)) (g2 : (fa, listOf (List.toArray fvs) fn) ∈ nx) (g3 : StrsAre fvs fws) (g4 : W (Pw P i) fws) (hs : ∀ p ∈ X, p ∈ nx) : FInv P m0 X i m nx
theorem FInv.use {P : Str → Prop} {m0 : Str → Option Value} {X : Led} {i : Nat} {m : Str → Option Value} {nx : Led} {G : Prop} (h : FInv P m0 X i m nx)
    (k : ∀ (fa fn : Nat) (fvs : List Value) (fws : List Str), Keep [Str.ofString "turn", Str.ofString "front"] m0 m → m (Str.ofString "front") = some (.ref fa) → (fa, listOf (List.toArray fvs) fn) ∈ nx → StrsAre fvs fws → W (Pw P i) fws → (∀ p ∈ X, p ∈ nx) → G) : G := by
  cases h with
  | mk a b c d e f => exact k _ _ _ _ a b c d e f
/-- between the turns of the while -/
inductive WInv (P : Str → Prop) (low : Nat) (high : Option Nat) (m5 : Str → Option Value) (X : Led) (n : Nat) (m : Str → Option Value) (nx : Led) : Prop where
  | mk {τ : Nat} {tt : Tok} {fa fn : Nat} {fvs : List Value} {fws : List Str} {da dn : Nat} {dvs : List Value} {dws : List Str} (hn : n = 2 * (15 - dws.length) + (if fws = [] then 0 else 1))
      (hK : Keep [Str.ofString "turn", Str.ofString "front", Str.ofString "found"] m5 m) (hlo : low ≤ τ) (hhi : ∀ h, high = some h → τ ≤ h)
      (u1 : m (Str.ofString "turn") = some (.int (τ : Nat) tt)) (u2 : m (Str.ofString "front") = some (.ref fa)) (u3 : (fa, listOf (List.toArray fvs) fn) ∈ nx) (u4 : StrsAre fvs fws) (u5 : W (Frn P low τ) fws)
      (u6 : m (Str.ofString "found") = some (.ref da)) (u7 : (da, listOf (List.toArray dvs) dn) ∈ nx) (u8 : StrsAre dvs dws) (u9 : W (Lev P low τ) dws) (hs : ∀ p ∈ X, p ∈ nx) : WInv P low high m5 X n m nx
theorem WInv.use {P : Str → Prop} {low : Nat} {high : Option Nat} {m5 : Str → Option Value} {X : Led} {n : Nat} {m : Str → Option Value} {nx : Led} {G : Prop} (h : WInv P low high m5 X n m nx)
    (k : ∀ (τ : Nat) (tt : Tok) (fa fn : Nat) (fvs : List Value) (fws : List Str) (da dn : Nat) (dvs : List Value) (dws : List Str), n = 2 * (15 - dws.length) + (if fws = [] then 0 else 1) → Keep [Str.ofString "turn", Str.ofString "front", Str.ofString "found"] m5 m → low ≤ τ → (∀ h, high = some h → τ ≤ h) →
      m (Str.ofString "turn") = some (.int (τ : Nat) tt) → m (Str.ofString "front") = some (.ref fa) → (fa, listOf (List.toArray fvs) fn) ∈ nx → StrsAre fvs fws → W (Frn P low τ) fws →
      m (Str.ofString "found") = some (.ref da) → (da, listOf (List.toArray dvs) dn) ∈ nx → StrsAre dvs dws → W (Lev P low τ) dws → (∀ p ∈ X, p ∈ nx) → G) : G := by
  cases h with
  | mk a b c d e f g h i j k' l m n => exact k _ _ _ _ _ _ _ _ _ _ a b c d e f g h i j k' l m n
theorem meas_lt {d f g : Nat} {fws xs : List Str} (hf : fws ≠ []) (h : d + xs.length ≤ 15) (e : g = if fws = [] then 0 else 1) (e' : f = if xs = [] then 0 else 1) : 2 * (15 - (d + xs.length)) + f < 2 * (15 - d) + g := by
  rw [if_neg hf] at e
  by_cases hx : xs = []
  · rw [if_pos hx] at e'; subst hx; simp only [List.length_nil] at h ⊢; omega
  · have := List.length_pos_iff.mpr hx
    rw [if_neg hx] at e'; omega
/-- the high of a tuple: None or an int -/
def HighIs (hv : Value) (high : Option Nat) : Prop := (hv = .none ∧ high = none) ∨ ∃ (hi : Nat) (th : Tok), hv = .int hi th ∧ high = some hi
/-- which of the loops a tuple is -/
inductive KindIs (k : Str) (rest : List Value) (low : Nat) (high : Option Nat) : Prop where
  | star (e1 : (k == Str.ofString "plus") = false) (e2 : (k == Str.ofString "repeat") = false) (hl : low = 0) (hh : high = none) : KindIs k rest low high
  | plus (e1 : (k == Str.ofString "plus") = true) (hl : low = 1) (hh : high = none) : KindIs k rest low high
  | rep {tl : Tok} {hv : Value} (e1 : (k == Str.ofString "plus") = false) (e2 : (k == Str.ofString "repeat") = true) (i0 : rest[0]? = some (.int (low : Nat) tl)) (i1 : rest[1]? = some hv) (h : HighIs hv high) : KindIs k rest low high
theorem lines_20 : True := by
  (k_with "subscriptTail" => (k_here; (with_reducible show wpAny _ _ (subscriptTail _ _ (Value.ref _) (Value.int _ _)) _ _ _); k_dflt (refine' item_nat ?N_152 ?m_152 ?lo_152 ?hi_152 ?x_152 ?_ ?s_152; (case N_152 => k_asm); (case m_152 => k_mem); (case lo_152 => decide); (case hi_152 => decide); (case x_152 => first | exact rfl | assumption); (case s_152 => with_unfolding_all rfl); k_whole)))
  trivial
theorem ne_nil_t {prog : Program} {w : World} {A : Around} {E : Value → Shared → Prop} {s : Shared} {h₀ : Heap} {L₀ : Addr} {news : Led} {a b : Addr} {n k : Nat} {vs : List Value} {xs : List Str} {Q : Value → Shared → Prop} (N : News h₀ L₀ s.heap news) (m1 : (a, listOf (List.toArray vs) n) ∈ news) (m2 : (b, listOf #[] k) ∈ news) (S1 : StrsAre vs xs) (hx : WA xs) (hroom : A.units + 64 < cLine)
    (hne : xs ≠ []) (h : Q (.bool true) s) : wpAny (model prog w) A (compareOp .NotEq (.ref a) (.ref b)) Q E s :=
  ne_nil N m1 m2 S1 (fun x h => (hx.2 x h).1) hroom (by rw [decide_eq_false hne]; exact h)
theorem ne_nil_f {prog : Program} {w : World} {A : Around} {E : Value → Shared → Prop} {s : Shared} {h₀ : Heap} {L₀ : Addr} {news : Led} {a b : Addr} {n k : Nat} {vs : List Value} {xs : List Str} {Q : Value → Shared → Prop} (N : News h₀ L₀ s.heap news) (m1 : (a, listOf (List.toArray vs) n) ∈ news) (m2 : (b, listOf #[] k) ∈ news) (S1 : StrsAre vs xs) (hx : WA xs) (hroom : A.units + 64 < cLine)
    (hne : xs = []) (h : Q (.bool false) s) : wpAny (model prog w) A (compareOp .NotEq (.ref a) (.ref b)) Q E s :=
  ne_nil N m1 m2 S1 (fun x h => (hx.2 x h).1) hroom (by rw [decide_eq_true hne]; exact h)
theorem list_copyW {prog : Program} {w : World} {A : Around} {E : Value → Shared → Prop} {s : Shared} {h₀ : Heap} {L₀ a : Addr} {m : Str → Option Value} {news : Led} {n : Nat} {vs : List Value} {ws : List Str} {Q : Value → Shared → Prop} (F : Fr h₀ L₀ s.heap m) (N : News h₀ L₀ s.heap news)
    (m1 : (a, listOf (List.toArray vs) n) ∈ news) (S : StrsAre vs ws) (A1 : WA ws) (h : ∀ D c h', Fr h₀ L₀ h' m → News h₀ L₀ h' ((D, listOf (List.toArray vs) c) :: news) → (∀ q ∈ news, q.1 < D) → Q (.ref D) { s with heap := h' }) :
    wpAny (model prog w) A (call (.type "list") [.ref a]) Q E s :=
  list_copyK F N (News.isList N m1) h (by have := A1.len; have := strs_len S; rw [List.size_toArray, sizeLine_eq]; omega)
theorem lines_21 : True := by
  (k_with "call type:list" => (k_here; (with_reducible show wpAny _ _ (call (Value.type _) [Value.ref _]) _ _ _); k_dflt (refine' list_copyW ?F_153 ?N_153 ?a_153 ?i_153 ?x_153 ?_; (case F_153 => k_asm); (case N_153 => k_asm); (case a_153 => k_mem); (case i_153 => kct_strs); (case x_153 => kas_types)); intro D' c' h' F' N' l1; (try k_lt l1)))
  (k_with "compareOp NotEq ref ref" => (k_here; (with_reducible show wpAny _ _ (compareOp CmpOp.NotEq (Value.ref _) (Value.ref _)) _ _ _); k_dflt (first
    | (refine' ne_nil_t ?N_154 ?a_154 ?b_154 ?i_154 ?x_154 ?r_154 ?e_154 ?_; (case N_154 => k_asm); (case a_154 => k_mem); (case b_154 => k_mem); (case i_154 => kct_strs); (case x_154 => kas_types); (case r_154 => ke_room); (case e_154 => assumption))
    | (refine' ne_nil_f ?N_154 ?a_154 ?b_154 ?i_154 ?x_154 ?r_154 ?e_154 ?_; (case N_154 => k_asm); (case a_154 => k_mem); (case b_154 => k_mem); (case i_154 => kct_strs); (case x_154 => kas_types); (case r_154 => ke_room); (case e_154 => assumption)))))
  trivial
set_option maxHeartbeats 16000000 in
theorem words_loops (w : World) (p : Program) (loose : List Str) (mean : ExcName → Option Value) (mg mb : Str → Option Value) (t b : Rx) (low : Nat) (high : Option Nat) (k : Str) (a1 n : Nat) (t1 : Tok) (v1 : Value) (rest : List Value) (news : Led)
    (IH : WordsTo w p loose mean mg mb (b.ht + 1)) (hh : b.ht + 1 ≤ 20) (hw : wf b) (m1 : (a1, tupO (List.toArray (Value.str k t1 :: v1 :: rest)) n) ∈ news) (R1 : TIn news v1 b)
    (s1 : (k == Str.ofString "signs") = false) (s2 : (k == Str.ofString "chars") = false) (s3 : (k == Str.ofString "empty") = false) (s4 : (k == Str.ofString "never") = false) (s5 : (k == Str.ofString "cat") = false) (s6 : (k == Str.ofString "alt") = false) (s7 : (k == Str.ofString "opt") = false)
    (hkk : KindIs k rest low high) (hlow : low ≤ 40) (hlh : ∀ h, high = some h → low ≤ h)
    (hL : ∀ ws, W (fun x => ∃ n, low ≤ n ∧ (∀ h, high = some h → n ≤ h) ∧ Pw (L b) n x) ws → W (L t) ws) :
    Tell w p loose mean mg mb 576 [.ref a1] news (b.ht + 1 + 4) (fun r nw => ∃ ws, StrList nw r ws ∧ W (L t) ws) := by
  unfold Tell
  w_top off
  k_fill
  intro dp un gd cn cs ca ccd cl outer A₀ base h₀ L₀ mm0 ss0 Q E B F X N T hk hdp hu hret
  refine wpAny_call ?_
  have hfin := fin_all (news := news) (Post := fun r nw => ∃ ws, StrList nw r ws ∧ W (L _) ws) hret
  tb_start
  rename Fr _ _ _ (bindL _ _ _) => F0
  have F1 : Fr _ _ _ (fun _ => none) := F0
  rename (Obj.data _ = Data.cell _) => d0
  have d1 : Obj.data _ = Data.cell (some (Value.ref a1)) := d0
  clear F0 d0
  repeat' ((fail_if_success (with_reducible show wpAny _ _ (exec (PySem.Stmt.If (PySem.Expr.Compare _ _ [PySem.Expr.Constant (PySem.Const.str (PySem.Str.ofString "plus")) _ _] _) _ _ _) _) _ _ _)); first | (k_unfold; (try dsimp only)) | walk1 | (dsimp only; walk1))
  k_fold
  rename (Flow → Shared → Prop) => K
  rename Obj => o9
  rename Fr _ _ _ _ => F1
  rename News _ _ _ _ => N1
  have tail : ∀ (lt : Tok) (hv : Value) (h : Heap) (tk : Nat) (m : Str → Option Value), Fr g' L' h m → News g' L' h ((L' + 1, o9) :: news ++ tl9) → m (Str.ofString "body") = some (.ref a8) → m (Str.ofString "low") = some (.int (low : Nat) lt) → m (Str.ofString "high") = some hv → HighIs hv high → K .next { ss0 with heap := h, toks := tk } := by
    intro lt hv h tk m F2 N2 eb el eh hvr
    clear F1 N1 N
    rw [map_named eb, map_named el, map_named eh] at F2
    repeat' ((fail_if_success (with_reducible show wpAny _ _ (exec (PySem.Stmt.For _ _ _ _ _) _) _ _ _)); first | (k_unfold; (try dsimp only)) | walk1 | (dsimp only; walk1))
    rename News _ _ _ _ => N1
    rename Fr _ _ _ _ => F1
    obtain ⟨m0, F2, e1, e2, e3, e4⟩ := fr_abs (P := fun m => m (Str.ofString "front") = some (.ref _) ∧ m (Str.ofString "body") = some (.ref _) ∧ m (Str.ofString "low") = some (.int (low : Nat) _) ∧ m (Str.ofString "high") = some hv) F1 ⟨rfl, rfl, rfl, rfl⟩
    clear F1
    have F3 := F2
    rw [map_named e3] at F3
    refine For_invVF F3 (by exact rfl) (by exact rfl) ?_
    repeat' ((fail_if_success (with_reducible show wpAny _ _ (pyIter _) _ _ _)); first | (k_unfold; (try dsimp only)) | walk1 | (dsimp only; walk1))
    rename News _ _ _ _ => N3
    rename Fr _ _ _ _ => F3
    rename IsRange _ _ _ _ _ _ _ _ => hr
    rw [← map_named e3] at F3
    refine iter_rng (n := low) (FInv (L b) m0 _)
      rfl hr (by omega) F3 N3 (.mk keep_refl e1 (by k_mem) (.cons _ _ .nil) W_se' fun p hp => by assumption) ?_ ?_
    · intro i v m₁ nx I oI h tk hi hP1 hoff hcI F4 N4
      (try ((with_reducible show wpAny _ _ _ _ _ _); k_fold))
      refine hP1.use ?_
      intro fa fn fvs fws hK g1 g2 g3 g4 hs
      have A9 := WA.of g4 (ab_pw (ab_L b) i)
      have gb := keep_get hK e2 (by decide)
      rw [map_named g1, map_named gb] at F4
      have k8 := hs _ (.tail _ m8)
      k_steps
      rename News _ _ _ _ => N6
      rename Fr _ _ _ _ => F6
      rename StrsAre _ (rowsL _ _) => S9
      rename (_ ∈ (I, oI) :: nx ++ _) => m9
      rename (∀ (q : Addr × Obj), q ∈ _ → ∀ (p : Addr × Obj), p ∈ _ → q.1 ≠ p.1) => hl9
      refine ⟨_, _, _, _, rfl, F6, N6, ?_, .mk (keep_set (keep_set (keep_set (keep_named hK gb) (by decide)) (by decide)) (by decide)) (if_pos rfl) (mem_skip m9 rfl hcI) S9 (W_rows g4 W8) fun q hq => List.mem_append.mpr (.inl (hs q hq))⟩
      intro q hq
      rcases List.mem_append.mp hq with hq | hq
      · exact hoff q hq
      · exact Ne.symm (hl9 (I, oI) (.head _) q hq)
    · intro m₁ nx h tk hP1 F4 N4
      (try ((with_reducible show wpAny _ _ _ _ _ _); k_fold))
      refine hP1.use ?_
      intro fa fn fvs fws hK g1 g2 g3 g4 hs
      have A9 := WA.of g4 (ab_pw (ab_L b) _)
      have gb := keep_get hK e2 (by decide)
      have gl := keep_get hK e3 (by decide)
      have gh := keep_get hK e4 (by decide)
      have k8 := hs _ (.tail _ m8)
      clear N3 F3 hr
      rw [map_named g1, map_named gb, map_named gl, map_named gh] at F4
      repeat' ((fail_if_success (with_reducible show wpAny _ _ (exec (PySem.Stmt.While _ _ _ _) _) _ _ _)); first | (k_unfold; (try dsimp only)) | walk1 | (dsimp only; walk1))
      rename News _ _ _ _ => N5
      rename Fr _ _ _ _ => F5
      obtain ⟨m5, F6, w1, w2, w3, w4, w5⟩ := fr_abs (P := fun m => m (Str.ofString "front") = some (.ref fa) ∧ m (Str.ofString "found") = some (.ref _) ∧ m (Str.ofString "turn") = some (.int (low : Nat) _) ∧ m (Str.ofString "body") = some (.ref _) ∧ m (Str.ofString "high") = some hv) F5 ⟨rfl, rfl, rfl, rfl, rfl⟩
      clear F5
      obtain ⟨f1, f2⟩ := loop_start g4
      refine While_inv2 (WInv (L b) low high m5 _) F6 N5 (.mk rfl keep_refl (Nat.le_refl _) hlh w3 w1 (.tail _ g2) g3 f1 w2 (.head _) g3 f2 fun _ h => h) ?_
      clear w1 w2 w3 f1 f2 N5 F6 g1 g2 g3 g4 A9 gb gl gh
      intro n m₂ nx₂ h tk F7 N7 hP1
      (try ((with_reducible show wpAny _ _ _ _ _ _); k_fold))
      refine hP1.use ?_
      intro τ tt fa fn fvs fws da dn dvs dws hn hK2 hlo hhi u1 u2 u3 u4 u5 u6 u7 u8 u9 hs2
      have A10 : WA fws := WA.of u5 fun x h => ab_pw (ab_L b) _ x h.1
      have A11 : WA dws := WA.of u9 fun x h => by obtain ⟨n, _, _, h⟩ := h; exact ab_pw (ab_L b) _ x h
      have gb := keep_get hK2 w4 (by decide)
      have gh := keep_get hK2 w5 (by decide)
      rw [map_named u1, map_named u2, map_named u6, map_named gb, map_named gh] at F7
      have k9 := hs2 _ (.tail _ k8)
      by_cases hfe : fws = []
      · k_steps
        refine hfin _ _ _ _ (by k_asm) (by k_asm) (fun p hp => .tail _ (hs2 p (.tail _ (hs p (by k_mem))))) ?_
        intro Y hY
        exact ⟨dws, ⟨_, _, _, rfl, hY _ (by k_mem), u8⟩, hL _ (loop_end hlo hhi u5 u9 (.inl hfe))⟩
      · repeat' ((fail_if_success (with_reducible show wpAny _ _ (isTrue (PySem.Expr.BoolOp PySem.BoolOp.Or _ _) _ _) _ _ _)); first | (k_unfold; (try dsimp only)) | walk1 | (dsimp only; walk1))
        k_fold
        rename (Bool → Shared → Prop) => Kb
        rename Fr _ _ _ _ => F9
        rename News _ _ _ _ => N9
        rename Heap => h9
        have hT : (∀ x, high = some x → τ < x) → ∀ tk, Kb true { ss0 with heap := h9, toks := tk } := by
          intro hlt tk9
          k_steps
          rename News _ _ _ _ => N6
          rename Fr _ _ _ _ => F8
          rename StrsAre _ (freshL _ _) => S9
          rename StrsAre _ (_ ++ _) => S10
          obtain ⟨f1, f2⟩ := loop_step hlo W8 u5 u9
          have A12 : WA (dws ++ freshL (rowsL fws _) dws) := WA.of f2 fun x h => by obtain ⟨n, _, _, h⟩ := h; exact ab_pw (ab_L b) _ x h
          have l12 := A12.len
          rw [List.length_append] at l12
          refine ⟨_, _, _, _, _, rfl, F8, N6, ?_, .mk (τ := τ + 1) rfl (keep_set (keep_set (keep_set (keep_set (keep_set (keep_set (keep_named (keep_named hK2 gh) (set_ne gb (by decide))) (by decide)) (by decide)) (by decide)) (by decide)) (by decide)) (by decide)) (Nat.le_succ_of_le hlo) (fun x e => hlt x e) (if_pos rfl) rfl (by k_mem) S9 f1 rfl (by k_mem) S10 f2 fun p hp => by have := hs2 p hp; k_mem⟩
          rw [hn, List.length_append]
          exact meas_lt hfe l12 rfl rfl
        have hF : ∀ x, high = some x → ¬ τ < x → ∀ tk, Kb false { ss0 with heap := h9, toks := tk } := by
          intro x hx hlt tk9
          k_steps
          refine hfin _ _ _ _ (by k_asm) (by k_asm) (fun p hp => .tail _ (hs2 p (.tail _ (hs p (by k_mem))))) ?_
          intro Y hY
          exact ⟨dws, ⟨_, _, _, rfl, hY _ (by k_mem), u8⟩, hL _ (loop_end hlo hhi u5 u9 (.inr (by rw [hx]; congr 1; have := hhi x hx; omega)))⟩
        clear_value Kb
        clear hP1 gh w5 e4 eh hhi hL hlh hfin hret S8 u1 u2 u3 u4 u5 u6 u7 u8 u9 hn hK2 hs2 hs
        rcases hvr with ⟨rfl, rfl⟩ | ⟨hi, th, rfl, rfl⟩
        · k_steps
          exact hT (fun x e => nomatch e) _
        · k_steps
          · exact hT (fun x e => by cases e; omega) _
          · exact hF _ rfl (by omega) _
  clear_value K
  cases hkk with
  | star e1 e2 hl hh9 =>
    k_steps
    exact tail _ .none _ _ _ (by k_asm) (by k_asm) rfl (by rw [hl]; rfl) rfl (.inl ⟨rfl, hh9⟩)
  | plus e1 hl hh9 =>
    k_steps
    exact tail _ .none _ _ _ (by k_asm) (by k_asm) rfl (by rw [hl]; rfl) rfl (.inl ⟨rfl, hh9⟩)
  | rep e1 e2 i0 i1 hv =>
    k_steps
    exact tail _ _ _ _ _ (by k_asm) (by k_asm) rfl rfl rfl hv
theorem words_star (w : World) (p : Program) (loose : List Str) (mean : ExcName → Option Value) (mg mb : Str → Option Value) (b : Rx) (t : Rx) (et : t = .star b) (hh : t.ht ≤ 20) (hw : wf t)
    (IH : WordsTo w p loose mean mg mb t.ht)
    (news : Led) (v : Value) (R : TIn news v t) : Tell w p loose mean mg mb 576 [v] news (t.ht + 4) (fun r nw => ∃ ws, StrList nw r ws ∧ W (L t) ws) := by
  subst et
  cases R with
  | @star a1 t1 v1 n _ m1 R1 =>
    exact words_loops w p loose mean mg mb _ b 0 none _ a1 n t1 v1 [] news IH hh hw m1 R1 (by decide +kernel) (by decide +kernel) (by decide +kernel) (by decide +kernel) (by decide +kernel) (by decide +kernel) (by decide +kernel)
      (.star (by decide +kernel) (by decide +kernel) rfl rfl) (by decide) (fun _ e => nomatch e) fun _ h => h.congr fun x _ => ⟨fun ⟨n, _, _, q⟩ => ⟨n, q⟩, fun ⟨n, q⟩ => ⟨n, Nat.zero_le _, (fun _ e => nomatch e), q⟩⟩
theorem words_plus (w : World) (p : Program) (loose : List Str) (mean : ExcName → Option Value) (mg mb : Str → Option Value) (b : Rx) (t : Rx) (et : t = .plus b) (hh : t.ht ≤ 20) (hw : wf t)
    (IH : WordsTo w p loose mean mg mb t.ht)
    (news : Led) (v : Value) (R : TIn news v t) : Tell w p loose mean mg mb 576 [v] news (t.ht + 4) (fun r nw => ∃ ws, StrList nw r ws ∧ W (L t) ws) := by
  subst et
  cases R with
  | @plus a1 t1 v1 n _ m1 R1 =>
    exact words_loops w p loose mean mg mb _ b 1 none _ a1 n t1 v1 [] news IH hh hw m1 R1 (by decide +kernel) (by decide +kernel) (by decide +kernel) (by decide +kernel) (by decide +kernel) (by decide +kernel) (by decide +kernel)
      (.plus (by decide +kernel) rfl rfl) (by decide) (fun _ e => nomatch e) fun _ h => h.congr fun x _ => ⟨fun ⟨n, a, _, q⟩ => ⟨n, a, q⟩, fun ⟨n, a, q⟩ => ⟨n, a, (fun _ e => nomatch e), q⟩⟩
theorem words_repN (w : World) (p : Program) (loose : List Str) (mean : ExcName → Option Value) (mg mb : Str → Option Value) (b : Rx) (low : Nat) (t : Rx) (et : t = .rep b low none) (hh : t.ht ≤ 20) (hw : wf t)
    (IH : WordsTo w p loose mean mg mb t.ht)
    (news : Led) (v : Value) (R : TIn news v t) : Tell w p loose mean mg mb 576 [v] news (t.ht + 4) (fun r nw => ∃ ws, StrList nw r ws ∧ W (L t) ws) := by
  subst et
  cases R with
  | @repN a1 t1 v1 n _ tl _ m1 R1 =>
    exact words_loops w p loose mean mg mb _ b low none _ a1 n t1 v1 _ news IH hh hw.1 m1 R1 (by decide +kernel) (by decide +kernel) (by decide +kernel) (by decide +kernel) (by decide +kernel) (by decide +kernel) (by decide +kernel)
      (.rep (by decide +kernel) (by decide +kernel) rfl rfl (.inl ⟨rfl, rfl⟩)) (Nat.le_trans hw.2.1 (by decide)) (fun _ e => nomatch e) fun _ h => h
theorem words_rep (w : World) (p : Program) (loose : List Str) (mean : ExcName → Option Value) (mg mb : Str → Option Value) (b : Rx) (low high : Nat) (t : Rx) (et : t = .rep b low (some high)) (hh : t.ht ≤ 20) (hw : wf t)
    (IH : WordsTo w p loose mean mg mb t.ht)
    (news : Led) (v : Value) (R : TIn news v t) : Tell w p loose mean mg mb 576 [v] news (t.ht + 4) (fun r nw => ∃ ws, StrList nw r ws ∧ W (L t) ws) := by
  subst et
  cases R with
  | @rep a1 t1 v1 n _ tl th _ _ m1 R1 =>
    exact words_loops w p loose mean mg mb _ b low (some high) _ a1 n t1 v1 _ news IH hh hw.1 m1 R1 (by decide +kernel) (by decide +kernel) (by decide +kernel) (by decide +kernel) (by decide +kernel) (by decide +kernel) (by decide +kernel)
      (.rep (by decide +kernel) (by decide +kernel) rfl rfl (.inr ⟨_, _, rfl, rfl⟩)) (Nat.le_trans hw.2.1 (by decide)) (fun h e => (hw.2.2 h e).1) fun _ h => h
end
end
theorem words_spec (w : World) (p : Program) (loose : List Str) (mean : ExcName → Option Value) (mg mb : Str → Option Value) : ∀ n, n ≤ 21 → WordsTo w p loose mean mg mb n
  | 0, _ => fun t news v R hw h => absurd h (Nat.not_lt_zero _)
  | n + 1, hn => fun t news v R hw h => by
    have hh : t.ht ≤ 20 := by omega
    have IH : WordsTo w p loose mean mg mb t.ht := fun t' news' v' R' hw' h' => words_spec w p loose mean mg mb n (by omega) t' news' v' R' hw' (by omega)
    cases t with
    | chr sg =>
      cases R with
      | sa => exact words_sa w p loose mean mg mb news
      | sb => exact words_sb w p loose mean mg mb news
      | sb2 => exact words_sb2 w p loose mean mg mb news
      | sab => exact words_sab w p loose mean mg mb news
      | chars h1 S => exact words_chars w p loose mean mg mb news _ _ _ _ _ h1 S
    | empty => exact words_empty w p loose mean mg mb _ rfl hh hw IH news v R
    | never => exact words_never w p loose mean mg mb _ rfl hh hw IH news v R
    | cat l r => exact words_cat w p loose mean mg mb l r _ rfl hh hw IH news v R
    | alt l r => exact words_alt w p loose mean mg mb l r _ rfl hh hw IH news v R
    | star b => exact words_star w p loose mean mg mb b _ rfl hh hw IH news v R
    | plus b => exact words_plus w p loose mean mg mb b _ rfl hh hw IH news v R
    | opt b => exact words_opt w p loose mean mg mb b _ rfl hh hw IH news v R
    | rep b low high =>
      cases high with
      | some high => exact words_rep w p loose mean mg mb b low high _ rfl hh hw IH news v R
      | none => exact words_repN w p loose mean mg mb b low _ rfl hh hw IH news v R
section
theorem sorted_W {prog : Program} {w : World} {A : Around} {E : Value → Shared → Prop} {s : Shared} {h₀ : Heap} {L₀ a : Addr} {m : Str → Option Value} {news : Led} {n : Nat} {vs : List Value} {ws : List Str} {Q : Value → Shared → Prop} (F : Fr h₀ L₀ s.heap m) (N : News h₀ L₀ s.heap news)
    (m1 : (a, listOf (List.toArray vs) n) ∈ news) (S : StrsAre vs ws) (A1 : WA ws) (h : ∀ D h' vs' ss' e, Fr h₀ L₀ h' m → News h₀ L₀ h' ((D, listOf (List.toArray vs') e) :: news) → StrsAre vs' ss' → ss'.Perm ws → sortedS ss' = true → Q (.ref D) { s with heap := h' }) :
    wpAny (model prog w) A (call (.builtin "sorted") [.ref a]) Q E s :=
  sorted_N_str F N (News.isList N m1) S (by have := A1.len; have := strs_len S; omega) fun h' vs' ss' e F' N' S' p q => h _ h' vs' ss' e F' N' S' p q
theorem eq_sorted {prog : Program} {w : World} {A : Around} {E : Value → Shared → Prop} {s : Shared} {h₀ : Heap} {L₀ a b : Addr} {news : Led} {n k : Nat} {vs us : List Value} {xs ys ws ws' : List Str} {P : Str → Prop} {Q : Value → Shared → Prop} (N : News h₀ L₀ s.heap news)
    (m1 : (a, listOf (List.toArray vs) n) ∈ news) (m2 : (b, listOf (List.toArray us) k) ∈ news) (S1 : StrsAre vs xs) (S2 : StrsAre us ys) (p1 : xs.Perm ws) (p2 : ys.Perm ws') (q1 : sortedS xs = true) (q2 : sortedS ys = true) (A1 : WA ws) (W1 : W P ws) (W2 : W P ws')
    (hroom : A.units + 64 < cLine) (h : Q (.bool true) s) : wpAny (model prog w) A (compareOp .Eq (.ref a) (.ref b)) Q E s := by
  have e : ys = xs := sorted_uniq q2 q1 ((p2.trans (W_perm W2 W1)).trans p1.symm)
  subst e
  have hx : ∀ x ∈ ys, ab x := fun x hx => (A1.2 x (p1.mem_iff.mp hx)).1
  refine eq_words N ⟨_, _, _, rfl, m1, S1⟩ ⟨_, _, _, rfl, m2, S2⟩ hx hx hroom ?_
  rw [eqv_strs]; exact h
theorem lines_22 : True := by
  k_with_none
  (k_with "ktr_room" => ((try simp only [depth_under_make, depth_under_kw, depth_in1, depth_deeper, depth_caller, recursionLimit, Rx.ht] at *); (try dsimp only [ktrTop] at *); first | exact ar_r0 (by assumption) | exact ar_r1 (by assumption) | exact ar_r2 (by assumption) | omega))
  (k_with "k_mem" => with_reducible first | assumption | exact List.mem_cons_self | (refine List.mem_cons_of_mem _ ?_; k_mem) | (refine List.mem_append.mpr (Or.inl ?_); k_mem) | (refine List.mem_append.mpr (Or.inr ?_); k_mem))
  (k_with "ktn_open" => ((k_dflt ktr_enter); (try ((with_reducible show wpAny _ _ _ _ _ _); k_fold))))
  (k_with "tb_start" => (k_dflt (refine' code_defC ?k1_158 ?k2_158 ?k3_158 ?k4_158 ?k5_158 ?kA_158 ?kF_158 ?kK_158 ?k6_158 ?k7_158 ?k8_158 ?k9_158 ?kB_158 ?kD_158 ?_ ?c2_158 ?c3_158 ?c4_158; (case kA_158 => exact rfl); (case kF_158 => exact rfl); (case kK_158 => assumption); (case k1_158 => k_asm); (case k2_158 => k_asm); (case k3_158 => k_asm); (case k4_158 => k_asm); (case k5_158 => k_asm); (case k6_158 => k_is); (case k7_158 => k_is); (case k8_158 => ktr_room); (case k9_158 => exact BindsTo.of_eq rfl); (case kB_158 => exact rfl); (case kD_158 => decide +kernel); (case c2_158 => exact rfl); (case c3_158 => exact rfl); (case c4_158 => exact rfl); k_whole; intro g' L' h' tk' cells' FG' F' N' Y' B' X' T' l1; (try k_lt l1); k_cells Y'; (try simp only [List.cons_append, List.nil_append] at N'); (try dsimp only); (try ((with_reducible show wpAny _ _ _ _ _ _); k_fold))); (try ((with_reducible show wpAny _ _ _ _ _ _); k_fold))))
  (k_with "ktr_units" => (simp only [depth_under_make, depth_under_kw, depth_in1, depth_deeper, depth_caller, recursionLimit, units_in1, units_deeper, Around.mark_units, units_caller, cLine, Rx.ht] at *; (try dsimp only [ktrTop] at *); first | exact ar_r0 (by assumption) | exact ar_r1 (by assumption) | exact ar_r2 (by assumption) | exact ar_d (by assumption) (by decide) | exact ar_b (by assumption) (by decide) | exact ar_l (by assumption) (by decide) | exact ar_m (by assumption) (by decide) | exact ar_u (by assumption) (by decide) | exact ar_ub (by assumption) (by decide) | exact ar_ul (by assumption) (by decide) | exact ar_um (by assumption) (by decide) | exact ar_c (by assumption) | omega))
  (k_with "ktd_rel" => first | assumption | exact NIn.mono (by assumption) (by ktd_sub) | exact TIn.mono (by assumption) (by ktd_sub) | exact CIn.mono (by assumption) (by ktd_sub) | exact DIn.mono (by assumption) (by ktd_sub))
  (k_with "tell 1" => (refine' tell_use ?tlC ?tlB ?tlF ?tlX ?tlN ?tlT ?tlhk ?tlhd ?tlhu ?_; (case tlB => k_asm); (case tlF => k_asm); (case tlX => k_asm); (case tlT => k_asm); (case tlN => k_asm)))
  (k_with "tell 2" => ((case tlhk => first | exact rfl | assumption); (case tlhd => ktr_units); (case tlhu => ktr_units); k_whole))
  (k_with "ite" => with_reducible (first | apply ite_ff9 | apply ite_tt9))
  (k_with "k_room" => ktr_units)
  (k_with "ktd_sub" => first | exact fun _ h => h | (intro p9 h9; (try simp only [List.mem_append, List.mem_cons] at h9 ⊢); (repeat' (first | (simp only [h9, true_or, or_true]; done) | ((with_reducible refine Or.elim h9 ?_ ?_) <;> (clear h9; intro h9))))))
  (k_with "k_steps" => ((try ((with_reducible show wpAny _ _ _ _ _ _); k_fold)); repeat' (first | ((with_reducible show wpAny _ _ (exec _ _) _ _ _); k_fold) | (k_unfold; (try dsimp only)) | (k_end; wrow_close) | walk1 | (dsimp only; walk1) | (leave1; walk_say "STEP leave1"; try dsimp only) | fail "no step")))
  (k_with "k_handed" => first | exact NIn.handed (by assumption) | exact SpIn.handed (by assumption))
  (k_with "subscriptTail" => (k_here; (with_reducible show wpAny _ _ (subscriptTail _ _ (Value.ref _) (Value.int _ _)) _ _ _); k_dflt (refine' item_pair ?N_168 ?m_168 ?lo_168 ?hi_168 ?j_168 ?x_168 ?_ ?s_168; (case N_168 => k_asm); (case m_168 => k_mem); (case lo_168 => decide); (case hi_168 => decide); (case j_168 => exact rfl); (case x_168 => exact rfl); (case s_168 => with_unfolding_all rfl); k_whole)))
  (k_with "getMethod" => (k_here; (with_reducible show wpAny _ _ (getMethod _ (PySem.Str.ofString "told") _) _ _ _); (with_reducible rename ToldTo _ _ _ _ _ _ _ => IH9); k_dflt (refine' told_meth IH9 ?B_169 ?F_169 ?X_169 ?N_169 ?T_169 ?hk_169 ?R_169 ?lt_169 ?hd_169 ?hu_169 ?_; (case B_169 => k_asm); (case F_169 => k_asm); (case X_169 => k_asm); (case T_169 => k_asm); (case N_169 => k_asm); (case R_169 => ktd_rel); (case lt_169 => (simp only [Rx.ht] at *; omega)); (case hk_169 => first | exact rfl | assumption); (case hd_169 => ktr_units); (case hu_169 => ktr_units); k_whole); intro r9 tl9 h9 tk9 F9 N9 hl9 ho9))
  (k_with "ktd_rel" => first | assumption | exact NIn.mono (by assumption) (by ktd_sub) | exact CIn.mono (by assumption) (by ktd_sub) | exact DIn.mono (by assumption) (by ktd_sub) | exact CIn.told (CIn.mono (by assumption) (by ktd_sub)) | exact DIn.told (DIn.mono (by assumption) (by ktd_sub)))
  (k_with "call builtin:sorted" => (k_here; (with_reducible show wpAny _ _ (call (Value.builtin _) [Value.ref _]) _ _ _); k_dflt (refine' sorted_W ?F_171 ?N_171 ?a_171 ?i_171 ?x_171 ?_; (case F_171 => k_asm); (case N_171 => k_asm); (case a_171 => k_mem); (case i_171 => kct_strs); (case x_171 => kas_types)); intro D' h' z' y' e' F' N' S' p' q'))
  (k_with "compareOp Eq ref ref" => (k_here; (with_reducible show wpAny _ _ (compareOp CmpOp.Eq (Value.ref _) (Value.ref _)) _ _ _); k_dflt (refine' eq_sorted ?N_172 ?a_172 ?b_172 ?i_172 ?j_172 ?p_172 ?q_172 ?c_172 ?d_172 ?x_172 ?u_172 ?v_172 ?r_172 ?_; (case N_172 => k_asm); (case a_172 => k_mem); (case b_172 => k_mem); (case i_172 => assumption); (case j_172 => assumption); (case p_172 => assumption); (case q_172 => assumption); (case c_172 => assumption); (case d_172 => assumption); (case x_172 => assumption); (case u_172 => assumption); (case v_172 => assumption); (case r_172 => ke_room))))
  (k_with "call ref" => (k_here; (with_reducible show wpAny _ _ (call (Value.ref 576) _) _ _ _); (with_reducible rename WordsTo _ _ _ _ _ _ _ => IH9); k_dflt (refine' tell_words ?C_173 ?B_173 ?F_173 ?X_173 ?N_173 ?T_173 ?hk_173 ?hd_173 ?hu_173 ?_; (case B_173 => k_asm); (case F_173 => k_asm); (case X_173 => k_asm); (case T_173 => k_asm); (case N_173 => k_asm); (case C_173 => exact (IH9 _ _ _ (by ktd_rel) (by first | assumption | (simp only [wf] at *; simp only [*])) (by first | omega | (simp only [Rx.ht] at *; omega)))); (case hk_173 => first | exact rfl | assumption); (case hd_173 => ktr_units); (case hu_173 => ktr_units); k_whole; intro ws8 a8 n8 vs8 tl9 h9 tk9 F9 N9 hl9 m8 S8 W8; have A8 : WA ws8 := WA.of W8 (ab_L _))))
  (k_with "kct_strs" => first | assumption | exact StrsAre.nil | exact StrsAre.cons _ _ StrsAre.nil)
  (k_with "kas_types" => first | assumption | exact WA.se)
  (k_with "call ref" => (k_here; (with_reducible show wpAny _ _ (call (Value.ref 571) _) _ _ _); k_dflt (refine' tell_strs ?C_176 ?B_176 ?F_176 ?X_176 ?N_176 ?T_176 ?hk_176 ?hd_176 ?hu_176 ?_; (case B_176 => k_asm); (case F_176 => k_asm); (case X_176 => k_asm); (case T_176 => k_asm); (case N_176 => k_asm); (case C_176 => exact (rows_W _ _ _ _ _ _ _ (by k_mem) (by k_mem) (by kct_strs) (by kct_strs) (by kas_types) (by kas_types))); (case hk_176 => first | exact rfl | assumption); (case hd_176 => ktr_units); (case hu_176 => ktr_units); k_whole; intro a8 n8 vs8 tl9 h9 tk9 F9 N9 hl9 m8 S8; have A8 := WA.of_rows S8 (by kas_types) (by kas_types))))
  (k_with "call ref" => (k_here; (with_reducible show wpAny _ _ (call (Value.ref 564) _) _ _ _); k_dflt (refine' tell_strs ?C_177 ?B_177 ?F_177 ?X_177 ?N_177 ?T_177 ?hk_177 ?hd_177 ?hu_177 ?_; (case B_177 => k_asm); (case F_177 => k_asm); (case X_177 => k_asm); (case T_177 => k_asm); (case N_177 => k_asm); (case C_177 => exact (fresh_W _ _ _ _ _ _ _ (by k_mem) (by k_mem) (by kct_strs) (by kct_strs) (by kas_types))); (case hk_177 => first | exact rfl | assumption); (case hd_177 => ktr_units); (case hu_177 => ktr_units); k_whole; intro a8 n8 vs8 tl9 h9 tk9 F9 N9 hl9 m8 S8; have A8 := WA.of_fresh S8 (by kas_types))))
  (k_with "binaryOp Add ref ref" => (k_here; (with_reducible show wpAny _ _ (binaryOp _ (Value.ref _) (Value.ref _)) _ _ _); k_dflt (refine' cat_W ?F_178 ?N_178 ?a_178 ?b_178 ?i_178 ?j_178 ?k_178 ?l_178 ?_; (case F_178 => k_asm); (case N_178 => k_asm); (case a_178 => k_mem); (case b_178 => k_mem); (case i_178 => kct_strs); (case j_178 => kct_strs); (case k_178 => kas_types); (case l_178 => kas_types)); intro D' h' z' F' N' S' l1; (try k_lt l1)))
  trivial
theorem same_spec (w : World) (p : Program) (loose : List Str) (mean : ExcName → Option Value) (mg mb : Str → Option Value) (news : Led) (v : Value) (t : Rx) (R : NIn news v t) (hw : wf t) (hh : t.ht ≤ 20) {b : Addr} {n : Nat} {vs : List Value} {ws : List Str} (m1 : (b, listOf (List.toArray vs) n) ∈ news) (S1 : StrsAre vs ws) (A1 : WA ws) (W1 : W (L t) ws) :
    Tell w p loose mean mg mb 583 [v, .ref b] news (t.ht + 12) (fun r _ => r = .bool true) := by
  have TD := told_spec w p loose mean mg mb 21 (Nat.le_refl _)
  have WD := words_spec w p loose mean mg mb 21 (Nat.le_refl _)
  unfold Tell
  w_top off
  k_fill
  intro dp un gd cn cs a ccd cl outer A₀ base h₀ L₀ m s Q E B F X N T hk hdp hu hret
  refine wpAny_call ?_
  have hfin := fin_all (news := news) (Post := fun r _ => r = .bool true) hret
  ktn_open
  rename Fr _ _ _ (fun y => List.lookup _ _) => F0
  have F1 : Fr _ _ _ (fun y => List.lookup y [(Str.ofString "words", Value.ref b), (Str.ofString "node", v)]) := F0
  clear F0
  k_steps
  refine hfin _ _ _ _ (by k_asm) (by k_asm) (by ktd_sub) ?_
  intro Y hY
  rfl
end
end
/-! ## the taker -/
def TakeSpec (w : World) (f pl : Addr) (R : Led) : Prop :=
  ∀ (p : Program) (loose : List Str) (mean : ExcName → Option Value) (mg mb : Str → Option Value) (R' : Led) (k : Nat) (t : Tok) (n lim : Nat) (tl : Tok) (dp un : Nat) (gd : Option (List Code)) (cn : Str) (cs : Scope) (a : Addr) (ccd : Value) (cl : List (Str × Addr)) (outer : List Env) (A₀ : Around) (base h₀ : Heap) (L₀ : Addr) (m : Str → Option Value) (s : Shared)
    (Q E : Value → Shared → Prop),
    (∀ q ∈ R, q ∈ R') → (∀ q ∈ R', q.1 ≠ pl) → k ≤ 200 → 1 ≤ lim → lim ≤ 100 →
    Below A₀ base outer h₀ → Fr h₀ L₀ s.heap m → (hd.heap_1 w.params).In h₀ → News h₀ L₀ s.heap ((pl, listOf #[.int (k : Nat) t] n) :: R') → Top p loose mean mg mb h₀ → cs.kind = .function → dp + 2 < 600 → un + 16 < 6000 →
    (∀ (r : Nat) (t1 t2 : Tok) (n2 : Nat) h' tk', r < lim → Fr h₀ L₀ h' m → News h₀ L₀ h' ((pl, listOf #[.int ((k + 1 : Nat) : Int) t2] n2) :: R') → Q (.int (r : Nat) t1) { s with heap := h', toks := tk' }) →
    wpAny (model PySem.Challenge.rw_nn0369_01.row.prog w) (ktrTop dp un gd cn cs L₀ a ccd cl outer) (call (.ref f) [.int (lim : Nat) tl]) Q E s
theorem log_pow {n : Nat} (h : n ≤ 400) : ((720720 : Int) ^ n).natAbs.log2 < 9000 := by
  have e : ((720720 : Int) ^ n).natAbs = 720720 ^ n := by rw [Int.natAbs_pow]; rfl
  rw [e]
  have h1 : 720720 ^ n ≤ (2 ^ 20) ^ n := Nat.pow_le_pow_left (by decide) n
  rw [← Nat.pow_mul] at h1
  have h2 : 2 ^ (20 * n) ≤ 2 ^ 8000 := Nat.pow_le_pow_right (by decide) (by omega)
  have h0 : 720720 ^ n ≠ 0 := Nat.pos_iff_ne_zero.mp (Nat.pow_pos (by decide))
  exact (Nat.log2_lt h0).mpr (Nat.lt_of_le_of_lt (Nat.le_trans h1 h2) (Nat.pow_lt_pow_right (by decide) (by decide)))
section
variable {prog : Program} {w : World} {A : Around} {E : Value → Shared → Prop} {s : Shared} {t u : Tok} {Q : Value → Shared → Prop}
theorem t_fl1 {a b : Int} (ha : 0 ≤ a) (hb : 0 < b) (hb2 : b ≤ 1000) (h : ∀ lv tk tk', 0 ≤ lv → lv ≤ a → Q (.int lv tk) { s with toks := tk' }) : wpAny (model prog w) A (binaryOp .FloorDiv (.int a t) (.int b u)) Q E s :=
  floordiv_int (by omega) (h _ _ _ (by rw [Int.fdiv_eq_ediv_of_nonneg _ (by omega)]; exact Int.ediv_nonneg ha (by omega)) (by rw [Int.fdiv_eq_ediv_of_nonneg _ (by omega)]; exact Int.ediv_le_self _ ha)) (.inl (PyProof.noPylong_small (by omega)))
theorem t_fl2 {a b : Int} (hb : 0 < b) (hb2 : b.natAbs.log2 < 9000) (h : ∀ lv tk tk', Q (.int lv tk) { s with toks := tk' }) : wpAny (model prog w) A (binaryOp .FloorDiv (.int a t) (.int b u)) Q E s :=
  floordiv_int (by omega) (h _ _ _) (.inl (PyProof.noPylong_of_log2 hb2))
theorem t_mod {a b : Int} (hb : 0 < b) (h : ∀ r tk tk', 0 ≤ r → r < b → Q (.int r tk) { s with toks := tk' }) : wpAny (model prog w) A (binaryOp .Mod (.int a t) (.int b u)) Q E s :=
  mod_int' (by omega) (h _ _ _ (Int.fmod_nonneg_of_pos _ hb) (Int.fmod_lt_of_pos _ hb))
theorem t_pow {b : Int} (h0 : 0 ≤ b) (h1 : b ≤ 400) (h : ∀ P tk tk', 0 < P → P.natAbs.log2 < 9000 → Q (.int P tk) { s with toks := tk' }) : wpAny (model prog w) A (binaryOp .Pow (.int 720720 t) (.int b u)) Q E s := by
  by_cases hb : b = 0
  · subst hb
    exact AutoIntOps.pow_0 (by omega) rfl (h 1 _ _ (by decide) (by decide +kernel))
  · refine AutoIntOps.pow_4 (by omega) (by simpa using hb) (by decide) (by decide) ?_ (h _ _ _ ?_ (log_pow (by omega)))
    · have : Builtin.Int.intBits 720720 = 20 := by decide +kernel
      rw [this]
      unfold Builtin.Int.intTooBig bitsLine
      simp
      omega
    · exact Int.pow_pos (by decide)
end
def FnIn (R : Led) (f : Addr) : Prop := ∃ oc od fd sl, (f, (⟨oc, od, .func fd, sl⟩ : Obj)) ∈ R
def TakerPost (w : World) (h₀ : Heap) (L₀ : Addr) (m : Str → Option Value) (s : Shared) (v : Value) (s' : Shared) : Prop :=
  ∃ f pl R n t h' tk', v = .ref f ∧ s' = { s with heap := h', toks := tk' } ∧ Fr h₀ L₀ h' m ∧ News h₀ L₀ h' ((pl, listOf #[.int ((0 : Nat) : Int) t] n) :: R) ∧ (∀ q ∈ R, q.1 ≠ pl) ∧ FnIn R f ∧ (∃ ps, (540, tabObj ps) ∈ R) ∧ TakeSpec w f pl R
theorem cut_taker {prog : Program} {w : World} {A : Around} {E : Value → Shared → Prop} {s : Shared} {h₀ : Heap} {L₀ : Addr} {m : Str → Option Value} {sc : Value} {Q : Value → Shared → Prop} (_ : Fr h₀ L₀ s.heap m)
    (h1 : wpAny (model prog w) A (call (.ref 545) [sc]) (TakerPost w h₀ L₀ m s) E s)
    (h2 : ∀ f pl R n t h' tk', Fr h₀ L₀ h' m → News h₀ L₀ h' ((pl, listOf #[.int ((0 : Nat) : Int) t] n) :: R) → (∀ q ∈ R, q.1 ≠ pl) → FnIn R f → (∃ ps, (540, tabObj ps) ∈ R) → TakeSpec w f pl R → Q (.ref f) { s with heap := h', toks := tk' }) :
    wpAny (model prog w) A (call (.ref 545) [sc]) Q E s :=
  wpAny_mono h1 (fun v s' ⟨f, pl, R, n, t, h', tk', e1, e2, a, b, c, c', cg, d⟩ => by subst e1; subst e2; exact h2 f pl R n t h' tk' a b c c' cg d) fun _ _ e => e
theorem news_pull {h₀ h : Heap} {L : Addr} {a b c : Addr × Obj} {X : Led} (N : News h₀ L h (a :: b :: c :: X)) : News h₀ L h (c :: a :: b :: X) := fun q hq => N q (by
  simp only [List.mem_cons] at hq ⊢
  rcases hq with h | h | h | h <;> simp [h])
theorem t_len {prog : Program} {w : World} {A : Around} {E : Value → Shared → Prop} {s : Shared} {h₀ : Heap} {L₀ a : Addr} {news : Led} {n : Nat} {vs : List Value} {Q : Value → Shared → Prop} (N : News h₀ L₀ s.heap news) (m1 : (a, listOf (List.toArray vs) n) ∈ news) (hl : vs.length ≤ 1000)
    (h : ∀ tk tk', Q (.int ((vs.length : Nat) : Int) tk) { s with toks := tk' }) : wpAny (model prog w) A (call (.builtin "len") [.ref a]) Q E s :=
  len_list (News.isList N m1) (by rw [List.size_toArray]; omega) (by rw [List.size_toArray]; exact h _ _)
theorem t_item {prog : Program} {w : World} {A : Around} {E : Value → Shared → Prop} {s : Shared} {h₀ : Heap} {L₀ l : Addr} {news : Led} {n : Nat} {vs : List Value} {ns : List Int} {value slice : Expr} {k : Int} {u : Tok} {Q : Value → Shared → Prop} (N : News h₀ L₀ s.heap news) (m1 : (l, listOf (List.toArray vs) n) ∈ news) (hi : IntsAre vs ns)
    (h0 : 0 ≤ k) (h1 : k < ((vs.length : Nat) : Int)) (hl : vs.length ≤ 1000) (h : ∀ z t, Q (.int z t) s)
    (hs : subscripted slice false (.ref l) (.int k u) = operate [.ref l, .int k u] (getItem (.ref l) (.int k u))) :
    wpAny (model prog w) A (subscriptTail value slice (.ref l) (.int k u)) Q E s := by
  obtain ⟨z, t, e, _⟩ := IntsAre.at hi k.toNat (vs[k.toNat]'(by omega)) (List.getElem?_eq_getElem _)
  refine item_litK (News.isList N m1) h0 (by omega) (v := .int z t) ?_ (h z t) hs
  rw [List.getElem?_eq_getElem (by omega), e]
theorem t_mul {prog : Program} {w : World} {A : Around} {E : Value → Shared → Prop} {s : Shared} {t u : Tok} {Q : Value → Shared → Prop} {a b : Int} (ha : 0 ≤ a) (ha2 : a ≤ 1000000) (hb : 0 ≤ b) (hb2 : b ≤ 1000000) (h : ∀ y tk tk', 0 ≤ y → (a = 7 → y = 7 * b) → Q (.int y tk) { s with toks := tk' }) :
    wpAny (model prog w) A (binaryOp .Mult (.int a t) (.int b u)) Q E s :=
  mul_int (h _ _ _ (Int.mul_nonneg ha hb) (fun e => by rw [e])) (IntMulOk.of_left (intBits_le_64 (by omega) (by omega)))
section
variable {M : Model} {A : Around} {E : Value → Shared → Prop} {s : Shared} {env : Env} {pos : Pos} {first : List Value} {Q : Value → Shared → Prop} {q : Addr}
theorem callWith_M {e : Expr} {rest : List Expr} {h₀ : Heap} {L : Addr} {R X : Led} {oc : Value} {od : Option Addr} {fd : FuncData} {sl : Array (Option Value)} (m : (q, (⟨oc, od, .func fd, sl⟩ : Obj)) ∈ R) (N : News h₀ L s.heap X) (sub : ∀ p ∈ R, p ∈ X)
    (h : wpAny M A (spliced (backTo pos (starEach (e :: rest) env))) (fun vs s₁ => FnAt q s₁.heap ∧ wpAny M A (call (.ref q) (first ++ vs)) Q E s₁) E s)
    (he : starEach (e :: rest) env = (false, eval e env) :: starEach rest env := by rfl) (hplain : (backTo pos (starEach rest env)).any (·.1) = false := by rfl) :
    wpAny M A (callWith pos (.ref q) first (backTo pos (starEach (e :: rest) env)) []) Q E s := callWith_F (FnAt.of N (sub _ m)) h he hplain
end
theorem DIn.monoT {nw nw' : Led} {v s} (h : DIn nw v s) (hs : ∀ p ∈ nw, p.2.cls = .type "tuple" → p ∈ nw') : DIn nw' v s := by
  induction h with
  | sa => exact .sa
  | sb => exact .sb
  | sb2 => exact .sb2
  | sab => exact .sab
  | e0 => exact .e0
  | n0 => exact .n0
  | cat h1 _ _ i j => exact .cat (hs _ h1 rfl) i j
  | alt h1 _ _ i j => exact .alt (hs _ h1 rfl) i j
  | star h1 _ i => exact .star (hs _ h1 rfl) i
  | plus h1 _ i => exact .plus (hs _ h1 rfl) i
  | opt h1 _ i => exact .opt (hs _ h1 rfl) i
  | rep h1 _ i => exact .rep (hs _ h1 rfl) i
  | repN h1 _ i => exact .repN (hs _ h1 rfl) i
noncomputable def cT : Nat → Nat
  | 0 => 1
  | d + 1 => 2 * cT d + 3
def TreeTo (w : World) (f pl : Addr) (R : Led) (d : Nat) : Prop :=
  ∀ (p : Program) (loose : List Str) (mean : ExcName → Option Value) (mg mb : Str → Option Value) (R' : Led) (k : Nat) (t : Tok) (n : Nat) (i : Int) (td : Tok) (dp un : Nat) (gd : Option (List Code)) (cn : Str) (cs : Scope) (a : Addr) (ccd : Value) (cl : List (Str × Addr)) (outer : List Env) (A₀ : Around) (base h₀ : Heap) (L₀ : Addr) (m : Str → Option Value) (s : Shared)
    (Q E : Value → Shared → Prop), i = ((d : Nat) : Int) →
    (∀ q ∈ R, q ∈ R') → (∀ q ∈ R', q.1 ≠ pl) → k + cT d ≤ 200 →
    Below A₀ base outer h₀ → Fr h₀ L₀ s.heap m → (hd.heap_1 w.params).In h₀ → News h₀ L₀ s.heap ((pl, listOf #[.int (k : Nat) t] n) :: R') → Top p loose mean mg mb h₀ → cs.kind = .function → dp + (d + 4) < 600 → un + 8 * (d + 4) < 6000 →
    (∀ v tr k' t2 n2 tl h' tk', k' ≤ k + cT d → Fr h₀ L₀ h' m → News h₀ L₀ h' ((pl, listOf #[.int ((k' : Nat) : Int) t2] n2) :: (R' ++ tl)) → (∀ q ∈ R' ++ tl, q.1 ≠ pl) → DIn (R' ++ tl) v tr → wf tr → tr.ht ≤ d → Q v { s with heap := h', toks := tk' }) →
    wpAny (model PySem.Challenge.rw_nn0369_01.row.prog w) (ktrTop dp un gd cn cs L₀ a ccd cl outer) (call (.ref 552) [.ref f, .int i td]) Q E s
theorem sub_app {R R' tl : Led} (h : ∀ q ∈ R, q ∈ R') : ∀ q ∈ R, q ∈ R' ++ tl := fun q hq => List.mem_append.mpr (.inl (h q hq))
theorem tree_close {h₀ h : Heap} {L : Addr} {X R' : Led} {pl : Addr} {o : Obj} (N : News h₀ L h X) (hp : (pl, o) ∈ X) (ho : o.cls = .type "list") (hs : ∀ q ∈ R', q ∈ X) (hpl : ∀ q ∈ R', q.1 ≠ pl) :
    ∃ tl, News h₀ L h ((pl, o) :: (R' ++ tl)) ∧ (∀ q ∈ R' ++ tl, q.1 ≠ pl) ∧ ∀ q ∈ X, q.2.cls = .type "tuple" → q ∈ R' ++ tl := by
  refine ⟨X.filter fun q => q.1 != pl, fun q hq => ?_, fun q hq => ?_, fun q hq hc => ?_⟩
  · rcases List.mem_cons.mp hq with rfl | hq
    · exact N _ hp
    · rcases List.mem_append.mp hq with hq | hq
      · exact N _ (hs q hq)
      · exact N _ (List.mem_filter.mp hq).1
  · rcases List.mem_append.mp hq with hq | hq
    · exact hpl q hq
    · simpa using (List.mem_filter.mp hq).2
  · refine List.mem_append.mpr (.inr (List.mem_filter.mpr ⟨hq, ?_⟩))
    have : q.1 ≠ pl := fun e => by
      have a1 := (N q hq).1
      rw [e, (N _ hp).1] at a1
      have a2 : o = q.2 := Option.some.inj a1
      rw [← a2, ho] at hc
      exact absurd (Value.type.inj hc) (by decide)
    simpa using this
theorem take_use {w : World} {f pl : Addr} {R R' : Led} {p : Program} {loose : List Str} {mean : ExcName → Option Value} {mg mb : Str → Option Value} {k : Nat} {t : Tok} {n : Nat} {tl : Tok} {dp un : Nat} {gd : Option (List Code)} {cn : Str} {cs : Scope} {a : Addr} {ccd : Value} {cl : List (Str × Addr)} {outer : List Env} {A₀ : Around} {base h₀ : Heap} {L₀ : Addr} {m : Str → Option Value} {s : Shared}
    {Q E : Value → Shared → Prop} {x : Int} (TK : TakeSpec w f pl R) (lim : Nat) (hx : x = ((lim : Nat) : Int)) (hR : ∀ q ∈ R, q ∈ R') (hpl : ∀ q ∈ R', q.1 ≠ pl) (hk : k ≤ 200) (h1 : 1 ≤ lim) (h2 : lim ≤ 100)
    (B : Below A₀ base outer h₀) (F : Fr h₀ L₀ s.heap m) (X : (hd.heap_1 w.params).In h₀) (N : News h₀ L₀ s.heap ((pl, listOf #[.int (k : Nat) t] n) :: R')) (T : Top p loose mean mg mb h₀) (hck : cs.kind = .function) (hdp : dp + 2 < 600) (hu : un + 16 < 6000)
    (ret : ∀ (r : Nat) (t1 t2 : Tok) (n2 : Nat) h' tk', r < lim → Fr h₀ L₀ h' m → News h₀ L₀ h' ((pl, listOf #[.int ((k + 1 : Nat) : Int) t2] n2) :: R') → Q (.int (r : Nat) t1) { s with heap := h', toks := tk' }) :
    wpAny (model PySem.Challenge.rw_nn0369_01.row.prog w) (ktrTop dp un gd cn cs L₀ a ccd cl outer) (call (.ref f) [.int x tl]) Q E s := by
  subst hx
  exact TK p loose mean mg mb R' k t n lim tl dp un gd cn cs a ccd cl outer A₀ base h₀ L₀ m s Q E hR hpl hk h1 h2 B F X N T hck hdp hu ret
theorem tree_use {w : World} {f pl : Addr} {R R' : Led} {d : Nat} {p : Program} {loose : List Str} {mean : ExcName → Option Value} {mg mb : Str → Option Value} {k : Nat} {t : Tok} {n : Nat} {td : Tok} {dp un : Nat} {gd : Option (List Code)} {cn : Str} {cs : Scope} {a : Addr} {ccd : Value} {cl : List (Str × Addr)} {outer : List Env} {A₀ : Around} {base h₀ : Heap} {L₀ : Addr} {m : Str → Option Value} {s : Shared}
    {Q E : Value → Shared → Prop} {x : Int} (TT : TreeTo w f pl R d) (hx : x = ((d : Nat) : Int)) (hR : ∀ q ∈ R, q ∈ R') (hpl : ∀ q ∈ R', q.1 ≠ pl) (hk : k + cT d ≤ 200)
    (B : Below A₀ base outer h₀) (F : Fr h₀ L₀ s.heap m) (X : (hd.heap_1 w.params).In h₀) (N : News h₀ L₀ s.heap ((pl, listOf #[.int (k : Nat) t] n) :: R')) (T : Top p loose mean mg mb h₀) (hck : cs.kind = .function) (hdp : dp + (d + 4) < 600) (hu : un + 8 * (d + 4) < 6000)
    (ret : ∀ v tr k' t2 n2 tl h' tk', k' ≤ k + cT d → Fr h₀ L₀ h' m → News h₀ L₀ h' ((pl, listOf #[.int ((k' : Nat) : Int) t2] n2) :: (R' ++ tl)) → (∀ q ∈ R' ++ tl, q.1 ≠ pl) → DIn (R' ++ tl) v tr → wf tr → tr.ht ≤ d → Q v { s with heap := h', toks := tk' }) :
    wpAny (model PySem.Challenge.rw_nn0369_01.row.prog w) (ktrTop dp un gd cn cs L₀ a ccd cl outer) (call (.ref 552) [.ref f, .int x td]) Q E s :=
  TT p loose mean mg mb R' k t n x td dp un gd cn cs a ccd cl outer A₀ base h₀ L₀ m s Q E hx hR hpl hk B F X N T hck hdp hu ret
theorem item_three {prog : Program} {w : World} {A : Around} {E : Value → Shared → Prop} {s : Shared} {h₀ : Heap} {L₀ : Addr} {news : Led} {value slice : Expr} {t : Addr} {n : Nat} {a b c : Value} {k : Int} {u : Tok} {Q : Value → Shared → Prop}
    (N : News h₀ L₀ s.heap news) (hm : (t, tupO #[a, b, c] n) ∈ news) (hk : 0 ≤ k ∧ k ≤ 2) (hs : ∀ k, subscripted slice false (.ref t) (.int k u) = operate [.ref t, .int k u] (getItem (.ref t) (.int k u)))
    (h0 : k = 0 → Q a s) (h1 : k = 1 → Q b s) (h2 : k = 2 → Q c s) : wpAny (model prog w) A (subscriptTail value slice (.ref t) (.int k u)) Q E s := by
  have : k = 0 ∨ k = 1 ∨ k = 2 := by omega
  rcases this with e | e | e
  · rw [e]; exact item_pair (vs := [a, b, c]) N hm (by decide) (by decide) rfl rfl (h0 e) (hs 0)
  · rw [e]; exact item_pair (vs := [a, b, c]) N hm (by decide) (by decide) rfl rfl (h1 e) (hs 1)
  · rw [e]; exact item_pair (vs := [a, b, c]) N hm (by decide) (by decide) rfl rfl (h2 e) (hs 2)
theorem tree_fin {R' : Led} {pl : Addr} {K d : Nat} {h₀ : Heap} {L₀ : Addr} {m : Str → Option Value} {s : Shared} {Q : Value → Shared → Prop} {h' : Heap} {X : Led} {k' : Nat} {t2 : Tok} {n2 : Nat} {v : Value} {tr : Rx} {tk' : Nat}
    (ret : ∀ v tr k' t2 n2 tl h' tk', k' ≤ K → Fr h₀ L₀ h' m → News h₀ L₀ h' ((pl, listOf #[.int ((k' : Nat) : Int) t2] n2) :: (R' ++ tl)) → (∀ q ∈ R' ++ tl, q.1 ≠ pl) → DIn (R' ++ tl) v tr → wf tr → tr.ht ≤ d → Q v { s with heap := h', toks := tk' })
    (F : Fr h₀ L₀ h' m) (N : News h₀ L₀ h' X) (hp : (pl, listOf #[.int ((k' : Nat) : Int) t2] n2) ∈ X) (hs : ∀ q ∈ R', q ∈ X) (hpl : ∀ q ∈ R', q.1 ≠ pl) (hk : k' ≤ K) (hD : DIn X v tr) (hw : wf tr) (ht : tr.ht ≤ d) : Q v { s with heap := h', toks := tk' } := by
  obtain ⟨tl, N', ne, hX⟩ := tree_close N hp rfl hs hpl
  exact ret v tr k' t2 n2 tl h' tk' hk F N' ne (hD.monoT hX) hw ht
section
section
theorem lines_23 : True := by
  k_with_none
  (k_with "ktr_room" => ((try simp only [depth_under_make, depth_under_kw, depth_in1, depth_deeper, depth_caller, recursionLimit, Rx.ht] at *); (try dsimp only [ktrTop] at *); first | exact ar_r0 (by assumption) | exact ar_r1 (by assumption) | exact ar_r2 (by assumption) | omega))
  (k_with "k_mem" => with_reducible first | assumption | exact List.mem_cons_self | (refine List.mem_cons_of_mem _ ?_; k_mem) | (refine List.mem_append.mpr (Or.inl ?_); k_mem) | (refine List.mem_append.mpr (Or.inr ?_); k_mem))
  (k_with "ktn_open" => ((k_dflt ktr_enter); (try ((with_reducible show wpAny _ _ _ _ _ _); k_fold))))
  (k_with "tb_start" => (k_dflt (refine' code_defC ?k1_182 ?k2_182 ?k3_182 ?k4_182 ?k5_182 ?kA_182 ?kF_182 ?kK_182 ?k6_182 ?k7_182 ?k8_182 ?k9_182 ?kB_182 ?kD_182 ?_ ?c2_182 ?c3_182 ?c4_182; (case kA_182 => exact rfl); (case kF_182 => exact rfl); (case kK_182 => assumption); (case k1_182 => k_asm); (case k2_182 => k_asm); (case k3_182 => k_asm); (case k4_182 => k_asm); (case k5_182 => k_asm); (case k6_182 => k_is); (case k7_182 => k_is); (case k8_182 => ktr_room); (case k9_182 => exact BindsTo.of_eq rfl); (case kB_182 => exact rfl); (case kD_182 => decide +kernel); (case c2_182 => exact rfl); (case c3_182 => exact rfl); (case c4_182 => exact rfl); k_whole; intro g' L' h' tk' cells' FG' F' N' Y' B' X' T' l1; (try k_lt l1); k_cells Y'; (try simp only [List.cons_append, List.nil_append] at N'); (try dsimp only); (try ((with_reducible show wpAny _ _ _ _ _ _); k_fold))); (try ((with_reducible show wpAny _ _ _ _ _ _); k_fold))))
  (k_with "ktr_units" => (simp only [depth_under_make, depth_under_kw, depth_in1, depth_deeper, depth_caller, recursionLimit, units_in1, units_deeper, Around.mark_units, units_caller, cLine, Rx.ht] at *; (try dsimp only [ktrTop] at *); first | exact ar_r0 (by assumption) | exact ar_r1 (by assumption) | exact ar_r2 (by assumption) | exact ar_d (by assumption) (by decide) | exact ar_b (by assumption) (by decide) | exact ar_l (by assumption) (by decide) | exact ar_m (by assumption) (by decide) | exact ar_u (by assumption) (by decide) | exact ar_ub (by assumption) (by decide) | exact ar_ul (by assumption) (by decide) | exact ar_um (by assumption) (by decide) | exact ar_c (by assumption) | omega))
  (k_with "ktd_rel" => first | assumption | exact NIn.mono (by assumption) (by ktd_sub) | exact TIn.mono (by assumption) (by ktd_sub) | exact CIn.mono (by assumption) (by ktd_sub) | exact DIn.mono (by assumption) (by ktd_sub))
  (k_with "tell 1" => (refine' tell_use ?tlC ?tlB ?tlF ?tlX ?tlN ?tlT ?tlhk ?tlhd ?tlhu ?_; (case tlB => k_asm); (case tlF => k_asm); (case tlX => k_asm); (case tlT => k_asm); (case tlN => k_asm)))
  (k_with "tell 2" => ((case tlhk => first | exact rfl | assumption); (case tlhd => ktr_units); (case tlhu => ktr_units); k_whole))
  (k_with "ite" => with_reducible (first | apply ite_ff9 | apply ite_tt9))
  (k_with "k_room" => ktr_units)
  (k_with "ktd_sub" => first | exact fun _ h => h | (intro p9 h9; (try simp only [List.mem_append, List.mem_cons] at h9 ⊢); (repeat' (first | (simp only [h9, true_or, or_true]; done) | ((with_reducible refine Or.elim h9 ?_ ?_) <;> (clear h9; intro h9))))))
  (k_with "k_steps" => ((try ((with_reducible show wpAny _ _ _ _ _ _); k_fold)); repeat' (first | ((with_reducible show wpAny _ _ (exec _ _) _ _ _); k_fold) | (k_unfold; (try dsimp only)) | (k_end; wrow_close) | walk1 | (dsimp only; walk1) | (leave1; walk_say "STEP leave1"; try dsimp only) | fail "no step")))
  (k_with "k_handed" => first | exact NIn.handed (by assumption) | exact SpIn.handed (by assumption))
  (k_with "subscriptTail" => (k_here; (with_reducible show wpAny _ _ (subscriptTail _ _ (Value.ref _) (Value.int _ _)) _ _ _); k_dflt (refine' item_pair ?N_192 ?m_192 ?lo_192 ?hi_192 ?j_192 ?x_192 ?_ ?s_192; (case N_192 => k_asm); (case m_192 => k_mem); (case lo_192 => decide); (case hi_192 => decide); (case j_192 => exact rfl); (case x_192 => exact rfl); (case s_192 => with_unfolding_all rfl); k_whole)))
  (k_with "kqd_sub" => first | assumption | exact sub_app (by assumption) | exact sub_app (sub_app (by assumption)))
  (k_with "kqd_all" => first | assumption | omega | (simp only [cT] at *; omega))
  (k_with "call ref" => (k_here; (with_reducible show wpAny _ _ (call (Value.ref _) [Value.int _ _]) _ _ _); (with_reducible rename TakeSpec _ _ _ _ => TK9); k_dflt (first
    | (refine' take_use TK9 9 ?x_195 ?sub_195 ?ne_195 ?k_195 ?l1_195 ?l2_195 ?B_195 ?F_195 ?X_195 ?N_195 ?T_195 ?hk_195 ?hd_195 ?hu_195 ?_; (case x_195 => (show (9 : Int) = _; rfl)))
    | (refine' take_use TK9 6 ?x_195 ?sub_195 ?ne_195 ?k_195 ?l1_195 ?l2_195 ?B_195 ?F_195 ?X_195 ?N_195 ?T_195 ?hk_195 ?hd_195 ?hu_195 ?_; (case x_195 => (show (6 : Int) = _; rfl)))
    | (refine' take_use TK9 4 ?x_195 ?sub_195 ?ne_195 ?k_195 ?l1_195 ?l2_195 ?B_195 ?F_195 ?X_195 ?N_195 ?T_195 ?hk_195 ?hd_195 ?hu_195 ?_; (case x_195 => (show (4 : Int) = _; rfl)))
    | (refine' take_use TK9 3 ?x_195 ?sub_195 ?ne_195 ?k_195 ?l1_195 ?l2_195 ?B_195 ?F_195 ?X_195 ?N_195 ?T_195 ?hk_195 ?hd_195 ?hu_195 ?_; (case x_195 => (show (3 : Int) = _; rfl)))
    | (refine' take_use TK9 2 ?x_195 ?sub_195 ?ne_195 ?k_195 ?l1_195 ?l2_195 ?B_195 ?F_195 ?X_195 ?N_195 ?T_195 ?hk_195 ?hd_195 ?hu_195 ?_; (case x_195 => (show (2 : Int) = _; rfl)))); k_dflt ((case l1_195 => decide); (case l2_195 => decide); (case N_195 => k_asm); (case sub_195 => kqd_sub); (case B_195 => k_asm); (case F_195 => k_asm); (case X_195 => k_asm); (case T_195 => k_asm); (case ne_195 => assumption); (case k_195 => kqd_all); (case hk_195 => first | exact rfl | assumption); (case hd_195 => ktr_units); (case hu_195 => ktr_units); k_whole); intro r9 t9 u9 n9 h9 tk9 hr9 F9 N9))
  (k_with "call ref" => (k_here; (with_reducible show wpAny _ _ (call (Value.ref 552) _) _ _ _); (with_reducible rename TreeTo _ _ _ _ _ => TT9); k_dflt (refine' tree_use TT9 ?x_196 ?sub_196 ?ne_196 ?k_196 ?B_196 ?F_196 ?X_196 ?N_196 ?T_196 ?hk_196 ?hd_196 ?hu_196 ?_; (case x_196 => omega); (case N_196 => k_asm); (case sub_196 => kqd_sub); (case B_196 => k_asm); (case F_196 => k_asm); (case X_196 => k_asm); (case T_196 => k_asm); (case ne_196 => assumption); (case k_196 => kqd_all); (case hk_196 => first | exact rfl | assumption); (case hd_196 => ktr_units); (case hu_196 => ktr_units); k_whole); intro v9 tr9 k9 t9 n9 tl9 h9 tk9 hk9 F9 N9 ne9 D9 w9 ht9))
  (k_with "callWith ref" => (k_here; (with_reducible show wpAny _ _ (callWith _ (Value.ref _) _ _ _) _ _ _); k_dflt (refine' callWith_M ?m1_197 ?N1_197 ?s1_197 ?_; (case m1_197 => (with_reducible assumption)); (case N1_197 => k_asm); (case s1_197 => ktd_sub); k_whole)))
  (k_with "subscriptTail" => (k_here; (with_reducible show wpAny _ _ (subscriptTail _ (PySem.Expr.BinOp _ _ _ _) (Value.ref _) (Value.int _ _)) _ _ _); k_dflt (refine' item_three ?N_198 ?m_198 ?i_198 ?s_198 ?_ ?_ ?_; (case N_198 => k_asm); (case m_198 => k_mem); (case i_198 => omega); (case s_198 => (intro _; with_unfolding_all rfl))) <;> intro hi9))
  trivial
set_option maxHeartbeats 16000000 in
theorem tree_0 (w : World) (f pl : Addr) (R : Led) (hfn : FnIn R f) (TK : TakeSpec w f pl R) : TreeTo w f pl R 0 := by
  unfold TreeTo
  w_top off
  k_fill
  intro p loose mean mg mb R' k t n i td dp un gd cn cs a ccd cl outer A₀ base h₀ L₀ m s Q E hi hR hpl hk B F X N T hck hd9 hu ret
  subst hi
  simp only [cT] at hk ret
  obtain ⟨foc, fod, ffd, fsl, rf⟩ := hfn
  have rf := hR _ rf
  refine wpAny_call ?_
  ktn_open
  rename Fr _ _ _ (fun y => List.lookup _ _) => F0
  have F1 : Fr _ _ _ (fun y => List.lookup y [(Str.ofString "depth", Value.int ((0 : Nat) : Int) td), (Str.ofString "take", Value.ref f)]) := F0
  clear F0
  k_steps
  all_goals first
    | exact tree_fin (tr := .chr .a) ret (by k_asm) (by k_asm) (by k_mem) (by ktd_sub) (by assumption) (by first | omega | (simp only [cT]; omega)) DIn.sa trivial (Nat.zero_le _)
    | exact tree_fin (tr := .chr .b) ret (by k_asm) (by k_asm) (by k_mem) (by ktd_sub) (by assumption) (by first | omega | (simp only [cT]; omega)) DIn.sb trivial (Nat.zero_le _)
    | exact tree_fin (tr := .chr .ab) ret (by k_asm) (by k_asm) (by k_mem) (by ktd_sub) (by assumption) (by first | omega | (simp only [cT]; omega)) DIn.sab trivial (Nat.zero_le _)
    | exact tree_fin (tr := .empty) ret (by k_asm) (by k_asm) (by k_mem) (by ktd_sub) (by assumption) (by first | omega | (simp only [cT]; omega)) DIn.e0 trivial (Nat.zero_le _)
    | exact tree_fin (tr := .never) ret (by k_asm) (by k_asm) (by k_mem) (by ktd_sub) (by assumption) (by first | omega | (simp only [cT]; omega)) DIn.n0 trivial (Nat.zero_le _)
    | exact tree_fin (tr := .chr .b) ret (by k_asm) (by k_asm) (by k_mem) (by ktd_sub) (by assumption) (by first | omega | (simp only [cT]; omega)) DIn.sb2 trivial (Nat.zero_le _)
set_option maxHeartbeats 16000000 in
theorem tree_s (w : World) (f pl : Addr) (R : Led) (hfn : FnIn R f) (TK : TakeSpec w f pl R) (d : Nat) (hd2 : d ≤ 3) (IH : TreeTo w f pl R d) : TreeTo w f pl R (d + 1) := by
  unfold TreeTo
  w_top off
  k_fill
  intro p loose mean mg mb R' k t n i td dp un gd cn cs a ccd cl outer A₀ base h₀ L₀ m s Q E hi hR hpl hk B F X N T hck hd9 hu ret
  simp only [cT] at hk ret
  obtain ⟨foc, fod, ffd, fsl, rf⟩ := hfn
  have rf := hR _ rf
  refine wpAny_call ?_
  ktn_open
  rename Fr _ _ _ (fun y => List.lookup _ _) => F0
  have F1 : Fr _ _ _ (fun y => List.lookup y [(Str.ofString "depth", Value.int i td), (Str.ofString "take", Value.ref f)]) := F0
  clear F0
  k_steps
  all_goals first
    | exact tree_fin (tr := .chr .a) ret (by k_asm) (by k_asm) (by k_mem) (by ktd_sub) (by assumption) (by first | omega | (simp only [cT]; omega)) DIn.sa trivial (Nat.zero_le _)
    | exact tree_fin (tr := .chr .b) ret (by k_asm) (by k_asm) (by k_mem) (by ktd_sub) (by assumption) (by first | omega | (simp only [cT]; omega)) DIn.sb trivial (Nat.zero_le _)
    | exact tree_fin (tr := .chr .ab) ret (by k_asm) (by k_asm) (by k_mem) (by ktd_sub) (by assumption) (by first | omega | (simp only [cT]; omega)) DIn.sab trivial (Nat.zero_le _)
    | exact tree_fin (tr := .empty) ret (by k_asm) (by k_asm) (by k_mem) (by ktd_sub) (by assumption) (by first | omega | (simp only [cT]; omega)) DIn.e0 trivial (Nat.zero_le _)
    | exact tree_fin (tr := .never) ret (by k_asm) (by k_asm) (by k_mem) (by ktd_sub) (by assumption) (by first | omega | (simp only [cT]; omega)) DIn.n0 trivial (Nat.zero_le _)
    | exact tree_fin (tr := .chr .b) ret (by k_asm) (by k_asm) (by k_mem) (by ktd_sub) (by assumption) (by first | omega | (simp only [cT]; omega)) DIn.sb2 trivial (Nat.zero_le _)
    | (refine tree_fin ret (by k_asm) (by k_asm) (by k_mem) (by ktd_sub) (by assumption) (by first | omega | (simp only [cT]; omega)) (DIn.cat (by k_mem) (DIn.mono (by assumption) (by ktd_sub)) (DIn.mono (by assumption) (by ktd_sub))) ?_ ?_; (simp only [wf]; exact ⟨by assumption, by assumption⟩); (simp only [Rx.ht]; omega))
    | (refine tree_fin ret (by k_asm) (by k_asm) (by k_mem) (by ktd_sub) (by assumption) (by first | omega | (simp only [cT]; omega)) (DIn.alt (by k_mem) (DIn.mono (by assumption) (by ktd_sub)) (DIn.mono (by assumption) (by ktd_sub))) ?_ ?_; (simp only [wf]; exact ⟨by assumption, by assumption⟩); (simp only [Rx.ht]; omega))
    | (refine tree_fin ret (by k_asm) (by k_asm) (by k_mem) (by ktd_sub) (by assumption) (by first | omega | (simp only [cT]; omega)) (DIn.star (by k_mem) (DIn.mono (by assumption) (by ktd_sub))) ?_ ?_; (simp only [wf]; assumption); (simp only [Rx.ht]; omega))
    | (refine tree_fin ret (by k_asm) (by k_asm) (by k_mem) (by ktd_sub) (by assumption) (by first | omega | (simp only [cT]; omega)) (DIn.plus (by k_mem) (DIn.mono (by assumption) (by ktd_sub))) ?_ ?_; (simp only [wf]; assumption); (simp only [Rx.ht]; omega))
    | (refine tree_fin ret (by k_asm) (by k_asm) (by k_mem) (by ktd_sub) (by assumption) (by first | omega | (simp only [cT]; omega)) (DIn.opt (by k_mem) (DIn.mono (by assumption) (by ktd_sub))) ?_ ?_; (simp only [wf]; assumption); (simp only [Rx.ht]; omega))
    | (refine tree_fin ret (by k_asm) (by k_asm) (by k_mem) (by ktd_sub) (by assumption) (by first | omega | (simp only [cT]; omega)) (DIn.repN (by k_mem) (DIn.mono (by assumption) (by ktd_sub))) ?_ ?_; (simp only [wf]; exact ⟨by assumption, by omega, fun _ e => by cases e⟩); (simp only [Rx.ht]; omega))
    | (rename News _ _ _ _ => N6; rw [← Int.natCast_add] at N6; refine tree_fin ret (by k_asm) N6 (by k_mem) (by ktd_sub) (by assumption) (by first | omega | (simp only [cT]; omega)) (DIn.rep (by k_mem) (DIn.mono (by assumption) (by ktd_sub))) ?_ ?_; (simp only [wf]; exact ⟨by assumption, by omega, fun h e => by injection e with e; omega⟩); (simp only [Rx.ht]; omega))
end
section
theorem lines_24 : True := by
  k_with_none
  (k_with "ktr_room" => ((try simp only [depth_under_make, depth_under_kw, depth_in1, depth_deeper, depth_caller, recursionLimit, Rx.ht] at *); (try dsimp only [ktrTop] at *); first | exact ar_r0 (by assumption) | exact ar_r1 (by assumption) | exact ar_r2 (by assumption) | omega))
  (k_with "k_mem" => with_reducible first | assumption | exact List.mem_cons_self | (refine List.mem_cons_of_mem _ ?_; k_mem) | (refine List.mem_append.mpr (Or.inl ?_); k_mem) | (refine List.mem_append.mpr (Or.inr ?_); k_mem))
  (k_with "ktn_open" => ((k_dflt ktr_enter); (try ((with_reducible show wpAny _ _ _ _ _ _); k_fold))))
  (k_with "tb_start" => (k_dflt (refine' code_defC ?k1_202 ?k2_202 ?k3_202 ?k4_202 ?k5_202 ?kA_202 ?kF_202 ?kK_202 ?k6_202 ?k7_202 ?k8_202 ?k9_202 ?kB_202 ?kD_202 ?_ ?c2_202 ?c3_202 ?c4_202; (case kA_202 => exact rfl); (case kF_202 => exact rfl); (case kK_202 => assumption); (case k1_202 => k_asm); (case k2_202 => k_asm); (case k3_202 => k_asm); (case k4_202 => k_asm); (case k5_202 => k_asm); (case k6_202 => k_is); (case k7_202 => k_is); (case k8_202 => ktr_room); (case k9_202 => exact BindsTo.of_eq rfl); (case kB_202 => exact rfl); (case kD_202 => decide +kernel); (case c2_202 => exact rfl); (case c3_202 => exact rfl); (case c4_202 => exact rfl); k_whole; intro g' L' h' tk' cells' FG' F' N' Y' B' X' T' l1; (try k_lt l1); k_cells Y'; (try simp only [List.cons_append, List.nil_append] at N'); (try dsimp only); (try ((with_reducible show wpAny _ _ _ _ _ _); k_fold))); (try ((with_reducible show wpAny _ _ _ _ _ _); k_fold))))
  (k_with "ktr_units" => (simp only [depth_under_make, depth_under_kw, depth_in1, depth_deeper, depth_caller, recursionLimit, units_in1, units_deeper, Around.mark_units, units_caller, cLine, Rx.ht] at *; (try dsimp only [ktrTop] at *); first | exact ar_r0 (by assumption) | exact ar_r1 (by assumption) | exact ar_r2 (by assumption) | exact ar_d (by assumption) (by decide) | exact ar_b (by assumption) (by decide) | exact ar_l (by assumption) (by decide) | exact ar_m (by assumption) (by decide) | exact ar_u (by assumption) (by decide) | exact ar_ub (by assumption) (by decide) | exact ar_ul (by assumption) (by decide) | exact ar_um (by assumption) (by decide) | exact ar_c (by assumption) | omega))
  (k_with "ktd_rel" => first | assumption | exact NIn.mono (by assumption) (by ktd_sub) | exact TIn.mono (by assumption) (by ktd_sub) | exact CIn.mono (by assumption) (by ktd_sub) | exact DIn.mono (by assumption) (by ktd_sub))
  (k_with "tell 1" => (refine' tell_use ?tlC ?tlB ?tlF ?tlX ?tlN ?tlT ?tlhk ?tlhd ?tlhu ?_; (case tlB => k_asm); (case tlF => k_asm); (case tlX => k_asm); (case tlT => k_asm); (case tlN => k_asm)))
  (k_with "tell 2" => ((case tlhk => first | exact rfl | assumption); (case tlhd => ktr_units); (case tlhu => ktr_units); k_whole))
  (k_with "ite" => with_reducible (first | apply ite_ff9 | apply ite_tt9))
  (k_with "k_room" => ktr_units)
  (k_with "ktd_sub" => first | exact fun _ h => h | (intro p9 h9; (try simp only [List.mem_append, List.mem_cons] at h9 ⊢); (repeat' (first | (simp only [h9, true_or, or_true]; done) | ((with_reducible refine Or.elim h9 ?_ ?_) <;> (clear h9; intro h9))))))
  (k_with "k_steps" => ((try ((with_reducible show wpAny _ _ _ _ _ _); k_fold)); repeat' (first | ((with_reducible show wpAny _ _ (exec _ _) _ _ _); k_fold) | (k_unfold; (try dsimp only)) | (k_end; wrow_close) | walk1 | (dsimp only; walk1) | (leave1; walk_say "STEP leave1"; try dsimp only) | fail "no step")))
  (k_with "k_handed" => first | exact NIn.handed (by assumption) | exact SpIn.handed (by assumption))
  (k_with "subscriptTail" => (k_here; (with_reducible show wpAny _ _ (subscriptTail _ _ (Value.ref _) (Value.int _ _)) _ _ _); k_dflt (refine' item_pair ?N_212 ?m_212 ?lo_212 ?hi_212 ?j_212 ?x_212 ?_ ?s_212; (case N_212 => k_asm); (case m_212 => k_mem); (case lo_212 => decide); (case hi_212 => decide); (case j_212 => exact rfl); (case x_212 => exact rfl); (case s_212 => with_unfolding_all rfl); k_whole)))
  (k_with "call ref" => (k_here; (with_reducible show wpAny _ _ (call (Value.ref 524) _) _ _ _); ktf_call (we_spec _ _ _ _ _ _ 21 (Nat.le_refl _) _ _ _ (by ktd_rel) (by assumption) (by omega))))
  trivial
theorem cbe_b (w : World) (p : Program) (loose : List Str) (mean : ExcName → Option Value) (mg mb : Str → Option Value) {news : Led} {v : Value} {t : Rx} {b : Bool} (R : NIn news v t) (hh : t.ht < 21) (e : cbe t = b) : Tell w p loose mean mg mb 517 [v] news (t.ht + 4) (fun r _ => r = .bool b) := by
  subst e
  exact cbe_spec w p loose mean mg mb 21 (Nat.le_refl _) t news v R hh
theorem in_b {prog : Program} {w : World} {A : Around} {E : Value → Shared → Prop} {s : Shared} {h₀ : Heap} {L₀ a : Addr} {news : Led} {n : Nat} {vs : List Value} {ws : List Str} {x : Str} {t : Tok} {b : Bool} {Q : Value → Shared → Prop} (N : News h₀ L₀ s.heap news) (m1 : (a, listOf (List.toArray vs) n) ∈ news) (S : StrsAre vs ws) (e : ws.any (· == x) = b) (h : Q (.bool b) s) :
    wpAny (model prog w) A (compareOp .In (.str x t) (.ref a)) Q E s := in_list_strs (News.isList N m1) S (by rw [e]; exact h)
theorem notin_b {prog : Program} {w : World} {A : Around} {E : Value → Shared → Prop} {s : Shared} {h₀ : Heap} {L₀ a : Addr} {news : Led} {n : Nat} {vs : List Value} {ws : List Str} {x : Str} {t : Tok} {b : Bool} {Q : Value → Shared → Prop} (N : News h₀ L₀ s.heap news) (m1 : (a, listOf (List.toArray vs) n) ∈ news) (S : StrsAre vs ws) (e : ws.any (· == x) = b) (h : Q (.bool (!b)) s) :
    wpAny (model prog w) A (compareOp .NotIn (.str x t) (.ref a)) Q E s := notin_list_strs (News.isList N m1) S (by rw [e]; exact h)
theorem any_cbe {t : Rx} {ws : List Str} {b : Bool} (W1 : W (L t) ws) (hw : wf t) (e : cbe t = b) : ws.any (· == Str.ofString "") = b := by
  rw [se_of]
  cases b with
  | true => exact any_mem.mpr ((W1.2 SE).mpr ⟨(cbe_L t hw).mp e, Nat.zero_le _⟩)
  | false => exact any_not.mpr fun h => by rw [(cbe_L t hw).mpr ((W1.2 SE).mp h).1] at e; cases e
theorem W_full {t : Rx} {ws : List Str} (W1 : W (L t) ws) (hw : wf t) : W (L (we t)) (freshL ws [Str.ofString ""]) := (W_fresh W1 W_se').congr fun x _ => (we_L t hw x).symm
theorem W_cat {t u : Rx} {ws us : List Str} (W1 : W (L t) ws) (W2 : W (L u) us) : W (L (.cat t u)) (rowsL ws us) := W_rows W1 W2
theorem matched_00 (w : World) (p : Program) (loose : List Str) (mean : ExcName → Option Value) (mg mb : Str → Option Value) (news : Led) {a d : Addr} {n : Nat} {h1 h2 h3 : Int} {t1 t2 t3 : Tok} {bv gv : Value} {t : Rx} (m1 : (a, instObj 506 d) ∈ news) (m2 : (d, dictOf [⟨h1, .str (Str.ofString "body") t1, bv⟩, ⟨h2, .str (Str.ofString "begins") t2, gv⟩, ⟨h3, .str (Str.ofString "trail") t3, .none⟩] n) ∈ news)
    (R : NIn news bv t) (hw : wf t) (hh : t.ht < 21) : Tell w p loose mean mg mb 531 [.ref a] news (t.ht + 10) (fun r nw => NIn nw r (we t)) := by
  unfold Tell
  w_top off
  k_fill
  intro dp un gd cn cs a ccd cl outer A₀ base h₀ L₀ m s Q E B F X N T hk hdp hu hret
  refine wpAny_call ?_
  have hfin := fin_all (news := news) (Post := fun r nw => NIn nw r (we t)) hret
  ktn_open
  k_steps
  refine hfin _ _ _ _ (by k_asm) (by k_asm) (by ktd_sub) ?_
  intro Y hY
  exact NIn.mono (by assumption) (subs_trans (by ktd_sub) hY)
theorem matched_11 (w : World) (p : Program) (loose : List Str) (mean : ExcName → Option Value) (mg mb : Str → Option Value) (news : Led) {a d tv : Addr} {n : Nat} {h1 h2 h3 : Int} {t1 t2 t3 : Tok} {bv gv : Value} {t u : Rx} (m1 : (a, instObj 506 d) ∈ news) (m2 : (d, dictOf [⟨h1, .str (Str.ofString "body") t1, bv⟩, ⟨h2, .str (Str.ofString "begins") t2, gv⟩, ⟨h3, .str (Str.ofString "trail") t3, .ref tv⟩] n) ∈ news)
    (R : NIn news bv t) (hw : wf t) (hh : t.ht < 21) (R2 : NIn news (.ref tv) u) : Tell w p loose mean mg mb 531 [.ref a] news (t.ht + 10) (fun r nw => NIn nw r (.cat (we t) u)) := by
  unfold Tell
  w_top off
  k_fill
  intro dp un gd cn cs a ccd cl outer A₀ base h₀ L₀ m s Q E B F X N T hk hdp hu hret
  refine wpAny_call ?_
  have hfin := fin_all (news := news) (Post := fun r nw => NIn nw r (.cat (we t) u)) hret
  ktn_open
  k_steps
  refine hfin _ _ _ _ (by k_asm) (by k_asm) (by ktd_sub) ?_
  intro Y hY
  exact NIn.cat (hY _ (by k_mem)) (hY _ (by k_mem)) (NIn.mono (by assumption) (subs_trans (by ktd_sub) hY)) (NIn.mono R2 (subs_trans (by ktd_sub) hY))
theorem CIn.isRef {nw : Led} {v : Value} {t : Rx} (R : CIn nw v t) : ∃ a, v = .ref a := by
  cases R <;> exact ⟨_, rfl⟩
theorem we_f (w : World) (p : Program) (loose : List Str) (mean : ExcName → Option Value) (mg mb : Str → Option Value) {news : Led} {v : Value} {t : Rx} (R : NIn news v t) (hw : wf t) (hh : t.ht < 21) (e : cbe t = false) : Tell w p loose mean mg mb 524 [v] news (t.ht + 6) (fun r nw => NIn nw r t) := by
  have := we_spec w p loose mean mg mb 21 (Nat.le_refl _) t news v R hw hh
  rwa [we_neg e] at this
theorem DIn.isRef {nw : Led} {v : Value} {t : Rx} (R : DIn nw v t) : ∃ a, v = .ref a := by
  cases R <;> exact ⟨_, rfl⟩
/-- a pattern -/
def PatIn (nw : Led) (r bv tv : Value) : Prop := ∃ a d n h1 h2 h3 t1 t2 t3 gv, r = .ref a ∧ (a, instObj 506 d) ∈ nw ∧ (d, dictOf [⟨h1, .str (Str.ofString "body") t1, bv⟩, ⟨h2, .str (Str.ofString "begins") t2, gv⟩, ⟨h3, .str (Str.ofString "trail") t3, tv⟩] n) ∈ nw
theorem PatIn.mono {nw nw' : Led} {r bv tv : Value} (h : PatIn nw r bv tv) (hs : ∀ p ∈ nw, p ∈ nw') : PatIn nw' r bv tv := by
  obtain ⟨a, d, n, h1, h2, h3, t1, t2, t3, gv, e, m1, m2⟩ := h
  exact ⟨a, d, n, h1, h2, h3, t1, t2, t3, gv, e, hs _ m1, hs _ m2⟩
theorem PatIn.isRef {nw : Led} {r bv tv : Value} (h : PatIn nw r bv tv) : ∃ a, r = .ref a := by
  obtain ⟨a, d, n, h1, h2, h3, t1, t2, t3, gv, e, m1, m2⟩ := h
  exact ⟨a, e⟩
theorem mkpat (w : World) (p : Program) (loose : List Str) (mean : ExcName → Option Value) (mg mb : Str → Option Value) (news : Led) (bv gv tv : Value) :
    Tell w p loose mean mg mb 506 [bv, gv, tv] news 6 (fun r nw => PatIn nw r bv tv) := by
  unfold Tell
  w_top off
  k_fill
  intro dp un gd cn cs a ccd cl outer A₀ base h₀ L m s Q E B F X N T hk hdp hu hret
  have hfin := fin_all (news := news) (Post := fun r nw => PatIn nw r bv tv) hret
  k_dflt (refine' call_cls ?k1 ?k2 ?k3 ?k4 ?k5 ?k6 ?_; (case k1 => k_asm); (case k2 => k_asm); (case k3 => k_asm); (case k4 => k_is); (case k5 => k_is); (case k6 => k_is); k_whole; intro x' d' h' F' N' l1 l2; (try k_lt l1); (try k_lt2 l2); (try k_sweep))
  ktn_open
  k_steps
  refine hfin _ _ _ _ (by k_asm) (by k_asm) (by ktd_sub) ?_
  intro Y hY
  exact ⟨_, _, _, _, _, _, _, _, _, _, rfl, hY _ (by k_mem), hY _ (by k_mem)⟩
theorem matched_0 (w : World) (p : Program) (loose : List Str) (mean : ExcName → Option Value) (mg mb : Str → Option Value) (news : Led) {v bv : Value} {t : Rx} (P : PatIn news v bv .none)
    (R : NIn news bv t) (hw : wf t) (hh : t.ht < 21) : Tell w p loose mean mg mb 531 [v] news (t.ht + 10) (fun r nw => NIn nw r (we t)) := by
  obtain ⟨a, d, n, h1, h2, h3, t1, t2, t3, gv, e, m1, m2⟩ := P
  subst e
  exact matched_00 w p loose mean mg mb news m1 m2 R hw hh
theorem matched_1 (w : World) (p : Program) (loose : List Str) (mean : ExcName → Option Value) (mg mb : Str → Option Value) (news : Led) {v bv : Value} {tv : Addr} {t u : Rx} (P : PatIn news v bv (.ref tv))
    (R : NIn news bv t) (hw : wf t) (hh : t.ht < 21) (R2 : NIn news (.ref tv) u) : Tell w p loose mean mg mb 531 [v] news (t.ht + 10) (fun r nw => NIn nw r (.cat (we t) u)) := by
  obtain ⟨a, d, n, h1, h2, h3, t1, t2, t3, gv, e, m1, m2⟩ := P
  subst e
  exact matched_11 w p loose mean mg mb news m1 m2 R hw hh R2
end
end
section
theorem lines_25 : True := by
  k_with_none
  (k_with "ktr_room" => ((try simp only [depth_under_make, depth_under_kw, depth_in1, depth_deeper, depth_caller, recursionLimit, Rx.ht] at *); (try dsimp only [ktrTop] at *); first | exact ar_r0 (by assumption) | exact ar_r1 (by assumption) | exact ar_r2 (by assumption) | omega))
  (k_with "k_mem" => with_reducible first | assumption | exact List.mem_cons_self | (refine List.mem_cons_of_mem _ ?_; k_mem) | (refine List.mem_append.mpr (Or.inl ?_); k_mem) | (refine List.mem_append.mpr (Or.inr ?_); k_mem))
  (k_with "ktn_open" => ((k_dflt ktr_enter); (try ((with_reducible show wpAny _ _ _ _ _ _); k_fold))))
  (k_with "tb_start" => (k_dflt (refine' code_defC ?k1_217 ?k2_217 ?k3_217 ?k4_217 ?k5_217 ?kA_217 ?kF_217 ?kK_217 ?k6_217 ?k7_217 ?k8_217 ?k9_217 ?kB_217 ?kD_217 ?_ ?c2_217 ?c3_217 ?c4_217; (case kA_217 => exact rfl); (case kF_217 => exact rfl); (case kK_217 => assumption); (case k1_217 => k_asm); (case k2_217 => k_asm); (case k3_217 => k_asm); (case k4_217 => k_asm); (case k5_217 => k_asm); (case k6_217 => k_is); (case k7_217 => k_is); (case k8_217 => ktr_room); (case k9_217 => exact BindsTo.of_eq rfl); (case kB_217 => exact rfl); (case kD_217 => decide +kernel); (case c2_217 => exact rfl); (case c3_217 => exact rfl); (case c4_217 => exact rfl); k_whole; intro g' L' h' tk' cells' FG' F' N' Y' B' X' T' l1; (try k_lt l1); k_cells Y'; (try simp only [List.cons_append, List.nil_append] at N'); (try dsimp only); (try ((with_reducible show wpAny _ _ _ _ _ _); k_fold))); (try ((with_reducible show wpAny _ _ _ _ _ _); k_fold))))
  (k_with "ktr_units" => (simp only [depth_under_make, depth_under_kw, depth_in1, depth_deeper, depth_caller, recursionLimit, units_in1, units_deeper, Around.mark_units, units_caller, cLine, Rx.ht] at *; (try dsimp only [ktrTop] at *); first | exact ar_r0 (by assumption) | exact ar_r1 (by assumption) | exact ar_r2 (by assumption) | exact ar_d (by assumption) (by decide) | exact ar_b (by assumption) (by decide) | exact ar_l (by assumption) (by decide) | exact ar_m (by assumption) (by decide) | exact ar_u (by assumption) (by decide) | exact ar_ub (by assumption) (by decide) | exact ar_ul (by assumption) (by decide) | exact ar_um (by assumption) (by decide) | exact ar_c (by assumption) | omega))
  (k_with "ktd_rel" => first | assumption | exact NIn.mono (by assumption) (by ktd_sub) | exact TIn.mono (by assumption) (by ktd_sub) | exact CIn.mono (by assumption) (by ktd_sub) | exact DIn.mono (by assumption) (by ktd_sub))
  (k_with "tell 1" => (refine' tell_use ?tlC ?tlB ?tlF ?tlX ?tlN ?tlT ?tlhk ?tlhd ?tlhu ?_; (case tlB => k_asm); (case tlF => k_asm); (case tlX => k_asm); (case tlT => k_asm); (case tlN => k_asm)))
  (k_with "tell 2" => ((case tlhk => first | exact rfl | assumption); (case tlhd => ktr_units); (case tlhu => ktr_units); k_whole))
  (k_with "ite" => with_reducible (first | apply ite_ff9 | apply ite_tt9))
  (k_with "k_room" => ktr_units)
  (k_with "ktd_sub" => first | exact fun _ h => h | (intro p9 h9; (try simp only [List.mem_append, List.mem_cons] at h9 ⊢); (repeat' (first | (simp only [h9, true_or, or_true]; done) | ((with_reducible refine Or.elim h9 ?_ ?_) <;> (clear h9; intro h9))))))
  (k_with "k_steps" => ((try ((with_reducible show wpAny _ _ _ _ _ _); k_fold)); repeat' (first | ((with_reducible show wpAny _ _ (exec _ _) _ _ _); k_fold) | (k_unfold; (try dsimp only)) | (k_end; wrow_close) | walk1 | (dsimp only; walk1) | (leave1; walk_say "STEP leave1"; try dsimp only) | fail "no step")))
  (k_with "k_handed" => first | exact NIn.handed (by assumption) | exact SpIn.handed (by assumption))
  (k_with "binaryOp FloorDiv int int" => (k_here; (with_reducible show wpAny _ _ (binaryOp _ (Value.int _ _) (Value.int _ _)) _ _ _); k_dflt (first
    | (refine' t_fl2 ?a_227 ?b_227 ?_; (case a_227 => assumption); (case b_227 => assumption)) | (refine' t_fl1 ?a_227 ?b_227 ?c_227 ?_; (case a_227 => omega); (case b_227 => omega); (case c_227 => omega))); intros))
  (k_with "binaryOp Mod int int" => (k_here; (with_reducible show wpAny _ _ (binaryOp _ (Value.int _ _) (Value.int _ _)) _ _ _); k_dflt (refine' t_mod ?a_228 ?_; (case a_228 => omega)); intros))
  (k_with "binaryOp Pow int int" => (k_here; (with_reducible show wpAny _ _ (binaryOp _ (Value.int _ _) (Value.int _ _)) _ _ _); k_dflt (refine' t_pow ?a_229 ?b_229 ?_; (case a_229 => omega); (case b_229 => omega)); intros))
  (k_with "binaryOp Mult int int" => (k_here; (with_reducible show wpAny _ _ (binaryOp _ (Value.int _ _) (Value.int _ _)) _ _ _); k_dflt (refine' t_mul ?a_230 ?b_230 ?c_230 ?d_230 ?_; (case a_230 => omega); (case b_230 => omega); (case c_230 => omega); (case d_230 => omega)); intros))
  (k_with "call builtin:len" => (k_here; (with_reducible show wpAny _ _ (call (Value.builtin "len") [Value.ref _]) _ _ _); k_dflt (refine' t_len ?N_231 ?a_231 ?b_231 ?_; (case N_231 => k_asm); (case a_231 => k_mem); (case b_231 => omega)); intros))
  (k_with "subscriptTail" => (k_here; (with_reducible show wpAny _ _ (subscriptTail _ _ (Value.ref _) (Value.int _ _)) _ _ _); k_dflt (refine' t_item ?N_232 ?a_232 ?i_232 ?b_232 ?c_232 ?d_232 ?_ ?s_232; (case N_232 => k_asm); (case a_232 => k_mem); (case i_232 => assumption); (case b_232 => omega); (case c_232 => omega); (case d_232 => omega); (case s_232 => with_unfolding_all rfl)); intros))
  (k_with "subscriptTail" => (k_here; (with_reducible show wpAny _ _ (subscriptTail _ _ (Value.ref _) (Value.int 0 _)) _ _ _); (with_unfolding_all refine' item_litK ?k1_233 ?k2_233 ?k3_233 ?k4_233 ?_ ?k6_233; (case k1_233 => exact News.isList (by k_asm) (by k_mem)); (case k2_233 => decide); (case k3_233 => decide); (case k4_233 => rfl); (case k6_233 => with_unfolding_all rfl); k_whole)))
  (k_with "eval Name" => (k_here; (with_reducible show wpAny _ _ (eval (PySem.Expr.Name _ _) (envX _ _ _ _ _ _)) _ _ _); k_dflt (refine' nameX_F ?N_234 ?c_234 ?m_234 ?d_234 ?_ ?a_234 ?b_234; (case a_234 => rfl); (case b_234 => rfl); (case N_234 => k_asm); (case c_234 => rfl); (case m_234 => k_mem); (case d_234 => assumption); k_whole)))
  (k_with "subscriptTail Name Constant ref int" => (k_here; (with_reducible show wpAny _ _ (subscriptTail _ _ (Value.ref _) (Value.int 0 _)) _ _ _); (with_unfolding_all refine' item_litK ?k1_235 ?k2_235 ?k3_235 ?k4_235 ?_ ?k6_235; (case k1_235 => exact News.isList (by k_asm) (by k_mem)); (case k2_235 => decide); (case k3_235 => decide); (case k4_235 => rfl); (case k6_235 => with_unfolding_all rfl); k_whole)))
  (k_with "setItem ref int" => (k_here; k_dflt (refine' ki_set ?F_236 ?N_236 ?a_236 ?b_236 ?e_236 ?U_236 ?_; (case F_236 => k_asm); (case N_236 => k_asm); (case U_236 => exact Upd.head (by assumption)); (case a_236 => decide); (case b_236 => decide); (case e_236 => rfl)); intro h' F' N'))
  (k_with "subscriptTail" => (k_here; (with_reducible show wpAny _ _ (subscriptTail _ _ (Value.ref _) (Value.int _ _)) _ _ _); k_dflt (refine' item_pair ?N_237 ?m_237 ?lo_237 ?hi_237 ?j_237 ?x_237 ?_ ?s_237; (case N_237 => k_asm); (case m_237 => k_mem); (case lo_237 => decide); (case hi_237 => decide); (case j_237 => exact rfl); (case x_237 => exact rfl); (case s_237 => with_unfolding_all rfl); k_whole)))
  (k_with "kqd_sub" => first | assumption | exact sub_app (by assumption) | exact sub_app (sub_app (by assumption)))
  (k_with "kqd_all" => first | assumption | omega | (simp only [cT] at *; omega))
  (k_with "call ref" => (k_here; (with_reducible show wpAny _ _ (call (Value.ref _) [Value.int _ _]) _ _ _); (with_reducible rename TakeSpec _ _ _ _ => TK9); k_dflt (first
    | (refine' take_use TK9 9 ?x_240 ?sub_240 ?ne_240 ?k_240 ?l1_240 ?l2_240 ?B_240 ?F_240 ?X_240 ?N_240 ?T_240 ?hk_240 ?hd_240 ?hu_240 ?_; (case x_240 => (show (9 : Int) = _; rfl)))
    | (refine' take_use TK9 6 ?x_240 ?sub_240 ?ne_240 ?k_240 ?l1_240 ?l2_240 ?B_240 ?F_240 ?X_240 ?N_240 ?T_240 ?hk_240 ?hd_240 ?hu_240 ?_; (case x_240 => (show (6 : Int) = _; rfl)))
    | (refine' take_use TK9 4 ?x_240 ?sub_240 ?ne_240 ?k_240 ?l1_240 ?l2_240 ?B_240 ?F_240 ?X_240 ?N_240 ?T_240 ?hk_240 ?hd_240 ?hu_240 ?_; (case x_240 => (show (4 : Int) = _; rfl)))
    | (refine' take_use TK9 3 ?x_240 ?sub_240 ?ne_240 ?k_240 ?l1_240 ?l2_240 ?B_240 ?F_240 ?X_240 ?N_240 ?T_240 ?hk_240 ?hd_240 ?hu_240 ?_; (case x_240 => (show (3 : Int) = _; rfl)))
    | (refine' take_use TK9 2 ?x_240 ?sub_240 ?ne_240 ?k_240 ?l1_240 ?l2_240 ?B_240 ?F_240 ?X_240 ?N_240 ?T_240 ?hk_240 ?hd_240 ?hu_240 ?_; (case x_240 => (show (2 : Int) = _; rfl)))); k_dflt ((case l1_240 => decide); (case l2_240 => decide); (case N_240 => k_asm); (case sub_240 => kqd_sub); (case B_240 => k_asm); (case F_240 => k_asm); (case X_240 => k_asm); (case T_240 => k_asm); (case ne_240 => assumption); (case k_240 => kqd_all); (case hk_240 => first | exact rfl | assumption); (case hd_240 => ktr_units); (case hu_240 => ktr_units); k_whole); intro r9 t9 u9 n9 h9 tk9 hr9 F9 N9))
  (k_with "call ref" => (k_here; (with_reducible show wpAny _ _ (call (Value.ref 552) _) _ _ _); (with_reducible rename TreeTo _ _ _ _ _ => TT9); k_dflt (refine' tree_use TT9 ?x_241 ?sub_241 ?ne_241 ?k_241 ?B_241 ?F_241 ?X_241 ?N_241 ?T_241 ?hk_241 ?hd_241 ?hu_241 ?_; (case x_241 => omega); (case N_241 => k_asm); (case sub_241 => kqd_sub); (case B_241 => k_asm); (case F_241 => k_asm); (case X_241 => k_asm); (case T_241 => k_asm); (case ne_241 => assumption); (case k_241 => kqd_all); (case hk_241 => first | exact rfl | assumption); (case hd_241 => ktr_units); (case hu_241 => ktr_units); k_whole); intro v9 tr9 k9 t9 n9 tl9 h9 tk9 hk9 F9 N9 ne9 D9 w9 ht9))
  (k_with "callWith ref" => (k_here; (with_reducible show wpAny _ _ (callWith _ (Value.ref _) _ _ _) _ _ _); k_dflt (refine' callWith_M ?m1_242 ?N1_242 ?s1_242 ?_; (case m1_242 => (with_reducible assumption)); (case N1_242 => k_asm); (case s1_242 => ktd_sub); k_whole)))
  (k_with "subscriptTail" => (k_here; (with_reducible show wpAny _ _ (subscriptTail _ (PySem.Expr.BinOp _ _ _ _) (Value.ref _) (Value.int _ _)) _ _ _); k_dflt (refine' item_three ?N_243 ?m_243 ?i_243 ?s_243 ?_ ?_ ?_; (case N_243 => k_asm); (case m_243 => k_mem); (case i_243 => omega); (case s_243 => (intro _; with_unfolding_all rfl))) <;> intro hi9))
  (k_with "getMethod" => (k_here; (with_reducible show wpAny _ _ (getMethod _ (PySem.Str.ofString "told") _) _ _ _); (with_reducible rename ToldTo _ _ _ _ _ _ _ => IH9); k_dflt (refine' told_meth IH9 ?B_244 ?F_244 ?X_244 ?N_244 ?T_244 ?hk_244 ?R_244 ?lt_244 ?hd_244 ?hu_244 ?_; (case B_244 => k_asm); (case F_244 => k_asm); (case X_244 => k_asm); (case T_244 => k_asm); (case N_244 => k_asm); (case R_244 => ktd_rel); (case lt_244 => (simp only [Rx.ht] at *; omega)); (case hk_244 => first | exact rfl | assumption); (case hd_244 => ktr_units); (case hu_244 => ktr_units); k_whole); intro r9 tl9 h9 tk9 F9 N9 hl9 ho9))
  (k_with "call ref" => (k_here; (with_reducible show wpAny _ _ (call (Value.ref 576) _) _ _ _); (with_reducible rename WordsTo _ _ _ _ _ _ _ => IH9); k_dflt (refine' tell_words ?C_245 ?B_245 ?F_245 ?X_245 ?N_245 ?T_245 ?hk_245 ?hd_245 ?hu_245 ?_; (case B_245 => k_asm); (case F_245 => k_asm); (case X_245 => k_asm); (case T_245 => k_asm); (case N_245 => k_asm); (case C_245 => exact (IH9 _ _ _ (by ktd_rel) (by first | assumption | (simp only [wf] at *; simp only [*])) (by first | omega | (simp only [Rx.ht] at *; omega)))); (case hk_245 => first | exact rfl | assumption); (case hd_245 => ktr_units); (case hu_245 => ktr_units); k_whole; intro ws8 a8 n8 vs8 tl9 h9 tk9 F9 N9 hl9 m8 S8 W8; have A8 : WA ws8 := WA.of W8 (ab_L _))))
  (k_with "kct_strs" => first | assumption | exact StrsAre.nil | exact StrsAre.cons _ _ StrsAre.nil)
  (k_with "kas_types" => first | assumption | exact WA.se)
  (k_with "call ref" => (k_here; (with_reducible show wpAny _ _ (call (Value.ref 571) _) _ _ _); k_dflt (refine' tell_strs ?C_248 ?B_248 ?F_248 ?X_248 ?N_248 ?T_248 ?hk_248 ?hd_248 ?hu_248 ?_; (case B_248 => k_asm); (case F_248 => k_asm); (case X_248 => k_asm); (case T_248 => k_asm); (case N_248 => k_asm); (case C_248 => exact (rows_W _ _ _ _ _ _ _ (by k_mem) (by k_mem) (by kct_strs) (by kct_strs) (by kas_types) (by kas_types))); (case hk_248 => first | exact rfl | assumption); (case hd_248 => ktr_units); (case hu_248 => ktr_units); k_whole; intro a8 n8 vs8 tl9 h9 tk9 F9 N9 hl9 m8 S8; have A8 := WA.of_rows S8 (by kas_types) (by kas_types))))
  (k_with "call ref" => (k_here; (with_reducible show wpAny _ _ (call (Value.ref 564) _) _ _ _); k_dflt (refine' tell_strs ?C_249 ?B_249 ?F_249 ?X_249 ?N_249 ?T_249 ?hk_249 ?hd_249 ?hu_249 ?_; (case B_249 => k_asm); (case F_249 => k_asm); (case X_249 => k_asm); (case T_249 => k_asm); (case N_249 => k_asm); (case C_249 => exact (fresh_W _ _ _ _ _ _ _ (by k_mem) (by k_mem) (by kct_strs) (by kct_strs) (by kas_types))); (case hk_249 => first | exact rfl | assumption); (case hd_249 => ktr_units); (case hu_249 => ktr_units); k_whole; intro a8 n8 vs8 tl9 h9 tk9 F9 N9 hl9 m8 S8; have A8 := WA.of_fresh S8 (by kas_types))))
  (k_with "binaryOp Add ref ref" => (k_here; (with_reducible show wpAny _ _ (binaryOp _ (Value.ref _) (Value.ref _)) _ _ _); k_dflt (refine' cat_W ?F_250 ?N_250 ?a_250 ?b_250 ?i_250 ?j_250 ?k_250 ?l_250 ?_; (case F_250 => k_asm); (case N_250 => k_asm); (case a_250 => k_mem); (case b_250 => k_mem); (case i_250 => kct_strs); (case j_250 => kct_strs); (case k_250 => kas_types); (case l_250 => kas_types)); intro D' h' z' F' N' S' l1; (try k_lt l1)))
  trivial
theorem cut_end {h₀ h : Heap} {L₀ : Addr} {X : Led} {G : Prop} {tr : Rx} {ws : List Str} {vs us : List Value} {a b c : Addr} {n k : Nat} {ps : Array Value} (N : News h₀ L₀ h X) (_ : W (L tr) ws) (_ : StrsAre vs ws) (_ : StrsAre us (freshL ws [Str.ofString ""])) (D : NIn X (.ref c) tr)
    (m : (a, listOf (List.toArray vs) n) ∈ X) (m2 : (b, listOf (List.toArray us) k) ∈ X)
    (mt : (540, tabObj ps) ∈ X) (go : ∀ Y, News h₀ L₀ h Y → (540, tabObj ps) ∈ Y → (a, listOf (List.toArray vs) n) ∈ Y → (b, listOf (List.toArray us) k) ∈ Y → NIn Y (.ref c) tr → G) : G := go X N mt m m2 D
theorem cut_end1 {h₀ h : Heap} {L₀ : Addr} {X : Led} {G : Prop} {tr tu : Rx} {ws : List Str} {vs us : List Value} {a b c d : Addr} {n k : Nat} {ps : Array Value} (N : News h₀ L₀ h X) (_ : W (L tr) ws) (_ : StrsAre vs ws) (_ : StrsAre us (freshL ws [Str.ofString ""])) (D : NIn X (.ref c) tr)
    (m : (a, listOf (List.toArray vs) n) ∈ X) (m2 : (b, listOf (List.toArray us) k) ∈ X) (D2 : DIn X (.ref d) tu)
    (mt : (540, tabObj ps) ∈ X) (go : ∀ Y, News h₀ L₀ h Y → (540, tabObj ps) ∈ Y → (a, listOf (List.toArray vs) n) ∈ Y → (b, listOf (List.toArray us) k) ∈ Y → NIn Y (.ref c) tr → DIn Y (.ref d) tu → G) : G := go X N mt m m2 D D2
def NoTrail : Prop := True
def HasTrail : Prop := True
/-- two ways that meet again behind a statement -/
theorem join_tail {h₀ h₁ : Heap} {L : Addr} {m : Str → Option Value} {X : Led} {α : Type} {M : Model} {A : Around} {c : Sem α} {K : α → Shared → Prop} {v : α} {E : Value → Shared → Prop} {s : Shared} (_ : Fr h₀ L h₁ m) (_ : News h₀ L h₁ X)
    (t : ∀ h tk X', Fr h₀ L h m → News h₀ L h X' → (∀ p ∈ X, p ∈ X') → K v { s with heap := h, toks := tk }) (k : (∀ h tk X', Fr h₀ L h m → News h₀ L h X' → (∀ p ∈ X, p ∈ X') → K v { s with heap := h, toks := tk }) → wpAny M A c K E s) : wpAny M A c K E s := k t
theorem ne_bool {prog : Program} {w : World} {A : Around} {E : Value → Shared → Prop} {s : Shared} {c : Bool} {Q : Value → Shared → Prop} (h : Q (.bool false) s) : wpAny (model prog w) A (compareOp .NotEq (.bool c) (.bool c)) Q E s := by
  cases c <;> (walk1; exact h)
theorem lines_26 : True := by
  (k_with "ktd_rel" => first | assumption | exact NIn.mono (by assumption) (by ktd_sub) | exact CIn.mono (by assumption) (by ktd_sub) | exact DIn.mono (by assumption) (by ktd_sub) | exact CIn.told (CIn.mono (by assumption) (by ktd_sub)) | exact DIn.told (DIn.mono (by assumption) (by ktd_sub)))
  (k_with "call ref" => (k_here; (with_reducible show wpAny _ _ (call (Value.ref 524) _) _ _ _); (first | ktf_call (we_f _ _ _ _ _ _ (by ktd_rel) (by assumption) (by omega) (by assumption)) | ktf_call (we_spec _ _ _ _ _ _ 21 (Nat.le_refl _) _ _ _ (by ktd_rel) (by assumption) (by omega))); k_dflt (rename_i r8 tl8 h8 tk8 F8 N8 hl8 ho8; (try dsimp only at ho8); obtain ⟨a8, he8⟩ := NIn.isRef ho8; subst he8)))
  (k_with "call ref" => (k_here; (with_reducible show wpAny _ _ (call (Value.ref 559) _) _ _ _); ktf_call (node_spec _ _ _ _ _ _ 21 (Nat.le_refl _) _ _ _ (by ktd_rel) (by assumption) (by omega)); k_dflt (rename_i r8 tl8 h8 tk8 F8 N8 hl8 ho8; (try dsimp only at ho8); obtain ⟨a8, he8⟩ := NIn.isRef ho8; subst he8)))
  (k_with "call ref" => (k_here; (with_reducible show wpAny _ _ (call (Value.ref 517) _) _ _ _); ktf_call (cbe_b _ _ _ _ _ _ (by ktd_rel) (by omega) (by assumption)); k_dflt (rename_i r8 tl8 h8 tk8 F8 N8 hl8 ho8; (try dsimp only at ho8); subst ho8)))
  (k_with "call ref" => (k_here; (with_reducible show wpAny _ _ (call (Value.ref 576) _) _ _ _); ktf_call (words_spec _ _ _ _ _ _ 21 (Nat.le_refl _) _ _ _ (by ktd_rel) (by assumption) (by omega)); k_dflt (rename_i r8 tl8 h8 tk8 F8 N8 hl8 ho8; obtain ⟨ws8, ⟨a8, n8, vs8, he8, m8, S8⟩, W8⟩ := ho8; subst he8; have A8 : WA ws8 := WA.of W8 (ab_L _))))
  (k_with "call ref" => (k_here; (with_reducible show wpAny _ _ (call (Value.ref 583) _) _ _ _); ktf_call (same_spec _ _ _ _ _ _ _ _ _ (by ktd_rel) (by first | assumption | exact And.intro (by assumption) (by assumption)) (by first | omega | (simp only [Rx.ht]; omega)) (by k_mem) (by assumption) (by kas_types) (by first | assumption | exact W_cat (by assumption) (by assumption))); k_dflt (rename_i r8 tl8 h8 tk8 F8 N8 hl8 ho8; (try dsimp only at ho8); subst ho8)))
  (k_with "call ref" => (k_here; (with_reducible show wpAny _ _ (call (Value.ref 531) _) _ _ _); (with_reducible rename NoTrail => mk9); ktf_call (matched_0 _ _ _ _ _ _ _ (by first | assumption | exact PatIn.mono (by assumption) (by ktd_sub)) (by ktd_rel) (by assumption) (by omega))))
  (k_with "call ref" => (k_here; (with_reducible show wpAny _ _ (call (Value.ref 531) _) _ _ _); (with_reducible rename HasTrail => mk9); ktf_call (matched_1 _ _ _ _ _ _ _ (by first | assumption | exact PatIn.mono (by assumption) (by ktd_sub)) (by ktd_rel) (by assumption) (by omega) (by ktd_rel))))
  (k_with "getMethod" => (k_here; (with_reducible show wpAny _ _ (getMethod _ (PySem.Str.ofString "told") _) _ _ _); k_dflt (refine' told_meth (told_spec _ _ _ _ _ _ 21 (Nat.le_refl _)) ?B_259 ?F_259 ?X_259 ?N_259 ?T_259 ?hk_259 ?R_259 ?lt_259 ?hd_259 ?hu_259 ?_; (case B_259 => k_asm); (case F_259 => k_asm); (case X_259 => k_asm); (case T_259 => k_asm); (case N_259 => k_asm); (case R_259 => ktd_rel); (case lt_259 => omega); (case hk_259 => first | exact rfl | assumption); (case hd_259 => ktr_units); (case hu_259 => ktr_units); k_whole); intro r9 tl9 h9 tk9 F9 N9 hl9 ho9; k_dflt (obtain ⟨a8, he8⟩ := CIn.isRef ho9; subst he8)))
  (k_with "compareOp NotEq ref ref" => (k_here; k_dflt (refine' ne_told ?N_260 ?a_260 ?b_260 ?h_260 ?r_260 ?_; (case N_260 => k_asm); (case a_260 => ktd_rel); (case b_260 => ktd_rel); (case h_260 => omega); (case r_260 => ke_room))))
  (k_with "compareOp In str ref" => (k_here; k_dflt (refine' in_b ?N_261 ?a_261 ?b_261 ?h_261 ?_; (case N_261 => k_asm); (case a_261 => k_mem); (case b_261 => assumption); (case h_261 => assumption))))
  (k_with "compareOp NotIn str ref" => (k_here; k_dflt (refine' notin_b ?N_262 ?a_262 ?b_262 ?h_262 ?_; (case N_262 => k_asm); (case a_262 => k_mem); (case b_262 => assumption); (case h_262 => assumption)); (try dsimp only [Bool.not_true, Bool.not_false])))
  (k_with "getMethod ref" => (k_here; (with_reducible show wpAny _ _ (getMethod _ (PySem.Str.ofString "told") _) _ _ _); k_dflt (refine' told_meth (told_spec _ _ _ _ _ _ 21 (Nat.le_refl _)) ?B_263 ?F_263 ?X_263 ?N_263 ?T_263 ?hk_263 ?R_263 ?lt_263 ?hd_263 ?hu_263 ?_; (case B_263 => k_asm); (case F_263 => k_asm); (case X_263 => k_asm); (case T_263 => k_asm); (case N_263 => k_asm); (case R_263 => ktd_rel); (case lt_263 => omega); (case hk_263 => first | exact rfl | assumption); (case hd_263 => ktr_units); (case hu_263 => ktr_units); k_whole); intro r9 tl9 h9 tk9 F9 N9 hl9 ho9; k_dflt (obtain ⟨a8, he8⟩ := CIn.isRef ho9; subst he8)))
  (k_with "call ref" => (k_here; (with_reducible show wpAny _ _ (call (Value.ref 552) _) _ _ _); (with_reducible rename TreeTo _ _ _ _ _ => TT9); k_dflt (refine' tree_use TT9 ?x_264 ?sub_264 ?ne_264 ?k_264 ?B_264 ?F_264 ?X_264 ?N_264 ?T_264 ?hk_264 ?hd_264 ?hu_264 ?_; (case x_264 => omega); (case N_264 => k_asm); (case sub_264 => kqd_sub); (case B_264 => k_asm); (case F_264 => k_asm); (case X_264 => k_asm); (case T_264 => k_asm); (case ne_264 => assumption); (case k_264 => kqd_all); (case hk_264 => first | exact rfl | assumption); (case hd_264 => ktr_units); (case hu_264 => ktr_units); k_whole); intro v9 tr9 k9 t9 n9 tl9 h9 tk9 hk9 F9 N9 ne9 D9 w9 ht9; k_dflt (obtain ⟨a9, e9⟩ := DIn.isRef D9; subst e9)))
  (k_with "call ref" => (k_here; (with_reducible show wpAny _ _ (call (Value.ref 506) _) _ _ _); ktf_call (mkpat _ _ _ _ _ _ _ _ _ _); k_dflt (rename_i r8 tl8 h8 tk8 F8 N8 hl8 ho8; (try dsimp only at ho8); obtain ⟨a8, he8⟩ := PatIn.isRef ho8; subst he8)))
  (k_with "callWith ref" => (k_here; (with_reducible show wpAny _ _ (callWith _ (Value.ref _) _ _ _) _ _ _); k_dflt (refine' callWith_K ?k1_266 ?k2_266 ?_; (case k1_266 => k_asm); (case k2_266 => k_is); k_whole)))
  (k_with "compareOp NotEq bool bool" => (k_here; refine ne_bool ?_))
  trivial
-- the twin-maker declines where a constant of the twin's name stands: so the head's own constants get no twins (their proofs would be 130 MB)
theorem law_t.tw12985842216923330549 : True := trivial
theorem law_t.tw449026468457793434 : True := trivial
theorem law_t.tw14009207321442992068 : True := trivial
theorem law_t.tw816038385212256794 : True := trivial
theorem law_t.tw1667673337848302422 : True := trivial
theorem law_t.tw3711381407594482964 : True := trivial
theorem law_t.tw8547888903308926798 : True := trivial
theorem law_t.tw10225534865985009274 : True := trivial
theorem law_t.tw8792588150504966346 : True := trivial
theorem law_t.tw3842345484598906758 : True := trivial
theorem law_t.tw7991196786924976446 : True := trivial
theorem law_t.tw12320102743735753676 : True := trivial
theorem law_t.tw975954787347644733 : True := trivial
theorem law_t.tw16830879326589805408 : True := trivial
theorem law_t.tw13000638545615331423 : True := trivial
theorem law_t.tw12207130634196065462 : True := trivial
theorem law_t.tw852591725516889701 : True := trivial
theorem law_t.tw14425465589133768474 : True := trivial
theorem law_t.tw10145021904789819935 : True := trivial
theorem law_t.tw3416810797284637585 : True := trivial
theorem law_t.tw5026738609268891692 : True := trivial
theorem law_t.tw4653116001351472310 : True := trivial
theorem law_t.tw4422979291355263401 : True := trivial
theorem law_t.tw9990841688589047944 : True := trivial
theorem law_t.tw7706910059894979119 : True := trivial
theorem law_t.tw15205057794533642437 : True := trivial
theorem law_t.tw14833512290984794032 : True := trivial
theorem law_t.tw16562323177137684933 : True := trivial
theorem law_t.tw7498144227560766284 : True := trivial
theorem law_t.tw937155744139284587 : True := trivial
theorem law_t.tw12196035511577932360 : True := trivial
theorem law_t.tw12613488948356630966 : True := trivial
theorem law_t.tw15394434579132661087 : True := trivial
theorem law_t.tw4594717821184986236 : True := trivial
theorem law_t.tw511773978856778805 : True := trivial
theorem law_t.tw17635421751161675344 : True := trivial
theorem law_t.tw11002717299516867984 : True := trivial
theorem law_t.tw9943717648135777640 : True := trivial
theorem law_t.tw16254915355824114795 : True := trivial
theorem law_t.tw7154730128788170943 : True := trivial
theorem law_t.tw9245911888613914474 : True := trivial
theorem law_t.tw2324184481716103609 : True := trivial
theorem law_t.tw18171832962670101306 : True := trivial
theorem law_t.tw12428709195550839246 : True := trivial
theorem law_t.tw15742428133518865556 : True := trivial
theorem law_t.tw5983759236309707331 : True := trivial
theorem law_t.tw5011161508257702940 : True := trivial
theorem law_t.tw7093350276001742429 : True := trivial
theorem law_t.tw10102486796658765872 : True := trivial
theorem law_t.tw645365008027513935 : True := trivial
theorem law_t.tw12801558940660580637 : True := trivial
theorem law_t.tw16647940428774849886 : True := trivial
theorem law_t.tw12600043956471322659 : True := trivial
theorem law_t.tw10992479548511219145 : True := trivial
theorem law_t.tw11171438719477417725 : True := trivial
theorem law_t.tw9535425248631964221 : True := trivial
theorem law_t.tw8379386023088352036 : True := trivial
theorem law_t.tw15593703606134568326 : True := trivial
theorem law_t.tw2910609718491087698 : True := trivial
theorem law_t.tw7967890998405953403 : True := trivial
theorem law_t.tw1203512959103559278 : True := trivial
theorem law_t.tw13526524222112015209 : True := trivial
theorem law_t.tw3771637564969373695 : True := trivial
theorem law_t.tw9723894579359380730 : True := trivial
theorem law_t.tw8521172780123224600 : True := trivial
theorem law_t.tw10185050339312491569 : True := trivial
theorem law_t.tw5218197664318440895 : True := trivial
theorem law_t.tw16459074168648085166 : True := trivial
theorem law_t.tw2739693253363288888 : True := trivial
theorem law_t.tw12427619416371016599 : True := trivial
theorem law_t.tw3773072743797717104 : True := trivial
theorem law_t.tw16649265369797846462 : True := trivial
theorem law_t.tw8103349234859546459 : True := trivial
theorem law_t.tw16175629700991460983 : True := trivial
theorem law_t.tw5627529086375573137 : True := trivial
theorem law_t.tw3470104454997367879 : True := trivial
theorem law_t.tw5906073372569044878 : True := trivial
theorem law_t.tw7373147875585604735 : True := trivial
theorem law_t.tw2912570694507450104 : True := trivial
theorem law_t.tw11611801754403787822 : True := trivial
theorem law_t.tw8976623909890637223 : True := trivial
theorem law_t.tw2002530643126745573 : True := trivial
theorem law_t.tw10504198666363452509 : True := trivial
theorem law_t.tw220753477943597065 : True := trivial
theorem law_t.tw3950594215907124667 : True := trivial
theorem law_t.tw5957737802973879948 : True := trivial
theorem law_t.tw18368497824475448018 : True := trivial
theorem law_t.tw10750075672208779373 : True := trivial
theorem law_t.tw15172378874953070004 : True := trivial
theorem law_t.tw10724164063704051027 : True := trivial
theorem law_t.tw17693526149633542076 : True := trivial
theorem law_t.tw2531721709179566993 : True := trivial
theorem law_t.tw17364345782762803510 : True := trivial
theorem law_t.tw12881589104754007584 : True := trivial
theorem law_t.tw799624341057155728 : True := trivial
theorem law_t.tw9397204709042199667 : True := trivial
theorem law_t.tw6208194252767083301 : True := trivial
theorem law_t.tw16467172407370664617 : True := trivial
theorem law_t.tw7320006272557850461 : True := trivial
theorem law_t.tw2268062158274380560 : True := trivial
theorem law_t.tw13398896345969850098 : True := trivial
theorem law_t.tw1834227646539290620 : True := trivial
theorem law_t.tw4218968496052785150 : True := trivial
theorem law_t.tw8844627184636151883 : True := trivial
theorem law_t.tw8856873561012123791 : True := trivial
theorem law_t.tw622358368574643730 : True := trivial
theorem law_t.tw5690072582905490744 : True := trivial
theorem law_t.tw1314138269625951008 : True := trivial
theorem law_t.tw6650714498644909134 : True := trivial
theorem law_t.tw6953126917678900971 : True := trivial
theorem law_t.tw16846454273581024850 : True := trivial
theorem law_t.tw9504252818473781945 : True := trivial
theorem law_t.tw14400210019357343448 : True := trivial
theorem law_t.tw13654664218602960145 : True := trivial
theorem law_t.tw11364797039210320415 : True := trivial
theorem law_t.tw18311668985540167876 : True := trivial
theorem law_t.tw7967319714572546210 : True := trivial
theorem law_t.tw13074920492013301916 : True := trivial
theorem law_t.tw17237137888176292841 : True := trivial
theorem law_t.tw17537851721007524393 : True := trivial
theorem law_t.tw3475385998958528897 : True := trivial
theorem law_t.tw16655686679501372421 : True := trivial
theorem law_t.tw7359921305110590477 : True := trivial
theorem law_t.tw17159323315891331114 : True := trivial
theorem law_t.tw3265403444123477727 : True := trivial
theorem law_t.tw7493487222735262020 : True := trivial
theorem law_t.tw15978099151167419392 : True := trivial
theorem law_t.tw9660861576790774864 : True := trivial
theorem law_t.tw7776177294765613287 : True := trivial
theorem law_t.tw3958477731275216047 : True := trivial
theorem law_t.tw841902958107320568 : True := trivial
theorem law_t.tw12754434903911228792 : True := trivial
theorem law_t.tw5368825815515218079 : True := trivial
theorem law_t.tw3447408363627482543 : True := trivial
theorem law_t.tw17472142964976742881 : True := trivial
theorem law_t.tw11009570325646628549 : True := trivial
theorem law_t.tw14362494223336420134 : True := trivial
theorem law_t.tw5780047936847704169 : True := trivial
theorem law_t.tw3030862254297227861 : True := trivial
theorem law_t.tw2547943325950449953 : True := trivial
theorem law_t.tw10288096755266987045 : True := trivial
theorem law_t.tw3081957037981591416 : True := trivial
theorem law_t.tw1308832920488596556 : True := trivial
theorem law_t.tw8730544253462906497 : True := trivial
theorem law_t.tw13503467366279468128 : True := trivial
theorem law_t.tw13217234823800856510 : True := trivial
theorem law_t.tw4915824265449710919 : True := trivial
theorem law_t.tw8121112257641521556 : True := trivial
theorem law_t.tw7550898776914185459 : True := trivial
theorem law_t.tw15665462056610158921 : True := trivial
theorem law_t.tw13723121715987027417 : True := trivial
theorem law_t.tw15618969542522663020 : True := trivial
theorem law_t.tw12471596717108830415 : True := trivial
theorem law_t.tw16433756281656616597 : True := trivial
theorem law_t.tw11220533713608532198 : True := trivial
theorem law_t.tw12341833997059792792 : True := trivial
theorem law_t.tw4256016723919244937 : True := trivial
theorem law_t.tw2983586630279843750 : True := trivial
theorem law_t.tw6481883726066593993 : True := trivial
theorem law_t.tw9426175302219647549 : True := trivial
theorem law_t.tw1316596791330431717 : True := trivial
theorem law_t.tw1088049452648339047 : True := trivial
theorem law_t.tw16156669378830310334 : True := trivial
theorem law_t.tw2225360508756507643 : True := trivial
theorem law_t.tw9984052509252559047 : True := trivial
theorem law_t.tw6364365227873385729 : True := trivial
theorem law_t.tw8370064776603277257 : True := trivial
theorem law_t.tw9418337329185233317 : True := trivial
theorem law_t.tw3260744219525099502 : True := trivial
theorem law_t.tw13591037490762312849 : True := trivial
theorem law_t.tw6529670186142531659 : True := trivial
theorem law_t.tw5339512514984338902 : True := trivial
theorem law_t.tw3833224564136332348 : True := trivial
theorem law_t.tw10740153160088876165 : True := trivial
theorem law_t.tw4075690626807973010 : True := trivial
theorem law_t.tw5004887874429692555 : True := trivial
theorem law_t.tw15726048112951872943 : True := trivial
theorem law_t.tw12361784649179736722 : True := trivial
theorem law_t.tw16826974462060675827 : True := trivial
theorem law_t.tw9172452652516703104 : True := trivial
theorem law_t.tw15326727923952286742 : True := trivial
theorem law_t.tw12022556222900844782 : True := trivial
theorem law_t.tw12456386037640696361 : True := trivial
theorem law_t.tw8828853827201252098 : True := trivial
theorem law_t.tw15363840466193118382 : True := trivial
theorem law_t.tw18321476207033912145 : True := trivial
theorem law_t.tw16724913343421861349 : True := trivial
theorem law_t.tw18047672533658337336 : True := trivial
theorem law_t.tw13949893015901175904 : True := trivial
theorem law_t.tw3583322757759958674 : True := trivial
theorem law_t.tw17305828511954272030 : True := trivial
theorem law_t.tw12258169277914695646 : True := trivial
theorem law_t.tw11641481236604941837 : True := trivial
theorem law_t.tw3229478594625726582 : True := trivial
theorem law_t.tw9613492428506740262 : True := trivial
theorem law_t.tw10343949024363143496 : True := trivial
theorem law_t.tw11975823736241620145 : True := trivial
theorem law_t.tw6520361398244141959 : True := trivial
theorem law_t.tw2076041700294698999 : True := trivial
theorem law_t.tw889432574166814162 : True := trivial
theorem law_t.tw2693425723733222758 : True := trivial
theorem law_t.tw11718620988453737061 : True := trivial
theorem law_t.tw6092129635662689961 : True := trivial
theorem law_t.tw9074379616796764568 : True := trivial
theorem law_t.tw6567207865982103495 : True := trivial
theorem law_t.tw1128370218148533548 : True := trivial
theorem law_t.tw5763728026176260442 : True := trivial
theorem law_t.tw3636254455790955460 : True := trivial
theorem law_t.tw3911398770678127314 : True := trivial
theorem law_t.tw6207037192648475006 : True := trivial
theorem law_t.tw15807642978365864771 : True := trivial
theorem law_t.tw2965098130766534151 : True := trivial
theorem law_t.tw10351634223948174004 : True := trivial
theorem law_t.tw14417873820939102254 : True := trivial
theorem law_t.tw8676299236802116110 : True := trivial
theorem law_t.tw11304891396297381821 : True := trivial
theorem law_t.tw7221750997654164587 : True := trivial
theorem law_t.tw15971673133948670221 : True := trivial
theorem law_t.tw1540187424125661876 : True := trivial
theorem law_t.tw17926460086282261320 : True := trivial
theorem law_t.tw16785314629813089104 : True := trivial
theorem law_t.tw5006412990138234915 : True := trivial
theorem law_t.tw833723853473759713 : True := trivial
theorem law_t.tw1114852650700211129 : True := trivial
theorem law_t.tw2779807010230823575 : True := trivial
theorem law_t.tw13008215690511251859 : True := trivial
theorem law_t.tw14503057201684490426 : True := trivial
theorem law_t.tw6728093462053877397 : True := trivial
theorem law_t.tw8532610035360296580 : True := trivial
theorem law_t.tw10554969220131896268 : True := trivial
theorem law_t.tw11802646119560729378 : True := trivial
theorem law_t.tw10835010014804668495 : True := trivial
theorem law_t.tw13093009248600486416 : True := trivial
theorem law_t.tw9201900016934062987 : True := trivial
theorem law_t.tw17634992041662696980 : True := trivial
theorem law_t.tw16397994513673752843 : True := trivial
theorem law_t.tw12208753633603934601 : True := trivial
theorem law_t.tw3938462639357855144 : True := trivial
theorem law_t.tw9591836127063153986 : True := trivial
theorem law_t.tw7649089608824525501 : True := trivial
theorem law_t.tw14609426594784970966 : True := trivial
theorem law_t.tw15124385050337504674 : True := trivial
theorem law_t.tw18326973748319651078 : True := trivial
theorem law_t.tw17477975310262775832 : True := trivial
theorem law_t.tw13478995931277420347 : True := trivial
theorem law_t.tw550960207935804250 : True := trivial
theorem law_t.tw11950711106984905284 : True := trivial
theorem law_t.tw4391161196328166051 : True := trivial
theorem law_t.tw12473543054954797257 : True := trivial
theorem law_t.tw2728770530993464930 : True := trivial
theorem law_t.tw2446648754445461654 : True := trivial
theorem law_t.tw7807126042076986834 : True := trivial
theorem law_t.tw5502219189471082207 : True := trivial
theorem law_t.tw2867706289802378891 : True := trivial
theorem law_t.tw1065647674281990519 : True := trivial
theorem law_t.tw10095550664777139257 : True := trivial
theorem law_t.tw7842260761015965199 : True := trivial
theorem law_t.tw12811450428805640202 : True := trivial
theorem law_t.tw7049289473038820086 : True := trivial
theorem law_t.tw13417107618603974901 : True := trivial
theorem law_t.tw14023916096254976862 : True := trivial
theorem law_t.tw8354168321572759339 : True := trivial
theorem law_t.tw7453858396972368876 : True := trivial
theorem law_t.tw13252991245779502366 : True := trivial
theorem law_t.tw5804210891965177364 : True := trivial
theorem law_t.tw816940527350947170 : True := trivial
theorem law_t.tw12545187637734860789 : True := trivial
theorem law_t.tw3653783714783331054 : True := trivial
theorem law_t.tw15220840121431102006 : True := trivial
theorem law_t.tw17111405764163512682 : True := trivial
theorem law_t.tw3637013813508368854 : True := trivial
theorem law_t.tw10799683266374051841 : True := trivial
theorem law_t.tw3939197106387534318 : True := trivial
theorem law_t.tw10765530921922431144 : True := trivial
theorem law_t.tw12800214580980761489 : True := trivial
theorem law_t.tw7679767074865289129 : True := trivial
theorem law_t.tw9553834903365712704 : True := trivial
theorem law_t.tw1632081588675638338 : True := trivial
theorem law_t.tw2825326834827819748 : True := trivial
theorem law_t.tw2760535147650751719 : True := trivial
theorem law_t.tw22575702250390956 : True := trivial
theorem law_t.tw15555399090988439965 : True := trivial
theorem law_t.tw15515975819349541290 : True := trivial
theorem law_t.tw5879069364837179157 : True := trivial
theorem law_t.tw337934044362516299 : True := trivial
theorem law_t.tw7893324216189497225 : True := trivial
theorem law_t.tw14682113607040963522 : True := trivial
theorem law_t.tw12730771452619763519 : True := trivial
theorem law_t.tw15594297869662034547 : True := trivial
theorem law_t.tw7084088445169377371 : True := trivial
theorem law_t.tw8567200919493032430 : True := trivial
theorem law_t.tw7132186897059493025 : True := trivial
theorem law_t.tw3538442860405331856 : True := trivial
theorem law_t.tw14629296757666893720 : True := trivial
theorem law_t.tw7610804064428983841 : True := trivial
theorem law_t.tw14846462789446320182 : True := trivial
theorem law_t.tw1448893654797333439 : True := trivial
theorem law_t.tw3589424927288165388 : True := trivial
theorem law_t.tw9577015742115564370 : True := trivial
theorem law_t.tw4935107059920552750 : True := trivial
theorem law_t.tw6373708828483494188 : True := trivial
theorem law_t.tw2331369142206466636 : True := trivial
theorem law_t.tw3807243742842239938 : True := trivial
theorem law_t.tw9162115584778421514 : True := trivial
theorem law_t.tw9700429971812274673 : True := trivial
theorem law_t.tw3323354217428617351 : True := trivial
theorem law_t.tw12071850416614822282 : True := trivial
theorem law_t.tw10872675615728705515 : True := trivial
theorem law_t.tw4911876754200275357 : True := trivial
theorem law_t.tw10448501426046092746 : True := trivial
theorem law_t.tw207485555564554532 : True := trivial
theorem law_t.tw4935850199111083991 : True := trivial
theorem law_t.tw15532948898073503737 : True := trivial
theorem law_t.tw14725497204463745706 : True := trivial
theorem law_t.tw7126776224201597985 : True := trivial
theorem law_t.tw10427969574434137691 : True := trivial
theorem law_t.tw132038020249727820 : True := trivial
theorem law_t.tw7465075359883703351 : True := trivial
theorem law_t.tw5094866582407009853 : True := trivial
theorem law_t.tw3999365812138008731 : True := trivial
theorem law_t.tw1657884085105971168 : True := trivial
theorem law_t.tw2381736861312470185 : True := trivial
theorem law_t.tw12130730872935391841 : True := trivial
theorem law_t.tw1605894717929847337 : True := trivial
theorem law_t.tw9682454842562075676 : True := trivial
theorem law_t.tw4933364745425262525 : True := trivial
theorem law_t.tw10074397670494712826 : True := trivial
theorem law_t.tw17152542964299410448 : True := trivial
theorem law_t.tw9941991353038279272 : True := trivial
theorem law_t.tw15233619372263572854 : True := trivial
theorem law_t.tw17538795544558942935 : True := trivial
theorem law_t.tw4876162750476914271 : True := trivial
theorem law_t.tw12393249124492625826 : True := trivial
theorem law_t.tw12750865291862599662 : True := trivial
theorem law_t.tw14960567255993180137 : True := trivial
theorem law_t.tw12970797480110854979 : True := trivial
theorem law_t.tw11565584647281906885 : True := trivial
theorem law_t.tw15479142338506994507 : True := trivial
theorem law_t.tw17057256314742724830 : True := trivial
theorem law_t.tw11043447156835698375 : True := trivial
theorem law_t.tw17085020515527923032 : True := trivial
theorem law_t.tw5424257311547730371 : True := trivial
theorem law_t.tw9864201328540743731 : True := trivial
theorem law_t.tw3668931004053566470 : True := trivial
theorem law_t.tw3567724752294236679 : True := trivial
theorem law_t.tw42625589206210641 : True := trivial
theorem law_t.tw5081010795470382983 : True := trivial
theorem law_t.tw2459374052059547142 : True := trivial
theorem law_t.tw5098141615727293307 : True := trivial
theorem law_t.tw2786296160701018860 : True := trivial
theorem law_t.tw5924491866587752311 : True := trivial
theorem law_t.tw13187519795794710238 : True := trivial
theorem law_t.tw5144613830066207185 : True := trivial
theorem law_t.tw10656381671555249155 : True := trivial
theorem law_t.tw923396299331079098 : True := trivial
theorem law_t.tw103242435779238743 : True := trivial
theorem law_t.tw17850924089370334510 : True := trivial
theorem law_t.tw5984843353758987333 : True := trivial
theorem law_t.tw12166420736922594502 : True := trivial
theorem law_t.tw1256834809771306557 : True := trivial
theorem law_t.tw1420224155336247706 : True := trivial
theorem law_t.tw5440431586566003713 : True := trivial
theorem law_t.tw8466042572493195578 : True := trivial
theorem law_t.tw5470752419676472376 : True := trivial
theorem law_t.tw17970569749315924314 : True := trivial
theorem law_t.tw17072850409331989062 : True := trivial
theorem law_t.tw2318274381021021017 : True := trivial
theorem law_t.tw2109849109593588061 : True := trivial
theorem law_t.tw309857944761046182 : True := trivial
theorem law_t.tw7571247560437988655 : True := trivial
theorem law_t.tw15881669116530195072 : True := trivial
theorem law_t.tw10517746107612175017 : True := trivial
theorem law_t.tw10798957356247829856 : True := trivial
theorem law_t.tw5153246891237328316 : True := trivial
theorem law_t.tw6483349813772329996 : True := trivial
theorem law_t.tw11696107351816271667 : True := trivial
theorem law_t.tw11131175423413638672 : True := trivial
theorem law_t.tw9882276467120539929 : True := trivial
theorem law_t.tw8770077430686460298 : True := trivial
theorem law_t.tw15944165331503759962 : True := trivial
theorem law_t.tw2180756557491541783 : True := trivial
theorem law_t.tw12093716498007122424 : True := trivial
theorem law_t.tw1721493342656396534 : True := trivial
theorem law_t.tw4252121445003679801 : True := trivial
theorem law_t.tw14423925768873802377 : True := trivial
theorem law_t.tw10644909530748678213 : True := trivial
theorem law_t.tw6640986045770830074 : True := trivial
theorem law_t.tw11864018938700690773 : True := trivial
theorem law_t.tw10570482876015950170 : True := trivial
theorem law_t.tw1802063573969735895 : True := trivial
theorem law_t.tw350934102512130558 : True := trivial
theorem law_t.tw3290553081156356057 : True := trivial
theorem law_t.tw6242198494555592383 : True := trivial
theorem law_t.tw7737331344280139682 : True := trivial
theorem law_t.tw11869335717813942453 : True := trivial
theorem law_t.tw8867083424449906825 : True := trivial
theorem law_t.tw13941958852633912052 : True := trivial
theorem law_t.tw1457831565009849110 : True := trivial
theorem law_t.tw10235873629284001453 : True := trivial
theorem law_t.tw3480911255204524284 : True := trivial
theorem law_t.tw5427988308549736633 : True := trivial
theorem law_t.tw7428288070502729654 : True := trivial
theorem law_t.tw17405656302811125226 : True := trivial
theorem law_t.tw13862762177110135125 : True := trivial
theorem law_t.tw6343749772505151296 : True := trivial
theorem law_t.tw16582193677414263038 : True := trivial
theorem law_t.tw2119037033718901133 : True := trivial
theorem law_t.tw11721931349356041967 : True := trivial
theorem law_t.tw11496566956241409969 : True := trivial
theorem law_t.tw802550249832694543 : True := trivial
theorem law_t.tw9811769829588528707 : True := trivial
theorem law_t.tw17365062564828795629 : True := trivial
theorem law_t.tw11391183847641964941 : True := trivial
theorem law_t.tw1200741217434994830 : True := trivial
theorem law_t.tw14764924680905089891 : True := trivial
theorem law_t.tw8554409650184914725 : True := trivial
theorem law_t.tw12179934275477738980 : True := trivial
theorem law_t.tw8666142222961568319 : True := trivial
theorem law_t.tw1553034916289142320 : True := trivial
theorem law_t.tw18139469208599399538 : True := trivial
theorem law_t.tw9143708597421477396 : True := trivial
theorem law_t.tw3900723313403981834 : True := trivial
theorem law_t.tw14417859602619068669 : True := trivial
theorem law_t.tw11858248579031608473 : True := trivial
theorem law_t.tw5410635246550746916 : True := trivial
theorem law_t.tw18021917502919679937 : True := trivial
theorem law_t.tw5295313101113192304 : True := trivial
theorem law_t.tw17945450443726276772 : True := trivial
theorem law_t.tw3725858682784524721 : True := trivial
theorem law_t.tw2831159780451072108 : True := trivial
theorem law_t.tw7048495352461214406 : True := trivial
theorem law_t.tw9925894023413680805 : True := trivial
theorem law_t.tw8629084462726078445 : True := trivial
theorem law_t.tw14309933859191540404 : True := trivial
theorem law_t.tw12206577194850424061 : True := trivial
theorem law_t.tw3866603287537935654 : True := trivial
theorem law_t.tw12832737611320234472 : True := trivial
theorem law_t.tw10371689570955522130 : True := trivial
theorem law_t.tw7823406405086010734 : True := trivial
theorem law_t.tw1098841225058499219 : True := trivial
theorem law_t.tw16469701007516951483 : True := trivial
theorem law_t.tw5599603379728409238 : True := trivial
theorem law_t.tw2274198527106941279 : True := trivial
theorem law_t.tw16700911808587842747 : True := trivial
theorem law_t.tw9178391979471723238 : True := trivial
theorem law_t.tw4624680645028618197 : True := trivial
theorem law_t.tw11859303259173560544 : True := trivial
theorem law_t.tw10141523957427905433 : True := trivial
theorem law_t.tw13299051680543523694 : True := trivial
theorem law_t.tw15185879696735468917 : True := trivial
theorem law_t.tw17803040476107580738 : True := trivial
theorem law_t.tw7495981855601762551 : True := trivial
theorem law_t.tw16991479218150277006 : True := trivial
theorem law_t.tw6304902916822011191 : True := trivial
theorem law_t.tw15999809959189999778 : True := trivial
theorem law_t.tw2925202703714368370 : True := trivial
theorem law_t.tw11682948207470288182 : True := trivial
theorem law_t.tw5571874795809446505 : True := trivial
theorem law_t.tw3515558664843708301 : True := trivial
theorem law_t.tw10702390854243670779 : True := trivial
theorem law_t.tw7912418998604052406 : True := trivial
theorem law_t.tw18423414429707159691 : True := trivial
theorem law_t.tw18141715465244273828 : True := trivial
theorem law_t.tw263137161291833680 : True := trivial
theorem law_t.tw3449449838500534954 : True := trivial
theorem law_t.tw14207057731558352735 : True := trivial
theorem law_t.tw5481366708819878312 : True := trivial
theorem law_t.tw7865183198940400213 : True := trivial
theorem law_t.tw8844379552210593965 : True := trivial
theorem law_t.tw4454472584166898699 : True := trivial
theorem law_t.tw4859339622024129607 : True := trivial
theorem law_t.tw13175573100523912426 : True := trivial
theorem law_t.tw12963730602307453910 : True := trivial
theorem law_t.tw14402232876568092843 : True := trivial
theorem law_t.tw17758678508642569587 : True := trivial
theorem law_t.tw7197011671043536636 : True := trivial
theorem law_t.tw2926717133569423583 : True := trivial
theorem law_t.tw16563538679781096887 : True := trivial
theorem law_t.tw2175908784371386410 : True := trivial
theorem law_t.tw16815860883880002246 : True := trivial
theorem law_t.tw9202956919911670763 : True := trivial
theorem law_t.tw2526634460425437388 : True := trivial
theorem law_t.tw11258828447207318549 : True := trivial
theorem law_t.tw3327108024945972810 : True := trivial
theorem law_t.tw6667514188198349705 : True := trivial
theorem law_t.tw8534274736818777263 : True := trivial
theorem law_t.tw4023206743428110273 : True := trivial
theorem law_t.tw11167887474720204655 : True := trivial
theorem law_t.tw3312847782095901128 : True := trivial
theorem law_t.tw2151933453053672970 : True := trivial
theorem law_t.tw13315694434238064653 : True := trivial
theorem law_t.tw11846473941698472447 : True := trivial
theorem law_t.tw5242335335411801950 : True := trivial
theorem law_t.tw10921739340257792047 : True := trivial
theorem law_t.tw16740370613446244213 : True := trivial
theorem law_t.tw2309791836221197661 : True := trivial
theorem law_t.tw11150020386633196205 : True := trivial
theorem law_t.tw11824996958155095715 : True := trivial
theorem law_t.tw11977434653115390417 : True := trivial
theorem law_t.tw470555846662684523 : True := trivial
theorem law_t.tw3542857402262239472 : True := trivial
theorem law_t.tw17394637855728295325 : True := trivial
theorem law_t.tw14355545442542504492 : True := trivial
theorem law_t.tw2508316610244631430 : True := trivial
theorem law_t.tw4270436635230661856 : True := trivial
theorem law_t.tw6909679499573336295 : True := trivial
theorem law_t.tw9951471461295449430 : True := trivial
theorem law_t.tw8198844632637900270 : True := trivial
theorem law_t.tw4820309761606548811 : True := trivial
theorem law_t.tw9800978226614043835 : True := trivial
theorem law_t.tw8421512163589569169 : True := trivial
theorem law_t.tw16914934037001822186 : True := trivial
theorem law_t.tw15765747190336513885 : True := trivial
theorem law_t.tw4678578055093700487 : True := trivial
theorem law_t.tw12008595990554457803 : True := trivial
theorem law_t.tw17864260210867819145 : True := trivial
theorem law_t.tw3197709532486740344 : True := trivial
theorem law_t.tw4383653637317595616 : True := trivial
theorem law_t.tw6228340885623276339 : True := trivial
theorem law_t.tw7875985209968470484 : True := trivial
theorem law_t.tw10179088473234469400 : True := trivial
theorem law_t.tw16142489584522565457 : True := trivial
theorem law_t.tw4339792154278642616 : True := trivial
theorem law_t.tw13267417081072318113 : True := trivial
theorem law_t.tw17197801186511928556 : True := trivial
theorem law_t.tw15256123843667191889 : True := trivial
theorem law_t.tw8584765911772569635 : True := trivial
theorem law_t.tw492980589298472213 : True := trivial
theorem law_t.tw1710251767915184199 : True := trivial
theorem law_t.tw7606622535098894286 : True := trivial
theorem law_t.tw792250747271112770 : True := trivial
theorem law_t.tw16071279691285583756 : True := trivial
theorem law_t.tw10839583995495164583 : True := trivial
theorem law_t.tw3440527156480230995 : True := trivial
theorem law_t.tw7596307044187957292 : True := trivial
theorem law_t.tw7306399423170186942 : True := trivial
theorem law_t.tw1361471025983848218 : True := trivial
theorem law_t.tw5015420583959362374 : True := trivial
theorem law_t.tw6820133220228427685 : True := trivial
theorem law_t.tw4570339941248539121 : True := trivial
theorem law_t.tw1538171150937640044 : True := trivial
theorem law_t.tw17182900269437927357 : True := trivial
theorem law_t.tw11109888483624479196 : True := trivial
theorem law_t.tw16042931579958213550 : True := trivial
theorem law_t.tw5695170458481204885 : True := trivial
theorem law_t.tw2914916462642319427 : True := trivial
theorem law_t.tw12040990815404091050 : True := trivial
theorem law_t.tw2865328927136462583 : True := trivial
theorem law_t.tw6959317451359318832 : True := trivial
theorem law_t.tw1748837572174667618 : True := trivial
theorem law_t.tw13738747877180970513 : True := trivial
theorem law_t.tw16758943648283654811 : True := trivial
theorem law_t.tw17649547062752850523 : True := trivial
theorem law_t.tw16951921337545292845 : True := trivial
theorem law_t.tw8205238398265193252 : True := trivial
theorem law_t.tw5411007486379041399 : True := trivial
theorem law_t.tw2642716641579837876 : True := trivial
theorem law_t.tw18204174318447519237 : True := trivial
theorem law_t.tw11460257835737546792 : True := trivial
theorem law_t.tw180443696556802689 : True := trivial
theorem law_t.tw16553866862711387364 : True := trivial
theorem law_t.tw7329690585043261501 : True := trivial
theorem law_t.tw13566991935149067075 : True := trivial
theorem law_t.tw5696137757627364097 : True := trivial
theorem law_t.tw4838811324604626655 : True := trivial
theorem law_t.tw3991910753243768195 : True := trivial
theorem law_t.tw3357051707852854132 : True := trivial
theorem law_t.tw4745510915679940594 : True := trivial
theorem law_t.tw11924043850371487660 : True := trivial
theorem law_t.tw15738532001378884992 : True := trivial
theorem law_t.tw3212333702013494301 : True := trivial
theorem law_t.tw5669096208869980428 : True := trivial
theorem law_t.tw12619816473335934278 : True := trivial
theorem law_t.tw11546280583058921613 : True := trivial
theorem law_t.tw18446743806908707776 : True := trivial
theorem law_t.tw6485704708520051713 : True := trivial
theorem law_t.tw9475846511844270495 : True := trivial
theorem law_t.tw15368095139893482274 : True := trivial
theorem law_t.tw12533043394832465299 : True := trivial
theorem law_t.tw16845718269065944299 : True := trivial
theorem law_t.tw3986567628434046187 : True := trivial
theorem law_t.tw14835711184035441392 : True := trivial
theorem law_t.tw9338002103911791017 : True := trivial
theorem law_t.tw14469793710765736424 : True := trivial
theorem law_t.tw7755042819097087609 : True := trivial
theorem law_t.tw7858869641252932864 : True := trivial
theorem law_t.tw10145747149481466030 : True := trivial
theorem law_t.tw17084101556319450304 : True := trivial
theorem law_t.tw16052425137077994883 : True := trivial
theorem law_t.tw13133265936769768863 : True := trivial
theorem law_t.tw5697444563774048333 : True := trivial
theorem law_t.tw16251324210333119787 : True := trivial
theorem law_t.tw13102367229969693017 : True := trivial
theorem law_t.tw14293225818992365026 : True := trivial
theorem law_t.tw1516450629267869110 : True := trivial
theorem law_t.tw13283984073247293269 : True := trivial
theorem law_t.tw15761583182520311112 : True := trivial
theorem law_t.tw11235589577911905362 : True := trivial
theorem law_t.tw2278836458985697608 : True := trivial
theorem law_t.tw8267825956990165058 : True := trivial
theorem law_t.tw3882315787400310221 : True := trivial
theorem law_t.tw12358012565802812008 : True := trivial
theorem law_t.tw15622395417078026359 : True := trivial
theorem law_t.tw6905636909900490947 : True := trivial
theorem law_t.tw13855266920194915996 : True := trivial
theorem law_t.tw10852740710567783497 : True := trivial
theorem law_t.tw6202104750961515108 : True := trivial
theorem law_t.tw10073271933330905200 : True := trivial
theorem law_t.tw5684413876810855060 : True := trivial
theorem law_t.tw16331550822643476838 : True := trivial
theorem law_t.tw423424618010746645 : True := trivial
theorem law_t.tw15952612696975926248 : True := trivial
theorem law_t.tw11260331368811573643 : True := trivial
theorem law_t.tw17938272275111485112 : True := trivial
theorem law_t.tw12389509522764997170 : True := trivial
theorem law_t.tw617674521579946607 : True := trivial
theorem law_t.tw8828707158413582094 : True := trivial
theorem law_t.tw17607386873409514743 : True := trivial
theorem law_t.tw17413994429358291160 : True := trivial
theorem law_t.tw13657587449334248816 : True := trivial
theorem law_t.tw2577794983058969937 : True := trivial
theorem law_t.tw748102071417746466 : True := trivial
theorem law_t.tw1099170777383891799 : True := trivial
theorem law_t.tw13424349200931474535 : True := trivial
theorem law_t.tw8592654837896532321 : True := trivial
theorem law_t.tw15820021197358151085 : True := trivial
theorem law_t.tw9585703003529059856 : True := trivial
theorem law_t.tw17842438192881012954 : True := trivial
theorem law_t.tw14371306751658892322 : True := trivial
theorem law_t.tw2447215386581433512 : True := trivial
theorem law_t.tw6641723821640377794 : True := trivial
theorem law_t.tw787364923809731644 : True := trivial
theorem law_t.tw11502021186877199774 : True := trivial
theorem law_t.tw18150315385723173287 : True := trivial
theorem law_t.tw150274920203529187 : True := trivial
theorem law_t.tw14420999066266301730 : True := trivial
theorem law_t.tw10540443199857666438 : True := trivial
theorem law_t.tw9985569246154797995 : True := trivial
theorem law_t.tw4816607393597910728 : True := trivial
theorem law_t.tw15374698975123761407 : True := trivial
theorem law_t.tw361503863546906610 : True := trivial
theorem law_t.tw7968593681410618259 : True := trivial
theorem law_t.tw176900877010053536 : True := trivial
theorem law_t.tw9828955361926852568 : True := trivial
theorem law_t.tw1577142524228694577 : True := trivial
theorem law_t.tw3487146962104445817 : True := trivial
theorem law_t.tw9562077619487637017 : True := trivial
theorem law_t.tw122009243530650422 : True := trivial
theorem law_t.tw14649587384964536692 : True := trivial
theorem law_t.tw4266910744618112094 : True := trivial
theorem law_t.tw15868471727910976334 : True := trivial
theorem law_t.tw8254581772055389640 : True := trivial
theorem law_t.tw13751000769547731938 : True := trivial
theorem law_t.tw17450766735369586744 : True := trivial
theorem law_t.tw4695933018433771378 : True := trivial
theorem law_t.tw14115250505460580465 : True := trivial
theorem law_t.tw13987127880213372916 : True := trivial
theorem law_t.tw17163709777252351182 : True := trivial
theorem law_t.tw12644545550953437295 : True := trivial
theorem law_t.tw11969938563066281883 : True := trivial
theorem law_t.tw12464034616909125022 : True := trivial
theorem law_t.tw15328170114765190228 : True := trivial
theorem law_t.tw15452650669425576505 : True := trivial
theorem law_t.tw5545602552022757489 : True := trivial
theorem law_t.tw11194019831916552213 : True := trivial
theorem law_t.tw6708842499520056164 : True := trivial
theorem law_t.tw350529333323317086 : True := trivial
theorem law_t.tw15589321623412188211 : True := trivial
theorem law_t.tw10207069762514409335 : True := trivial
theorem law_t.tw17498237517276504073 : True := trivial
theorem law_t.tw1146661256620347375 : True := trivial
theorem law_t.tw13968153211940807561 : True := trivial
theorem law_t.tw2890978763083354284 : True := trivial
theorem law_t.tw5438824963073213587 : True := trivial
theorem law_t.tw3701337432698758644 : True := trivial
theorem law_t.tw15249763812449862656 : True := trivial
theorem law_t.tw12474965310798489947 : True := trivial
theorem law_t.tw14963931763693568909 : True := trivial
theorem law_t.tw11277774511760902338 : True := trivial
theorem law_t.tw8689745410048086374 : True := trivial
theorem law_t.tw15248168527847003806 : True := trivial
set_option Elab.async true in
set_option maxHeartbeats 40000000 in
theorem law_t : PySem.Challenge.rw_nn0369_01.Holds := by
  w_on
  o_law
  k_head
  (case hw => w_witness2)
  refine (?_ : WalkO _ _ _ (kmHook hd.heap_1 _ (fun _ => by kernel_rfl) _).says _ _ _ _)
  w_top off
  k_go0
  (all_goals try k_fold)
  repeat' ((fail_if_success (with_reducible show wpAny _ _ (call (Value.ref 545) _) _ _ _)); first | (k_unfold; (try dsimp only)) | walk1 | (dsimp only; walk1))
  refine cut_taker (by k_asm) ?_ ?_
  · repeat' ((fail_if_success (with_reducible show TakerPost _ _ _ _ _ _ _)); first | (k_unfold; (try dsimp only)) | walk1 | (dsimp only; walk1))
    all_goals (
      rename News (ghostOf _ _) _ _ _ => N0
      rename Fr (ghostOf _ _) _ _ _ => F0
      refine ⟨_, _, _, _, _, _, _, rfl, rfl, F0, news_pull N0, ?_, ⟨_, _, _, _, .head _⟩, ⟨_, by k_mem⟩, ?_⟩)
    · intro q hq
      clear N0 F0
      simp only [List.mem_cons, List.not_mem_nil, or_false] at hq
      rcases hq with rfl | rfl | rfl | rfl | rfl | rfl | rfl | rfl <;> (show @Ne Nat _ _) <;> omega
    · intro p loose mean mg mb R' k t n lim tl dp un gd cn cs a ccd cl outer A₀ base h₀ L₀ m s Q E hR hpl hk hl1 hl2 B F X N T hck hd9 hu ret
      clear N0 F0
      simp only [List.forall_mem_cons] at hR
      obtain ⟨r1, r2, r3, r4, r5, r6, r7, r8, _⟩ := hR
      obtain ⟨cvs, hc1, ⟨ns, hc2⟩, hc3, hc4⟩ : ∃ cvs : List Value, (_, listOf (List.toArray cvs) 0) ∈ R' ∧ (∃ ns, IntsAre cvs ns) ∧ 1 ≤ cvs.length ∧ cvs.length ≤ 63 := ⟨_, r3, ⟨_, .cons _ _ .nil⟩, by simp, by simp⟩
      clear r3 r4
      k_dflt (refine wpAny_call ?_; refine' code_nest ?k1 ?k2 ?k3 ?k4 ?k5 ?kA ?kF ?kK ?k6 ?k7 ?k8 ?k9 ?kB ?_ ?c2 ?c3 ?c4 ?c5; (case kA => exact rfl); (case kF => exact rfl); (case kK => assumption); (case k1 => k_asm); (case k2 => k_asm); (case k3 => k_asm); (case k4 => k_asm); (case k5 => k_asm); (case k6 => k_mem); (case k7 => exact codeRec_news (by k_asm) (by k_mem) (by assumption) (by assumption)); (case k8 => (dsimp only [ktrTop]; simp only [recursionLimit]; omega)); (case k9 => exact BindsTo.of_eq rfl); (case c5 => decide); (case kB => exact locs rfl); (case c2 => exact rfl); (case c3 => exact rfl); (case c4 => exact rfl); k_whole; intro g' L' h' FG' F' N' B' X' T'; (try dsimp only); (try k_fold))
      rename Fr _ _ _ (fun y => List.lookup _ _) => F0
      have F1 : Fr _ _ _ (fun y => List.lookup y [(Str.ofString "limit", Value.int (lim : Nat) tl)]) := F0
      clear F0
      k_steps
      rename (_ < ((lim : Nat) : Int)) => hq1
      rename ((0 : Int) ≤ _) => hq0
      obtain ⟨r, rfl⟩ := Int.eq_ofNat_of_zero_le hq0
      exact ret r _ _ _ _ _ (by omega) (by k_asm) (by k_asm)
    · intro q hq
      clear N0 F0
      simp only [List.mem_cons, List.not_mem_nil, or_false] at hq
      rcases hq with rfl | rfl | rfl | rfl | rfl | rfl | rfl <;> (show @Ne Nat _ _) <;> omega
    · intro p loose mean mg mb R' k t n lim tl dp un gd cn cs a ccd cl outer A₀ base h₀ L₀ m s Q E hR hpl hk hl1 hl2 B F X N T hck hd9 hu ret
      clear N0 F0
      simp only [List.forall_mem_cons] at hR
      obtain ⟨r1, r2, r3, r4, r5, r6, r7, _⟩ := hR
      rename IntsAre _ (List.take _ _) => hI9
      rename (List.length (List.take _ _) = _) => hC9
      rename (decide (List.take _ _ = []) = false) => hE9
      obtain ⟨cvs, hc1, ⟨ns, hc2⟩, hc3, hc4⟩ : ∃ cvs : List Value, (_, listOf (List.toArray cvs) 0) ∈ R' ∧ (∃ ns, IntsAre cvs ns) ∧ 1 ≤ cvs.length ∧ cvs.length ≤ 63 := ⟨_, r4, ⟨_, hI9⟩, by
        have := hI9.length
        have h2 := List.length_pos_iff.mpr (of_decide_eq_false hE9)
        omega, by
        have := hI9.length
        omega⟩
      clear r3 r4
      k_dflt (refine wpAny_call ?_; refine' code_nest ?k1 ?k2 ?k3 ?k4 ?k5 ?kA ?kF ?kK ?k6 ?k7 ?k8 ?k9 ?kB ?_ ?c2 ?c3 ?c4 ?c5; (case kA => exact rfl); (case kF => exact rfl); (case kK => assumption); (case k1 => k_asm); (case k2 => k_asm); (case k3 => k_asm); (case k4 => k_asm); (case k5 => k_asm); (case k6 => k_mem); (case k7 => exact codeRec_news (by k_asm) (by k_mem) (by assumption) (by assumption)); (case k8 => (dsimp only [ktrTop]; simp only [recursionLimit]; omega)); (case k9 => exact BindsTo.of_eq rfl); (case c5 => decide); (case kB => exact locs rfl); (case c2 => exact rfl); (case c3 => exact rfl); (case c4 => exact rfl); k_whole; intro g' L' h' FG' F' N' B' X' T'; (try dsimp only); (try k_fold))
      rename Fr _ _ _ (fun y => List.lookup _ _) => F0
      have F1 : Fr _ _ _ (fun y => List.lookup y [(Str.ofString "limit", Value.int (lim : Nat) tl)]) := F0
      clear F0
      k_steps
      rename (_ < ((lim : Nat) : Int)) => hq1
      rename ((0 : Int) ≤ _) => hq0
      obtain ⟨r, rfl⟩ := Int.eq_ofNat_of_zero_le hq0
      exact ret r _ _ _ _ _ (by omega) (by k_asm) (by k_asm)
  · intro f pl R n t h9 tk9 F9 N9 hne hfn ⟨gps, hgp⟩ TK
    have TT0 := tree_0 _ f pl R hfn TK
    have TT1 := tree_s _ f pl R hfn TK 0 (by decide) TT0
    have TT2 := tree_s _ f pl R hfn TK 1 (by decide) TT1
    obtain ⟨foc, fod, ffd, fsl, rf⟩ := hfn
    have hRR : ∀ q ∈ R, q ∈ R := fun _ h => h
    repeat' ((fail_if_success (with_reducible show wpAny _ _ (call (Value.ref 552) _) _ _ _)); first | (k_unfold; (try dsimp only)) | walk1 | (dsimp only; walk1))
    k_dflt (refine' tree_use TT2 ?x7 ?sub7 ?ne7 ?k7 ?B7 ?F7 ?X7 ?N7 ?T7 ?hk7 ?hd7 ?hu7 ?_; (case x7 => rfl); (case N7 => k_asm); (case sub7 => assumption); (case B7 => k_asm); (case F7 => k_asm); (case X7 => k_asm); (case T7 => k_asm); (case ne7 => assumption); (case k7 => decide); (case hk7 => exact rfl); (case hd7 => ktr_units); (case hu7 => ktr_units); k_whole)
    intro v1 tr k1 t1 n1 tl1 h1 tk1 hk1 F1 N1 ne1 D1 hwf hht
    clear TT0 TT2
    have hwe := we_wf tr hwf
    have hweh := we_ht tr
    have hbare := we_cbe hwf
    simp only [cT] at hk1
    repeat' ((fail_if_success (with_reducible show wpAny _ _ (call (Value.ref 517) _) _ _ _)); first | (k_unfold; (try dsimp only)) | walk1 | (dsimp only; walk1))
    · rename W (L tr) _ => Wb
      have hfull := W_full Wb hwf
      refine cut_end1 (tr := tr) (by k_asm) Wb (by assumption) (by assumption) (by assumption) (by k_mem) (by k_mem) (by ktd_rel) (by k_mem) ?_
      repeat ((with_reducible rename (_ ∈ _) => hx9); clear hx9)
      intro Y9 NY9 mt9 mw9 mf9 nd9 tr9
      have mk9 : HasTrail := trivial
      obtain ⟨c9, hcb⟩ : ∃ c, cbe tr = c := ⟨_, rfl⟩
      have hany := any_cbe Wb hwf hcb
      repeat' ((fail_if_success (with_reducible show wpAny _ _ (exec (PySem.Stmt.If (PySem.Expr.BoolOp PySem.BoolOp.And _ _) _ _ _) _) _ _ _)); first | (k_unfold; (try dsimp only)) | walk1 | (dsimp only; walk1))
      k_fold
      rename (Flow → Shared → Prop) => K9
      rename News _ _ _ _ => N9
      rename Fr _ _ _ _ => F9
      rename NIn _ _ (we tr) => nb9
      refine join_tail (v := Flow.next) F9 N9 ?_ ?_
      · intro h8 tk8 X8 F8 N8 sub8
        have sY : ∀ p ∈ Y9, p ∈ X8 := fun p hp => sub8 p (by k_mem)
        have mt8 := sY _ mt9
        have mw8 := sY _ mw9
        have mf8 := sY _ mf9
        have nd8 := nd9.mono sY
        have tr8 := tr9.mono sY
        have nb8 := nb9.mono fun p hp => sub8 p (by k_mem)
        (try clear F9); (try clear N9); (try clear NY9); (try clear mt9); (try clear mw9); (try clear mf9); (try clear nd9); (try clear nb9); (try clear sY); (try clear sub8); (try clear hany); (try clear hcb); (try clear tr9)
        k_steps
      · intro tail9
        clear_value K9
        cases c9
        · rw [we_neg hcb] at nb9
          k_steps
          exact tail9 _ _ _ (by k_asm) (by k_asm) (by ktd_sub)
        · k_steps
          exact tail9 _ _ _ (by k_asm) (by k_asm) (by ktd_sub)
    · rename W (L tr) _ => Wb
      have hfull := W_full Wb hwf
      refine cut_end (tr := tr) (by k_asm) Wb (by assumption) (by assumption) (by assumption) (by k_mem) (by k_mem) (by k_mem) ?_
      repeat ((with_reducible rename (_ ∈ _) => hx9); clear hx9)
      intro Y9 NY9 mt9 mw9 mf9 nd9
      have mk9 : NoTrail := trivial
      obtain ⟨c9, hcb⟩ : ∃ c, cbe tr = c := ⟨_, rfl⟩
      have hany := any_cbe Wb hwf hcb
      repeat' ((fail_if_success (with_reducible show wpAny _ _ (exec (PySem.Stmt.If (PySem.Expr.BoolOp PySem.BoolOp.And _ _) _ _ _) _) _ _ _)); first | (k_unfold; (try dsimp only)) | walk1 | (dsimp only; walk1))
      k_fold
      rename (Flow → Shared → Prop) => K9
      rename News _ _ _ _ => N9
      rename Fr _ _ _ _ => F9
      rename NIn _ _ (we tr) => nb9
      refine join_tail (v := Flow.next) F9 N9 ?_ ?_
      · intro h8 tk8 X8 F8 N8 sub8
        have sY : ∀ p ∈ Y9, p ∈ X8 := fun p hp => sub8 p (by k_mem)
        have mt8 := sY _ mt9
        have mw8 := sY _ mw9
        have mf8 := sY _ mf9
        have nd8 := nd9.mono sY
        have nb8 := nb9.mono fun p hp => sub8 p (by k_mem)
        (try clear F9); (try clear N9); (try clear NY9); (try clear mt9); (try clear mw9); (try clear mf9); (try clear nd9); (try clear nb9); (try clear sY); (try clear sub8); (try clear hany); (try clear hcb)
        k_steps
      · intro tail9
        clear_value K9
        cases c9
        · rw [we_neg hcb] at nb9
          k_steps
          exact tail9 _ _ _ (by k_asm) (by k_asm) (by ktd_sub)
        · k_steps
          exact tail9 _ _ _ (by k_asm) (by k_asm) (by ktd_sub)
end
end
end Mine
set_option maxHeartbeats 40000000 in
theorem PySem.Challenge.cw_nn0369_01_holds : PySem.Challenge.rw_nn0369_01.Holds := by
  exact Mine.law_t
