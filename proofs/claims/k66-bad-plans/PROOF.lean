import PyProof.Rows.All
import Wide.All
import OpenK.AllK
import Wide.FinOn
import HandS.Codes
import KE.IntTextText
import HandS.Base
import HandS.List
import HandS.IsInst
import HandS.Text
import HandS.Call
import HandS.Comp
import HandS.Ends
import HandS.Iter
import HandS.Words
import HandS.WordsList
import HandS.Exc
import HandS.ExcOwn
import HandS.ExcCtx
import HandS.ExcInit
import HandS.ExcField
import HandS.ExcIs
import HandS.HotCalls
import KE.KExcIs
import HandS.Dict
import HandS.DictComp
import HandS.Flt
import HandS.TryOnly
import HandS.ExcValue
import HandS.FStr
import HandS.Wide
import HandS.Walk
import PySem.Challenge.RW_wholecables_k66_bad_plans
set_option Elab.async false
set_option linter.all false
set_option maxRecDepth 100000
set_option maxHeartbeats 4000000
/-! Plans, the texts that write them, what a reader sees of such a text. -/
namespace P66
open PySem SX

/-- a plan -/
inductive Plan where
  | take (n : List Nat)
  | join (a b : Plan)
  | scale (p q : Nat) (a : Plan)
  | spare (a : Plan)
  | base (a : Plan)
  | thin (k : Nat) (a : Plan)

namespace Plan
def height : Plan → Nat
  | take _ => 1
  | join a b => max a.height b.height + 1
  | scale _ _ a => a.height + 1
  | spare a => a.height + 1
  | base a => a.height + 1
  | thin _ a => a.height + 1
def count : Plan → Nat
  | take _ => 1
  | join a b => 1 + a.count + b.count
  | scale _ _ a => 1 + a.count
  | spare a => 1 + a.count
  | base a => 1 + a.count
  | thin _ a => 1 + a.count
end Plan

/-- the signs of a word -/
def tThin : List Nat := [116, 104, 105, 110]
def tSpare : List Nat := [115, 112, 97, 114, 101]
def tBase : List Nat := [98, 97, 115, 101]
/-- small letters, digits -/
def letter (c : Nat) : Bool := decide (97 ≤ c ∧ c ≤ 122)
def digit (c : Nat) : Bool := decide (48 ≤ c ∧ c ≤ 57)
/-- a name: 1 to 8 small letters, none of the three words -/
structure GoodName (n : List Nat) : Prop where
  pos : 1 ≤ n.length
  le : n.length ≤ 8
  let_ : ∀ c ∈ n, letter c = true
  thin : n ≠ tThin
  spare : n ≠ tSpare
  base : n ≠ tBase
def Good : Plan → Prop
  | .take n => GoodName n
  | .join a b => Good a ∧ Good b
  | .scale p q a => (1 ≤ p ∧ p ≤ 999) ∧ (1 ≤ q ∧ q ≤ 999) ∧ Good a
  | .spare a => Good a
  | .base a => Good a
  | .thin k a => (2 ≤ k ∧ k ≤ 10) ∧ Good a

/-- the text that writes a plan -/
def fmt : Plan → List Nat
  | .take n => n
  | .join a b => [40] ++ fmt a ++ [32, 43, 32] ++ fmt b ++ [41]
  | .scale p q a => TL.numL p ++ [47] ++ TL.numL q ++ [32, 42, 32] ++ fmt a
  | .spare a => tSpare ++ [32] ++ fmt a
  | .base a => tBase ++ [32] ++ fmt a
  | .thin k a => tThin ++ [32] ++ TL.numL k ++ [32] ++ fmt a

theorem numL_le3 {p : Nat} (h : p ≤ 999) : (TL.numL p).length ≤ 3 := TL.numL_len (by decide) (Nat.lt_of_le_of_lt h (by decide))
theorem numL_digit (p : Nat) : ∀ c ∈ TL.numL p, digit c = true := fun c hc => by
  have h := TL.numL_digits p c hc
  exact decide_eq_true ⟨h.1, h.2⟩
/-- the first sign of a number above 0 is no zero -/
theorem numL_head : ∀ {p : Nat}, 1 ≤ p → ∃ c r, TL.numL p = c :: r ∧ c ≠ 48 := fun {p} => by
  induction p using Nat.strongRecOn with
  | _ p ih =>
    intro h
    by_cases h10 : p < 10
    · exact ⟨48 + p, [], TL.numL_lt h10, by omega⟩
    · obtain ⟨c, r, e, n⟩ := ih (p / 10) (by omega) (by omega)
      exact ⟨c, r ++ [48 + p % 10], by rw [TL.numL_step (by omega), e]; rfl, n⟩
theorem numL_pos (p : Nat) : 1 ≤ (TL.numL p).length := List.length_pos_iff.mpr (TL.numL_ne p)

/-- how long a text is -/
theorem fmt_len : ∀ {a : Plan}, Good a → (fmt a).length ≤ 16 * a.count
  | .take n, h => by have := h.le; simp only [fmt, Plan.count]; omega
  | .join a b, h => by
    have h1 := fmt_len h.1
    have h2 := fmt_len h.2
    simp only [fmt, Plan.count, List.length_append, List.length_cons, List.length_nil]
    omega
  | .scale p q a, h => by
    have h1 := fmt_len h.2.2
    have h2 := numL_le3 h.1.2
    have h3 := numL_le3 h.2.1.2
    simp only [fmt, Plan.count, List.length_append, List.length_cons, List.length_nil]
    omega
  | .spare a, h => by
    have h1 := fmt_len (a := a) h
    simp only [fmt, tSpare, Plan.count, List.length_append, List.length_cons, List.length_nil]
    omega
  | .base a, h => by
    have h1 := fmt_len (a := a) h
    simp only [fmt, tBase, Plan.count, List.length_append, List.length_cons, List.length_nil]
    omega
  | .thin k a, h => by
    have h1 := fmt_len h.2
    have h2 := numL_le3 (p := k) (by have := h.1.2; omega)
    simp only [fmt, tThin, Plan.count, List.length_append, List.length_cons, List.length_nil]
    omega
theorem count_pos : ∀ a : Plan, 1 ≤ a.count
  | .take _ => Nat.le_refl 1
  | .join a b => by simp only [Plan.count]; omega
  | .scale _ _ a => by simp only [Plan.count]; omega
  | .spare a => by simp only [Plan.count]; omega
  | .base a => by simp only [Plan.count]; omega
  | .thin _ a => by simp only [Plan.count]; omega
theorem height_pos : ∀ a : Plan, 1 ≤ a.height
  | .take _ => Nat.le_refl 1
  | .join a b => by simp only [Plan.height]; omega
  | .scale _ _ a => by simp only [Plan.height]; omega
  | .spare a => by simp only [Plan.height]; omega
  | .base a => by simp only [Plan.height]; omega
  | .thin _ a => by simp only [Plan.height]; omega

/-- what stands behind a plan: nothing, a bracket, a blank -/
def Stop (r : List Nat) : Prop := ∀ c, r.head? = some c → c = 41 ∨ c = 32
theorem Stop.nil : Stop [] := fun c h => by simp at h
theorem Stop.cons {c : Nat} {r : List Nat} (h : c = 41 ∨ c = 32) : Stop (c :: r) := fun d hd => by
  have e : c = d := Option.some.inj hd
  subst e; exact h
theorem tw_app {p : Nat → Bool} {a r : List Nat} (ha : ∀ c ∈ a, p c = true) (hr : ∀ c, r.head? = some c → p c = false) : (a ++ r).takeWhile p = a := by
  induction a with
  | nil =>
    cases r with
    | nil => rfl
    | cons c r => rw [List.nil_append, List.takeWhile_cons, if_neg (by rw [hr c rfl]; exact Bool.false_ne_true)]
  | cons c a ih =>
    rw [List.cons_append, List.takeWhile_cons, if_pos (ha c List.mem_cons_self), ih fun d hd => ha d (List.mem_cons_of_mem _ hd)]
theorem Stop.letter {r : List Nat} (h : Stop r) : ∀ c, r.head? = some c → letter c = false := fun c e => by
  rcases h c e with rfl | rfl <;> decide
theorem Stop.digit {r : List Nat} (h : Stop r) : ∀ c, r.head? = some c → digit c = false := fun c e => by
  rcases h c e with rfl | rfl <;> decide

/-- the kind of a plan's first sign -/
inductive Kind where | bracket | number | word
def kind : Plan → Kind
  | .join _ _ => .bracket
  | .scale _ _ _ => .number
  | _ => .word
theorem head_name {n : List Nat} (h : GoodName n) : ∃ c r, n = c :: r ∧ letter c = true := by
  cases n with
  | nil => exact absurd h.pos (by decide)
  | cons c r => exact ⟨c, r, rfl, h.let_ c List.mem_cons_self⟩
/-- a written plan begins with a bracket, a digit or a letter, as its kind says -/
theorem fmt_head : ∀ {a : Plan}, Good a → ∃ c r, fmt a = c :: r ∧ (match kind a with | .bracket => c = 40 | .number => digit c = true | .word => letter c = true)
  | .take n, h => head_name h
  | .join a b, h => ⟨40, _, rfl, rfl⟩
  | .scale p q a, h => by
    obtain ⟨c, r, e, _⟩ := numL_head h.1.1
    refine ⟨c, r ++ ([47] ++ TL.numL q ++ [32, 42, 32] ++ fmt a), ?_, numL_digit p c (by rw [e]; exact List.mem_cons_self)⟩
    simp only [fmt, e, List.cons_append, List.append_assoc]
  | .spare a, h => ⟨115, _, rfl, by show letter 115 = true; decide⟩
  | .base a, h => ⟨98, _, rfl, by show letter 98 = true; decide⟩
  | .thin k a, h => ⟨116, _, rfl, by show letter 116 = true; decide⟩
/-! ### what a reader of any text does -/
def dg (l : List Nat) : List Nat := l.takeWhile digit
def lw (l : List Nat) : List Nat := l.takeWhile letter
def dv (w : List Nat) : Nat := NumText.digitsVal w
theorem tw_mem {p : Nat → Bool} : ∀ {l : List Nat}, ∀ c ∈ l.takeWhile p, p c = true
  | [], c, h => nomatch h
  | x :: l, c, h => by
    rw [List.takeWhile_cons] at h
    by_cases hx : p x = true
    · rw [if_pos hx] at h
      rcases List.mem_cons.mp h with rfl | h
      · exact hx
      · exact tw_mem c h
    · rw [if_neg hx] at h
      cases h
theorem tw_cut {p : Nat → Bool} : ∀ l : List Nat, l = l.takeWhile p ++ l.drop (l.takeWhile p).length
  | [] => rfl
  | x :: l => by
    rw [List.takeWhile_cons]
    by_cases hx : p x = true
    · rw [if_pos hx, List.length_cons, List.drop_succ_cons, List.cons_append, ← tw_cut l]
    · rw [if_neg hx]
      rfl
theorem dg_all (l : List Nat) : ∀ c ∈ dg l, digit c = true := tw_mem
theorem lw_all (l : List Nat) : ∀ c ∈ lw l, letter c = true := tw_mem
theorem dg_cut (l : List Nat) : l = dg l ++ l.drop (dg l).length := tw_cut l
theorem lw_cut (l : List Nat) : l = lw l ++ l.drop (lw l).length := tw_cut l
/-- a number without useless signs -/
theorem num_of {w : List Nat} (hd : ∀ c ∈ w, digit c = true) (hne : w ≠ []) (h0 : w.head? = some 48 → w = [48]) : TL.numL (dv w) = w := by
  have hall : NumText.AllDigits w := fun c hc => by
    have := of_decide_eq_true (hd c hc)
    exact ⟨this.1, this.2⟩
  obtain ⟨c, r, rfl⟩ : ∃ c r, w = c :: r := by
    cases w with
    | nil => exact absurd rfl hne
    | cons c r => exact ⟨c, r, rfl⟩
  have e := NumText.toDigits_digitsVal r.length (c :: r) rfl hall (by
    have hc := of_decide_eq_true (hd c List.mem_cons_self)
    by_cases h : c = 48
    · subst h
      have := h0 rfl
      have hr : r = [] := (List.cons.inj this).2
      exact .inl (by rw [hr]; rfl)
    · exact .inr ⟨c, r, rfl, by omega⟩)
  unfold TL.numL dv
  rw [e, List.map_map]
  conv => rhs; rw [← List.map_id (c :: r)]
  refine List.map_congr_left fun x hx => ?_
  have hx := of_decide_eq_true (hd x hx)
  show (Char.ofNat x).toNat = x
  have h1 : x = 48 ∨ x = 49 ∨ x = 50 ∨ x = 51 ∨ x = 52 ∨ x = 53 ∨ x = 54 ∨ x = 55 ∨ x = 56 ∨ x = 57 := by omega
  rcases h1 with rfl | rfl | rfl | rfl | rfl | rfl | rfl | rfl | rfl | rfl <;> rfl
def bh (p l : List Nat) : Option (List Nat) := if l.take p.length = p then some (l.drop p.length) else none
theorem bh_some {p l r : List Nat} (h : bh p l = some r) : l = p ++ r := by
  unfold bh at h
  split at h
  · rename_i e
    cases h
    conv => lhs; rw [← List.take_append_drop p.length l]
    rw [e]
  · cases h
theorem bh_app (p r : List Nat) : bh p (p ++ r) = some r := by
  unfold bh
  rw [if_pos List.take_left, List.drop_left]
def wh (w : List Nat) : Option Nat := if w = [] then none else if w.head? = some 48 ∧ w ≠ [48] then none else some (dv w)
def rn (least most : Nat) (l : List Nat) : Option (Nat × List Nat) := (wh (dg l)).bind fun n => if n < least ∨ n > most then none else some (n, l.drop (dg l).length)
theorem rn_some {a b n : Nat} {l r : List Nat} (h : rn a b l = some (n, r)) : l = TL.numL n ++ r ∧ a ≤ n ∧ n ≤ b := by
  unfold rn wh at h
  by_cases h1 : dg l = []
  · rw [if_pos h1] at h
    cases h
  · rw [if_neg h1] at h
    by_cases h2 : (dg l).head? = some 48 ∧ dg l ≠ [48]
    · rw [if_pos h2] at h
      cases h
    · rw [if_neg h2] at h
      have h : (if dv (dg l) < a ∨ dv (dg l) > b then none else some (dv (dg l), l.drop (dg l).length)) = some (n, r) := h
      by_cases h3 : dv (dg l) < a ∨ dv (dg l) > b
      · rw [if_pos h3] at h
        cases h
      · rw [if_neg h3] at h
        cases h
        have e := num_of (dg_all l) h1 fun z => by
          by_cases y : dg l = [48]
          · exact y
          · exact absurd ⟨z, y⟩ h2
        exact ⟨by rw [e]; exact dg_cut l, by omega, by omega⟩
theorem dg_num {n : Nat} {r : List Nat} (hr : ∀ c, r.head? = some c → digit c = false) : dg (TL.numL n ++ r) = TL.numL n := tw_app (numL_digit n) hr
theorem dv_num (n : Nat) : dv (TL.numL n) = n := TL.numL_val n
theorem rn_app {a b n : Nat} {r : List Nat} (h1 : 1 ≤ n) (ha : a ≤ n) (hb : n ≤ b) (hr : ∀ c, r.head? = some c → digit c = false) : rn a b (TL.numL n ++ r) = some (n, r) := by
  obtain ⟨c, t, e, hc⟩ := numL_head h1
  unfold rn wh
  rw [dg_num hr, if_neg (TL.numL_ne n), if_neg (fun z => by have := z.1; rw [e] at this; exact hc (Option.some.inj this)), dv_num, List.drop_left]
  show (if n < a ∨ n > b then none else some (n, r)) = some (n, r)
  rw [if_neg (by omega)]
abbrev Rd := List Nat → Option (Plan × List Nat)
def rJoin (f : Rd) : Rd := fun l => (bh [40] l).bind fun l1 => (f l1).bind fun x => (bh [32, 43, 32] x.2).bind fun l2 => (f l2).bind fun y => (bh [41] y.2).bind fun r => some (.join x.1 y.1, r)
def rScale (f : Rd) : Rd := fun l => (rn 1 999 l).bind fun m => (bh [47] m.2).bind fun l2 => (rn 1 999 l2).bind fun n => (bh [32, 42, 32] n.2).bind fun l4 => (f l4).bind fun x => some (.scale m.1 n.1 x.1, x.2)
def rThin (f : Rd) : Rd := fun l => (bh (tThin ++ [32]) l).bind fun l1 => (rn 2 10 l1).bind fun k => (bh [32] k.2).bind fun l3 => (f l3).bind fun x => some (.thin k.1 x.1, x.2)
def rWord (f : Rd) : Rd := fun l => if lw l = tThin then rThin f l else if lw l = tSpare ∨ lw l = tBase then (bh [32] (l.drop (lw l).length)).bind fun l1 => (f l1).bind fun x => some (if lw l = tSpare then .spare x.1 else .base x.1, x.2)
  else if lw l = [] ∨ (lw l).length > 8 then none else some (.take (lw l), l.drop (lw l).length)
def rp : Nat → Rd
  | 0 => fun _ => none
  | d + 1 => fun l => if l.take 1 = [40] then rJoin (rp d) l else if dg l ≠ [] then rScale (rp d) l else rWord (rp d) l
theorem bind_some {α β : Type} {x : Option α} {f : α → Option β} {b : β} (h : x.bind f = some b) : ∃ a, x = some a ∧ f a = some b := by
  cases x with
  | none => cases h
  | some a => exact ⟨a, rfl, h⟩
/-- what is read is what is written -/
def Snd (d : Nat) (f : Rd) : Prop := ∀ l pl r, f l = some (pl, r) → l = fmt pl ++ r ∧ Good pl ∧ pl.height ≤ d
theorem join_snd {d : Nat} {f : Rd} (s : Snd d f) : Snd (d + 1) (rJoin f) := fun l pl r h => by
  obtain ⟨l1, h1, h⟩ := bind_some h
  obtain ⟨⟨x, r1⟩, h2, h⟩ := bind_some h
  obtain ⟨l2, h3, h⟩ := bind_some h
  obtain ⟨⟨y, r3⟩, h4, h⟩ := bind_some h
  obtain ⟨r', h5, h⟩ := bind_some h
  cases h
  obtain ⟨e1, g1, k1⟩ := s _ _ _ h2
  obtain ⟨e2, g2, k2⟩ := s _ _ _ h4
  have b1 := bh_some h1
  have b2 : r1 = [32, 43, 32] ++ l2 := bh_some h3
  have b3 : r3 = [41] ++ r := bh_some h5
  refine ⟨?_, ⟨g1, g2⟩, by simp only [Plan.height]; omega⟩
  rw [b1, e1, b2, e2, b3]
  simp only [fmt, List.append_assoc]
theorem scale_snd {d : Nat} {f : Rd} (s : Snd d f) : Snd (d + 1) (rScale f) := fun l pl r h => by
  obtain ⟨⟨m, r1⟩, h1, h⟩ := bind_some h
  obtain ⟨l2, h2, h⟩ := bind_some h
  obtain ⟨⟨n, r3⟩, h3, h⟩ := bind_some h
  obtain ⟨l4, h4, h⟩ := bind_some h
  obtain ⟨⟨x, r5⟩, h5, h⟩ := bind_some h
  cases h
  obtain ⟨e1, m1, m9⟩ := rn_some h1
  obtain ⟨e3, n1, n9⟩ := rn_some h3
  obtain ⟨e5, g, k⟩ := s _ _ _ h5
  have b2 : r1 = [47] ++ l2 := bh_some h2
  have b4 : r3 = [32, 42, 32] ++ l4 := bh_some h4
  refine ⟨?_, ⟨⟨m1, m9⟩, ⟨n1, n9⟩, g⟩, by simp only [Plan.height]; omega⟩
  rw [e1, b2, e3, b4, e5]
  simp only [fmt, List.append_assoc]
theorem thin_snd {d : Nat} {f : Rd} (s : Snd d f) : Snd (d + 1) (rThin f) := fun l pl r h => by
  obtain ⟨l1, h1, h⟩ := bind_some h
  obtain ⟨⟨k, r2⟩, h2, h⟩ := bind_some h
  obtain ⟨l3, h3, h⟩ := bind_some h
  obtain ⟨⟨x, r4⟩, h4, h⟩ := bind_some h
  cases h
  have b1 := bh_some h1
  obtain ⟨e2, k2, k10⟩ := rn_some h2
  have b3 : r2 = [32] ++ l3 := bh_some h3
  obtain ⟨e4, g, hh⟩ := s _ _ _ h4
  refine ⟨?_, ⟨⟨k2, k10⟩, g⟩, by simp only [Plan.height]; omega⟩
  rw [b1, e2, b3, e4]
  simp only [fmt, List.append_assoc]
theorem word_snd {d : Nat} {f : Rd} (s : Snd d f) : Snd (d + 1) (rWord f) := fun l pl r h => by
  unfold rWord at h
  by_cases h1 : lw l = tThin
  · rw [if_pos h1] at h
    exact thin_snd s _ _ _ h
  rw [if_neg h1] at h
  by_cases h2 : lw l = tSpare ∨ lw l = tBase
  · rw [if_pos h2] at h
    obtain ⟨l1, h3, h⟩ := bind_some h
    obtain ⟨⟨x, r2⟩, h4, h⟩ := bind_some h
    have b := bh_some h3
    obtain ⟨e, g, hh⟩ := s _ _ _ h4
    have c := lw_cut l
    by_cases h5 : lw l = tSpare
    · rw [if_pos h5] at h
      cases h
      refine ⟨?_, g, by simp only [Plan.height]; omega⟩
      rw [c, b, h5, e]
      simp only [fmt, List.append_assoc]
    · rw [if_neg h5] at h
      cases h
      have h6 : lw l = tBase := h2.resolve_left h5
      refine ⟨?_, g, by simp only [Plan.height]; omega⟩
      rw [c, b, h6, e]
      simp only [fmt, List.append_assoc]
  rw [if_neg h2] at h
  by_cases h3 : lw l = [] ∨ (lw l).length > 8
  · rw [if_pos h3] at h
    cases h
  · rw [if_neg h3] at h
    cases h
    have hne : lw l ≠ [] := fun z => h3 (.inl z)
    have hp := List.length_pos_iff.mpr hne
    exact ⟨lw_cut l, ⟨hp, by omega, lw_all l, h1, fun z => h2 (.inl z), fun z => h2 (.inr z)⟩, by show 1 ≤ d + 1; omega⟩
theorem rp_snd : ∀ d, Snd d (rp d)
  | 0 => fun l pl r h => by cases h
  | d + 1 => fun l pl r h => by
    have h : (if l.take 1 = [40] then rJoin (rp d) l else if dg l ≠ [] then rScale (rp d) l else rWord (rp d) l) = some (pl, r) := h
    by_cases h1 : l.take 1 = [40]
    · rw [if_pos h1] at h
      exact join_snd (rp_snd d) _ _ _ h
    rw [if_neg h1] at h
    by_cases h2 : dg l ≠ []
    · rw [if_pos h2] at h
      exact scale_snd (rp_snd d) _ _ _ h
    · rw [if_neg h2] at h
      exact word_snd (rp_snd d) _ _ _ h
end P66
/-! The reader reads what is written; the law's reader; both agree. -/
namespace P66
open PySem SX
theorem lw_app {x r : List Nat} (hx : ∀ c ∈ x, letter c = true) (hr : ∀ c, r.head? = some c → letter c = false) : lw (x ++ r) = x := tw_app hx hr
theorem dg_none {c : Nat} {r : List Nat} (h : digit c = false) : dg (c :: r) = [] := by
  unfold dg
  rw [List.takeWhile_cons, if_neg (by rw [h]; exact Bool.false_ne_true)]
theorem blank_l : ∀ c, ([32] : List Nat).head? = some c → letter c = false := fun c e => by cases e; decide
theorem head_blank {r : List Nat} : ∀ c, ([32] ++ r).head? = some c → letter c = false := fun c e => by cases e; decide
theorem slash_d {r : List Nat} : ∀ c, ([47] ++ r).head? = some c → digit c = false := fun c e => by cases e; decide
theorem blank_d {r : List Nat} : ∀ c, ([32] ++ r).head? = some c → digit c = false := fun c e => by cases e; decide
theorem star_d {r : List Nat} : ∀ c, ([32, 42, 32] ++ r).head? = some c → digit c = false := fun c e => by cases e; decide
theorem stop_plus {r : List Nat} : Stop ([32, 43, 32] ++ r) := Stop.cons (.inr rfl)
theorem stop_rp {r : List Nat} : Stop ([41] ++ r) := Stop.cons (.inl rfl)
theorem thin_l : ∀ c ∈ tThin, letter c = true := by decide
theorem spare_l : ∀ c ∈ tSpare, letter c = true := by decide
theorem base_l : ∀ c ∈ tBase, letter c = true := by decide
theorem head_word {n r : List Nat} (h : GoodName n) : (n ++ r).take 1 ≠ [40] ∧ dg (n ++ r) = [] := by
  obtain ⟨c, t, e, hc⟩ := head_name h
  rw [e, List.cons_append]
  have h1 := of_decide_eq_true hc
  refine ⟨fun z => ?_, dg_none (decide_eq_false (by omega))⟩
  have : c = 40 := List.head_eq_of_cons_eq z
  omega
theorem word_head {x r : List Nat} {c : Nat} {t : List Nat} (e : x = c :: t) (hc : letter c = true) : (x ++ r).take 1 ≠ [40] ∧ dg (x ++ r) = [] := by
  rw [e, List.cons_append]
  have h1 := of_decide_eq_true hc
  refine ⟨fun z => ?_, dg_none (decide_eq_false (by omega))⟩
  have : c = 40 := List.head_eq_of_cons_eq z
  omega
theorem num_first {p : Nat} {r : List Nat} (h1 : 1 ≤ p) (hr : ∀ c, r.head? = some c → digit c = false) : (TL.numL p ++ r).take 1 ≠ [40] ∧ dg (TL.numL p ++ r) = TL.numL p := by
  obtain ⟨c, t, e, hc⟩ := numL_head h1
  refine ⟨fun z => ?_, dg_num hr⟩
  rw [e, List.cons_append] at z
  have : c = 40 := List.head_eq_of_cons_eq z
  have hd := numL_digit p c (by rw [e]; exact List.mem_cons_self)
  rw [this] at hd
  exact absurd hd (by decide)
theorem bd {α β : Type} {x : Option α} {a : α} {f : α → Option β} (h : x = some a) : x.bind f = f a := by rw [h]; rfl
theorem rp_join {d : Nat} {l : List Nat} (h : l.take 1 = [40]) : rp (d + 1) l = rJoin (rp d) l := by
  show (if l.take 1 = [40] then rJoin (rp d) l else if dg l ≠ [] then rScale (rp d) l else rWord (rp d) l) = _
  rw [if_pos h]
theorem rp_scale {d : Nat} {l : List Nat} (h : l.take 1 ≠ [40]) (h2 : dg l ≠ []) : rp (d + 1) l = rScale (rp d) l := by
  show (if l.take 1 = [40] then rJoin (rp d) l else if dg l ≠ [] then rScale (rp d) l else rWord (rp d) l) = _
  rw [if_neg h, if_pos h2]
theorem rp_word {d : Nat} {l : List Nat} (h : l.take 1 ≠ [40]) (h2 : dg l = []) : rp (d + 1) l = rWord (rp d) l := by
  show (if l.take 1 = [40] then rJoin (rp d) l else if dg l ≠ [] then rScale (rp d) l else rWord (rp d) l) = _
  rw [if_neg h, if_neg (fun z => z h2)]
theorem rp_full : ∀ {d : Nat} {pl : Plan} {r : List Nat}, Good pl → pl.height ≤ d → Stop r → rp d (fmt pl ++ r) = some (pl, r)
  | 0, pl, r, _, h, _ => by have := height_pos pl; omega
  | d + 1, .take n, r, g, h, st => by
    obtain ⟨h1, h2⟩ := head_word (r := r) g
    have e := lw_app g.let_ st.letter
    show rp (d + 1) (n ++ r) = some (.take n, r)
    rw [rp_word h1 h2]
    unfold rWord
    rw [e, if_neg g.thin, if_neg (fun z => z.elim g.spare g.base), if_neg (fun z => z.elim (fun y => by have := g.pos; rw [y] at this; exact absurd this (by decide)) (fun y => by have := g.le; omega)), List.drop_left]
  | d + 1, .join x y, r, g, h, st => by
    simp only [Plan.height] at h
    have e : fmt (.join x y) ++ r = [40] ++ (fmt x ++ ([32, 43, 32] ++ (fmt y ++ ([41] ++ r)))) := by simp only [fmt, List.append_assoc]
    rw [e, rp_join rfl]
    unfold rJoin
    rw [bd (bh_app _ _), bd (rp_full g.1 (by omega) stop_plus), bd (bh_app _ _), bd (rp_full g.2 (by omega) stop_rp), bd (bh_app _ _)]
  | d + 1, .scale m n x, r, g, h, st => by
    simp only [Plan.height] at h
    have e : fmt (.scale m n x) ++ r = TL.numL m ++ ([47] ++ (TL.numL n ++ ([32, 42, 32] ++ (fmt x ++ r)))) := by simp only [fmt, List.append_assoc]
    rw [e]
    obtain ⟨h1, h2⟩ := num_first (p := m) (r := [47] ++ (TL.numL n ++ ([32, 42, 32] ++ (fmt x ++ r)))) g.1.1 slash_d
    rw [rp_scale h1 (by rw [h2]; exact TL.numL_ne m)]
    unfold rScale
    rw [bd (rn_app g.1.1 g.1.1 g.1.2 slash_d), bd (bh_app _ _), bd (rn_app g.2.1.1 g.2.1.1 g.2.1.2 star_d), bd (bh_app _ _), bd (rp_full g.2.2 (by omega) st)]
  | d + 1, .spare x, r, g, h, st => by
    simp only [Plan.height] at h
    have e : fmt (.spare x) ++ r = tSpare ++ ([32] ++ (fmt x ++ r)) := by simp only [fmt, List.append_assoc]
    rw [e]
    obtain ⟨h1, h2⟩ := word_head (r := [32] ++ (fmt x ++ r)) (show tSpare = 115 :: _ from rfl) (by decide)
    have el := lw_app (r := [32] ++ (fmt x ++ r)) spare_l head_blank
    rw [rp_word h1 h2]
    unfold rWord
    rw [el, if_neg (by decide), if_pos (.inl rfl), List.drop_left, bd (bh_app _ _), bd (rp_full (pl := x) g (by omega) st), if_pos rfl]
  | d + 1, .base x, r, g, h, st => by
    simp only [Plan.height] at h
    have e : fmt (.base x) ++ r = tBase ++ ([32] ++ (fmt x ++ r)) := by simp only [fmt, List.append_assoc]
    rw [e]
    obtain ⟨h1, h2⟩ := word_head (r := [32] ++ (fmt x ++ r)) (show tBase = 98 :: _ from rfl) (by decide)
    have el := lw_app (r := [32] ++ (fmt x ++ r)) base_l head_blank
    rw [rp_word h1 h2]
    unfold rWord
    rw [el, if_neg (by decide), if_pos (.inr rfl), List.drop_left, bd (bh_app _ _), bd (rp_full (pl := x) g (by omega) st), if_neg (by decide)]
  | d + 1, .thin k x, r, g, h, st => by
    simp only [Plan.height] at h
    have e : fmt (.thin k x) ++ r = (tThin ++ [32]) ++ (TL.numL k ++ ([32] ++ (fmt x ++ r))) := by simp only [fmt, List.append_assoc]
    have e2 : fmt (.thin k x) ++ r = tThin ++ ([32] ++ (TL.numL k ++ ([32] ++ (fmt x ++ r)))) := by simp only [fmt, List.append_assoc]
    obtain ⟨h1, h2⟩ := word_head (r := [32] ++ (TL.numL k ++ ([32] ++ (fmt x ++ r)))) (show tThin = 116 :: _ from rfl) (by decide)
    have el := lw_app (r := [32] ++ (TL.numL k ++ ([32] ++ (fmt x ++ r)))) thin_l head_blank
    rw [← e2] at h1 h2 el
    rw [rp_word h1 h2]
    unfold rWord
    rw [el, if_pos rfl]
    unfold rThin
    rw [e, bd (bh_app _ _), bd (rn_app (by have := g.1; omega) g.1.1 g.1.2 blank_d), bd (bh_app _ _), bd (rp_full g.2 (by omega) st)]
/-- what parse_plan gives -/
def prog (l : List Nat) : Option Plan := (rp 12 l).bind fun x => if x.2 ≠ [] ∨ x.1.count > 40 then none else some x.1
theorem prog_iff {l : List Nat} {pl : Plan} : prog l = some pl ↔ l = fmt pl ∧ Good pl ∧ pl.height ≤ 12 ∧ pl.count ≤ 40 := by
  constructor
  · intro h
    obtain ⟨⟨x, r⟩, h1, h⟩ := bind_some h
    have h : (if r ≠ [] ∨ x.count > 40 then none else some x) = some pl := h
    by_cases c : r ≠ [] ∨ x.count > 40
    · rw [if_pos c] at h
      cases h
    · rw [if_neg c] at h
      cases h
      obtain ⟨e, g, hh⟩ := rp_snd 12 _ _ _ h1
      have hr : r = [] := by
        by_cases z : r = []
        · exact z
        · exact absurd (.inl z) c
      subst hr
      rw [List.append_nil] at e
      exact ⟨e, g, hh, by omega⟩
  · rintro ⟨rfl, g, hh, hc⟩
    have e := rp_full g hh Stop.nil
    rw [List.append_nil] at e
    unfold prog
    rw [bd e]
    exact if_neg (fun z => z.elim (fun y => y rfl) (fun y => Nat.not_lt.mpr hc y))
/-! ### the law's reader -/
def inr (w : List Nat) (a b : Nat) : Prop := (0 < w.length ∧ w.length < 4) ∧ a ≤ dv w ∧ dv w ≤ b
instance (w : List Nat) (a b : Nat) : Decidable (inr w a b) := by unfold inr; infer_instance
def lr : Nat → List Nat → Nat → Option (Plan × Nat)
  | 0, _, _ => none
  | d + 1, l, a =>
    if (l.drop a).take 1 = [40] then (lr d l (a + 1)).bind fun x => (lr d l (x.2 + 3)).bind fun y => some (.join x.1 y.1, y.2 + 1)
    else if dg (l.drop a) ≠ [] then (lr d l (a + (dg (l.drop a)).length + (dg (l.drop (a + (dg (l.drop a)).length + 1))).length + 4)).bind fun x =>
      if inr (dg (l.drop a)) 1 999 ∧ inr (dg (l.drop (a + (dg (l.drop a)).length + 1))) 1 999 then some (.scale (dv (dg (l.drop a))) (dv (dg (l.drop (a + (dg (l.drop a)).length + 1)))) x.1, x.2) else none
    else if lw (l.drop a) = tThin then (lr d l (a + 6 + (dg (l.drop (a + 5))).length)).bind fun x => if inr (dg (l.drop (a + 5))) 2 10 then some (.thin (dv (dg (l.drop (a + 5)))) x.1, x.2) else none
    else if lw (l.drop a) = tSpare ∨ lw (l.drop a) = tBase then (lr d l (a + (lw (l.drop a)).length + 1)).bind fun x => some (if lw (l.drop a) = tSpare then .spare x.1 else .base x.1, x.2)
    else if (lw (l.drop a)).length < 1 ∨ (lw (l.drop a)).length > 8 then none else some (.take (lw (l.drop a)), a + (lw (l.drop a)).length)
theorem lr_good : ∀ {d : Nat} {l : List Nat} {a : Nat} {pl : Plan} {e : Nat}, lr d l a = some (pl, e) → Good pl ∧ pl.height ≤ d
  | 0, _, _, _, _, h => by cases h
  | d + 1, l, a, pl, e, h => by
    unfold lr at h
    by_cases h1 : (l.drop a).take 1 = [40]
    · rw [if_pos h1] at h
      obtain ⟨⟨x, e1⟩, h2, h⟩ := bind_some h
      obtain ⟨⟨y, e2⟩, h3, h⟩ := bind_some h
      cases h
      obtain ⟨g1, k1⟩ := lr_good h2
      obtain ⟨g2, k2⟩ := lr_good h3
      exact ⟨⟨g1, g2⟩, by simp only [Plan.height]; omega⟩
    rw [if_neg h1] at h
    by_cases h2 : dg (l.drop a) ≠ []
    · rw [if_pos h2] at h
      obtain ⟨⟨x, e1⟩, h3, h⟩ := bind_some h
      obtain ⟨g, k⟩ := lr_good h3
      by_cases c : inr (dg (l.drop a)) 1 999 ∧ inr (dg (l.drop (a + (dg (l.drop a)).length + 1))) 1 999
      · rw [if_pos c] at h
        cases h
        exact ⟨⟨c.1.2, c.2.2, g⟩, by simp only [Plan.height]; omega⟩
      · rw [if_neg c] at h
        cases h
    rw [if_neg h2] at h
    by_cases h3 : lw (l.drop a) = tThin
    · rw [if_pos h3] at h
      obtain ⟨⟨x, e1⟩, h4, h⟩ := bind_some h
      obtain ⟨g, k⟩ := lr_good h4
      by_cases c : inr (dg (l.drop (a + 5))) 2 10
      · rw [if_pos c] at h
        cases h
        exact ⟨⟨c.2, g⟩, by simp only [Plan.height]; omega⟩
      · rw [if_neg c] at h
        cases h
    rw [if_neg h3] at h
    by_cases h4 : lw (l.drop a) = tSpare ∨ lw (l.drop a) = tBase
    · rw [if_pos h4] at h
      obtain ⟨⟨x, e1⟩, h5, h⟩ := bind_some h
      obtain ⟨g, k⟩ := lr_good h5
      by_cases c : lw (l.drop a) = tSpare
      · rw [if_pos c] at h
        cases h
        exact ⟨g, by simp only [Plan.height]; omega⟩
      · rw [if_neg c] at h
        cases h
        exact ⟨g, by simp only [Plan.height]; omega⟩
    rw [if_neg h4] at h
    by_cases h5 : (lw (l.drop a)).length < 1 ∨ (lw (l.drop a)).length > 8
    · rw [if_pos h5] at h
      cases h
    · rw [if_neg h5] at h
      cases h
      exact ⟨⟨by omega, by omega, lw_all _, h3, fun z => h4 (.inl z), fun z => h4 (.inr z)⟩, by show 1 ≤ d + 1; omega⟩
theorem drop_at {l x y : List Nat} {a : Nat} (h : l.drop a = x ++ y) : l.drop (a + x.length) = y := by
  rw [← List.drop_drop, h, List.drop_left]
theorem inr_num {n a b : Nat} (ha : a ≤ n) (hb : n ≤ b) (h9 : n ≤ 999) : inr (TL.numL n) a b := by
  have h1 := numL_pos n
  have h3 := numL_le3 h9
  exact ⟨⟨h1, by omega⟩, by rw [dv_num]; exact ha, by rw [dv_num]; exact hb⟩
theorem lr_join {d : Nat} {l : List Nat} {a : Nat} (h : (l.drop a).take 1 = [40]) : lr (d + 1) l a = (lr d l (a + 1)).bind fun x => (lr d l (x.2 + 3)).bind fun y => some (.join x.1 y.1, y.2 + 1) := by
  rw [lr, if_pos h]
theorem lr_full : ∀ {d : Nat} {pl : Plan} {l r : List Nat} {a : Nat}, Good pl → pl.height ≤ d → Stop r → l.drop a = fmt pl ++ r → lr d l a = some (pl, a + (fmt pl).length)
  | 0, pl, _, _, _, _, h, _, _ => by have := height_pos pl; omega
  | d + 1, .take n, l, r, a, g, h, st, hl => by
    have hl : l.drop a = n ++ r := hl
    obtain ⟨h1, h2⟩ := head_word (r := r) g
    have e := lw_app g.let_ st.letter
    unfold lr
    rw [hl, if_neg h1, if_neg (fun z => z h2), e, if_neg g.thin, if_neg (fun z => z.elim g.spare g.base), if_neg (by have := g.pos; have := g.le; omega)]
    rfl
  | d + 1, .join x y, l, r, a, g, h, st, hl => by
    simp only [Plan.height] at h
    have e : l.drop a = [40] ++ (fmt x ++ ([32, 43, 32] ++ (fmt y ++ ([41] ++ r)))) := by rw [hl]; simp only [fmt, List.append_assoc]
    have d1 : l.drop (a + 1) = fmt x ++ ([32, 43, 32] ++ (fmt y ++ ([41] ++ r))) := drop_at e
    have d2 := drop_at d1
    have d3 : l.drop (a + 1 + (fmt x).length + 3) = fmt y ++ ([41] ++ r) := drop_at d2
    rw [lr_join (by rw [e]; rfl), bd (lr_full g.1 (by omega) stop_plus d1)]
    show (lr d l (a + 1 + (fmt x).length + 3)).bind _ = _
    rw [bd (lr_full g.2 (by omega) stop_rp d3)]
    refine congrArg (fun z => some (Plan.join x y, z)) ?_
    show a + 1 + (fmt x).length + 3 + (fmt y).length + 1 = a + (fmt (.join x y)).length
    simp only [fmt, List.length_append, List.length_cons, List.length_nil]
    omega
  | d + 1, .scale m n x, l, r, a, g, h, st, hl => by
    simp only [Plan.height] at h
    have e : l.drop a = TL.numL m ++ ([47] ++ (TL.numL n ++ ([32, 42, 32] ++ (fmt x ++ r)))) := by rw [hl]; simp only [fmt, List.append_assoc]
    obtain ⟨h1, h2⟩ := num_first (p := m) (r := [47] ++ (TL.numL n ++ ([32, 42, 32] ++ (fmt x ++ r)))) g.1.1 slash_d
    have d1 := drop_at e
    have d2 : l.drop (a + (TL.numL m).length + 1) = TL.numL n ++ ([32, 42, 32] ++ (fmt x ++ r)) := drop_at d1
    have d3 := drop_at d2
    have d4 : l.drop (a + (TL.numL m).length + 1 + (TL.numL n).length + 3) = fmt x ++ r := drop_at d3
    have e2 : dg (TL.numL n ++ ([32, 42, 32] ++ (fmt x ++ r))) = TL.numL n := dg_num star_d
    unfold lr
    rw [e, if_neg h1, h2, if_pos (TL.numL_ne m), d2, e2, show a + (TL.numL m).length + (TL.numL n).length + 4 = a + (TL.numL m).length + 1 + (TL.numL n).length + 3 by omega, bd (lr_full g.2.2 (by omega) st d4),
      if_pos ⟨inr_num g.1.1 g.1.2 g.1.2, inr_num g.2.1.1 g.2.1.2 g.2.1.2⟩, dv_num, dv_num]
    refine congrArg (fun z => some (Plan.scale m n x, z)) ?_
    show a + (TL.numL m).length + 1 + (TL.numL n).length + 3 + (fmt x).length = a + (fmt (.scale m n x)).length
    simp only [fmt, List.length_append, List.length_cons, List.length_nil]
    omega
  | d + 1, .spare x, l, r, a, g, h, st, hl => by
    simp only [Plan.height] at h
    have e : l.drop a = tSpare ++ ([32] ++ (fmt x ++ r)) := by rw [hl]; simp only [fmt, List.append_assoc]
    obtain ⟨h1, h2⟩ := word_head (r := [32] ++ (fmt x ++ r)) (show tSpare = 115 :: _ from rfl) (by decide)
    have el := lw_app (r := [32] ++ (fmt x ++ r)) spare_l head_blank
    have d2 : l.drop (a + tSpare.length + 1) = fmt x ++ r := drop_at (drop_at e)
    unfold lr
    rw [e, if_neg h1, if_neg (fun z => z h2), el, if_neg (by decide), if_pos (.inl rfl), bd (lr_full (pl := x) g (by omega) st d2), if_pos rfl]
    refine congrArg (fun z => some (Plan.spare x, z)) ?_
    show a + tSpare.length + 1 + (fmt x).length = a + (fmt (.spare x)).length
    simp only [fmt, List.length_append, List.length_cons, List.length_nil]
    omega
  | d + 1, .base x, l, r, a, g, h, st, hl => by
    simp only [Plan.height] at h
    have e : l.drop a = tBase ++ ([32] ++ (fmt x ++ r)) := by rw [hl]; simp only [fmt, List.append_assoc]
    obtain ⟨h1, h2⟩ := word_head (r := [32] ++ (fmt x ++ r)) (show tBase = 98 :: _ from rfl) (by decide)
    have el := lw_app (r := [32] ++ (fmt x ++ r)) base_l head_blank
    have d2 : l.drop (a + tBase.length + 1) = fmt x ++ r := drop_at (drop_at e)
    unfold lr
    rw [e, if_neg h1, if_neg (fun z => z h2), el, if_neg (by decide), if_pos (.inr rfl), bd (lr_full (pl := x) g (by omega) st d2), if_neg (by decide)]
    refine congrArg (fun z => some (Plan.base x, z)) ?_
    show a + tBase.length + 1 + (fmt x).length = a + (fmt (.base x)).length
    simp only [fmt, List.length_append, List.length_cons, List.length_nil]
    omega
  | d + 1, .thin k x, l, r, a, g, h, st, hl => by
    simp only [Plan.height] at h
    have e : l.drop a = tThin ++ ([32] ++ (TL.numL k ++ ([32] ++ (fmt x ++ r)))) := by rw [hl]; simp only [fmt, List.append_assoc]
    obtain ⟨h1, h2⟩ := word_head (r := [32] ++ (TL.numL k ++ ([32] ++ (fmt x ++ r)))) (show tThin = 116 :: _ from rfl) (by decide)
    have el := lw_app (r := [32] ++ (TL.numL k ++ ([32] ++ (fmt x ++ r)))) thin_l head_blank
    have d2 : l.drop (a + 5) = TL.numL k ++ ([32] ++ (fmt x ++ r)) := drop_at (a := a + 4) (drop_at e)
    have d3 := drop_at d2
    have d4 : l.drop (a + 5 + (TL.numL k).length + 1) = fmt x ++ r := drop_at d3
    have e2 : dg (TL.numL k ++ ([32] ++ (fmt x ++ r))) = TL.numL k := dg_num blank_d
    unfold lr
    rw [e, if_neg h1, if_neg (fun z => z h2), el, if_pos rfl, d2, e2, show a + 6 + (TL.numL k).length = a + 5 + (TL.numL k).length + 1 by omega, bd (lr_full g.2 (by omega) st d4),
      if_pos (inr_num g.1.1 g.1.2 (by have := g.1.2; omega)), dv_num]
    refine congrArg (fun z => some (Plan.thin k x, z)) ?_
    show a + 5 + (TL.numL k).length + 1 + (fmt x).length = a + (fmt (.thin k x)).length
    simp only [fmt, tThin, List.length_append, List.length_cons, List.length_nil]
    omega
/-- what is due -/
def due (l : List Nat) : Option Plan := (lr 12 l 0).bind fun x => if x.1.count > 40 ∨ fmt x.1 ≠ l then none else some x.1
theorem due_is (l : List Nat) : due l = prog l := by
  have key : ∀ pl, due l = some pl ↔ l = fmt pl ∧ Good pl ∧ pl.height ≤ 12 ∧ pl.count ≤ 40 := fun pl => by
    constructor
    · intro h
      obtain ⟨⟨x, e⟩, h1, h⟩ := bind_some h
      have h : (if x.count > 40 ∨ fmt x ≠ l then none else some x) = some pl := h
      by_cases c : x.count > 40 ∨ fmt x ≠ l
      · rw [if_pos c] at h
        cases h
      · rw [if_neg c] at h
        cases h
        obtain ⟨g, hh⟩ := lr_good h1
        refine ⟨?_, g, hh, by omega⟩
        by_cases z : fmt pl = l
        · exact z.symm
        · exact absurd (.inr z) c
    · rintro ⟨rfl, g, hh, hc⟩
      have e := lr_full (l := fmt pl) (r := []) (a := 0) g hh Stop.nil (by rw [List.append_nil]; rfl)
      unfold due
      rw [bd e]
      exact if_neg (fun z => z.elim (fun y => Nat.not_lt.mpr hc y) (fun y => y rfl))
  cases h1 : due l with
  | some pl => exact (prog_iff.mpr ((key pl).mp h1)).symm
  | none =>
    cases h2 : prog l with
    | none => rfl
    | some pl =>
      rw [(key pl).mpr (prog_iff.mp h2)] at h1
      cases h1
end P66
/-! A rule for «match e: case 'a': .. case _: ..» over a text. -/
namespace L2
open PySem PySem.Spec PyProof.Rows
/-- the cases of a match, of a value -/
structure PM (X : Cx) (cs : List MatchCase) (t : V → TS) : Prop where
  run : ∀ (pins : List (Addr × Obj)) (s : Shared) (σ : St) (H : Hp) (D : Ends) (v : V) (u : Value) (first : Bool), Inv X pins σ H s → RelV v u → t v D σ H → wpAny (model X.prog X.w) X.A (matchCases cs X.env u first) (SP X pins D) X.xe s
section
variable {X : Cx}
def tMNil : V → TS := fun _ D σ H => D.nx σ H
def tMStr (x : Str) (tb : TS) (tr : V → TS) : V → TS := fun v D σ H => ∃ y, v = .str y ∧ if decide (y = x) = true then tb D σ H else tr (.str y) D σ H
def tMAny (tb : TS) : V → TS := fun _ D σ H => tb D σ H
theorem pm_nil : PM X [] tMNil := ⟨fun pins s σ H D v u first I r h => wpAny_matchCases_nil ⟨σ, H, I, h⟩⟩
theorem pm_str {x : Str} {j p1 p2} {body : List Stmt} {rest : List MatchCase} {tb : TS} {tr : V → TS} (hb : PSs X body tb) (hr : PM X rest tr) :
    PM X (⟨.MatchValue (.Constant (.str x) j p1) p2, none, body⟩ :: rest) (tMStr x tb tr) := by
  refine ⟨fun pins s σ H D v u first I r h => ?_⟩
  obtain ⟨y, rfl, q⟩ := h
  obtain ⟨t, rfl⟩ := r
  refine wpAny_matchCases_cons (wpAny_matchPattern_Value (Calls.Constant_str ?_))
  refine eq_str ?_
  refine wpAny_truthy_bool ?_
  by_cases e : y = x
  · have e1 : (y == x) = true := by rw [e]; exact beq_self_eq_true x
    rw [if_pos (decide_eq_true e)] at q
    first
      | rw [e1]
      | (rw [decide_eq_true e])
    show wpAny _ X.A (assignInOrder [] []) _ _ _
    exact wpAny_assignInOrder_none (hb.run pins _ σ H D (I.tok _) q)
  · have e1 : (y == x) = false := beq_eq_false_iff_ne.mpr e
    rw [if_neg (by rw [decide_eq_false e]; exact Bool.false_ne_true)] at q
    first
      | rw [e1]
      | (rw [decide_eq_false e])
    exact hr.run pins _ σ H D (.str y) _ false (I.tok _) ⟨t, rfl⟩ q
theorem pm_any {p2} {body : List Stmt} {tb : TS} (hb : PSs X body tb) : PM X [⟨.MatchAs none none p2, none, body⟩] (tMAny tb) := by
  refine ⟨fun pins s σ H D v u first I r h => ?_⟩
  refine wpAny_matchCases_cons (wpAny_matchPattern_Capture ?_)
  show wpAny _ X.A (assignInOrder [] []) _ _ _
  exact wpAny_assignInOrder_none (hb.run pins _ σ H D I h)
def tMatch (te : TE) (t : V → TS) : TS := fun D σ H => te σ H fun v H1 => t v D σ H1
theorem ps_match {e : Expr} {cs : List MatchCase} {pos : Pos} {te : TE} {t : V → TS} (he : PE X e te) (hc : PM X cs t) : PS X (.Match e cs pos) (tMatch te t) := by
  refine ⟨fun pins s σ H D I h => ?_⟩
  refine wpAny_Match (thn (he.run pins s σ H _ I h) fun u s1 ⟨v, H1, I1, r1, q1⟩ => ?_)
  exact hc.run pins s1 σ H1 D v u true I1 r1 q1
/-! the rules that speak of the written part, with K said outright: for a comprehension's block, where the context is bound -/
section
variable {X : Cx}
theorem ix_tupK {K : PySem.W.Frag} (h : X.K = K) : IxR X (rIxT K) := by subst h; exact ix_tup
theorem ix_listK {K : PySem.W.Frag} (h : X.K = K) : IxR X (rIxL K) := by subst h; exact ix_list
theorem sl_listK {K : PySem.W.Frag} (h : X.K = K) : SlR X (rSlL K) := by subst h; exact sl_list
theorem sl_tupK {K : PySem.W.Frag} (h : X.K = K) : SlR X (rSlT K) := by subst h; exact sl_tup
theorem op_in_seqK {K : PySem.W.Frag} (h : X.K = K) : OpR X (compareOp .In) (rIn K false) := by subst h; exact op_in_seq
theorem op_notIn_seqK {K : PySem.W.Frag} (h : X.K = K) : OpR X (compareOp .NotIn) (rIn K true) := by subst h; exact op_notIn_seq
theorem call_len_seqK {K : PySem.W.Frag} (h : X.K = K) : CallR X (.builtin "len") (fun xs H Q => ∃ p ys, xs = [.ref p] ∧ (SqL K H p ys ∨ SqT K H p ys) ∧ Q (.int ys.length) H) := by subst h; exact call_len_seq
theorem call_isiK1 {K : PySem.W.Frag} (h : X.K = K) : CallR X (.builtin "isinstance") (rIsi K) := by subst h; exact call_isi
theorem cr_allK {K : PySem.W.Frag} (h : X.K = K) (hc : X.calm = true) : CallR X (.builtin "all") (rAll K) := by subst h; exact cr_all hc
theorem cr_anyK {K : PySem.W.Frag} (h : X.K = K) (hc : X.calm = true) : CallR X (.builtin "any") (rAny K) := by subst h; exact cr_any hc
theorem cr_sumK {K : PySem.W.Frag} (h : X.K = K) (hc : X.calm = true) : CallR X (.builtin "sum") (rSum K) := by subst h; exact cr_sum hc
end
end
end L2
/-! Own errors: made, raised, caught, asked of; defs that raise; defs that are called in a suite. All over the errors whose context is None. -/
namespace EX
open PySem PySem.Spec PyProof.Rows L2
/-- a def that may raise, by its body -/
theorem okR {P : Program} {w : World} {K : PySem.W.Frag} {mg : Str → Option Value} {base : Heap} {x qual : Str} {st : Stmt} {f : Addr} {fd : FuncData} {N ps : List Str} {k : Nat} {sp : Sp} (F : Fun K x qual st f fd) (S : FnScope N ps (defScope st))
    (len : ∀ vs H Q E, sp vs H Q E → vs.length = ps.length)
    (body : ∀ (cdv : Value) (A : Around) (outer : List Env) (s : Shared) (H : Hp) (vs : List V) (Q : VK) (E : XK), Room k (A.deeper (envOfC qual (defScope st) s.heap.objs.size f cdv)) → sp vs H Q E →
      ∃ t, PSs (cxOf (L2N.CX P w) P w K mg base N qual (defScope st) f cdv A outer s H E) (defBody st) t ∧ t { nx := fun _ H' => Q .non H', rt := Q } (start N vs) H) :
    FnOk P w K mg base (L2N.CX P w) (k + 1) f fd ps sp := by
  obtain ⟨oc, od, kV, doc, pm, an, cdv, ct, osl, rfl, lk, hcd⟩ := F.ex
  exact fn_of lk hcd S len fun A outer s H vs Q E hr hsp => body cdv A outer s H vs Q E hr hsp
/-- a def that does not raise, called while an error is handled, by its body -/
theorem okH {P : Program} {w : World} {K : PySem.W.Frag} {mg : Str → Option Value} {base : Heap} {x qual : Str} {st : Stmt} {f : Addr} {fd : FuncData} {N ps : List Str} {k : Nat} {sp : Sp} (F : Fun K x qual st f fd) (S : FnScope N ps (defScope st))
    (len : ∀ vs H Q E, sp vs H Q E → vs.length = ps.length)
    (body : ∀ (cdv : Value) (A : Around) (outer : List Env) (s : Shared) (H : Hp) (vs : List V) (Q : VK) (E : XK) (p : Addr × Obj), L2H.RoomH k (A.deeper (envOfC qual (defScope st) s.heap.objs.size f cdv)) → L2H.Hot1 A p → sp vs H Q E →
      ∃ t, PSs (L2H.cxH CX0 P w K mg base N qual (defScope st) f cdv A outer s H E p).nox (defBody st) t ∧ t { nx := fun _ H' => Q .non H', rt := Q } (start N vs) H) :
    L2H.FnH P w K mg base CX0 (k + 1) f fd ps sp := by
  obtain ⟨oc, od, kV, doc, pm, an, cdv, ct, osl, rfl, lk, hcd⟩ := F.ex
  refine L2H.fn_ofH lk hcd S len fun A outer s H vs Q E p hot hr hsp => ?_
  obtain ⟨t, h, q⟩ := body cdv A outer s H vs Q E p hr hot hsp
  exact ⟨t, h.nox, q⟩
/-- defs as their callers see them: one that may raise; one that is called in a suite -/
def CalX (P : Program) (w : World) (K : PySem.W.Frag) (mg : Str → Option Value) (base : Heap) (k : Nat) (x : Str) (ps : List Str) (sp : Sp) : Prop :=
  ∃ (f : Addr) (fd : FuncData), FnOk P w K mg base (L2N.CX P w) k f fd ps sp ∧ mg x = some (.ref f) ∧ PySem.W.keepIn K (.ref f) = true ∧ Binds K fd ps []
def CalH (P : Program) (w : World) (K : PySem.W.Frag) (mg : Str → Option Value) (base : Heap) (k : Nat) (x : Str) (ps : List Str) (sp : Sp) : Prop :=
  ∃ (f : Addr) (fd : FuncData), L2H.FnH P w K mg base CX0 k f fd ps sp ∧ mg x = some (.ref f) ∧ PySem.W.keepIn K (.ref f) = true ∧ Binds K fd ps []
section
variable {X : Cx} {k : Nat} {x : Str} {ps : List Str} {sp : Sp} {p pos : Pos} {e : Expr} {es : List Expr} {t : TA} {W : WX}
/-- f(..) that may raise; W: what is wished of what is raised -/
theorem pe_calX (C : CalX X.prog X.w X.K X.mg X.base k x ps sp) (hr : Room k X.A) (hg : Gl X x) (tk : L2N.Takes X W) (ha : PA X (e :: es) t)
    (hdb : (x == ("__debug__" : Str)) = false := by decide) (he : starEach (e :: es) X.env = (false, eval e X.env) :: starEach es X.env := by rfl) (hpl : (backTo pos (starEach es X.env)).any (·.1) = false := by rfl) :
    PE X (.Call (.Name x p) (e :: es) [] pos) (tCallS sp (WE W) t) := by
  obtain ⟨f, fd, G, m, kp, b⟩ := C
  exact pe_callS G hr hg m kp b (L2N.passAt tk) ha hdb he hpl
theorem passH {X : Cx} {σ : L2.St} : PassesAt CX0 X σ E0 := fun _ _ _ _ _ _ h => h.elim
/-- f(..) in a suite -/
theorem pe_calH (C : CalH X.prog X.w X.K X.mg X.base k x ps sp) (hr : L2H.RoomH k X.A) (hc : L2H.HotC X) (hg : Gl X x) (ha : PA X (e :: es) t)
    (hdb : (x == ("__debug__" : Str)) = false := by decide) (he : starEach (e :: es) X.env = (false, eval e X.env) :: starEach es X.env := by rfl) (hpl : (backTo pos (starEach es X.env)).any (·.1) = false := by rfl) :
    PE X (.Call (.Name x p) (e :: es) [] pos) (tCallS sp (fun _ => E0) t) := by
  obtain ⟨f, fd, G, m, kp, b⟩ := C
  exact L2H.pe_callH G hr hc hg m kp b (fun _ => passH) ha hdb he hpl
/-- the suite of an error whose context is None bears it -/
theorem hot_of {X : Cx} {a : Addr} {oe : Obj} {cls : Value} {d : Option Addr} {pn : List (Addr × Obj)} (hz : L2N.Zn cls d oe) (hf : ∃ vs, oe.data = .fields vs) : L2H.HotC (X.suite a ((a, oe) :: pn)) := by
  obtain ⟨vs, e⟩ := hf
  exact ⟨(a, oe), ⟨rfl, vs, e, hz.2.2 vs e⟩, List.mem_cons_self⟩
theorem roomS {X : Cx} {k : Nat} {a : Addr} {pn : List (Addr × Obj)} (hr : Room k X.A) : L2H.RoomH k (X.suite a pn).A := ⟨hr.dp, hr.un⟩
/-- nothing is let out -/
theorem takesN {X : Cx} : L2N.Takes X (fun _ _ _ _ => False) := fun _ _ h => by
  obtain ⟨_, _, _, _, _, _, _, _, _, _, _, _, _, _, _, _, z⟩ := h
  exact z.elim
theorem passN {X : Cx} {E : XK} : Passes CX0 X E := fun _ _ _ _ _ _ _ h => h.elim
end
/-! ### making -/
section
variable {X : Cx} {C : Addr} {bmB : List Value} {B newId initId : String}
/-- X(), an own class without an __init__ -/
theorem pmk0 {x : Str} {p pos : Pos} (F : ExcBaseFacts B newId initId bmB) (q : PySem.W.excIn X.K C bmB newId = true) (gC : X.mg x = some (.ref C)) (kC : PySem.W.keepIn X.K (.ref C) = true) (r : Raises X (.ref C)) (hg : Gl X x)
    (hdb : (x == ("__debug__" : Str)) = false := by decide) : L2N.PMk X (.Call (.Name x p) [] [] pos) (fun _ H Q => Q (.ref C) none H) := by
  intro pins s σ H Q I h
  refine wpAny_Call_Name_kw (ld_glob I hg gC (PySem.W.callWith_K0 I.kIn kC ?_) hdb)
  obtain ⟨bm, N, nm, qn, bs, hdct, sn, sub, ab, col, dd, k0, k1, k2, k3, k5, mN, hC, hN, hni, T⟩ := exc_obj I.kIn q
  exact wpAny_call_exc_subT F T hC hN hni (fun h' e hm => L2N.mk_of I hm r h (I.hok.gone hm.new)) (Nat.zero_le _)
/-- X(..), an own class with an __init__ -/
theorem pmkI {CX : CXT} {x : Str} {fI : Addr} {k : Nat} {fd : FuncData} {ps : List Str} {sp : Sp} {e : Expr} {es : List Expr} {ta : TA} {p pos : Pos} (T : OexC X.K C) (iC : PySem.W.findIn X.K (.ref C) "__init__" = some (some (.ref fI)))
    (tI : PySem.W.typeIn X.K (.ref fI) = some (.type "function")) (F1 : FnOk X.prog X.w X.K X.mg X.base CX k fI fd ps sp) (hr : Room (k + 1) X.A) (hb : Binds X.K fd ps []) (hx : Passes CX X (fun _ _ _ => False)) (hg : Gl X x) (hm : X.mg x = some (.ref C)) (ha : PA X (e :: es) ta)
    (hdb : (x == ("__debug__" : Str)) = false := by decide) (he : starEach (e :: es) X.env = (false, eval e X.env) :: starEach es X.env := by rfl) (hpl : (backTo pos (starEach es X.env)).any (·.1) = false := by rfl) :
    L2N.PMk X (.Call (.Name x p) (e :: es) [] pos) (tMkO C sp [] ta) := by
  intro pins s σ H Q I h
  obtain ⟨nm, q, N, bs, bm, sn, sub, ab, col, dd, k0, k1, k2, k3, k5, hC, hbm⟩ := T.cls
  refine wpAny_Call_Name_kw (ld_glob I hg hm (PySem.W.callWith_K (h₀ := X.base) I.ok.mod.kin T.kC (thn (ha.run pos pins s σ H _ I h) fun us s1 hh => ?_) he hpl) hdb)
  obtain ⟨vs, H1, I1, r1, hz, q1⟩ := hh
  refine ⟨I1.kIn, ?_⟩
  show wpAny _ _ (call (.ref C) us) _ _ _
  obtain ⟨hp, g, dr, tk, os⟩ := s1
  have fresh := I1.hok.fresh (Nat.le_succ hp.objs.size)
  have hq := q1 (hp.objs.size + 1) fresh
  rw [List.append_nil] at hq
  generalize eh : (hp.push (PySem.W.kdv_tup us)).push (PySem.HandSPX.excO C hp.objs.size) = hn
  have kk : ∀ b o, hp.get? b = some o → hn.get? b = some o := fun b o z => by
    rw [← eh]
    exact Heap.get?_push_of_some _ (Heap.get?_push_of_some _ z)
  have hget : hn.get? (hp.objs.size + 1) = some (PySem.HandSPX.excO C hp.objs.size) := by
    rw [← eh]
    heap_get
  have I2 : Inv X pins σ (upd H1 (hp.objs.size + 1) (exo (hp.objs.size + 1) C none)) ⟨hn, g, dr, tk, os⟩ := I1.laid (t' := tk) kk (Nat.le_succ _) (exo_ok hget)
  have r2 : Vals (V.ref (hp.objs.size + 1) :: vs) (Value.ref (hp.objs.size + 1) :: us) := .cons rfl r1
  have hl : (Value.ref (hp.objs.size + 1) :: us).length = ps.length := r2.length.symm.trans (F1.len _ _ _ _ hq)
  have hb' := hb _ (Value.ref (hp.objs.size + 1) :: us) I2.kIn (by rw [List.append_nil]; exact hl)
  rw [List.append_nil] at hb'
  have hus : us.length ≤ sizeLine := by
    rw [← Vals.length r1]
    exact Nat.le_trans hz (by rw [sizeLine_eq]; decide)
  have run := F1.run _ X.stack _ _ ⟨Value.ref (hp.objs.size + 1) :: us, []⟩ _ _ _ (fun _ _ _ => False) (hr.make C us []) (I2.env0.make C us []) hb' r2 hq
  rw [← eh] at run
  refine wpAny_call (PySem.HandSPX.call_own F.excBase_ValueError (fun Y => PySem.HandSPX.refsVE_contains Y bm hbm) (I1.kIn _ _ hC) (PySem.W.looks_findIn I1.kIn iC) (fun self => PySem.W.bind_fn I1.kIn self tI) hus (codeAny_mono run fun r s' hq' => ?_))
  rw [eh] at hq'
  cases r with
  | error er => exact hx pins σ _ _ er s' I2 hq'
  | ok fl =>
    cases fl with
    | next => exact hq'.elim
    | brk => exact hq'.elim
    | cont => exact hq'.elim
    | ret u =>
      obtain ⟨v, H2, os2, bare2, un2, hok2, rv, ev, d, fs, ea, ed, hd1, q2⟩ := hq'
      subst ev
      obtain ⟨h2, g2, d2, t2, os'⟩ := s'
      obtain ⟨t0, G, J, kG, ge, hoe, na⟩ := mk_end0 (d2 := d2) (t2 := t2) I1 (Nat.le_succ _) kk un2 hok2 os2 bare2 ea ed hd1
      exact ⟨rv, hp.objs.size + 1, _, _, ⟨G, g2, d2, t2, os'⟩, _, .ref C, some d, rfl, J, kG, ge, hoe, ⟨rfl, rfl, fun vs z => by cases z; rfl⟩, rfl, rfl, na, rfl, bare2, raises_own T.exC T.tyC, q2⟩
end
/-! ### asking of a caught error -/
/-- what the class at C must say for its instances to be asked of -/
structure XCls (K : PySem.W.Frag) (C : Addr) : Prop where
  cl : (PySem.W.clsIn K C).isSome = true
  ga : PySem.W.findIn K (.ref C) "__getattribute__" = some (some (.builtin "BaseException.__getattribute__"))
  gg : PySem.W.findIn K (.ref C) "__getattr__" = some none
  su : PySem.W.subIn K (.ref C) (.type "BaseException") = some true
  ca : PySem.W.findIn K (.ref C) "__class__" = some (some (.builtin "object.__class__"))
  cn : PySem.W.specialIn K (.builtin "object.__class__") "__get__" = some (some (.builtin "getset_descriptor.__get__"))
  ct : PySem.W.takesIn K (.builtin "object.__class__") = some true
  cm : PySem.W.mroIn K C (.type "object") = some true
  hd : PySem.W.hasDictIn K C = true
  ty : PySem.W.typeIn K (.ref C) = some (.type "type")
  kp : PySem.W.keepIn K (.ref C) = true
def xclsB (K : PySem.W.Frag) (C : Addr) : Bool :=
  (PySem.W.clsIn K C).isSome && decide (PySem.W.findIn K (.ref C) "__getattribute__" = some (some (.builtin "BaseException.__getattribute__"))) && decide (PySem.W.findIn K (.ref C) "__getattr__" = some none) &&
  decide (PySem.W.subIn K (.ref C) (.type "BaseException") = some true) && decide (PySem.W.findIn K (.ref C) "__class__" = some (some (.builtin "object.__class__"))) &&
  decide (PySem.W.specialIn K (.builtin "object.__class__") "__get__" = some (some (.builtin "getset_descriptor.__get__"))) && decide (PySem.W.takesIn K (.builtin "object.__class__") = some true) &&
  decide (PySem.W.mroIn K C (.type "object") = some true) && PySem.W.hasDictIn K C && decide (PySem.W.typeIn K (.ref C) = some (.type "type")) && PySem.W.keepIn K (.ref C)
theorem xcls_of {K : PySem.W.Frag} {C : Addr} (h : xclsB K C = true) : XCls K C := by
  unfold xclsB at h
  simp only [Bool.and_eq_true, decide_eq_true_eq] at h
  obtain ⟨⟨⟨⟨⟨⟨⟨⟨⟨⟨a, b⟩, c⟩, d⟩, e⟩, f⟩, g⟩, h⟩, i⟩, j⟩, k⟩ := h
  exact ⟨a, b, c, d, e, f, g, h, i, j, k⟩
theorem XCls.xf {K : PySem.W.Frag} {C : Addr} (T : XCls K C) : XfC K C := ⟨T.ga, T.gg, T.su, T.hd⟩
theorem XCls.raises {X : Cx} {C : Addr} (T : XCls X.K C) : Raises X (.ref C) := raises_own T.su T.ty
theorem XCls.kit {K : PySem.W.Frag} {C x : Addr} {ox : Obj} {od : Option Obj} (T : XCls K C) : PySem.W.KitX K (.ref x) (.ref C) (fun h => PySem.W.InstAt h x ox C od) := PySem.W.kitx_exc T.cl T.ga T.gg T.su T.ca T.cn T.ct T.cm
/-- the class at C beside the class at D, as isinstance and except see them: b tells whether C is D or stands below it -/
structure Below (K : PySem.W.Frag) (C D : Addr) (b : Bool) : Prop where
  one : PySem.W.kitOne K (.ref C) (.ref D) = some b
  exm : PySem.W.exmOne K (.ref C) (.ref D) = some b
theorem exm_kit {K : PySem.W.Frag} {C D : Addr} {b : Bool} (T : XCls K C) (hs : PySem.W.subIn K (.ref C) (.ref D) = some b) (U : XCls K D) (hne : (Value.ref C == Value.ref D) = true → b = true) : Below K C D b := by
  have h2 : ((PySem.W.clsIn K D).isSome && PySem.W.typeIn K (.ref D) == some (.type "type")) = true := by
    rw [U.cl, U.ty]
    rfl
  have h3 : PySem.W.kitCls K (.ref C) (.ref D) = some b := by
    show (if _ then _ else _) = _
    rw [if_pos h2]
    exact hs
  refine ⟨?_, ?_⟩
  · show (if _ then _ else _) = _
    by_cases e : (Value.ref C == Value.ref D) = true
    · rw [if_pos e, hne e]
    · rw [if_neg e]
      exact h3
  · show (if _ then _ else _) = _
    have e : (PySem.W.subIn K (.ref D) (.type "BaseException") == some true) = true := by rw [U.su]; rfl
    rw [if_pos e]
    exact h3
/-- isinstance and except, from what the written part says of two classes -/
theorem kit_sub {K : PySem.W.Frag} {C D : Addr} {b : Bool} (i : PySem.W.isClsIn K D = true) (t : PySem.W.typeIn K (.ref D) = some (.type "type")) (s : PySem.W.subIn K (.ref C) (.ref D) = some b) (r : PySem.W.subIn K (.ref C) (.ref C) = some true) : PySem.W.kitOne K (.ref C) (.ref D) = some b := by
  have h2 : ((PySem.W.clsIn K D).isSome && PySem.W.typeIn K (.ref D) == some (.type "type")) = true := by
    have i' : (PySem.W.clsIn K D).isSome = true := i
    rw [i', t]
    rfl
  show (if _ then _ else _) = _
  by_cases e : (Value.ref C == Value.ref D) = true
  · rw [if_pos e]
    have e' : Value.ref C = Value.ref D := eq_of_beq e
    rw [← e', r] at s
    exact s
  · rw [if_neg e]
    show (if _ then _ else _) = _
    rw [if_pos h2]
    exact s
theorem kit_blt {K : PySem.W.Frag} {C : Addr} {T : String} {b : Bool} (m : PySem.W.kitMeta T = true) (s : PySem.W.subIn K (.ref C) (.type T) = some b) : PySem.W.kitOne K (.ref C) (.type T) = some b := by
  show (if _ then _ else _) = _
  rw [if_neg (by exact Bool.false_ne_true)]
  show (if _ then _ else _) = _
  rw [if_pos m]
  exact s
theorem exm_sub {K : PySem.W.Frag} {C D : Addr} {b : Bool} (i : PySem.W.isClsIn K D = true) (t : PySem.W.typeIn K (.ref D) = some (.type "type")) (e : PySem.W.subIn K (.ref D) (.type "BaseException") = some true) (s : PySem.W.subIn K (.ref C) (.ref D) = some b) : PySem.W.exmOne K (.ref C) (.ref D) = some b := by
  have h2 : ((PySem.W.clsIn K D).isSome && PySem.W.typeIn K (.ref D) == some (.type "type")) = true := by
    have i' : (PySem.W.clsIn K D).isSome = true := i
    rw [i', t]
    rfl
  have h1 : (PySem.W.subIn K (.ref D) (.type "BaseException") == some true) = true := by
    rw [e]
    rfl
  show (if _ then _ else _) = _
  rw [if_pos h1]
  show (if _ then _ else _) = _
  rw [if_pos h2]
  exact s
/-- where the error's own dict stands -/
def DictAt (H : Hp) (d : Option Addr) : Prop := d = none ∨ ∃ (dd : Addr) (fs : List (Str × V)), d = some dd ∧ H dd = some (.xd fs)
theorem inst_of {X : Cx} {pins : List (Addr × Obj)} {σ : L2.St} {H : Hp} {s : Shared} {a D : Addr} {oe : Obj} {d : Option Addr} {pn : List (Addr × Obj)} (I : Inv (X.suite a ((a, oe) :: pn)) pins σ H s) (hz : Zc (.ref D) d oe) (hf : ∃ vs, oe.data = .fields vs) (hd : DictAt H d) :
    ∃ od, PySem.W.InstAt s.heap a oe D od := by
  obtain ⟨hget, _⟩ := I.pin (a, oe) (List.mem_append_left _ List.mem_cons_self)
  obtain ⟨vs, hv⟩ := hf
  have no : PySem.W.notCls oe = true := by unfold PySem.W.notCls; rw [hv]
  rcases hd with rfl | ⟨dd, fs, rfl, hx⟩
  · exact ⟨none, hget, hz.1, no, by rw [hz.2]; trivial⟩
  · have hx : ObjOk X.prog X.w H s.heap dd (.xd fs) := I.hok dd _ hx
    obtain ⟨mA, hns, _⟩ := hx
    obtain ⟨od, ho, _⟩ := lookIn_ns hns
    exact ⟨some od, hget, hz.1, no, by rw [hz.2]; exact ho⟩
/-- isinstance(e, c) -/
def rIsX (K : PySem.W.Frag) (a : Addr) (cls : Value) (d : Option Addr) : List V → Hp → VK → Prop := fun xs H Q => ∃ (D : Addr) (c : V) (cv : Value) (b : Bool), xs = [.ref a, c] ∧ ClsV c cv ∧ cls = .ref D ∧ XCls K D ∧ DictAt H d ∧ PySem.W.kitOne K (.ref D) cv = some b ∧ Q (.bl b) H
/-- isinstance(e, (c, ..)) -/
def rIsXT (K : PySem.W.Frag) (a : Addr) (cls : Value) (d : Option Addr) : List V → Hp → VK → Prop := fun xs H Q => ∃ (D tp : Addr) (cs : List V) (us : List Value) (b : Bool), xs = [.ref a, .ref tp] ∧ H tp = some (.tup cs) ∧ Paired ClsV cs us ∧ cls = .ref D ∧ XCls K D ∧ DictAt H d ∧
  PySem.W.kitAny K (.ref D) us = some b ∧ Q (.bl b) H
section
variable {X : Cx} {a : Addr} {oe : Obj} {cls : Value} {d : Option Addr} {pn : List (Addr × Obj)}
theorem call_isX {K : PySem.W.Frag} (hK : X.K = K) (hz : Zc cls d oe) (hf : ∃ vs, oe.data = .fields vs) : CallR (X.suite a ((a, oe) :: pn)) (.builtin "isinstance") (rIsX K a cls d) := by
  subst hK
  intro pins s σ H xs us Q I r h
  obtain ⟨D, c, cv, b, rfl, k, rfl, T, hd, e, q⟩ := h
  obtain ⟨u1, u2, rfl, r1, r2⟩ := vals2 r
  cases (show u1 = Value.ref a from r1)
  have e2 := k.eq r2
  subst e2
  obtain ⟨od, J⟩ := inst_of I hz hf hd
  exact PySem.W.kia_one T.kit I.kIn J e (fun z => nomatch z) fun tk => ⟨.bl b, H, I.tok tk, rfl, q⟩
theorem call_isXT {K : PySem.W.Frag} (hK : X.K = K) (hz : Zc cls d oe) (hf : ∃ vs, oe.data = .fields vs) : CallR (X.suite a ((a, oe) :: pn)) (.builtin "isinstance") (rIsXT K a cls d) := by
  subst hK
  intro pins s σ H xs us Q I r h
  obtain ⟨D, tp, cs, ws, b, rfl, hT, k, rfl, T, hd, e, q⟩ := h
  obtain ⟨u1, u2, rfl, r1, r2⟩ := vals2 r
  cases (show u1 = Value.ref a from r1)
  cases (show u2 = Value.ref tp from r2)
  obtain ⟨_, its, rv, o, h1, h2, n, h3⟩ := (show ObjOk X.prog X.w H s.heap tp (.tup cs) from I.hok tp _ hT)
  have e3 := ClsV.all k rv
  subst e3
  obtain ⟨oc, od', dt, sl⟩ := o
  simp only at h2 h3
  subst h2 h3
  obtain ⟨od, J⟩ := inst_of I hz hf hd
  exact PySem.W.kia_tup T.kit I.kIn J h1 e (fun z => nomatch z) fun tk => ⟨.bl b, H, I.tok tk, rfl, q⟩
end
end EX
/-! Rules for «one or the other», max of three ints, the written part's letter said outright. -/
namespace L2
open PySem PySem.Spec PyProof.Rows
section
variable {X : Cx}
theorem pi_or {tg iter : Expr} {w1 w2 : TI} (h1 : PI X tg iter w1) (h2 : PI X tg iter w2) : PI X tg iter (fun σ H R => w1 σ H R ∨ w2 σ H R) :=
  ⟨fun pins s σ H R I h => h.elim (h1.run pins s σ H R I) (h2.run pins s σ H R I)⟩
theorem pg_or {tg : Expr} {g1 g2 : TG} (h1 : PG X tg g1) (h2 : PG X tg g2) : PG X tg (fun v σ H Q => g1 v σ H Q ∨ g2 v σ H Q) :=
  ⟨fun pins s σ H v u Q I r h => h.elim (h1.run pins s σ H v u Q I r) (h2.run pins s σ H v u Q I r)⟩
theorem ix_or : IxR X (fun x y H Q => rIxL X.K x y H Q ∨ rIxT X.K x y H Q) := ix_list.or ix_tup
theorem ix_orK {K : PySem.W.Frag} (h : X.K = K) : IxR X (fun x y H Q => rIxL K x y H Q ∨ rIxT K x y H Q) := by subst h; exact ix_or
theorem call_max3I (hc : X.calm = true) : CallR X (.builtin "max") (fun xs H Q => ∃ i j k : Int, xs = [.int i, .int j, .int k] ∧ Q (.int (if k > (if j > i then j else i) then k else (if j > i then j else i))) H) := by
  intro pins s σ H xs us Q I r h
  obtain ⟨i, j, k, rfl, q⟩ := h
  have e : nuMax3 (.int i) (.int j) (.int k) = some (.int (if k > (if j > i then j else i) then k else (if j > i then j else i))) := by
    have two : ∀ a b : Int, nuMax2 (.int a) (.int b) = some (.int (if b > a then b else a)) := fun a b => by
      show some (if decide (a < b) = true then V.int b else V.int a) = _
      by_cases h : b > a
      · rw [if_pos (decide_eq_true (show a < b from h)), if_pos h]
      · rw [if_neg (by rw [decide_eq_false (show ¬ a < b from h)]; exact Bool.false_ne_true), if_neg h]
    unfold nuMax3
    rw [two i j]
    exact two _ k
  exact call_max3Nu hc pins s σ H _ us Q I r ⟨_, _, _, _, rfl, e, q⟩
theorem call_list_ofK {K : PySem.W.Frag} (h : X.K = K) : CallR X (.type "list") (fun xs H Q => ∃ p ys, xs = [.ref p] ∧ (SqL K H p ys ∨ SqT K H p ys) ∧ ∀ l, H l = none → Q (.ref l) (upd H l (.lst ys))) := by subst h; exact call_list_of
theorem call_tuple_ofK {K : PySem.W.Frag} (h : X.K = K) : CallR X (.type "tuple") (fun xs H Q => ∃ p ys, xs = [.ref p] ∧ ((SqL K H p ys ∧ ∀ l, H l = none → Q (.ref l) (upd H l (.tup ys))) ∨ (SqT K H p ys ∧ Q (.ref p) H))) := by subst h; exact call_tuple_of
theorem pg_tupK {K : PySem.W.Frag} {es : List Expr} {k : Nat} {t : TGs} {n : Nat} {pos : Pos} (hK : X.K = K) (hc : X.calm = true) (h : PGs X es t)
    (hn : (assignEach es X.env).length = n := by rfl) (hst : (assignEach es X.env).findIdx? (·.1) = none := by rfl) : PG X (.Tuple es k pos) (gTup K n t) := by subst hK; exact pg_tup hc h hn hst
theorem pg_lstK {K : PySem.W.Frag} {es : List Expr} {k : Nat} {t : TGs} {n : Nat} {pos : Pos} (hK : X.K = K) (hc : X.calm = true) (h : PGs X es t)
    (hn : (assignEach es X.env).length = n := by rfl) (hst : (assignEach es X.env).findIdx? (·.1) = none := by rfl) : PG X (.Tuple es k pos) (gLst K n t) := by subst hK; exact pg_lst hc h hn hst
end
section
variable {X : Cx}
/-- y = {..}, a dict comprehension stored in its own statement -/
theorem ps_setDc {i : Nat} {y : Str} {py : Pos} {kx vx tg iter : Expr} {ifs : List Expr} {scope : Scope} {own : List (Str × Nat)} {pos spos : Pos} {wi : TI} {g : TG} {tt : TT} {tk tv : TE} (hc : X.calm = true) (hN : X.N.Nodup) (hy : X.N[i]? = some y) (hyl : X.env.scope.names.lookup y = some .local)
    (hsw : swapsWith (.DictComp kx vx [⟨tg, iter, ifs, 0⟩] scope pos) (some (.Name y py)) spos.line X.env = pure true) (hi : PI X tg iter wi) (ok : BlkOk X.N X.env.scope scope own)
    (hg : ∀ (s : Shared) (H : Hp) (C : Addr) (cl : List (Str × Addr)) (fp : List Addr), PG (X.blk s H scope (compEnvC scope cl C X.env) fp) tg g) (ht : ∀ (s : Shared) (H : Hp) (C : Addr) (cl : List (Str × Addr)) (fp : List Addr), PTs (X.blk s H scope (compEnvC scope cl C X.env) fp) ifs tt)
    (hk : ∀ (s : Shared) (H : Hp) (C : Addr) (cl : List (Str × Addr)) (fp : List Addr), PE (X.blk s H scope (compEnvC scope cl C X.env) fp) kx tk)
    (he : ∀ (s : Shared) (H : Hp) (C : Addr) (cl : List (Str × Addr)) (fp : List Addr), PE (X.blk s H scope (compEnvC scope cl C X.env) fp) vx tv) (hs : ∀ x, foldedSetIterable iter X.env x = pure x := by intro _; rfl) :
    PS X (.Assign [.Name y py] (.DictComp kx vx [⟨tg, iter, ifs, 0⟩] scope pos) spos) (tAsg (tDc wi g tt tk tv (own.map (·.2))) (gName i)) := by
  refine ⟨fun pins s σ H D I h => ?_⟩
  rw [exec_Assign_Name_used _ _ _ _ hsw]
  refine wpAny_bind (wpAny_standAt (wpAny_bind ?_))
  show wpAny _ X.A (do let _ ← comprehension (.DictComp kx vx [⟨tg, iter, ifs, 0⟩] scope pos) scope X.env (firstIterPos [⟨tg, iter, ifs, 0⟩] pos) newDict false (eval iter X.env) (some (assign (.Name y py) X.env))) _ _ s
  have h : tDc wi g tt tk tv (own.map (·.2)) σ H (fun x H1 => gName i x σ H1 D.nx) := h
  refine wpAny_bind (thn (dc_core (Qf := fun _ s' => SP X pins D .next s') hc hN I hi ok hg ht hk he hs h fun L C s' m H' I' q hn f => ?_) fun _ s' hq => wpAny_pure (wpAny_pure hq))
  show wpAny _ _ (assign (.Name y py) X.env (.ref L)) _ _ _
  refine wpAny_assign_Name (store_ok2 (v := V.ref L) I' hN hy (.inl hyl) rfl (fun s2 I2 hex => ?_) (.inr hyl))
  obtain ⟨a, sb, ha⟩ := hex
  obtain ⟨f0, f1, f2, f3, f4, f5⟩ := f
  have haC : C ≠ a := ha.elim (fun z => by rw [z]; exact f1) fun z e => f4 y a z e.symm
  exact ⟨m, hn.sameBut sb haC, fun h3 sb3 => ⟨_, H', I2.turned (t' := s2.toks) (fun b o hb e => (sb3.2 b hb).trans e) f0 f1 f3 f4 f5, q⟩⟩
theorem sw_trueD {kx vx : Expr} {gs : List Comprehension} {scope : Scope} {pos py : Pos} {y : Str} {l : Nat} {env : Env} (hk : env.scope.kind = .function) (hy : env.scope.names.lookup y = some .local) (hl : (py.line == pos.line) = true)
    (ha : (scope.names.any fun (n, k) => n == y && (k == .local || k == .cell)) = false) : swapsWith (.DictComp kx vx gs scope pos) (some (.Name y py)) l env = pure true := by
  have ky : env.kindOf y = some .local := hy
  have hb : env.blockKind = .function := by
    unfold Env.blockKind
    rw [hk]
    rfl
  unfold swapsWith
  simp only [hb, ky, ha, Expr.pos, hl]
  rfl
end
/-- a dict comprehension over a list that stays -/
theorem dc_list {K : PySem.W.Frag} {a : Addr} {xs : List V} {g : TG} {tt : TT} {tk tv : TE} {vs : List Nat} {σ : St} {H1 : Hp} {D : Addr} {Qd : Hp → Prop} (Pv : Nat → Hp → Prop) (h0 : Pv 0 (upd H1 D (.dK []))) (hl : ∀ i H, i ≤ xs.length → Pv i H → SqL K H a xs)
    (hs : ∀ i x H, xs[i]? = some x → Pv i H → g x (wipe σ vs) H fun σ2 H2 => wipe σ2 vs = wipe σ vs ∧ tt σ2 H2 fun b H3 =>
      if b = true then tk σ2 H3 fun y H4 => tv σ2 H4 fun z H5 => ∃ kvs k, y = kV k ∧ H5 D = some (.dK kvs) ∧ kvs.length < sizeLine ∧ Pv (i + 1) (upd H5 D (.dK (putK kvs k z))) else Pv (i + 1) H3) (hd : ∀ H, Pv xs.length H → Qd H) :
    ∃ W : Nat → Nat → Hp → Prop, (∃ m, W 0 m (upd H1 D (.dK []))) ∧ ∀ i m H, W i m H →
      ((Itl K a).stop i H ∧ Qd H) ∨ ((Itl K a).go i H ∧ ∃ Nx : Hp → Prop, (∀ H', Nx H' → ∃ m', m' < m ∧ W (i + 1) m' H') ∧ ∀ x H', (Itl K a).yld i H x H' → g x (wipe σ vs) H' fun σ2 H2 => wipe σ2 vs = wipe σ vs ∧ tt σ2 H2 fun b H3 =>
        if b = true then tk σ2 H3 fun y H4 => tv σ2 H4 fun z H5 => ∃ kvs k, y = kV k ∧ H5 D = some (.dK kvs) ∧ kvs.length < sizeLine ∧ Nx (upd H5 D (.dK (putK kvs k z))) else Nx H3) := by
  refine ⟨fun i m H => m = xs.length - i ∧ i ≤ xs.length ∧ Pv i H, ⟨xs.length, by simp, Nat.zero_le _, h0⟩, ?_⟩
  rintro i m H ⟨rfl, hi, p⟩
  have q := hl i H hi p
  rcases Nat.lt_or_ge i xs.length with hlt | hge
  · refine .inr ⟨⟨xs, xs[i], q, by simp [hlt]⟩, Pv (i + 1), fun H' p' => ⟨xs.length - (i + 1), by omega, rfl, hlt, p'⟩, ?_⟩
    rintro x H' ⟨rfl, y⟩
    exact hs i x _ (y xs q) p
  · obtain rfl : i = xs.length := Nat.le_antisymm hi hge
    exact .inl ⟨⟨xs, q, Nat.le_refl _⟩, hd H p⟩
/-- a dict comprehension over the list or the tuple in slot i, which stays -/
theorem tDc_or {K : PySem.W.Frag} {a : Addr} {xs : List V} {i : Nat} {g : TG} {tt : TT} {tk tv : TE} {vs : List Nat} {σ : St} {H : Hp} {Q : VK} (hi : σ[i]? = some (some (V.ref a))) (hx : H a = some (.lst xs) ∨ H a = some (.tup xs)) (Pv : Addr → Nat → Hp → Prop)
    (h0 : ∀ D, H D = none → Pv D 0 (upd H D (.dK []))) (hl : ∀ D, H D = none → ∀ j H', Pv D j H' → ∀ u, H a = some u → H' a = some u)
    (hs : ∀ D, H D = none → ∀ j x H', xs[j]? = some x → Pv D j H' → g x (wipe σ vs) H' fun σ2 H2 => wipe σ2 vs = wipe σ vs ∧ tt σ2 H2 fun b H3 =>
      if b = true then tk σ2 H3 fun y H4 => tv σ2 H4 fun z H5 => ∃ kvs k, y = kV k ∧ H5 D = some (.dK kvs) ∧ kvs.length < sizeLine ∧ Pv D (j + 1) (upd H5 D (.dK (putK kvs k z))) else Pv D (j + 1) H3)
    (hd : ∀ D, H D = none → ∀ H', Pv D xs.length H' → Q (.ref D) H') : tDc (fun σ H R => iList K (tVar i) σ H R ∨ iTup K (tVar i) σ H R) g tt tk tv vs σ H Q := by
  rcases hx with hx | hx
  · exact .inl ⟨_, hi, a, rfl, ⟨_, SqL.of hx⟩, fun D hD => dc_list (K := K) (a := a) (xs := xs) (Pv D) (h0 D hD) (fun j H' _ p => SqL.of (hl D hD j H' p _ hx)) (hs D hD) (hd D hD)⟩
  · exact .inr ⟨_, hi, a, rfl, ⟨_, SqT.of hx⟩, fun D hD => dc_tup (K := K) (a := a) (xs := xs) (Pv D) (h0 D hD) (fun j H' _ p => SqT.of (hl D hD j H' p _ hx)) (hs D hD) (hd D hD)⟩
/-- a loop over the list or the tuple in slot i, which stays -/
theorem tFor_or {K : PySem.W.Frag} {a : Addr} {xs : List V} {i : Nat} {g : TG} {tb : TS} {D : Ends} {σ : St} {H : Hp} (hi : σ[i]? = some (some (V.ref a))) (hx : H a = some (.lst xs) ∨ H a = some (.tup xs)) (Pv : Nat → St → Hp → Prop)
    (h0 : Pv 0 σ H) (hl : ∀ j σ' H', Pv j σ' H' → ∀ u, H a = some u → H' a = some u)
    (hs : ∀ j x σ' H', xs[j]? = some x → Pv j σ' H' → g x σ' H' fun σ2 H2 => tb { D with nx := Pv (j + 1), ct := Pv (j + 1), bk := D.nx } σ2 H2)
    (hd : ∀ σ' H', Pv xs.length σ' H' → D.nx σ' H') : tFor (fun σ H R => iList K (tVar i) σ H R ∨ iTup K (tVar i) σ H R) g tb D σ H := by
  rcases hx with hx | hx
  · exact .inl ⟨_, hi, a, rfl, ⟨_, SqL.of hx⟩, for_list (K := K) (a := a) (xs := xs) Pv h0 (fun j σ' H' _ p => SqL.of (hl j σ' H' p _ hx)) hs hd⟩
  · exact .inr ⟨_, hi, a, rfl, ⟨_, SqT.of hx⟩, for_tup (K := K) (a := a) (xs := xs) Pv h0 (fun j σ' H' _ p => SqT.of (hl j σ' H' p _ hx)) hs hd⟩
/-- a comprehension over the list or the tuple in slot i, which stays -/
theorem tLc_or {K : PySem.W.Frag} {a : Addr} {xs : List V} {i : Nat} {g : TG} {tt : TT} {te : TE} {vs : List Nat} {σ : St} {H : Hp} {Q : VK} (hi : σ[i]? = some (some (V.ref a))) (hx : H a = some (.lst xs) ∨ H a = some (.tup xs)) (Pv : Addr → Nat → Hp → Prop)
    (h0 : ∀ D, H D = none → Pv D 0 (upd H D (.lst []))) (hl : ∀ D, H D = none → ∀ j H', Pv D j H' → ∀ u, H a = some u → H' a = some u)
    (hs : ∀ D, H D = none → ∀ j x H', xs[j]? = some x → Pv D j H' → g x (wipe σ vs) H' fun σ2 H2 => wipe σ2 vs = wipe σ vs ∧ tt σ2 H2 fun b H3 =>
      if b = true then te σ2 H3 fun y H4 => ∃ acc, H4 D = some (.lst acc) ∧ acc.length < sizeLine ∧ Pv D (j + 1) (upd H4 D (.lst (acc ++ [y]))) else Pv D (j + 1) H3)
    (hd : ∀ D, H D = none → ∀ H', Pv D xs.length H' → Q (.ref D) H') : tLc (fun σ H R => iList K (tVar i) σ H R ∨ iTup K (tVar i) σ H R) g tt te vs σ H Q := by
  rcases hx with hx | hx
  · exact .inl ⟨_, hi, a, rfl, ⟨_, SqL.of hx⟩, fun D hD => lc_list (K := K) (a := a) (xs := xs) (Pv D) (h0 D hD) (fun j H' _ p => SqL.of (hl D hD j H' p _ hx)) (hs D hD) (hd D hD)⟩
  · exact .inr ⟨_, hi, a, rfl, ⟨_, SqT.of hx⟩, fun D hD => lc_tup (K := K) (a := a) (xs := xs) (Pv D) (h0 D hD) (fun j H' _ p => SqT.of (hl D hD j H' p _ hx)) (hs D hD) (hd D hD)⟩
end L2
/-! An exception object as a value; a caught error as an argument. -/
namespace EX
open PySem PySem.Spec PyProof.Rows L2
section
variable {X : Cx} {C : Addr} {bmB : List Value} {B newId initId : String}
/-- X() as a value, an own class without an __init__ -/
theorem pe_exc0 {x : Str} {p pos : Pos} (F : ExcBaseFacts B newId initId bmB) (q : PySem.W.excIn X.K C bmB newId = true) (gC : X.mg x = some (.ref C)) (kC : PySem.W.keepIn X.K (.ref C) = true) (hg : Gl X x) (hdb : (x == ("__debug__" : Str)) = false := by decide) :
    PE X (.Call (.Name x p) [] [] pos) (fun _ H Q => ∀ a, H a = none → Q (.ref a) (upd H a (ExO (.ref C) a))) := by
  refine ⟨fun pins s σ H Q I h => ?_⟩
  refine wpAny_Call_Name_kw (ld_glob I hg gC (PySem.W.callWith_K0 I.kIn kC ?_) hdb)
  obtain ⟨bm, N, nm, qn, bs, hdct, sn, sub, ab, col, dd, k0, k1, k2, k3, k5, mN, hC, hN, hni, T⟩ := exc_obj I.kIn q
  refine wpAny_call_exc_subT F T hC hN hni (fun h' e hm => ?_) (Nat.zero_le _)
  have free : H e = none := I.hok.gone hm.new
  obtain ⟨t, there, _, _⟩ := hm.there
  exact ⟨.ref e, _, I.laidN hm.keeps hm.new free (exO_ok there ⟨rfl, rfl⟩ rfl rfl rfl (show 4 < 6 by decide)), rfl, h e free⟩
end
theorem notCls_of {o : Obj} {vs : Array Value} (h : o.data = .fields vs) : PySem.W.notCls o = true := by
  unfold PySem.W.notCls
  rw [h]
/-- isinstance of an exception object that is a value -/
def rIsO (K : PySem.W.Frag) : List V → Hp → VK → Prop := fun xs H Q => ∃ (a D : Addr) (c : V) (cv : Value) (b : Bool), xs = [.ref a, c] ∧ ClsV c cv ∧ H a = some (ExO (.ref D) a) ∧ XCls K D ∧ PySem.W.kitOne K (.ref D) cv = some b ∧ Q (.bl b) H
def rIsOT (K : PySem.W.Frag) : List V → Hp → VK → Prop := fun xs H Q => ∃ (a D tp : Addr) (cs : List V) (us : List Value) (b : Bool), xs = [.ref a, .ref tp] ∧ H tp = some (.tup cs) ∧ Paired ClsV cs us ∧ H a = some (ExO (.ref D) a) ∧ XCls K D ∧ PySem.W.kitAny K (.ref D) us = some b ∧ Q (.bl b) H
section
variable {X : Cx}
theorem inst_O {pins : List (Addr × Obj)} {σ : L2.St} {H : Hp} {s : Shared} {a D : Addr} (I : Inv X pins σ H s) (h : H a = some (ExO (.ref D) a)) : ∃ oe, PySem.W.InstAt s.heap a oe D none := by
  obtain ⟨⟨oe, vs, hget, hz, hd, _⟩, _⟩ := (show ObjOk X.prog X.w H s.heap a (ExO (.ref D) a) from I.hok a _ h)
  exact ⟨oe, hget, hz.1, notCls_of hd, by rw [hz.2]; trivial⟩
theorem call_isO {K : PySem.W.Frag} (hK : X.K = K) : CallR X (.builtin "isinstance") (rIsO K) := by
  subst hK
  intro pins s σ H xs us Q I r h
  obtain ⟨a, D, c, cv, b, rfl, k, ha, T, e, q⟩ := h
  obtain ⟨u1, u2, rfl, r1, r2⟩ := vals2 r
  cases (show u1 = Value.ref a from r1)
  have e2 := k.eq r2
  subst e2
  obtain ⟨oe, J⟩ := inst_O I ha
  exact PySem.W.kia_one T.kit I.kIn J e (fun z => nomatch z) fun tk => ⟨.bl b, H, I.tok tk, rfl, q⟩
theorem call_isOT {K : PySem.W.Frag} (hK : X.K = K) : CallR X (.builtin "isinstance") (rIsOT K) := by
  subst hK
  intro pins s σ H xs us Q I r h
  obtain ⟨a, D, tp, cs, ws, b, rfl, hT, k, ha, T, e, q⟩ := h
  obtain ⟨u1, u2, rfl, r1, r2⟩ := vals2 r
  cases (show u1 = Value.ref a from r1)
  cases (show u2 = Value.ref tp from r2)
  obtain ⟨_, its, rv, o, h1, h2, n, h3⟩ := (show ObjOk X.prog X.w H s.heap tp (.tup cs) from I.hok tp _ hT)
  have e3 := ClsV.all k rv
  subst e3
  obtain ⟨oc, od', dt, sl⟩ := o
  simp only at h2 h3
  subst h2 h3
  obtain ⟨oe, J⟩ := inst_O I ha
  exact PySem.W.kia_tup T.kit I.kIn J h1 e (fun z => nomatch z) fun tk => ⟨.bl b, H, I.tok tk, rfl, q⟩
end
/-! ### isinstance of a pinned error, in any context that bears it -/
def rIsP (K : PySem.W.Frag) (a : Addr) (D : Addr) : List V → Hp → VK → Prop := fun xs H Q => ∃ (c : V) (cv : Value) (b : Bool), xs = [.ref a, c] ∧ ClsV c cv ∧ XCls K D ∧ PySem.W.kitOne K (.ref D) cv = some b ∧ Q (.bl b) H
def rIsPT (K : PySem.W.Frag) (a : Addr) (D : Addr) : List V → Hp → VK → Prop := fun xs H Q => ∃ (tp : Addr) (cs : List V) (us : List Value) (b : Bool), xs = [.ref a, .ref tp] ∧ H tp = some (.tup cs) ∧ Paired ClsV cs us ∧ XCls K D ∧ PySem.W.kitAny K (.ref D) us = some b ∧ Q (.bl b) H
section
variable {X : Cx} {p : Addr × Obj} {D : Addr}
theorem inst_P {pins : List (Addr × Obj)} {σ : L2.St} {H : Hp} {s : Shared} (I : Inv X pins σ H s) (hm : p ∈ X.pn) (hz : Zc (.ref D) none p.2) (hf : ∃ vs, p.2.data = .fields vs) : PySem.W.InstAt s.heap p.1 p.2 D none := by
  obtain ⟨hget, _⟩ := I.pin p (List.mem_append_left _ hm)
  obtain ⟨vs, hv⟩ := hf
  exact ⟨hget, hz.1, notCls_of hv, by rw [hz.2]; trivial⟩
theorem call_isP {K : PySem.W.Frag} (hK : X.K = K) (hm : p ∈ X.pn) (hz : Zc (.ref D) none p.2) (hf : ∃ vs, p.2.data = .fields vs) : CallR X (.builtin "isinstance") (rIsP K p.1 D) := by
  subst hK
  intro pins s σ H xs us Q I r h
  obtain ⟨c, cv, b, rfl, k, T, e, q⟩ := h
  obtain ⟨u1, u2, rfl, r1, r2⟩ := vals2 r
  cases (show u1 = Value.ref p.1 from r1)
  have e2 := k.eq r2
  subst e2
  exact PySem.W.kia_one T.kit I.kIn (inst_P I hm hz hf) e (fun z => nomatch z) fun tk => ⟨.bl b, H, I.tok tk, rfl, q⟩
theorem call_isPT {K : PySem.W.Frag} (hK : X.K = K) (hm : p ∈ X.pn) (hz : Zc (.ref D) none p.2) (hf : ∃ vs, p.2.data = .fields vs) : CallR X (.builtin "isinstance") (rIsPT K p.1 D) := by
  subst hK
  intro pins s σ H xs us Q I r h
  obtain ⟨tp, cs, ws, b, rfl, hT, k, T, e, q⟩ := h
  obtain ⟨u1, u2, rfl, r1, r2⟩ := vals2 r
  cases (show u1 = Value.ref p.1 from r1)
  cases (show u2 = Value.ref tp from r2)
  obtain ⟨_, its, rv, o, h1, h2, n, h3⟩ := (show ObjOk X.prog X.w H s.heap tp (.tup cs) from I.hok tp _ hT)
  have e3 := ClsV.all k rv
  subst e3
  obtain ⟨oc, od', dt, sl⟩ := o
  simp only at h2 h3
  subst h2 h3
  exact PySem.W.kia_tup T.kit I.kIn (inst_P I hm hz hf) h1 e (fun z => nomatch z) fun tk => ⟨.bl b, H, I.tok tk, rfl, q⟩
end
/-! ### a def whose one argument is the error that is handled -/
structure FnE (P : Program) (w : World) (K : PySem.W.Frag) (mg : Str → Option Value) (base : Heap) (k : Nat) (f : Addr) (fd : FuncData) (x : Str) (D : Addr) (v : V) : Prop where
  run : ∀ (A : Around) (outer : List Env) (s : Shared) (H : Hp) (Q : VK) (p : Addr × Obj), L2H.RoomH k A → L2H.Hot1 A p → Zc (.ref D) none p.2 → L2H.PinOk outer H s p → Env0 P w K mg base A outer s H → BindsTo s fd ⟨[.ref p.1], []⟩ [(x, .ref p.1)] → (∀ H', Same H H' → Q v H') →
    codeAny (model P w) A (.call (.ref f) ⟨[.ref p.1], []⟩) (CR CX0 outer P w H s Q (fun _ _ _ => False)) s
def CalE (P : Program) (w : World) (K : PySem.W.Frag) (mg : Str → Option Value) (base : Heap) (k : Nat) (n x : Str) (D : Addr) (v : V) : Prop :=
  ∃ (f : Addr) (fd : FuncData), FnE P w K mg base k f fd x D v ∧ mg n = some (.ref f) ∧ PySem.W.keepIn K (.ref f) = true ∧ Binds K fd [x] []
section
variable {P : Program} {w : World} {K : PySem.W.Frag} {mg : Str → Option Value} {base : Heap} {x n qual : Str} {st : Stmt} {f D : Addr} {fd : FuncData} {N : List Str} {k : Nat} {v : V}
/-- such a def, by its body -/
theorem okE (F : Fun K n qual st f fd) (S : FnScope N [x] (defScope st))
    (body : ∀ (cdv : Value) (A : Around) (outer : List Env) (s : Shared) (H : Hp) (Q : VK) (p : Addr × Obj), L2H.RoomH k (A.deeper (envOfC qual (defScope st) s.heap.objs.size f cdv)) → Zc (.ref D) none p.2 → (∃ vs, p.2.data = .fields vs) → (∀ H', Same H H' → Q v H') →
      ∃ t, PSs (L2H.cxH CX0 P w K mg base N qual (defScope st) f cdv A outer s H (fun _ _ _ => False) p).nox (defBody st) t ∧ t { nx := fun _ H' => Q .non H', rt := Q } (start N [.ref p.1]) H) : FnE P w K mg base (k + 1) f fd x D v := by
  obtain ⟨oc, od, kV, doc, pm, an, cdv, ct, osl, rfl, lk, hcd⟩ := F.ex
  refine ⟨fun A outer s H Q p hr hot hz pin e0 hb q => ?_⟩
  have there : ∀ b o, base.get? b = some o → s.heap.get? b = some o := fun b o e => (e0.bs b o e).1
  have kin : K.In s.heap := e0.mod.kin.keeps there
  have lims := e0.mod.nolimit.keeps there
  have kinds : ∀ y ∈ [(x, Value.ref p.1)], (defScope st).names.lookup y.1 = some .local ∨
      ((defScope st).names.lookup y.1 = some .cell ∧ ((cellsFrom (s.heap.objs.size + 1) (defScope st).names []).lookup y.1).isSome = true) := fun y hy => by
    rw [List.mem_singleton.mp hy]
    exact (S.par x List.mem_cons_self).imp id fun q => ⟨q, PySem.W.cellsFrom_some _ _ _ (.inl q)⟩
  refine codeAny_call_function hr.depth (kin _ _ lk) rfl S.co S.gen rfl
    (PySem.W.codeRec_of kin hcd) (hb _ _ _ _ ?_)
  refine wpAny_newFunctionEnv_cells S.kind kinds fun env he s1 y => ?_
  subst he
  refine ⟨lims.keeps y.toInCall.keep, codeAny_func ?_⟩
  obtain ⟨t, ht, ht2⟩ := body cdv A outer s H Q p (hr.deeper _) hz (hot.2.elim fun a h => ⟨a, h.1⟩) q
  have I := L2H.inv_startH (CX := CX0) (us := [.ref p.1]) (vs := [V.ref p.1]) (E := fun _ _ _ => False) (cd := cdv) S pin e0 rfl (.cons rfl .nil) y
  refine wpAny_mono (ht.nox.run [] s1 (L2.start N [V.ref p.1]) H _ I ht2)
    (fun fl s' hs => ?_) (fun e s' hs => hs)
  match fl, hs with
  | .ret u, ⟨v, σ', H', J, rv, q⟩ => exact ⟨v, H', J.os, J.bare, J.base, J.hok, rv, q⟩
  | .next, ⟨σ', H', J, q⟩ => exact ⟨V.non, H', J.os, J.bare, J.base, J.hok, rfl, q⟩
  | .brk, ⟨_, _, _, q⟩ => exact q.elim
  | .cont, ⟨_, _, _, q⟩ => exact q.elim
end
/-- f(e), e the error that the suite holds -/
def tCallE (D : Addr) (v : V) (a : Addr) (cls : Value) (d : Option Addr) (te : TE) : TE := fun σ H Q => te σ H fun y H1 => y = .ref a ∧ cls = .ref D ∧ d = none ∧ ∀ H', Same H1 H' → Q v H'
theorem pe_callE {X : Cx} {k : Nat} {a D : Addr} {oe : Obj} {cls : Value} {d : Option Addr} {pn : List (Addr × Obj)} {n x : Str} {v : V} {q pos : Pos} {e : Expr} {te : TE} (C : CalE X.prog X.w X.K X.mg X.base k n x D v) (hr : L2H.RoomH k (X.suite a ((a, oe) :: pn)).A) (hz : L2N.Zn cls d oe) (hf : ∃ vs, oe.data = .fields vs)
    (hg : Gl X n) (ha : PE (X.suite a ((a, oe) :: pn)) e te) (hdb : (n == ("__debug__" : Str)) = false := by decide) (he : starEach [e] X.env = [(false, eval e X.env)] := by rfl) (hpl : (backTo pos (starEach ([] : List Expr) X.env)).any (·.1) = false := by rfl) :
    PE (X.suite a ((a, oe) :: pn)) (.Call (.Name n q) [e] [] pos) (tCallE D v a cls d te) := by
  obtain ⟨f, fd, G, hm, hk, hb⟩ := C
  refine ⟨fun pins s σ H Q I h => ?_⟩
  refine wpAny_Call_Name_kw (ld_glob I hg hm ?_ hdb)
  refine PySem.W.callWith_K (h₀ := X.base) I.ok.mod.kin hk ?_ he hpl
  refine thn ((pa_cons (hs := he) ha pa_nil).run pos pins s σ H (fun ys H1 => match ys with | [y] => y = V.ref a ∧ cls = .ref D ∧ d = none ∧ ∀ H', Same H1 H' → Q v H' | _ => False) I h) fun us s1 hh => ?_
  obtain ⟨ys, H1, I1, r, q⟩ := hh
  refine ⟨I1.kIn, ?_⟩
  match ys, us, r, q with
  | [y], [u], r, q1 =>
    obtain ⟨rfl, rfl, rfl, q2⟩ := q1
    obtain rfl : u = Value.ref a := by
      cases r with
      | cons r0 _ => exact r0
    obtain ⟨z1, z2, z3, z4, z5⟩ := I1.pin (a, oe) (List.mem_append_left _ List.mem_cons_self)
    obtain ⟨vs, ev⟩ := id hf
    have pin : L2H.PinOk X.stack H1 s1 (a, oe) := ⟨z1, z2, fun hmem => (List.mem_cons.mp (I1.stkSub a hmem)).elim z3 z4, z5⟩
    have run := G.run (X.suite a ((a, oe) :: pn)).A X.stack s1 H1 Q (a, oe) hr ⟨rfl, vs, ev, hz.2.2 vs ev⟩ hz.zc pin I1.env0 (hb s1 [.ref a] I1.kIn rfl) q2
    refine wpAny_call (codeAny_mono run fun r s' hq => ?_)
    match r, hq with
    | .ok (.ret u), hq => exact I1.after hq
end EX
/-! What the walks share: the text by places, the facts of the top, plans in the heap. -/
namespace P66
open PySem PySem.Spec PyProof.Rows L2 SX EX
def top (i : Nat) : Stmt := PySem.Challenge.pw_wholecables_k66_bad_plans.main.body.getD i (.Pass ⟨0, 0, 0, 0⟩)

/-- a def as its callers see it -/
def Cal (P : Program) (w : World) (K : PySem.W.Frag) (mg : Str → Option Value) (base : Heap) (k : Nat) (x : Str) (ps : List Str) (sp : Sp) : Prop :=
  ∃ (f : Addr) (fd : FuncData), FnOk P w K mg base CX0 k f fd ps sp ∧ mg x = some (.ref f) ∧ PySem.W.keepIn K (.ref f) = true ∧ Binds K fd ps []
theorem Cal.mono {P : Program} {w : World} {K : PySem.W.Frag} {mg : Str → Option Value} {base : Heap} {j k : Nat} {x : Str} {ps : List Str} {sp : Sp} (C : Cal P w K mg base j x ps sp) (h : j ≤ k) : Cal P w K mg base k x ps sp := by
  obtain ⟨f, fd, G, m, kp, b⟩ := C
  exact ⟨f, fd, G.mono h, m, kp, b⟩
theorem pe_cal {X : Cx} {k : Nat} {x : Str} {ps : List Str} {sp : Sp} {p pos : Pos} {e : Expr} {es : List Expr} {t : TA} (C : Cal X.prog X.w X.K X.mg X.base k x ps sp) (hr : Room k X.A) (hg : Gl X x) (ha : PA X (e :: es) t)
    (hdb : (x == ("__debug__" : Str)) = false := by decide) (he : starEach (e :: es) X.env = (false, eval e X.env) :: starEach es X.env := by rfl) (hpl : (backTo pos (starEach es X.env)).any (·.1) = false := by rfl) :
    PE X (.Call (.Name x p) (e :: es) [] pos) (tCall sp [] E0 t) := by
  obtain ⟨f, fd, G, m, kp, b⟩ := C
  exact pe_call G hr hg m kp b .nil pass0 ha hdb he hpl

/-- the built-in names that the text asks for are the built-in ones, its constants stand -/
structure Txt (mg : Str → Option Value) : Prop where
  b_len : mg "len" = none
  b_int : mg "int" = none
  b_str : mg "str" = none
  b_tuple : mg "tuple" = none
  b_bool : mg "bool" = none
  b_isinstance : mg "isinstance" = none
  b_range : mg "range" = none
  b_any : mg "any" = none
  b_all : mg "all" = none
  b_max : mg "max" = none
  b_ValueError : mg "ValueError" = none
  b_DIGITS_reading : ∃ t, mg "DIGITS_reading" = some (.str "0123456789" t)
  b_DIGITS_plannotes : ∃ t, mg "DIGITS_plannotes" = some (.str "0123456789" t)
  b_LETTERS : ∃ t, mg "LETTERS" = some (.str "abcdefghijklmnopqrstuvwxyz" t)
  b_MOST_LETTERS : ∃ t, mg "MOST_LETTERS" = some (.int 8 t)
  b_MOST_DEPTH : ∃ t, mg "MOST_DEPTH" = some (.int 12 t)
  b_MOST_TUPLES : ∃ t, mg "MOST_TUPLES" = some (.int 40 t)
theorem pe_gstr {X : Cx} {x : Str} {y : Str} {pos : Pos} (hg : Gl X x) (h : ∃ t, X.mg x = some (.str y t)) (hd : (x == ("__debug__" : Str)) = false := by decide) : PE X (.Name x pos) (tC (.str y)) := by
  obtain ⟨t, e⟩ := h
  exact pe_glob hg e ⟨_, rfl⟩ hd
theorem pe_gint {X : Cx} {x : Str} {y : Int} {pos : Pos} (hg : Gl X x) (h : ∃ t, X.mg x = some (.int y t)) (hd : (x == ("__debug__" : Str)) = false := by decide) : PE X (.Name x pos) (tC (.int y)) := by
  obtain ⟨t, e⟩ := h
  exact pe_glob hg e ⟨_, rfl⟩ hd

/-- the errors of the text: BadPlan at cB, CableError at cC -/
structure Err (K : PySem.W.Frag) (mg : Str → Option Value) (cB cC : Addr) : Prop where
  g_BadPlan : mg "BadPlan" = some (.ref cB)
  g_CableError : mg "CableError" = some (.ref cC)
  q_BadPlan : PySem.W.excIn K cB [.type "ValueError", .type "Exception", .type "BaseException", .type "object"] "ValueError.__new__" = true
  k_BadPlan : PySem.W.keepIn K (.ref cB) = true
  x : XCls K cB
  eC : PySem.W.exmOne K (.ref cB) (.ref cC) = some true
  kB : PySem.W.kitOne K (.ref cB) (.ref cB) = some true
  kC : PySem.W.kitOne K (.ref cB) (.ref cC) = some true
  kV : PySem.W.kitOne K (.ref cB) (.type "ValueError") = some true
  n_ZeroBottom : ∃ a, mg "ZeroBottom" = some (.ref a) ∧ PySem.W.kitOne K (.ref cB) (.ref a) = some false
  n_NotSquare : ∃ a, mg "NotSquare" = some (.ref a) ∧ PySem.W.kitOne K (.ref cB) (.ref a) = some false
  n_NotSymmetric : ∃ a, mg "NotSymmetric" = some (.ref a) ∧ PySem.W.kitOne K (.ref cB) (.ref a) = some false
  n_SizesDiffer : ∃ a, mg "SizesDiffer" = some (.ref a) ∧ PySem.W.kitOne K (.ref cB) (.ref a) = some false
  n_BelowZero : ∃ a, mg "BelowZero" = some (.ref a) ∧ PySem.W.kitOne K (.ref cB) (.ref a) = some false
  n_BadRow : ∃ a, mg "BadRow" = some (.ref a) ∧ PySem.W.kitOne K (.ref cB) (.ref a) = some false
  n_BadWeight : ∃ a, mg "BadWeight" = some (.ref a) ∧ PySem.W.kitOne K (.ref cB) (.ref a) = some false
  n_NoSolution : ∃ a, mg "NoSolution" = some (.ref a) ∧ PySem.W.kitOne K (.ref cB) (.ref a) = some false
  n_OutsideFence : ∃ a, mg "OutsideFence" = some (.ref a) ∧ PySem.W.kitOne K (.ref cB) (.ref a) = some false
  n_RunOver : ∃ a, mg "RunOver" = some (.ref a) ∧ PySem.W.kitOne K (.ref cB) (.ref a) = some false
  n_BadPick : ∃ a, mg "BadPick" = some (.ref a) ∧ PySem.W.kitOne K (.ref cB) (.ref a) = some false
  n_BadStep : ∃ a, mg "BadStep" = some (.ref a) ∧ PySem.W.kitOne K (.ref cB) (.ref a) = some false
  n_StepsLeft : ∃ a, mg "StepsLeft" = some (.ref a) ∧ PySem.W.kitOne K (.ref cB) (.ref a) = some false
  n_BadTie : ∃ a, mg "BadTie" = some (.ref a) ∧ PySem.W.kitOne K (.ref cB) (.ref a) = some false
  n_SamePlace : ∃ a, mg "SamePlace" = some (.ref a) ∧ PySem.W.kitOne K (.ref cB) (.ref a) = some false
  n_BadNotation : ∃ a, mg "BadNotation" = some (.ref a) ∧ PySem.W.kitOne K (.ref cB) (.ref a) = some false
  n_BadBundle : ∃ a, mg "BadBundle" = some (.ref a) ∧ PySem.W.kitOne K (.ref cB) (.ref a) = some false
  n_TooNear : ∃ a, mg "TooNear" = some (.ref a) ∧ PySem.W.kitOne K (.ref cB) (.ref a) = some false
  n_TakenIndex : ∃ a, mg "TakenIndex" = some (.ref a) ∧ PySem.W.kitOne K (.ref cB) (.ref a) = some false
  n_BadIndex : ∃ a, mg "BadIndex" = some (.ref a) ∧ PySem.W.kitOne K (.ref cB) (.ref a) = some false
  n_UnknownName : ∃ a, mg "UnknownName" = some (.ref a) ∧ PySem.W.kitOne K (.ref cB) (.ref a) = some false
  n_NoTie : ∃ a, mg "NoTie" = some (.ref a) ∧ PySem.W.kitOne K (.ref cB) (.ref a) = some false
  n_NothingToUndo : ∃ a, mg "NothingToUndo" = some (.ref a) ∧ PySem.W.kitOne K (.ref cB) (.ref a) = some false
  n_NothingToRedo : ∃ a, mg "NothingToRedo" = some (.ref a) ∧ PySem.W.kitOne K (.ref cB) (.ref a) = some false
  n_CountsDiffer : ∃ a, mg "CountsDiffer" = some (.ref a) ∧ PySem.W.kitOne K (.ref cB) (.ref a) = some false
  n_BadPrices : ∃ a, mg "BadPrices" = some (.ref a) ∧ PySem.W.kitOne K (.ref cB) (.ref a) = some false
  n_SharedPlace : ∃ a, mg "SharedPlace" = some (.ref a) ∧ PySem.W.kitOne K (.ref cB) (.ref a) = some false
theorem Err.r_BadPlan {K : PySem.W.Frag} {mg : Str → Option Value} {cB cC : Addr} (U : Err K mg cB cC) {X : Cx} (h : X.K = K := by rfl) : Raises X (.ref cB) := by subst h; exact U.x.raises
/-- a plan in the heap -/
def PlanAt (H : Hp) : Plan → Addr → Prop
  | .take n, p => H p = some (.tup [.str "take", .str (S n)])
  | .join a b, p => ∃ pa pb, H p = some (.tup [.str "join", .ref pa, .ref pb]) ∧ PlanAt H a pa ∧ PlanAt H b pb
  | .scale i j a, p => ∃ pa, H p = some (.tup [.str "scale", .int i, .int j, .ref pa]) ∧ PlanAt H a pa
  | .spare a, p => ∃ pa, H p = some (.tup [.str "spare", .ref pa]) ∧ PlanAt H a pa
  | .base a, p => ∃ pa, H p = some (.tup [.str "base", .ref pa]) ∧ PlanAt H a pa
  | .thin k a, p => ∃ pa, H p = some (.tup [.str "thin", .int k, .ref pa]) ∧ PlanAt H a pa
theorem PlanAt.same {H H' : Hp} (e : Same H H') : ∀ {a : Plan} {p : Addr}, PlanAt H a p → PlanAt H' a p
  | .take _, _, h => e _ _ h
  | .join _ _, _, ⟨pa, pb, h, ha, hb⟩ => ⟨pa, pb, e _ _ h, PlanAt.same e ha, PlanAt.same e hb⟩
  | .scale _ _ _, _, ⟨pa, h, ha⟩ => ⟨pa, e _ _ h, PlanAt.same e ha⟩
  | .spare _, _, ⟨pa, h, ha⟩ => ⟨pa, e _ _ h, PlanAt.same e ha⟩
  | .base _, _, ⟨pa, h, ha⟩ => ⟨pa, e _ _ h, PlanAt.same e ha⟩
  | .thin _ _, _, ⟨pa, h, ha⟩ => ⟨pa, e _ _ h, PlanAt.same e ha⟩
theorem same_new {H : Hp} {p : Addr} (h : H p = none) (o : HO) : Same H (upd H p o) := fun b u q => by rw [upd_ne (ne_of_none q h)]; exact q
theorem line_ge {n : Nat} (h : n ≤ 100000) : n ≤ sizeLine := Nat.le_trans h (by rw [sizeLine_eq]; decide)
theorem slen (l : List Nat) : (S l).length = l.length := S_len l
theorem sline {l : List Nat} (h : l.length ≤ 100000) : (S l).length ≤ sizeLine := by rw [slen]; exact line_ge h
theorem at_pos {α : Type} {xs : List α} {z : Int} {v : α} (h0 : 0 ≤ z) (h : xs[z.toNat]? = some v) : atI xs z = some v := by
  have e : z = ((z.toNat : Nat) : Int) := by omega
  rw [e]
  exact atI_nat h
theorem two_line : 2 ≤ sizeLine := line_ge (by omega)
theorem three_line : 3 ≤ sizeLine := line_ge (by omega)
theorem lc_yes {σ : L2.St} {H : Hp} {A B : Hp → Prop} (h : A H) : tYes σ H (fun b H3 => if b = true then A H3 else B H3) := by
  show (if true = true then A H else B H)
  exact iteT h
theorem ifT {c : Bool} {A B : Prop} (hc : c = true) (h : A) : if c = true then A else B := by rw [if_pos hc]; exact h
theorem ifF {c : Bool} {A B : Prop} (hc : c = false) (h : B) : if c = true then A else B := by rw [hc, if_neg Bool.false_ne_true]; exact h
theorem dec_ne {a b : V} (h : a ≠ b) : decide (a = b) = false := decide_eq_false h
theorem same_at {H H' : Hp} {D : Addr} {o : HO} (e : Same H H') (h : H D = none) : Same H (upd H' D o) := fun b u q => by
  have hne : b ≠ D := fun z => by
    rw [z, h] at q
    cases q
  rw [upd_ne hne]
  exact e _ _ q
theorem dec_lt {a b : Int} (h : decide (a < b) = true) : a < b := of_decide_eq_true h
theorem not_lt {a b : Int} (h : ¬ decide (a < b) = true) : ¬ a < b := of_decide_eq_false (Bool.eq_false_iff.mpr h)
theorem ifs_of {c : TT} {t u : TS} {D : Ends} {σ : L2.St} {H : Hp} (b : Bool) (hb : ∀ Q : Bool → Hp → Prop, Q b H → c σ H Q) (ht : b = true → t D σ H) (hu : b = false → u D σ H) : tIfS c t u D σ H := by
  refine hb _ ?_
  cases b with
  | true => exact ifT rfl (ht rfl)
  | false => exact ifF rfl (hu rfl)
theorem ifs_seq {c : TT} {t u r : TS} {D : Ends} {σ : L2.St} {H : Hp} (b : Bool) (hb : ∀ Q : Bool → Hp → Prop, Q b H → c σ H Q) (ht : b = true → t { D with nx := r D } σ H) (hu : b = false → u { D with nx := r D } σ H) : tSeq (tIfS c t u) r D σ H := ifs_of b hb ht hu
theorem ifs_seqN {c : TT} {t r : TS} {D : Ends} {σ : L2.St} {H : Hp} (b : Bool) (hb : ∀ Q : Bool → Hp → Prop, Q b H → c σ H Q) (ht : b = true → t { D with nx := r D } σ H) (hu : b = false → r D σ H) : tSeq (tIfS c t tNext) r D σ H := ifs_of b hb ht hu
theorem seq_asg {te : TE} {i : Nat} {u : TS} {D : Ends} {σ : L2.St} {H : Hp} (h : te σ H fun x H1 => u D (σ.set i (some x)) H1) : tSeq (tAsg te (gName i)) u D σ H := h
theorem str_ne {a b : List Nat} (h : a ≠ b) : ¬ V.str (S a) = V.str (S b) := fun e => h (S_inj (V.str.inj e))
theorem str_dec (a b : List Nat) : decide (V.str (S a) = V.str (S b)) = decide (a = b) := by
  by_cases h : a = b
  · rw [h, decide_eq_true rfl, decide_eq_true rfl]
  · rw [decide_eq_false h, decide_eq_false (str_ne h)]
end P66
namespace P66
open PySem PySem.Spec PyProof.Rows L2 SX EX
/-! ### slices of a text -/
theorem cut_mid (l : List Nat) {a b : Int} (ha : 0 ≤ a) (hb : a ≤ b) : cutS (S l) (some a) (some b) = S ((l.drop a.toNat).take (b - a).toNat) := by
  have e1 : HT.sIx (S l).length 0 (some a) = min a.toNat l.length := by rw [slen]; show (if a < 0 then _ else _) = _; rw [if_neg (by omega)]
  have e2 : HT.sIx (S l).length (S l).length (some b) = min b.toNat l.length := by rw [slen]; show (if b < 0 then _ else _) = _; rw [if_neg (by omega)]
  unfold cutS
  rw [e1, e2]
  show (⟨((l.drop (min a.toNat l.length)).take (min b.toNat l.length - min a.toNat l.length)).toArray⟩ : Str) = _
  refine congrArg S ?_
  by_cases h : a.toNat ≤ l.length
  · rw [Nat.min_eq_left h]
    by_cases h2 : b.toNat ≤ l.length
    · rw [Nat.min_eq_left h2]
      congr 1
      omega
    · rw [Nat.min_eq_right (by omega), List.take_of_length_le (by rw [List.length_drop]; omega), List.take_of_length_le (by rw [List.length_drop]; omega)]
  · rw [List.drop_eq_nil_of_le (by omega), List.drop_eq_nil_of_le (by omega), List.take_nil, List.take_nil]
theorem cut_to (l : List Nat) {b : Int} (hb : 0 ≤ b) : cutS (S l) none (some b) = S (l.take b.toNat) := by
  have e := cut_mid l (a := 0) (b := b) (Int.le_refl 0) hb
  have q : cutS (S l) none (some b) = cutS (S l) (some 0) (some b) := by
    unfold cutS
    have e1 : HT.sIx (S l).length 0 none = 0 := rfl
    have e2 : HT.sIx (S l).length 0 (some 0) = 0 := by show (if (0 : Int) < 0 then ((0 : Int) + ((S l).length : Nat)).toNat else min (0 : Int).toNat (S l).length) = 0; rw [if_neg (by decide)]; exact Nat.zero_min _
    rw [e1, e2]
  rw [q, e, show (b - 0).toNat = b.toNat by omega]
  rfl
theorem lit_digits : ("0123456789" : Str) = S [48, 49, 50, 51, 52, 53, 54, 55, 56, 57] := by decide +kernel
theorem lit_minus : ("-" : Str) = S [45] := by decide +kernel
theorem lit_zero : ("0" : Str) = S [48] := by decide +kernel
theorem lit_empty : ("" : Str) = S [] := by decide +kernel
theorem mem_digits {c : Nat} (h : digit c = true) : c ∈ [48, 49, 50, 51, 52, 53, 54, 55, 56, 57] := by
  have h := of_decide_eq_true h
  simp only [List.mem_cons, List.not_mem_nil, or_false]
  omega
theorem digit_of_mem {c : Nat} (h : c ∈ [48, 49, 50, 51, 52, 53, 54, 55, 56, 57]) : digit c = true := by
  simp only [List.mem_cons, List.not_mem_nil, or_false] at h
  exact decide_eq_true (by omega)
theorem lit_lp : ("(" : Str) = S [40] := by decide +kernel
theorem lit_rp : (")" : Str) = S [41] := by decide +kernel
theorem lit_plus : (" + " : Str) = S [32, 43, 32] := by decide +kernel
theorem lit_slash : ("/" : Str) = S [47] := by decide +kernel
theorem lit_star : (" * " : Str) = S [32, 42, 32] := by decide +kernel
theorem lit_blank : (" " : Str) = S [32] := by decide +kernel
theorem lit_thin_ : ("thin " : Str) = S (tThin ++ [32]) := by decide +kernel
theorem lit_thin : ("thin" : Str) = S tThin := by decide +kernel
theorem lit_spare : ("spare" : Str) = S tSpare := by decide +kernel
theorem lit_base : ("base" : Str) = S tBase := by decide +kernel
theorem lit_letters : ("abcdefghijklmnopqrstuvwxyz" : Str) = S [97, 98, 99, 100, 101, 102, 103, 104, 105, 106, 107, 108, 109, 110, 111, 112, 113, 114, 115, 116, 117, 118, 119, 120, 121, 122] := by decide +kernel
section
variable {P : Program} {w : World} {K : PySem.W.Frag} {mg : Str → Option Value} {base : Heap} {f : Addr} {fd : FuncData}
/-! ### longest -/
def inS (g : List Nat) (c : Nat) : Bool := decide (c ∈ g)
/-- the longest string of the signs g that begins at the place a -/
def run (l g : List Nat) (a : Int) : List Nat := (l.drop a.toNat).takeWhile (inS g)
def spLongest : Sp := fun vs H Q _ => ∃ (l g : List Nat) (a : Int), vs = [.str (S l), .int a, .str (S g)] ∧ l.length ≤ 100000 ∧ 0 ≤ a ∧ a ≤ l.length ∧ Q (.str (S (run l g a))) H
abbrev s_longest : Stmt := top 41
abbrev N_longest : List Str := ["text", "at", "signs", "end"]
theorem sc_longest : FnScope N_longest ["text", "at", "signs"] (defScope s_longest) := ⟨rfl, rfl, rfl, by decide +kernel, rfl, by decide +kernel, by decide +kernel⟩
/-- e stands between the place a and the end of the run -/
structure Going (l g : List Nat) (a e : Int) : Prop where
  lo : a ≤ e
  hi : e ≤ l.length
  run : run l g a = (l.drop a.toNat).take (e - a).toNat ++ run l g e
theorem run_more {l g : List Nat} {e : Int} {c : Nat} (h0 : 0 ≤ e) (h : l[e.toNat]? = some c) (hc : c ∈ g) : run l g e = c :: run l g (e + 1) := by
  obtain ⟨hlt, hx⟩ := List.getElem?_eq_some_iff.mp h
  unfold run
  rw [List.drop_eq_getElem_cons hlt, hx, List.takeWhile_cons, if_pos (show inS g c = true from decide_eq_true hc), show (e + 1).toNat = e.toNat + 1 by omega]
theorem run_stop {l g : List Nat} {e : Int} {c : Nat} (h0 : 0 ≤ e) (h : l[e.toNat]? = some c) (hc : c ∉ g) : run l g e = [] := by
  obtain ⟨hlt, hx⟩ := List.getElem?_eq_some_iff.mp h
  unfold run
  rw [List.drop_eq_getElem_cons hlt, hx, List.takeWhile_cons, if_neg (by unfold inS; rw [decide_eq_false hc]; exact Bool.false_ne_true)]
theorem run_end {l g : List Nat} {e : Int} (h : (l.length : Int) ≤ e) : run l g e = [] := by
  unfold run
  rw [List.drop_eq_nil_of_le (by omega)]
  rfl
theorem take_more {l : List Nat} {a e : Int} {c : Nat} (h0 : 0 ≤ a) (h1 : a ≤ e) (h : l[e.toNat]? = some c) : (l.drop a.toNat).take (e + 1 - a).toNat = (l.drop a.toNat).take (e - a).toNat ++ [c] := by
  rw [show (e + 1 - a).toNat = (e - a).toNat + 1 by omega, List.take_add_one, List.getElem?_drop, show a.toNat + (e - a).toNat = e.toNat by omega, h]
  rfl
def wLongest (l g : List Nat) (a : Int) (H : Hp) (m : Nat) (σ : L2.St) (H' : Hp) : Prop :=
  ∃ e : Int, σ = [some (.str (S l)), some (.int a), some (.str (S g)), some (.int e)] ∧ H' = H ∧ Going l g a e ∧ m = ((l.length : Int) - e).toNat
theorem ok_longest (F : Fun K "longest" "longest" s_longest f fd) (T : Txt mg) : FnOk P w K mg base CX0 1 f fd ["text", "at", "signs"] spLongest := by
  refine F.ok sc_longest (fun vs H Q E h => ?_) (fun cdv A outer s H vs Q E hr h => ?_)
  · obtain ⟨l, g, a, rfl, _⟩ := h
    rfl
  obtain ⟨l, g, a, rfl, hl, h0, h1, q⟩ := h
  refine ⟨_, (pss_cons (ps_set (i := 3) sc_longest.nd rfl (Or.inl rfl) (pv 1))
  (pss_cons (ps_while PassesOwn.never (PW.pt (pw_and (pt_cmpR op_lt (pv 3) (pe_callB call_len_str (by rfl) T.b_len PySem.boot_len (pa_cons (pv 0) pa_nil)) (nomark _)) (pw_and1 (pt_cmpR op_in_sign (pe_ix ix_str (pv 0) (pv 3) (fun _ _ => rfl)) (pv 2) (by rfl))))) (pss_one (ps_set (i := 3) sc_longest.nd rfl (Or.inl rfl) (pe_op op_add (pv 3) pe_int))))
  (pss_one (ps_ret (pe_slice sl_str (pv 0) (po_some (pv 1)) (po_some (pv 3))))))), ?_⟩
  refine ⟨_, rfl, wLongest l g a H, ⟨_, a, rfl, rfl, ⟨Int.le_refl a, h1, ?_⟩, rfl⟩, ?_⟩
  · rw [Int.sub_self]
    rfl
  · rintro m σ H' ⟨e, rfl, rfl, G, rfl⟩
    have ge := G.lo
    refine ⟨_, rfl, _, rfl, _, rfl, sline hl, _, _, rfl, rfl, _, rfl, ?_⟩
    refine ite2 (fun c => ?_) (fun c => ?_)
    · have c1 : e < ((S l).length : Nat) := of_decide_eq_true c
      rw [slen] at c1
      have hlt : e.toNat < l.length := by omega
      obtain ⟨d, hd⟩ : ∃ d, l[e.toNat]? = some d := ⟨l[e.toNat], List.getElem?_eq_getElem hlt⟩
      have ge0 : 0 ≤ e := by omega
      refine ⟨_, rfl, _, rfl, _, _, d, rfl, rfl, sline hl, at_pos ge0 hd, _, rfl, d, S g, rfl, rfl, _, rfl, ?_⟩
      refine ite2 (fun c2 => ?_) (fun c2 => ?_)
      · have hc : d ∈ g := of_decide_eq_true c2
        refine ⟨fun σ' G' => ∃ m', m' < ((l.length : Int) - e).toNat ∧ wLongest l g a H' m' σ' G', fun _ _ z => z, ?_⟩
        refine ⟨_, rfl, e, 1, rfl, rfl, ((l.length : Int) - (e + 1)).toNat, ?_, e + 1, rfl, rfl, ⟨by omega, by omega, ?_⟩, rfl⟩
        · omega
        rw [G.run, run_more (by omega) hd hc, take_more h0 ge hd, List.append_assoc]
        rfl
      · have hc : d ∉ g := of_decide_eq_false (Bool.eq_false_iff.mpr c2)
        refine ⟨_, rfl, _, rfl, _, rfl, _, rfl, _, rfl, S l, rfl, sline hl, ?_⟩
        rw [cut_mid l h0 ge]
        have := G.run
        rw [run_stop (by omega) hd hc, List.append_nil] at this
        rw [← this]
        exact q
    · have c1 : ¬ e < ((S l).length : Nat) := of_decide_eq_false (Bool.eq_false_iff.mpr c)
      rw [slen] at c1
      refine ⟨_, rfl, _, rfl, _, rfl, _, rfl, _, rfl, S l, rfl, sline hl, ?_⟩
      rw [cut_mid l h0 ge]
      have := G.run
      rw [run_end (e := e) (by omega), List.append_nil] at this
      rw [← this]
      exact q
end
end P66
namespace P66
open PySem PySem.Spec PyProof.Rows L2 SX EX
abbrev digits : List Nat := [48, 49, 50, 51, 52, 53, 54, 55, 56, 57]
abbrev letters : List Nat := [97, 98, 99, 100, 101, 102, 103, 104, 105, 106, 107, 108, 109, 110, 111, 112, 113, 114, 115, 116, 117, 118, 119, 120, 121, 122]
theorem in_digits (c : Nat) : inS digits c = digit c := by
  unfold inS digit
  refine decide_eq_decide.mpr ?_
  simp only [digits, List.mem_cons, List.not_mem_nil, or_false]
  omega
theorem in_letters (c : Nat) : inS letters c = letter c := by
  unfold inS letter
  refine decide_eq_decide.mpr ?_
  simp only [letters, List.mem_cons, List.not_mem_nil, or_false]
  omega
theorem run_dg (l : List Nat) (a : Int) : run l digits a = dg (l.drop a.toNat) := by
  unfold run dg
  rw [show inS digits = digit from funext in_digits]
theorem run_lw (l : List Nat) (a : Int) : run l letters a = lw (l.drop a.toNat) := by
  unfold run lw
  rw [show inS letters = letter from funext in_letters]
theorem dg_len (l : List Nat) : (dg l).length ≤ l.length := by
  have h := congrArg List.length (dg_cut l)
  rw [List.length_append] at h
  omega
theorem lw_len (l : List Nat) : (lw l).length ≤ l.length := by
  have h := congrArg List.length (lw_cut l)
  rw [List.length_append] at h
  omega
/-- BadPlan(), and what stands behind it -/
def Bad (cB : Addr) (H : Hp) (E : XK) : Prop := ∀ H', Same H H' → E (.ref cB) none H'
theorem Bad.same {cB : Addr} {H H' : Hp} {E : XK} (e : Same H H') (h : Bad cB H E) : Bad cB H' E := fun H2 e2 => h H2 (e.trans e2)
def spBehind (cB : Addr) : Sp := fun vs H Q E => ∃ (l part : List Nat) (a : Int), vs = [.str (S l), .int a, .str (S part)] ∧ l.length ≤ 100000 ∧ part.length ≤ 1000 ∧ 0 ≤ a ∧ (∀ r, bh part (l.drop a.toNat) = some r → Q (.int (a + part.length)) H) ∧ (bh part (l.drop a.toNat) = none → Bad cB H E)
abbrev s_behind : Stmt := top 42
abbrev N_behind : List Str := ["text", "at", "part"]
theorem sc_behind : FnScope N_behind ["text", "at", "part"] (defScope s_behind) := ⟨rfl, rfl, rfl, by decide +kernel, rfl, by decide +kernel, by decide +kernel⟩
section
variable {P : Program} {w : World} {K : PySem.W.Frag} {mg : Str → Option Value} {base : Heap} {f : Addr} {fd : FuncData} {cB cC : Addr}
theorem ok_behind (F : Fun K "behind" "behind" s_behind f fd) (T : Txt mg) (U : Err K mg cB cC) : FnOk P w K mg base (L2N.CX P w) 1 f fd ["text", "at", "part"] (spBehind cB) := by
  refine okR F sc_behind (fun vs H Q E h => ?_) (fun cdv A outer s H vs Q E hr h => ?_)
  · obtain ⟨l, part, a, rfl, _⟩ := h
    rfl
  obtain ⟨l, part, a, rfl, hl, hp, h0, q0, q1⟩ := h
  refine ⟨_, (pss_cons (ps_if (pt_cmpR op_ne (pe_slice sl_str (pv 0) (po_some (pv 1)) (po_some (pe_op op_add (pv 1) (pe_callB call_len_str (by rfl) T.b_len PySem.boot_len (pa_cons (pv 2) pa_nil))))) (pv 2) (nomark _)) (pss_one (L2N.ps_raise rfl (L2N.takes_of rfl rfl rfl rfl) (pmk0 PySem.F.excBase_ValueError U.q_BadPlan U.g_BadPlan U.k_BadPlan U.r_BadPlan rfl))) pss_nil)
  (pss_one (ps_ret (pe_op op_add (pv 1) (pe_callB call_len_str (by rfl) T.b_len PySem.boot_len (pa_cons (pv 2) pa_nil)))))), ?_⟩
  refine ⟨_, rfl, _, rfl, _, rfl, _, rfl, _, rfl, _, rfl, sline (by omega), _, _, rfl, rfl, _, rfl, _, rfl, sline hl, _, rfl, rfl, _, rfl, ?_⟩
  have e : cutS (S l) (some a) (some (a + (((S part).length : Nat) : Int))) = S ((l.drop a.toNat).take part.length) := by
    rw [slen, cut_mid l h0 (by omega), show (a + (part.length : Int) - a).toNat = part.length by omega]
  by_cases c : (l.drop a.toNat).take part.length = part
  · refine ifF (by rw [e, c, decide_eq_true rfl]; rfl) ?_
    refine ⟨_, rfl, _, rfl, _, rfl, sline (by omega), _, _, rfl, rfl, ?_⟩
    rw [slen]
    exact q0 _ (by unfold bh; rw [if_pos c])
  · refine ifT (by rw [e, dec_ne (str_ne c)]; rfl) ?_
    exact q1 (by unfold bh; rw [if_neg c]) H (Same.refl H)
/-! ### whole_of, number_of -/
def spWhole_of : Sp := fun vs H Q _ => ∃ w : List Nat, vs = [.str (S w)] ∧ w.length ≤ 600 ∧ (∀ c ∈ w, digit c = true) ∧ (∀ n, wh w = some n → ∀ H', Same H H' → Q (.int (n : Nat)) H') ∧ (wh w = none → ∀ H', Same H H' → Q .non H')
abbrev s_whole_of : Stmt := top 32
abbrev N_whole_of : List Str := ["word", "digits", "char"]
theorem sc_whole_of : FnScope N_whole_of ["word"] (defScope s_whole_of) := ⟨rfl, rfl, rfl, by decide +kernel, rfl, by decide +kernel, by decide +kernel⟩
theorem dig_mem {c : Nat} (h : digit c = true) : c ∈ digits := by
  have := in_digits c
  rw [h] at this
  exact of_decide_eq_true this
theorem all_digits {w : List Nat} (h : ∀ c ∈ w, digit c = true) : w.all (fun c => decide (48 ≤ c) && decide (c ≤ 57)) = true := by
  rw [List.all_eq_true]
  intro c hc
  have := of_decide_eq_true (h c hc)
  rw [Bool.and_eq_true, decide_eq_true_eq, decide_eq_true_eq]
  exact this
theorem ok_whole_of (F : Fun K "whole_of" "whole_of" s_whole_of f fd) (T : Txt mg) : FnOk P w K mg base CX0 1 f fd ["word"] spWhole_of := by
  refine F.ok sc_whole_of (fun vs H Q E h => ?_) (fun cdv A outer s H vs Q E hr h => ?_)
  · obtain ⟨x, rfl, _⟩ := h
    rfl
  obtain ⟨x, rfl, hl6, hd, q1, q0⟩ := h
  refine ⟨_, (pss_cons (ps_set (i := 1) sc_whole_of.nd rfl (Or.inl rfl) (pe_ifExp (pt_cmpR op_eq (pe_slice sl_str (pv 0) po_none (po_some pe_int)) pe_str (nomark _)) (pe_slice sl_str (pv 0) (po_some pe_int) po_none) (pv 0)))
  (pss_cons (ps_if (PW.pt (pw_or (pt_cmpR op_eq (pv 1) pe_str (nomark _)) (pw_or1 (pt_val (pe_callB (cr_any rfl) (by rfl) T.b_any (by decide +kernel) (pa_cons (pe_lc (own := [("char", 2)]) (g := gName 2) (tt := tYes) (by rfl) sc_whole_of.nd (pi_str (pv 1)) (blkOk_by (N := N_whole_of) (sc := defScope s_whole_of) (by decide +kernel)) (fun _ _ _ _ _ => (pg_name (i := 2) sc_whole_of.nd rfl (Or.inl rfl))) (fun _ _ _ _ _ => pts_nil) (fun _ _ _ _ _ => (pe_cmpR op_notIn_sign (pv 2) (pe_gstr rfl T.b_DIGITS_reading) (by rfl)))) pa_nil)))))) (pss_one (ps_ret pe_non)) pss_nil)
  (pss_cons (ps_if (PW.pt (pw_and (pt_cmpR op_eq (pe_ix ix_str (pv 1) pe_int (fun _ _ => rfl)) pe_str (nomark _)) (pw_and1 (pt_cmpR op_ne (pv 0) pe_str (nomark _))))) (pss_one (ps_ret pe_non)) pss_nil)
  (pss_one (ps_ret (pe_callTy call_int_str (by rfl) T.b_int (by decide +kernel) (pa_cons (pv 0) pa_nil))))))), ?_⟩
  have hl : x.length ≤ 100000 := by omega
  refine ⟨_, rfl, _, rfl, _, rfl, sline hl, rfl, _, rfl, ?_⟩
  refine ite2 (fun c => ?_) (fun _ => ?_)
  · have e := of_decide_eq_true c
    rw [cut_to _ (by decide), lit_minus] at e
    have e1 := S_inj (V.str.inj e)
    have e2 : 45 ∈ x := List.mem_of_mem_take (by rw [e1]; exact List.mem_cons_self)
    exact absurd (hd 45 e2) (by decide)
  refine ⟨_, rfl, _, rfl, rfl, _, rfl, ?_⟩
  by_cases hne : x = []
  · subst hne
    refine ifT (by rw [lit_empty, decide_eq_true rfl]) ?_
    exact q0 rfl H (Same.refl H)
  refine ifF (by rw [lit_empty, dec_ne (str_ne hne)]) ?_
  refine ⟨_, rfl, _, rfl, fun D hD => ?_⟩
  refine lc_it walk_str (fun i H' => H' = upd H D (.lst (List.replicate i (V.bl false)))) rfl (fun _ _ _ _ => trivial) ?_ ?_
  · rintro i y H1 H2 hi rfl ⟨rfl, c, hc, rfl⟩
    refine ⟨rfl, ?_⟩
    have hcm : c ∈ x := by
      have e : x[i]? = some c := (Array.getElem?_toList (xs := (S x).cps) (i := i)).trans hc
      exact List.mem_of_getElem? e
    have hcd := dig_mem (hd c hcm)
    have hi3 : i < x.length := by
      have e : (S x).cps.size = x.length := slen _
      omega
    refine lc_yes ?_
    refine ⟨_, rfl, c, S digits, rfl, congrArg V.str lit_digits, _, upd_same, ?_, ?_⟩
    · rw [List.length_replicate]
      exact small1000 (by omega)
    · rw [decide_eq_true hcd, upd_upd, List.replicate_succ']
      rfl
  rintro H1 rfl
  have hsz : (S x).cps.size = x.length := slen _
  have gD := same_new hD (.lst (List.replicate (S x).cps.size (V.bl false)))
  refine ⟨D, List.replicate x.length false, rfl, SqL.of ?_, ?_⟩
  · rw [upd_same, hsz, List.map_replicate]
  have hany : (List.replicate x.length false).any id = false := by
    rw [List.any_eq_false]
    intro z hz
    rw [List.eq_of_mem_replicate hz]
    exact Bool.false_ne_true
  rw [hany]
  refine ⟨_, rfl, iteF ?_⟩
  obtain ⟨c0, r0, e0⟩ : ∃ c r, x = c :: r := by
    cases x with
    | nil => exact absurd rfl hne
    | cons c r => exact ⟨c, r, rfl⟩
  have num : PySem.intText? (S x) = some ((dv x : Nat) : Int) := int_S (all_digits hd) hne (by omega)
  refine ⟨_, rfl, _, _, c0, rfl, rfl, sline hl, ?_, rfl, _, rfl, ?_⟩
  · rw [e0]
    exact at_pos (by decide) rfl
  refine ite2 (fun c => ?_) (fun c => ?_)
  · have e := of_decide_eq_true c
    rw [lit_zero] at e
    have ec : c0 = 48 := List.head_eq_of_cons_eq (S_inj (V.str.inj e))
    refine ⟨_, rfl, rfl, _, rfl, ?_⟩
    by_cases hx : x = [48]
    · refine ifF (by rw [lit_zero, hx, decide_eq_true rfl]; rfl) ?_
      refine ⟨_, rfl, _, _, rfl, num, by rw [slen]; omega, q1 (dv x) ?_ _ gD⟩
      unfold wh
      rw [if_neg hne, if_neg (fun z => z.2 hx)]
    · refine ifT (by rw [lit_zero, dec_ne (str_ne hx)]; rfl) ?_
      refine q0 ?_ _ gD
      unfold wh
      rw [if_neg hne, if_pos ⟨by rw [e0, ec]; rfl, hx⟩]
  · refine iteF ?_
    refine ⟨_, rfl, _, _, rfl, num, by rw [slen]; omega, q1 (dv x) ?_ _ gD⟩
    unfold wh
    rw [if_neg hne, if_neg (fun z => ?_)]
    have h1 := z.1
    rw [e0] at h1
    refine c (decide_eq_true ?_)
    rw [lit_zero, Option.some.inj h1]
def spNumber_of : Sp := fun vs H Q _ => ∃ (w : List Nat) (least : Nat), vs = [.str (S w), .int (least : Nat)] ∧ w.length ≤ 600 ∧ (∀ c ∈ w, digit c = true) ∧ (∀ n, wh w = some n → least ≤ n → ∀ H', Same H H' → Q (.int (n : Nat)) H') ∧ ((wh w = none ∨ ∃ n, wh w = some n ∧ n < least) → ∀ H', Same H H' → Q .non H')
abbrev s_number_of : Stmt := top 33
abbrev N_number_of : List Str := ["word", "least", "number"]
theorem sc_number_of : FnScope N_number_of ["word", "least"] (defScope s_number_of) := ⟨rfl, rfl, rfl, by decide +kernel, rfl, by decide +kernel, by decide +kernel⟩
theorem ok_number_of (F : Fun K "number_of" "number_of" s_number_of f fd) (T : Txt mg) (C_whole_of : Cal P w K mg base 1 "whole_of" ["word"] spWhole_of) : FnOk P w K mg base CX0 2 f fd ["word", "least"] spNumber_of := by
  refine F.ok sc_number_of (fun vs H Q E h => ?_) (fun cdv A outer s H vs Q E hr h => ?_)
  · obtain ⟨x, least, rfl, _⟩ := h
    rfl
  obtain ⟨x, least, rfl, hl, hd, q1, q0⟩ := h
  refine ⟨_, (pss_cons (ps_set (i := 2) sc_number_of.nd rfl (Or.inl rfl) (pe_cal C_whole_of (hr.mono (by omega)) rfl (pa_cons (pv 0) pa_nil)))
  (pss_cons (ps_if (PW.pt (pw_or (pt_cmpR op_isN (pv 2) pe_non (nomark _)) (pw_or1 (pt_cmpR op_lt (pv 2) (pv 1) (nomark _))))) (pss_one (ps_ret pe_non)) pss_nil)
  (pss_one (ps_ret (pv 2))))), ?_⟩
  refine ⟨_, rfl, x, rfl, hl, hd, fun n hn H1 g1 => ?_, fun hn H1 g1 => ?_⟩
  · refine ⟨_, rfl, rfl, _, rfl, ifF (dec_ne fun z => nomatch z) ?_⟩
    refine ⟨_, rfl, _, rfl, _, _, rfl, rfl, _, rfl, ?_⟩
    refine ite2 (fun c => ?_) (fun c => ?_)
    · have := dec_lt c
      exact q0 (.inr ⟨n, hn, by omega⟩) H1 g1
    · have := not_lt c
      exact ⟨_, rfl, q1 n hn (by omega) H1 g1⟩
  · refine ⟨_, rfl, rfl, _, rfl, ifT (decide_eq_true rfl) ?_⟩
    exact iteT (q0 (.inl hn) H1 g1)
def spRead_number (cB : Addr) : Sp := fun vs H Q E => ∃ (l : List Nat) (a : Int) (least most : Nat), vs = [.str (S l), .int a, .int (least : Nat), .int (most : Nat)] ∧ l.length ≤ 600 ∧ 0 ≤ a ∧ a ≤ l.length ∧
  (∀ n r, rn least most (l.drop a.toNat) = some (n, r) → ∀ t H', Same H H' → H' t = some (.tup [.int (n : Nat), .int (a + (dg (l.drop a.toNat)).length)]) → Q (.ref t) H') ∧ (rn least most (l.drop a.toNat) = none → Bad cB H E)
abbrev s_read_number : Stmt := top 43
abbrev N_read_number : List Str := ["text", "at", "least", "most", "word", "number"]
theorem sc_read_number : FnScope N_read_number ["text", "at", "least", "most"] (defScope s_read_number) := ⟨rfl, rfl, rfl, by decide +kernel, rfl, by decide +kernel, by decide +kernel⟩
theorem ok_read_number (F : Fun K "read_number" "read_number" s_read_number f fd) (T : Txt mg) (U : Err K mg cB cC) (C_longest : Cal P w K mg base 1 "longest" ["text", "at", "signs"] spLongest) (C_number_of : Cal P w K mg base 2 "number_of" ["word", "least"] spNumber_of) :
    FnOk P w K mg base (L2N.CX P w) 3 f fd ["text", "at", "least", "most"] (spRead_number cB) := by
  refine okR F sc_read_number (fun vs H Q E h => ?_) (fun cdv A outer s H vs Q E hr h => ?_)
  · obtain ⟨l, a, least, most, rfl, _⟩ := h
    rfl
  obtain ⟨l, a, least, most, rfl, hl, h0, ha, q1, q0⟩ := h
  refine ⟨_, (pss_cons (ps_set (i := 4) sc_read_number.nd rfl (Or.inl rfl) (pe_cal C_longest (hr.mono (by omega)) rfl (pa_cons (pv 0) (pa_cons (pv 1) (pa_cons (pe_gstr rfl T.b_DIGITS_plannotes) pa_nil)))))
  (pss_cons (ps_set (i := 5) sc_read_number.nd rfl (Or.inl rfl) (pe_cal C_number_of (hr.mono (by omega)) rfl (pa_cons (pv 4) (pa_cons (pv 2) pa_nil))))
  (pss_cons (ps_if (PW.pt (pw_or (pt_cmpR op_isN (pv 5) pe_non (nomark _)) (pw_or1 (pt_cmpR op_gt (pv 5) (pv 3) (nomark _))))) (pss_one (L2N.ps_raise rfl (L2N.takes_of rfl rfl rfl rfl) (pmk0 PySem.F.excBase_ValueError U.q_BadPlan U.g_BadPlan U.k_BadPlan U.r_BadPlan rfl))) pss_nil)
  (pss_one (ps_ret (pe_tup (pa_cons (pv 5) (pa_cons (pe_op op_add (pv 1) (pe_callB call_len_str (by rfl) T.b_len PySem.boot_len (pa_cons (pv 4) pa_nil))) pa_nil)))))))), ?_⟩
  refine ⟨_, rfl, _, rfl, l, digits, a, by rw [lit_digits]; rfl, by omega, h0, ha, ?_⟩
  rw [run_dg]
  have hdl := dg_len (l.drop a.toNat)
  rw [List.length_drop] at hdl
  refine ⟨_, rfl, _, rfl, dg (l.drop a.toNat), least, rfl, by omega, dg_all _, fun n hn hle H1 g1 => ?_, fun hno H1 g1 => ?_⟩
  · refine ⟨_, rfl, rfl, _, rfl, ifF (dec_ne fun z => nomatch z) ?_⟩
    refine ⟨_, rfl, _, rfl, _, _, rfl, rfl, _, rfl, ?_⟩
    refine ite2 (fun c => ?_) (fun c => ?_)
    · have := dec_lt c
      refine (q0 ?_).same g1 H1 (Same.refl H1)
      unfold rn
      rw [hn]
      show (if n < least ∨ n > most then none else some (n, _)) = none
      rw [if_pos (.inr (by omega))]
    · have := not_lt c
      refine ⟨_, rfl, _, rfl, _, rfl, _, rfl, sline (by omega), _, _, rfl, rfl, two_line, fun u hu => ?_⟩
      refine q1 n ((l.drop a.toNat).drop (dg (l.drop a.toNat)).length) ?_ u _ (g1.trans (same_new hu _)) ?_
      · unfold rn
        rw [hn]
        show (if n < least ∨ n > most then none else some (n, _)) = _
        rw [if_neg (by omega)]
      · rw [upd_same, slen]
  · refine ⟨_, rfl, rfl, _, rfl, ifT (decide_eq_true rfl) ?_⟩
    refine iteT ((q0 ?_).same g1 H1 (Same.refl H1))
    unfold rn
    rcases hno with hno | ⟨n, hn, hlt⟩
    · rw [hno]
      rfl
    · rw [hn]
      show (if n < least ∨ n > most then none else some (n, _)) = none
      rw [if_pos (.inl hlt)]
end
end P66
namespace P66
open PySem PySem.Spec PyProof.Rows L2 SX EX
theorem drop_more {l x y : List Nat} {a : Int} (h0 : 0 ≤ a) (h : l.drop a.toNat = x ++ y) : l.drop (a + x.length).toNat = y := by
  rw [show (a + x.length).toNat = a.toNat + x.length by omega, ← List.drop_drop, h, List.drop_left]
theorem at_le {l x rest : List Nat} {a : Int} (h0 : 0 ≤ a) (ha : a ≤ l.length) (h : l.drop a.toNat = x ++ rest) : a + x.length + rest.length = l.length := by
  have e := congrArg List.length h
  rw [List.length_drop, List.length_append] at e
  omega
theorem rn_parts {a b n : Nat} {l r : List Nat} (h : rn a b l = some (n, r)) : dg l = TL.numL n ∧ r = l.drop (dg l).length := by
  have h0 := h
  obtain ⟨m, h1, h⟩ := bind_some h
  have h : (if m < a ∨ m > b then none else some (m, l.drop (dg l).length)) = some (n, r) := h
  by_cases c : m < a ∨ m > b
  · rw [if_pos c] at h
    cases h
  · rw [if_neg c] at h
    cases h
    obtain ⟨e, _, _⟩ := rn_some h0
    have e' := e.symm.trans (dg_cut l)
    exact ⟨(List.append_cancel_right e').symm, rfl⟩
/-- a reader of the program's: f is what it reads, by depth d, with n left -/
def spRd (cB : Addr) (n m : Nat) (f : Rd) : Sp := fun vs H Q E => ∃ (l : List Nat) (a d : Int), vs = [.str (S l), .int a, .int d] ∧ l.length ≤ 600 ∧ 0 ≤ a ∧ a ≤ l.length ∧ d + (n : Int) = (m : Int) ∧
  (∀ pl r, f (l.drop a.toNat) = some (pl, r) → ∀ p t H', Same H H' → PlanAt H' pl p → H' t = some (.tup [.ref p, .int (a + (fmt pl).length)]) → Q (.ref t) H') ∧ (f (l.drop a.toNat) = none → Bad cB H E)
abbrev s_read_join : Stmt := top 44
abbrev N_read_join : List Str := ["text", "at", "depth", "one", "end", "two", "last"]
theorem sc_read_join : FnScope N_read_join ["text", "at", "depth"] (defScope s_read_join) := ⟨rfl, rfl, rfl, by decide +kernel, rfl, by decide +kernel, by decide +kernel⟩
section
variable {P : Program} {w : World} {K : PySem.W.Frag} {mg : Str → Option Value} {base : Heap} {f : Addr} {fd : FuncData} {cB cC : Addr}
theorem ok_read_join {n : Nat} (F : Fun K "read_join" "read_join" s_read_join f fd) (T : Txt mg) (C_behind : CalX P w K mg base 1 "behind" ["text", "at", "part"] (spBehind cB))
    (C_read_plan : CalX P w K mg base (3 * n + 4) "read_plan" ["text", "at", "depth"] (spRd cB n 13 (rp n))) : FnOk P w K mg base (L2N.CX P w) (3 * n + 5) f fd ["text", "at", "depth"] (spRd cB n 12 (rJoin (rp n))) := by
  refine okR F sc_read_join (fun vs H Q E h => ?_) (fun cdv A outer s H vs Q E hr h => ?_)
  · obtain ⟨l, a, d, rfl, _⟩ := h
    rfl
  obtain ⟨l, a, d, rfl, hl, h0, ha, hd, q1, q0⟩ := h
  refine ⟨_, (pss_cons (ps_asg (pe_calX C_read_plan (hr.mono (by omega)) rfl (L2N.takes_of rfl rfl rfl rfl) (pa_cons (pv 0) (pa_cons (pe_calX C_behind (hr.mono (by omega)) rfl (L2N.takes_of rfl rfl rfl rfl) (pa_cons (pv 0) (pa_cons (pv 1) (pa_cons pe_str pa_nil)))) (pa_cons (pe_op op_add (pv 2) pe_int) pa_nil)))) (pg_tup rfl (pgs_cons (pg_name (i := 3) sc_read_join.nd rfl (Or.inl rfl)) (pgs_cons (pg_name (i := 4) sc_read_join.nd rfl (Or.inl rfl)) pgs_nil))))
  (pss_cons (ps_asg (pe_calX C_read_plan (hr.mono (by omega)) rfl (L2N.takes_of rfl rfl rfl rfl) (pa_cons (pv 0) (pa_cons (pe_calX C_behind (hr.mono (by omega)) rfl (L2N.takes_of rfl rfl rfl rfl) (pa_cons (pv 0) (pa_cons (pv 4) (pa_cons pe_str pa_nil)))) (pa_cons (pe_op op_add (pv 2) pe_int) pa_nil)))) (pg_tup rfl (pgs_cons (pg_name (i := 5) sc_read_join.nd rfl (Or.inl rfl)) (pgs_cons (pg_name (i := 6) sc_read_join.nd rfl (Or.inl rfl)) pgs_nil))))
  (pss_one (ps_ret (pe_tup (pa_cons (pe_tup (pa_cons pe_str (pa_cons (pv 3) (pa_cons (pv 5) pa_nil)))) (pa_cons (pe_calX C_behind (hr.mono (by omega)) rfl (L2N.takes_of rfl rfl rfl rfl) (pa_cons (pv 0) (pa_cons (pv 6) (pa_cons pe_str pa_nil)))) pa_nil))))))), ?_⟩
  refine ⟨_, rfl, _, rfl, _, rfl, l, [40], a, by rw [lit_lp] <;> rfl, by omega, by decide, h0, fun l1 b1 => ?_, fun b1 => q0 (by unfold rJoin; rw [b1]; rfl)⟩
  have e1 := bh_some b1
  have k1 := at_le h0 ha e1
  have d1 := drop_more h0 e1
  refine ⟨_, rfl, _, _, rfl, rfl, l, _, d + 1, rfl, hl, by omega, by show a + (([40] : List Nat).length : Int) ≤ _; omega, by omega, fun x r1 hx p1 t1 H1 g1 hp1 ht1 => ?_, fun hx => q0 (by unfold rJoin; rw [bd b1, ← d1, hx]; rfl)⟩
  rw [d1] at hx
  obtain ⟨e2, _, _⟩ := rp_snd n _ _ _ hx
  rw [e2] at d1 k1
  simp only [List.length_append] at k1
  have h1 : 0 ≤ a + (([40] : List Nat).length : Int) := by omega
  have d2 := drop_more h1 d1
  refine ⟨t1, _, rfl, SqT.of ht1, rfl, _, _, rfl, _, _, rfl, rfl, ?_⟩
  refine ⟨_, rfl, _, rfl, _, rfl, l, [32, 43, 32], _, by rw [lit_plus] <;> rfl, by omega, by decide, by omega, fun l2 b2 => ?_, fun b2 => (q0 (by unfold rJoin; rw [bd b1, bd hx, ← d2, b2]; rfl)).same g1⟩
  rw [d2] at b2
  have e3 := bh_some b2
  rw [e3] at d2 k1
  simp only [List.length_append] at k1
  have h2 : 0 ≤ a + (([40] : List Nat).length : Int) + ((fmt x).length : Int) := by omega
  have d3 := drop_more h2 d2
  refine ⟨_, rfl, _, _, rfl, rfl, l, _, d + 1, rfl, hl, by omega, by omega, by omega, fun y r2 hy p2 t2 H2 g2 hp2 ht2 => ?_, fun hy => (q0 (by unfold rJoin; rw [bd b1, bd hx, bd b2, ← d3, hy]; rfl)).same g1⟩
  rw [d3] at hy
  obtain ⟨e4, _, _⟩ := rp_snd n _ _ _ hy
  rw [e4] at d3 k1
  simp only [List.length_append] at k1
  have h3 : 0 ≤ a + (([40] : List Nat).length : Int) + ((fmt x).length : Int) + (([32, 43, 32] : List Nat).length : Int) := by omega
  have d4 := drop_more h3 d3
  refine ⟨t2, _, rfl, SqT.of ht2, rfl, _, _, rfl, _, _, rfl, rfl, ?_⟩
  refine ⟨_, rfl, _, rfl, three_line, fun u hu => ?_⟩
  have gu := same_new hu (.tup [V.str "join", V.ref p1, V.ref p2])
  refine ⟨_, rfl, _, rfl, l, [41], _, by rw [lit_rp] <;> rfl, by omega, by decide, by omega, fun l5 b5 => ?_, fun b5 => (q0 (by unfold rJoin; rw [bd b1, bd hx, bd b2, bd hy, ← d4, b5]; rfl)).same (g1.trans (g2.trans gu))⟩
  rw [d4] at b5
  refine ⟨two_line, fun v hv => ?_⟩
  refine q1 (.join x y) l5 (by unfold rJoin; rw [bd b1, bd hx, bd b2, bd hy, bd b5]) u v _ (g1.trans (g2.trans (gu.trans (same_new hv _)))) ⟨p1, p2, same_new hv _ _ _ upd_same, hp1.same (g2.trans (gu.trans (same_new hv _))), hp2.same (gu.trans (same_new hv _))⟩ ?_
  rw [upd_same]
  refine congrArg (fun z => some (HO.tup [V.ref u, V.int z])) ?_
  simp only [fmt, List.length_append, List.length_cons, List.length_nil]
  omega
abbrev s_read_scale : Stmt := top 45
abbrev N_read_scale : List Str := ["text", "at", "depth", "top", "end", "bottom", "last", "inner", "rest"]
theorem sc_read_scale : FnScope N_read_scale ["text", "at", "depth"] (defScope s_read_scale) := ⟨rfl, rfl, rfl, by decide +kernel, rfl, by decide +kernel, by decide +kernel⟩
theorem ok_read_scale {n : Nat} (F : Fun K "read_scale" "read_scale" s_read_scale f fd) (T : Txt mg) (C_behind : CalX P w K mg base 1 "behind" ["text", "at", "part"] (spBehind cB)) (C_read_number : CalX P w K mg base 3 "read_number" ["text", "at", "least", "most"] (spRead_number cB))
    (C_read_plan : CalX P w K mg base (3 * n + 4) "read_plan" ["text", "at", "depth"] (spRd cB n 13 (rp n))) : FnOk P w K mg base (L2N.CX P w) (3 * n + 5) f fd ["text", "at", "depth"] (spRd cB n 12 (rScale (rp n))) := by
  refine okR F sc_read_scale (fun vs H Q E h => ?_) (fun cdv A outer s H vs Q E hr h => ?_)
  · obtain ⟨l, a, d, rfl, _⟩ := h
    rfl
  obtain ⟨l, a, d, rfl, hl, h0, ha, hd, q1, q0⟩ := h
  refine ⟨_, (pss_cons (ps_asg (pe_calX C_read_number (hr.mono (by omega)) rfl (L2N.takes_of rfl rfl rfl rfl) (pa_cons (pv 0) (pa_cons (pv 1) (pa_cons pe_int (pa_cons pe_int pa_nil))))) (pg_tup rfl (pgs_cons (pg_name (i := 3) sc_read_scale.nd rfl (Or.inl rfl)) (pgs_cons (pg_name (i := 4) sc_read_scale.nd rfl (Or.inl rfl)) pgs_nil))))
  (pss_cons (ps_asg (pe_calX C_read_number (hr.mono (by omega)) rfl (L2N.takes_of rfl rfl rfl rfl) (pa_cons (pv 0) (pa_cons (pe_calX C_behind (hr.mono (by omega)) rfl (L2N.takes_of rfl rfl rfl rfl) (pa_cons (pv 0) (pa_cons (pv 4) (pa_cons pe_str pa_nil)))) (pa_cons pe_int (pa_cons pe_int pa_nil))))) (pg_tup rfl (pgs_cons (pg_name (i := 5) sc_read_scale.nd rfl (Or.inl rfl)) (pgs_cons (pg_name (i := 6) sc_read_scale.nd rfl (Or.inl rfl)) pgs_nil))))
  (pss_cons (ps_asg (pe_calX C_read_plan (hr.mono (by omega)) rfl (L2N.takes_of rfl rfl rfl rfl) (pa_cons (pv 0) (pa_cons (pe_calX C_behind (hr.mono (by omega)) rfl (L2N.takes_of rfl rfl rfl rfl) (pa_cons (pv 0) (pa_cons (pv 6) (pa_cons pe_str pa_nil)))) (pa_cons (pe_op op_add (pv 2) pe_int) pa_nil)))) (pg_tup rfl (pgs_cons (pg_name (i := 7) sc_read_scale.nd rfl (Or.inl rfl)) (pgs_cons (pg_name (i := 8) sc_read_scale.nd rfl (Or.inl rfl)) pgs_nil))))
  (pss_one (ps_ret (pe_tup (pa_cons (pe_tup (pa_cons pe_str (pa_cons (pv 3) (pa_cons (pv 5) (pa_cons (pv 7) pa_nil))))) (pa_cons (pv 8) pa_nil)))))))), ?_⟩
  refine ⟨_, rfl, _, rfl, l, a, 1, 999, rfl, hl, h0, ha, fun m r1 hm t1 H1 g1 ht1 => ?_, fun hm => q0 (by unfold rScale; rw [hm]; rfl)⟩
  refine ⟨t1, _, rfl, SqT.of ht1, rfl, _, _, rfl, _, _, rfl, rfl, ?_⟩
  obtain ⟨e1, m1, m9⟩ := rn_some hm
  have em : dg (l.drop a.toNat) = TL.numL m ∧ r1 = (l.drop a.toNat).drop (dg (l.drop a.toNat)).length := rn_parts hm
  have k1 := at_le h0 ha e1
  have d1 := drop_more h0 e1
  rw [em.1]
  refine ⟨_, rfl, _, rfl, _, rfl, l, [47], _, by rw [lit_slash] <;> rfl, by omega, by decide, by omega, fun l2 b2 => ?_, fun b2 => (q0 (by unfold rScale; rw [bd hm, ← d1, b2]; rfl)).same g1⟩
  rw [d1] at b2
  have e2 := bh_some b2
  rw [e2] at d1 k1
  simp only [List.length_append] at k1
  have d2 := drop_more (a := a + ((TL.numL m).length : Int)) (by omega) d1
  refine ⟨l, _, 1, 999, rfl, hl, by omega, by omega, fun k r3 hk t2 H2 g2 ht2 => ?_, fun hk => (q0 (by unfold rScale; rw [bd hm, bd b2, ← d2, hk]; rfl)).same g1⟩
  refine ⟨t2, _, rfl, SqT.of ht2, rfl, _, _, rfl, _, _, rfl, rfl, ?_⟩
  rw [d2] at hk
  obtain ⟨e3, k1', k9⟩ := rn_some hk
  have ek := (rn_parts hk).1
  rw [d2, ek]
  rw [e3] at d2 k1
  simp only [List.length_append] at k1
  have d3 := drop_more (by omega) d2
  refine ⟨_, rfl, _, rfl, _, rfl, l, [32, 42, 32], _, by rw [lit_star] <;> rfl, by omega, by decide, by omega, fun l4 b4 => ?_, fun b4 => (q0 (by unfold rScale; rw [bd hm, bd b2, bd hk, ← d3, b4]; rfl)).same (g1.trans g2)⟩
  rw [d3] at b4
  have e4 := bh_some b4
  rw [e4] at d3 k1
  simp only [List.length_append] at k1
  have d4 := drop_more (by omega) d3
  refine ⟨_, rfl, _, _, rfl, rfl, l, _, d + 1, rfl, hl, by omega, by omega, by omega, fun x r5 hx p3 t3 H3 g3 hp3 ht3 => ?_, fun hx => (q0 (by unfold rScale; rw [bd hm, bd b2, bd hk, bd b4, ← d4, hx]; rfl)).same (g1.trans g2)⟩
  rw [d4] at hx
  refine ⟨t3, _, rfl, SqT.of ht3, rfl, _, _, rfl, _, _, rfl, rfl, ?_⟩
  refine ⟨_, rfl, _, rfl, _, rfl, line_ge (by show 4 ≤ _; omega), fun u hu => ?_⟩
  have gu := same_new hu (.tup [V.str "scale", V.int (m : Nat), V.int (k : Nat), V.ref p3])
  refine ⟨_, rfl, two_line, fun v hv => ?_⟩
  refine q1 (.scale m k x) r5 (by unfold rScale; rw [bd hm, bd b2, bd hk, bd b4, bd hx]) u v _ (g1.trans (g2.trans (g3.trans (gu.trans (same_new hv _))))) ⟨p3, same_new hv _ _ _ upd_same, hp3.same (gu.trans (same_new hv _))⟩ ?_
  rw [upd_same]
  refine congrArg (fun z => some (HO.tup [V.ref u, V.int z])) ?_
  simp only [fmt, List.length_append, List.length_cons, List.length_nil]
  omega
abbrev s_read_thin : Stmt := top 46
abbrev N_read_thin : List Str := ["text", "at", "depth", "grade", "end", "inner", "last"]
theorem sc_read_thin : FnScope N_read_thin ["text", "at", "depth"] (defScope s_read_thin) := ⟨rfl, rfl, rfl, by decide +kernel, rfl, by decide +kernel, by decide +kernel⟩
theorem ok_read_thin {n : Nat} (F : Fun K "read_thin" "read_thin" s_read_thin f fd) (T : Txt mg) (C_behind : CalX P w K mg base 1 "behind" ["text", "at", "part"] (spBehind cB)) (C_read_number : CalX P w K mg base 3 "read_number" ["text", "at", "least", "most"] (spRead_number cB))
    (C_read_plan : CalX P w K mg base (3 * n + 4) "read_plan" ["text", "at", "depth"] (spRd cB n 13 (rp n))) : FnOk P w K mg base (L2N.CX P w) (3 * n + 5) f fd ["text", "at", "depth"] (spRd cB n 12 (rThin (rp n))) := by
  refine okR F sc_read_thin (fun vs H Q E h => ?_) (fun cdv A outer s H vs Q E hr h => ?_)
  · obtain ⟨l, a, d, rfl, _⟩ := h
    rfl
  obtain ⟨l, a, d, rfl, hl, h0, ha, hd, q1, q0⟩ := h
  refine ⟨_, (pss_cons (ps_asg (pe_calX C_read_number (hr.mono (by omega)) rfl (L2N.takes_of rfl rfl rfl rfl) (pa_cons (pv 0) (pa_cons (pe_calX C_behind (hr.mono (by omega)) rfl (L2N.takes_of rfl rfl rfl rfl) (pa_cons (pv 0) (pa_cons (pv 1) (pa_cons pe_str pa_nil)))) (pa_cons pe_int (pa_cons pe_int pa_nil))))) (pg_tup rfl (pgs_cons (pg_name (i := 3) sc_read_thin.nd rfl (Or.inl rfl)) (pgs_cons (pg_name (i := 4) sc_read_thin.nd rfl (Or.inl rfl)) pgs_nil))))
  (pss_cons (ps_asg (pe_calX C_read_plan (hr.mono (by omega)) rfl (L2N.takes_of rfl rfl rfl rfl) (pa_cons (pv 0) (pa_cons (pe_calX C_behind (hr.mono (by omega)) rfl (L2N.takes_of rfl rfl rfl rfl) (pa_cons (pv 0) (pa_cons (pv 4) (pa_cons pe_str pa_nil)))) (pa_cons (pe_op op_add (pv 2) pe_int) pa_nil)))) (pg_tup rfl (pgs_cons (pg_name (i := 5) sc_read_thin.nd rfl (Or.inl rfl)) (pgs_cons (pg_name (i := 6) sc_read_thin.nd rfl (Or.inl rfl)) pgs_nil))))
  (pss_one (ps_ret (pe_tup (pa_cons (pe_tup (pa_cons pe_str (pa_cons (pv 3) (pa_cons (pv 5) pa_nil)))) (pa_cons (pv 6) pa_nil))))))), ?_⟩
  refine ⟨_, rfl, _, rfl, _, rfl, l, tThin ++ [32], a, by rw [lit_thin_], by omega, by decide, h0, fun l1 b1 => ?_, fun b1 => q0 (by unfold rThin; rw [b1]; rfl)⟩
  have e1 := bh_some b1
  have hk5 : (tThin ++ [32]).length = tThin.length + ([32] : List Nat).length := List.length_append
  have k1 := at_le h0 ha e1
  have d1 := drop_more h0 e1
  refine ⟨l, _, 2, 10, rfl, hl, by omega, by omega, fun m r2 hm t1 H1 g1 ht1 => ?_, fun hm => q0 (by unfold rThin; rw [bd b1, ← d1, hm]; rfl)⟩
  refine ⟨t1, _, rfl, SqT.of ht1, rfl, _, _, rfl, _, _, rfl, rfl, ?_⟩
  rw [d1] at hm
  obtain ⟨e2, m1, m9⟩ := rn_some hm
  have em := (rn_parts hm).1
  rw [d1, em]
  rw [e2] at d1 k1
  simp only [List.length_append] at k1
  have d2 := drop_more (by omega) d1
  refine ⟨_, rfl, _, rfl, _, rfl, l, [32], _, by rw [lit_blank] <;> rfl, by omega, by decide, by omega, fun l3 b3 => ?_, fun b3 => (q0 (by unfold rThin; rw [bd b1, bd hm, ← d2, b3]; rfl)).same g1⟩
  rw [d2] at b3
  have e3 := bh_some b3
  rw [e3] at d2 k1
  simp only [List.length_append] at k1
  have d3 := drop_more (by omega) d2
  refine ⟨_, rfl, _, _, rfl, rfl, l, _, d + 1, rfl, hl, by omega, by omega, by omega, fun x r4 hx p3 t3 H3 g3 hp3 ht3 => ?_, fun hx => (q0 (by unfold rThin; rw [bd b1, bd hm, bd b3, ← d3, hx]; rfl)).same g1⟩
  rw [d3] at hx
  refine ⟨t3, _, rfl, SqT.of ht3, rfl, _, _, rfl, _, _, rfl, rfl, ?_⟩
  refine ⟨_, rfl, _, rfl, three_line, fun u hu => ?_⟩
  have gu := same_new hu (.tup [V.str "thin", V.int (m : Nat), V.ref p3])
  refine ⟨_, rfl, two_line, fun v hv => ?_⟩
  refine q1 (.thin m x) r4 (by unfold rThin; rw [bd b1, bd hm, bd b3, bd hx]) u v _ (g1.trans (g3.trans (gu.trans (same_new hv _)))) ⟨p3, same_new hv _ _ _ upd_same, hp3.same (gu.trans (same_new hv _))⟩ ?_
  rw [upd_same]
  refine congrArg (fun z => some (HO.tup [V.ref u, V.int z])) ?_
  simp only [fmt, tThin, List.length_append, List.length_cons, List.length_nil]
  omega
end
end P66
namespace P66
open PySem PySem.Spec PyProof.Rows L2 SX EX
theorem inV_strs (x : Str) (ys : List Str) : inV (.str x) (ys.map V.str) = ys.any (· == x) := by
  induction ys with
  | nil => rfl
  | cons y ys ih => exact congrArg (fun b => (y == x) || b) ih
theorem word_in (n : List Nat) : inV (.str (S n)) [.str "spare", .str "base"] = (decide (n = tSpare) || decide (n = tBase)) := by
  have e := inV_strs (S n) ["spare", "base"]
  refine e.trans ?_
  rw [lit_spare, lit_base, List.any_cons, List.any_cons, List.any_nil, S_beq_eq, S_beq_eq, Bool.or_false, decide_eq_decide.mpr (eq_comm (a := tSpare)), decide_eq_decide.mpr (eq_comm (a := tBase))]
abbrev s_read_word : Stmt := top 47
abbrev N_read_word : List Str := ["text", "at", "depth", "word", "end", "inner", "last"]
theorem sc_read_word : FnScope N_read_word ["text", "at", "depth"] (defScope s_read_word) := ⟨rfl, rfl, rfl, by decide +kernel, rfl, by decide +kernel, by decide +kernel⟩
section
variable {P : Program} {w : World} {K : PySem.W.Frag} {mg : Str → Option Value} {base : Heap} {f : Addr} {fd : FuncData} {cB cC : Addr}
theorem ok_read_word {n : Nat} (F : Fun K "read_word" "read_word" s_read_word f fd) (T : Txt mg) (U : Err K mg cB cC) (C_behind : CalX P w K mg base 1 "behind" ["text", "at", "part"] (spBehind cB)) (C_longest : Cal P w K mg base 1 "longest" ["text", "at", "signs"] spLongest)
    (C_read_thin : CalX P w K mg base (3 * n + 5) "read_thin" ["text", "at", "depth"] (spRd cB n 12 (rThin (rp n)))) (C_read_plan : CalX P w K mg base (3 * n + 4) "read_plan" ["text", "at", "depth"] (spRd cB n 13 (rp n))) :
    FnOk P w K mg base (L2N.CX P w) (3 * n + 6) f fd ["text", "at", "depth"] (spRd cB n 12 (rWord (rp n))) := by
  refine okR F sc_read_word (fun vs H Q E h => ?_) (fun cdv A outer s H vs Q E hr h => ?_)
  · obtain ⟨l, a, d, rfl, _⟩ := h
    rfl
  obtain ⟨l, a, d, rfl, hl, h0, ha, hd, q1, q0⟩ := h
  refine ⟨_, (pss_cons (ps_set (i := 3) sc_read_word.nd rfl (Or.inl rfl) (pe_cal C_longest (hr.mono (by omega)) rfl (pa_cons (pv 0) (pa_cons (pv 1) (pa_cons (pe_gstr rfl T.b_LETTERS) pa_nil)))))
  (pss_cons (ps_set (i := 4) sc_read_word.nd rfl (Or.inl rfl) (pe_op op_add (pv 1) (pe_callB call_len_str (by rfl) T.b_len PySem.boot_len (pa_cons (pv 3) pa_nil))))
  (pss_cons (ps_if (pt_cmpR op_eq (pv 3) pe_str (nomark _)) (pss_one (ps_ret (pe_calX C_read_thin (hr.mono (by omega)) rfl (L2N.takes_of rfl rfl rfl rfl) (pa_cons (pv 0) (pa_cons (pv 1) (pa_cons (pv 2) pa_nil)))))) pss_nil)
  (pss_cons (ps_if (pt_cmpR op_in_seq (pv 3) (pe_tup (pa_cons pe_str (pa_cons pe_str pa_nil))) (by rfl)) (pss_cons (ps_asg (pe_calX C_read_plan (hr.mono (by omega)) rfl (L2N.takes_of rfl rfl rfl rfl) (pa_cons (pv 0) (pa_cons (pe_calX C_behind (hr.mono (by omega)) rfl (L2N.takes_of rfl rfl rfl rfl) (pa_cons (pv 0) (pa_cons (pv 4) (pa_cons pe_str pa_nil)))) (pa_cons (pe_op op_add (pv 2) pe_int) pa_nil)))) (pg_tup rfl (pgs_cons (pg_name (i := 5) sc_read_word.nd rfl (Or.inl rfl)) (pgs_cons (pg_name (i := 6) sc_read_word.nd rfl (Or.inl rfl)) pgs_nil))))
  (pss_one (ps_ret (pe_tup (pa_cons (pe_tup (pa_cons (pv 3) (pa_cons (pv 5) pa_nil))) (pa_cons (pv 6) pa_nil)))))) pss_nil)
  (pss_cons (ps_if (PW.pt (pw_or (pt_cmpR op_eq (pv 3) pe_str (nomark _)) (pw_or1 (pt_cmpR op_gt (pe_callB call_len_str (by rfl) T.b_len PySem.boot_len (pa_cons (pv 3) pa_nil)) (pe_gint rfl T.b_MOST_LETTERS) (nomark _))))) (pss_one (L2N.ps_raise rfl (L2N.takes_of rfl rfl rfl rfl) (pmk0 PySem.F.excBase_ValueError U.q_BadPlan U.g_BadPlan U.k_BadPlan U.r_BadPlan rfl))) pss_nil)
  (pss_one (ps_ret (pe_tup (pa_cons (pe_tup (pa_cons pe_str (pa_cons (pv 3) pa_nil))) (pa_cons (pv 4) pa_nil)))))))))), ?_⟩
  refine ⟨_, rfl, _, rfl, l, letters, a, by rw [lit_letters] <;> rfl, by omega, h0, ha, ?_⟩
  rw [run_lw]
  have hlw := lw_len (l.drop a.toNat)
  rw [List.length_drop] at hlw
  have hcut := lw_cut (l.drop a.toNat)
  have k1 := at_le h0 ha hcut
  have d1 := drop_more h0 hcut
  have hw : (((S (lw (l.drop a.toNat))).length : Nat) : Int) = ((lw (l.drop a.toNat)).length : Int) := by rw [slen]
  refine ⟨_, rfl, _, rfl, _, rfl, sline (by omega), _, _, rfl, rfl, ?_⟩
  rw [hw]
  refine ⟨_, rfl, rfl, _, rfl, ?_⟩
  by_cases c1 : lw (l.drop a.toNat) = tThin
  · refine ifT (by rw [lit_thin, str_dec]; exact decide_eq_true c1) ?_
    refine ⟨_, rfl, _, rfl, _, rfl, l, a, d, rfl, hl, h0, ha, hd, fun pl r hx => q1 pl r ?_, fun hx => q0 ?_⟩
    · unfold rWord
      rw [if_pos c1]
      exact hx
    · unfold rWord
      rw [if_pos c1]
      exact hx
  refine ifF (by rw [lit_thin, str_dec]; exact decide_eq_false c1) ?_
  refine ⟨_, rfl, two_line, fun tp htp => ?_⟩
  have gt := same_new htp (.tup [V.str "spare", V.str "base"])
  refine ⟨tp, _, rfl, .inr (SqT.of upd_same), rfl, rfl, _, rfl, ?_⟩
  have ein : (if false = true then !inV (V.str (S (lw (l.drop a.toNat)))) [V.str "spare", V.str "base"] else inV (V.str (S (lw (l.drop a.toNat)))) [V.str "spare", V.str "base"]) = (decide (lw (l.drop a.toNat) = tSpare) || decide (lw (l.drop a.toNat) = tBase)) := by
    rw [if_neg Bool.false_ne_true]
    exact word_in _
  by_cases c2 : lw (l.drop a.toNat) = tSpare ∨ lw (l.drop a.toNat) = tBase
  · refine ifT (ein.trans (by rw [Bool.or_eq_true, decide_eq_true_eq, decide_eq_true_eq]; exact c2)) ?_
    have un : ∀ x, (bh [32] ((l.drop a.toNat).drop (lw (l.drop a.toNat)).length)).bind (fun l1 => (rp n l1).bind fun x => some (if lw (l.drop a.toNat) = tSpare then Plan.spare x.1 else .base x.1, x.2)) = x → rWord (rp n) (l.drop a.toNat) = x := fun x e => by
      unfold rWord
      rw [if_neg c1, if_pos c2]
      exact e
    refine ⟨_, rfl, _, rfl, _, rfl, l, [32], _, by rw [lit_blank] <;> rfl, by omega, by decide, by omega, fun l1 b1 => ?_, fun b1 => (q0 (un _ (by rw [← d1, b1]; rfl))).same gt⟩
    rw [d1] at b1
    have e1 := bh_some b1
    rw [e1] at d1 k1
    simp only [List.length_append] at k1
    have d2 := drop_more (by omega) d1
    refine ⟨_, rfl, _, _, rfl, rfl, l, _, d + 1, rfl, hl, by omega, by omega, by omega, fun x r hx p1 t1 H1 g1 hp1 ht1 => ?_, fun hx => (q0 (un _ (by rw [bd b1, ← d2, hx]; rfl))).same gt⟩
    rw [d2] at hx
    refine ⟨t1, _, rfl, SqT.of ht1, rfl, _, _, rfl, _, _, rfl, rfl, ?_⟩
    refine ⟨_, rfl, _, rfl, two_line, fun u hu => ?_⟩
    have gu := same_new hu (.tup [V.str (S (lw (l.drop a.toNat))), V.ref p1])
    refine ⟨_, rfl, two_line, fun v hv => ?_⟩
    have hat : upd (upd H1 u (.tup [V.str (S (lw (l.drop a.toNat))), V.ref p1])) v (.tup [V.ref u, V.int (a + ((lw (l.drop a.toNat)).length : Int) + (([32] : List Nat).length : Int) + ((fmt x).length : Int))]) u = some (.tup [V.str (S (lw (l.drop a.toNat))), V.ref p1]) := same_new hv _ _ _ upd_same
    by_cases c3 : lw (l.drop a.toNat) = tSpare
    · refine q1 (.spare x) r (un _ (by rw [bd b1, bd hx, if_pos c3])) u v _ (gt.trans (g1.trans (gu.trans (same_new hv _)))) ⟨p1, ?_, hp1.same (gu.trans (same_new hv _))⟩ ?_
      · rw [hat, c3, ← lit_spare]
      · rw [upd_same, c3]
        refine congrArg (fun z => some (HO.tup [V.ref u, V.int z])) ?_
        simp only [fmt, List.length_append, List.length_cons, List.length_nil]
        omega
    · have c4 : lw (l.drop a.toNat) = tBase := c2.resolve_left c3
      refine q1 (.base x) r (un _ (by rw [bd b1, bd hx, if_neg c3])) u v _ (gt.trans (g1.trans (gu.trans (same_new hv _)))) ⟨p1, ?_, hp1.same (gu.trans (same_new hv _))⟩ ?_
      · rw [hat, c4, ← lit_base]
      · rw [upd_same, c4]
        refine congrArg (fun z => some (HO.tup [V.ref u, V.int z])) ?_
        simp only [fmt, List.length_append, List.length_cons, List.length_nil]
        omega
  refine ifF (ein.trans (by rw [Bool.or_eq_false_iff, decide_eq_false_iff_not, decide_eq_false_iff_not]; exact ⟨fun z => c2 (.inl z), fun z => c2 (.inr z)⟩)) ?_
  refine ⟨_, rfl, rfl, _, rfl, ?_⟩
  by_cases c3 : lw (l.drop a.toNat) = []
  · refine ifT (by rw [lit_empty, str_dec]; exact decide_eq_true c3) ?_
    refine iteT (q0 ?_ _ gt)
    unfold rWord
    rw [if_neg c1, if_neg c2, if_pos (.inl c3)]
  refine ifF (by rw [lit_empty, str_dec]; exact decide_eq_false c3) ?_
  refine ⟨_, rfl, _, rfl, sline (by omega), _, _, rfl, rfl, _, rfl, ?_⟩
  rw [hw]
  refine ite2 (fun c => ?_) (fun c => ?_)
  · have c4 := dec_lt c
    refine q0 ?_ _ gt
    unfold rWord
    rw [if_neg c1, if_neg c2, if_pos (.inr (by omega))]
  · have c4 := not_lt c
    refine ⟨_, rfl, two_line, fun u hu => ?_⟩
    refine ⟨_, rfl, two_line, fun v hv => ?_⟩
    refine q1 (.take (lw (l.drop a.toNat))) _ (by unfold rWord; rw [if_neg c1, if_neg c2, if_neg (fun z => z.elim c3 (fun y => by omega))]) u v _ (gt.trans ((same_new hu _).trans (same_new hv _))) (same_new hv _ _ _ upd_same) upd_same
abbrev s_read_plan : Stmt := top 48
abbrev N_read_plan : List Str := ["text", "at", "depth"]
theorem sc_read_plan : FnScope N_read_plan ["text", "at", "depth"] (defScope s_read_plan) := ⟨rfl, rfl, rfl, by decide +kernel, rfl, by decide +kernel, by decide +kernel⟩
theorem ok_read_plan_0 (F : Fun K "read_plan" "read_plan" s_read_plan f fd) (T : Txt mg) (U : Err K mg cB cC) : FnOk P w K mg base (L2N.CX P w) 4 f fd ["text", "at", "depth"] (spRd cB 0 13 (rp 0)) := by
  refine okR F sc_read_plan (fun vs H Q E h => ?_) (fun cdv A outer s H vs Q E hr h => ?_)
  · obtain ⟨l, a, d, rfl, _⟩ := h
    rfl
  obtain ⟨l, a, d, rfl, hl, h0, ha, hd, q1, q0⟩ := h
  refine ⟨_, (pss_cons (ps_if (pt_cmpR op_gt (pv 2) (pe_gint rfl T.b_MOST_DEPTH) (nomark _)) (pss_one (L2N.ps_raise rfl (L2N.takes_of rfl rfl rfl rfl) (pmk0 PySem.F.excBase_ValueError U.q_BadPlan U.g_BadPlan U.k_BadPlan U.r_BadPlan rfl))) pss_nil) pss_never), ?_⟩
  exact ⟨_, rfl, _, _, rfl, rfl, _, rfl, ifT (decide_eq_true (by omega)) (q0 rfl H (Same.refl H))⟩
theorem ok_read_plan {n : Nat} (F : Fun K "read_plan" "read_plan" s_read_plan f fd) (T : Txt mg) (U : Err K mg cB cC) (C_longest : Cal P w K mg base 1 "longest" ["text", "at", "signs"] spLongest)
    (C_read_join : CalX P w K mg base (3 * n + 5) "read_join" ["text", "at", "depth"] (spRd cB n 12 (rJoin (rp n)))) (C_read_scale : CalX P w K mg base (3 * n + 5) "read_scale" ["text", "at", "depth"] (spRd cB n 12 (rScale (rp n))))
    (C_read_word : CalX P w K mg base (3 * n + 6) "read_word" ["text", "at", "depth"] (spRd cB n 12 (rWord (rp n)))) : FnOk P w K mg base (L2N.CX P w) (3 * n + 7) f fd ["text", "at", "depth"] (spRd cB (n + 1) 13 (rp (n + 1))) := by
  refine okR F sc_read_plan (fun vs H Q E h => ?_) (fun cdv A outer s H vs Q E hr h => ?_)
  · obtain ⟨l, a, d, rfl, _⟩ := h
    rfl
  obtain ⟨l, a, d, rfl, hl, h0, ha, hd, q1, q0⟩ := h
  refine ⟨_, (pss_cons (ps_if (pt_cmpR op_gt (pv 2) (pe_gint rfl T.b_MOST_DEPTH) (nomark _)) (pss_one (L2N.ps_raise rfl (L2N.takes_of rfl rfl rfl rfl) (pmk0 PySem.F.excBase_ValueError U.q_BadPlan U.g_BadPlan U.k_BadPlan U.r_BadPlan rfl))) pss_nil)
  (pss_cons (ps_if (pt_cmpR op_eq (pe_slice sl_str (pv 0) (po_some (pv 1)) (po_some (pe_op op_add (pv 1) pe_int))) pe_str (nomark _)) (pss_one (ps_ret (pe_calX C_read_join (hr.mono (by omega)) rfl (L2N.takes_of rfl rfl rfl rfl) (pa_cons (pv 0) (pa_cons (pv 1) (pa_cons (pv 2) pa_nil)))))) pss_nil)
  (pss_cons (ps_if (pt_cmpR op_ne (pe_cal C_longest (hr.mono (by omega)) rfl (pa_cons (pv 0) (pa_cons (pv 1) (pa_cons (pe_gstr rfl T.b_DIGITS_plannotes) pa_nil)))) pe_str (nomark _)) (pss_one (ps_ret (pe_calX C_read_scale (hr.mono (by omega)) rfl (L2N.takes_of rfl rfl rfl rfl) (pa_cons (pv 0) (pa_cons (pv 1) (pa_cons (pv 2) pa_nil)))))) pss_nil)
  (pss_one (ps_ret (pe_calX C_read_word (hr.mono (by omega)) rfl (L2N.takes_of rfl rfl rfl rfl) (pa_cons (pv 0) (pa_cons (pv 1) (pa_cons (pv 2) pa_nil))))))))), ?_⟩
  refine ⟨_, rfl, _, _, rfl, rfl, _, rfl, ifF (decide_eq_false (by omega)) ?_⟩
  have one : cutS (S l) (some a) (some (a + 1)) = S ((l.drop a.toNat).take 1) := by
    rw [cut_mid l h0 (by omega), show (a + 1 - a).toNat = 1 by omega]
  refine ⟨_, rfl, _, rfl, _, rfl, _, rfl, _, _, rfl, rfl, _, rfl, S l, rfl, sline (by omega), rfl, _, rfl, ?_⟩
  by_cases c1 : (l.drop a.toNat).take 1 = [40]
  · refine ifT (by rw [one, lit_lp, str_dec]; exact decide_eq_true c1) ?_
    exact ⟨_, rfl, _, rfl, _, rfl, l, a, d, rfl, hl, h0, ha, by omega, fun pl r hx => q1 pl r (by rw [rp_join c1]; exact hx), fun hx => q0 (by rw [rp_join c1]; exact hx)⟩
  refine ifF (by rw [one, lit_lp, str_dec]; exact decide_eq_false c1) ?_
  refine ⟨_, rfl, _, rfl, l, digits, a, by rw [lit_digits]; rfl, by omega, h0, ha, ?_⟩
  rw [run_dg]
  refine ⟨rfl, _, rfl, ?_⟩
  by_cases c2 : dg (l.drop a.toNat) = []
  · refine ifF (by rw [lit_empty, str_dec, decide_eq_true c2]; rfl) ?_
    exact ⟨_, rfl, _, rfl, _, rfl, l, a, d, rfl, hl, h0, ha, by omega, fun pl r hx => q1 pl r (by rw [rp_word c1 c2]; exact hx), fun hx => q0 (by rw [rp_word c1 c2]; exact hx)⟩
  · refine ifT (by rw [lit_empty, str_dec, decide_eq_false c2]; rfl) ?_
    exact ⟨_, rfl, _, rfl, _, rfl, l, a, d, rfl, hl, h0, ha, by omega, fun pl r hx => q1 pl r (by rw [rp_scale c1 c2]; exact hx), fun hx => q0 (by rw [rp_scale c1 c2]; exact hx)⟩
/-! ### the ring of the readers -/
theorem ring {f1 f2 f3 f4 f5 : Addr} {d1 d2 d3 d4 d5 : FuncData} (T : Txt mg) (U : Err K mg cB cC)
    (F1 : Fun K "read_join" "read_join" s_read_join f1 d1) (F2 : Fun K "read_scale" "read_scale" s_read_scale f2 d2) (F3 : Fun K "read_thin" "read_thin" s_read_thin f3 d3) (F4 : Fun K "read_word" "read_word" s_read_word f4 d4) (F5 : Fun K "read_plan" "read_plan" s_read_plan f5 d5)
    (m1 : mg "read_join" = some (.ref f1)) (m2 : mg "read_scale" = some (.ref f2)) (m3 : mg "read_thin" = some (.ref f3)) (m4 : mg "read_word" = some (.ref f4)) (m5 : mg "read_plan" = some (.ref f5))
    (b1 : Binds K d1 ["text", "at", "depth"] []) (b2 : Binds K d2 ["text", "at", "depth"] []) (b3 : Binds K d3 ["text", "at", "depth"] []) (b4 : Binds K d4 ["text", "at", "depth"] []) (b5 : Binds K d5 ["text", "at", "depth"] [])
    (C_behind : CalX P w K mg base 1 "behind" ["text", "at", "part"] (spBehind cB)) (C_longest : Cal P w K mg base 1 "longest" ["text", "at", "signs"] spLongest) (C_read_number : CalX P w K mg base 3 "read_number" ["text", "at", "least", "most"] (spRead_number cB)) :
    ∀ n : Nat, CalX P w K mg base (3 * n + 4) "read_plan" ["text", "at", "depth"] (spRd cB n 13 (rp n))
  | 0 => ⟨f5, d5, ok_read_plan_0 F5 T U, m5, F5.kp, b5⟩
  | n + 1 => by
    have C := ring T U F1 F2 F3 F4 F5 m1 m2 m3 m4 m5 b1 b2 b3 b4 b5 C_behind C_longest C_read_number n
    have C3 : CalX P w K mg base (3 * n + 5) "read_thin" ["text", "at", "depth"] (spRd cB n 12 (rThin (rp n))) := ⟨f3, d3, ok_read_thin F3 T C_behind C_read_number C, m3, F3.kp, b3⟩
    exact ⟨f5, d5, ok_read_plan F5 T U C_longest ⟨f1, d1, ok_read_join F1 T C_behind C, m1, F1.kp, b1⟩ ⟨f2, d2, ok_read_scale F2 T C_behind C_read_number C, m2, F2.kp, b2⟩ ⟨f4, d4, ok_read_word F4 T U C_behind C_longest C3 C, m4, F4.kp, b4⟩, m5, F5.kp, b5⟩
end
end P66
namespace P66
open PySem PySem.Spec PyProof.Rows L2 SX EX
section
variable {P : Program} {w : World} {K : PySem.W.Frag} {mg : Str → Option Value} {base : Heap} {f : Addr} {fd : FuncData} {cB cC : Addr}
/-! ### tuples_in -/
def spTuples (h : Nat) : Sp := fun vs H Q _ => ∃ (pl : Plan) (p : Addr), vs = [.ref p] ∧ PlanAt H pl p ∧ pl.height ≤ h ∧ Q (.int (pl.count : Nat)) H
abbrev s_tuples_in : Stmt := top 40
abbrev N_tuples_in : List Str := ["plan"]
theorem sc_tuples_in : FnScope N_tuples_in ["plan"] (defScope s_tuples_in) := ⟨rfl, rfl, rfl, by decide +kernel, rfl, by decide +kernel, by decide +kernel⟩
theorem ok_tuples_in {h : Nat} (F : Fun K "tuples_in" "tuples_in" s_tuples_in f fd) (T : Txt mg) (C_tuples_in : Cal P w K mg base h "tuples_in" ["plan"] (spTuples h)) : FnOk P w K mg base CX0 (h + 1) f fd ["plan"] (spTuples (h + 1)) := by
  refine F.ok sc_tuples_in (fun vs H Q E h => ?_) (fun cdv A outer s H vs Q E hr h => ?_)
  · obtain ⟨pl, p, rfl, _⟩ := h
    rfl
  obtain ⟨pl, p, rfl, hp, hh, q⟩ := h
  refine ⟨_, (pss_one (ps_match (pe_ix ix_tup (pv 0) pe_int (fun _ _ => rfl)) (pm_str (pss_one (ps_ret pe_int))
    (pm_str (pss_one (ps_ret (pe_op op_add (pe_op op_add pe_int (pe_cal C_tuples_in (hr.mono (by omega)) rfl (pa_cons (pe_ix ix_tup (pv 0) pe_int (fun _ _ => rfl)) pa_nil))) (pe_cal C_tuples_in (hr.mono (by omega)) rfl (pa_cons (pe_ix ix_tup (pv 0) pe_int (fun _ _ => rfl)) pa_nil)))))
    (pm_any (pss_one (ps_ret (pe_op op_add pe_int (pe_cal C_tuples_in (hr.mono (by omega)) rfl (pa_cons (pe_ix ix_tup (pv 0) (pe_un un_neg pe_int) (fun _ _ => rfl)) pa_nil)))))))))), ?_⟩
  cases pl with
  | take n =>
    refine ⟨_, rfl, p, _, 0, _, rfl, rfl, SqT.of hp, at_pos (by decide) rfl, _, rfl, ifT (by decide +kernel) ?_⟩
    exact q
  | join x y =>
    obtain ⟨pa, pb, ho, ha, hb⟩ := hp
    simp only [Plan.height] at hh
    refine ⟨_, rfl, p, _, 0, _, rfl, rfl, SqT.of ho, at_pos (by decide) rfl, _, rfl, ifF (by decide +kernel) ⟨_, rfl, ifT (by decide +kernel) ?_⟩⟩
    refine ⟨_, rfl, p, _, 1, _, rfl, rfl, SqT.of ho, at_pos (by decide) rfl, x, pa, rfl, ha, by omega, ?_⟩
    refine ⟨_, _, rfl, rfl, _, rfl, p, _, 2, _, rfl, rfl, SqT.of ho, at_pos (by decide) rfl, y, pb, rfl, hb, by omega, _, _, rfl, rfl, ?_⟩
    show Q (.int (1 + (x.count : Int) + (y.count : Int))) H
    rw [show (1 + (x.count : Int) + (y.count : Int)) = ((Plan.join x y).count : Nat) by simp only [Plan.count]; omega]
    exact q
  | scale m n x =>
    obtain ⟨pa, ho, ha⟩ := hp
    simp only [Plan.height] at hh
    refine ⟨_, rfl, p, _, 0, _, rfl, rfl, SqT.of ho, at_pos (by decide) rfl, _, rfl, ifF (by decide +kernel) ⟨_, rfl, ifF (by decide +kernel) ?_⟩⟩
    refine ⟨_, rfl, _, rfl, p, _, -1, _, rfl, rfl, SqT.of ho, atI_last [_, _, _] _, x, pa, rfl, ha, by omega, _, _, rfl, rfl, ?_⟩
    show Q (.int (1 + (x.count : Int))) H
    rw [show (1 + (x.count : Int)) = ((Plan.scale m n x).count : Nat) by simp only [Plan.count]; omega]
    exact q
  | spare x =>
    obtain ⟨pa, ho, ha⟩ := hp
    simp only [Plan.height] at hh
    refine ⟨_, rfl, p, _, 0, _, rfl, rfl, SqT.of ho, at_pos (by decide) rfl, _, rfl, ifF (by decide +kernel) ⟨_, rfl, ifF (by decide +kernel) ?_⟩⟩
    refine ⟨_, rfl, _, rfl, p, _, -1, _, rfl, rfl, SqT.of ho, atI_last [_] _, x, pa, rfl, ha, by omega, _, _, rfl, rfl, ?_⟩
    show Q (.int (1 + (x.count : Int))) H
    rw [show (1 + (x.count : Int)) = ((Plan.spare x).count : Nat) by simp only [Plan.count]; omega]
    exact q
  | base x =>
    obtain ⟨pa, ho, ha⟩ := hp
    simp only [Plan.height] at hh
    refine ⟨_, rfl, p, _, 0, _, rfl, rfl, SqT.of ho, at_pos (by decide) rfl, _, rfl, ifF (by decide +kernel) ⟨_, rfl, ifF (by decide +kernel) ?_⟩⟩
    refine ⟨_, rfl, _, rfl, p, _, -1, _, rfl, rfl, SqT.of ho, atI_last [_] _, x, pa, rfl, ha, by omega, _, _, rfl, rfl, ?_⟩
    show Q (.int (1 + (x.count : Int))) H
    rw [show (1 + (x.count : Int)) = ((Plan.base x).count : Nat) by simp only [Plan.count]; omega]
    exact q
  | thin k x =>
    obtain ⟨pa, ho, ha⟩ := hp
    simp only [Plan.height] at hh
    refine ⟨_, rfl, p, _, 0, _, rfl, rfl, SqT.of ho, at_pos (by decide) rfl, _, rfl, ifF (by decide +kernel) ⟨_, rfl, ifF (by decide +kernel) ?_⟩⟩
    refine ⟨_, rfl, _, rfl, p, _, -1, _, rfl, rfl, SqT.of ho, atI_last [_, _] _, x, pa, rfl, ha, by omega, _, _, rfl, rfl, ?_⟩
    show Q (.int (1 + (x.count : Int))) H
    rw [show (1 + (x.count : Int)) = ((Plan.thin k x).count : Nat) by simp only [Plan.count]; omega]
    exact q
theorem none_tuples {k : Nat} : FnOk P w K mg base CX0 k f fd ["plan"] (spTuples 0) := by
  have no : ∀ vs H Q E, ¬ spTuples 0 vs H Q E := fun vs H Q E h => by
    obtain ⟨pl, p, _, _, hh, _⟩ := h
    have := height_pos pl
    omega
  exact ⟨fun vs H Q E h => absurd h (no vs H Q E), fun A outer s H args us vs Q E _ _ _ _ h => absurd h (no vs H Q E)⟩
theorem all_tuples (T : Txt mg) (F : Fun K "tuples_in" "tuples_in" s_tuples_in f fd) (m : mg "tuples_in" = some (.ref f)) (b : Binds K fd ["plan"] []) : ∀ h : Nat, Cal P w K mg base h "tuples_in" ["plan"] (spTuples h)
  | 0 => ⟨f, fd, none_tuples, m, F.kp, b⟩
  | h + 1 => ⟨f, fd, ok_tuples_in F T (all_tuples T F m b h), m, F.kp, b⟩

def spParse (cB : Addr) : Sp := fun vs H Q E => ∃ l : List Nat, vs = [.str (S l)] ∧ l.length ≤ 600 ∧ (∀ pl, prog l = some pl → ∀ p H', Same H H' → PlanAt H' pl p → Q (.ref p) H') ∧ (prog l = none → Bad cB H E)
abbrev s_parse_plan : Stmt := top 49
abbrev N_parse_plan : List Str := ["text", "plan", "end"]
theorem sc_parse_plan : FnScope N_parse_plan ["text"] (defScope s_parse_plan) := ⟨rfl, rfl, rfl, by decide +kernel, rfl, by decide +kernel, by decide +kernel⟩
theorem ok_parse_plan (F : Fun K "parse_plan" "parse_plan" s_parse_plan f fd) (T : Txt mg) (U : Err K mg cB cC) (C_read_plan : CalX P w K mg base 40 "read_plan" ["text", "at", "depth"] (spRd cB 12 13 (rp 12))) (C_tuples_in : Cal P w K mg base 12 "tuples_in" ["plan"] (spTuples 12)) :
    FnOk P w K mg base (L2N.CX P w) 41 f fd ["text"] (spParse cB) := by
  refine okR F sc_parse_plan (fun vs H Q E h => ?_) (fun cdv A outer s H vs Q E hr h => ?_)
  · obtain ⟨l, rfl, _⟩ := h
    rfl
  obtain ⟨l, rfl, hl, q1, q0⟩ := h
  refine ⟨_, (pss_cons (ps_asg (pe_calX C_read_plan (hr.mono (by omega)) rfl (L2N.takes_of rfl rfl rfl rfl) (pa_cons (pv 0) (pa_cons pe_int (pa_cons pe_int pa_nil)))) (pg_tup rfl (pgs_cons (pg_name (i := 1) sc_parse_plan.nd rfl (Or.inl rfl)) (pgs_cons (pg_name (i := 2) sc_parse_plan.nd rfl (Or.inl rfl)) pgs_nil))))
  (pss_cons (ps_if (PW.pt (pw_or (pt_cmpR op_ne (pv 2) (pe_callB call_len_str (by rfl) T.b_len PySem.boot_len (pa_cons (pv 0) pa_nil)) (nomark _)) (pw_or1 (pt_cmpR op_gt (pe_cal C_tuples_in (hr.mono (by omega)) rfl (pa_cons (pv 1) pa_nil)) (pe_gint rfl T.b_MOST_TUPLES) (nomark _))))) (pss_one (L2N.ps_raise rfl (L2N.takes_of rfl rfl rfl rfl) (pmk0 PySem.F.excBase_ValueError U.q_BadPlan U.g_BadPlan U.k_BadPlan U.r_BadPlan rfl))) pss_nil)
  (pss_one (ps_ret (pv 1))))), ?_⟩
  have unf : ∀ x, rp 12 l = some x → prog l = if x.2 ≠ [] ∨ x.1.count > 40 then none else some x.1 := fun x e => by
    unfold prog
    rw [bd e]
  refine ⟨_, rfl, l, 0, 1, rfl, hl, by decide, by omega, by decide, fun pl r hx p t H1 g1 hp ht => ?_, fun hx => q0 (by unfold prog; rw [show rp 12 l = none from hx]; rfl)⟩
  have hx : rp 12 l = some (pl, r) := hx
  obtain ⟨e, g, hh⟩ := rp_snd 12 _ _ _ hx
  have el := congrArg List.length e
  rw [List.length_append] at el
  refine ⟨t, _, rfl, SqT.of ht, rfl, _, _, rfl, _, _, rfl, rfl, ?_⟩
  refine ⟨_, rfl, _, rfl, _, rfl, sline (by omega), rfl, _, rfl, ?_⟩
  by_cases hr0 : r = []
  · subst hr0
    have e0 : (0 : Int) + ((fmt pl).length : Int) = (((S l).length : Nat) : Int) := by
      rw [slen, el]
      simp
    refine ifF (by rw [e0, decide_eq_true rfl]; rfl) ?_
    refine ⟨_, rfl, pl, p, rfl, hp, hh, _, _, rfl, rfl, _, rfl, ?_⟩
    refine ite2 (fun c => ?_) (fun c => ?_)
    · have c1 := dec_lt c
      refine q0 ?_ H1 g1
      rw [unf _ hx, if_pos (.inr (by show pl.count > 40; omega))]
    · have c1 := not_lt c
      refine ⟨_, rfl, q1 pl ?_ p H1 g1 hp⟩
      rw [unf _ hx, if_neg (fun z => z.elim (fun y => y rfl) (fun y => by have y : pl.count > 40 := y; omega))]
  · have hr1 := List.length_pos_iff.mpr hr0
    refine ifT (by rw [dec_ne (fun z => by have := V.int.inj z; rw [slen, el] at this; omega)]; rfl) ?_
    refine iteT (q0 ?_ H1 g1)
    rw [unf _ hx, if_pos (.inl hr0)]
/-! ### _law_many, _law_run, _law_in_range -/
abbrev s__law_many : Stmt := top 58
abbrev N__law_many : List Str := ["plan"]
theorem sc__law_many : FnScope N__law_many ["plan"] (defScope s__law_many) := ⟨rfl, rfl, rfl, by decide +kernel, rfl, by decide +kernel, by decide +kernel⟩
/-- the last item of a plan that has one -/
structure Arm (H : Hp) (p : Addr) (tag : Str) (x : Plan) (pa : Addr) (ys : List V) : Prop where
  at_ : H p = some (.tup (V.str tag :: ys))
  last : atI (V.str tag :: ys) (((V.str tag :: ys).length : Nat) - 1) = some (.ref pa)
  sub : PlanAt H x pa
theorem plan_cases {H : Hp} {pl : Plan} {p : Addr} (hp : PlanAt H pl p) : (∃ n, pl = .take n) ∨ (∃ x y, pl = .join x y) ∨ ∃ (tag : Str) (x : Plan) (pa : Addr) (ys : List V), tag ≠ "take" ∧ tag ≠ "join" ∧ Arm H p tag x pa ys ∧ x.height + 1 = pl.height ∧ x.count + 1 = pl.count := by
  cases pl with
  | take n => exact .inl ⟨n, rfl⟩
  | join x y => exact .inr (.inl ⟨x, y, rfl⟩)
  | scale m n x =>
    obtain ⟨pa, ho, ha⟩ := hp
    exact .inr (.inr ⟨"scale", x, pa, _, by decide +kernel, by decide +kernel, ⟨ho, at_pos (by simp only [List.length_cons, List.length_nil]; omega) rfl, ha⟩, rfl, by simp only [Plan.count]; omega⟩)
  | spare x =>
    obtain ⟨pa, ho, ha⟩ := hp
    exact .inr (.inr ⟨"spare", x, pa, _, by decide +kernel, by decide +kernel, ⟨ho, at_pos (by simp only [List.length_cons, List.length_nil]; omega) rfl, ha⟩, rfl, by simp only [Plan.count]; omega⟩)
  | base x =>
    obtain ⟨pa, ho, ha⟩ := hp
    exact .inr (.inr ⟨"base", x, pa, _, by decide +kernel, by decide +kernel, ⟨ho, at_pos (by simp only [List.length_cons, List.length_nil]; omega) rfl, ha⟩, rfl, by simp only [Plan.count]; omega⟩)
  | thin k x =>
    obtain ⟨pa, ho, ha⟩ := hp
    exact .inr (.inr ⟨"thin", x, pa, _, by decide +kernel, by decide +kernel, ⟨ho, at_pos (by simp only [List.length_cons, List.length_nil]; omega) rfl, ha⟩, rfl, by simp only [Plan.count]; omega⟩)
theorem ok__law_many {h : Nat} (F : Fun K "_law_many" "_law_many" s__law_many f fd) (T : Txt mg) (C__law_many : Cal P w K mg base h "_law_many" ["plan"] (spTuples h)) : FnOk P w K mg base CX0 (h + 1) f fd ["plan"] (spTuples (h + 1)) := by
  refine F.ok sc__law_many (fun vs H Q E h => ?_) (fun cdv A outer s H vs Q E hr h => ?_)
  · obtain ⟨pl, p, rfl, _⟩ := h
    rfl
  obtain ⟨pl, p, rfl, hp, hh, q⟩ := h
  refine ⟨_, (pss_cons (ps_if (pt_cmpR op_eq (pe_ix ix_tup (pv 0) pe_int (fun _ _ => rfl)) pe_str (nomark _)) (pss_one (ps_ret pe_int)) pss_nil)
  (pss_cons (ps_if (pt_cmpR op_eq (pe_ix ix_tup (pv 0) pe_int (fun _ _ => rfl)) pe_str (nomark _)) (pss_one (ps_ret (pe_op op_add (pe_op op_add pe_int (pe_cal C__law_many (hr.mono (by omega)) rfl (pa_cons (pe_ix ix_tup (pv 0) pe_int (fun _ _ => rfl)) pa_nil))) (pe_cal C__law_many (hr.mono (by omega)) rfl (pa_cons (pe_ix ix_tup (pv 0) pe_int (fun _ _ => rfl)) pa_nil))))) pss_nil)
  (pss_one (ps_ret (pe_op op_add pe_int (pe_cal C__law_many (hr.mono (by omega)) rfl (pa_cons (pe_ix ix_tup (pv 0) (pe_op op_sub (pe_callB call_len_seq (by rfl) T.b_len PySem.boot_len (pa_cons (pv 0) pa_nil)) pe_int) (fun _ _ => rfl)) pa_nil))))))), ?_⟩
  rcases plan_cases hp with ⟨n, rfl⟩ | ⟨x, y, rfl⟩ | ⟨tag, x, pa, ys, n1, n2, a, h1, h2⟩
  · refine ⟨_, rfl, p, _, 0, _, rfl, rfl, SqT.of hp, at_pos (by decide) rfl, rfl, _, rfl, ifT (by decide +kernel) ?_⟩
    exact q
  · obtain ⟨pa, pb, ho, ha, hb⟩ := hp
    simp only [Plan.height] at hh
    refine ⟨_, rfl, p, _, 0, _, rfl, rfl, SqT.of ho, at_pos (by decide) rfl, rfl, _, rfl, ifF (by decide +kernel) ?_⟩
    refine ⟨_, rfl, p, _, 0, _, rfl, rfl, SqT.of ho, at_pos (by decide) rfl, rfl, _, rfl, ifT (by decide +kernel) ?_⟩
    refine ⟨_, rfl, p, _, 1, _, rfl, rfl, SqT.of ho, at_pos (by decide) rfl, x, pa, rfl, ha, by omega, _, _, rfl, rfl, ?_⟩
    refine ⟨_, rfl, p, _, 2, _, rfl, rfl, SqT.of ho, at_pos (by decide) rfl, y, pb, rfl, hb, by omega, _, _, rfl, rfl, ?_⟩
    show Q (.int (1 + (x.count : Int) + (y.count : Int))) H
    rw [show (1 + (x.count : Int) + (y.count : Int)) = ((Plan.join x y).count : Nat) by simp only [Plan.count]; omega]
    exact q
  · refine ⟨_, rfl, p, _, 0, _, rfl, rfl, SqT.of a.at_, at_pos (by decide) rfl, rfl, _, rfl, ifF (dec_ne fun z => n1 (V.str.inj z)) ?_⟩
    refine ⟨_, rfl, p, _, 0, _, rfl, rfl, SqT.of a.at_, at_pos (by decide) rfl, rfl, _, rfl, ifF (dec_ne fun z => n2 (V.str.inj z)) ?_⟩
    refine ⟨_, rfl, _, rfl, p, _, rfl, .inr (SqT.of a.at_), _, _, rfl, rfl, p, _, _, _, rfl, rfl, SqT.of a.at_, a.last, x, pa, rfl, a.sub, by omega, _, _, rfl, rfl, ?_⟩
    show Q (.int (1 + (x.count : Int))) H
    rw [show (1 + (x.count : Int)) = (pl.count : Nat) by omega]
    exact q
theorem all_many (T : Txt mg) (F : Fun K "_law_many" "_law_many" s__law_many f fd) (m : mg "_law_many" = some (.ref f)) (b : Binds K fd ["plan"] []) : ∀ h : Nat, Cal P w K mg base h "_law_many" ["plan"] (spTuples h)
  | 0 => ⟨f, fd, none_tuples, m, F.kp, b⟩
  | h + 1 => ⟨f, fd, ok__law_many F T (all_many T F m b h), m, F.kp, b⟩
def spRun : Sp := fun vs H Q _ => ∃ (l g : List Nat) (a : Nat), vs = [.str (S l), .int (a : Nat), .str (S g)] ∧ l.length ≤ 600 ∧ Q (.str (S (run l g (a : Nat)))) H
abbrev s__law_run : Stmt := top 59
abbrev N__law_run : List Str := ["text", "at", "signs", "last", "k"]
theorem sc__law_run : FnScope N__law_run ["text", "at", "signs"] (defScope s__law_run) := ⟨rfl, rfl, rfl, by decide +kernel, rfl, by decide +kernel, by decide +kernel⟩
theorem ok__law_run (F : Fun K "_law_run" "_law_run" s__law_run f fd) (T : Txt mg) : FnOk P w K mg base CX0 1 f fd ["text", "at", "signs"] spRun := by
  refine F.ok sc__law_run (fun vs H Q E h => ?_) (fun cdv A outer s H vs Q E hr h => ?_)
  · obtain ⟨l, g, a, rfl, _⟩ := h
    rfl
  obtain ⟨l, g, a, rfl, hl, q⟩ := h
  refine ⟨_, (pss_cons (ps_set (i := 3) sc__law_run.nd rfl (Or.inl rfl) (pv 1))
  (C8.pss_cut (ps_for PassesOwn.never rfl (pi_range1 (by rfl) T.b_range (pa_cons (pe_callB call_len_str (by rfl) T.b_len PySem.boot_len (pa_cons (pv 0) pa_nil)) pa_nil)) (pg_name (i := 4) sc__law_run.nd rfl (Or.inl rfl)) (pss_cons (ps_if (PW.pt (pw_or (pt_cmpR op_ge (pv 3) (pe_callB call_len_str (by rfl) T.b_len PySem.boot_len (pa_cons (pv 0) pa_nil)) (nomark _)) (pw_or1 (pt_cmpR op_notIn_sign (pe_ix ix_str (pv 0) (pv 3) (fun _ _ => rfl)) (pv 2) (by rfl))))) (pss_one ps_break) pss_nil)
  (pss_one (ps_set (i := 3) sc__law_run.nd rfl (Or.inl rfl) (pe_op op_add (pv 3) pe_int)))))
  (pss_one (ps_ret (pe_slice sl_str (pv 0) (po_some (pv 1)) (po_some (pv 3))))))), ?_⟩
  have hsl : (((S l).length : Nat) : Int) = (l.length : Int) := by rw [slen]
  have nat_drop : l.drop ((a : Nat) : Int).toNat = l.drop a := by rw [Int.toNat_natCast]
  refine ⟨_, rfl, ?_⟩
  refine ⟨fun σ H' => ∃ (e : Nat) (v4 : Option V), σ = [some (.str (S l)), some (.int (a : Nat)), some (.str (S g)), some (.int (e : Nat)), v4] ∧ H' = H ∧ a ≤ e ∧ run l g (a : Nat) = (l.drop a).take (e - a), ?_, ?_⟩
  · refine ⟨_, rfl, _, rfl, sline (by omega), ?_⟩
    rw [hsl]
    refine ⟨_, rfl, by omega, by omega, for_range (lo := 0) (n := ((l.length : Nat) : Int).toNat) (fun i σ H' => ∃ (v4 : Option V), σ = [some (.str (S l)), some (.int (a : Nat)), some (.str (S g)), some (.int ((a + i : Nat) : Nat)), v4] ∧ H' = H ∧ run l g (a : Nat) = (l.drop a).take i ++ run l g ((a + i : Nat) : Nat))
      ⟨none, rfl, rfl, by rw [List.take_zero]; rfl⟩ ?_ ?_⟩
    · rintro i σ H' hi ⟨v4, rfl, rfl, hrun⟩
      have cut : (a + i) - a = i := by omega
      refine ⟨_, rfl, _, rfl, _, rfl, sline (by omega), _, _, rfl, rfl, _, rfl, ?_⟩
      rw [hsl]
      refine ite2 (fun c => ?_) (fun c => ?_)
      · have c1 : (l.length : Int) ≤ ((a + i : Nat) : Int) := of_decide_eq_true c
        refine ⟨a + i, _, rfl, rfl, by omega, ?_⟩
        rw [hrun, run_end c1, List.append_nil, cut]
      · have c1 : ¬ (l.length : Int) ≤ ((a + i : Nat) : Int) := of_decide_eq_false (Bool.eq_false_iff.mpr c)
        have hlt : a + i < l.length := by omega
        obtain ⟨d, hd⟩ : ∃ d, l[((a + i : Nat) : Int).toNat]? = some d := ⟨l[a + i], by rw [Int.toNat_natCast]; exact List.getElem?_eq_getElem hlt⟩
        refine ⟨_, rfl, _, rfl, _, _, d, rfl, rfl, sline (by omega), at_pos (by omega) hd, _, rfl, d, S g, rfl, rfl, _, rfl, ?_⟩
        by_cases hm : d ∈ g
        · refine ifF (by show (!decide (d ∈ g)) = false; rw [decide_eq_true hm]; rfl) ?_
          refine ⟨_, rfl, _, _, rfl, rfl, ?_⟩
          refine ⟨_, rfl, rfl, ?_⟩
          have hm1 := run_more (e := ((a + i : Nat) : Int)) (by omega) hd hm
          rw [hrun, hm1, show (((a + i : Nat) : Int) + 1) = ((a + (i + 1) : Nat) : Int) by omega, List.take_add_one, List.getElem?_drop]
          rw [Int.toNat_natCast] at hd
          rw [hd, List.append_assoc]
          rfl
        · refine ifT (by show (!decide (d ∈ g)) = true; rw [decide_eq_false hm]; rfl) ?_
          refine ⟨a + i, _, rfl, rfl, by omega, ?_⟩
          rw [hrun, run_stop (by omega) hd hm, List.append_nil, cut]
    · rintro σ H' ⟨v4, rfl, rfl, hrun⟩
      rw [Int.toNat_natCast] at hrun
      refine ⟨a + l.length, v4, by rw [Int.toNat_natCast], rfl, by omega, ?_⟩
      rw [hrun, run_end (by omega), List.append_nil, show a + l.length - a = l.length by omega]
  · rintro σ H' ⟨e, v4, rfl, rfl, hae, hrun⟩
    refine ⟨_, rfl, _, rfl, _, rfl, _, rfl, _, rfl, S l, rfl, sline (by omega), ?_⟩
    rw [cut_mid l (by omega) (by omega), Int.toNat_natCast, show (((e : Nat) : Int) - ((a : Nat) : Int)).toNat = e - a by omega, ← hrun]
    exact q
def spInr : Sp := fun vs H Q _ => ∃ (x : List Nat) (least most : Nat), vs = [.str (S x), .int (least : Nat), .int (most : Nat)] ∧ x.length ≤ 600 ∧ (∀ c ∈ x, digit c = true) ∧ Q (.bl (decide (inr x least most))) H
abbrev s__law_in_range : Stmt := top 60
abbrev N__law_in_range : List Str := ["word", "least", "most"]
theorem sc__law_in_range : FnScope N__law_in_range ["word", "least", "most"] (defScope s__law_in_range) := ⟨rfl, rfl, rfl, by decide +kernel, rfl, by decide +kernel, by decide +kernel⟩
theorem num_ok {x : List Nat} (hl : x.length ≤ 600) (hd : ∀ c ∈ x, digit c = true) (hne : x ≠ []) : PySem.intText? (S x) = some ((dv x : Nat) : Int) := int_S (all_digits hd) hne (by omega)
theorem ok__law_in_range (F : Fun K "_law_in_range" "_law_in_range" s__law_in_range f fd) (T : Txt mg) : FnOk P w K mg base CX0 1 f fd ["word", "least", "most"] spInr := by
  refine F.ok sc__law_in_range (fun vs H Q E h => ?_) (fun cdv A outer s H vs Q E hr h => ?_)
  · obtain ⟨x, least, most, rfl, _⟩ := h
    rfl
  obtain ⟨x, least, most, rfl, hl, hd, q⟩ := h
  refine ⟨_, (pss_one (ps_ret (pe_and (pe_chain op_lt op_lt pe_int (pe_callB call_len_str (by rfl) T.b_len PySem.boot_len (pa_cons (pv 0) pa_nil)) pe_int) (pe_one (pe_chain op_le op_le (pv 1) (pe_callTy call_int_str (by rfl) T.b_int (by decide +kernel) (pa_cons (pv 0) pa_nil)) (pv 2)))))), ?_⟩
  have hsl : (((S x).length : Nat) : Int) = (x.length : Int) := by rw [slen]
  have out : ∀ {p : Prop} [Decidable p], ¬ p → (inr x least most → p) → Q (.bl false) H := fun hp hi => by
    rw [decide_eq_false (fun z => hp (hi z))] at q
    exact q
  refine ⟨_, rfl, _, rfl, sline (by omega), _, _, rfl, rfl, _, rfl, ?_⟩
  rw [hsl]
  refine ite2 (fun c => ?_) (fun c => ?_)
  · have c1 := dec_lt c
    refine ⟨_, _, rfl, rfl, _, rfl, ?_⟩
    refine ite2 (fun c => ?_) (fun c => ?_)
    · have c2 := dec_lt c
      have hne : x ≠ [] := fun z => by rw [z] at c1; exact absurd c1 (by decide)
      refine ⟨_, rfl, _, rfl, _, _, rfl, num_ok hl hd hne, by rw [slen]; omega, _, _, rfl, rfl, _, rfl, ?_⟩
      refine ite2 (fun c => ?_) (fun c => ?_)
      · have c3 : ((least : Nat) : Int) ≤ ((dv x : Nat) : Int) := of_decide_eq_true c
        refine ⟨_, rfl, _, _, rfl, rfl, ?_⟩
        have e : decide (((dv x : Nat) : Int) ≤ ((most : Nat) : Int)) = decide (inr x least most) := by
          refine decide_eq_decide.mpr ⟨fun z => ⟨⟨by omega, by omega⟩, by omega, by omega⟩, fun z => by have := z.2.2; omega⟩
        show Q (.bl (decide (((dv x : Nat) : Int) ≤ ((most : Nat) : Int)))) H
        rw [e]
        exact q
      · have c3 : ¬ ((least : Nat) : Int) ≤ ((dv x : Nat) : Int) := of_decide_eq_false (Bool.eq_false_iff.mpr c)
        exact out c3 fun z => by have := z.2.1; omega
    · have c2 := not_lt c
      exact out c2 fun z => by have := z.1.2; omega
  · have c1 := not_lt c
    exact ⟨_, rfl, ifF rfl (out c1 fun z => by have := z.1.1; omega)⟩
end
end P66
namespace P66
open PySem PySem.Spec PyProof.Rows L2 SX EX
theorem sapp (a b : Str) : (a ++ b).length = a.length + b.length := by
  show (a.cps ++ b.cps).size = a.cps.size + b.cps.size
  exact Array.size_append
theorem num_len {n : Nat} (h : n ≤ 999) : (Str.ofString (toString ((n : Nat) : Int))).length ≤ 3 := by
  rw [num_S, slen]
  exact numL_le3 h
theorem log_ok {n : Nat} (h : n ≤ 999) : ((n : Nat) : Int).natAbs.log2 < 1920 := by
  rw [Int.natAbs_natCast]
  by_cases h0 : n = 0
  · subst h0; decide
  · exact (Nat.log2_lt h0).mpr (Nat.lt_of_le_of_lt h (by exact Nat.lt_of_lt_of_le (show 999 < 2 ^ 10 by decide) (Nat.pow_le_pow_right (by decide) (by decide))))
theorem fmt_join (x y : Plan) : ("(" : Str) ++ S (fmt x) ++ (" + " : Str) ++ S (fmt y) ++ (")" : Str) = S (fmt (.join x y)) := by
  rw [lit_lp, lit_rp, lit_plus, S_cat, S_cat, S_cat, S_cat]
  rfl
theorem fmt_scale (m n : Nat) (x : Plan) : (Str.ofString (toString (m : Int))) ++ ("/" : Str) ++ (Str.ofString (toString (n : Int))) ++ (" * " : Str) ++ S (fmt x) = S (fmt (.scale m n x)) := by
  rw [num_S, num_S, lit_slash, lit_star, S_cat, S_cat, S_cat, S_cat]
  rfl
theorem fmt_thin (k : Nat) (x : Plan) : ("thin " : Str) ++ (Str.ofString (toString (k : Int))) ++ (" " : Str) ++ S (fmt x) = S (fmt (.thin k x)) := by
  rw [num_S, lit_thin_, lit_blank, S_cat, S_cat, S_cat]
  rfl
theorem fmt_spare (x : Plan) : ("spare" : Str) ++ (" " : Str) ++ S (fmt x) = S (fmt (.spare x)) := by
  rw [lit_spare, lit_blank, S_cat, S_cat]
  rfl
theorem fmt_base (x : Plan) : ("base" : Str) ++ (" " : Str) ++ S (fmt x) = S (fmt (.base x)) := by
  rw [lit_base, lit_blank, S_cat, S_cat]
  rfl
theorem emp_app (a : Str) : Str.empty ++ a = a := by
  have e : Str.empty = S [] := rfl
  rw [e, ← S_tl a, S_cat]
  rfl
theorem len_lp : ("(" : Str).length = 1 := by rw [lit_lp]; rfl
theorem len_rp : (")" : Str).length = 1 := by rw [lit_rp]; rfl
theorem len_plus : (" + " : Str).length = 3 := by rw [lit_plus]; rfl
theorem len_slash : ("/" : Str).length = 1 := by rw [lit_slash]; rfl
theorem len_star : (" * " : Str).length = 3 := by rw [lit_star]; rfl
theorem len_blank : (" " : Str).length = 1 := by rw [lit_blank]; rfl
theorem len_thin_ : ("thin " : Str).length = 5 := by rw [lit_thin_]; rfl
theorem len_spare : ("spare" : Str).length = 5 := by rw [lit_spare]; rfl
theorem len_base : ("base" : Str).length = 4 := by rw [lit_base]; rfl
theorem len_empty : Str.empty.length = 0 := rfl
/-- a writer of plans -/
def spFmt (h : Nat) : Sp := fun vs H Q _ => ∃ (pl : Plan) (p : Addr), vs = [.ref p] ∧ PlanAt H pl p ∧ Good pl ∧ pl.height ≤ h ∧ pl.count ≤ 100 ∧ Q (.str (S (fmt pl))) H
abbrev s__law_written : Stmt := top 57
abbrev N__law_written : List Str := ["plan"]
theorem sc__law_written : FnScope N__law_written ["plan"] (defScope s__law_written) := ⟨rfl, rfl, rfl, by decide +kernel, rfl, by decide +kernel, by decide +kernel⟩
section
variable {P : Program} {w : World} {K : PySem.W.Frag} {mg : Str → Option Value} {base : Heap} {f : Addr} {fd : FuncData}
theorem none_fmt {k h : Nat} (h0 : h = 0) : FnOk P w K mg base CX0 k f fd ["plan"] (spFmt h) := by
  have no : ∀ vs H Q E, ¬ spFmt h vs H Q E := fun vs H Q E hh => by
    obtain ⟨pl, p, _, _, _, hh, _⟩ := hh
    have := height_pos pl
    omega
  exact ⟨fun vs H Q E h => absurd h (no vs H Q E), fun A outer s H args us vs Q E _ _ _ _ h => absurd h (no vs H Q E)⟩
theorem ok__law_written {h : Nat} (F : Fun K "_law_written" "_law_written" s__law_written f fd) (T : Txt mg) (C__law_written : Cal P w K mg base h "_law_written" ["plan"] (spFmt h)) : FnOk P w K mg base CX0 (h + 1) f fd ["plan"] (spFmt (h + 1)) := by
  refine F.ok sc__law_written (fun vs H Q E h => ?_) (fun cdv A outer s H vs Q E hr h => ?_)
  · obtain ⟨pl, p, rfl, _⟩ := h
    rfl
  obtain ⟨pl, p, rfl, hp, hg, hh, hc, q⟩ := h
  refine ⟨_, (pss_cons (ps_if (pt_cmpR op_eq (pe_ix ix_tup (pv 0) pe_int (fun _ _ => rfl)) pe_str (nomark _)) (pss_one (ps_ret (pe_ix ix_tup (pv 0) pe_int (fun _ _ => rfl)))) pss_nil)
  (pss_cons (ps_if (pt_cmpR op_eq (pe_ix ix_tup (pv 0) pe_int (fun _ _ => rfl)) pe_str (nomark _)) (pss_one (ps_ret (pe_op op_add_str (pe_op op_add_str (pe_op op_add_str (pe_op op_add_str pe_str (pe_cal C__law_written (hr.mono (by omega)) rfl (pa_cons (pe_ix ix_tup (pv 0) pe_int (fun _ _ => rfl)) pa_nil))) pe_str) (pe_cal C__law_written (hr.mono (by omega)) rfl (pa_cons (pe_ix ix_tup (pv 0) pe_int (fun _ _ => rfl)) pa_nil))) pe_str))) pss_nil)
  (pss_cons (ps_if (pt_cmpR op_eq (pe_ix ix_tup (pv 0) pe_int (fun _ _ => rfl)) pe_str (nomark _)) (pss_one (ps_ret (pe_op op_add_str (pe_op op_add_str (pe_op op_add_str (pe_op op_add_str (pe_callTy call_str_int (by rfl) T.b_str (by decide +kernel) (pa_cons (pe_ix ix_tup (pv 0) pe_int (fun _ _ => rfl)) pa_nil)) pe_str) (pe_callTy call_str_int (by rfl) T.b_str (by decide +kernel) (pa_cons (pe_ix ix_tup (pv 0) pe_int (fun _ _ => rfl)) pa_nil))) pe_str) (pe_cal C__law_written (hr.mono (by omega)) rfl (pa_cons (pe_ix ix_tup (pv 0) pe_int (fun _ _ => rfl)) pa_nil))))) pss_nil)
  (pss_cons (ps_if (pt_cmpR op_eq (pe_ix ix_tup (pv 0) pe_int (fun _ _ => rfl)) pe_str (nomark _)) (pss_one (ps_ret (pe_op op_add_str (pe_op op_add_str (pe_op op_add_str pe_str (pe_callTy call_str_int (by rfl) T.b_str (by decide +kernel) (pa_cons (pe_ix ix_tup (pv 0) pe_int (fun _ _ => rfl)) pa_nil))) pe_str) (pe_cal C__law_written (hr.mono (by omega)) rfl (pa_cons (pe_ix ix_tup (pv 0) pe_int (fun _ _ => rfl)) pa_nil))))) pss_nil)
  (pss_one (ps_ret (pe_op op_add_str (pe_op op_add_str (pe_ix ix_tup (pv 0) pe_int (fun _ _ => rfl)) pe_str) (pe_cal C__law_written (hr.mono (by omega)) rfl (pa_cons (pe_ix ix_tup (pv 0) pe_int (fun _ _ => rfl)) pa_nil))))))))), ?_⟩
  cases pl with
  | take n =>
    refine ⟨_, rfl, p, _, 0, _, rfl, rfl, SqT.of hp, at_pos (by decide) rfl, rfl, _, rfl, ifT (by decide +kernel) ?_⟩
    exact ⟨_, rfl, p, _, 1, _, rfl, rfl, SqT.of hp, at_pos (by decide) rfl, q⟩
  | join x y =>
    obtain ⟨pa, pb, ho, ha, hb⟩ := hp
    simp only [Plan.height] at hh
    simp only [Plan.count] at hc
    have l1 := fmt_len hg.1
    have l2 := fmt_len hg.2
    refine ⟨_, rfl, p, _, 0, _, rfl, rfl, SqT.of ho, at_pos (by decide) rfl, rfl, _, rfl, ifF (by decide +kernel) ?_⟩
    refine ⟨_, rfl, p, _, 0, _, rfl, rfl, SqT.of ho, at_pos (by decide) rfl, rfl, _, rfl, ifT (by decide +kernel) ?_⟩
    refine ⟨_, rfl, p, _, 1, _, rfl, rfl, SqT.of ho, at_pos (by decide) rfl, x, pa, rfl, ha, hg.1, by omega, by omega, ?_⟩
    refine ⟨_, _, rfl, rfl, line_ge (by rw [len_lp, slen]; omega), _, _, rfl, rfl, line_ge (by rw [sapp, len_lp, len_plus, slen]; omega), ?_⟩
    refine ⟨_, rfl, p, _, 2, _, rfl, rfl, SqT.of ho, at_pos (by decide) rfl, y, pb, rfl, hb, hg.2, by omega, by omega, ?_⟩
    refine ⟨_, _, rfl, rfl, line_ge (by rw [sapp, sapp, len_lp, len_plus, slen, slen]; omega), _, _, rfl, rfl, line_ge (by rw [sapp, sapp, sapp, len_lp, len_plus, len_rp, slen, slen]; omega), ?_⟩
    show Q (.str (("(" : Str) ++ S (fmt x) ++ (" + " : Str) ++ S (fmt y) ++ (")" : Str))) H
    rw [fmt_join]
    exact q
  | scale m n x =>
    obtain ⟨pa, ho, ha⟩ := hp
    simp only [Plan.height] at hh
    simp only [Plan.count] at hc
    have l1 := fmt_len hg.2.2
    have lm := num_len hg.1.2
    have ln := num_len hg.2.1.2
    refine ⟨_, rfl, p, _, 0, _, rfl, rfl, SqT.of ho, at_pos (by decide) rfl, rfl, _, rfl, ifF (by decide +kernel) ?_⟩
    refine ⟨_, rfl, p, _, 0, _, rfl, rfl, SqT.of ho, at_pos (by decide) rfl, rfl, _, rfl, ifF (by decide +kernel) ?_⟩
    refine ⟨_, rfl, p, _, 0, _, rfl, rfl, SqT.of ho, at_pos (by decide) rfl, rfl, _, rfl, ifT (by decide +kernel) ?_⟩
    refine ⟨_, rfl, p, _, 1, _, rfl, rfl, SqT.of ho, at_pos (by decide) rfl, _, rfl, log_ok hg.1.2, _, _, rfl, rfl, line_ge (by rw [len_slash]; omega), ?_⟩
    refine ⟨_, rfl, p, _, 2, _, rfl, rfl, SqT.of ho, at_pos (by decide) rfl, _, rfl, log_ok hg.2.1.2, _, _, rfl, rfl, line_ge (by rw [sapp, len_slash]; omega), ?_⟩
    refine ⟨_, _, rfl, rfl, line_ge (by rw [sapp, sapp, len_slash, len_star]; omega), ?_⟩
    refine ⟨_, rfl, p, _, 3, _, rfl, rfl, SqT.of ho, at_pos (by decide) rfl, x, pa, rfl, ha, hg.2.2, by omega, by omega, ?_⟩
    refine ⟨_, _, rfl, rfl, line_ge (by rw [sapp, sapp, sapp, len_slash, len_star, slen (fmt x)]; omega), ?_⟩
    show Q (.str ((Str.ofString (toString (m : Int))) ++ ("/" : Str) ++ (Str.ofString (toString (n : Int))) ++ (" * " : Str) ++ S (fmt x))) H
    rw [fmt_scale]
    exact q
  | spare x =>
    obtain ⟨pa, ho, ha⟩ := hp
    simp only [Plan.height] at hh
    simp only [Plan.count] at hc
    have l1 := fmt_len (a := x) hg
    refine ⟨_, rfl, p, _, 0, _, rfl, rfl, SqT.of ho, at_pos (by decide) rfl, rfl, _, rfl, ifF (by decide +kernel) ?_⟩
    refine ⟨_, rfl, p, _, 0, _, rfl, rfl, SqT.of ho, at_pos (by decide) rfl, rfl, _, rfl, ifF (by decide +kernel) ?_⟩
    refine ⟨_, rfl, p, _, 0, _, rfl, rfl, SqT.of ho, at_pos (by decide) rfl, rfl, _, rfl, ifF (by decide +kernel) ?_⟩
    refine ⟨_, rfl, p, _, 0, _, rfl, rfl, SqT.of ho, at_pos (by decide) rfl, rfl, _, rfl, ifF (by decide +kernel) ?_⟩
    refine ⟨_, rfl, p, _, 0, _, rfl, rfl, SqT.of ho, at_pos (by decide) rfl, _, _, rfl, rfl, line_ge (by rw [len_spare, len_blank]; omega), ?_⟩
    refine ⟨_, rfl, p, _, 1, _, rfl, rfl, SqT.of ho, at_pos (by decide) rfl, x, pa, rfl, ha, hg, by omega, by omega, ?_⟩
    refine ⟨_, _, rfl, rfl, line_ge (by rw [sapp, len_spare, len_blank, slen]; omega), ?_⟩
    show Q (.str (("spare" : Str) ++ (" " : Str) ++ S (fmt x))) H
    rw [fmt_spare]
    exact q
  | base x =>
    obtain ⟨pa, ho, ha⟩ := hp
    simp only [Plan.height] at hh
    simp only [Plan.count] at hc
    have l1 := fmt_len (a := x) hg
    refine ⟨_, rfl, p, _, 0, _, rfl, rfl, SqT.of ho, at_pos (by decide) rfl, rfl, _, rfl, ifF (by decide +kernel) ?_⟩
    refine ⟨_, rfl, p, _, 0, _, rfl, rfl, SqT.of ho, at_pos (by decide) rfl, rfl, _, rfl, ifF (by decide +kernel) ?_⟩
    refine ⟨_, rfl, p, _, 0, _, rfl, rfl, SqT.of ho, at_pos (by decide) rfl, rfl, _, rfl, ifF (by decide +kernel) ?_⟩
    refine ⟨_, rfl, p, _, 0, _, rfl, rfl, SqT.of ho, at_pos (by decide) rfl, rfl, _, rfl, ifF (by decide +kernel) ?_⟩
    refine ⟨_, rfl, p, _, 0, _, rfl, rfl, SqT.of ho, at_pos (by decide) rfl, _, _, rfl, rfl, line_ge (by rw [len_base, len_blank]; omega), ?_⟩
    refine ⟨_, rfl, p, _, 1, _, rfl, rfl, SqT.of ho, at_pos (by decide) rfl, x, pa, rfl, ha, hg, by omega, by omega, ?_⟩
    refine ⟨_, _, rfl, rfl, line_ge (by rw [sapp, len_base, len_blank, slen]; omega), ?_⟩
    show Q (.str (("base" : Str) ++ (" " : Str) ++ S (fmt x))) H
    rw [fmt_base]
    exact q
  | thin k x =>
    obtain ⟨pa, ho, ha⟩ := hp
    simp only [Plan.height] at hh
    simp only [Plan.count] at hc
    have l1 := fmt_len hg.2
    have hk : k ≤ 999 := by have := hg.1.2; omega
    have lk := num_len hk
    refine ⟨_, rfl, p, _, 0, _, rfl, rfl, SqT.of ho, at_pos (by decide) rfl, rfl, _, rfl, ifF (by decide +kernel) ?_⟩
    refine ⟨_, rfl, p, _, 0, _, rfl, rfl, SqT.of ho, at_pos (by decide) rfl, rfl, _, rfl, ifF (by decide +kernel) ?_⟩
    refine ⟨_, rfl, p, _, 0, _, rfl, rfl, SqT.of ho, at_pos (by decide) rfl, rfl, _, rfl, ifF (by decide +kernel) ?_⟩
    refine ⟨_, rfl, p, _, 0, _, rfl, rfl, SqT.of ho, at_pos (by decide) rfl, rfl, _, rfl, ifT (by decide +kernel) ?_⟩
    refine ⟨_, rfl, p, _, 1, _, rfl, rfl, SqT.of ho, at_pos (by decide) rfl, _, rfl, log_ok hk, _, _, rfl, rfl, line_ge (by rw [len_thin_]; omega), ?_⟩
    refine ⟨_, _, rfl, rfl, line_ge (by rw [sapp, len_thin_, len_blank]; omega), ?_⟩
    refine ⟨_, rfl, p, _, 2, _, rfl, rfl, SqT.of ho, at_pos (by decide) rfl, x, pa, rfl, ha, hg.2, by omega, by omega, ?_⟩
    refine ⟨_, _, rfl, rfl, line_ge (by rw [sapp, sapp, len_thin_, len_blank, slen (fmt x)]; omega), ?_⟩
    show Q (.str (("thin " : Str) ++ (Str.ofString (toString (k : Int))) ++ (" " : Str) ++ S (fmt x))) H
    rw [fmt_thin]
    exact q
theorem all_written (T : Txt mg) (F : Fun K "_law_written" "_law_written" s__law_written f fd) (m : mg "_law_written" = some (.ref f)) (b : Binds K fd ["plan"] []) : ∀ h : Nat, Cal P w K mg base h "_law_written" ["plan"] (spFmt h)
  | 0 => ⟨f, fd, none_fmt rfl, m, F.kp, b⟩
  | h + 1 => ⟨f, fd, ok__law_written F T (all_written T F m b h), m, F.kp, b⟩
end
end P66
namespace P66
open PySem PySem.Spec PyProof.Rows L2 SX EX
theorem args3 {s : Str} {x y x' y' : Int} (h1 : x = x') (h2 : y = y') : [V.str s, V.int x, V.int y] = [V.str s, V.int x', V.int y'] := by rw [h1, h2]
theorem args3s {s t t' : Str} {x x' : Int} (h1 : x = x') (h2 : t = t') : [V.str s, V.int x, V.str t] = [V.str s, V.int x', V.str t'] := by rw [h1, h2]
theorem lr_scale {d : Nat} {l : List Nat} {a : Nat} (h : (l.drop a).take 1 ≠ [40]) (h2 : dg (l.drop a) ≠ []) : lr (d + 1) l a = (lr d l (a + (dg (l.drop a)).length + (dg (l.drop (a + (dg (l.drop a)).length + 1))).length + 4)).bind fun x =>
      if inr (dg (l.drop a)) 1 999 ∧ inr (dg (l.drop (a + (dg (l.drop a)).length + 1))) 1 999 then some (.scale (dv (dg (l.drop a))) (dv (dg (l.drop (a + (dg (l.drop a)).length + 1)))) x.1, x.2) else none := by
  rw [lr, if_neg h, if_pos h2]
theorem lr_thin {d : Nat} {l : List Nat} {a : Nat} (h : (l.drop a).take 1 ≠ [40]) (h2 : dg (l.drop a) = []) (h3 : lw (l.drop a) = tThin) : lr (d + 1) l a = (lr d l (a + 6 + (dg (l.drop (a + 5))).length)).bind fun x => if inr (dg (l.drop (a + 5))) 2 10 then some (.thin (dv (dg (l.drop (a + 5)))) x.1, x.2) else none := by
  rw [lr, if_neg h, if_neg (fun z => z h2), if_pos h3]
theorem lr_word {d : Nat} {l : List Nat} {a : Nat} (h : (l.drop a).take 1 ≠ [40]) (h2 : dg (l.drop a) = []) (h3 : lw (l.drop a) ≠ tThin) (h4 : lw (l.drop a) = tSpare ∨ lw (l.drop a) = tBase) : lr (d + 1) l a = (lr d l (a + (lw (l.drop a)).length + 1)).bind fun x => some (if lw (l.drop a) = tSpare then .spare x.1 else .base x.1, x.2) := by
  rw [lr, if_neg h, if_neg (fun z => z h2), if_neg h3, if_pos h4]
theorem lr_take {d : Nat} {l : List Nat} {a : Nat} (h : (l.drop a).take 1 ≠ [40]) (h2 : dg (l.drop a) = []) (h3 : lw (l.drop a) ≠ tThin) (h4 : ¬ (lw (l.drop a) = tSpare ∨ lw (l.drop a) = tBase)) : lr (d + 1) l a = if (lw (l.drop a)).length < 1 ∨ (lw (l.drop a)).length > 8 then none else some (.take (lw (l.drop a)), a + (lw (l.drop a)).length) := by
  rw [lr, if_neg h, if_neg (fun z => z h2), if_neg h3, if_neg h4]
section
variable {P : Program} {w : World} {K : PySem.W.Frag} {mg : Str → Option Value} {base : Heap} {f : Addr} {fd : FuncData} {cB cC : Addr}
def spLr (d : Nat) : Sp := fun vs H Q _ => ∃ (l : List Nat) (a : Nat), vs = [.str (S l), .int (a : Nat), .int (d : Nat)] ∧ l.length ≤ 600 ∧
  (∀ pl e, lr d l a = some (pl, e) → ∀ p t H', Same H H' → PlanAt H' pl p → H' t = some (.lst [.ref p, .int (e : Nat)]) → Q (.ref t) H') ∧ (lr d l a = none → ∀ H', Same H H' → Q .non H')
abbrev s__law_read : Stmt := top 61
abbrev N__law_read : List Str := ["text", "at", "deep", "one", "two", "top", "under", "inner", "word", "number"]
theorem sc__law_read : FnScope N__law_read ["text", "at", "deep"] (defScope s__law_read) := ⟨rfl, rfl, rfl, by decide +kernel, rfl, by decide +kernel, by decide +kernel⟩
theorem ok__law_read_0 (F : Fun K "_law_read" "_law_read" s__law_read f fd) (T : Txt mg) : FnOk P w K mg base CX0 2 f fd ["text", "at", "deep"] (spLr 0) := by
  refine F.ok sc__law_read (fun vs H Q E h => ?_) (fun cdv A outer s H vs Q E hr h => ?_)
  · obtain ⟨l, a, rfl, _⟩ := h
    rfl
  obtain ⟨l, a, rfl, hl, q1, q0⟩ := h
  refine ⟨_, (pss_cons (ps_if (pt_cmpR op_eq (pv 2) pe_int (nomark _)) (pss_one (ps_ret pe_non)) pss_nil) pss_never), ?_⟩
  exact ⟨_, rfl, rfl, _, rfl, ifT (decide_eq_true rfl) (q0 rfl H (Same.refl H))⟩
theorem ok__law_read {d : Nat} (F : Fun K "_law_read" "_law_read" s__law_read f fd) (T : Txt mg) (C__law_run : Cal P w K mg base 1 "_law_run" ["text", "at", "signs"] spRun) (C__law_in_range : Cal P w K mg base 1 "_law_in_range" ["word", "least", "most"] spInr)
    (C__law_read : Cal P w K mg base (d + 2) "_law_read" ["text", "at", "deep"] (spLr d)) : FnOk P w K mg base CX0 (d + 3) f fd ["text", "at", "deep"] (spLr (d + 1)) := by
  refine F.ok sc__law_read (fun vs H Q E h => ?_) (fun cdv A outer s H vs Q E hr h => ?_)
  · obtain ⟨l, a, rfl, _⟩ := h
    rfl
  obtain ⟨l, a, rfl, hl, q1, q0⟩ := h
  refine ⟨_, (pss_cons (ps_if (pt_cmpR op_eq (pv 2) pe_int (nomark _)) (pss_one (ps_ret pe_non)) pss_nil)
  (pss_cons (ps_if (pt_cmpR op_eq (pe_slice sl_str (pv 0) (po_some (pv 1)) (po_some (pe_op op_add (pv 1) pe_int))) pe_str (nomark _)) (pss_cons (ps_set (i := 3) sc__law_read.nd rfl (Or.inl rfl) (pe_cal C__law_read (hr.mono (by omega)) rfl (pa_cons (pv 0) (pa_cons (pe_op op_add (pv 1) pe_int) (pa_cons (pe_op op_sub (pv 2) pe_int) pa_nil)))))
  (pss_cons (ps_if (pt_cmpR op_isN (pv 3) pe_non (nomark _)) (pss_one (ps_ret pe_non)) pss_nil)
  (pss_cons (ps_set (i := 4) sc__law_read.nd rfl (Or.inl rfl) (pe_cal C__law_read (hr.mono (by omega)) rfl (pa_cons (pv 0) (pa_cons (pe_op op_add (pe_ix ix_list (pv 3) pe_int (fun _ _ => rfl)) pe_int) (pa_cons (pe_op op_sub (pv 2) pe_int) pa_nil)))))
  (pss_cons (ps_if (pt_cmpR op_isN (pv 4) pe_non (nomark _)) (pss_one (ps_ret pe_non)) pss_nil)
  (pss_one (ps_ret (pe_lst (pa_cons (pe_tup (pa_cons pe_str (pa_cons (pe_ix ix_list (pv 3) pe_int (fun _ _ => rfl)) (pa_cons (pe_ix ix_list (pv 4) pe_int (fun _ _ => rfl)) pa_nil)))) (pa_cons (pe_op op_add (pe_ix ix_list (pv 4) pe_int (fun _ _ => rfl)) pe_int) pa_nil))))))))) pss_nil)
  (pss_cons (ps_set (i := 5) sc__law_read.nd rfl (Or.inl rfl) (pe_cal C__law_run (hr.mono (by omega)) rfl (pa_cons (pv 0) (pa_cons (pv 1) (pa_cons pe_str pa_nil)))))
  (pss_cons (ps_if (pt_cmpR op_ne (pv 5) pe_str (nomark _)) (pss_cons (ps_set (i := 6) sc__law_read.nd rfl (Or.inl rfl) (pe_cal C__law_run (hr.mono (by omega)) rfl (pa_cons (pv 0) (pa_cons (pe_op op_add (pe_op op_add (pv 1) (pe_callB call_len_str (by rfl) T.b_len PySem.boot_len (pa_cons (pv 5) pa_nil))) pe_int) (pa_cons pe_str pa_nil)))))
  (pss_cons (ps_set (i := 7) sc__law_read.nd rfl (Or.inl rfl) (pe_cal C__law_read (hr.mono (by omega)) rfl (pa_cons (pv 0) (pa_cons (pe_op op_add (pe_op op_add (pe_op op_add (pv 1) (pe_callB call_len_str (by rfl) T.b_len PySem.boot_len (pa_cons (pv 5) pa_nil))) (pe_callB call_len_str (by rfl) T.b_len PySem.boot_len (pa_cons (pv 6) pa_nil))) pe_int) (pa_cons (pe_op op_sub (pv 2) pe_int) pa_nil)))))
  (pss_cons (ps_if (PW.pt (pw_or (pt_cmpR op_isN (pv 7) pe_non (nomark _)) (pw_or (pt_not (pt_val (pe_cal C__law_in_range (hr.mono (by omega)) rfl (pa_cons (pv 5) (pa_cons pe_int (pa_cons pe_int pa_nil)))))) (pw_or1 (pt_not (pt_val (pe_cal C__law_in_range (hr.mono (by omega)) rfl (pa_cons (pv 6) (pa_cons pe_int (pa_cons pe_int pa_nil)))))))))) (pss_one (ps_ret pe_non)) pss_nil)
  (pss_one (ps_ret (pe_lst (pa_cons (pe_tup (pa_cons pe_str (pa_cons (pe_callTy call_int_str (by rfl) T.b_int (by decide +kernel) (pa_cons (pv 5) pa_nil)) (pa_cons (pe_callTy call_int_str (by rfl) T.b_int (by decide +kernel) (pa_cons (pv 6) pa_nil)) (pa_cons (pe_ix ix_list (pv 7) pe_int (fun _ _ => rfl)) pa_nil))))) (pa_cons (pe_ix ix_list (pv 7) pe_int (fun _ _ => rfl)) pa_nil)))))))) pss_nil)
  (pss_cons (ps_set (i := 8) sc__law_read.nd rfl (Or.inl rfl) (pe_cal C__law_run (hr.mono (by omega)) rfl (pa_cons (pv 0) (pa_cons (pv 1) (pa_cons pe_str pa_nil)))))
  (pss_cons (ps_if (pt_cmpR op_eq (pv 8) pe_str (nomark _)) (pss_cons (ps_set (i := 9) sc__law_read.nd rfl (Or.inl rfl) (pe_cal C__law_run (hr.mono (by omega)) rfl (pa_cons (pv 0) (pa_cons (pe_op op_add (pv 1) pe_int) (pa_cons pe_str pa_nil)))))
  (pss_cons (ps_set (i := 7) sc__law_read.nd rfl (Or.inl rfl) (pe_cal C__law_read (hr.mono (by omega)) rfl (pa_cons (pv 0) (pa_cons (pe_op op_add (pe_op op_add (pv 1) pe_int) (pe_callB call_len_str (by rfl) T.b_len PySem.boot_len (pa_cons (pv 9) pa_nil))) (pa_cons (pe_op op_sub (pv 2) pe_int) pa_nil)))))
  (pss_cons (ps_if (PW.pt (pw_or (pt_cmpR op_isN (pv 7) pe_non (nomark _)) (pw_or1 (pt_not (pt_val (pe_cal C__law_in_range (hr.mono (by omega)) rfl (pa_cons (pv 9) (pa_cons pe_int (pa_cons pe_int pa_nil))))))))) (pss_one (ps_ret pe_non)) pss_nil)
  (pss_one (ps_ret (pe_lst (pa_cons (pe_tup (pa_cons pe_str (pa_cons (pe_callTy call_int_str (by rfl) T.b_int (by decide +kernel) (pa_cons (pv 9) pa_nil)) (pa_cons (pe_ix ix_list (pv 7) pe_int (fun _ _ => rfl)) pa_nil)))) (pa_cons (pe_ix ix_list (pv 7) pe_int (fun _ _ => rfl)) pa_nil)))))))) pss_nil)
  (pss_cons (ps_if (pt_cmpR op_in_seq (pv 8) (pe_lst (pa_cons pe_str (pa_cons pe_str pa_nil))) (by rfl)) (pss_cons (ps_set (i := 7) sc__law_read.nd rfl (Or.inl rfl) (pe_cal C__law_read (hr.mono (by omega)) rfl (pa_cons (pv 0) (pa_cons (pe_op op_add (pe_op op_add (pv 1) (pe_callB call_len_str (by rfl) T.b_len PySem.boot_len (pa_cons (pv 8) pa_nil))) pe_int) (pa_cons (pe_op op_sub (pv 2) pe_int) pa_nil)))))
  (pss_cons (ps_if (pt_cmpR op_isN (pv 7) pe_non (nomark _)) (pss_one (ps_ret pe_non)) pss_nil)
  (pss_one (ps_ret (pe_lst (pa_cons (pe_tup (pa_cons (pv 8) (pa_cons (pe_ix ix_list (pv 7) pe_int (fun _ _ => rfl)) pa_nil))) (pa_cons (pe_ix ix_list (pv 7) pe_int (fun _ _ => rfl)) pa_nil))))))) pss_nil)
  (pss_cons (ps_if (PW.pt (pw_or (pt_cmpR op_lt (pe_callB call_len_str (by rfl) T.b_len PySem.boot_len (pa_cons (pv 8) pa_nil)) pe_int (nomark _)) (pw_or1 (pt_cmpR op_gt (pe_callB call_len_str (by rfl) T.b_len PySem.boot_len (pa_cons (pv 8) pa_nil)) pe_int (nomark _))))) (pss_one (ps_ret pe_non)) pss_nil)
  (pss_one (ps_ret (pe_lst (pa_cons (pe_tup (pa_cons pe_str (pa_cons (pv 8) pa_nil))) (pa_cons (pe_op op_add (pv 1) (pe_callB call_len_str (by rfl) T.b_len PySem.boot_len (pa_cons (pv 8) pa_nil))) pa_nil))))))))))))), ?_⟩
  have ed : (((d + 1 : Nat) : Int) - 1) = ((d : Nat) : Int) := by omega
  have e1 : (((a : Nat) : Int) + 1) = ((a + 1 : Nat) : Int) := by omega
  refine ⟨_, rfl, rfl, _, rfl, ifF (dec_ne fun z => by have := V.int.inj z; omega) ?_⟩
  have one : cutS (S l) (some ((a : Nat) : Int)) (some (((a : Nat) : Int) + 1)) = S ((l.drop a).take 1) := by
    rw [cut_mid l (by omega) (by omega), Int.toNat_natCast, show (((a : Nat) : Int) + 1 - ((a : Nat) : Int)).toNat = 1 by omega]
  refine ⟨_, rfl, _, rfl, _, rfl, _, rfl, _, _, rfl, rfl, _, rfl, S l, rfl, sline (by omega), rfl, _, rfl, ?_⟩
  by_cases c1 : (l.drop a).take 1 = [40]
  · refine ifT (by rw [one, lit_lp, str_dec]; exact decide_eq_true c1) ?_
    have un := lr_join (d := d) c1
    refine ⟨_, rfl, _, rfl, _, _, rfl, rfl, _, rfl, _, _, rfl, rfl, l, a + 1, args3 e1 ed, hl, fun x e hx p1 t1 H1 g1 hp1 ht1 => ?_, fun hx H1 g1 => ?_⟩
    · refine ⟨_, rfl, rfl, _, rfl, ifF (dec_ne fun z => nomatch z) ?_⟩
      refine ⟨_, rfl, _, rfl, t1, _, 1, _, rfl, rfl, SqL.of ht1, at_pos (by decide) rfl, _, _, rfl, rfl, _, rfl, _, _, rfl, rfl, l, e + 3, args3 (by omega) ed, hl, fun y e2 hy p2 t2 H2 g2 hp2 ht2 => ?_, fun hy H2 g2 => ?_⟩
      · refine ⟨_, rfl, rfl, _, rfl, ifF (dec_ne fun z => nomatch z) ?_⟩
        refine ⟨_, rfl, t1, _, 0, _, rfl, rfl, SqL.of (g2 _ _ ht1), at_pos (by decide) rfl, _, rfl, t2, _, 0, _, rfl, rfl, SqL.of ht2, at_pos (by decide) rfl, three_line, fun u hu => ?_⟩
        have gu := same_new hu (.tup [V.str "join", V.ref p1, V.ref p2])
        refine ⟨_, rfl, t2, _, 1, _, rfl, rfl, SqL.of (gu _ _ ht2), at_pos (by decide) rfl, _, _, rfl, rfl, two_line, fun v hv => ?_⟩
        exact q1 (.join x y) (e2 + 1) (by rw [un, bd hx]; show (lr d l (e + 3)).bind _ = _; rw [bd hy]) u v _ (g1.trans (g2.trans (gu.trans (same_new hv _)))) ⟨p1, p2, same_new hv _ _ _ upd_same, hp1.same (g2.trans (gu.trans (same_new hv _))), hp2.same (gu.trans (same_new hv _))⟩ upd_same
      · refine ⟨_, rfl, rfl, _, rfl, ifT (decide_eq_true rfl) ?_⟩
        exact q0 (by rw [un, bd hx]; show (lr d l (e + 3)).bind _ = _; rw [hy]; rfl) H2 (g1.trans g2)
    · refine ⟨_, rfl, rfl, _, rfl, ifT (decide_eq_true rfl) ?_⟩
      exact q0 (by rw [un, hx]; rfl) H1 g1
  refine ifF (by rw [one, lit_lp, str_dec]; exact decide_eq_false c1) ?_
  refine ⟨_, rfl, _, rfl, l, digits, a, by rw [lit_digits]; rfl, hl, ?_⟩
  rw [run_dg, Int.toNat_natCast]
  have k1 := dg_len (l.drop a)
  rw [List.length_drop] at k1
  have hs1 : (((S (dg (l.drop a))).length : Nat) : Int) = ((dg (l.drop a)).length : Nat) := by rw [slen]
  refine ⟨_, rfl, rfl, _, rfl, ?_⟩
  by_cases c2 : dg (l.drop a) = []
  · refine ifF (by rw [lit_empty, str_dec, decide_eq_true c2]; rfl) ?_
    refine ⟨_, rfl, _, rfl, l, letters, a, by rw [lit_letters] <;> rfl, hl, ?_⟩
    rw [run_lw, Int.toNat_natCast]
    have k2 := lw_len (l.drop a)
    rw [List.length_drop] at k2
    have hs2 : (((S (lw (l.drop a))).length : Nat) : Int) = ((lw (l.drop a)).length : Nat) := by rw [slen]
    refine ⟨_, rfl, rfl, _, rfl, ?_⟩
    by_cases c3 : lw (l.drop a) = tThin
    · refine ifT (by rw [lit_thin, str_dec]; exact decide_eq_true c3) ?_
      have un := lr_thin (d := d) c1 c2 c3
      refine ⟨_, rfl, _, rfl, _, _, rfl, rfl, l, digits, a + 5, args3s (by omega) lit_digits, hl, ?_⟩
      rw [run_dg, Int.toNat_natCast]
      have k3 := dg_len (l.drop (a + 5))
      rw [List.length_drop] at k3
      have hs3 : (((S (dg (l.drop (a + 5)))).length : Nat) : Int) = ((dg (l.drop (a + 5))).length : Nat) := by rw [slen]
      refine ⟨_, rfl, _, rfl, _, _, rfl, rfl, _, rfl, _, rfl, sline (by omega), _, _, rfl, rfl, _, rfl, _, _, rfl, rfl, l, a + 6 + (dg (l.drop (a + 5))).length, args3 (by rw [hs3]; omega) ed, hl, fun x e hx p1 t1 H1 g1 hp1 ht1 => ?_, fun hx H1 g1 => ?_⟩
      · refine ⟨_, rfl, rfl, _, rfl, ifF (dec_ne fun z => nomatch z) ?_⟩
        refine ⟨_, rfl, dg (l.drop (a + 5)), 2, 10, rfl, by omega, dg_all _, ?_⟩
        refine ⟨_, rfl, ?_⟩
        by_cases c4 : inr (dg (l.drop (a + 5))) 2 10
        · refine ifF (by rw [decide_eq_true c4]; rfl) ?_
          have hne : dg (l.drop (a + 5)) ≠ [] := fun z => by have := c4.1.1; rw [z] at this; exact absurd this (by decide)
          refine ⟨_, rfl, _, _, rfl, num_ok (by omega) (dg_all _) hne, by rw [slen]; omega, _, rfl, t1, _, 0, _, rfl, rfl, SqL.of ht1, at_pos (by decide) rfl, three_line, fun u hu => ?_⟩
          have gu := same_new hu (.tup [V.str "thin", V.int ((dv (dg (l.drop (a + 5))) : Nat) : Int), V.ref p1])
          refine ⟨_, rfl, t1, _, 1, _, rfl, rfl, SqL.of (gu _ _ ht1), at_pos (by decide) rfl, two_line, fun v hv => ?_⟩
          exact q1 (.thin (dv (dg (l.drop (a + 5)))) x) e (by rw [un, bd hx, if_pos c4]) u v _ (g1.trans (gu.trans (same_new hv _))) ⟨p1, same_new hv _ _ _ upd_same, hp1.same (gu.trans (same_new hv _))⟩ upd_same
        · refine ifT (by rw [decide_eq_false c4]; rfl) ?_
          exact q0 (by rw [un, bd hx, if_neg c4]) H1 g1
      · refine ⟨_, rfl, rfl, _, rfl, ifT (decide_eq_true rfl) ?_⟩
        exact iteT (q0 (by rw [un, hx]; rfl) H1 g1)
    refine ifF (by rw [lit_thin, str_dec]; exact decide_eq_false c3) ?_
    refine ⟨_, rfl, two_line, fun tp htp => ?_⟩
    have gt := same_new htp (.lst [V.str "spare", V.str "base"])
    refine ⟨tp, _, rfl, .inl (SqL.of upd_same), rfl, rfl, _, rfl, ?_⟩
    have ein : (if false = true then !inV (V.str (S (lw (l.drop a)))) [V.str "spare", V.str "base"] else inV (V.str (S (lw (l.drop a)))) [V.str "spare", V.str "base"]) = (decide (lw (l.drop a) = tSpare) || decide (lw (l.drop a) = tBase)) := by
      rw [if_neg Bool.false_ne_true]
      exact word_in _
    by_cases c4 : lw (l.drop a) = tSpare ∨ lw (l.drop a) = tBase
    · refine ifT (ein.trans (by rw [Bool.or_eq_true, decide_eq_true_eq, decide_eq_true_eq]; exact c4)) ?_
      have un := lr_word (d := d) c1 c2 c3 c4
      refine ⟨_, rfl, _, rfl, _, rfl, _, rfl, sline (by omega), _, _, rfl, rfl, _, _, rfl, rfl, _, rfl, _, _, rfl, rfl, l, a + (lw (l.drop a)).length + 1, args3 (by rw [hs2]; omega) ed, hl, fun x e hx p1 t1 H1 g1 hp1 ht1 => ?_, fun hx H1 g1 => ?_⟩
      · refine ⟨_, rfl, rfl, _, rfl, ifF (dec_ne fun z => nomatch z) ?_⟩
        refine ⟨_, rfl, _, rfl, t1, _, 0, _, rfl, rfl, SqL.of ht1, at_pos (by decide) rfl, two_line, fun u hu => ?_⟩
        have gu := same_new hu (.tup [V.str (S (lw (l.drop a))), V.ref p1])
        refine ⟨_, rfl, t1, _, 1, _, rfl, rfl, SqL.of (gu _ _ ht1), at_pos (by decide) rfl, two_line, fun v hv => ?_⟩
        have hat := same_new hv (.lst [V.ref u, V.int (e : Nat)]) _ _ (upd_same (H := H1) (a := u) (o := .tup [V.str (S (lw (l.drop a))), V.ref p1]))
        by_cases c5 : lw (l.drop a) = tSpare
        · refine q1 (.spare x) e (by rw [un, bd hx, if_pos c5]) u v _ (gt.trans (g1.trans (gu.trans (same_new hv _)))) ⟨p1, ?_, hp1.same (gu.trans (same_new hv _))⟩ upd_same
          rw [hat, c5, ← lit_spare]
        · have c6 : lw (l.drop a) = tBase := c4.resolve_left c5
          refine q1 (.base x) e (by rw [un, bd hx, if_neg c5]) u v _ (gt.trans (g1.trans (gu.trans (same_new hv _)))) ⟨p1, ?_, hp1.same (gu.trans (same_new hv _))⟩ upd_same
          rw [hat, c6, ← lit_base]
      · refine ⟨_, rfl, rfl, _, rfl, ifT (decide_eq_true rfl) ?_⟩
        exact q0 (by rw [un, hx]; rfl) H1 (gt.trans g1)
    refine ifF (ein.trans (by rw [Bool.or_eq_false_iff, decide_eq_false_iff_not, decide_eq_false_iff_not]; exact ⟨fun z => c4 (.inl z), fun z => c4 (.inr z)⟩)) ?_
    have un := lr_take (d := d) c1 c2 c3 c4
    refine ⟨_, rfl, _, rfl, sline (by omega), _, _, rfl, rfl, _, rfl, ?_⟩
    rw [hs2]
    refine ite2 (fun c => ?_) (fun c => ?_)
    · have c5 := dec_lt c
      exact q0 (by rw [un, if_pos (.inl (by omega))]) _ gt
    · have c5 := not_lt c
      refine ⟨_, rfl, _, rfl, sline (by omega), _, _, rfl, rfl, _, rfl, ?_⟩
      rw [hs2]
      refine ite2 (fun c => ?_) (fun c => ?_)
      · have c6 := dec_lt c
        exact q0 (by rw [un, if_pos (.inr (by omega))]) _ gt
      · have c6 := not_lt c
        refine ⟨_, rfl, two_line, fun u hu => ?_⟩
        have gu := same_new hu (.tup [V.str "take", V.str (S (lw (l.drop a)))])
        refine ⟨_, rfl, _, rfl, _, rfl, sline (by omega), _, _, rfl, rfl, two_line, fun v hv => ?_⟩
        refine q1 (.take (lw (l.drop a))) (a + (lw (l.drop a)).length) (by rw [un, if_neg (by omega)]) u v _ (gt.trans (gu.trans (same_new hv _))) (same_new hv _ _ _ upd_same) ?_
        rw [upd_same, hs2]
        rfl
  · refine ifT (by rw [lit_empty, str_dec, decide_eq_false c2]; rfl) ?_
    have un := lr_scale (d := d) c1 c2
    refine ⟨_, rfl, _, rfl, _, rfl, _, rfl, sline (by omega), _, _, rfl, rfl, _, _, rfl, rfl, l, digits, a + (dg (l.drop a)).length + 1, args3s (by rw [hs1]; omega) lit_digits, hl, ?_⟩
    rw [run_dg, Int.toNat_natCast]
    have k3 := dg_len (l.drop (a + (dg (l.drop a)).length + 1))
    rw [List.length_drop] at k3
    have hs3 : (((S (dg (l.drop (a + (dg (l.drop a)).length + 1)))).length : Nat) : Int) = ((dg (l.drop (a + (dg (l.drop a)).length + 1))).length : Nat) := by rw [slen]
    refine ⟨_, rfl, _, rfl, _, rfl, _, rfl, sline (by omega), _, _, rfl, rfl, _, rfl, _, rfl, sline (by omega), _, _, rfl, rfl, _, _, rfl, rfl, _, rfl, _, _, rfl, rfl, l, a + (dg (l.drop a)).length + (dg (l.drop (a + (dg (l.drop a)).length + 1))).length + 4, args3 (by rw [hs1, hs3]; omega) ed, hl, fun x e hx p1 t1 H1 g1 hp1 ht1 => ?_, fun hx H1 g1 => ?_⟩
    · refine ⟨_, rfl, rfl, _, rfl, ifF (dec_ne fun z => nomatch z) ?_⟩
      refine ⟨_, rfl, dg (l.drop a), 1, 999, rfl, by omega, dg_all _, ?_⟩
      refine ⟨_, rfl, ?_⟩
      by_cases c4 : inr (dg (l.drop a)) 1 999
      · refine ifF (by rw [decide_eq_true c4]; rfl) ?_
        refine ⟨_, rfl, dg (l.drop (a + (dg (l.drop a)).length + 1)), 1, 999, rfl, by omega, dg_all _, ?_⟩
        refine ⟨_, rfl, ?_⟩
        by_cases c5 : inr (dg (l.drop (a + (dg (l.drop a)).length + 1))) 1 999
        · refine ifF (by rw [decide_eq_true c5]; rfl) ?_
          have hne : dg (l.drop (a + (dg (l.drop a)).length + 1)) ≠ [] := fun z => by have := c5.1.1; rw [z] at this; exact absurd this (by decide)
          refine ⟨_, rfl, _, _, rfl, num_ok (by omega) (dg_all _) c2, by rw [slen]; omega, _, rfl, _, _, rfl, num_ok (by omega) (dg_all _) hne, by rw [slen]; omega, _, rfl, t1, _, 0, _, rfl, rfl, SqL.of ht1, at_pos (by decide) rfl, line_ge (by show 4 ≤ _; omega), fun u hu => ?_⟩
          have gu := same_new hu (.tup [V.str "scale", V.int ((dv (dg (l.drop a)) : Nat) : Int), V.int ((dv (dg (l.drop (a + (dg (l.drop a)).length + 1))) : Nat) : Int), V.ref p1])
          refine ⟨_, rfl, t1, _, 1, _, rfl, rfl, SqL.of (gu _ _ ht1), at_pos (by decide) rfl, two_line, fun v hv => ?_⟩
          exact q1 (.scale (dv (dg (l.drop a))) (dv (dg (l.drop (a + (dg (l.drop a)).length + 1)))) x) e (by rw [un, bd hx, if_pos ⟨c4, c5⟩]) u v _ (g1.trans (gu.trans (same_new hv _))) ⟨p1, same_new hv _ _ _ upd_same, hp1.same (gu.trans (same_new hv _))⟩ upd_same
        · refine ifT (by rw [decide_eq_false c5]; rfl) ?_
          exact q0 (by rw [un, bd hx, if_neg (fun z => c5 z.2)]) H1 g1
      · refine ifT (by rw [decide_eq_false c4]; rfl) ?_
        exact iteT (q0 (by rw [un, bd hx, if_neg (fun z => c4 z.1)]) H1 g1)
    · refine ⟨_, rfl, rfl, _, rfl, ifT (decide_eq_true rfl) ?_⟩
      exact iteT (q0 (by rw [un, hx]; rfl) H1 g1)
theorem all_read (T : Txt mg) (F : Fun K "_law_read" "_law_read" s__law_read f fd) (m : mg "_law_read" = some (.ref f)) (b : Binds K fd ["text", "at", "deep"] []) (C__law_run : Cal P w K mg base 1 "_law_run" ["text", "at", "signs"] spRun) (C__law_in_range : Cal P w K mg base 1 "_law_in_range" ["word", "least", "most"] spInr) :
    ∀ d : Nat, Cal P w K mg base (d + 2) "_law_read" ["text", "at", "deep"] (spLr d)
  | 0 => ⟨f, fd, ok__law_read_0 F T, m, F.kp, b⟩
  | d + 1 => ⟨f, fd, ok__law_read F T C__law_run C__law_in_range (all_read T F m b C__law_run C__law_in_range d), m, F.kp, b⟩
end
end P66
namespace P66
open PySem PySem.Spec PyProof.Rows L2 SX EX
theorem kit1 {K : PySem.W.Frag} : PySem.W.kitOne K (.type "int") (.type "int") = some true := kit_ty (by decide +kernel)
theorem kit2 {K : PySem.W.Frag} : PySem.W.kitOne K (.type "int") (.type "bool") = some false := kit_ty (by decide +kernel)
theorem kit3 {K : PySem.W.Frag} : PySem.W.kitOne K (.type "str") (.type "str") = some true := kit_ty (by decide +kernel)
theorem kit4 {K : PySem.W.Frag} : PySem.W.kitOne K (.type "int") (.type "str") = some false := kit_ty (by decide +kernel)
theorem kit5 {K : PySem.W.Frag} : PySem.W.kitOne K (.type "tuple") (.type "str") = some false := kit_ty (by decide +kernel)
theorem kit6 {K : PySem.W.Frag} : PySem.W.kitOne K (.type "tuple") (.type "tuple") = some true := kit_ty (by decide +kernel)
theorem kit7 {K : PySem.W.Frag} : PySem.W.kitOne K (.type "int") (.type "tuple") = some false := kit_ty (by decide +kernel)
def spLaw_whole : Sp := fun vs H Q _ => ∃ i : Int, vs = [.int i] ∧ Q (.bl true) H
abbrev s__law_whole : Stmt := top 51
abbrev N__law_whole : List Str := ["value"]
theorem sc__law_whole : FnScope N__law_whole ["value"] (defScope s__law_whole) := ⟨rfl, rfl, rfl, by decide +kernel, rfl, by decide +kernel, by decide +kernel⟩
/-- told and due are the same data, at most n deep -/
inductive SameD (H : Hp) : Nat → V → V → Prop where
  | str (n : Nat) (x : Str) : SameD H n (.str x) (.str x)
  | int (n : Nat) (i : Int) : SameD H n (.int i) (.int i)
  | tup (n : Nat) (p q : Addr) (xs ys : List V) (hp : H p = some (.tup xs)) (hq : H q = some (.tup ys)) (hl : xs.length = ys.length) (h9 : xs.length ≤ 100)
      (h : ∀ (i : Nat) (x y : V), xs[i]? = some x → ys[i]? = some y → SameD H n x y) : SameD H (n + 1) (.ref p) (.ref q)
theorem SameD.same {H H' : Hp} (e : Same H H') {n : Nat} {x y : V} (h : SameD H n x y) : SameD H' n x y := by
  induction h with
  | str n x => exact .str n x
  | int n i => exact .int n i
  | tup n p q xs ys hp hq hl h9 h ih => exact .tup n p q xs ys (e _ _ hp) (e _ _ hq) hl h9 ih
theorem two_items {H : Hp} {n : Nat} {a b c d : V} (h1 : SameD H n a c) (h2 : SameD H n b d) : ∀ (i : Nat) (x y : V), [a, b][i]? = some x → [c, d][i]? = some y → SameD H n x y
  | 0, _, _, e1, e2 => by cases e1; cases e2; exact h1
  | 1, _, _, e1, e2 => by cases e1; cases e2; exact h2
  | i + 2, _, _, e1, _ => by simp at e1
theorem three_items {H : Hp} {n : Nat} {a b c d e f : V} (h1 : SameD H n a d) (h2 : SameD H n b e) (h3 : SameD H n c f) : ∀ (i : Nat) (x y : V), [a, b, c][i]? = some x → [d, e, f][i]? = some y → SameD H n x y
  | 0, _, _, e1, e2 => by cases e1; cases e2; exact h1
  | 1, _, _, e1, e2 => by cases e1; cases e2; exact h2
  | 2, _, _, e1, e2 => by cases e1; cases e2; exact h3
  | i + 3, _, _, e1, _ => by simp at e1
theorem four_items {H : Hp} {n : Nat} {a b c d a' b' c' d' : V} (h1 : SameD H n a a') (h2 : SameD H n b b') (h3 : SameD H n c c') (h4 : SameD H n d d') : ∀ (i : Nat) (x y : V), [a, b, c, d][i]? = some x → [a', b', c', d'][i]? = some y → SameD H n x y
  | 0, _, _, e1, e2 => by cases e1; cases e2; exact h1
  | 1, _, _, e1, e2 => by cases e1; cases e2; exact h2
  | 2, _, _, e1, e2 => by cases e1; cases e2; exact h3
  | 3, _, _, e1, e2 => by cases e1; cases e2; exact h4
  | i + 4, _, _, e1, _ => by simp at e1
/-- two plans that are one -/
theorem PlanAt.sameD {H : Hp} : ∀ {n : Nat} {pl : Plan} {p q : Addr}, pl.height ≤ n → PlanAt H pl p → PlanAt H pl q → SameD H n (.ref p) (.ref q)
  | 0, pl, p, q, h, _, _ => by have := height_pos pl; omega
  | n + 1, .take x, p, q, h, hp, hq => .tup n p q _ _ hp hq rfl (by simp) (two_items (.str n _) (.str n _))
  | n + 1, .join a b, p, q, h, ⟨pa, pb, hp, ha, hb⟩, ⟨qa, qb, hq, ha', hb'⟩ => by
    simp only [Plan.height] at h
    exact .tup n p q _ _ hp hq rfl (by simp) (three_items (.str n _) (PlanAt.sameD (by omega) ha ha') (PlanAt.sameD (by omega) hb hb'))
  | n + 1, .scale i j a, p, q, h, ⟨pa, hp, ha⟩, ⟨qa, hq, ha'⟩ => by
    simp only [Plan.height] at h
    exact .tup n p q _ _ hp hq rfl (by simp) (four_items (.str n _) (.int n _) (.int n _) (PlanAt.sameD (by omega) ha ha'))
  | n + 1, .spare a, p, q, h, ⟨pa, hp, ha⟩, ⟨qa, hq, ha'⟩ => by
    simp only [Plan.height] at h
    exact .tup n p q _ _ hp hq rfl (by simp) (two_items (.str n _) (PlanAt.sameD (by omega) ha ha'))
  | n + 1, .base a, p, q, h, ⟨pa, hp, ha⟩, ⟨qa, hq, ha'⟩ => by
    simp only [Plan.height] at h
    exact .tup n p q _ _ hp hq rfl (by simp) (two_items (.str n _) (PlanAt.sameD (by omega) ha ha'))
  | n + 1, .thin k a, p, q, h, ⟨pa, hp, ha⟩, ⟨qa, hq, ha'⟩ => by
    simp only [Plan.height] at h
    exact .tup n p q _ _ hp hq rfl (by simp) (three_items (.str n _) (.int n _) (PlanAt.sameD (by omega) ha ha'))
def spSame (n : Nat) : Sp := fun vs H Q _ => ∃ told due : V, vs = [told, due] ∧ SameD H n told due ∧ ∀ H', Same H H' → Q (.bl true) H'
abbrev s__law_same : Stmt := top 54
abbrev N__law_same : List Str := ["told", "due", "k"]
theorem sc__law_same : FnScope N__law_same ["told", "due"] (defScope s__law_same) := ⟨rfl, rfl, rfl, by decide +kernel, rfl, by decide +kernel, by decide +kernel⟩
section
variable {P : Program} {w : World} {K : PySem.W.Frag} {mg : Str → Option Value} {base : Heap} {f : Addr} {fd : FuncData}
theorem ok__law_whole (F : Fun K "_law_whole" "_law_whole" s__law_whole f fd) (T : Txt mg) : FnOk P w K mg base CX0 1 f fd ["value"] spLaw_whole := by
  refine F.ok sc__law_whole (fun vs H Q E h => ?_) (fun cdv A outer s H vs Q E hr h => ?_)
  · obtain ⟨i, rfl, _⟩ := h
    rfl
  obtain ⟨i, rfl, q⟩ := h
  refine ⟨_, (pss_one (ps_ret (pe_and (pe_callB call_isi (by rfl) T.b_isinstance (by decide +kernel) (pa_cons (pv 0) (pa_cons (pe_bltn (v := .ty "int") (by rfl) T.b_int (by decide +kernel) rfl) pa_nil))) (pe_one (pe_not (pe_callB call_isi (by rfl) T.b_isinstance (by decide +kernel) (pa_cons (pv 0) (pa_cons (pe_bltn (v := .ty "bool") (by rfl) T.b_bool (by decide +kernel) rfl) pa_nil)))))))), ?_⟩
  refine ⟨_, rfl, _, _, _, _, true, rfl, .ty _, .base (.int i), kit1, true, rfl, ifT rfl ?_⟩
  exact ⟨_, rfl, _, _, _, _, false, rfl, .ty _, .base (.int i), kit2, false, rfl, q⟩
def spSub (n : Nat) : Sp := fun vs H Q E => ∃ m, n = m + 1 ∧ spSame m vs H Q E
theorem ok__law_same {n : Nat} (F : Fun K "_law_same" "_law_same" s__law_same f fd) (T : Txt mg) (C__law_whole : Cal P w K mg base 1 "_law_whole" ["value"] spLaw_whole)
    (C__law_same : Cal P w K mg base (n + 1) "_law_same" ["told", "due"] (spSub n)) : FnOk P w K mg base CX0 (n + 2) f fd ["told", "due"] (spSame n) := by
  refine F.ok sc__law_same (fun vs H Q E h => ?_) (fun cdv A outer s H vs Q E hr h => ?_)
  · obtain ⟨told, due, rfl, _⟩ := h
    rfl
  obtain ⟨told, due, rfl, hs, q⟩ := h
  refine ⟨_, (pss_cons (ps_if (pt_val (pe_callB call_isi (by rfl) T.b_isinstance (by decide +kernel) (pa_cons (pv 1) (pa_cons (pe_bltn (v := .ty "str") (by rfl) T.b_str (by decide +kernel) rfl) pa_nil)))) (pss_one (ps_ret (pe_and (pe_callB call_isi (by rfl) T.b_isinstance (by decide +kernel) (pa_cons (pv 0) (pa_cons (pe_bltn (v := .ty "str") (by rfl) T.b_str (by decide +kernel) rfl) pa_nil))) (pe_one (pe_cmpR op_eq (pv 0) (pv 1) (nomark _)))))) pss_nil)
  (pss_cons (ps_if (pt_not (pt_val (pe_callB call_isi (by rfl) T.b_isinstance (by decide +kernel) (pa_cons (pv 1) (pa_cons (pe_bltn (v := .ty "tuple") (by rfl) T.b_tuple (by decide +kernel) rfl) pa_nil))))) (pss_one (ps_ret (pe_and (pe_cal C__law_whole (hr.mono (by omega)) rfl (pa_cons (pv 0) pa_nil)) (pe_one (pe_cmpR op_eq (pv 0) (pv 1) (nomark _)))))) pss_nil)
  (pss_cons (ps_if (PW.pt (pw_or (pt_not (pt_val (pe_callB call_isi (by rfl) T.b_isinstance (by decide +kernel) (pa_cons (pv 0) (pa_cons (pe_bltn (v := .ty "tuple") (by rfl) T.b_tuple (by decide +kernel) rfl) pa_nil))))) (pw_or1 (pt_cmpR op_ne (pe_callB call_len_seq (by rfl) T.b_len PySem.boot_len (pa_cons (pv 0) pa_nil)) (pe_callB call_len_seq (by rfl) T.b_len PySem.boot_len (pa_cons (pv 1) pa_nil)) (nomark _))))) (pss_one (ps_ret pe_bl)) pss_nil)
  (pss_one (ps_ret (pe_callB (cr_all rfl) (by rfl) T.b_all (by decide +kernel) (pa_cons (pe_lc (own := [("k", 2)]) (g := gName 2) (tt := tYes) (by rfl) sc__law_same.nd (pi_range1 (by rfl) T.b_range (pa_cons (pe_callB call_len_seq (by rfl) T.b_len PySem.boot_len (pa_cons (pv 1) pa_nil)) pa_nil)) (blkOk_by (N := N__law_same) (sc := defScope s__law_same) (by decide +kernel)) (fun _ _ _ _ _ => pg_name (i := 2) sc__law_same.nd rfl (Or.inl rfl)) (fun _ _ _ _ _ => pts_nil) (fun _ _ _ _ _ => (pe_cal C__law_same (hr.mono (by omega)) rfl (pa_cons (pe_ix (ix_tupK (K := K) rfl) (pv 0) (pv 2) (fun _ _ => rfl)) (pa_cons (pe_ix (ix_tupK (K := K) rfl) (pv 1) (pv 2) (fun _ _ => rfl)) pa_nil))))) pa_nil))))))), ?_⟩
  cases hs with
  | str _ x =>
    refine ⟨_, rfl, _, _, _, _, true, rfl, .ty _, .base (.str x), kit3, true, rfl, ifT rfl ?_⟩
    refine ⟨_, rfl, _, _, _, _, true, rfl, .ty _, .base (.str x), kit3, true, rfl, ifT rfl ?_⟩
    refine ⟨_, rfl, _, rfl, rfl, ?_⟩
    rw [decide_eq_true rfl]
    exact q H (Same.refl H)
  | int _ i =>
    refine ⟨_, rfl, _, _, _, _, false, rfl, .ty _, .base (.int i), kit4, false, rfl, ifF rfl ?_⟩
    refine ⟨_, rfl, _, _, _, _, false, rfl, .ty _, .base (.int i), kit7, false, rfl, ifT rfl ?_⟩
    refine ⟨_, rfl, i, rfl, true, rfl, ifT rfl ?_⟩
    refine ⟨_, rfl, _, rfl, rfl, ?_⟩
    rw [decide_eq_true rfl]
    exact q H (Same.refl H)
  | tup m p r xs ys hp hq hl h9 hi =>
    refine ⟨_, rfl, _, _, _, _, false, rfl, .ty _, .base (.tup hq), kit5, false, rfl, ifF rfl ?_⟩
    refine ⟨_, rfl, _, _, _, _, true, rfl, .ty _, .base (.tup hq), kit6, true, rfl, ifF rfl ?_⟩
    refine ⟨_, rfl, _, _, _, _, true, rfl, .ty _, .base (.tup hp), kit6, true, rfl, ifF rfl ?_⟩
    refine ⟨_, rfl, p, xs, rfl, .inr (SqT.of hp), _, rfl, r, ys, rfl, .inr (SqT.of hq), rfl, _, rfl, ifF (by rw [hl, decide_eq_true rfl]; rfl) ?_⟩
    refine ⟨_, rfl, r, ys, rfl, .inr (SqT.of hq), _, rfl, by omega, by omega, fun D hD => ?_⟩
    refine lc_range (lo := 0) (n := ys.length) (fun i H' => Same H H' ∧ H' D = some (.lst (List.replicate i (V.bl true)))) ⟨same_new hD _, upd_same⟩ ?_ ?_
    · rintro i H1 hlt ⟨g1, hd1⟩
      refine ⟨rfl, lc_yes ?_⟩
      obtain ⟨x, hx⟩ : ∃ x, xs[i]? = some x := ⟨xs[i]'(by omega), List.getElem?_eq_getElem (by omega)⟩
      obtain ⟨y, hy⟩ : ∃ y, ys[i]? = some y := ⟨ys[i], List.getElem?_eq_getElem (by omega)⟩
      have ei : ((0 : Int) + (i : Nat)).toNat = i := by omega
      refine ⟨_, rfl, _, rfl, p, xs, _, x, rfl, rfl, SqT.of (g1 _ _ hp), at_pos (by omega) (by rw [ei]; exact hx), ?_⟩
      refine ⟨_, rfl, _, rfl, r, ys, _, y, rfl, rfl, SqT.of (g1 _ _ hq), at_pos (by omega) (by rw [ei]; exact hy), ?_⟩
      refine ⟨m, rfl, x, y, rfl, (hi i x y hx hy).same g1, fun H2 g2 => ?_⟩
      refine ⟨_, g2 _ _ hd1, by rw [List.length_replicate]; exact small1000 (by omega), ?_, ?_⟩
      · intro b o hb
        have hne : b ≠ D := fun e => by
          rw [e, hD] at hb
          cases hb
        rw [upd_ne hne]
        exact g2 _ _ (g1 _ _ hb)
      · rw [upd_same, List.replicate_succ']
    · rintro H1 ⟨g1, hd1⟩
      refine ⟨D, List.replicate ys.length true, rfl, SqL.of (by rw [hd1, List.map_replicate]), ?_⟩
      have ha : (List.replicate ys.length true).all id = true := by
        rw [List.all_eq_true]
        intro x hx
        rw [List.eq_of_mem_replicate hx]
        rfl
      rw [ha]
      exact q H1 g1
theorem all_same (T : Txt mg) (F : Fun K "_law_same" "_law_same" s__law_same f fd) (m : mg "_law_same" = some (.ref f)) (b : Binds K fd ["told", "due"] []) (C__law_whole : Cal P w K mg base 1 "_law_whole" ["value"] spLaw_whole) :
    ∀ n : Nat, Cal P w K mg base (n + 2) "_law_same" ["told", "due"] (spSame n)
  | 0 => by
    have no : ∀ vs H Q E, ¬ spSub 0 vs H Q E := fun vs H Q E ⟨k, e, _⟩ => by omega
    exact ⟨f, fd, ok__law_same F T C__law_whole ⟨f, fd, ⟨fun vs H Q E h => absurd h (no vs H Q E), fun A outer s H args us vs Q E _ _ _ _ h => absurd h (no vs H Q E)⟩, m, F.kp, b⟩, m, F.kp, b⟩
  | n + 1 => by
    obtain ⟨f', fd', G, m', kp', b'⟩ := all_same T F m b C__law_whole n
    exact ⟨f, fd, ok__law_same F T C__law_whole ⟨f', fd', G.imp (fun vs H Q E ⟨k, e, h⟩ => by
      have : n = k := by omega
      subst this
      exact h), m', kp', b'⟩, m, F.kp, b⟩
end
end P66
namespace P66
open PySem PySem.Spec PyProof.Rows L2 SX EX
/-! ### _law_cell: some int -/
def spCell (K : PySem.W.Frag) : Sp := fun vs H Q _ => ∃ (a : Addr) (ns : List Int) (k : Int), vs = [.ref a, .int k] ∧ SqL K H a (ns.map V.int) ∧ 0 ≤ k ∧ k ≤ 1000 ∧ ∀ i : Int, Q (.int i) H
abbrev s__law_cell : Stmt := top 52
abbrev N__law_cell : List Str := ["script", "k", "seed", "cell"]
theorem sc__law_cell : FnScope N__law_cell ["script", "k"] (defScope s__law_cell) := ⟨rfl, rfl, rfl, by decide +kernel, rfl, by decide +kernel, by decide +kernel⟩
/-- digits: each is below its size -/
abbrev Dig (ns zs : List Int) : Prop := Paired (fun n z => 0 ≤ n ∧ n < z) ns zs
theorem Dig.snoc : ∀ {ns zs : List Int} {n z : Int}, Dig ns zs → 0 ≤ n → n < z → Dig (ns ++ [n]) (zs ++ [z])
  | _, _, _, _, .nil, h1, h2 => .cons ⟨h1, h2⟩ .nil
  | _, _, _, _, .cons r t, h1, h2 => .cons r (Dig.snoc t h1 h2)
theorem Dig.get : ∀ {ns zs : List Int} {i : Nat} {z : Int}, Dig ns zs → zs[i]? = some z → ∃ n, ns[i]? = some n ∧ 0 ≤ n ∧ n < z
  | _, _, _, _, .nil, e => by simp at e
  | _, _, 0, _, .cons r _, e => by cases e; exact ⟨_, rfl, r.1, r.2⟩
  | _, _, i + 1, z, .cons _ t, e => by
    obtain ⟨n, h1, h2⟩ := Dig.get (i := i) (z := z) t (by simpa using e)
    exact ⟨n, by simpa using h1, h2⟩
theorem Dig.len {ns zs : List Int} (d : Dig ns zs) : ns.length = zs.length := Paired.length d
theorem take_snoc {α : Type} {l : List α} {i : Nat} {x : α} (h : l[i]? = some x) : l.take (i + 1) = l.take i ++ [x] := by
  rw [List.take_add_one, h]
  rfl
theorem map_int {ns : List Int} {i : Nat} {x : V} (h : (ns.map V.int)[i]? = some x) : ∃ z, ns[i]? = some z ∧ x = .int z := by
  rw [List.getElem?_map] at h
  cases e : ns[i]? with
  | none => rw [e] at h; cases h
  | some z => rw [e] at h; exact ⟨z, rfl, (Option.some.inj h).symm⟩
theorem int_at {ns : List Int} {i : Nat} {z : Int} (h : ns[i]? = some z) : (ns.map V.int)[i]? = some (.int z) := by
  rw [List.getElem?_map, h]
  rfl
theorem snoc_int (ns : List Int) (n : Int) : ns.map V.int ++ [V.int n] = (ns ++ [n]).map V.int := by
  rw [List.map_append]
  rfl
/-! ### _law_digits: one digit for each size -/
def spDigits (K : PySem.W.Frag) : Sp := fun vs H Q _ => ∃ (c : Int) (a : Addr) (zs : List Int), vs = [.int c, .ref a] ∧ SqL K H a (zs.map V.int) ∧ zs.length ≤ 1000 ∧ (∀ z ∈ zs, 0 < z ∧ z.natAbs < 2 ^ 2000) ∧
  ∀ p ns, H p = none → Dig ns zs → Q (.ref p) (upd H p (.lst (ns.map V.int)))
abbrev s__law_digits : Stmt := top 53
abbrev N__law_digits : List Str := ["cell", "sizes", "row", "rest", "size", "seed", "k", "twice"]
theorem sc__law_digits : FnScope N__law_digits ["cell", "sizes"] (defScope s__law_digits) := ⟨rfl, rfl, rfl, by decide +kernel, rfl, by decide +kernel, by decide +kernel⟩
section
variable {P : Program} {w : World} {K : PySem.W.Frag} {mg : Str → Option Value} {base : Heap} {f : Addr} {fd : FuncData}
theorem ok__law_cell (F : Fun K "_law_cell" "_law_cell" s__law_cell f fd) (T : Txt mg) : FnOk P w K mg base CX0 1 f fd ["script", "k"] (spCell K) := by
  refine F.ok sc__law_cell (fun vs H Q E h => ?_) (fun cdv A outer s H vs Q E hr h => ?_)
  · obtain ⟨a, ns, k, rfl, _⟩ := h
    rfl
  obtain ⟨a, ns, k, rfl, hs, h0, h1, q⟩ := h
  refine ⟨_, (pss_cons (ps_if (pt_cmpR op_lt (pv 1) (pe_callB call_len_seq (by rfl) T.b_len PySem.boot_len (pa_cons (pv 0) pa_nil)) (nomark _)) (pss_one (ps_ret (pe_ix ix_list (pv 0) (pv 1) (fun _ _ => rfl)))) pss_nil)
  (pss_cons (ps_set (i := 2) sc__law_cell.nd rfl (Or.inl rfl) pe_int)
  (pss_cons (ps_for PassesOwn.never rfl (pi_list (pv 0)) (pg_name (i := 3) sc__law_cell.nd rfl (Or.inl rfl)) (pss_one (ps_set (i := 2) sc__law_cell.nd rfl (Or.inl rfl) (pe_op op_mod (pe_callTy call_int1 (by rfl) T.b_int (by decide +kernel) (pa_cons (pe_op op_add (pe_op op_mul (pv 2) pe_int) (pe_op op_mod (pe_callTy call_int1 (by rfl) T.b_int (by decide +kernel) (pa_cons (pv 3) pa_nil)) pe_int)) pa_nil)) pe_int))))
  (pss_one (ps_ret (pe_op op_mod (pe_callTy call_int1 (by rfl) T.b_int (by decide +kernel) (pa_cons (pe_op op_mul (pe_op op_mul (pe_op op_add (pv 2) pe_int) (pe_op op_add (pv 1) pe_int)) pe_int) pa_nil)) pe_int)))))), ?_⟩
  refine ⟨_, rfl, _, rfl, a, _, rfl, .inl hs, _, _, rfl, rfl, _, rfl, ?_⟩
  refine ite2 (fun c => ?_) (fun c => ?_)
  · have c' : k < (((ns.map V.int).length : Nat) : Int) := of_decide_eq_true c
    rw [List.length_map] at c'
    obtain ⟨z, hz⟩ : ∃ z, ns[k.toNat]? = some z := ⟨ns[k.toNat]'(by omega), List.getElem?_eq_getElem (by omega)⟩
    exact ⟨_, rfl, _, rfl, a, _, k, _, rfl, rfl, hs, at_pos h0 (int_at hz), q z⟩
  · refine ⟨_, rfl, a, rfl, ⟨_, hs⟩, for_list (K := K) (a := a) (xs := ns.map V.int) (fun i σ H' => ∃ (z : Int) (v : Option V), σ = [some (.ref a), some (.int k), some (.int z), v] ∧ H' = H)
      ⟨17, none, rfl, rfl⟩ (fun i σ H' _ ⟨_, _, _, e⟩ => by rw [e]; exact hs) ?_ ?_⟩
    · rintro i y σ H' hi ⟨z, v, rfl, rfl⟩
      obtain ⟨x, hx, rfl⟩ := map_int hi
      refine ⟨_, rfl, _, _, rfl, rfl, .inr (by decide), _, rfl, .inl ⟨_, rfl, _, _, rfl, rfl, (by show (0 : Int) < 1000003; decide), _, _, rfl, rfl, .inl ⟨_, rfl, _, _, rfl, rfl, (by show (0 : Int) < 1000003; decide), ?_⟩⟩⟩
      exact ⟨_, _, rfl, rfl⟩
    · rintro σ H' ⟨z, v, rfl, rfl⟩
      refine ⟨_, rfl, _, _, rfl, rfl, _, rfl, _, _, rfl, rfl, _, _, rfl, rfl, .inr (by omega), _, _, rfl, rfl, .inr (by decide), .inl ⟨_, rfl, _, _, rfl, rfl, (by show (0 : Int) < 2147483647; decide), ?_⟩⟩
      exact q _
theorem ok__law_digits (F : Fun K "_law_digits" "_law_digits" s__law_digits f fd) (T : Txt mg) : FnOk P w K mg base CX0 1 f fd ["cell", "sizes"] (spDigits K) := by
  refine F.ok sc__law_digits (fun vs H Q E h => ?_) (fun cdv A outer s H vs Q E hr h => ?_)
  · obtain ⟨c, a, zs, rfl, _⟩ := h
    rfl
  obtain ⟨c, a, zs, rfl, hs, hz9, hz, q⟩ := h
  refine ⟨_, (pss_cons (ps_set (i := 2) sc__law_digits.nd rfl (Or.inl rfl) (pe_lst pa_nil))
  (pss_cons (ps_set (i := 3) sc__law_digits.nd rfl (Or.inl rfl) (pe_callTy call_int1 (by rfl) T.b_int (by decide +kernel) (pa_cons (pv 0) pa_nil)))
  (pss_cons (ps_if (pt_cmpR op_ge (pv 3) (pe_op op_pow pe_int pe_int) (nomark _)) (pss_cons (ps_set (i := 3) sc__law_digits.nd rfl (Or.inl rfl) (pe_op op_sub (pv 3) (pe_op op_pow pe_int pe_int)))
  (pss_cons (ps_for PassesOwn.never rfl (pi_list (pv 1)) (pg_name (i := 4) sc__law_digits.nd rfl (Or.inl rfl)) (pss_cons (ps_expr (pe_bm PySem.F.plainAttrs_list PySem.F.slot_list_append PySem.F.type_list_append mt_append (pv 2) (pa_cons (pe_op op_mod (pe_callTy call_int1 (by rfl) T.b_int (by decide +kernel) (pa_cons (pv 3) pa_nil)) (pv 4)) pa_nil)))
  (pss_one (ps_set (i := 3) sc__law_digits.nd rfl (Or.inl rfl) (pe_op op_fdivW (pe_callTy call_int1 (by rfl) T.b_int (by decide +kernel) (pa_cons (pv 3) pa_nil)) (pv 4))))))
  (pss_one (ps_ret (pv 2))))) pss_nil)
  (pss_cons (ps_set (i := 5) sc__law_digits.nd rfl (Or.inl rfl) (pe_op op_mod (pe_callTy call_int1 (by rfl) T.b_int (by decide +kernel) (pa_cons (pv 3) pa_nil)) pe_int))
  (pss_cons (ps_for PassesOwn.never rfl (pi_range1 (by rfl) T.b_range (pa_cons (pe_callB call_len_seq (by rfl) T.b_len PySem.boot_len (pa_cons (pv 1) pa_nil)) pa_nil)) (pg_name (i := 6) sc__law_digits.nd rfl (Or.inl rfl)) (pss_cons (ps_set (i := 5) sc__law_digits.nd rfl (Or.inl rfl) (pe_op op_mod (pe_callTy call_int1 (by rfl) T.b_int (by decide +kernel) (pa_cons (pe_op op_add (pe_op op_add (pe_op op_mul (pv 5) pe_int) (pe_op op_mul pe_int (pv 6))) pe_int) pa_nil)) pe_int))
  (pss_cons (ps_set (i := 7) sc__law_digits.nd rfl (Or.inl rfl) (pe_op op_mod (pe_callTy call_int1 (by rfl) T.b_int (by decide +kernel) (pa_cons (pe_op op_mul (pv 5) (pe_op op_add (pe_op op_fdiv (pv 5) pe_int) pe_int)) pa_nil)) pe_int))
  (pss_one (ps_expr (pe_bm PySem.F.plainAttrs_list PySem.F.slot_list_append PySem.F.type_list_append mt_append (pv 2) (pa_cons (pe_op op_mod (pe_op op_fdiv (pv 7) pe_int) (pe_ix ix_list (pv 1) (pv 6) (fun _ _ => rfl))) pa_nil)))))))
  (pss_one (ps_ret (pv 2)))))))), ?_⟩
  have keep : ∀ {p : Addr} {o : HO}, H p = none → SqL K (upd H p o) a (zs.map V.int) := fun hp => (same_new hp _).seq hs
  refine ⟨(by show 0 ≤ sizeLine; exact Nat.zero_le _), fun p hp => ?_⟩
  refine ⟨_, rfl, .inl ⟨_, rfl, ?_⟩⟩
  refine ⟨_, rfl, _, _, rfl, rfl, ⟨by decide, by decide, by decide⟩, _, _, rfl, rfl, _, rfl, ?_⟩
  refine ite2 (fun _ => ?_) (fun _ => ?_)
  · refine ⟨_, rfl, _, _, rfl, rfl, ⟨by decide, by decide, by decide⟩, _, _, rfl, rfl, ?_⟩
    refine ⟨_, rfl, a, rfl, ⟨_, keep hp⟩, for_list (K := K) (a := a) (xs := zs.map V.int) (fun i σ H' => ∃ (z : Int) (v : Option V) (ns : List Int), σ = [some (.int c), some (.ref a), some (.ref p), some (.int z), v, none, none, none] ∧ H' = upd H p (.lst (ns.map V.int)) ∧ Dig ns (zs.take i))
      ⟨_, none, [], rfl, rfl, .nil⟩ (fun i σ H' _ ⟨_, _, _, _, e, _⟩ => by rw [e]; exact keep hp) ?_ ?_⟩
    · rintro i y σ H' hi ⟨z, v, ns, rfl, rfl, hd⟩
      obtain ⟨x, hx, rfl⟩ := map_int hi
      have hx2 := hz x (List.mem_of_getElem? hx)
      have hlen : ns.length ≤ 1000 := by
        have := hd.len
        rw [List.length_take] at this
        omega
      refine ⟨_, rfl, .inl ⟨rfl, _, SqL.of upd_same⟩, _, rfl, .inl ⟨_, rfl, _, rfl, _, _, rfl, rfl, hx2.1, p, _, _, rfl, rfl, upd_same, by rw [List.length_map]; exact small1000 hlen, ?_⟩⟩
      refine ⟨_, rfl, .inl ⟨_, rfl, _, rfl, _, _, rfl, rfl, wide_div hx2.1 hx2.2 (by decide) (by decide), ?_⟩⟩
      exact ⟨_, _, ns ++ [z % x], rfl, by rw [upd_upd, snoc_int], by rw [take_snoc hx]; exact hd.snoc (Int.emod_nonneg _ (by omega)) (Int.emod_lt_of_pos _ hx2.1)⟩
    · rintro σ H' ⟨z, v, ns, rfl, rfl, hd⟩
      rw [List.length_map, List.take_length] at hd
      exact ⟨_, rfl, q p ns hp hd⟩
  · refine ⟨_, rfl, .inl ⟨_, rfl, _, _, rfl, rfl, (by show (0 : Int) < 2147483629; decide), ?_⟩⟩
    refine ⟨_, rfl, a, _, rfl, .inl (keep hp), _, rfl, by rw [List.length_map]; omega, by rw [List.length_map]; omega, for_range (lo := 0) (n := (((zs.map V.int).length : Nat) : Int).toNat)
      (fun i σ H' => ∃ (sd : Int) (v6 v7 : Option V) (r : Int) (ns : List Int), σ = [some (.int c), some (.ref a), some (.ref p), some (.int r), none, some (.int sd), v6, v7] ∧ 0 ≤ sd ∧ sd < 2147483648 ∧ H' = upd H p (.lst (ns.map V.int)) ∧ Dig ns (zs.take i))
      ⟨_, none, none, _, [], rfl, Int.emod_nonneg _ (by decide), Int.lt_trans (Int.emod_lt_of_pos _ (by decide)) (by decide), rfl, .nil⟩ ?_ ?_⟩
    · rintro i σ H' hi ⟨sd, v6, v7, r, ns, rfl, hs0, hs1, rfl, hd⟩
      rw [Int.toNat_natCast, List.length_map] at hi
      obtain ⟨x, hx⟩ : ∃ x, zs[i]? = some x := ⟨zs[i], List.getElem?_eq_getElem hi⟩
      have hx2 := hz x (List.mem_of_getElem? hx)
      have hlen : ns.length ≤ 1000 := by
        have := hd.len
        rw [List.length_take] at this
        omega
      refine ⟨_, rfl, _, _, rfl, rfl, .inr (by decide), _, rfl, _, _, rfl, rfl, .inl (by decide), _, _, rfl, rfl, _, _, rfl, rfl, .inl ⟨_, rfl, _, _, rfl, rfl, (by show (0 : Int) < 2147483647; decide), ?_⟩⟩
      have b0 : 0 ≤ (sd * 48271 + 974711 * (0 + (i : Int)) + 12345) % 2147483647 := Int.emod_nonneg _ (by decide)
      have b1 : (sd * 48271 + 974711 * (0 + (i : Int)) + 12345) % 2147483647 < 2147483648 := Int.lt_trans (Int.emod_lt_of_pos _ (by decide)) (by decide)
      refine ⟨_, rfl, _, rfl, _, _, rfl, rfl, ⟨by decide, by decide⟩, _, _, rfl, rfl, _, _, rfl, rfl, .inl ⟨Int.lt_of_lt_of_le (by decide) b0, Int.lt_trans b1 (by decide)⟩, .inl ⟨_, rfl, _, _, rfl, rfl, (by show (0 : Int) < 2147483629; decide), ?_⟩⟩
      refine ⟨_, rfl, .inl ⟨rfl, _, SqL.of upd_same⟩, _, rfl, _, _, rfl, rfl, ⟨by decide, by decide⟩, _, rfl, _, rfl, a, _, _, _, rfl, rfl, keep hp, at_pos (by omega) (int_at (by rw [show ((0 : Int) + (i : Nat)).toNat = i by omega]; exact hx)), _, _, rfl, rfl, hx2.1, p, _, _, rfl, rfl, upd_same, by rw [List.length_map]; exact small1000 hlen, ?_⟩
      exact ⟨_, _, _, r, _, rfl, b0, b1, by rw [upd_upd, snoc_int], by rw [take_snoc hx]; exact hd.snoc (Int.emod_nonneg _ (by omega)) (Int.emod_lt_of_pos _ hx2.1)⟩
    · rintro σ H' ⟨sd, v6, v7, r, ns, rfl, hs0, hs1, rfl, hd⟩
      rw [Int.toNat_natCast, List.length_map, List.take_length] at hd
      exact ⟨_, rfl, q p ns hp hd⟩
end
end P66
namespace P66
open PySem PySem.Spec PyProof.Rows L2 SX EX
section
variable {P : Program} {w : World} {K : PySem.W.Frag} {mg : Str → Option Value} {base : Heap} {f : Addr} {fd : FuncData} {cB cC : Addr}
def spPlanOf : Sp := fun vs H Q _ => ∃ l : List Nat, vs = [.str (S l)] ∧ l.length ≤ 600 ∧ (∀ pl, due l = some pl → ∀ p H', Same H H' → PlanAt H' pl p → Q (.ref p) H') ∧ (due l = none → ∀ H', Same H H' → Q .non H')
abbrev s__law_plan_of : Stmt := top 62
abbrev N__law_plan_of : List Str := ["text", "found"]
theorem sc__law_plan_of : FnScope N__law_plan_of ["text"] (defScope s__law_plan_of) := ⟨rfl, rfl, rfl, by decide +kernel, rfl, by decide +kernel, by decide +kernel⟩
theorem ok__law_plan_of (F : Fun K "_law_plan_of" "_law_plan_of" s__law_plan_of f fd) (T : Txt mg) (C__law_read : Cal P w K mg base 14 "_law_read" ["text", "at", "deep"] (spLr 12)) (C__law_many : Cal P w K mg base 12 "_law_many" ["plan"] (spTuples 12)) (C__law_written : Cal P w K mg base 13 "_law_written" ["plan"] (spFmt 13)) :
    FnOk P w K mg base CX0 15 f fd ["text"] spPlanOf := by
  refine F.ok sc__law_plan_of (fun vs H Q E h => ?_) (fun cdv A outer s H vs Q E hr h => ?_)
  · obtain ⟨l, rfl, _⟩ := h
    rfl
  obtain ⟨l, rfl, hl, q1, q0⟩ := h
  refine ⟨_, (pss_cons (ps_set (i := 1) sc__law_plan_of.nd rfl (Or.inl rfl) (pe_cal C__law_read (hr.mono (by omega)) rfl (pa_cons (pv 0) (pa_cons pe_int (pa_cons pe_int pa_nil)))))
  (pss_cons (ps_if (PW.pt (pw_or (pt_cmpR op_isN (pv 1) pe_non (nomark _)) (pw_or (pt_cmpR op_gt (pe_cal C__law_many (hr.mono (by omega)) rfl (pa_cons (pe_ix ix_list (pv 1) pe_int (fun _ _ => rfl)) pa_nil)) pe_int (nomark _)) (pw_or1 (pt_cmpR op_ne (pe_cal C__law_written (hr.mono (by omega)) rfl (pa_cons (pe_ix ix_list (pv 1) pe_int (fun _ _ => rfl)) pa_nil)) (pv 0) (nomark _)))))) (pss_one (ps_ret pe_non)) pss_nil)
  (pss_one (ps_ret (pe_ix ix_list (pv 1) pe_int (fun _ _ => rfl)))))), ?_⟩
  have unf : ∀ x, lr 12 l 0 = some x → due l = if x.1.count > 40 ∨ fmt x.1 ≠ l then none else some x.1 := fun x e => by
    unfold due
    rw [bd e]
  refine ⟨_, rfl, l, 0, rfl, hl, fun x e hx p t H1 g1 hp ht => ?_, fun hx H1 g1 => ?_⟩
  · obtain ⟨g, hh⟩ := lr_good hx
    refine ⟨_, rfl, rfl, _, rfl, ifF (dec_ne fun z => nomatch z) ?_⟩
    refine ⟨_, rfl, t, _, 0, _, rfl, rfl, SqL.of ht, at_pos (by decide) rfl, x, p, rfl, hp, hh, _, _, rfl, rfl, _, rfl, ?_⟩
    refine ite2 (fun c => ?_) (fun c => ?_)
    · have c1 := dec_lt c
      exact q0 (by rw [unf _ hx, if_pos (.inl (by show x.count > 40; omega))]) H1 g1
    · have c1 := not_lt c
      have hc : x.count ≤ 40 := by omega
      refine ⟨_, rfl, t, _, 0, _, rfl, rfl, SqL.of ht, at_pos (by decide) rfl, x, p, rfl, hp, g, by omega, by omega, ?_⟩
      refine ⟨_, rfl, rfl, _, rfl, ?_⟩
      by_cases c2 : fmt x = l
      · refine ifF (by rw [str_dec, decide_eq_true c2]; rfl) ?_
        refine ⟨_, rfl, t, _, 0, _, rfl, rfl, SqL.of ht, at_pos (by decide) rfl, ?_⟩
        exact q1 x (by rw [unf _ hx, if_neg (fun z => z.elim (fun y => Nat.not_lt.mpr hc y) (fun y => y c2))]) p H1 g1 hp
      · refine ifT (by rw [str_dec, decide_eq_false c2]; rfl) ?_
        exact q0 (by rw [unf _ hx, if_pos (.inr c2)]) H1 g1
  · refine ⟨_, rfl, rfl, _, rfl, ifT (decide_eq_true rfl) ?_⟩
    exact q0 (by unfold due; rw [hx]; rfl) H1 g1
/-! ### _law_is_bad: of a made error, of the caught one -/
def spBad (cB : Addr) : Sp := fun vs H Q _ => ∃ a : Addr, vs = [.ref a] ∧ H a = some (ExO (.ref cB) a) ∧ ∀ H', Same H H' → Q (.bl true) H'
abbrev s__law_is_bad : Stmt := top 67
abbrev N__law_is_bad : List Str := ["error"]
theorem sc__law_is_bad : FnScope N__law_is_bad ["error"] (defScope s__law_is_bad) := ⟨rfl, rfl, rfl, by decide +kernel, rfl, by decide +kernel, by decide +kernel⟩
theorem any0 {t : Value} : PySem.W.kitAny K t [] = some false := rfl
theorem any1 {t c : Value} {cs : List Value} (h : PySem.W.kitOne K t c = some false) (hr : PySem.W.kitAny K t cs = some false) : PySem.W.kitAny K t (c :: cs) = some false := by
  show (match PySem.W.kitOne K t c with | some true => some true | some false => PySem.W.kitAny K t cs | none => none) = _
  rw [h]
  exact hr
theorem ok__law_is_bad (F : Fun K "_law_is_bad" "_law_is_bad" s__law_is_bad f fd) (T : Txt mg) (U : Err K mg cB cC) : FnOk P w K mg base CX0 1 f fd ["error"] (spBad cB) := by
  refine F.ok sc__law_is_bad (fun vs H Q E h => ?_) (fun cdv A outer s H vs Q E hr h => ?_)
  · obtain ⟨a, rfl, _⟩ := h
    rfl
  obtain ⟨a, rfl, ha, q⟩ := h
  obtain ⟨a_BadBundle, G_BadBundle, k_BadBundle⟩ := U.n_BadBundle
  obtain ⟨a_BadIndex, G_BadIndex, k_BadIndex⟩ := U.n_BadIndex
  obtain ⟨a_BadNotation, G_BadNotation, k_BadNotation⟩ := U.n_BadNotation
  obtain ⟨a_BadPick, G_BadPick, k_BadPick⟩ := U.n_BadPick
  obtain ⟨a_BadPrices, G_BadPrices, k_BadPrices⟩ := U.n_BadPrices
  obtain ⟨a_BadRow, G_BadRow, k_BadRow⟩ := U.n_BadRow
  obtain ⟨a_BadStep, G_BadStep, k_BadStep⟩ := U.n_BadStep
  obtain ⟨a_BadTie, G_BadTie, k_BadTie⟩ := U.n_BadTie
  obtain ⟨a_BadWeight, G_BadWeight, k_BadWeight⟩ := U.n_BadWeight
  obtain ⟨a_BelowZero, G_BelowZero, k_BelowZero⟩ := U.n_BelowZero
  obtain ⟨a_CountsDiffer, G_CountsDiffer, k_CountsDiffer⟩ := U.n_CountsDiffer
  obtain ⟨a_NoSolution, G_NoSolution, k_NoSolution⟩ := U.n_NoSolution
  obtain ⟨a_NoTie, G_NoTie, k_NoTie⟩ := U.n_NoTie
  obtain ⟨a_NotSquare, G_NotSquare, k_NotSquare⟩ := U.n_NotSquare
  obtain ⟨a_NotSymmetric, G_NotSymmetric, k_NotSymmetric⟩ := U.n_NotSymmetric
  obtain ⟨a_SharedPlace, G_SharedPlace, k_SharedPlace⟩ := U.n_SharedPlace
  obtain ⟨a_NothingToRedo, G_NothingToRedo, k_NothingToRedo⟩ := U.n_NothingToRedo
  obtain ⟨a_NothingToUndo, G_NothingToUndo, k_NothingToUndo⟩ := U.n_NothingToUndo
  obtain ⟨a_OutsideFence, G_OutsideFence, k_OutsideFence⟩ := U.n_OutsideFence
  obtain ⟨a_RunOver, G_RunOver, k_RunOver⟩ := U.n_RunOver
  obtain ⟨a_SamePlace, G_SamePlace, k_SamePlace⟩ := U.n_SamePlace
  obtain ⟨a_SizesDiffer, G_SizesDiffer, k_SizesDiffer⟩ := U.n_SizesDiffer
  obtain ⟨a_StepsLeft, G_StepsLeft, k_StepsLeft⟩ := U.n_StepsLeft
  obtain ⟨a_TakenIndex, G_TakenIndex, k_TakenIndex⟩ := U.n_TakenIndex
  obtain ⟨a_TooNear, G_TooNear, k_TooNear⟩ := U.n_TooNear
  obtain ⟨a_UnknownName, G_UnknownName, k_UnknownName⟩ := U.n_UnknownName
  obtain ⟨a_ZeroBottom, G_ZeroBottom, k_ZeroBottom⟩ := U.n_ZeroBottom
  refine ⟨_, (pss_cons (ps_if (PW.pt (pw_or (pt_not (pt_val (pe_callB (call_isO (K := K) rfl) (by rfl) T.b_isinstance (by decide +kernel) (pa_cons (pv 0) (pa_cons (pe_glob (v := .ref _) rfl U.g_BadPlan rfl) pa_nil))))) (pw_or (pt_not (pt_val (pe_callB (call_isO (K := K) rfl) (by rfl) T.b_isinstance (by decide +kernel) (pa_cons (pv 0) (pa_cons (pe_glob (v := .ref _) rfl U.g_CableError rfl) pa_nil))))) (pw_or1 (pt_not (pt_val (pe_callB (call_isO (K := K) rfl) (by rfl) T.b_isinstance (by decide +kernel) (pa_cons (pv 0) (pa_cons (pe_bltn (v := .ty "ValueError") (by rfl) T.b_ValueError (by decide +kernel) rfl) pa_nil))))))))) (pss_one (ps_ret pe_bl)) pss_nil)
  (pss_cons (ps_if (pt_val (pe_callB (call_isOT (K := K) rfl) (by rfl) T.b_isinstance (by decide +kernel) (pa_cons (pv 0) (pa_cons (pe_tup (pa_cons (pe_glob (v := .ref _) rfl G_BadBundle rfl) (pa_cons (pe_glob (v := .ref _) rfl G_BadIndex rfl) (pa_cons (pe_glob (v := .ref _) rfl G_BadNotation rfl) (pa_cons (pe_glob (v := .ref _) rfl G_BadPick rfl) (pa_cons (pe_glob (v := .ref _) rfl G_BadPrices rfl) (pa_cons (pe_glob (v := .ref _) rfl G_BadRow rfl) (pa_cons (pe_glob (v := .ref _) rfl G_BadStep rfl) (pa_cons (pe_glob (v := .ref _) rfl G_BadTie rfl) (pa_cons (pe_glob (v := .ref _) rfl G_BadWeight rfl) pa_nil)))))))))) pa_nil)))) (pss_one (ps_ret pe_bl)) pss_nil)
  (pss_cons (ps_if (pt_val (pe_callB (call_isOT (K := K) rfl) (by rfl) T.b_isinstance (by decide +kernel) (pa_cons (pv 0) (pa_cons (pe_tup (pa_cons (pe_glob (v := .ref _) rfl G_BelowZero rfl) (pa_cons (pe_glob (v := .ref _) rfl G_CountsDiffer rfl) (pa_cons (pe_glob (v := .ref _) rfl G_NoSolution rfl) (pa_cons (pe_glob (v := .ref _) rfl G_NoTie rfl) (pa_cons (pe_glob (v := .ref _) rfl G_NotSquare rfl) (pa_cons (pe_glob (v := .ref _) rfl G_NotSymmetric rfl) (pa_cons (pe_glob (v := .ref _) rfl G_SharedPlace rfl) pa_nil)))))))) pa_nil)))) (pss_one (ps_ret pe_bl)) pss_nil)
  (pss_cons (ps_if (pt_val (pe_callB (call_isOT (K := K) rfl) (by rfl) T.b_isinstance (by decide +kernel) (pa_cons (pv 0) (pa_cons (pe_tup (pa_cons (pe_glob (v := .ref _) rfl G_NothingToRedo rfl) (pa_cons (pe_glob (v := .ref _) rfl G_NothingToUndo rfl) (pa_cons (pe_glob (v := .ref _) rfl G_OutsideFence rfl) (pa_cons (pe_glob (v := .ref _) rfl G_RunOver rfl) (pa_cons (pe_glob (v := .ref _) rfl G_SamePlace rfl) (pa_cons (pe_glob (v := .ref _) rfl G_SizesDiffer rfl) (pa_cons (pe_glob (v := .ref _) rfl G_StepsLeft rfl) pa_nil)))))))) pa_nil)))) (pss_one (ps_ret pe_bl)) pss_nil)
  (pss_one (ps_ret (pe_not (pe_callB (call_isOT (K := K) rfl) (by rfl) T.b_isinstance (by decide +kernel) (pa_cons (pv 0) (pa_cons (pe_tup (pa_cons (pe_glob (v := .ref _) rfl G_TakenIndex rfl) (pa_cons (pe_glob (v := .ref _) rfl G_TooNear rfl) (pa_cons (pe_glob (v := .ref _) rfl G_UnknownName rfl) (pa_cons (pe_glob (v := .ref _) rfl G_ZeroBottom rfl) pa_nil))))) pa_nil)))))))))), ?_⟩
  refine ⟨_, rfl, a, cB, _, _, true, rfl, .own _, ha, U.x, U.kB, _, rfl, ifF rfl ?_⟩
  refine ⟨_, rfl, a, cB, _, _, true, rfl, .own _, ha, U.x, U.kC, _, rfl, ifF rfl ?_⟩
  refine ⟨_, rfl, a, cB, _, _, true, rfl, .ty _, ha, U.x, U.kV, _, rfl, ifF rfl ?_⟩
  refine ⟨_, rfl, line_ge (by show 9 ≤ _; omega), fun t0 ht0 => ?_⟩
  have g0 := same_new ht0 (.tup [V.ref a_BadBundle, V.ref a_BadIndex, V.ref a_BadNotation, V.ref a_BadPick, V.ref a_BadPrices, V.ref a_BadRow, V.ref a_BadStep, V.ref a_BadTie, V.ref a_BadWeight])
  refine ⟨a, cB, t0, _, _, false, rfl, upd_same, (.cons (.own _) (.cons (.own _) (.cons (.own _) (.cons (.own _) (.cons (.own _) (.cons (.own _) (.cons (.own _) (.cons (.own _) (.cons (.own _) .nil))))))))), g0 _ _ ha, U.x, (any1 k_BadBundle (any1 k_BadIndex (any1 k_BadNotation (any1 k_BadPick (any1 k_BadPrices (any1 k_BadRow (any1 k_BadStep (any1 k_BadTie (any1 k_BadWeight any0))))))))), _, rfl, ifF rfl ?_⟩
  refine ⟨_, rfl, line_ge (by show 7 ≤ _; omega), fun t1 ht1 => ?_⟩
  have g1 := g0.trans (same_new ht1 (.tup [V.ref a_BelowZero, V.ref a_CountsDiffer, V.ref a_NoSolution, V.ref a_NoTie, V.ref a_NotSquare, V.ref a_NotSymmetric, V.ref a_SharedPlace]))
  refine ⟨a, cB, t1, _, _, false, rfl, upd_same, (.cons (.own _) (.cons (.own _) (.cons (.own _) (.cons (.own _) (.cons (.own _) (.cons (.own _) (.cons (.own _) .nil))))))), g1 _ _ ha, U.x, (any1 k_BelowZero (any1 k_CountsDiffer (any1 k_NoSolution (any1 k_NoTie (any1 k_NotSquare (any1 k_NotSymmetric (any1 k_SharedPlace any0))))))), _, rfl, ifF rfl ?_⟩
  refine ⟨_, rfl, line_ge (by show 7 ≤ _; omega), fun t2 ht2 => ?_⟩
  have g2 := g1.trans (same_new ht2 (.tup [V.ref a_NothingToRedo, V.ref a_NothingToUndo, V.ref a_OutsideFence, V.ref a_RunOver, V.ref a_SamePlace, V.ref a_SizesDiffer, V.ref a_StepsLeft]))
  refine ⟨a, cB, t2, _, _, false, rfl, upd_same, (.cons (.own _) (.cons (.own _) (.cons (.own _) (.cons (.own _) (.cons (.own _) (.cons (.own _) (.cons (.own _) .nil))))))), g2 _ _ ha, U.x, (any1 k_NothingToRedo (any1 k_NothingToUndo (any1 k_OutsideFence (any1 k_RunOver (any1 k_SamePlace (any1 k_SizesDiffer (any1 k_StepsLeft any0))))))), _, rfl, ifF rfl ?_⟩
  refine ⟨_, rfl, line_ge (by show 4 ≤ _; omega), fun t3 ht3 => ?_⟩
  have g3 := g2.trans (same_new ht3 (.tup [V.ref a_TakenIndex, V.ref a_TooNear, V.ref a_UnknownName, V.ref a_ZeroBottom]))
  exact ⟨a, cB, t3, _, _, false, rfl, upd_same, (.cons (.own _) (.cons (.own _) (.cons (.own _) (.cons (.own _) .nil)))), g3 _ _ ha, U.x, (any1 k_TakenIndex (any1 k_TooNear (any1 k_UnknownName (any1 k_ZeroBottom any0)))), _, rfl, q _ g3⟩
theorem okE__law_is_bad (F : Fun K "_law_is_bad" "_law_is_bad" s__law_is_bad f fd) (T : Txt mg) (U : Err K mg cB cC) : FnE P w K mg base 1 f fd "error" cB (.bl true) := by
  refine okE F sc__law_is_bad (fun cdv A outer s H Q p hr hz hf q => ?_)
  obtain ⟨a_BadBundle, G_BadBundle, k_BadBundle⟩ := U.n_BadBundle
  obtain ⟨a_BadIndex, G_BadIndex, k_BadIndex⟩ := U.n_BadIndex
  obtain ⟨a_BadNotation, G_BadNotation, k_BadNotation⟩ := U.n_BadNotation
  obtain ⟨a_BadPick, G_BadPick, k_BadPick⟩ := U.n_BadPick
  obtain ⟨a_BadPrices, G_BadPrices, k_BadPrices⟩ := U.n_BadPrices
  obtain ⟨a_BadRow, G_BadRow, k_BadRow⟩ := U.n_BadRow
  obtain ⟨a_BadStep, G_BadStep, k_BadStep⟩ := U.n_BadStep
  obtain ⟨a_BadTie, G_BadTie, k_BadTie⟩ := U.n_BadTie
  obtain ⟨a_BadWeight, G_BadWeight, k_BadWeight⟩ := U.n_BadWeight
  obtain ⟨a_BelowZero, G_BelowZero, k_BelowZero⟩ := U.n_BelowZero
  obtain ⟨a_CountsDiffer, G_CountsDiffer, k_CountsDiffer⟩ := U.n_CountsDiffer
  obtain ⟨a_NoSolution, G_NoSolution, k_NoSolution⟩ := U.n_NoSolution
  obtain ⟨a_NoTie, G_NoTie, k_NoTie⟩ := U.n_NoTie
  obtain ⟨a_NotSquare, G_NotSquare, k_NotSquare⟩ := U.n_NotSquare
  obtain ⟨a_NotSymmetric, G_NotSymmetric, k_NotSymmetric⟩ := U.n_NotSymmetric
  obtain ⟨a_SharedPlace, G_SharedPlace, k_SharedPlace⟩ := U.n_SharedPlace
  obtain ⟨a_NothingToRedo, G_NothingToRedo, k_NothingToRedo⟩ := U.n_NothingToRedo
  obtain ⟨a_NothingToUndo, G_NothingToUndo, k_NothingToUndo⟩ := U.n_NothingToUndo
  obtain ⟨a_OutsideFence, G_OutsideFence, k_OutsideFence⟩ := U.n_OutsideFence
  obtain ⟨a_RunOver, G_RunOver, k_RunOver⟩ := U.n_RunOver
  obtain ⟨a_SamePlace, G_SamePlace, k_SamePlace⟩ := U.n_SamePlace
  obtain ⟨a_SizesDiffer, G_SizesDiffer, k_SizesDiffer⟩ := U.n_SizesDiffer
  obtain ⟨a_StepsLeft, G_StepsLeft, k_StepsLeft⟩ := U.n_StepsLeft
  obtain ⟨a_TakenIndex, G_TakenIndex, k_TakenIndex⟩ := U.n_TakenIndex
  obtain ⟨a_TooNear, G_TooNear, k_TooNear⟩ := U.n_TooNear
  obtain ⟨a_UnknownName, G_UnknownName, k_UnknownName⟩ := U.n_UnknownName
  obtain ⟨a_ZeroBottom, G_ZeroBottom, k_ZeroBottom⟩ := U.n_ZeroBottom
  refine ⟨_, (pss_cons (ps_if (PW.pt (pw_or (pt_not (pt_val (pe_callB (call_isP (K := K) (p := p) rfl (List.mem_singleton.mpr rfl) hz hf) (by rfl) T.b_isinstance (by decide +kernel) (pa_cons (pv 0) (pa_cons (pe_glob (v := .ref _) rfl U.g_BadPlan rfl) pa_nil))))) (pw_or (pt_not (pt_val (pe_callB (call_isP (K := K) (p := p) rfl (List.mem_singleton.mpr rfl) hz hf) (by rfl) T.b_isinstance (by decide +kernel) (pa_cons (pv 0) (pa_cons (pe_glob (v := .ref _) rfl U.g_CableError rfl) pa_nil))))) (pw_or1 (pt_not (pt_val (pe_callB (call_isP (K := K) (p := p) rfl (List.mem_singleton.mpr rfl) hz hf) (by rfl) T.b_isinstance (by decide +kernel) (pa_cons (pv 0) (pa_cons (pe_bltn (v := .ty "ValueError") (by rfl) T.b_ValueError (by decide +kernel) rfl) pa_nil))))))))) (pss_one (ps_ret pe_bl)) pss_nil)
  (pss_cons (ps_if (pt_val (pe_callB (call_isPT (K := K) (p := p) rfl (List.mem_singleton.mpr rfl) hz hf) (by rfl) T.b_isinstance (by decide +kernel) (pa_cons (pv 0) (pa_cons (pe_tup (pa_cons (pe_glob (v := .ref _) rfl G_BadBundle rfl) (pa_cons (pe_glob (v := .ref _) rfl G_BadIndex rfl) (pa_cons (pe_glob (v := .ref _) rfl G_BadNotation rfl) (pa_cons (pe_glob (v := .ref _) rfl G_BadPick rfl) (pa_cons (pe_glob (v := .ref _) rfl G_BadPrices rfl) (pa_cons (pe_glob (v := .ref _) rfl G_BadRow rfl) (pa_cons (pe_glob (v := .ref _) rfl G_BadStep rfl) (pa_cons (pe_glob (v := .ref _) rfl G_BadTie rfl) (pa_cons (pe_glob (v := .ref _) rfl G_BadWeight rfl) pa_nil)))))))))) pa_nil)))) (pss_one (ps_ret pe_bl)) pss_nil)
  (pss_cons (ps_if (pt_val (pe_callB (call_isPT (K := K) (p := p) rfl (List.mem_singleton.mpr rfl) hz hf) (by rfl) T.b_isinstance (by decide +kernel) (pa_cons (pv 0) (pa_cons (pe_tup (pa_cons (pe_glob (v := .ref _) rfl G_BelowZero rfl) (pa_cons (pe_glob (v := .ref _) rfl G_CountsDiffer rfl) (pa_cons (pe_glob (v := .ref _) rfl G_NoSolution rfl) (pa_cons (pe_glob (v := .ref _) rfl G_NoTie rfl) (pa_cons (pe_glob (v := .ref _) rfl G_NotSquare rfl) (pa_cons (pe_glob (v := .ref _) rfl G_NotSymmetric rfl) (pa_cons (pe_glob (v := .ref _) rfl G_SharedPlace rfl) pa_nil)))))))) pa_nil)))) (pss_one (ps_ret pe_bl)) pss_nil)
  (pss_cons (ps_if (pt_val (pe_callB (call_isPT (K := K) (p := p) rfl (List.mem_singleton.mpr rfl) hz hf) (by rfl) T.b_isinstance (by decide +kernel) (pa_cons (pv 0) (pa_cons (pe_tup (pa_cons (pe_glob (v := .ref _) rfl G_NothingToRedo rfl) (pa_cons (pe_glob (v := .ref _) rfl G_NothingToUndo rfl) (pa_cons (pe_glob (v := .ref _) rfl G_OutsideFence rfl) (pa_cons (pe_glob (v := .ref _) rfl G_RunOver rfl) (pa_cons (pe_glob (v := .ref _) rfl G_SamePlace rfl) (pa_cons (pe_glob (v := .ref _) rfl G_SizesDiffer rfl) (pa_cons (pe_glob (v := .ref _) rfl G_StepsLeft rfl) pa_nil)))))))) pa_nil)))) (pss_one (ps_ret pe_bl)) pss_nil)
  (pss_one (ps_ret (pe_not (pe_callB (call_isPT (K := K) (p := p) rfl (List.mem_singleton.mpr rfl) hz hf) (by rfl) T.b_isinstance (by decide +kernel) (pa_cons (pv 0) (pa_cons (pe_tup (pa_cons (pe_glob (v := .ref _) rfl G_TakenIndex rfl) (pa_cons (pe_glob (v := .ref _) rfl G_TooNear rfl) (pa_cons (pe_glob (v := .ref _) rfl G_UnknownName rfl) (pa_cons (pe_glob (v := .ref _) rfl G_ZeroBottom rfl) pa_nil))))) pa_nil)))))))))), ?_⟩
  refine ⟨_, rfl, _, _, true, rfl, .own _, U.x, U.kB, _, rfl, ifF rfl ?_⟩
  refine ⟨_, rfl, _, _, true, rfl, .own _, U.x, U.kC, _, rfl, ifF rfl ?_⟩
  refine ⟨_, rfl, _, _, true, rfl, .ty _, U.x, U.kV, _, rfl, ifF rfl ?_⟩
  refine ⟨_, rfl, line_ge (by show 9 ≤ _; omega), fun t0 ht0 => ?_⟩
  have g0 := same_new ht0 (.tup [V.ref a_BadBundle, V.ref a_BadIndex, V.ref a_BadNotation, V.ref a_BadPick, V.ref a_BadPrices, V.ref a_BadRow, V.ref a_BadStep, V.ref a_BadTie, V.ref a_BadWeight])
  refine ⟨t0, _, _, false, rfl, upd_same, (.cons (.own _) (.cons (.own _) (.cons (.own _) (.cons (.own _) (.cons (.own _) (.cons (.own _) (.cons (.own _) (.cons (.own _) (.cons (.own _) .nil))))))))), U.x, (any1 k_BadBundle (any1 k_BadIndex (any1 k_BadNotation (any1 k_BadPick (any1 k_BadPrices (any1 k_BadRow (any1 k_BadStep (any1 k_BadTie (any1 k_BadWeight any0))))))))), _, rfl, ifF rfl ?_⟩
  refine ⟨_, rfl, line_ge (by show 7 ≤ _; omega), fun t1 ht1 => ?_⟩
  have g1 := g0.trans (same_new ht1 (.tup [V.ref a_BelowZero, V.ref a_CountsDiffer, V.ref a_NoSolution, V.ref a_NoTie, V.ref a_NotSquare, V.ref a_NotSymmetric, V.ref a_SharedPlace]))
  refine ⟨t1, _, _, false, rfl, upd_same, (.cons (.own _) (.cons (.own _) (.cons (.own _) (.cons (.own _) (.cons (.own _) (.cons (.own _) (.cons (.own _) .nil))))))), U.x, (any1 k_BelowZero (any1 k_CountsDiffer (any1 k_NoSolution (any1 k_NoTie (any1 k_NotSquare (any1 k_NotSymmetric (any1 k_SharedPlace any0))))))), _, rfl, ifF rfl ?_⟩
  refine ⟨_, rfl, line_ge (by show 7 ≤ _; omega), fun t2 ht2 => ?_⟩
  have g2 := g1.trans (same_new ht2 (.tup [V.ref a_NothingToRedo, V.ref a_NothingToUndo, V.ref a_OutsideFence, V.ref a_RunOver, V.ref a_SamePlace, V.ref a_SizesDiffer, V.ref a_StepsLeft]))
  refine ⟨t2, _, _, false, rfl, upd_same, (.cons (.own _) (.cons (.own _) (.cons (.own _) (.cons (.own _) (.cons (.own _) (.cons (.own _) (.cons (.own _) .nil))))))), U.x, (any1 k_NothingToRedo (any1 k_NothingToUndo (any1 k_OutsideFence (any1 k_RunOver (any1 k_SamePlace (any1 k_SizesDiffer (any1 k_StepsLeft any0))))))), _, rfl, ifF rfl ?_⟩
  refine ⟨_, rfl, line_ge (by show 4 ≤ _; omega), fun t3 ht3 => ?_⟩
  have g3 := g2.trans (same_new ht3 (.tup [V.ref a_TakenIndex, V.ref a_TooNear, V.ref a_UnknownName, V.ref a_ZeroBottom]))
  exact ⟨t3, _, _, false, rfl, upd_same, (.cons (.own _) (.cons (.own _) (.cons (.own _) (.cons (.own _) .nil)))), U.x, (any1 k_TakenIndex (any1 k_TooNear (any1 k_UnknownName (any1 k_ZeroBottom any0)))), _, rfl, q _ g3⟩
def spRight : Sp := fun vs H Q _ => ∃ l : List Nat, vs = [.str (S l)] ∧ l.length ≤ 600 ∧ ∀ H', Same H H' → Q (.bl true) H'
abbrev s__law_right : Stmt := top 68
abbrev N__law_right : List Str := ["text", "due", "told", "e"]
theorem sc__law_right : FnScope N__law_right ["text"] (defScope s__law_right) := ⟨rfl, rfl, rfl, by decide +kernel, rfl, by decide +kernel, by decide +kernel⟩
theorem ok__law_right (F : Fun K "_law_right" "_law_right" s__law_right f fd) (T : Txt mg) (U : Err K mg cB cC) (C__law_plan_of : Cal P w K mg base 15 "_law_plan_of" ["text"] spPlanOf) (C_parse_plan : CalX P w K mg base 41 "parse_plan" ["text"] (spParse cB)) (C__law_same : Cal P w K mg base 14 "_law_same" ["told", "due"] (spSame 12))
    (CE__law_is_bad : CalE P w K mg base 1 "_law_is_bad" "error" cB (.bl true)) : FnOk P w K mg base CX0 42 f fd ["text"] spRight := by
  refine F.ok sc__law_right (fun vs H Q E h => ?_) (fun cdv A outer s H vs Q E hr h => ?_)
  · obtain ⟨l, rfl, _⟩ := h
    rfl
  obtain ⟨l, rfl, hl, q⟩ := h
  refine ⟨_, (pss_cons (ps_set (i := 1) sc__law_right.nd rfl (Or.inl rfl) (pe_cal C__law_plan_of (hr.mono (by omega)) rfl (pa_cons (pv 0) pa_nil)))
  (pss_cons (L2N.ps_try_as (i := 3) rfl rfl sc__law_right.nd rfl rfl ⟨rfl, by decide, Or.inl U.g_CableError⟩ takesN (fun W pn xe tk _ => (pss_one (ps_set (i := 2) sc__law_right.nd rfl (Or.inl rfl) (pe_calX C_parse_plan (hr.mono (by omega)) rfl tk (pa_cons (pv 0) pa_nil))))) (fun a oe cls d pn hz hf => (pss_one (ps_ret (pe_and (pe_cmpR op_isN (pv 1) pe_non (nomark _)) (pe_one (pe_callE CE__law_is_bad ((roomS hr).mono (by omega)) hz hf rfl (pv 3))))))))
  (pss_one (ps_ret (pe_and (pe_cmpR op_notN (pv 1) pe_non (nomark _)) (pe_one (pe_cal C__law_same (hr.mono (by omega)) rfl (pa_cons (pv 2) (pa_cons (pv 1) pa_nil))))))))), ?_⟩
  have same := due_is l
  refine ⟨_, rfl, l, rfl, hl, fun pl hd p H1 g1 hp => ?_, fun hd H1 g1 => ?_⟩
  · refine ⟨_, rfl, l, rfl, hl, fun pl' hp' p' H2 g2 hp2 => ?_, fun hp' => ?_⟩
    · have e : pl' = pl := by
        rw [← same, hd] at hp'
        exact (Option.some.inj hp').symm
      subst e
      have h12 : pl'.height ≤ 12 := (prog_iff.mp hp').2.2.1
      refine ⟨_, rfl, rfl, true, congrArg V.bl (show (!decide (V.ref p = V.non)) = true by rw [decide_eq_false (show ¬ V.ref p = V.non from fun z => nomatch z)]; rfl), ifT rfl ?_⟩
      refine ⟨_, rfl, _, rfl, _, _, rfl, PlanAt.sameD h12 hp2 (hp.same g2), fun H3 g3 => ?_⟩
      exact q H3 (g1.trans (g2.trans g3))
    · rw [← same, hd] at hp'
      cases hp'
  · refine ⟨_, rfl, l, rfl, hl, fun pl' hp' p' H2 g2 hp2 => ?_, fun hp' H2 g2 => ?_⟩
    · rw [← same, hd] at hp'
      cases hp'
    · refine ⟨true, U.eC, fun _ e _ => ?_, fun z => Bool.noConfusion z⟩
      refine ⟨_, rfl, rfl, true, congrArg V.bl (decide_eq_true rfl), ifT rfl ?_⟩
      exact ⟨_, rfl, rfl, rfl, rfl, fun H3 g3 => q H3 (g1.trans (g2.trans g3))⟩
end
end P66
namespace P66
open PySem PySem.Spec PyProof.Rows L2 SX EX
theorem mem_letters {c : Nat} (h : letter c = true) : c ∈ letters := by
  have h := of_decide_eq_true h
  simp only [letters, List.mem_cons, List.not_mem_nil, or_false]
  omega
theorem letter_of_mem {c : Nat} (h : c ∈ letters) : letter c = true := by
  simp only [letters, List.mem_cons, List.not_mem_nil, or_false] at h
  exact decide_eq_true (by omega)
/-- 1 to 8 small letters -/
def Word (n : List Nat) : Bool := decide (1 ≤ n.length) && decide (n.length ≤ 8) && n.all letter
def Key3 (n : List Nat) : Bool := decide (n = tThin) || decide (n = tSpare) || decide (n = tBase)
theorem good_of {n : List Nat} (h : Word n = true) (k : Key3 n = false) : GoodName n := by
  unfold Word at h
  rw [Bool.and_eq_true, Bool.and_eq_true, decide_eq_true_eq, decide_eq_true_eq, List.all_eq_true] at h
  unfold Key3 at k
  rw [Bool.or_eq_false_iff, Bool.or_eq_false_iff, decide_eq_false_iff_not, decide_eq_false_iff_not, decide_eq_false_iff_not] at k
  exact ⟨h.1.1, h.1.2, h.2, k.1.1, k.1.2, k.2⟩
theorem word_of {n : List Nat} (h1 : 1 ≤ n.length) (h8 : n.length ≤ 8) (h : ∀ c ∈ n, letter c = true) : Word n = true := by
  unfold Word
  rw [Bool.and_eq_true, Bool.and_eq_true, decide_eq_true_eq, decide_eq_true_eq, List.all_eq_true]
  exact ⟨⟨h1, h8⟩, h⟩
def nearL : List (List Nat) := [[116, 104, 105], [116, 104, 105, 110, 115], [116, 104, 105, 110, 120], [115, 112, 97, 114], [115, 112, 97, 114, 101, 115], [98, 97, 115], [98, 97, 115, 101, 115], [98, 97, 115, 101, 97], [104, 105, 110], [97, 98, 97, 115, 101], [97, 116, 104, 105, 110], [101]]
theorem near_is : (["thi", "thins", "thinx", "spar", "spares", "bas", "bases", "basea", "hin", "abase", "athin", "e"] : List Str) = nearL.map S := by decide +kernel
theorem near_word : ∀ n ∈ nearL, Word n = true := by decide +kernel
theorem near_at {j : Int} (h0 : 0 ≤ j) (h : j < 12) : ∃ n, atI [V.str "thi", V.str "thins", V.str "thinx", V.str "spar", V.str "spares", V.str "bas", V.str "bases", V.str "basea", V.str "hin", V.str "abase", V.str "athin", V.str "e"] j = some (.str (S n)) ∧ Word n = true := by
  have hl : j.toNat < nearL.length := by show j.toNat < 12; omega
  refine ⟨nearL[j.toNat], at_pos h0 ?_, near_word _ (List.getElem_mem hl)⟩
  show ((["thi", "thins", "thinx", "spar", "spares", "bas", "bases", "basea", "hin", "abase", "athin", "e"] : List Str).map V.str)[j.toNat]? = _
  rw [near_is, List.getElem?_map, List.getElem?_map, List.getElem?_eq_getElem hl]
  rfl
theorem letter_at {j : Int} (h0 : 0 ≤ j) (h : j < 26) : ∃ c, atI (S letters).cps.toList j = some c ∧ letter c = true := by
  have hl : j.toNat < letters.length := by show j.toNat < 26; omega
  exact ⟨letters[j.toNat], at_pos h0 (List.getElem?_eq_getElem hl), letter_of_mem (List.getElem_mem hl)⟩
theorem join_signs : ∀ cs : List Nat, PySem.Txt.join (S []) (cs.map fun c => S [c]) = S cs := by
  have go : ∀ cs : List Nat, TL.joinL [] (cs.map fun c => [c]) = cs := fun cs => by
    induction cs with
    | nil => rfl
    | cons c cs ih =>
      cases cs with
      | nil => rfl
      | cons d ds => exact congrArg (fun z => c :: z) ih
  intro cs
  rw [TL.join_eq]
  refine TL.ext_tl ?_
  rw [TL.tl_join]
  have e : (cs.map fun c => S [c]).map TL.tl = cs.map fun c => [c] := by rw [List.map_map]; rfl
  rw [e]
  exact go cs
theorem key_in {n : List Nat} : inV (.str (S n)) [.str "thin", .str "spare", .str "base"] = Key3 n := by
  have e := inV_strs (S n) ["thin", "spare", "base"]
  refine e.trans ?_
  rw [lit_thin, lit_spare, lit_base, List.any_cons, List.any_cons, List.any_cons, List.any_nil, S_beq_eq, S_beq_eq, S_beq_eq]
  unfold Key3
  rw [Bool.or_false, decide_eq_decide.mpr (eq_comm (a := tThin)), decide_eq_decide.mpr (eq_comm (a := tSpare)), decide_eq_decide.mpr (eq_comm (a := tBase)), Bool.or_assoc]
theorem key_one (c : Nat) : Key3 [c] = false := by
  unfold Key3 tThin tSpare tBase
  simp
def nameSizes : List Int := [8, 12, 26, 26, 26, 26, 26, 26, 26, 26]
def spName : Sp := fun vs H Q _ => ∃ (r t : Addr) (ds : List Int), vs = [.ref r, .ref t] ∧ H r = some (.lst (ds.map V.int)) ∧ Dig ds nameSizes ∧ H t = some (.lst []) ∧ ∀ n H', Same H H' → GoodName n → Q (.str (S n)) H'
abbrev s__law_name : Stmt := top 55
abbrev N__law_name : List Str := ["row", "taken", "letters", "near", "name", "mate", "place", "turn", "k"]
theorem sc__law_name : FnScope N__law_name ["row", "taken"] (defScope s__law_name) := ⟨rfl, rfl, rfl, by decide +kernel, rfl, by decide +kernel, by decide +kernel⟩
section
variable {P : Program} {w : World} {K : PySem.W.Frag} {mg : Str → Option Value} {base : Heap} {f : Addr} {fd : FuncData}
theorem ok__law_name (F : Fun K "_law_name" "_law_name" s__law_name f fd) (T : Txt mg) : FnOk P w K mg base CX0 1 f fd ["row", "taken"] spName := by
  refine F.ok sc__law_name (fun vs H Q E h => ?_) (fun cdv A outer s H vs Q E hr h => ?_)
  · obtain ⟨r, t, ds, rfl, _⟩ := h
    rfl
  obtain ⟨r, t, ds, rfl, hrow, hd, ht, q⟩ := h
  refine ⟨_, (pss_cons (ps_set (i := 2) sc__law_name.nd rfl (Or.inr rfl) pe_str)
  (pss_cons (ps_set (i := 3) sc__law_name.nd rfl (Or.inl rfl) (pe_lst (pa_cons pe_str (pa_cons pe_str (pa_cons pe_str (pa_cons pe_str (pa_cons pe_str (pa_cons pe_str (pa_cons pe_str (pa_cons pe_str (pa_cons pe_str (pa_cons pe_str (pa_cons pe_str (pa_cons pe_str pa_nil))))))))))))))
  (pss_cons (ps_set (i := 4) sc__law_name.nd rfl (Or.inl rfl) (pe_join pe_str (pe_lc (own := [("k", 8)]) (g := gName 8) (tt := tYes) (by rfl) sc__law_name.nd (pi_range1 (by rfl) T.b_range (pa_cons (pe_op op_add pe_int (pe_ix ix_list (pv 0) pe_int (fun _ _ => rfl))) pa_nil)) (blkOk_by (N := N__law_name) (sc := defScope s__law_name) (by decide +kernel)) (fun _ _ _ _ _ => pg_name (i := 8) sc__law_name.nd rfl (Or.inl rfl)) (fun _ _ _ _ _ => pts_nil) (fun _ _ _ _ _ => (pe_ix ix_str (pv 2) (pe_ix (ix_listK (K := K) rfl) (pv 0) (pe_op op_add pe_int (pv 8)) (fun _ _ => rfl)) (fun _ _ => rfl))))))
  (C8.pss_cut (ps_if (pt_cmpR op_ge (pe_ix ix_list (pv 0) pe_int (fun _ _ => rfl)) pe_int (nomark _)) (pss_one (ps_set (i := 4) sc__law_name.nd rfl (Or.inl rfl) (pe_ix ix_list (pv 3) (pe_op op_mod (pe_callTy call_int1 (by rfl) T.b_int (by decide +kernel) (pa_cons (pe_ix ix_list (pv 0) pe_int (fun _ _ => rfl)) pa_nil)) pe_int) (fun _ _ => rfl)))) pss_nil)
  (C8.pss_cut (ps_if (PW.pt (pw_and (pt_chain op_le op_lt pe_int (pe_ix ix_list (pv 0) pe_int (fun _ _ => rfl)) pe_int) (pw_and1 (pt_cmpR op_gt (pe_callB call_len_seq (by rfl) T.b_len PySem.boot_len (pa_cons (pv 1) pa_nil)) pe_int (nomark _))))) (pss_cons (ps_set (i := 5) sc__law_name.nd rfl (Or.inl rfl) (pe_ix ix_list (pv 1) (pe_op op_mod (pe_callTy call_int1 (by rfl) T.b_int (by decide +kernel) (pa_cons (pe_ix ix_list (pv 0) pe_int (fun _ _ => rfl)) pa_nil)) (pe_callB call_len_seq (by rfl) T.b_len PySem.boot_len (pa_cons (pv 1) pa_nil))) (fun _ _ => rfl)))
  (pss_cons (ps_set (i := 6) sc__law_name.nd rfl (Or.inl rfl) (pe_op op_mod (pe_callTy call_int1 (by rfl) T.b_int (by decide +kernel) (pa_cons (pe_ix ix_list (pv 0) pe_int (fun _ _ => rfl)) pa_nil)) (pe_callB call_len_str (by rfl) T.b_len PySem.boot_len (pa_cons (pv 5) pa_nil))))
  (pss_cons (ps_if (pt_cmpR op_eq (pe_ix ix_list (pv 0) pe_int (fun _ _ => rfl)) pe_int (nomark _)) (pss_one (ps_set (i := 4) sc__law_name.nd rfl (Or.inl rfl) (pe_slice sl_str (pe_op op_add_str (pv 5) (pe_ix ix_str (pv 2) (pe_ix ix_list (pv 0) pe_int (fun _ _ => rfl)) (fun _ _ => rfl))) po_none (po_some pe_int)))) pss_nil)
  (pss_cons (ps_if (PW.pt (pw_and (pt_cmpR op_eq (pe_ix ix_list (pv 0) pe_int (fun _ _ => rfl)) pe_int (nomark _)) (pw_and1 (pt_cmpR op_gt (pe_callB call_len_str (by rfl) T.b_len PySem.boot_len (pa_cons (pv 5) pa_nil)) pe_int (nomark _))))) (pss_one (ps_set (i := 4) sc__law_name.nd rfl (Or.inl rfl) (pe_slice sl_str (pv 5) po_none (po_some (pe_op op_sub (pe_callB call_len_str (by rfl) T.b_len PySem.boot_len (pa_cons (pv 5) pa_nil)) pe_int))))) pss_nil)
  (pss_one (ps_if (pt_cmpR op_eq (pe_ix ix_list (pv 0) pe_int (fun _ _ => rfl)) pe_int (nomark _)) (pss_one (ps_set (i := 4) sc__law_name.nd rfl (Or.inl rfl) (pe_op op_add_str (pe_op op_add_str (pe_slice sl_str (pv 5) po_none (po_some (pv 6))) (pe_ix ix_str (pv 2) (pe_ix ix_list (pv 0) pe_int (fun _ _ => rfl)) (fun _ _ => rfl))) (pe_slice sl_str (pv 5) (po_some (pe_op op_add (pv 6) pe_int)) po_none)))) pss_nil)))))) pss_nil)
  (pss_cons (ps_for PassesOwn.never rfl (pi_range1 (by rfl) T.b_range (pa_cons pe_int pa_nil)) (pg_name (i := 7) sc__law_name.nd rfl (Or.inl rfl)) (pss_one (ps_if (PW.pt (pw_or (pt_cmpR op_in_seq (pv 4) (pv 1) (by rfl)) (pw_or1 (pt_cmpR op_in_seq (pv 4) (pe_lst (pa_cons pe_str (pa_cons pe_str (pa_cons pe_str pa_nil)))) (by rfl))))) (pss_one (ps_set (i := 4) sc__law_name.nd rfl (Or.inl rfl) (pe_ix ix_str (pv 2) (pe_op op_mod (pe_callTy call_int1 (by rfl) T.b_int (by decide +kernel) (pa_cons (pe_op op_add (pe_ix ix_list (pv 0) pe_int (fun _ _ => rfl)) (pv 7)) pa_nil)) pe_int) (fun _ _ => rfl)))) pss_nil)))
  (pss_one (ps_ret (pv 4))))))))), ?_⟩
  -- the digits
  have dig : ∀ (i : Nat) (z : Int), nameSizes[i]? = some z → ∃ n, (ds.map V.int)[i]? = some (.int n) ∧ 0 ≤ n ∧ n < z := fun i z h => by
    obtain ⟨n, h1, h2, h3⟩ := hd.get h
    exact ⟨n, int_at h1, h2, h3⟩
  obtain ⟨d0, e0, a0, b0⟩ := dig 0 8 rfl
  obtain ⟨d1, e1, a1, b1⟩ := dig 1 12 rfl
  obtain ⟨d2, e2, a2, b2⟩ := dig 2 26 rfl
  refine ⟨line_ge (by show 12 ≤ _; omega), fun pn hpn => ?_⟩
  have g1 := same_new hpn (.lst [V.str "thi", V.str "thins", V.str "thinx", V.str "spar", V.str "spares", V.str "bas", V.str "bases", V.str "basea", V.str "hin", V.str "abase", V.str "athin", V.str "e"])
  refine ⟨⟨_, rfl⟩, ?_⟩
  refine ⟨_, rfl, r, _, 0, _, rfl, rfl, SqL.of (g1 _ _ hrow), at_pos (by decide) e0, _, _, rfl, rfl, 1 + d0, rfl, by omega, by omega, fun D hD => ?_⟩
  have hn0 : (1 + d0).toNat ≤ 8 := by omega
  refine lc_range (lo := 0) (n := (1 + d0).toNat) (fun i H' => ∃ cs : List Nat, cs.length = i ∧ (∀ c ∈ cs, letter c = true) ∧ Same (upd H pn (.lst [V.str "thi", V.str "thins", V.str "thinx", V.str "spar", V.str "spares", V.str "bas", V.str "bases", V.str "basea", V.str "hin", V.str "abase", V.str "athin", V.str "e"])) H' ∧ H' D = some (.lst (cs.map fun c => V.str (S [c]))))
    ⟨[], rfl, (fun c hc => nomatch hc), same_new hD _, upd_same⟩ ?_ ?_
  · rintro i H1 hlt ⟨cs, hcs, hall, g2, hd1⟩
    refine ⟨rfl, lc_yes ?_⟩
    obtain ⟨d, ed, ad, bd⟩ := dig (2 + i) 26 (by
      have : i < 8 := by omega
      match i, this with
      | 0, _ => rfl
      | 1, _ => rfl
      | 2, _ => rfl
      | 3, _ => rfl
      | 4, _ => rfl
      | 5, _ => rfl
      | 6, _ => rfl
      | 7, _ => rfl)
    obtain ⟨c, hc, hlc⟩ := letter_at ad bd
    refine ⟨_, rfl, _, rfl, _, rfl, _, _, rfl, rfl, r, _, _, _, rfl, rfl, SqL.of (g2 _ _ (g1 _ _ hrow)), at_pos (by omega) (by rw [show ((2 : Int) + (0 + (i : Nat))).toNat = 2 + i by omega]; exact ed), ?_⟩
    refine ⟨_, d, c, rfl, rfl, line_ge (by rw [lit_letters]; decide), by rw [lit_letters]; exact hc, ?_⟩
    refine ⟨_, hd1, by rw [List.length_map]; exact small1000 (by omega), cs ++ [c], by rw [List.length_append, hcs]; rfl, ?_, ?_, ?_⟩
    · intro x hx
      rcases List.mem_append.mp hx with hx | hx
      · exact hall x hx
      · rw [List.mem_singleton.mp hx]
        exact hlc
    · intro b o hb
      have hne : b ≠ D := fun e => by
        rw [e, hD] at hb
        cases hb
      rw [upd_ne hne]
      exact g2 _ _ hb
    · rw [upd_same, List.map_append]
      rfl
  rintro H1 ⟨cs, hcs, hall, g2, hd1⟩
  have hlen : ((cs.map fun c => S [c]).map (·.length)).sum + (cs.map fun c => S [c]).length * (S []).length ≤ 16777216 := by
    have h1 : (S []).length = 0 := rfl
    have h2 : ∀ cs : List Nat, ((cs.map fun c => S [c]).map (·.length)).sum = cs.length := fun cs => by
      induction cs with
      | nil => rfl
      | cons c cs ih =>
        rw [List.map_cons, List.map_cons, List.sum_cons, ih, List.length_cons]
        show 1 + cs.length = cs.length + 1
        omega
    rw [h1, h2, hcs]
    omega
  have hlist : (cs.map fun c => V.str (S [c])) = ((cs.map fun c => S [c])).map V.str := by rw [List.map_map]; rfl
  refine ⟨S [], D, cs.map fun c => S [c], congrArg V.str lit_empty, rfl, .inl (SqL.of (by rw [hd1, hlist])), hlen, ?_⟩
  rw [join_signs]
  have hw0 : Word cs = true := word_of (by omega) (by omega) hall
  have g3 : Same H H1 := g1.trans g2
  have hn1 := g2 _ _ (upd_same (H := H) (a := pn) (o := .lst [V.str "thi", V.str "thins", V.str "thinx", V.str "spar", V.str "spares", V.str "bas", V.str "bases", V.str "basea", V.str "hin", V.str "abase", V.str "athin", V.str "e"]))
  refine ⟨fun σ H' => ∃ n, σ = [some (.ref r), some (.ref t), some (.str "abcdefghijklmnopqrstuvwxyz"), some (.ref pn), some (.str (S n)), none, none, none, none] ∧ Word n = true ∧ H' = H1, ?_, ?_⟩
  · refine ⟨_, rfl, r, _, 1, _, rfl, rfl, SqL.of (g3 _ _ hrow), at_pos (by decide) e1, _, _, rfl, rfl, _, rfl, ?_⟩
    refine ite2 (fun _ => ?_) (fun _ => ?_)
    · obtain ⟨n, hn, hw⟩ := near_at (j := d2 % 12) (Int.emod_nonneg _ (by decide)) (Int.emod_lt_of_pos _ (by decide))
      refine ⟨_, rfl, _, rfl, r, _, 2, _, rfl, rfl, SqL.of (g3 _ _ hrow), at_pos (by decide) e2, .inl ⟨_, rfl, _, _, rfl, rfl, (by show (0 : Int) < 12; decide), pn, _, _, _, rfl, rfl, SqL.of hn1, hn, ?_⟩⟩
      exact ⟨n, rfl, hw, rfl⟩
    · exact ⟨cs, rfl, hw0, rfl⟩
  rintro σ H2 ⟨n, rfl, hw, rfl⟩
  have ht1 := g3 _ _ ht
  refine ⟨fun σ H' => σ = [some (.ref r), some (.ref t), some (.str "abcdefghijklmnopqrstuvwxyz"), some (.ref pn), some (.str (S n)), none, none, none, none] ∧ H' = H2, ?_, ?_⟩
  · refine ⟨_, rfl, r, _, 1, _, rfl, rfl, SqL.of (g3 _ _ hrow), at_pos (by decide) e1, _, _, rfl, rfl, _, rfl, ?_⟩
    refine ite2 (fun _ => ?_) (fun _ => ?_)
    · refine ⟨_, _, rfl, rfl, _, rfl, ?_⟩
      refine ite2 (fun _ => ?_) (fun _ => ?_)
      · refine ⟨_, rfl, t, _, rfl, .inl (SqL.of ht1), _, _, rfl, rfl, _, rfl, ifF rfl ⟨rfl, rfl⟩⟩
      · exact ⟨rfl, rfl⟩
    · exact ⟨_, rfl, ifF rfl ⟨rfl, rfl⟩⟩
  rintro σ H3 ⟨rfl, rfl⟩
  refine ⟨26, rfl, by decide, by decide, for_range (lo := 0) (n := 26)
    (fun i σ H' => ∃ (n : List Nat) (v : Option V), σ = [some (.ref r), some (.ref t), some (.str "abcdefghijklmnopqrstuvwxyz"), some (.ref pn), some (.str (S n)), none, none, v, none] ∧ Word n = true ∧ (1 ≤ i → Key3 n = false) ∧ Same H3 H')
    ⟨n, none, rfl, hw, fun h => absurd h (by decide), Same.refl _⟩ ?_ ?_⟩
  · rintro i σ H4 hi ⟨m, v, rfl, hm, hk, g4⟩
    refine ⟨_, rfl, _, rfl, t, [], rfl, .inl (SqL.of (g4 _ _ ht1)), rfl, rfl, _, rfl, ifF rfl ?_⟩
    refine ⟨_, rfl, three_line, fun z hz => ?_⟩
    refine ⟨z, _, rfl, .inl (SqL.of upd_same), rfl, rfl, _, rfl, ?_⟩
    have e : (if false = true then !inV (V.str (S m)) [V.str "thin", V.str "spare", V.str "base"] else inV (V.str (S m)) [V.str "thin", V.str "spare", V.str "base"]) = Key3 m := by
      rw [if_neg Bool.false_ne_true]
      exact key_in
    have g5 := g4.trans (same_new hz (.lst [V.str "thin", V.str "spare", V.str "base"]))
    refine ite2 (fun c => ?_) (fun c => ?_)
    · obtain ⟨x, hx, hlx⟩ := letter_at (j := (d2 + (0 + (i : Nat))) % 26) (Int.emod_nonneg _ (by decide)) (Int.emod_lt_of_pos _ (by decide))
      refine ⟨_, rfl, _, rfl, r, _, 2, _, rfl, rfl, SqL.of (g5 _ _ (g3 _ _ hrow)), at_pos (by decide) e2, _, rfl, _, _, rfl, rfl, .inl ⟨_, rfl, _, _, rfl, rfl, (by show (0 : Int) < 26; decide), ?_⟩⟩
      refine ⟨_, _, x, rfl, rfl, line_ge (by rw [lit_letters]; decide), by rw [lit_letters]; exact hx, ?_⟩
      exact ⟨[x], _, rfl, word_of (by simp) (by simp) (fun y hy => by rw [List.mem_singleton.mp hy]; exact hlx), fun _ => key_one x, g5⟩
    · have c' : Key3 m = false := by
        cases hkm : Key3 m with
        | false => rfl
        | true => exact absurd (e.trans hkm) c
      exact ⟨m, _, rfl, hm, fun _ => c', g5⟩
  · rintro σ H4 ⟨m, v, rfl, hm, hk, g4⟩
    exact ⟨_, rfl, q m H4 (g3.trans g4) (good_of hm (hk (by decide)))⟩
end
end P66
namespace P66
open PySem PySem.Spec PyProof.Rows L2 SX EX
theorem Dig.drop : ∀ {ns zs : List Int} (k : Nat), Dig ns zs → Dig (ns.drop k) (zs.drop k)
  | _, _, 0, d => d
  | _, _, _ + 1, .nil => .nil
  | _, _, k + 1, .cons _ t => Dig.drop k t
theorem cutV_from (xs : List V) {k : Int} (h0 : 0 ≤ k) : cutV xs (some k) none = xs.drop k.toNat := by
  have e1 : HT.sIx xs.length 0 (some k) = min k.toNat xs.length := by show (if k < 0 then _ else _) = _; rw [if_neg (by omega)]
  have e2 : HT.sIx xs.length xs.length none = xs.length := rfl
  unfold cutV
  rw [e1, e2]
  by_cases h : k.toNat ≤ xs.length
  · rw [Nat.min_eq_left h]
    exact List.take_of_length_le (by rw [List.length_drop]; omega)
  · rw [Nat.min_eq_right (by omega), List.drop_eq_nil_of_le (Nat.le_refl _), List.drop_eq_nil_of_le (by omega), List.take_nil]
def growSizes : List Int := [10, 40, 999, 999, 9, 8, 12, 26, 26, 26, 26, 26, 26, 26, 26]
/-- rows of digits -/
def RowsAt (H : Hp) (a : Addr) (as : List Addr) : Prop := H a = some (.lst (as.map V.ref)) ∧ ∀ b ∈ as, ∃ ds : List Int, H b = some (.lst (ds.map V.int)) ∧ Dig ds growSizes
theorem RowsAt.same {H H' : Hp} {a : Addr} {as : List Addr} (e : Same H H') (r : RowsAt H a as) : RowsAt H' a as := ⟨e _ _ r.1, fun b hb => let ⟨ds, h1, h2⟩ := r.2 b hb; ⟨ds, e _ _ h1, h2⟩⟩
def spGrow (n : Nat) : Sp := fun vs H Q _ => ∃ (a : Addr) (as : List Addr) (at_ many deep mode : Int), vs = [.ref a, .int at_, .int many, .int deep, .int mode] ∧ RowsAt H a as ∧ 0 ≤ at_ ∧ at_ + many ≤ as.length ∧ at_ + 1 ≤ as.length ∧ deep ≤ n + 1 ∧
  ∀ pl p H', Same H H' → PlanAt H' pl p → Good pl → (pl.height ≤ 1 ∨ (pl.height : Int) ≤ deep) → (pl.count ≤ 1 ∨ (pl.count : Int) ≤ many) → Q (.ref p) H'
def spGSub (n : Nat) : Sp := fun vs H Q E => ∃ m, n = m + 1 ∧ spGrow m vs H Q E
abbrev s__law_grow : Stmt := top 56
abbrev N__law_grow : List Str := ["rows", "at", "many", "deep", "mode", "row", "share", "one", "two", "inner", "kind"]
theorem sc__law_grow : FnScope N__law_grow ["rows", "at", "many", "deep", "mode"] (defScope s__law_grow) := ⟨rfl, rfl, rfl, by decide +kernel, rfl, by decide +kernel, by decide +kernel⟩
section
variable {P : Program} {w : World} {K : PySem.W.Frag} {mg : Str → Option Value} {base : Heap} {f : Addr} {fd : FuncData}
theorem ok__law_grow {n : Nat} (F : Fun K "_law_grow" "_law_grow" s__law_grow f fd) (T : Txt mg) (C__law_name : Cal P w K mg base 1 "_law_name" ["row", "taken"] spName)
    (C__law_grow : Cal P w K mg base (n + 1) "_law_grow" ["rows", "at", "many", "deep", "mode"] (spGSub n)) : FnOk P w K mg base CX0 (n + 2) f fd ["rows", "at", "many", "deep", "mode"] (spGrow n) := by
  refine F.ok sc__law_grow (fun vs H Q E h => ?_) (fun cdv A outer s H vs Q E hr h => ?_)
  · obtain ⟨a, as, at_, many, deep, mode, rfl, _⟩ := h
    rfl
  obtain ⟨a, as, at_, many, deep, mode, rfl, hR, h0, hm, hm1, hdeep, q⟩ := h
  refine ⟨_, (pss_cons (ps_set (i := 5) sc__law_grow.nd rfl (Or.inl rfl) (pe_ix ix_list (pv 0) (pv 1) (fun _ _ => rfl)))
  (pss_cons (ps_if (PW.pt (pw_or (pt_cmpR op_le (pv 2) pe_int (nomark _)) (pw_or1 (pt_cmpR op_le (pv 3) pe_int (nomark _))))) (pss_one (ps_ret (pe_tup (pa_cons pe_str (pa_cons (pe_cal C__law_name (hr.mono (by omega)) rfl (pa_cons (pe_slice sl_list (pv 5) (po_some pe_int) po_none) (pa_cons (pe_lst pa_nil) pa_nil))) pa_nil))))) pss_nil)
  (pss_cons (ps_if (PW.pt (pw_and (pt_cmpR op_ge (pv 2) pe_int (nomark _)) (pw_and1 (PW.pt (pw_or (pt_cmpR op_eq (pv 4) pe_int (nomark _)) (pw_or1 (PW.pt (pw_and (pt_cmpR op_eq (pv 4) pe_int (nomark _)) (pw_and1 (pt_cmpR op_lt (pe_ix ix_list (pv 5) pe_int (fun _ _ => rfl)) pe_int (nomark _))))))))))) (pss_cons (ps_set (i := 6) sc__law_grow.nd rfl (Or.inl rfl) (pe_op op_add pe_int (pe_op op_mod (pe_callTy call_int1 (by rfl) T.b_int (by decide +kernel) (pa_cons (pe_ix ix_list (pv 5) pe_int (fun _ _ => rfl)) pa_nil)) (pe_op op_sub (pv 2) pe_int))))
  (C8.pss_cut (ps_if (pt_cmpR op_eq (pv 4) pe_int (nomark _)) (pss_one (ps_set (i := 6) sc__law_grow.nd rfl (Or.inl rfl) (pe_op op_fdiv (pe_op op_sub (pv 2) pe_int) pe_int))) pss_nil)
  (pss_cons (ps_set (i := 7) sc__law_grow.nd rfl (Or.inl rfl) (pe_cal C__law_grow (hr.mono (by omega)) rfl (pa_cons (pv 0) (pa_cons (pe_op op_add (pv 1) pe_int) (pa_cons (pv 6) (pa_cons (pe_op op_sub (pv 3) pe_int) (pa_cons (pv 4) pa_nil)))))))
  (pss_cons (ps_set (i := 8) sc__law_grow.nd rfl (Or.inl rfl) (pe_cal C__law_grow (hr.mono (by omega)) rfl (pa_cons (pv 0) (pa_cons (pe_op op_add (pe_op op_add (pv 1) pe_int) (pv 6)) (pa_cons (pe_op op_sub (pe_op op_sub (pv 2) pe_int) (pv 6)) (pa_cons (pe_op op_sub (pv 3) pe_int) (pa_cons (pv 4) pa_nil)))))))
  (pss_one (ps_ret (pe_tup (pa_cons pe_str (pa_cons (pv 7) (pa_cons (pv 8) pa_nil)))))))))) pss_nil)
  (pss_cons (ps_set (i := 9) sc__law_grow.nd rfl (Or.inl rfl) (pe_cal C__law_grow (hr.mono (by omega)) rfl (pa_cons (pv 0) (pa_cons (pe_op op_add (pv 1) pe_int) (pa_cons (pe_op op_sub (pv 2) pe_int) (pa_cons (pe_op op_sub (pv 3) pe_int) (pa_cons (pv 4) pa_nil)))))))
  (pss_cons (ps_set (i := 10) sc__law_grow.nd rfl (Or.inl rfl) (pe_op op_mod (pe_callTy call_int1 (by rfl) T.b_int (by decide +kernel) (pa_cons (pe_ix ix_list (pv 5) pe_int (fun _ _ => rfl)) pa_nil)) pe_int))
  (pss_cons (ps_if (pt_cmpR op_eq (pv 10) pe_int (nomark _)) (pss_one (ps_ret (pe_tup (pa_cons pe_str (pa_cons (pe_op op_add pe_int (pe_ix ix_list (pv 5) pe_int (fun _ _ => rfl))) (pa_cons (pe_op op_add pe_int (pe_ix ix_list (pv 5) pe_int (fun _ _ => rfl))) (pa_cons (pv 9) pa_nil))))))) pss_nil)
  (pss_cons (ps_if (pt_cmpR op_eq (pv 10) pe_int (nomark _)) (pss_one (ps_ret (pe_tup (pa_cons pe_str (pa_cons (pv 9) pa_nil))))) pss_nil)
  (pss_cons (ps_if (pt_cmpR op_eq (pv 10) pe_int (nomark _)) (pss_one (ps_ret (pe_tup (pa_cons pe_str (pa_cons (pv 9) pa_nil))))) pss_nil)
  (pss_one (ps_ret (pe_tup (pa_cons pe_str (pa_cons (pe_op op_add pe_int (pe_ix ix_list (pv 5) pe_int (fun _ _ => rfl))) (pa_cons (pv 9) pa_nil)))))))))))))), ?_⟩
  have hat : at_.toNat < as.length := by omega
  obtain ⟨b, hb⟩ : ∃ b, as[at_.toNat]? = some b := ⟨as[at_.toNat], List.getElem?_eq_getElem hat⟩
  have hbv : (as.map V.ref)[at_.toNat]? = some (.ref b) := by rw [List.getElem?_map, hb]; rfl
  obtain ⟨ds, hrow, hdig⟩ := hR.2 b (List.mem_of_getElem? hb)
  have dig : ∀ (i : Nat) (z : Int), growSizes[i]? = some z → ∃ n, (ds.map V.int)[i]? = some (.int n) ∧ 0 ≤ n ∧ n < z := fun i z h => by
    obtain ⟨n, h1, h2, h3⟩ := hdig.get h
    exact ⟨n, int_at h1, h2, h3⟩
  obtain ⟨d0, e0, a0, b0⟩ := dig 0 10 rfl
  obtain ⟨d1, e1, a1, b1⟩ := dig 1 40 rfl
  obtain ⟨d2, e2, a2, b2⟩ := dig 2 999 rfl
  obtain ⟨d3, e3, a3, b3⟩ := dig 3 999 rfl
  obtain ⟨d4, e4, a4, b4⟩ := dig 4 9 rfl
  refine seq_asg ?_
  refine ⟨_, rfl, _, rfl, a, _, _, _, rfl, rfl, SqL.of hR.1, at_pos h0 hbv, ?_⟩
  refine ifs_seqN (decide (many ≤ 1) || decide (deep ≤ 1)) (fun Q hq => ?_) (fun hbt => ?_) (fun hbt => ?_)
  · refine ⟨_, rfl, _, _, rfl, rfl, _, rfl, ?_⟩
    refine ite2 (fun c => ?_) (fun c => ?_)
    · rw [show (decide (many ≤ 1)) = true from c] at hq
      exact hq
    · rw [show (decide (many ≤ 1)) = false from Bool.eq_false_iff.mpr c, Bool.false_or] at hq
      exact ⟨_, rfl, _, _, rfl, rfl, _, rfl, hq⟩
  · refine ⟨_, rfl, _, rfl, b, _, rfl, SqL.of hrow, fun p1 hp1 => ?_⟩
    rw [cutV_from _ (by decide)]
    refine ⟨(by show 0 ≤ sizeLine; exact Nat.zero_le _), fun p2 hp2 => ?_⟩
    have g1 := same_new hp1 (.lst ((ds.map V.int).drop (5 : Int).toNat))
    refine ⟨p1, p2, ds.drop 5, rfl, same_new hp2 _ _ _ (by rw [upd_same, ← List.map_drop]; rfl), hdig.drop 5, upd_same, fun nm H1 g2 hg => ?_⟩
    refine ⟨two_line, fun u hu => ?_⟩
    exact q (.take nm) u _ (g1.trans ((same_new hp2 _).trans (g2.trans (same_new hu _)))) upd_same hg (.inl (Nat.le_refl 1)) (.inl (Nat.le_refl 1))
  rw [Bool.or_eq_false_iff, decide_eq_false_iff_not, decide_eq_false_iff_not] at hbt
  obtain ⟨hm2, hd2⟩ := hbt
  obtain ⟨m, rfl⟩ : ∃ m, n = m + 1 := ⟨n - 1, by omega⟩
  refine ifs_seqN (decide (many ≥ 3) && (decide (mode = 1) || (decide (mode = 0) && decide (d0 < 5)))) (fun Q hq => ?_) (fun hbt => ?_) (fun _ => ?_)
  · refine ⟨_, rfl, _, _, rfl, rfl, _, rfl, ?_⟩
    refine ite2 (fun c => ?_) (fun c => ?_)
    · rw [show (decide (many ≥ 3)) = true from c, Bool.true_and] at hq
      refine ⟨_, rfl, rfl, _, rfl, ?_⟩
      rw [dec_int]
      refine ite2 (fun c => ?_) (fun c => ?_)
      · have e : mode = 1 := eq_of_beq c
        rw [decide_eq_true e, Bool.true_or] at hq
        exact hq
      · have e : ¬ mode = 1 := fun e => c (by rw [e]; rfl)
        rw [decide_eq_false e, Bool.false_or] at hq
        refine ⟨_, rfl, rfl, _, rfl, ?_⟩
        rw [dec_int]
        refine ite2 (fun c => ?_) (fun c => ?_)
        · have e : mode = 0 := eq_of_beq c
          rw [decide_eq_true e, Bool.true_and] at hq
          exact ⟨_, rfl, b, _, 0, _, rfl, rfl, SqL.of hrow, at_pos (by decide) e0, _, _, rfl, rfl, _, rfl, hq⟩
        · have e : ¬ mode = 0 := fun e => c (by rw [e]; rfl)
          rw [decide_eq_false e, Bool.false_and] at hq
          exact hq
    · rw [show (decide (many ≥ 3)) = false from Bool.eq_false_iff.mpr c, Bool.false_and] at hq
      exact hq
  · rw [Bool.and_eq_true] at hbt
    have hm3 : many ≥ 3 := of_decide_eq_true hbt.1
    refine seq_asg ?_
    refine ⟨_, rfl, b, _, 1, _, rfl, rfl, SqL.of hrow, at_pos (by decide) e1, .inl ⟨_, rfl, _, rfl, _, _, rfl, rfl, _, _, rfl, rfl, (by show (0 : Int) < many - 2; omega), _, _, rfl, rfl, ?_⟩⟩
    have s0 : 0 ≤ d1 % (many - 2) := Int.emod_nonneg _ (by omega)
    have s1 : d1 % (many - 2) < many - 2 := Int.emod_lt_of_pos _ (by omega)
    refine ⟨fun σ H' => ∃ share : Int, σ = [some (.ref a), some (.int at_), some (.int many), some (.int deep), some (.int mode), some (.ref b), some (.int share), none, none, none, none] ∧ 1 ≤ share ∧ share ≤ many - 2 ∧ H' = H, ?_, ?_⟩
    · refine ifs_of (decide (mode = 1)) (fun Q hq => ?_) (fun _ => ?_) (fun _ => ?_)
      · refine ⟨_, rfl, rfl, _, rfl, ?_⟩
        rw [dec_int, Bool.beq_eq_decide_eq]
        exact hq
      · refine ⟨_, rfl, _, _, rfl, rfl, _, _, rfl, rfl, ⟨by decide, by decide⟩, ?_⟩
        exact ⟨_, rfl, by omega, by omega, rfl⟩
      · exact ⟨_, rfl, by omega, by omega, rfl⟩
    rintro σ H' ⟨share, rfl, h1, h2, rfl⟩
    refine ⟨_, rfl, _, rfl, _, _, rfl, rfl, _, rfl, _, rfl, _, _, rfl, rfl, _, rfl, m, rfl, a, as, at_ + 1, share, deep - 1, mode, rfl, hR, by omega, by omega, by omega, by omega, fun pl1 p1 H1 g1 hp1 hg1 hh1 hc1 => ?_⟩
    refine ⟨_, rfl, _, rfl, _, _, rfl, rfl, _, rfl, _, _, rfl, rfl, _, rfl, _, _, rfl, rfl, _, rfl, _, _, rfl, rfl, _, rfl, _, _, rfl, rfl, _, rfl, m, rfl, a, as, at_ + 1 + share, many - 1 - share, deep - 1, mode, rfl, hR.same g1, by omega, by omega, by omega, by omega, fun pl2 p2 H2 g2 hp2 hg2 hh2 hc2 => ?_⟩
    refine ⟨_, rfl, _, rfl, three_line, fun u hu => ?_⟩
    refine q (.join pl1 pl2) u _ (g1.trans (g2.trans (same_new hu _))) ⟨p1, p2, upd_same, hp1.same (g2.trans (same_new hu _)), hp2.same (same_new hu _)⟩ ⟨hg1, hg2⟩ (.inr ?_) (.inr ?_)
    · simp only [Plan.height]
      omega
    · simp only [Plan.count]
      omega
  · refine ⟨_, rfl, _, rfl, _, _, rfl, rfl, _, rfl, _, _, rfl, rfl, _, rfl, _, _, rfl, rfl, _, rfl, m, rfl, a, as, at_ + 1, many - 1, deep - 1, mode, rfl, hR, by omega, by omega, by omega, by omega, fun x p1 H1 g1 hp1 hg1 hh1 hc1 => ?_⟩
    have hrow1 := g1 _ _ hrow
    have hx : (x.height : Int) + 1 ≤ deep := by omega
    have hy : (x.count : Int) + 1 ≤ many := by omega
    refine ⟨_, rfl, b, _, 0, _, rfl, rfl, SqL.of hrow1, at_pos (by decide) e0, .inl ⟨_, rfl, _, _, rfl, rfl, (by show (0 : Int) < 5; decide), ?_⟩⟩
    refine ⟨_, rfl, rfl, _, rfl, ?_⟩
    refine ite2 (fun _ => ?_) (fun _ => ?_)
    · refine ⟨_, rfl, b, _, 2, _, rfl, rfl, SqL.of hrow1, at_pos (by decide) e2, _, _, rfl, rfl, _, rfl, b, _, 3, _, rfl, rfl, SqL.of hrow1, at_pos (by decide) e3, _, _, rfl, rfl, _, rfl, (by show 4 ≤ sizeLine; exact line_ge (by omega)), fun u hu => ?_⟩
      refine q (.scale (1 + d2).toNat (1 + d3).toNat x) u _ (g1.trans (same_new hu _)) ⟨p1, ?_, hp1.same (same_new hu _)⟩ ⟨by omega, by omega, hg1⟩ (.inr ?_) (.inr ?_)
      · rw [upd_same, Int.toNat_of_nonneg (by omega), Int.toNat_of_nonneg (by omega)]
      · simp only [Plan.height]
        omega
      · simp only [Plan.count]
        omega
    refine ⟨_, rfl, rfl, _, rfl, ?_⟩
    refine ite2 (fun _ => ?_) (fun _ => ?_)
    · refine ⟨_, rfl, two_line, fun u hu => ?_⟩
      refine q (.spare x) u _ (g1.trans (same_new hu _)) ⟨p1, upd_same, hp1.same (same_new hu _)⟩ hg1 (.inr ?_) (.inr ?_)
      · simp only [Plan.height]
        omega
      · simp only [Plan.count]
        omega
    refine ⟨_, rfl, rfl, _, rfl, ?_⟩
    refine ite2 (fun _ => ?_) (fun _ => ?_)
    · refine ⟨_, rfl, two_line, fun u hu => ?_⟩
      refine q (.base x) u _ (g1.trans (same_new hu _)) ⟨p1, upd_same, hp1.same (same_new hu _)⟩ hg1 (.inr ?_) (.inr ?_)
      · simp only [Plan.height]
        omega
      · simp only [Plan.count]
        omega
    refine ⟨_, rfl, b, _, 4, _, rfl, rfl, SqL.of hrow1, at_pos (by decide) e4, _, _, rfl, rfl, _, rfl, three_line, fun u hu => ?_⟩
    refine q (.thin (2 + d4).toNat x) u _ (g1.trans (same_new hu _)) ⟨p1, ?_, hp1.same (same_new hu _)⟩ ⟨by omega, hg1⟩ (.inr ?_) (.inr ?_)
    · rw [upd_same, Int.toNat_of_nonneg (by omega)]
    · simp only [Plan.height]
      omega
    · simp only [Plan.count]
      omega
theorem all_grow (T : Txt mg) (F : Fun K "_law_grow" "_law_grow" s__law_grow f fd) (m : mg "_law_grow" = some (.ref f)) (b : Binds K fd ["rows", "at", "many", "deep", "mode"] []) (C__law_name : Cal P w K mg base 1 "_law_name" ["row", "taken"] spName) :
    ∀ n : Nat, Cal P w K mg base (n + 2) "_law_grow" ["rows", "at", "many", "deep", "mode"] (spGrow n)
  | 0 => by
    have no : ∀ vs H Q E, ¬ spGSub 0 vs H Q E := fun vs H Q E ⟨k, e, _⟩ => by omega
    exact ⟨f, fd, ok__law_grow F T C__law_name ⟨f, fd, ⟨fun vs H Q E h => absurd h (no vs H Q E), fun A outer s H args us vs Q E _ _ _ _ h => absurd h (no vs H Q E)⟩, m, F.kp, b⟩, m, F.kp, b⟩
  | n + 1 => by
    obtain ⟨f', fd', G, m', kp', b'⟩ := all_grow T F m b C__law_name n
    exact ⟨f, fd, ok__law_grow F T C__law_name ⟨f', fd', G.imp (fun vs H Q E ⟨k, e, h⟩ => by
      have : n = k := by omega
      subst this
      exact h), m', kp', b'⟩, m, F.kp, b⟩
end
end P66
namespace P66
open PySem PySem.Spec PyProof.Rows L2 SX EX
theorem pe_cal0 {X : Cx} {k : Nat} {x : Str} {sp : Sp} {p pos : Pos} (C : Cal X.prog X.w X.K X.mg X.base k x [] sp) (hr : Room k X.A) (hg : Gl X x) (hdb : (x == ("__debug__" : Str)) = false := by decide) : PE X (.Call (.Name x p) [] [] pos) (tCall sp [] E0 tNil) := by
  obtain ⟨f, fd, G, m, kp, b⟩ := C
  exact pe_call0 G hr hg m kp b .nil pass0 hdb
abbrev Sm (n : Nat) (x : Str) : Prop := x.length ≤ n
theorem sm_app {m n : Nat} {x y : Str} (hx : Sm m x) (hy : Sm n y) : Sm (m + n) (x ++ y) := by
  show (x ++ y).length ≤ m + n
  rw [sapp]
  exact Nat.add_le_add hx hy
theorem lin {m n : Nat} {x y : Str} (hx : Sm m x) (hy : Sm n y) (h : m + n ≤ 100000) : x.length + y.length ≤ sizeLine := Nat.le_trans (Nat.add_le_add hx hy) (line_ge h)
theorem sm_line {n : Nat} {x : Str} (h : Sm n x) (h9 : n ≤ 100000) : x.length ≤ sizeLine := Nat.le_trans h (line_ge h9)
theorem tl_len (x : Str) : x.cps.toList.length = x.length := by
  show x.cps.toList.length = x.cps.size
  rw [Array.length_toList]
theorem sign_at {x : Str} {j : Int} (h0 : 0 ≤ j) (h : j < (x.length : Nat)) : ∃ c, atI x.cps.toList j = some c := by
  have hl : j.toNat < x.cps.toList.length := by rw [tl_len]; omega
  exact ⟨x.cps.toList[j.toNat], at_pos h0 (List.getElem?_eq_getElem hl)⟩
/-- texts in a list, none of them long -/
def Strs (H : Hp) (p : Addr) (n m : Nat) : Prop := ∃ ys : List Str, H p = some (.lst (ys.map V.str)) ∧ ys.length = n ∧ ∀ y ∈ ys, Sm m y
theorem Strs.same {H H' : Hp} (e : Same H H') {p : Addr} {n m : Nat} (h : Strs H p n m) : Strs H' p n m := let ⟨ys, h1, h2, h3⟩ := h; ⟨ys, e _ _ h1, h2, h3⟩
theorem strs_at {ys : List Str} {j : Int} (h0 : 0 ≤ j) (h : j < (ys.length : Nat)) : ∃ y ∈ ys, atI (ys.map V.str) j = some (.str y) := by
  have hl : j.toNat < ys.length := by omega
  exact ⟨ys[j.toNat], List.getElem_mem hl, at_pos h0 (by rw [List.getElem?_map, List.getElem?_eq_getElem hl]; rfl)⟩
theorem cut_400 (z : Str) : Sm 400 (cutS z none (some 400)) := by
  rw [← S_tl z, cut_to _ (by decide)]
  show (S _).length ≤ 400
  rw [slen, List.length_take]
  show min 400 _ ≤ 400
  omega
section
variable {P : Program} {w : World} {K : PySem.W.Frag} {mg : Str → Option Value} {base : Heap} {f : Addr} {fd : FuncData} {cB cC : Addr}
def spSigns : Sp := fun vs H Q _ => vs = [] ∧ ∀ g : Str, g.length = 94 → Q (.str g) H
abbrev s__law_signs : Stmt := top 63
abbrev N__law_signs : List Str := ["signs"]
theorem sc__law_signs : FnScope N__law_signs [] (defScope s__law_signs) := ⟨rfl, rfl, rfl, by decide +kernel, rfl, by decide +kernel, by decide +kernel⟩
theorem ok__law_signs (F : Fun K "_law_signs" "_law_signs" s__law_signs f fd) (T : Txt mg) : FnOk P w K mg base CX0 1 f fd [] spSigns := by
  refine F.ok sc__law_signs (fun vs H Q E h => ?_) (fun cdv A outer s H vs Q E hr h => ?_)
  · obtain ⟨rfl, _⟩ := h
    rfl
  obtain ⟨rfl, q⟩ := h
  refine ⟨_, (pss_cons (ps_set (i := 0) sc__law_signs.nd rfl (Or.inl rfl) pe_str)
  (pss_one (ps_ret (pe_op op_add_str (pv 0) pe_str)))), ?_⟩
  exact ⟨_, rfl, _, _, rfl, rfl, (by decide +kernel), q _ (by decide +kernel)⟩
def spTok : Sp := fun vs H Q _ => ∃ (x g : Str) (pl : Int), vs = [.str x, .int pl, .str g] ∧ Sm 400 x ∧ 0 ≤ pl ∧ pl ≤ (x.length : Nat) ∧ ∀ (i j : Int) t H', Same H H' → H' t = some (.lst [.int i, .int j]) → Q (.ref t) H'
abbrev s__law_token : Stmt := top 64
abbrev N__law_token : List Str := ["text", "place", "signs", "first", "k", "last"]
theorem sc__law_token : FnScope N__law_token ["text", "place", "signs"] (defScope s__law_token) := ⟨rfl, rfl, rfl, by decide +kernel, rfl, by decide +kernel, by decide +kernel⟩
theorem ok__law_token (F : Fun K "_law_token" "_law_token" s__law_token f fd) (T : Txt mg) : FnOk P w K mg base CX0 1 f fd ["text", "place", "signs"] spTok := by
  refine F.ok sc__law_token (fun vs H Q E h => ?_) (fun cdv A outer s H vs Q E hr h => ?_)
  · obtain ⟨x, g, pl, rfl, _⟩ := h
    rfl
  obtain ⟨x, g, pl, rfl, hx, h0, h1, q⟩ := h
  refine ⟨_, (pss_cons (ps_set (i := 3) sc__law_token.nd rfl (Or.inl rfl) (pv 1))
  (C8.pss_cut (ps_for PassesOwn.never rfl (pi_range1 (by rfl) T.b_range (pa_cons (pe_callB call_len_str (by rfl) T.b_len PySem.boot_len (pa_cons (pv 0) pa_nil)) pa_nil)) (pg_name (i := 4) sc__law_token.nd rfl (Or.inl rfl)) (pss_one (ps_if (pt_cmpR op_in_sign (pe_ix ix_str (pv 0) (pe_op op_mod (pe_callTy call_int1 (by rfl) T.b_int (by decide +kernel) (pa_cons (pe_op op_add (pv 1) (pv 4)) pa_nil)) (pe_callB call_len_str (by rfl) T.b_len PySem.boot_len (pa_cons (pv 0) pa_nil))) (fun _ _ => rfl)) (pv 2) (by rfl)) (pss_cons (ps_set (i := 3) sc__law_token.nd rfl (Or.inl rfl) (pe_op op_mod (pe_callTy call_int1 (by rfl) T.b_int (by decide +kernel) (pa_cons (pe_op op_add (pv 1) (pv 4)) pa_nil)) (pe_callB call_len_str (by rfl) T.b_len PySem.boot_len (pa_cons (pv 0) pa_nil))))
  (pss_one ps_break)) pss_nil)))
  (pss_cons (ps_set (i := 5) sc__law_token.nd rfl (Or.inl rfl) (pv 3))
  (C8.pss_cut (ps_for PassesOwn.never rfl (pi_range1 (by rfl) T.b_range (pa_cons (pe_callB call_len_str (by rfl) T.b_len PySem.boot_len (pa_cons (pv 0) pa_nil)) pa_nil)) (pg_name (i := 4) sc__law_token.nd rfl (Or.inl rfl)) (C8.pss_cut (ps_if (PW.pt (pw_and (pt_cmpR op_gt (pv 3) pe_int (nomark _)) (pw_and1 (pt_cmpR op_in_sign (pe_ix ix_str (pv 0) (pe_op op_sub (pv 3) pe_int) (fun _ _ => rfl)) (pv 2) (by rfl))))) (pss_one (ps_set (i := 3) sc__law_token.nd rfl (Or.inl rfl) (pe_op op_sub (pv 3) pe_int))) pss_nil)
  (pss_one (ps_if (PW.pt (pw_and (pt_cmpR op_lt (pv 5) (pe_callB call_len_str (by rfl) T.b_len PySem.boot_len (pa_cons (pv 0) pa_nil)) (nomark _)) (pw_and1 (pt_cmpR op_in_sign (pe_ix ix_str (pv 0) (pv 5) (fun _ _ => rfl)) (pv 2) (by rfl))))) (pss_one (ps_set (i := 5) sc__law_token.nd rfl (Or.inl rfl) (pe_op op_add (pv 5) pe_int))) pss_nil))))
  (pss_one (ps_ret (pe_lst (pa_cons (pv 3) (pa_cons (pv 5) pa_nil))))))))), ?_⟩
  have xl := sm_line hx (by decide)
  refine ⟨_, rfl, ?_⟩
  refine ⟨fun σ H' => ∃ (a : Int) (v4 : Option V), σ = [some (.str x), some (.int pl), some (.str g), some (.int a), v4, none] ∧ H' = H ∧ 0 ≤ a ∧ a ≤ (x.length : Nat), ?_, ?_⟩
  · refine ⟨_, rfl, _, rfl, xl, _, rfl, by omega, by omega, for_range (lo := 0) (n := (((x.length : Nat) : Int)).toNat) (fun i σ H' => ∃ (v4 : Option V), σ = [some (.str x), some (.int pl), some (.str g), some (.int pl), v4, none] ∧ H' = H) ⟨none, rfl, rfl⟩ ?_ ?_⟩
    · rintro i σ H' hi ⟨v4, rfl, rfl⟩
      have hp : 0 < (x.length : Nat) := by omega
      have m0 : 0 ≤ (pl + (0 + (i : Int))) % ((x.length : Nat) : Int) := Int.emod_nonneg _ (by omega)
      have m1 : (pl + (0 + (i : Int))) % ((x.length : Nat) : Int) < ((x.length : Nat) : Int) := Int.emod_lt_of_pos _ (by omega)
      obtain ⟨c, hc⟩ := sign_at m0 m1
      refine ⟨_, rfl, _, rfl, _, rfl, _, _, rfl, rfl, .inl ⟨_, rfl, _, rfl, _, rfl, xl, _, _, rfl, rfl, (by show (0 : Int) < ((x.length : Nat) : Int); omega), x, _, c, rfl, rfl, xl, hc, _, rfl, c, g, rfl, rfl, _, rfl, ?_⟩⟩
      refine ite2 (fun _ => ?_) (fun _ => ⟨_, rfl, rfl⟩)
      refine ⟨_, rfl, _, rfl, _, _, rfl, rfl, .inl ⟨_, rfl, _, rfl, _, rfl, xl, _, _, rfl, rfl, (by show (0 : Int) < ((x.length : Nat) : Int); omega), ?_⟩⟩
      exact ⟨_, _, rfl, rfl, m0, by omega⟩
    · rintro σ H' ⟨v4, rfl, rfl⟩
      exact ⟨pl, v4, rfl, rfl, h0, h1⟩
  rintro σ H' ⟨a, v4, rfl, rfl, a0, a1⟩
  refine ⟨_, rfl, ?_⟩
  refine ⟨fun σ H'' => ∃ (a b : Int) (v4 : Option V), σ = [some (.str x), some (.int pl), some (.str g), some (.int a), v4, some (.int b)] ∧ H'' = H', ?_, ?_⟩
  · refine ⟨_, rfl, _, rfl, xl, _, rfl, by omega, by omega, for_range (lo := 0) (n := (((x.length : Nat) : Int)).toNat) (fun i σ H'' => ∃ (a b : Int) (v4 : Option V), σ = [some (.str x), some (.int pl), some (.str g), some (.int a), v4, some (.int b)] ∧ H'' = H' ∧ 0 ≤ a ∧ a ≤ (x.length : Nat) ∧ 0 ≤ b ∧ b ≤ (x.length : Nat)) ⟨a, a, v4, rfl, rfl, a0, a1, a0, a1⟩ ?_ ?_⟩
    · rintro i σ H'' hi ⟨a, b, v4, rfl, rfl, a0, a1, b0, b1⟩
      refine ⟨fun σ H3 => ∃ (a : Int), σ = [some (.str x), some (.int pl), some (.str g), some (.int a), some (.int (0 + (i : Int))), some (.int b)] ∧ H3 = H'' ∧ 0 ≤ a ∧ a ≤ (x.length : Nat), ?_, ?_⟩
      · refine ⟨_, rfl, _, _, rfl, rfl, _, rfl, ?_⟩
        refine ite2 (fun c => ?_) (fun _ => ⟨a, rfl, rfl, a0, a1⟩)
        have c1 := dec_lt c
        obtain ⟨d, hd⟩ := sign_at (x := x) (j := a - 1) (by omega) (by omega)
        refine ⟨_, rfl, _, rfl, _, _, rfl, rfl, x, _, d, rfl, rfl, xl, hd, _, rfl, d, g, rfl, rfl, _, rfl, ?_⟩
        refine ite2 (fun _ => ?_) (fun _ => ⟨a, rfl, rfl, a0, a1⟩)
        refine ⟨_, rfl, _, _, rfl, rfl, ?_⟩
        exact ⟨a - 1, rfl, rfl, by omega, by omega⟩
      · rintro σ H3 ⟨a, rfl, rfl, a0, a1⟩
        refine ⟨_, rfl, _, rfl, _, rfl, xl, _, _, rfl, rfl, _, rfl, ?_⟩
        refine ite2 (fun c => ?_) (fun _ => ⟨a, b, _, rfl, rfl, a0, a1, b0, b1⟩)
        have c1 := dec_lt c
        obtain ⟨d, hd⟩ := sign_at (x := x) (j := b) b0 c1
        refine ⟨_, rfl, _, rfl, x, _, d, rfl, rfl, xl, hd, _, rfl, d, g, rfl, rfl, _, rfl, ?_⟩
        refine ite2 (fun _ => ?_) (fun _ => ⟨a, b, _, rfl, rfl, a0, a1, b0, b1⟩)
        refine ⟨_, rfl, _, _, rfl, rfl, ?_⟩
        exact ⟨a, b + 1, _, rfl, rfl, a0, a1, by omega, by omega⟩
    · rintro σ H'' ⟨a, b, v4, rfl, rfl, _⟩
      exact ⟨a, b, v4, rfl, rfl⟩
  rintro σ H'' ⟨a, b, v4, rfl, rfl⟩
  exact ⟨_, rfl, _, rfl, two_line, fun u hu => q a b u _ (same_new hu _) upd_same⟩
end
end P66
set_option maxHeartbeats 8000000
namespace P66
open PySem PySem.Spec PyProof.Rows L2 SX EX
def spoilSizes : List Int := [15, 400, 94, 12, 2]
section
variable {P : Program} {w : World} {K : PySem.W.Frag} {mg : Str → Option Value} {base : Heap} {f : Addr} {fd : FuncData} {cB cC : Addr}
def spSpoilt : Sp := fun vs H Q _ => ∃ (x : Str) (r : Addr) (ds : List Int), vs = [.str x, .ref r] ∧ Sm 400 x ∧ H r = some (.lst (ds.map V.int)) ∧ Dig ds spoilSizes ∧ ∀ y H', Same H H' → Sm 400 y → Q (.str y) H'
abbrev s__law_spoilt : Stmt := top 65
abbrev N__law_spoilt : List Str := ["text", "row", "place", "sign", "words", "figures", "around", "word", "number", "changed"]
theorem sc__law_spoilt : FnScope N__law_spoilt ["text", "row"] (defScope s__law_spoilt) := ⟨rfl, rfl, rfl, by decide +kernel, rfl, by decide +kernel, by decide +kernel⟩
theorem sm_le {k m : Nat} {x : Str} (h : Sm k x) (hk : k ≤ m) : Sm m x := Nat.le_trans h hk
theorem al_nil {m : Nat} : ∀ y ∈ ([] : List Str), Sm m y := fun y h => nomatch h
theorem al_cons {m : Nat} {x : Str} {ys : List Str} (h : Sm m x) (t : ∀ y ∈ ys, Sm m y) : ∀ y ∈ x :: ys, Sm m y := fun y hy => (List.mem_cons.mp hy).elim (fun e => by rw [e]; exact h) (t y)
theorem al_app {m : Nat} {xs ys : List Str} (h : ∀ y ∈ xs, Sm m y) (t : ∀ y ∈ ys, Sm m y) : ∀ y ∈ xs ++ ys, Sm m y := fun y hy => (List.mem_append.mp hy).elim (h y) (t y)
/-- the list of changes: n texts at p, over what stood at Hb -/
structure Ch (Hb H' : Hp) (p : Addr) (ys : List Str) : Prop where
  same : Same Hb H'
  free : Hb p = none
  at_ : H' p = some (.lst (ys.map V.str))
  sm : ∀ y ∈ ys, Sm 4000 y
theorem Ch.app {Hb H' : Hp} {p : Addr} {ys : List Str} {z : Str} (c : Ch Hb H' p ys) (hz : Sm 4000 z) : Ch Hb (upd H' p (.lst (ys.map V.str ++ [V.str z]))) p (ys ++ [z]) :=
  ⟨same_at c.same c.free, c.free, by rw [upd_same, List.map_append]; rfl, al_app c.sm (al_cons hz al_nil)⟩
theorem Ch.cat {Hb H' : Hp} {p q u : Addr} {ys zs : List Str} (c : Ch Hb H' p ys) (hq : H' q = none) (hu : upd H' q (.lst (zs.map V.str)) u = none) (hz : ∀ y ∈ zs, Sm 4000 y) : Ch Hb (upd (upd H' q (.lst (zs.map V.str))) u (.lst (ys.map V.str ++ zs.map V.str))) u (ys ++ zs) :=
  ⟨c.same.trans ((same_new hq _).trans (same_new hu _)), (c.same.trans (same_new hq _)).free hu, by rw [upd_same, List.map_append], al_app c.sm hz⟩
theorem ok__law_spoilt (F : Fun K "_law_spoilt" "_law_spoilt" s__law_spoilt f fd) (T : Txt mg) (C__law_signs : Cal P w K mg base 1 "_law_signs" [] spSigns) (C__law_token : Cal P w K mg base 1 "_law_token" ["text", "place", "signs"] spTok) : FnOk P w K mg base CX0 2 f fd ["text", "row"] spSpoilt := by
  refine F.ok sc__law_spoilt (fun vs H Q E h => ?_) (fun cdv A outer s H vs Q E hr h => ?_)
  · obtain ⟨x, r, ds, rfl, _⟩ := h
    rfl
  obtain ⟨x, r, ds, rfl, hx, hrow, hd, q⟩ := h
  refine ⟨_, (pss_cons (ps_set (i := 2) sc__law_spoilt.nd rfl (Or.inl rfl) (pe_op op_mod (pe_callTy call_int1 (by rfl) T.b_int (by decide +kernel) (pa_cons (pe_ix ix_list (pv 1) pe_int (fun _ _ => rfl)) pa_nil)) (pe_op op_add (pe_callB call_len_str (by rfl) T.b_len PySem.boot_len (pa_cons (pv 0) pa_nil)) pe_int)))
  (pss_cons (ps_set (i := 3) sc__law_spoilt.nd rfl (Or.inl rfl) (pe_ix ix_str (pe_cal0 C__law_signs (hr.mono (by omega)) rfl) (pe_ix ix_list (pv 1) pe_int (fun _ _ => rfl)) (fun _ _ => rfl)))
  (C8.pss_cut (ps_if (pt_cmpR op_eq (pe_ix ix_list (pv 1) pe_int (fun _ _ => rfl)) pe_int (nomark _)) (pss_one (ps_set (i := 3) sc__law_spoilt.nd rfl (Or.inl rfl) (pe_ix ix_str pe_str (pe_op op_mod (pe_callTy call_int1 (by rfl) T.b_int (by decide +kernel) (pa_cons (pe_ix ix_list (pv 1) pe_int (fun _ _ => rfl)) pa_nil)) pe_int) (fun _ _ => rfl)))) pss_nil)
  (pss_cons (ps_set (i := 4) sc__law_spoilt.nd rfl (Or.inl rfl) (pe_lst (pa_cons pe_str (pa_cons pe_str (pa_cons pe_str (pa_cons pe_str (pa_cons pe_str (pa_cons pe_str (pa_cons pe_str (pa_cons pe_str (pa_cons pe_str (pa_cons pe_str (pa_cons pe_str (pa_cons pe_str pa_nil))))))))))))))
  (pss_cons (ps_set (i := 5) sc__law_spoilt.nd rfl (Or.inl rfl) (pe_lst (pa_cons pe_str (pa_cons pe_str (pa_cons pe_str (pa_cons pe_str (pa_cons pe_str (pa_cons pe_str (pa_cons pe_str (pa_cons pe_str (pa_cons pe_str (pa_cons pe_str (pa_cons pe_str (pa_cons pe_str pa_nil))))))))))))))
  (pss_cons (ps_set (i := 6) sc__law_spoilt.nd rfl (Or.inl rfl) (pe_lst (pa_cons (pe_op op_add_str (pe_op op_add_str pe_str (pv 0)) pe_str) (pa_cons (pe_op op_add_str pe_str (pv 0)) (pa_cons (pe_op op_add_str (pv 0) pe_str) (pa_cons (pe_op op_add_str pe_str (pv 0)) (pa_cons (pe_op op_add_str (pv 0) pe_str) (pa_cons (pe_op op_add_str pe_str (pv 0)) (pa_cons (pe_op op_add_str pe_str (pv 0)) pa_nil)))))))))
  (pss_cons (ps_set (i := 6) sc__law_spoilt.nd rfl (Or.inl rfl) (pe_op op_cat (pv 6) (pe_lst (pa_cons (pe_op op_add_str pe_str (pv 0)) (pa_cons (pe_op op_add_str pe_str (pv 0)) (pa_cons (pe_op op_add_str (pv 0) (pv 0)) (pa_cons (pe_op op_add_str (pe_op op_add_str pe_str (pv 0)) pe_str) (pa_cons (pe_op op_add_str (pv 0) pe_str) pa_nil))))))))
  (pss_cons (ps_set (i := 7) sc__law_spoilt.nd rfl (Or.inl rfl) (pe_cal C__law_token (hr.mono (by omega)) rfl (pa_cons (pv 0) (pa_cons (pv 2) (pa_cons pe_str pa_nil)))))
  (pss_cons (ps_set (i := 8) sc__law_spoilt.nd rfl (Or.inl rfl) (pe_cal C__law_token (hr.mono (by omega)) rfl (pa_cons (pv 0) (pa_cons (pv 2) (pa_cons pe_str pa_nil)))))
  (pss_cons (ps_set (i := 9) sc__law_spoilt.nd rfl (Or.inl rfl) (pe_lst (pa_cons (pe_op op_add_str (pe_op op_add_str (pe_slice sl_str (pv 0) po_none (po_some (pv 2))) (pv 3)) (pe_slice sl_str (pv 0) (po_some (pv 2)) po_none)) (pa_cons (pe_op op_add_str (pe_slice sl_str (pv 0) po_none (po_some (pv 2))) (pe_slice sl_str (pv 0) (po_some (pe_op op_add (pv 2) pe_int)) po_none)) pa_nil))))
  (pss_cons (ps_expr (pe_bm PySem.F.plainAttrs_list PySem.F.slot_list_append PySem.F.type_list_append mt_append (pv 9) (pa_cons (pe_op op_add_str (pe_op op_add_str (pe_slice sl_str (pv 0) po_none (po_some (pv 2))) (pv 3)) (pe_slice sl_str (pv 0) (po_some (pe_op op_add (pv 2) pe_int)) po_none)) pa_nil)))
  (pss_cons (ps_expr (pe_bm PySem.F.plainAttrs_list PySem.F.slot_list_append PySem.F.type_list_append mt_append (pv 9) (pa_cons (pe_op op_add_str (pe_op op_add_str (pe_op op_add_str (pe_slice sl_str (pv 0) po_none (po_some (pv 2))) (pe_slice sl_str (pv 0) (po_some (pe_op op_add (pv 2) pe_int)) (po_some (pe_op op_add (pv 2) pe_int)))) (pe_slice sl_str (pv 0) (po_some (pv 2)) (po_some (pe_op op_add (pv 2) pe_int)))) (pe_slice sl_str (pv 0) (po_some (pe_op op_add (pv 2) pe_int)) po_none)) pa_nil)))
  (pss_cons (ps_set (i := 9) sc__law_spoilt.nd rfl (Or.inl rfl) (pe_op op_cat (pv 9) (pe_lst (pa_cons (pe_slice sl_str (pv 0) po_none (po_some (pv 2))) (pa_cons (pe_slice sl_str (pv 0) (po_some (pv 2)) po_none) (pa_cons (pe_op op_add_str (pe_op op_add_str (pe_slice sl_str (pv 0) po_none (po_some (pv 2))) (pe_slice sl_str (pv 0) (po_some (pv 2)) (po_some (pe_op op_add (pv 2) pe_int)))) (pe_slice sl_str (pv 0) (po_some (pv 2)) po_none)) pa_nil))))))
  (pss_cons (ps_expr (pe_bm PySem.F.plainAttrs_list PySem.F.slot_list_append PySem.F.type_list_append mt_append (pv 9) (pa_cons (pe_op op_add_str (pe_op op_add_str (pe_slice sl_str (pv 0) po_none (po_some (pe_ix ix_list (pv 7) pe_int (fun _ _ => rfl)))) (pe_ix ix_list (pv 4) (pe_ix ix_list (pv 1) pe_int (fun _ _ => rfl)) (fun _ _ => rfl))) (pe_slice sl_str (pv 0) (po_some (pe_ix ix_list (pv 7) pe_int (fun _ _ => rfl))) po_none)) pa_nil)))
  (pss_cons (ps_expr (pe_bm PySem.F.plainAttrs_list PySem.F.slot_list_append PySem.F.type_list_append mt_append (pv 9) (pa_cons (pe_op op_add_str (pe_op op_add_str (pe_slice sl_str (pv 0) po_none (po_some (pe_ix ix_list (pv 8) pe_int (fun _ _ => rfl)))) (pe_ix ix_list (pv 5) (pe_ix ix_list (pv 1) pe_int (fun _ _ => rfl)) (fun _ _ => rfl))) (pe_slice sl_str (pv 0) (po_some (pe_ix ix_list (pv 8) pe_int (fun _ _ => rfl))) po_none)) pa_nil)))
  (pss_cons (ps_expr (pe_bm PySem.F.plainAttrs_list PySem.F.slot_list_append PySem.F.type_list_append mt_append (pv 9) (pa_cons (pe_op op_add_str (pe_op op_add_str (pe_slice sl_str (pv 0) po_none (po_some (pe_ix ix_list (pv 8) pe_int (fun _ _ => rfl)))) (pe_ix ix_list (pv 5) (pe_ix ix_list (pv 1) pe_int (fun _ _ => rfl)) (fun _ _ => rfl))) (pe_slice sl_str (pv 0) (po_some (pe_ix ix_list (pv 8) pe_int (fun _ _ => rfl))) po_none)) pa_nil)))
  (pss_cons (ps_set (i := 9) sc__law_spoilt.nd rfl (Or.inl rfl) (pe_op op_cat (pv 9) (pe_lst (pa_cons (pe_ix ix_list (pv 6) (pe_ix ix_list (pv 1) pe_int (fun _ _ => rfl)) (fun _ _ => rfl)) (pa_cons (pe_op op_add_str (pe_op op_add_str (pe_slice sl_str (pv 0) po_none (po_some (pv 2))) pe_str) (pe_slice sl_str (pv 0) (po_some (pv 2)) po_none)) (pa_cons (pv 0) (pa_cons (pv 0) (pa_cons (pv 0) pa_nil))))))))
  (pss_one (ps_ret (pe_slice sl_str (pe_ix ix_list (pv 9) (pe_ix ix_list (pv 1) pe_int (fun _ _ => rfl)) (fun _ _ => rfl)) po_none (po_some pe_int))))))))))))))))))))), ?_⟩
  have dig : ∀ (i : Nat) (z : Int), spoilSizes[i]? = some z → ∃ n, (ds.map V.int)[i]? = some (.int n) ∧ 0 ≤ n ∧ n < z := fun i z h => by
    obtain ⟨n, h1, h2, h3⟩ := hd.get h
    exact ⟨n, int_at h1, h2, h3⟩
  obtain ⟨d0, e0, a0, b0⟩ := dig 0 15 rfl
  obtain ⟨d1, e1, a1, b1⟩ := dig 1 400 rfl
  obtain ⟨d2, e2, a2, b2⟩ := dig 2 94 rfl
  obtain ⟨d3, e3, a3, b3⟩ := dig 3 12 rfl
  obtain ⟨d4, e4, a4, b4⟩ := dig 4 2 rfl
  have xl := sm_line hx (by decide)
  have sc : ∀ {lo hi : Option Int}, Sm 400 (cutS x lo hi) := fun {lo hi} => Nat.le_trans (cutS_length x lo hi) hx
  have one : ∀ c : Nat, Sm 1 (⟨#[c]⟩ : Str) := fun c => Nat.le_refl 1
  -- place, sign
  refine ⟨_, rfl, r, _, 1, _, rfl, rfl, SqL.of hrow, at_pos (by decide) e1, .inl ⟨_, rfl, _, rfl, _, rfl, xl, _, _, rfl, rfl, _, _, rfl, rfl, (by show (0 : Int) < ((x.length : Nat) : Int) + 1; omega), ?_⟩⟩
  have p0 : 0 ≤ d1 % (((x.length : Nat) : Int) + 1) := Int.emod_nonneg _ (by omega)
  have p1 : d1 % (((x.length : Nat) : Int) + 1) < ((x.length : Nat) : Int) + 1 := Int.emod_lt_of_pos _ (by omega)
  refine ⟨rfl, fun g hg => ?_⟩
  obtain ⟨c0, hc0⟩ := sign_at (x := g) (j := d2) a2 (by omega)
  refine ⟨_, rfl, r, _, 2, _, rfl, rfl, SqL.of hrow, at_pos (by decide) e2, g, _, c0, rfl, rfl, line_ge (by omega), hc0, ?_⟩
  refine ⟨fun σ H' => ∃ c : Nat, σ = [some (.str x), some (.ref r), some (.int (d1 % (((x.length : Nat) : Int) + 1))), some (.str ⟨#[c]⟩), none, none, none, none, none, none] ∧ H' = H, ?_, ?_⟩
  · refine ⟨_, rfl, r, _, 4, _, rfl, rfl, SqL.of hrow, at_pos (by decide) e4, rfl, _, rfl, ?_⟩
    refine ite2 (fun _ => ?_) (fun _ => ⟨c0, rfl, rfl⟩)
    obtain ⟨c1, hc1⟩ := sign_at (x := (" ()+*/0129athinsbe(+) " : Str)) (j := d2 % 22) (Int.emod_nonneg _ (by decide)) (Int.lt_of_lt_of_le (Int.emod_lt_of_pos _ (by decide)) (by decide +kernel))
    refine ⟨_, rfl, r, _, 2, _, rfl, rfl, SqL.of hrow, at_pos (by decide) e2, .inl ⟨_, rfl, _, _, rfl, rfl, (by show (0 : Int) < 22; decide), _, _, c1, rfl, rfl, (by decide +kernel), hc1, ?_⟩⟩
    exact ⟨c1, rfl, rfl⟩
  rintro σ H1 ⟨c, rfl, rfl⟩
  generalize d1 % (((x.length : Nat) : Int) + 1) = pl at p0 p1
  -- words, figures, around
  refine ⟨line_ge (by show 12 ≤ _; omega), fun pw hpw => ?_⟩
  refine ⟨line_ge (by show 12 ≤ _; omega), fun pf hpf => ?_⟩
  have gw := same_new hpw (.lst [V.str "thin", V.str "spare", V.str "base", V.str "a", V.str "abcdefgh", V.str "abcdefghi", V.str "sparespar", V.str "B", V.str "thin 2 a", V.str "(a + b)", V.str "a b", V.str ""])
  have gf := same_new hpf (.lst [V.str "0", V.str "1", V.str "2", V.str "10", V.str "11", V.str "02", V.str "999", V.str "1000", V.str "007", V.str "12", V.str "-1", V.str "3/4"])
  have hwo : Strs (upd H1 pw (.lst [V.str "thin", V.str "spare", V.str "base", V.str "a", V.str "abcdefgh", V.str "abcdefghi", V.str "sparespar", V.str "B", V.str "thin 2 a", V.str "(a + b)", V.str "a b", V.str ""])) pw 12 20 := ⟨[("thin" : Str), "spare", "base", "a", "abcdefgh", "abcdefghi", "sparespar", "B", "thin 2 a", "(a + b)", "a b", ""], upd_same, rfl, by decide +kernel⟩
  have hwo2 := hwo.same gf
  have hfi : Strs (upd (upd H1 pw (.lst [V.str "thin", V.str "spare", V.str "base", V.str "a", V.str "abcdefgh", V.str "abcdefghi", V.str "sparespar", V.str "B", V.str "thin 2 a", V.str "(a + b)", V.str "a b", V.str ""])) pf (.lst [V.str "0", V.str "1", V.str "2", V.str "10", V.str "11", V.str "02", V.str "999", V.str "1000", V.str "007", V.str "12", V.str "-1", V.str "3/4"])) pf 12 20 := ⟨[("0" : Str), "1", "2", "10", "11", "02", "999", "1000", "007", "12", "-1", "3/4"], upd_same, rfl, by decide +kernel⟩
  have g2 := gw.trans gf
  generalize upd (upd H1 pw (.lst [V.str "thin", V.str "spare", V.str "base", V.str "a", V.str "abcdefgh", V.str "abcdefghi", V.str "sparespar", V.str "B", V.str "thin 2 a", V.str "(a + b)", V.str "a b", V.str ""])) pf (.lst [V.str "0", V.str "1", V.str "2", V.str "10", V.str "11", V.str "02", V.str "999", V.str "1000", V.str "007", V.str "12", V.str "-1", V.str "3/4"]) = H2 at g2 hfi hwo2
  clear hwo gw gf
  have hrow2 := g2 _ _ hrow
  have lit : ∀ {z : Str}, Sm 20 z → Sm 4000 z := fun h => sm_le h (by decide)
  refine ⟨_, rfl, _, _, rfl, rfl, lin (m := 20) (n := 400) (by decide +kernel) hx (by decide), _, _, rfl, rfl, lin (m := 420) (n := 20) (sm_app (m := 20) (n := 400) (by decide +kernel) hx) (by decide +kernel) (by decide), _, rfl, _, _, rfl, rfl, lin (m := 20) (n := 400) (by decide +kernel) hx (by decide), _, rfl, _, _, rfl, rfl, lin (m := 400) (n := 20) hx (by decide +kernel) (by decide), _, rfl, _, _, rfl, rfl, lin (m := 20) (n := 400) (by decide +kernel) hx (by decide), _, rfl, _, _, rfl, rfl, lin (m := 400) (n := 20) hx (by decide +kernel) (by decide), _, rfl, _, _, rfl, rfl, lin (m := 20) (n := 400) (by decide +kernel) hx (by decide), _, rfl, _, _, rfl, rfl, lin (m := 20) (n := 400) (by decide +kernel) hx (by decide), line_ge (by show 7 ≤ _; omega), fun pa hpa => ?_⟩
  have ga := same_new hpa (.lst [V.str (("(" : Str) ++ x ++ (")" : Str)), V.str (("(" : Str) ++ x), V.str (x ++ (")" : Str)), V.str ((" " : Str) ++ x), V.str (x ++ (" " : Str)), V.str (("thin 2 " : Str) ++ x), V.str (("spare " : Str) ++ x)])
  refine ⟨_, rfl, _, rfl, _, _, rfl, rfl, lin (m := 20) (n := 400) (by decide +kernel) hx (by decide), _, rfl, _, _, rfl, rfl, lin (m := 20) (n := 400) (by decide +kernel) hx (by decide), _, rfl, _, rfl, _, _, rfl, rfl, lin (m := 400) (n := 400) hx hx (by decide), _, rfl, _, _, rfl, rfl, lin (m := 20) (n := 400) (by decide +kernel) hx (by decide), _, _, rfl, rfl, lin (m := 420) (n := 20) (sm_app (m := 20) (n := 400) (by decide +kernel) hx) (by decide +kernel) (by decide), _, rfl, _, _, rfl, rfl, lin (m := 400) (n := 20) hx (by decide +kernel) (by decide), line_ge (by show 5 ≤ _; omega), fun pb hpb => ?_⟩
  have gbb := same_new hpb (.lst [V.str (("1/1 * " : Str) ++ x), V.str (("base" : Str) ++ x), V.str (x ++ x), V.str (("(" : Str) ++ x ++ (" + a)" : Str)), V.str (x ++ (" + a" : Str))])
  refine ⟨pa, pb, _, _, rfl, rfl, gbb _ _ upd_same, upd_same, line_ge (by show 7 + 5 ≤ _; omega), fun pr hpr => ?_⟩
  have hpr' := upd_same (H := upd (upd H2 pa (.lst [V.str (("(" : Str) ++ x ++ (")" : Str)), V.str (("(" : Str) ++ x), V.str (x ++ (")" : Str)), V.str ((" " : Str) ++ x), V.str (x ++ (" " : Str)), V.str (("thin 2 " : Str) ++ x), V.str (("spare " : Str) ++ x)])) pb (.lst [V.str (("1/1 * " : Str) ++ x), V.str (("base" : Str) ++ x), V.str (x ++ x), V.str (("(" : Str) ++ x ++ (" + a)" : Str)), V.str (x ++ (" + a" : Str))])) (a := pr) (o := .lst ([V.str (("(" : Str) ++ x ++ (")" : Str)), V.str (("(" : Str) ++ x), V.str (x ++ (")" : Str)), V.str ((" " : Str) ++ x), V.str (x ++ (" " : Str)), V.str (("thin 2 " : Str) ++ x), V.str (("spare " : Str) ++ x)] ++ [V.str (("1/1 * " : Str) ++ x), V.str (("base" : Str) ++ x), V.str (x ++ x), V.str (("(" : Str) ++ x ++ (" + a)" : Str)), V.str (x ++ (" + a" : Str))]))
  have g3 := ga.trans (gbb.trans (same_new hpr (.lst ([V.str (("(" : Str) ++ x ++ (")" : Str)), V.str (("(" : Str) ++ x), V.str (x ++ (")" : Str)), V.str ((" " : Str) ++ x), V.str (x ++ (" " : Str)), V.str (("thin 2 " : Str) ++ x), V.str (("spare " : Str) ++ x)] ++ [V.str (("1/1 * " : Str) ++ x), V.str (("base" : Str) ++ x), V.str (x ++ x), V.str (("(" : Str) ++ x ++ (" + a)" : Str)), V.str (x ++ (" + a" : Str))]))))
  have l1 : ∀ z : Str, Sm 20 z → Sm 4000 (z ++ x) := fun z h => sm_le (sm_app h hx) (by decide)
  have l2 : ∀ z : Str, Sm 20 z → Sm 4000 (x ++ z) := fun z h => sm_le (sm_app hx h) (by decide)
  have l3 : ∀ z y : Str, Sm 20 z → Sm 20 y → Sm 4000 (z ++ x ++ y) := fun z y h k => sm_le (sm_app (sm_app h hx) k) (by decide)
  have xx : Sm 4000 (x ++ x) := sm_le (sm_app hx hx) (by decide)
  have har : ∀ H', H' pr = some (.lst ([V.str (("(" : Str) ++ x ++ (")" : Str)), V.str (("(" : Str) ++ x), V.str (x ++ (")" : Str)), V.str ((" " : Str) ++ x), V.str (x ++ (" " : Str)), V.str (("thin 2 " : Str) ++ x), V.str (("spare " : Str) ++ x)] ++ [V.str (("1/1 * " : Str) ++ x), V.str (("base" : Str) ++ x), V.str (x ++ x), V.str (("(" : Str) ++ x ++ (" + a)" : Str)), V.str (x ++ (" + a" : Str))])) → Strs H' pr 12 4000 := fun H' e =>
    ⟨[("(" : Str) ++ x ++ (")" : Str), ("(" : Str) ++ x, x ++ (")" : Str), (" " : Str) ++ x, x ++ (" " : Str), ("thin 2 " : Str) ++ x, ("spare " : Str) ++ x, ("1/1 * " : Str) ++ x, ("base" : Str) ++ x, x ++ x, ("(" : Str) ++ x ++ (" + a)" : Str), x ++ (" + a" : Str)], e, rfl,
      al_cons (l3 _ _ (by decide +kernel) (by decide +kernel)) (al_cons (l1 _ (by decide +kernel)) (al_cons (l2 _ (by decide +kernel)) (al_cons (l1 _ (by decide +kernel)) (al_cons (l2 _ (by decide +kernel)) (al_cons (l1 _ (by decide +kernel)) (al_cons (l1 _ (by decide +kernel)) (al_cons (l1 _ (by decide +kernel)) (al_cons (l1 _ (by decide +kernel)) (al_cons xx (al_cons (l3 _ _ (by decide +kernel) (by decide +kernel)) (al_cons (l2 _ (by decide +kernel)) al_nil)))))))))))⟩
  have har3 := har _ hpr'
  clear har hpr'
  have hw3 := hwo2.same g3
  have hf3 := hfi.same g3
  have hr3 := g3 _ _ hrow2
  have g03 := g2.trans g3
  generalize upd (upd (upd H2 pa _) pb _) pr _ = H3 at g3 g03 har3 hw3 hf3 hr3
  -- word, number
  refine ⟨_, rfl, _, rfl, x, _, pl, rfl, hx, p0, by omega, fun i1 j1 t1 H4 g4 ht1 => ?_⟩
  refine ⟨_, rfl, _, rfl, x, _, pl, rfl, hx, p0, by omega, fun i2 j2 t2 H5 g5 ht2' => ?_⟩
  have g45 := g4.trans g5
  have ht1b := g5 _ _ ht1
  have g05 := g03.trans g45
  obtain ⟨wy, hw5, wl, wall⟩ := hw3.same g45
  obtain ⟨fy, hf5, fl, fall⟩ := hf3.same g45
  obtain ⟨ay, ha5, al, aall⟩ := har3.same g45
  have hr5 := g45 _ _ hr3
  obtain ⟨w3, hw3m, hw3a⟩ := strs_at (ys := wy) (j := d3) a3 (by rw [wl]; exact b3)
  obtain ⟨f3, hf3m, hf3a⟩ := strs_at (ys := fy) (j := d3) a3 (by rw [fl]; exact b3)
  obtain ⟨a3', ha3m, ha3a⟩ := strs_at (ys := ay) (j := d3) a3 (by rw [al]; exact b3)
  have sw := wall _ hw3m
  have sf := fall _ hf3m
  have sa := aall _ ha3m
  clear hw3 hf3 har3 hr3 g4 g5 g45 g3 g03 g2 hrow2 hwo2 hfi ht1 wall fall aall
  -- changed
  refine ⟨_, rfl, _, rfl, _, rfl, x, rfl, xl, _, rfl, _, _, rfl, rfl, (lin (m := 400) (n := 1) sc (one _) (by decide)), _, rfl, _, rfl, _, rfl, x, rfl, xl, _, _, rfl, rfl, (lin (m := 401) (n := 400) (sm_app sc (one _)) sc (by decide)), _, rfl, _, rfl, _, rfl, x, rfl, xl, _, rfl, _, rfl, _, _, rfl, rfl, _, rfl, x, rfl, xl, _, _, rfl, rfl, lin (m := 400) (n := 400) sc sc (by decide), two_line, fun pc hpc => ?_⟩
  have c0 : Ch H5 (upd H5 pc (.lst [V.str (cutS x none (some pl) ++ ⟨#[c]⟩ ++ cutS x (some pl) none), V.str (cutS x none (some pl) ++ cutS x (some (pl + 1)) none)])) pc [cutS x none (some pl) ++ ⟨#[c]⟩ ++ cutS x (some pl) none, cutS x none (some pl) ++ cutS x (some (pl + 1)) none] :=
    ⟨same_new hpc _, hpc, upd_same, al_cons (sm_le (sm_app (sm_app sc (one _)) sc) (by decide)) (al_cons (sm_le (sm_app sc sc) (by decide)) al_nil)⟩
  generalize upd H5 pc (.lst [V.str (cutS x none (some pl) ++ ⟨#[c]⟩ ++ cutS x (some pl) none), V.str (cutS x none (some pl) ++ cutS x (some (pl + 1)) none)]) = G0 at c0
  have n0 : ([cutS x none (some pl) ++ ⟨#[c]⟩ ++ cutS x (some pl) none, cutS x none (some pl) ++ cutS x (some (pl + 1)) none] : List Str).length = 2 := rfl
  generalize [cutS x none (some pl) ++ ⟨#[c]⟩ ++ cutS x (some pl) none, cutS x none (some pl) ++ cutS x (some (pl + 1)) none] = y0 at c0 n0
  refine ⟨_, rfl, .inl ⟨rfl, _, SqL.of c0.at_⟩, _, rfl, _, rfl, _, rfl, x, rfl, xl, _, rfl, _, _, rfl, rfl, lin (m := 400) (n := 1) sc (one _) (by decide), _, rfl, _, rfl, _, _, rfl, rfl, _, rfl, x, rfl, xl, _, _, rfl, rfl, lin (m := 401) (n := 400) (sm_app sc (one _)) sc (by decide), pc, _, _, rfl, rfl, c0.at_, small1000 (by rw [List.length_map, n0]; omega), ?_⟩
  have c1 := c0.app (z := cutS x none (some pl) ++ ⟨#[c]⟩ ++ cutS x (some (pl + 1)) none) (sm_le (sm_app (sm_app sc (one _)) sc) (by decide))
  have n1 : (y0 ++ [cutS x none (some pl) ++ ⟨#[c]⟩ ++ cutS x (some (pl + 1)) none]).length = 3 := by rw [List.length_append, n0]; rfl
  generalize upd G0 pc (.lst (y0.map V.str ++ [V.str (cutS x none (some pl) ++ ⟨#[c]⟩ ++ cutS x (some (pl + 1)) none)])) = G1 at c1
  generalize y0 ++ [cutS x none (some pl) ++ ⟨#[c]⟩ ++ cutS x (some (pl + 1)) none] = y1 at c1 n1
  clear c0 n0
  refine ⟨_, rfl, .inl ⟨rfl, _, SqL.of c1.at_⟩, _, rfl, _, rfl, _, rfl, x, rfl, xl, _, rfl, _, rfl, _, _, rfl, rfl, _, rfl, _, rfl, _, _, rfl, rfl, _, rfl, x, rfl, xl, _, _, rfl, rfl, lin (m := 400) (n := 400) sc sc (by decide), _, rfl, _, rfl, _, rfl, _, rfl, _, _, rfl, rfl, _, rfl, x, rfl, xl, _, _, rfl, rfl, lin (m := 800) (n := 400) (sm_app sc sc) sc (by decide), _, rfl, _, rfl, _, _, rfl, rfl, _, rfl, x, rfl, xl, _, _, rfl, rfl, lin (m := 1200) (n := 400) (sm_app (sm_app sc sc) sc) sc (by decide), pc, _, _, rfl, rfl, c1.at_, small1000 (by rw [List.length_map, n1]; omega), ?_⟩
  have c2 := c1.app (z := cutS x none (some pl) ++ cutS x (some (pl + 1)) (some (pl + 2)) ++ cutS x (some pl) (some (pl + 1)) ++ cutS x (some (pl + 2)) none) (sm_le (sm_app (sm_app (sm_app sc sc) sc) sc) (by decide))
  have n2 : (y1 ++ [cutS x none (some pl) ++ cutS x (some (pl + 1)) (some (pl + 2)) ++ cutS x (some pl) (some (pl + 1)) ++ cutS x (some (pl + 2)) none]).length = 4 := by rw [List.length_append, n1]; rfl
  generalize upd G1 pc (.lst (y1.map V.str ++ [V.str (cutS x none (some pl) ++ cutS x (some (pl + 1)) (some (pl + 2)) ++ cutS x (some pl) (some (pl + 1)) ++ cutS x (some (pl + 2)) none)])) = G2 at c2
  generalize y1 ++ [cutS x none (some pl) ++ cutS x (some (pl + 1)) (some (pl + 2)) ++ cutS x (some pl) (some (pl + 1)) ++ cutS x (some (pl + 2)) none] = y2 at c2 n2
  clear c1 n1
  refine ⟨_, rfl, _, rfl, _, rfl, _, rfl, x, rfl, xl, _, rfl, _, rfl, _, rfl, x, rfl, xl, _, rfl, _, rfl, _, rfl, x, rfl, xl, _, rfl, _, rfl, _, rfl, _, rfl, _, _, rfl, rfl, _, rfl, x, rfl, xl, _, _, rfl, rfl, lin (m := 400) (n := 400) sc sc (by decide), _, rfl, _, rfl, _, rfl, x, rfl, xl, _, _, rfl, rfl, lin (m := 800) (n := 400) (sm_app sc sc) sc (by decide), line_ge (by show 3 ≤ _; omega), fun pq hpq => ?_⟩
  refine ⟨pc, pq, _, _, rfl, rfl, (same_new hpq _) _ _ c2.at_, upd_same, line_ge (by rw [List.length_map, n2]; show _ + 3 ≤ _; omega), fun pu hpu => ?_⟩
  have c3 := c2.cat (zs := [cutS x none (some pl), cutS x (some pl) none, cutS x none (some pl) ++ cutS x (some pl) (some (pl + 1)) ++ cutS x (some pl) none]) hpq hpu (al_cons (sm_le sc (by decide)) (al_cons (sm_le sc (by decide)) (al_cons (sm_le (sm_app (sm_app sc sc) sc) (by decide)) al_nil)))
  have n3 : (y2 ++ [cutS x none (some pl), cutS x (some pl) none, cutS x none (some pl) ++ cutS x (some pl) (some (pl + 1)) ++ cutS x (some pl) none]).length = 7 := by rw [List.length_append, n2]; rfl
  have e3 : (upd (upd G2 pq (.lst (([cutS x none (some pl), cutS x (some pl) none, cutS x none (some pl) ++ cutS x (some pl) (some (pl + 1)) ++ cutS x (some pl) none] : List Str).map V.str))) pu (.lst (y2.map V.str ++ ([cutS x none (some pl), cutS x (some pl) none, cutS x none (some pl) ++ cutS x (some pl) (some (pl + 1)) ++ cutS x (some pl) none] : List Str).map V.str))) = (upd (upd G2 pq (.lst [V.str (cutS x none (some pl)), V.str (cutS x (some pl) none), V.str (cutS x none (some pl) ++ cutS x (some pl) (some (pl + 1)) ++ cutS x (some pl) none)])) pu (.lst (y2.map V.str ++ [V.str (cutS x none (some pl)), V.str (cutS x (some pl) none), V.str (cutS x none (some pl) ++ cutS x (some pl) (some (pl + 1)) ++ cutS x (some pl) none)]))) := rfl
  rw [e3] at c3
  clear e3 hpu
  generalize upd (upd G2 pq (.lst [V.str (cutS x none (some pl)), V.str (cutS x (some pl) none), V.str (cutS x none (some pl) ++ cutS x (some pl) (some (pl + 1)) ++ cutS x (some pl) none)])) pu (.lst (y2.map V.str ++ [V.str (cutS x none (some pl)), V.str (cutS x (some pl) none), V.str (cutS x none (some pl) ++ cutS x (some pl) (some (pl + 1)) ++ cutS x (some pl) none)])) = G3 at c3
  generalize y2 ++ [cutS x none (some pl), cutS x (some pl) none, cutS x none (some pl) ++ cutS x (some pl) (some (pl + 1)) ++ cutS x (some pl) none] = y3 at c3 n3
  clear c2 n2 hpq
  refine ⟨_, rfl, .inl ⟨rfl, _, SqL.of c3.at_⟩, _, rfl, _, rfl, t1, _, 0, _, rfl, rfl, SqL.of (c3.same _ _ ht1b), rfl, _, rfl, x, rfl, xl, _, rfl, _, rfl, r, _, 3, _, rfl, rfl, SqL.of (c3.same _ _ hr5), at_pos (by decide) e3, pw, _, d3, _, rfl, rfl, SqL.of (c3.same _ _ hw5), hw3a, _, _, rfl, rfl, lin (m := 400) (n := 20) sc sw (by decide), _, rfl, _, rfl, t1, _, 1, _, rfl, rfl, SqL.of (c3.same _ _ ht1b), rfl, _, rfl, x, rfl, xl, _, _, rfl, rfl, lin (m := 420) (n := 400) (sm_app sc sw) sc (by decide), pu, _, _, rfl, rfl, c3.at_, small1000 (by rw [List.length_map, n3]; omega), ?_⟩
  have c4 := c3.app (z := cutS x none (some i1) ++ w3 ++ cutS x (some j1) none) (sm_le (sm_app (sm_app sc sw) sc) (by decide))
  have n4 : (y3 ++ [cutS x none (some i1) ++ w3 ++ cutS x (some j1) none]).length = 8 := by rw [List.length_append, n3]; rfl
  generalize upd G3 pu (.lst (y3.map V.str ++ [V.str (cutS x none (some i1) ++ w3 ++ cutS x (some j1) none)])) = G4 at c4
  generalize y3 ++ [cutS x none (some i1) ++ w3 ++ cutS x (some j1) none] = y4 at c4 n4
  clear c3 n3
  refine ⟨_, rfl, .inl ⟨rfl, _, SqL.of c4.at_⟩, _, rfl, _, rfl, t2, _, 0, _, rfl, rfl, SqL.of (c4.same _ _ ht2'), rfl, _, rfl, x, rfl, xl, _, rfl, _, rfl, r, _, 3, _, rfl, rfl, SqL.of (c4.same _ _ hr5), at_pos (by decide) e3, pf, _, d3, _, rfl, rfl, SqL.of (c4.same _ _ hf5), hf3a, _, _, rfl, rfl, lin (m := 400) (n := 20) sc sf (by decide), _, rfl, _, rfl, t2, _, 1, _, rfl, rfl, SqL.of (c4.same _ _ ht2'), rfl, _, rfl, x, rfl, xl, _, _, rfl, rfl, lin (m := 420) (n := 400) (sm_app sc sf) sc (by decide), pu, _, _, rfl, rfl, c4.at_, small1000 (by rw [List.length_map, n4]; omega), ?_⟩
  have c5 := c4.app (z := cutS x none (some i2) ++ f3 ++ cutS x (some j2) none) (sm_le (sm_app (sm_app sc sf) sc) (by decide))
  have n5 : (y4 ++ [cutS x none (some i2) ++ f3 ++ cutS x (some j2) none]).length = 9 := by rw [List.length_append, n4]; rfl
  generalize upd G4 pu (.lst (y4.map V.str ++ [V.str (cutS x none (some i2) ++ f3 ++ cutS x (some j2) none)])) = G5 at c5
  generalize y4 ++ [cutS x none (some i2) ++ f3 ++ cutS x (some j2) none] = y5 at c5 n5
  clear c4 n4
  refine ⟨_, rfl, .inl ⟨rfl, _, SqL.of c5.at_⟩, _, rfl, _, rfl, t2, _, 0, _, rfl, rfl, SqL.of (c5.same _ _ ht2'), rfl, _, rfl, x, rfl, xl, _, rfl, _, rfl, r, _, 3, _, rfl, rfl, SqL.of (c5.same _ _ hr5), at_pos (by decide) e3, pf, _, d3, _, rfl, rfl, SqL.of (c5.same _ _ hf5), hf3a, _, _, rfl, rfl, lin (m := 400) (n := 20) sc sf (by decide), _, rfl, _, rfl, t2, _, 1, _, rfl, rfl, SqL.of (c5.same _ _ ht2'), rfl, _, rfl, x, rfl, xl, _, _, rfl, rfl, lin (m := 420) (n := 400) (sm_app sc sf) sc (by decide), pu, _, _, rfl, rfl, c5.at_, small1000 (by rw [List.length_map, n5]; omega), ?_⟩
  have c6 := c5.app (z := cutS x none (some i2) ++ f3 ++ cutS x (some j2) none) (sm_le (sm_app (sm_app sc sf) sc) (by decide))
  have n6 : (y5 ++ [cutS x none (some i2) ++ f3 ++ cutS x (some j2) none]).length = 10 := by rw [List.length_append, n5]; rfl
  generalize upd G5 pu (.lst (y5.map V.str ++ [V.str (cutS x none (some i2) ++ f3 ++ cutS x (some j2) none)])) = G6 at c6
  generalize y5 ++ [cutS x none (some i2) ++ f3 ++ cutS x (some j2) none] = y6 at c6 n6
  clear c5 n5
  refine ⟨_, rfl, _, rfl, _, rfl, r, _, 3, _, rfl, rfl, SqL.of (c6.same _ _ hr5), at_pos (by decide) e3, pr, _, d3, _, rfl, rfl, SqL.of (c6.same _ _ ha5), ha3a, _, rfl, _, rfl, _, rfl, x, rfl, xl, _, _, rfl, rfl, lin (m := 400) (n := 1) sc (one _) (by decide), _, rfl, _, rfl, _, rfl, x, rfl, xl, _, _, rfl, rfl, lin (m := 401) (n := 400) (sm_app sc (one _)) sc (by decide), _, rfl, _, rfl, _, rfl, line_ge (by show 5 ≤ _; omega), fun pv' hpv' => ?_⟩
  refine ⟨pu, pv', _, _, rfl, rfl, (same_new hpv' _) _ _ c6.at_, upd_same, line_ge (by rw [List.length_map, n6]; show _ + 5 ≤ _; omega), fun pw' hpw' => ?_⟩
  have c7 := c6.cat (zs := [a3', cutS x none (some pl) ++ (" " : Str) ++ cutS x (some pl) none, x, x, x]) hpv' hpw' (al_cons sa (al_cons (sm_le (sm_app (sm_app sc (one _)) sc) (by decide)) (al_cons (sm_le hx (by decide)) (al_cons (sm_le hx (by decide)) (al_cons (sm_le hx (by decide)) al_nil)))))
  have n7 : (y6 ++ [a3', cutS x none (some pl) ++ (" " : Str) ++ cutS x (some pl) none, x, x, x]).length = 15 := by rw [List.length_append, n6]; rfl
  have e7 : (upd (upd G6 pv' (.lst (([a3', cutS x none (some pl) ++ (" " : Str) ++ cutS x (some pl) none, x, x, x] : List Str).map V.str))) pw' (.lst (y6.map V.str ++ ([a3', cutS x none (some pl) ++ (" " : Str) ++ cutS x (some pl) none, x, x, x] : List Str).map V.str))) = (upd (upd G6 pv' (.lst [V.str (a3'), V.str (cutS x none (some pl) ++ (" " : Str) ++ cutS x (some pl) none), V.str (x), V.str (x), V.str (x)])) pw' (.lst (y6.map V.str ++ [V.str (a3'), V.str (cutS x none (some pl) ++ (" " : Str) ++ cutS x (some pl) none), V.str (x), V.str (x), V.str (x)]))) := rfl
  rw [e7] at c7
  clear e7 hpw'
  generalize upd (upd G6 pv' (.lst [V.str (a3'), V.str (cutS x none (some pl) ++ (" " : Str) ++ cutS x (some pl) none), V.str (x), V.str (x), V.str (x)])) pw' (.lst (y6.map V.str ++ [V.str (a3'), V.str (cutS x none (some pl) ++ (" " : Str) ++ cutS x (some pl) none), V.str (x), V.str (x), V.str (x)])) = G7 at c7
  generalize y6 ++ [a3', cutS x none (some pl) ++ (" " : Str) ++ cutS x (some pl) none, x, x, x] = y7 at c7 n7
  clear c6 n6 hpv'
  obtain ⟨z, hzm, hza⟩ := strs_at (ys := y7) (j := d0) a0 (by rw [n7]; exact b0)
  have hz := c7.sm _ hzm
  refine ⟨_, rfl, _, rfl, r, _, 0, _, rfl, rfl, SqL.of (c7.same _ _ hr5), at_pos (by decide) e0, pw', _, d0, _, rfl, rfl, SqL.of c7.at_, hza, _, rfl, z, rfl, sm_line hz (by decide), ?_⟩
  exact q _ _ (g05.trans c7.same) (cut_400 z)
end
end P66
set_option maxHeartbeats 8000000
namespace P66
open PySem PySem.Spec PyProof.Rows L2 SX EX
theorem cutV_of (ys : List Str) (hi : Int) (h0 : 0 ≤ hi) : ∃ zs : List Str, cutV (ys.map V.str) none (some hi) = zs.map V.str ∧ zs.length ≤ ys.length ∧ zs.length ≤ hi.toNat ∧ ∀ z ∈ zs, z ∈ ys := by
  refine ⟨(ys.drop (HT.sIx (ys.map V.str).length 0 none)).take (HT.sIx (ys.map V.str).length (ys.map V.str).length (some hi) - HT.sIx (ys.map V.str).length 0 none), ?_, ?_, ?_, ?_⟩
  · show ((ys.map V.str).drop _).take _ = _
    rw [List.map_take, List.map_drop]
  · rw [List.length_take, List.length_drop]
    omega
  · rw [List.length_take, List.length_drop]
    have e : HT.sIx (ys.map V.str).length (ys.map V.str).length (some hi) ≤ hi.toNat := by
      unfold HT.sIx
      simp only
      split <;> omega
    omega
  · intro z hz
    exact List.mem_of_mem_drop (List.mem_of_mem_take hz)
theorem sum_le (m : Nat) : ∀ zs : List Str, (∀ z ∈ zs, Sm m z) → (zs.map (·.length)).sum ≤ zs.length * m
  | [], _ => Nat.zero_le _
  | z :: zs, h => by
    have h1 : z.length ≤ m := h z (List.mem_cons_self ..)
    have h2 := sum_le m zs fun y hy => h y (List.mem_cons_of_mem _ hy)
    rw [List.map_cons, List.sum_cons, List.length_cons, Nat.succ_mul]
    omega
section
variable {P : Program} {w : World} {K : PySem.W.Frag} {mg : Str → Option Value} {base : Heap} {f : Addr} {fd : FuncData} {cB cC : Addr}
def spDrawn (K : PySem.W.Frag) : Sp := fun vs H Q _ => ∃ (a : Addr) (ns : List Int) (b : Bool) (n : Int), vs = [.ref a, .int 44, .bl b, .int n] ∧ SqL K H a (ns.map V.int) ∧ 0 ≤ n ∧ n < 401 ∧ ∀ y H', Same H H' → Sm 400 y → Q (.str y) H'
abbrev s__law_drawn : Stmt := top 66
abbrev N__law_drawn : List Str := ["script", "at", "pieces", "length", "menu", "signs", "drawn", "k", "t"]
theorem sc__law_drawn : FnScope N__law_drawn ["script", "at", "pieces", "length"] (defScope s__law_drawn) := ⟨rfl, rfl, rfl, by decide +kernel, rfl, by decide +kernel, by decide +kernel⟩
/-- the drawn pieces -/
structure Dr (H H' : Hp) (p : Addr) (n : Nat) : Prop where
  same : Same H H'
  at_ : ∃ ys : List Str, H' p = some (.lst (ys.map V.str)) ∧ ys.length ≤ n ∧ ∀ y ∈ ys, Sm 8 y
theorem ok__law_drawn (F : Fun K "_law_drawn" "_law_drawn" s__law_drawn f fd) (T : Txt mg) (C__law_signs : Cal P w K mg base 1 "_law_signs" [] spSigns) (C__law_cell : Cal P w K mg base 1 "_law_cell" ["script", "k"] (spCell K)) (C__law_digits : Cal P w K mg base 1 "_law_digits" ["cell", "sizes"] (spDigits K)) : FnOk P w K mg base CX0 2 f fd ["script", "at", "pieces", "length"] (spDrawn K) := by
  refine F.ok sc__law_drawn (fun vs H Q E h => ?_) (fun cdv A outer s H vs Q E hr h => ?_)
  · obtain ⟨a, ns, b, n, rfl, _⟩ := h
    rfl
  obtain ⟨a, ns, b, n, rfl, hS, n0, n4, q⟩ := h
  refine ⟨_, (pss_cons (ps_set (i := 4) sc__law_drawn.nd rfl (Or.inr rfl) (pe_lst (pa_cons pe_str (pa_cons pe_str (pa_cons pe_str (pa_cons pe_str (pa_cons pe_str (pa_cons pe_str (pa_cons pe_str (pa_cons pe_str (pa_cons pe_str (pa_cons pe_str (pa_cons pe_str (pa_cons pe_str (pa_cons pe_str (pa_cons pe_str pa_nil))))))))))))))))
  (pss_cons (ps_set (i := 4) sc__law_drawn.nd rfl (Or.inr rfl) (pe_op op_cat (pv 4) (pe_lst (pa_cons pe_str (pa_cons pe_str pa_nil)))))
  (pss_cons (ps_set (i := 5) sc__law_drawn.nd rfl (Or.inr rfl) (pe_cal0 C__law_signs (hr.mono (by omega)) rfl))
  (pss_cons (ps_set (i := 6) sc__law_drawn.nd rfl (Or.inl rfl) (pe_lst pa_nil))
  (C8.pss_cut (ps_for PassesOwn.never rfl (pi_range1 (by rfl) T.b_range (pa_cons pe_int pa_nil)) (pg_name (i := 7) sc__law_drawn.nd rfl (Or.inl rfl)) (pss_one (ps_if (pt_val (pv 2)) (pss_one (ps_set (i := 6) sc__law_drawn.nd rfl (Or.inl rfl) (pe_op op_cat (pv 6) (pe_lc (own := [("t", 8)]) (g := gName 8) (tt := tYes) (by rfl) sc__law_drawn.nd (pi_list (pe_cal C__law_digits (hr.mono (by omega)) rfl (pa_cons (pe_cal C__law_cell (hr.mono (by omega)) rfl (pa_cons (pv 0) (pa_cons (pe_op op_add (pv 1) (pv 7)) pa_nil))) (pa_cons (pe_op op_rep (pe_lst (pa_cons pe_int pa_nil)) pe_int) pa_nil)))) (blkOk_by (N := N__law_drawn) (sc := defScope s__law_drawn) (by decide +kernel)) (fun _ _ _ _ _ => (pg_name (i := 8) sc__law_drawn.nd rfl (Or.inl rfl))) (fun _ _ _ _ _ => pts_nil) (fun _ _ _ _ _ => (pe_ix (ix_listK (K := K) rfl) (pv 4) (pv 8) (fun _ _ => rfl))))))) (pss_one (ps_set (i := 6) sc__law_drawn.nd rfl (Or.inl rfl) (pe_op op_cat (pv 6) (pe_lc (own := [("t", 8)]) (g := gName 8) (tt := tYes) (by rfl) sc__law_drawn.nd (pi_list (pe_cal C__law_digits (hr.mono (by omega)) rfl (pa_cons (pe_cal C__law_cell (hr.mono (by omega)) rfl (pa_cons (pv 0) (pa_cons (pe_op op_add (pv 1) (pv 7)) pa_nil))) (pa_cons (pe_op op_rep (pe_lst (pa_cons pe_int pa_nil)) pe_int) pa_nil)))) (blkOk_by (N := N__law_drawn) (sc := defScope s__law_drawn) (by decide +kernel)) (fun _ _ _ _ _ => (pg_name (i := 8) sc__law_drawn.nd rfl (Or.inl rfl))) (fun _ _ _ _ _ => pts_nil) (fun _ _ _ _ _ => (pe_ix ix_str (pv 5) (pv 8) (fun _ _ => rfl))))))))))
  (pss_cons (ps_if (PW.pt (pw_and (pt_val (pv 2)) (pw_and1 (pt_cmpR op_ge (pv 3) pe_int (nomark _))))) (pss_one (ps_ret (pe_join pe_str (pe_slice sl_list (pv 6) po_none (po_some (pe_op op_add pe_int (pe_op op_mod (pe_callTy call_int1 (by rfl) T.b_int (by decide +kernel) (pa_cons (pv 3) pa_nil)) pe_int))))))) pss_nil)
  (pss_one (ps_ret (pe_slice sl_str (pe_join pe_str (pe_slice sl_list (pv 6) po_none (po_some (pv 3)))) po_none (po_some pe_int)))))))))), ?_⟩
  refine ⟨line_ge (by show 14 ≤ _; omega), fun p1 h1 => ?_⟩
  refine ⟨_, rfl, line_ge (by show 2 ≤ _; omega), fun p2 h2 => ?_⟩
  refine ⟨p1, p2, _, _, rfl, rfl, same_new h2 _ _ _ upd_same, upd_same, line_ge (by show 14 + 2 ≤ _; omega), fun pm hpm => ?_⟩
  have g1 := (same_new h1 (.lst [V.str "(", V.str ")", V.str " + ", V.str "a", V.str "bc", V.str "thin ", V.str "thin 2 ", V.str "2", V.str " ", V.str "spare ", V.str "base ", V.str "1/2 * ", V.str "3/", V.str " * "])).trans ((same_new h2 (.lst [V.str "b)", V.str "(a + "])).trans (same_new hpm (.lst ([V.str "(", V.str ")", V.str " + ", V.str "a", V.str "bc", V.str "thin ", V.str "thin 2 ", V.str "2", V.str " ", V.str "spare ", V.str "base ", V.str "1/2 * ", V.str "3/", V.str " * "] ++ [V.str "b)", V.str "(a + "]))))
  have hm : Strs (upd (upd (upd H p1 (.lst [V.str "(", V.str ")", V.str " + ", V.str "a", V.str "bc", V.str "thin ", V.str "thin 2 ", V.str "2", V.str " ", V.str "spare ", V.str "base ", V.str "1/2 * ", V.str "3/", V.str " * "])) p2 (.lst [V.str "b)", V.str "(a + "])) pm (.lst ([V.str "(", V.str ")", V.str " + ", V.str "a", V.str "bc", V.str "thin ", V.str "thin 2 ", V.str "2", V.str " ", V.str "spare ", V.str "base ", V.str "1/2 * ", V.str "3/", V.str " * "] ++ [V.str "b)", V.str "(a + "]))) pm 16 8 := ⟨[("(" : Str), ")", " + ", "a", "bc", "thin ", "thin 2 ", "2", " ", "spare ", "base ", "1/2 * ", "3/", " * ", "b)", "(a + "], upd_same, rfl, by decide +kernel⟩
  generalize upd (upd (upd H p1 (.lst [V.str "(", V.str ")", V.str " + ", V.str "a", V.str "bc", V.str "thin ", V.str "thin 2 ", V.str "2", V.str " ", V.str "spare ", V.str "base ", V.str "1/2 * ", V.str "3/", V.str " * "])) p2 (.lst [V.str "b)", V.str "(a + "])) pm (.lst ([V.str "(", V.str ")", V.str " + ", V.str "a", V.str "bc", V.str "thin ", V.str "thin 2 ", V.str "2", V.str " ", V.str "spare ", V.str "base ", V.str "1/2 * ", V.str "3/", V.str " * "] ++ [V.str "b)", V.str "(a + "])) = H1 at g1 hm
  refine ⟨rfl, fun g hg => ?_⟩
  refine ⟨line_ge (by show 0 ≤ _; omega), fun pd hpd => ?_⟩
  have d0 : Dr H1 (upd H1 pd (.lst [])) pd (58 * 0) := ⟨same_new hpd _, [], upd_same, Nat.zero_le _, al_nil⟩
  generalize upd H1 pd (.lst []) = H2 at d0
  have hS1 := g1.seq hS
  refine ⟨fun σ H' => ∃ (pe : Addr) (v7 : Option V), σ = [some (.ref a), some (.int 44), some (.bl b), some (.int n), some (.ref pm), some (.str g), some (.ref pe), v7, none] ∧ Dr H1 H' pe (58 * 7), ?_, ?_⟩
  · refine ⟨7, rfl, by decide, by decide, for_range (lo := 0) (n := 7) (fun i σ H' => ∃ (pe : Addr) (v7 : Option V), σ = [some (.ref a), some (.int 44), some (.bl b), some (.int n), some (.ref pm), some (.str g), some (.ref pe), v7, none] ∧ Dr H1 H' pe (58 * i)) ⟨pd, none, rfl, d0⟩ ?_ ?_⟩
    · rintro i σ H3 hi ⟨pe, v7, rfl, g3, ys, hys, hyl, hya⟩
      have hi7 : i < 7 := hi
      cases b with
      | true =>
        refine ⟨_, rfl, true, rfl, ifT rfl ?_⟩
        refine ⟨_, rfl, _, rfl, _, rfl, _, rfl, _, _, rfl, rfl, a, ns, _, rfl, g3.seq hS1, by omega, by omega, fun c => ?_⟩
        refine ⟨line_ge (by show 1 ≤ _; omega), fun p4 hp4 => ?_⟩
        refine ⟨p4, 20, _, rfl, rfl, upd_same, by decide, by decide, line_ge (by show 1 * 20 ≤ _; omega), fun p5 hp5 => ?_⟩
        refine ⟨c, p5, List.replicate 20 16, rfl, SqL.of upd_same, by decide, by decide +kernel, fun p es hp hes => ?_⟩
        have g4 := (same_new hp4 (.lst [V.int 16])).trans ((same_new hp5 (.lst ((List.replicate 20 (16 : Int)).map V.int))).trans (same_new hp (.lst (es.map V.int))))
        have hes4 := upd_same (H := upd (upd H3 p4 (.lst [V.int 16])) p5 (.lst ((List.replicate 20 (16 : Int)).map V.int))) (a := p) (o := .lst (es.map V.int))
        have hel : es.length = 20 := by rw [hes.len]; rfl
        have heg : ∀ (i : Nat) (x : V), (es.map V.int)[i]? = some x → ∃ n : Int, x = .int n ∧ 0 ≤ n ∧ n < 16 := fun i x h => by
          rw [List.getElem?_map] at h
          cases e : es[i]? with
          | none => rw [e] at h; cases h
          | some k =>
            rw [e] at h
            have hi := (List.getElem?_eq_some_iff.mp e).1
            have hr : (List.replicate 20 (16 : Int))[i]? = some 16 := by rw [List.getElem?_replicate, if_pos (by omega)]
            obtain ⟨m, h1, h2, h3⟩ := hes.get hr
            rw [e] at h1
            cases h1
            exact ⟨k, (Option.some.inj h).symm, h2, h3⟩
        refine ⟨p, rfl, ⟨_, SqL.of hes4⟩, fun D hD => ?_⟩
        have hpD : p ≠ D := ne_of_none hes4 hD
        have gD := g4.trans (same_new hD (.lst []))
        refine lc_list (K := K) (a := p) (xs := es.map V.int) (fun i H' => Same H3 H' ∧ H' p = some (.lst (es.map V.int)) ∧ ∃ zs : List Str, zs.length = i ∧ H' D = some (.lst (zs.map V.str)) ∧ ∀ z ∈ zs, Sm 8 z) ⟨gD, same_new hD _ _ _ hes4, [], rfl, upd_same, al_nil⟩ (fun i H' _ ⟨_, g, _⟩ => SqL.of g) ?_ ?_
        · rintro i x H4 hx ⟨g5, hp5', zs, hzl, hzD, hza⟩
          obtain ⟨t, rfl, t0, t1⟩ := heg i x hx
          have hi2 : i < 20 := by
            have := (List.getElem?_eq_some_iff.mp hx).1
            rw [List.length_map] at this
            omega
          refine ⟨rfl, lc_yes ?_⟩
          obtain ⟨my, hm1, ml, mall⟩ := hm.same (g3.trans g5)
          obtain ⟨y, hym, hya'⟩ := strs_at (ys := my) (j := t) t0 (by rw [ml]; exact t1)
          have hy := mall _ hym
          refine ⟨_, rfl, _, rfl, pm, _, _, _, rfl, rfl, SqL.of hm1, hya', ?_⟩
          refine ⟨_, hzD, by rw [List.length_map, hzl]; exact small1000 (by omega), same_at g5 (g4.free hD), (upd_ne hpD).trans hp5', zs ++ [y], by rw [List.length_append, hzl]; rfl, by rw [upd_same, List.map_append]; rfl, al_app hza (al_cons hy al_nil)⟩
        rintro H4 ⟨g5, _, zs, hzl, hzD, hza⟩
        rw [List.length_map, hel] at hzl
        refine ⟨pe, D, _, _, rfl, rfl, g5 _ _ hys, hzD, line_ge (by rw [List.length_map, List.length_map]; omega), fun pu hpu => ?_⟩
        exact ⟨pu, _, rfl, (g3.trans g5).trans (same_new hpu _), ys ++ zs, by rw [upd_same, List.map_append], by rw [List.length_append]; omega, al_app hya hza⟩
      | false =>
        refine ⟨_, rfl, false, rfl, ifF rfl ?_⟩
        refine ⟨_, rfl, _, rfl, _, rfl, _, rfl, _, _, rfl, rfl, a, ns, _, rfl, g3.seq hS1, by omega, by omega, fun c => ?_⟩
        refine ⟨line_ge (by show 1 ≤ _; omega), fun p4 hp4 => ?_⟩
        refine ⟨p4, 58, _, rfl, rfl, upd_same, by decide, by decide, line_ge (by show 1 * 58 ≤ _; omega), fun p5 hp5 => ?_⟩
        refine ⟨c, p5, List.replicate 58 94, rfl, SqL.of upd_same, by decide, by decide +kernel, fun p es hp hes => ?_⟩
        have g4 := (same_new hp4 (.lst [V.int 94])).trans ((same_new hp5 (.lst ((List.replicate 58 (94 : Int)).map V.int))).trans (same_new hp (.lst (es.map V.int))))
        have hes4 := upd_same (H := upd (upd H3 p4 (.lst [V.int 94])) p5 (.lst ((List.replicate 58 (94 : Int)).map V.int))) (a := p) (o := .lst (es.map V.int))
        have hel : es.length = 58 := by rw [hes.len]; rfl
        have heg : ∀ (i : Nat) (x : V), (es.map V.int)[i]? = some x → ∃ n : Int, x = .int n ∧ 0 ≤ n ∧ n < 94 := fun i x h => by
          rw [List.getElem?_map] at h
          cases e : es[i]? with
          | none => rw [e] at h; cases h
          | some k =>
            rw [e] at h
            have hi := (List.getElem?_eq_some_iff.mp e).1
            have hr : (List.replicate 58 (94 : Int))[i]? = some 94 := by rw [List.getElem?_replicate, if_pos (by omega)]
            obtain ⟨m, h1, h2, h3⟩ := hes.get hr
            rw [e] at h1
            cases h1
            exact ⟨k, (Option.some.inj h).symm, h2, h3⟩
        refine ⟨p, rfl, ⟨_, SqL.of hes4⟩, fun D hD => ?_⟩
        have hpD : p ≠ D := ne_of_none hes4 hD
        have gD := g4.trans (same_new hD (.lst []))
        refine lc_list (K := K) (a := p) (xs := es.map V.int) (fun i H' => Same H3 H' ∧ H' p = some (.lst (es.map V.int)) ∧ ∃ zs : List Str, zs.length = i ∧ H' D = some (.lst (zs.map V.str)) ∧ ∀ z ∈ zs, Sm 8 z) ⟨gD, same_new hD _ _ _ hes4, [], rfl, upd_same, al_nil⟩ (fun i H' _ ⟨_, g, _⟩ => SqL.of g) ?_ ?_
        · rintro i x H4 hx ⟨g5, hp5', zs, hzl, hzD, hza⟩
          obtain ⟨t, rfl, t0, t1⟩ := heg i x hx
          have hi2 : i < 58 := by
            have := (List.getElem?_eq_some_iff.mp hx).1
            rw [List.length_map] at this
            omega
          refine ⟨rfl, lc_yes ?_⟩
          obtain ⟨c1, hc1⟩ := sign_at (x := g) (j := t) t0 (by omega)
          have hy : Sm 8 (⟨#[c1]⟩ : Str) := (by decide : (1 : Nat) ≤ 8)
          refine ⟨_, rfl, _, rfl, g, _, c1, rfl, rfl, line_ge (by omega), hc1, ?_⟩
          refine ⟨_, hzD, by rw [List.length_map, hzl]; exact small1000 (by omega), same_at g5 (g4.free hD), (upd_ne hpD).trans hp5', zs ++ [⟨#[c1]⟩], by rw [List.length_append, hzl]; rfl, by rw [upd_same, List.map_append]; rfl, al_app hza (al_cons hy al_nil)⟩
        rintro H4 ⟨g5, _, zs, hzl, hzD, hza⟩
        rw [List.length_map, hel] at hzl
        refine ⟨pe, D, _, _, rfl, rfl, g5 _ _ hys, hzD, line_ge (by rw [List.length_map, List.length_map]; omega), fun pu hpu => ?_⟩
        exact ⟨pu, _, rfl, (g3.trans g5).trans (same_new hpu _), ys ++ zs, by rw [upd_same, List.map_append], by rw [List.length_append]; omega, al_app hya hza⟩
    · rintro σ H3 ⟨pe, v7, rfl, d⟩
      exact ⟨pe, v7, rfl, d⟩
  rintro σ H3 ⟨pe, v7, rfl, g3, ys, hys, hyl, hya⟩
  have joined : ∀ zs : List Str, (∀ z ∈ zs, z ∈ ys) → zs.length ≤ ys.length → (zs.map (·.length)).sum + zs.length * ("" : Str).length ≤ 16777216 ∧ ∀ k, zs.length ≤ k → Sm (k * 8) (Txt.join "" zs) := fun zs hz hl => by
    have h1 := sum_le 8 zs fun z h => hya z (hz z h)
    have e0 : ("" : Str).length = 0 := rfl
    refine ⟨by rw [e0]; omega, fun k hk => ?_⟩
    rw [TL.join_eq]
    refine Nat.le_trans (StrLaws.join_length_le "" zs) ?_
    rw [e0]
    omega
  have tail : True := trivial
  cases b with
  | false =>
    refine ⟨_, rfl, false, rfl, ifF rfl ?_⟩
    refine ⟨⟨_, rfl⟩, _, rfl, _, rfl, _, rfl, pe, _, rfl, SqL.of hys, fun pk hpk => ?_⟩
    obtain ⟨zs, hz, hzl, _, hzm⟩ := cutV_of ys n n0
    obtain ⟨j1, j2⟩ := joined zs hzm hzl
    refine ⟨_, pk, zs, rfl, rfl, .inl (SqL.of (by rw [upd_same, hz])), j1, ?_⟩
    refine ⟨_, rfl, _, rfl, sm_line (j2 406 (by omega)) (by decide), ?_⟩
    exact q _ _ (g1.trans (g3.trans (same_new hpk _))) (cut_400 _)
  | true =>
    refine ⟨_, rfl, true, rfl, ifT rfl ?_⟩
    refine ⟨_, rfl, _, _, rfl, rfl, _, rfl, ?_⟩
    refine ite2 (fun _ => ?_) (fun _ => ?_)
    · obtain ⟨zs, hz, hzl, hz5, hzm⟩ := cutV_of ys (1 + n % 5) (by omega)
      obtain ⟨j1, j2⟩ := joined zs hzm hzl
      refine ⟨⟨_, rfl⟩, _, rfl, _, rfl, .inl ⟨_, rfl, _, _, rfl, rfl, (by show (0 : Int) < 5; decide), _, _, rfl, rfl, _, rfl, pe, _, rfl, SqL.of hys, fun pk hpk => ?_⟩⟩
      refine ⟨_, pk, zs, rfl, rfl, .inl (SqL.of (by rw [upd_same, hz])), j1, ?_⟩
      exact q _ _ (g1.trans (g3.trans (same_new hpk _))) (sm_le (j2 5 (by omega)) (by decide))
    · skip
      refine ⟨⟨_, rfl⟩, _, rfl, _, rfl, _, rfl, pe, _, rfl, SqL.of hys, fun pk hpk => ?_⟩
      obtain ⟨zs, hz, hzl, _, hzm⟩ := cutV_of ys n n0
      obtain ⟨j1, j2⟩ := joined zs hzm hzl
      refine ⟨_, pk, zs, rfl, rfl, .inl (SqL.of (by rw [upd_same, hz])), j1, ?_⟩
      refine ⟨_, rfl, _, rfl, sm_line (j2 406 (by omega)) (by decide), ?_⟩
      exact q _ _ (g1.trans (g3.trans (same_new hpk _))) (cut_400 _)
end
end P66
set_option maxHeartbeats 8000000
namespace P66
open PySem PySem.Spec PyProof.Rows L2 SX EX
def spLaw (K : PySem.W.Frag) : Sp := fun vs H Q _ => ∃ (a : Addr) (ns : List Int), vs = [.ref a] ∧ SqL K H a (ns.map V.int) ∧ ns.length ≤ 63 ∧ ∀ H', Q (.bl true) H'
abbrev s_law : Stmt := top 69
abbrev N_law : List Str := ["script", "shape", "sizes", "k", "rows", "many", "deep", "plan", "whole", "text"]
theorem sc_law : FnScope N_law ["script"] (defScope s_law) := ⟨rfl, rfl, rfl, by decide +kernel, rfl, by decide +kernel, by decide +kernel⟩
theorem same_atL {H H' : Hp} {D : Addr} {o : HO} (e : Same H H') (h : H D = none) : Same H (upd H' D o) := fun b u q => by
  rw [upd_ne (ne_of_none q h)]
  exact e b u q
theorem grow_bounds : ∀ z ∈ growSizes, 0 < z ∧ z.natAbs < 2 ^ 2000 := by decide +kernel
theorem many_at {d0 d1 : Int} (a0 : 0 ≤ d0) (b0 : d0 < 10) (a1 : 0 ≤ d1) (b1 : d1 < 40) : ∃ many : Int, atI [V.int (1 + d1 % 14), V.int (1 + d1), V.int 40, V.int 41, V.int 12, V.int 13] (if d0 - 4 > 0 then d0 - 4 else 0) = some (.int many) ∧ 1 ≤ many ∧ many ≤ 41 := by
  have h14 : 0 ≤ d1 % 14 := Int.emod_nonneg _ (by decide)
  have h15 : d1 % 14 < 14 := Int.emod_lt_of_pos _ (by decide)
  by_cases c : d0 - 4 > 0
  · rw [if_pos c]
    have h : d0 = 5 ∨ d0 = 6 ∨ d0 = 7 ∨ d0 = 8 ∨ d0 = 9 := by omega
    rcases h with rfl | rfl | rfl | rfl | rfl <;> exact ⟨_, at_pos (by decide) rfl, by omega, by omega⟩
  · rw [if_neg c]
    exact ⟨_, at_pos (by decide) rfl, by omega, by omega⟩
section
variable {P : Program} {w : World} {K : PySem.W.Frag} {mg : Str → Option Value} {base : Heap} {f : Addr} {fd : FuncData} {cB cC : Addr}
theorem ok_law (F : Fun K "law" "law" s_law f fd) (T : Txt mg) (C__law_cell : Cal P w K mg base 1 "_law_cell" ["script", "k"] (spCell K)) (C__law_digits : Cal P w K mg base 1 "_law_digits" ["cell", "sizes"] (spDigits K))
    (C__law_grow : Cal P w K mg base 14 "_law_grow" ["rows", "at", "many", "deep", "mode"] (spGrow 12)) (C__law_written : Cal P w K mg base 13 "_law_written" ["plan"] (spFmt 13)) (C__law_spoilt : Cal P w K mg base 2 "_law_spoilt" ["text", "row"] spSpoilt) (C__law_drawn : Cal P w K mg base 2 "_law_drawn" ["script", "at", "pieces", "length"] (spDrawn K))
    (U : Err K mg cB cC) (q_BadPlan : PySem.W.excIn K cB [.type "ValueError", .type "Exception", .type "BaseException", .type "object"] "ValueError.__new__" = true) (C__law_is_bad : Cal P w K mg base 1 "_law_is_bad" ["error"] (spBad cB)) (C__law_right : Cal P w K mg base 42 "_law_right" ["text"] spRight) :
    FnOk P w K mg base CX0 43 f fd ["script"] (spLaw K) := by
  refine F.ok sc_law (fun vs H Q E h => ?_) (fun cdv A outer s H vs Q E hr h => ?_)
  · obtain ⟨a, ns, rfl, _⟩ := h
    rfl
  obtain ⟨a, ns, rfl, hS, h63, q⟩ := h
  refine ⟨_, (pss_cons (ps_set (i := 1) sc_law.nd rfl (Or.inl rfl) (pe_cal C__law_digits (hr.mono (by omega)) rfl (pa_cons (pe_cal C__law_cell (hr.mono (by omega)) rfl (pa_cons (pv 0) (pa_cons pe_int pa_nil))) (pa_cons (pe_lst (pa_cons pe_int (pa_cons pe_int (pa_cons pe_int (pa_cons pe_int (pa_cons pe_int pa_nil)))))) pa_nil))))
  (pss_cons (ps_set (i := 2) sc_law.nd rfl (Or.inr rfl) (pe_op op_cat (pe_lst (pa_cons pe_int (pa_cons pe_int (pa_cons pe_int (pa_cons pe_int (pa_cons pe_int (pa_cons pe_int (pa_cons pe_int pa_nil)))))))) (pe_op op_rep (pe_lst (pa_cons pe_int pa_nil)) pe_int)))
  (pss_cons (ps_setLc (i := 4) (own := [("k", 3)]) (g := gName 3) (tt := tYes) (by rfl) sc_law.nd rfl rfl (sw_true rfl rfl rfl (by decide +kernel)) (pi_range1 (by rfl) T.b_range (pa_cons pe_int pa_nil)) (blkOk_by (N := N_law) (sc := defScope s_law) (by decide +kernel)) (fun _ _ _ _ _ => (pg_name (i := 3) sc_law.nd rfl (Or.inl rfl))) (fun _ _ _ _ _ => pts_nil) (fun _ _ _ _ _ => (pe_cal C__law_digits (hr.mono (by omega)) rfl (pa_cons (pe_cal C__law_cell (hr.mono (by omega)) rfl (pa_cons (pv 0) (pa_cons (pe_op op_add pe_int (pv 3)) pa_nil))) (pa_cons (pv 2) pa_nil)))))
  (pss_cons (ps_set (i := 5) sc_law.nd rfl (Or.inl rfl) (pe_ix ix_list (pe_lst (pa_cons (pe_op op_add pe_int (pe_op op_mod (pe_callTy call_int1 (by rfl) T.b_int (by decide +kernel) (pa_cons (pe_ix ix_list (pv 1) pe_int (fun _ _ => rfl)) pa_nil)) pe_int)) (pa_cons (pe_op op_add pe_int (pe_ix ix_list (pv 1) pe_int (fun _ _ => rfl))) (pa_cons pe_int (pa_cons pe_int (pa_cons pe_int (pa_cons pe_int pa_nil))))))) (pe_callB (call_max2 rfl) (by rfl) T.b_max (by decide +kernel) (pa_cons pe_int (pa_cons (pe_op op_sub (pe_ix ix_list (pv 1) pe_int (fun _ _ => rfl)) pe_int) pa_nil))) (fun _ _ => rfl)))
  (pss_cons (ps_set (i := 6) sc_law.nd rfl (Or.inl rfl) pe_int)
  (C8.pss_cut (ps_if (pt_cmpR op_lt (pe_ix ix_list (pv 1) pe_int (fun _ _ => rfl)) pe_int (nomark _)) (pss_one (ps_set (i := 6) sc_law.nd rfl (Or.inl rfl) (pe_op op_sub pe_int (pe_ix ix_list (pv 1) pe_int (fun _ _ => rfl))))) pss_nil)
  (pss_cons (ps_set (i := 7) sc_law.nd rfl (Or.inl rfl) (pe_cal C__law_grow (hr.mono (by omega)) rfl (pa_cons (pv 4) (pa_cons pe_int (pa_cons (pv 5) (pa_cons (pv 6) (pa_cons (pe_op op_fdiv (pe_callB (call_max2 rfl) (by rfl) T.b_max (by decide +kernel) (pa_cons pe_int (pa_cons (pe_op op_sub (pe_ix ix_list (pv 1) pe_int (fun _ _ => rfl)) pe_int) pa_nil))) pe_int) pa_nil)))))))
  (pss_cons (ps_set (i := 8) sc_law.nd rfl (Or.inl rfl) (pe_slice sl_str (pe_cal C__law_written (hr.mono (by omega)) rfl (pa_cons (pv 7) pa_nil)) po_none (po_some pe_int)))
  (pss_cons (ps_set (i := 9) sc_law.nd rfl (Or.inl rfl) (pv 8))
  (C8.pss_cut (ps_for PassesOwn.never rfl (pi_range1 (by rfl) T.b_range (pa_cons (pe_ix ix_list (pv 1) pe_int (fun _ _ => rfl)) pa_nil)) (pg_name (i := 3) sc_law.nd rfl (Or.inl rfl)) (pss_one (ps_set (i := 9) sc_law.nd rfl (Or.inl rfl) (pe_cal C__law_spoilt (hr.mono (by omega)) rfl (pa_cons (pv 9) (pa_cons (pe_cal C__law_digits (hr.mono (by omega)) rfl (pa_cons (pe_cal C__law_cell (hr.mono (by omega)) rfl (pa_cons (pv 0) (pa_cons (pe_op op_add pe_int (pv 3)) pa_nil))) (pa_cons (pe_lst (pa_cons pe_int (pa_cons pe_int (pa_cons pe_int (pa_cons pe_int (pa_cons pe_int pa_nil)))))) pa_nil))) pa_nil))))))
  (C8.pss_cut (ps_if (PW.pt (pw_or (pt_cmpR op_eq (pe_ix ix_list (pv 1) pe_int (fun _ _ => rfl)) pe_int (nomark _)) (pw_or1 (pt_cmpR op_eq (pe_ix ix_list (pv 1) pe_int (fun _ _ => rfl)) pe_int (nomark _))))) (pss_one (ps_set (i := 9) sc_law.nd rfl (Or.inl rfl) (pe_cal C__law_drawn (hr.mono (by omega)) rfl (pa_cons (pv 0) (pa_cons pe_int (pa_cons (pe_cmpR op_eq (pe_ix ix_list (pv 1) pe_int (fun _ _ => rfl)) pe_int (nomark _)) (pa_cons (pe_ix ix_list (pv 1) pe_int (fun _ _ => rfl)) pa_nil))))))) pss_nil)
  (pss_one (ps_ret (pe_and (pe_cal C__law_is_bad (hr.mono (by omega)) rfl (pa_cons (pe_exc0 PySem.F.excBase_ValueError q_BadPlan U.g_BadPlan U.k_BadPlan rfl) pa_nil)) (pe_and (pe_cal C__law_right (hr.mono (by omega)) rfl (pa_cons (pv 9) pa_nil)) (pe_and (pe_cal C__law_right (hr.mono (by omega)) rfl (pa_cons (pv 8) pa_nil)) (pe_one (pe_cal C__law_right (hr.mono (by omega)) rfl (pa_cons (pv 9) pa_nil))))))))))))))))))), ?_⟩
  -- shape
  refine ⟨_, rfl, a, ns, 0, rfl, hS, by decide, by decide, fun c0 => ?_⟩
  refine ⟨line_ge (by show 5 ≤ _; omega), fun p1 hp1 => ?_⟩
  refine ⟨c0, p1, [10, 40, 9, 3, 401], rfl, SqL.of upd_same, by decide, by decide +kernel, fun ps ds hps hdig => ?_⟩
  have g1 := (same_new hp1 (.lst [V.int 10, V.int 40, V.int 9, V.int 3, V.int 401])).trans (same_new hps (.lst (ds.map V.int)))
  have hshape : upd (upd H p1 (.lst [V.int 10, V.int 40, V.int 9, V.int 3, V.int 401])) ps (.lst (ds.map V.int)) ps = some (.lst (ds.map V.int)) := upd_same
  generalize upd (upd H p1 (.lst [V.int 10, V.int 40, V.int 9, V.int 3, V.int 401])) ps (.lst (ds.map V.int)) = H1 at g1 hshape
  have dig : ∀ (i : Nat) (z : Int), ([10, 40, 9, 3, 401] : List Int)[i]? = some z → ∃ n, (ds.map V.int)[i]? = some (.int n) ∧ 0 ≤ n ∧ n < z := fun i z h => by
    obtain ⟨n, h1, h2, h3⟩ := hdig.get h
    exact ⟨n, int_at h1, h2, h3⟩
  obtain ⟨d0, e0, a0, b0⟩ := dig 0 10 rfl
  obtain ⟨d1, e1, a1, b1⟩ := dig 1 40 rfl
  obtain ⟨d2, e2, a2, b2⟩ := dig 2 9 rfl
  obtain ⟨d3, e3, a3, b3⟩ := dig 3 3 rfl
  obtain ⟨d4, e4, a4, b4⟩ := dig 4 401 rfl
  -- sizes
  refine ⟨line_ge (by show 7 ≤ _; omega), fun p3 hp3 => ?_⟩
  refine ⟨line_ge (by show 1 ≤ _; omega), fun p4 hp4 => ?_⟩
  refine ⟨p4, 8, _, rfl, rfl, upd_same, by decide, by decide, line_ge (by show 1 * 8 ≤ _; omega), fun p5 hp5 => ?_⟩
  refine ⟨p3, p5, _, _, rfl, rfl, same_new hp5 _ _ _ (same_new hp4 _ _ _ upd_same), upd_same, line_ge (by show 7 + 8 ≤ _; omega), fun pz hpz => ?_⟩
  have g2 := g1.trans ((same_new hp3 _).trans ((same_new hp4 _).trans ((same_new hp5 _).trans (same_new hpz (.lst (growSizes.map V.int))))))
  have gs := ((same_new hp3 _).trans ((same_new hp4 _).trans ((same_new hp5 _).trans (same_new hpz (.lst (growSizes.map V.int))))))
  refine ⟨41, rfl, by decide, by decide, fun D hD => ?_⟩
  have hD1 : H1 D = none := gs.free hD
  have hzD : pz ≠ D := ne_of_none upd_same hD
  refine lc_range (lo := 0) (n := 41) (fun i H' => Same H1 H' ∧ H' pz = some (.lst (growSizes.map V.int)) ∧ ∃ as : List Addr, as.length = i ∧ H' D = some (.lst (as.map V.ref)) ∧ ∀ b ∈ as, b ≠ D ∧ ∃ ds : List Int, H' b = some (.lst (ds.map V.int)) ∧ Dig ds growSizes)
    ⟨same_atL gs hD1, same_new hD _ _ _ upd_same, [], rfl, upd_same, (fun b hb => nomatch hb)⟩ ?_ ?_
  · rintro i H3 hlt ⟨g3, hz3, as, has, hd3, hall⟩
    refine ⟨rfl, lc_yes ?_⟩
    refine ⟨_, rfl, _, rfl, _, _, rfl, rfl, a, ns, _, rfl, g3.seq (g1.seq hS), by omega, by omega, fun c => ?_⟩
    refine ⟨_, rfl, c, pz, growSizes, rfl, SqL.of hz3, by decide, grow_bounds, fun p es hp hes => ?_⟩
    have hpD : p ≠ D := Ne.symm (ne_of_none hd3 hp)
    refine ⟨_, same_new hp _ _ _ hd3, by rw [List.length_map, has]; exact small1000 (by omega), same_atL (g3.trans (same_new hp _)) hD1, ?_, as ++ [p], by rw [List.length_append, has]; rfl, by rw [upd_same, List.map_append]; rfl, fun b hb => ?_⟩
    · rw [upd_ne hzD]
      exact same_new hp _ _ _ hz3
    · rcases List.mem_append.mp hb with hb | hb
      · obtain ⟨hbD, es', hb1, hb2⟩ := hall b hb
        exact ⟨hbD, es', by rw [upd_ne hbD]; exact same_new hp _ _ _ hb1, hb2⟩
      · rw [List.mem_singleton.mp hb]
        exact ⟨hpD, es, by rw [upd_ne hpD]; exact upd_same, hes⟩
  rintro H3 ⟨g3, _, as, has, hd3, hall⟩
  have hR : RowsAt H3 D as := ⟨hd3, fun b hb => (hall b hb).2⟩
  have hsh3 := g3 _ _ hshape
  -- many
  refine ⟨_, rfl, ps, _, 1, _, rfl, rfl, SqL.of hsh3, at_pos (by decide) e1, .inl ⟨_, rfl, _, _, rfl, rfl, (by show (0 : Int) < 14; decide), _, _, rfl, rfl, ?_⟩⟩
  refine ⟨_, rfl, ps, _, 1, _, rfl, rfl, SqL.of hsh3, at_pos (by decide) e1, _, _, rfl, rfl, line_ge (by show 6 ≤ _; omega), fun p7 hp7 => ?_⟩
  have g7 := same_new hp7 (.lst [V.int (1 + d1 % 14), V.int (1 + d1), V.int 40, V.int 41, V.int 12, V.int 13])
  have hsh4 := g7 _ _ hsh3
  obtain ⟨many, hmany, hm1, hm40⟩ := many_at a0 b0 a1 b1
  refine ⟨_, rfl, ps, _, 0, _, rfl, rfl, SqL.of hsh4, at_pos (by decide) e0, _, _, rfl, rfl, _, _, rfl, p7, _, _, _, rfl, rfl, SqL.of upd_same, hmany, ?_⟩
  have hR4 := hR.same g7
  have g4 := (g1.trans g3).trans g7
  generalize upd H3 p7 (.lst [V.int (1 + d1 % 14), V.int (1 + d1), V.int 40, V.int 41, V.int 12, V.int 13]) = H4 at hsh4 hR4 g4
  -- deep
  refine ⟨fun σ H' => ∃ (deep : Int) (k3 : Option V), σ = [some (.ref a), some (.ref ps), some (.ref pz), k3, some (.ref D), some (.int many), some (.int deep), none, none, none] ∧ deep ≤ 13 ∧ H' = H4, ?_, ?_⟩
  · refine ⟨_, rfl, ps, _, 0, _, rfl, rfl, SqL.of hsh4, at_pos (by decide) e0, _, _, rfl, rfl, _, rfl, ?_⟩
    refine ite2 (fun _ => ?_) (fun _ => ?_)
    · refine ⟨_, rfl, ps, _, 2, _, rfl, rfl, SqL.of hsh4, at_pos (by decide) e2, _, _, rfl, rfl, ?_⟩
      exact ⟨_, _, rfl, by omega, rfl⟩
    · exact ⟨_, _, rfl, Int.le_refl 13, rfl⟩
  rintro σ H' ⟨deep, k3, rfl, hdeep, rfl⟩
  -- plan
  refine ⟨_, rfl, _, rfl, _, rfl, _, rfl, ps, _, 0, _, rfl, rfl, SqL.of hsh4, at_pos (by decide) e0, _, _, rfl, rfl, _, _, rfl, _, _, rfl, rfl, ⟨by decide, by decide⟩, ?_⟩
  refine ⟨D, as, 0, many, deep, _, rfl, hR4, by decide, by rw [has]; omega, by rw [has]; omega, hdeep, fun pl p H5 g5 hp hg hh hc => ?_⟩
  have hsh5 := g5 _ _ hsh4
  have g15 := g4.trans g5
  have hh13 : pl.height ≤ 13 := by omega
  have hc41 : pl.count ≤ 100 := by omega
  -- whole
  refine ⟨_, rfl, pl, p, rfl, hp, hg, hh13, hc41, ?_⟩
  refine ⟨_, rfl, S (fmt pl), rfl, line_ge (by rw [slen]; have := fmt_len hg; have : pl.count ≤ 41 := (by omega); omega), ?_⟩
  have hw : Sm 400 (cutS (S (fmt pl)) none (some 400)) := cut_400 _
  generalize cutS (S (fmt pl)) none (some 400) = wh at hw
  refine ⟨_, rfl, ?_⟩
  refine ⟨fun σ H' => ∃ (k3 : Option V) (x : Str), σ = [some (.ref a), some (.ref ps), some (.ref pz), k3, some (.ref D), some (.int many), some (.int deep), some (.ref p), some (.str wh), some (.str x)] ∧ Same H5 H' ∧ Sm 400 x, ?_, ?_⟩
  · refine ⟨_, rfl, ps, _, 3, _, rfl, rfl, SqL.of hsh5, at_pos (by decide) e3, d3, rfl, by omega, by omega, for_range (lo := 0) (n := d3.toNat) (fun i σ H' => ∃ (k3 : Option V) (x : Str), σ = [some (.ref a), some (.ref ps), some (.ref pz), k3, some (.ref D), some (.int many), some (.int deep), some (.ref p), some (.str wh), some (.str x)] ∧ Same H5 H' ∧ Sm 400 x) ⟨_, wh, rfl, Same.refl _, hw⟩ ?_ ?_⟩
    · rintro i σ H6 hi ⟨k3, x, rfl, g6, hx⟩
      have hi3 : i < 3 := by omega
      refine ⟨_, rfl, _, rfl, _, rfl, _, _, rfl, rfl, a, ns, _, rfl, (g15.trans g6).seq hS, by omega, by omega, fun c => ?_⟩
      refine ⟨line_ge (by show 5 ≤ _; omega), fun p8 hp8 => ?_⟩
      refine ⟨c, p8, spoilSizes, rfl, SqL.of upd_same, by decide, by decide +kernel, fun p9 es hp9 hes => ?_⟩
      have g8 := (same_new hp8 (.lst [V.int 15, V.int 400, V.int 94, V.int 12, V.int 2])).trans (same_new hp9 (.lst (es.map V.int)))
      refine ⟨x, p9, es, rfl, hx, upd_same, hes, fun y H7 g7 hy => ?_⟩
      exact ⟨_, y, rfl, (g6.trans g8).trans g7, hy⟩
    · rintro σ H6 ⟨k3, x, rfl, g6, hx⟩
      exact ⟨k3, x, rfl, g6, hx⟩
  rintro σ H6 ⟨k4, x, rfl, g6, hx⟩
  have hsh6 := g6 _ _ hsh5
  refine ⟨fun σ H' => ∃ (x : Str), σ = [some (.ref a), some (.ref ps), some (.ref pz), k4, some (.ref D), some (.int many), some (.int deep), some (.ref p), some (.str wh), some (.str x)] ∧ Same H6 H' ∧ Sm 400 x, ?_, ?_⟩
  · have go : ∀ b : Bool, ∀ y H', Same H6 H' → Sm 400 y → ∃ (x : Str), [some (V.ref a), some (.ref ps), some (.ref pz), k4, some (.ref D), some (.int many), some (.int deep), some (.ref p), some (.str wh), some (.str y)] = [some (.ref a), some (.ref ps), some (.ref pz), k4, some (.ref D), some (.int many), some (.int deep), some (.ref p), some (.str wh), some (.str x)] ∧ Same H6 H' ∧ Sm 400 x := fun _ y H' g h => ⟨y, rfl, g, h⟩
    refine ⟨_, rfl, ps, _, 0, _, rfl, rfl, SqL.of hsh6, at_pos (by decide) e0, rfl, _, rfl, ?_⟩
    refine ite2 (fun _ => ?_) (fun _ => ?_)
    · refine ⟨_, rfl, _, rfl, ps, _, 0, _, rfl, rfl, SqL.of hsh6, at_pos (by decide) e0, rfl, _, rfl, ps, _, 4, _, rfl, rfl, SqL.of hsh6, at_pos (by decide) e4, a, ns, _, d4, rfl, (g15.trans g6).seq hS, a4, b4, go true⟩
    · refine ⟨_, rfl, ps, _, 0, _, rfl, rfl, SqL.of hsh6, at_pos (by decide) e0, rfl, _, rfl, ?_⟩
      refine ite2 (fun _ => ?_) (fun _ => ⟨x, rfl, Same.refl _, hx⟩)
      refine ⟨_, rfl, _, rfl, ps, _, 0, _, rfl, rfl, SqL.of hsh6, at_pos (by decide) e0, rfl, _, rfl, ps, _, 4, _, rfl, rfl, SqL.of hsh6, at_pos (by decide) e4, a, ns, _, d4, rfl, (g15.trans g6).seq hS, a4, b4, go true⟩
  rintro σ H7 ⟨x, rfl, g7, hx⟩
  have tx : ∀ z : Str, [V.str z] = [V.str (S z.cps.toList)] := fun z => congrArg (fun z => [V.str z]) (S_tl z).symm
  have lx : ∀ z : Str, Sm 400 z → z.cps.toList.length ≤ 600 := fun z h => by
    rw [tl_len]
    exact Nat.le_trans h (by decide)
  refine fun pb hpb => ⟨pb, rfl, upd_same, fun H8 g8 => ?_⟩
  refine ⟨true, rfl, ifT rfl ?_⟩
  refine ⟨_, rfl, _, tx x, lx x hx, fun H9 g9 => ?_⟩
  refine ⟨true, rfl, ifT rfl ?_⟩
  refine ⟨_, rfl, _, tx wh, lx wh hw, fun H10 g10 => ?_⟩
  refine ⟨true, rfl, ifT rfl ?_⟩
  exact ⟨_, rfl, _, tx x, lx x hx, fun H11 g11 => q H11⟩
end
end P66
namespace P66
open PySem PySem.Spec PyProof.Rows L2 SX EX
theorem all_mk {l : PySem.W.OpenLaw} {w : World} {K : PySem.W.Frag} {h : Heap} {mg : Str → Option Value} {fa f1 f2 f3 f4 f5 f6 f7 f8 f9 f10 f11 f12 f13 f14 f15 f16 f17 f18 f19 f20 f21 f22 f23 f24 f25 f26 f27 f28 f29 f30 f31 c_CableError c_BadPlan c_ZeroBottom c_NotSquare c_NotSymmetric c_SizesDiffer c_BelowZero c_BadRow c_BadWeight c_NoSolution c_OutsideFence c_RunOver c_BadPick c_BadStep c_StepsLeft c_BadTie c_SamePlace c_BadNotation c_BadBundle c_TooNear c_TakenIndex c_BadIndex c_UnknownName c_NoTie c_NothingToUndo c_NothingToRedo c_CountsDiffer c_BadPrices c_SharedPlace : Addr} (X : K.In h) (G : h.Ns mainGlobals mg) (hfa : mg "law" = some (.ref fa))
    {od1 an1 od2 an2 od3 an3 od4 an4 od5 an5 od6 an6 od7 an7 od8 an8 od9 an9 od10 an10 od11 an11 od12 an12 od13 an13 od14 an14 od15 an15 od16 an16 od17 an17 od18 an18 od19 an19 od20 an20 od21 an21 od22 an22 od23 an23 od24 an24 od25 an25 od26 an26 od27 an27 od28 an28 od29 an29 od30 an30 od31 an31 : Option Addr}
    {sl1 sl2 sl3 sl4 sl5 sl6 sl7 sl8 sl9 sl10 sl11 sl12 sl13 sl14 sl15 sl16 sl17 sl18 sl19 sl20 sl21 sl22 sl23 sl24 sl25 sl26 sl27 sl28 sl29 sl30 sl31 : Array (Option Value)} {oc1 kV1 dc1 pm1 cd1 ct1 oc2 kV2 dc2 pm2 cd2 ct2 oc3 kV3 dc3 pm3 cd3 ct3 oc4 kV4 dc4 pm4 cd4 ct4 oc5 kV5 dc5 pm5 cd5 ct5 oc6 kV6 dc6 pm6 cd6 ct6 oc7 kV7 dc7 pm7 cd7 ct7 oc8 kV8 dc8 pm8 cd8 ct8 oc9 kV9 dc9 pm9 cd9 ct9 oc10 kV10 dc10 pm10 cd10 ct10 oc11 kV11 dc11 pm11 cd11 ct11 oc12 kV12 dc12 pm12 cd12 ct12 oc13 kV13 dc13 pm13 cd13 ct13 oc14 kV14 dc14 pm14 cd14 ct14 oc15 kV15 dc15 pm15 cd15 ct15 oc16 kV16 dc16 pm16 cd16 ct16 oc17 kV17 dc17 pm17 cd17 ct17 oc18 kV18 dc18 pm18 cd18 ct18 oc19 kV19 dc19 pm19 cd19 ct19 oc20 kV20 dc20 pm20 cd20 ct20 oc21 kV21 dc21 pm21 cd21 ct21 oc22 kV22 dc22 pm22 cd22 ct22 oc23 kV23 dc23 pm23 cd23 ct23 oc24 kV24 dc24 pm24 cd24 ct24 oc25 kV25 dc25 pm25 cd25 ct25 oc26 kV26 dc26 pm26 cd26 ct26 oc27 kV27 dc27 pm27 cd27 ct27 oc28 kV28 dc28 pm28 cd28 ct28 oc29 kV29 dc29 pm29 cd29 ct29 oc30 kV30 dc30 pm30 cd30 ct30 oc31 kV31 dc31 pm31 cd31 ct31 : Value} {tk0 tk1 tk2 tk3 tk4 tk5 : Tok}
    {nm_BadPlan q_BadPlan : Str} {N_BadPlan : Addr} {bs_BadPlan sub_BadPlan : List Value} {sn_BadPlan : List Str} {ab_BadPlan : Bool} {col_BadPlan : Option Bool} {dd_BadPlan : Option Addr} {m0_BadPlan m1_BadPlan m2_BadPlan m3_BadPlan m5_BadPlan : Option Value}
    (a1 : PySem.W.nsIn K mainGlobals "whole_of" = some (some (.ref f1))) (l1 : K.lookup f1 = some ⟨oc1, od1, .func (PySem.W.fnOf "whole_of" "whole_of" (defArgs s_whole_of) (defBody s_whole_of) (defScope s_whole_of) .none kV1 dc1 pm1 an1 cd1 ct1), sl1⟩) (c1 : PySem.W.codeIn K cd1 "whole_of" = true) (k1 : PySem.W.keepIn K (.ref f1) = true)
    (a2 : PySem.W.nsIn K mainGlobals "number_of" = some (some (.ref f2))) (l2 : K.lookup f2 = some ⟨oc2, od2, .func (PySem.W.fnOf "number_of" "number_of" (defArgs s_number_of) (defBody s_number_of) (defScope s_number_of) .none kV2 dc2 pm2 an2 cd2 ct2), sl2⟩) (c2 : PySem.W.codeIn K cd2 "number_of" = true) (k2 : PySem.W.keepIn K (.ref f2) = true)
    (a3 : PySem.W.nsIn K mainGlobals "tuples_in" = some (some (.ref f3))) (l3 : K.lookup f3 = some ⟨oc3, od3, .func (PySem.W.fnOf "tuples_in" "tuples_in" (defArgs s_tuples_in) (defBody s_tuples_in) (defScope s_tuples_in) .none kV3 dc3 pm3 an3 cd3 ct3), sl3⟩) (c3 : PySem.W.codeIn K cd3 "tuples_in" = true) (k3 : PySem.W.keepIn K (.ref f3) = true)
    (a4 : PySem.W.nsIn K mainGlobals "longest" = some (some (.ref f4))) (l4 : K.lookup f4 = some ⟨oc4, od4, .func (PySem.W.fnOf "longest" "longest" (defArgs s_longest) (defBody s_longest) (defScope s_longest) .none kV4 dc4 pm4 an4 cd4 ct4), sl4⟩) (c4 : PySem.W.codeIn K cd4 "longest" = true) (k4 : PySem.W.keepIn K (.ref f4) = true)
    (a5 : PySem.W.nsIn K mainGlobals "behind" = some (some (.ref f5))) (l5 : K.lookup f5 = some ⟨oc5, od5, .func (PySem.W.fnOf "behind" "behind" (defArgs s_behind) (defBody s_behind) (defScope s_behind) .none kV5 dc5 pm5 an5 cd5 ct5), sl5⟩) (c5 : PySem.W.codeIn K cd5 "behind" = true) (k5 : PySem.W.keepIn K (.ref f5) = true)
    (a6 : PySem.W.nsIn K mainGlobals "read_number" = some (some (.ref f6))) (l6 : K.lookup f6 = some ⟨oc6, od6, .func (PySem.W.fnOf "read_number" "read_number" (defArgs s_read_number) (defBody s_read_number) (defScope s_read_number) .none kV6 dc6 pm6 an6 cd6 ct6), sl6⟩) (c6 : PySem.W.codeIn K cd6 "read_number" = true) (k6 : PySem.W.keepIn K (.ref f6) = true)
    (a7 : PySem.W.nsIn K mainGlobals "read_join" = some (some (.ref f7))) (l7 : K.lookup f7 = some ⟨oc7, od7, .func (PySem.W.fnOf "read_join" "read_join" (defArgs s_read_join) (defBody s_read_join) (defScope s_read_join) .none kV7 dc7 pm7 an7 cd7 ct7), sl7⟩) (c7 : PySem.W.codeIn K cd7 "read_join" = true) (k7 : PySem.W.keepIn K (.ref f7) = true)
    (a8 : PySem.W.nsIn K mainGlobals "read_scale" = some (some (.ref f8))) (l8 : K.lookup f8 = some ⟨oc8, od8, .func (PySem.W.fnOf "read_scale" "read_scale" (defArgs s_read_scale) (defBody s_read_scale) (defScope s_read_scale) .none kV8 dc8 pm8 an8 cd8 ct8), sl8⟩) (c8 : PySem.W.codeIn K cd8 "read_scale" = true) (k8 : PySem.W.keepIn K (.ref f8) = true)
    (a9 : PySem.W.nsIn K mainGlobals "read_thin" = some (some (.ref f9))) (l9 : K.lookup f9 = some ⟨oc9, od9, .func (PySem.W.fnOf "read_thin" "read_thin" (defArgs s_read_thin) (defBody s_read_thin) (defScope s_read_thin) .none kV9 dc9 pm9 an9 cd9 ct9), sl9⟩) (c9 : PySem.W.codeIn K cd9 "read_thin" = true) (k9 : PySem.W.keepIn K (.ref f9) = true)
    (a10 : PySem.W.nsIn K mainGlobals "read_word" = some (some (.ref f10))) (l10 : K.lookup f10 = some ⟨oc10, od10, .func (PySem.W.fnOf "read_word" "read_word" (defArgs s_read_word) (defBody s_read_word) (defScope s_read_word) .none kV10 dc10 pm10 an10 cd10 ct10), sl10⟩) (c10 : PySem.W.codeIn K cd10 "read_word" = true) (k10 : PySem.W.keepIn K (.ref f10) = true)
    (a11 : PySem.W.nsIn K mainGlobals "read_plan" = some (some (.ref f11))) (l11 : K.lookup f11 = some ⟨oc11, od11, .func (PySem.W.fnOf "read_plan" "read_plan" (defArgs s_read_plan) (defBody s_read_plan) (defScope s_read_plan) .none kV11 dc11 pm11 an11 cd11 ct11), sl11⟩) (c11 : PySem.W.codeIn K cd11 "read_plan" = true) (k11 : PySem.W.keepIn K (.ref f11) = true)
    (a12 : PySem.W.nsIn K mainGlobals "parse_plan" = some (some (.ref f12))) (l12 : K.lookup f12 = some ⟨oc12, od12, .func (PySem.W.fnOf "parse_plan" "parse_plan" (defArgs s_parse_plan) (defBody s_parse_plan) (defScope s_parse_plan) .none kV12 dc12 pm12 an12 cd12 ct12), sl12⟩) (c12 : PySem.W.codeIn K cd12 "parse_plan" = true) (k12 : PySem.W.keepIn K (.ref f12) = true)
    (a13 : PySem.W.nsIn K mainGlobals "_law_whole" = some (some (.ref f13))) (l13 : K.lookup f13 = some ⟨oc13, od13, .func (PySem.W.fnOf "_law_whole" "_law_whole" (defArgs s__law_whole) (defBody s__law_whole) (defScope s__law_whole) .none kV13 dc13 pm13 an13 cd13 ct13), sl13⟩) (c13 : PySem.W.codeIn K cd13 "_law_whole" = true) (k13 : PySem.W.keepIn K (.ref f13) = true)
    (a14 : PySem.W.nsIn K mainGlobals "_law_cell" = some (some (.ref f14))) (l14 : K.lookup f14 = some ⟨oc14, od14, .func (PySem.W.fnOf "_law_cell" "_law_cell" (defArgs s__law_cell) (defBody s__law_cell) (defScope s__law_cell) .none kV14 dc14 pm14 an14 cd14 ct14), sl14⟩) (c14 : PySem.W.codeIn K cd14 "_law_cell" = true) (k14 : PySem.W.keepIn K (.ref f14) = true)
    (a15 : PySem.W.nsIn K mainGlobals "_law_digits" = some (some (.ref f15))) (l15 : K.lookup f15 = some ⟨oc15, od15, .func (PySem.W.fnOf "_law_digits" "_law_digits" (defArgs s__law_digits) (defBody s__law_digits) (defScope s__law_digits) .none kV15 dc15 pm15 an15 cd15 ct15), sl15⟩) (c15 : PySem.W.codeIn K cd15 "_law_digits" = true) (k15 : PySem.W.keepIn K (.ref f15) = true)
    (a16 : PySem.W.nsIn K mainGlobals "_law_same" = some (some (.ref f16))) (l16 : K.lookup f16 = some ⟨oc16, od16, .func (PySem.W.fnOf "_law_same" "_law_same" (defArgs s__law_same) (defBody s__law_same) (defScope s__law_same) .none kV16 dc16 pm16 an16 cd16 ct16), sl16⟩) (c16 : PySem.W.codeIn K cd16 "_law_same" = true) (k16 : PySem.W.keepIn K (.ref f16) = true)
    (a17 : PySem.W.nsIn K mainGlobals "_law_name" = some (some (.ref f17))) (l17 : K.lookup f17 = some ⟨oc17, od17, .func (PySem.W.fnOf "_law_name" "_law_name" (defArgs s__law_name) (defBody s__law_name) (defScope s__law_name) .none kV17 dc17 pm17 an17 cd17 ct17), sl17⟩) (c17 : PySem.W.codeIn K cd17 "_law_name" = true) (k17 : PySem.W.keepIn K (.ref f17) = true)
    (a18 : PySem.W.nsIn K mainGlobals "_law_grow" = some (some (.ref f18))) (l18 : K.lookup f18 = some ⟨oc18, od18, .func (PySem.W.fnOf "_law_grow" "_law_grow" (defArgs s__law_grow) (defBody s__law_grow) (defScope s__law_grow) .none kV18 dc18 pm18 an18 cd18 ct18), sl18⟩) (c18 : PySem.W.codeIn K cd18 "_law_grow" = true) (k18 : PySem.W.keepIn K (.ref f18) = true)
    (a19 : PySem.W.nsIn K mainGlobals "_law_written" = some (some (.ref f19))) (l19 : K.lookup f19 = some ⟨oc19, od19, .func (PySem.W.fnOf "_law_written" "_law_written" (defArgs s__law_written) (defBody s__law_written) (defScope s__law_written) .none kV19 dc19 pm19 an19 cd19 ct19), sl19⟩) (c19 : PySem.W.codeIn K cd19 "_law_written" = true) (k19 : PySem.W.keepIn K (.ref f19) = true)
    (a20 : PySem.W.nsIn K mainGlobals "_law_many" = some (some (.ref f20))) (l20 : K.lookup f20 = some ⟨oc20, od20, .func (PySem.W.fnOf "_law_many" "_law_many" (defArgs s__law_many) (defBody s__law_many) (defScope s__law_many) .none kV20 dc20 pm20 an20 cd20 ct20), sl20⟩) (c20 : PySem.W.codeIn K cd20 "_law_many" = true) (k20 : PySem.W.keepIn K (.ref f20) = true)
    (a21 : PySem.W.nsIn K mainGlobals "_law_run" = some (some (.ref f21))) (l21 : K.lookup f21 = some ⟨oc21, od21, .func (PySem.W.fnOf "_law_run" "_law_run" (defArgs s__law_run) (defBody s__law_run) (defScope s__law_run) .none kV21 dc21 pm21 an21 cd21 ct21), sl21⟩) (c21 : PySem.W.codeIn K cd21 "_law_run" = true) (k21 : PySem.W.keepIn K (.ref f21) = true)
    (a22 : PySem.W.nsIn K mainGlobals "_law_in_range" = some (some (.ref f22))) (l22 : K.lookup f22 = some ⟨oc22, od22, .func (PySem.W.fnOf "_law_in_range" "_law_in_range" (defArgs s__law_in_range) (defBody s__law_in_range) (defScope s__law_in_range) .none kV22 dc22 pm22 an22 cd22 ct22), sl22⟩) (c22 : PySem.W.codeIn K cd22 "_law_in_range" = true) (k22 : PySem.W.keepIn K (.ref f22) = true)
    (a23 : PySem.W.nsIn K mainGlobals "_law_read" = some (some (.ref f23))) (l23 : K.lookup f23 = some ⟨oc23, od23, .func (PySem.W.fnOf "_law_read" "_law_read" (defArgs s__law_read) (defBody s__law_read) (defScope s__law_read) .none kV23 dc23 pm23 an23 cd23 ct23), sl23⟩) (c23 : PySem.W.codeIn K cd23 "_law_read" = true) (k23 : PySem.W.keepIn K (.ref f23) = true)
    (a24 : PySem.W.nsIn K mainGlobals "_law_plan_of" = some (some (.ref f24))) (l24 : K.lookup f24 = some ⟨oc24, od24, .func (PySem.W.fnOf "_law_plan_of" "_law_plan_of" (defArgs s__law_plan_of) (defBody s__law_plan_of) (defScope s__law_plan_of) .none kV24 dc24 pm24 an24 cd24 ct24), sl24⟩) (c24 : PySem.W.codeIn K cd24 "_law_plan_of" = true) (k24 : PySem.W.keepIn K (.ref f24) = true)
    (a25 : PySem.W.nsIn K mainGlobals "_law_signs" = some (some (.ref f25))) (l25 : K.lookup f25 = some ⟨oc25, od25, .func (PySem.W.fnOf "_law_signs" "_law_signs" (defArgs s__law_signs) (defBody s__law_signs) (defScope s__law_signs) .none kV25 dc25 pm25 an25 cd25 ct25), sl25⟩) (c25 : PySem.W.codeIn K cd25 "_law_signs" = true) (k25 : PySem.W.keepIn K (.ref f25) = true)
    (a26 : PySem.W.nsIn K mainGlobals "_law_token" = some (some (.ref f26))) (l26 : K.lookup f26 = some ⟨oc26, od26, .func (PySem.W.fnOf "_law_token" "_law_token" (defArgs s__law_token) (defBody s__law_token) (defScope s__law_token) .none kV26 dc26 pm26 an26 cd26 ct26), sl26⟩) (c26 : PySem.W.codeIn K cd26 "_law_token" = true) (k26 : PySem.W.keepIn K (.ref f26) = true)
    (a27 : PySem.W.nsIn K mainGlobals "_law_spoilt" = some (some (.ref f27))) (l27 : K.lookup f27 = some ⟨oc27, od27, .func (PySem.W.fnOf "_law_spoilt" "_law_spoilt" (defArgs s__law_spoilt) (defBody s__law_spoilt) (defScope s__law_spoilt) .none kV27 dc27 pm27 an27 cd27 ct27), sl27⟩) (c27 : PySem.W.codeIn K cd27 "_law_spoilt" = true) (k27 : PySem.W.keepIn K (.ref f27) = true)
    (a28 : PySem.W.nsIn K mainGlobals "_law_drawn" = some (some (.ref f28))) (l28 : K.lookup f28 = some ⟨oc28, od28, .func (PySem.W.fnOf "_law_drawn" "_law_drawn" (defArgs s__law_drawn) (defBody s__law_drawn) (defScope s__law_drawn) .none kV28 dc28 pm28 an28 cd28 ct28), sl28⟩) (c28 : PySem.W.codeIn K cd28 "_law_drawn" = true) (k28 : PySem.W.keepIn K (.ref f28) = true)
    (a29 : PySem.W.nsIn K mainGlobals "_law_is_bad" = some (some (.ref f29))) (l29 : K.lookup f29 = some ⟨oc29, od29, .func (PySem.W.fnOf "_law_is_bad" "_law_is_bad" (defArgs s__law_is_bad) (defBody s__law_is_bad) (defScope s__law_is_bad) .none kV29 dc29 pm29 an29 cd29 ct29), sl29⟩) (c29 : PySem.W.codeIn K cd29 "_law_is_bad" = true) (k29 : PySem.W.keepIn K (.ref f29) = true)
    (a30 : PySem.W.nsIn K mainGlobals "_law_right" = some (some (.ref f30))) (l30 : K.lookup f30 = some ⟨oc30, od30, .func (PySem.W.fnOf "_law_right" "_law_right" (defArgs s__law_right) (defBody s__law_right) (defScope s__law_right) .none kV30 dc30 pm30 an30 cd30 ct30), sl30⟩) (c30 : PySem.W.codeIn K cd30 "_law_right" = true) (k30 : PySem.W.keepIn K (.ref f30) = true)
    (a31 : PySem.W.nsIn K mainGlobals "law" = some (some (.ref f31))) (l31 : K.lookup f31 = some ⟨oc31, od31, .func (PySem.W.fnOf "law" "law" (defArgs s_law) (defBody s_law) (defScope s_law) .none kV31 dc31 pm31 an31 cd31 ct31), sl31⟩) (c31 : PySem.W.codeIn K cd31 "law" = true) (k31 : PySem.W.keepIn K (.ref f31) = true)
    (z0 : PySem.W.nsIn K mainGlobals "len" = some none)
    (z1 : PySem.W.nsIn K mainGlobals "int" = some none)
    (z2 : PySem.W.nsIn K mainGlobals "str" = some none)
    (z3 : PySem.W.nsIn K mainGlobals "tuple" = some none)
    (z4 : PySem.W.nsIn K mainGlobals "bool" = some none)
    (z5 : PySem.W.nsIn K mainGlobals "isinstance" = some none)
    (z6 : PySem.W.nsIn K mainGlobals "range" = some none)
    (z7 : PySem.W.nsIn K mainGlobals "any" = some none)
    (z8 : PySem.W.nsIn K mainGlobals "all" = some none)
    (z9 : PySem.W.nsIn K mainGlobals "max" = some none)
    (z10 : PySem.W.nsIn K mainGlobals "ValueError" = some none)
    (y0 : PySem.W.nsIn K mainGlobals "DIGITS_reading" = some (some (.str "0123456789" tk0)))
    (y1 : PySem.W.nsIn K mainGlobals "DIGITS_plannotes" = some (some (.str "0123456789" tk1)))
    (y2 : PySem.W.nsIn K mainGlobals "LETTERS" = some (some (.str "abcdefghijklmnopqrstuvwxyz" tk2)))
    (y3 : PySem.W.nsIn K mainGlobals "MOST_LETTERS" = some (some (.int 8 tk3)))
    (y4 : PySem.W.nsIn K mainGlobals "MOST_DEPTH" = some (some (.int 12 tk4)))
    (y5 : PySem.W.nsIn K mainGlobals "MOST_TUPLES" = some (some (.int 40 tk5)))
    (a_CableError : PySem.W.nsIn K mainGlobals "CableError" = some (some (.ref c_CableError)))
    (a_BadPlan : PySem.W.nsIn K mainGlobals "BadPlan" = some (some (.ref c_BadPlan)))
    (a_ZeroBottom : PySem.W.nsIn K mainGlobals "ZeroBottom" = some (some (.ref c_ZeroBottom)))
    (a_NotSquare : PySem.W.nsIn K mainGlobals "NotSquare" = some (some (.ref c_NotSquare)))
    (a_NotSymmetric : PySem.W.nsIn K mainGlobals "NotSymmetric" = some (some (.ref c_NotSymmetric)))
    (a_SizesDiffer : PySem.W.nsIn K mainGlobals "SizesDiffer" = some (some (.ref c_SizesDiffer)))
    (a_BelowZero : PySem.W.nsIn K mainGlobals "BelowZero" = some (some (.ref c_BelowZero)))
    (a_BadRow : PySem.W.nsIn K mainGlobals "BadRow" = some (some (.ref c_BadRow)))
    (a_BadWeight : PySem.W.nsIn K mainGlobals "BadWeight" = some (some (.ref c_BadWeight)))
    (a_NoSolution : PySem.W.nsIn K mainGlobals "NoSolution" = some (some (.ref c_NoSolution)))
    (a_OutsideFence : PySem.W.nsIn K mainGlobals "OutsideFence" = some (some (.ref c_OutsideFence)))
    (a_RunOver : PySem.W.nsIn K mainGlobals "RunOver" = some (some (.ref c_RunOver)))
    (a_BadPick : PySem.W.nsIn K mainGlobals "BadPick" = some (some (.ref c_BadPick)))
    (a_BadStep : PySem.W.nsIn K mainGlobals "BadStep" = some (some (.ref c_BadStep)))
    (a_StepsLeft : PySem.W.nsIn K mainGlobals "StepsLeft" = some (some (.ref c_StepsLeft)))
    (a_BadTie : PySem.W.nsIn K mainGlobals "BadTie" = some (some (.ref c_BadTie)))
    (a_SamePlace : PySem.W.nsIn K mainGlobals "SamePlace" = some (some (.ref c_SamePlace)))
    (a_BadNotation : PySem.W.nsIn K mainGlobals "BadNotation" = some (some (.ref c_BadNotation)))
    (a_BadBundle : PySem.W.nsIn K mainGlobals "BadBundle" = some (some (.ref c_BadBundle)))
    (a_TooNear : PySem.W.nsIn K mainGlobals "TooNear" = some (some (.ref c_TooNear)))
    (a_TakenIndex : PySem.W.nsIn K mainGlobals "TakenIndex" = some (some (.ref c_TakenIndex)))
    (a_BadIndex : PySem.W.nsIn K mainGlobals "BadIndex" = some (some (.ref c_BadIndex)))
    (a_UnknownName : PySem.W.nsIn K mainGlobals "UnknownName" = some (some (.ref c_UnknownName)))
    (a_NoTie : PySem.W.nsIn K mainGlobals "NoTie" = some (some (.ref c_NoTie)))
    (a_NothingToUndo : PySem.W.nsIn K mainGlobals "NothingToUndo" = some (some (.ref c_NothingToUndo)))
    (a_NothingToRedo : PySem.W.nsIn K mainGlobals "NothingToRedo" = some (some (.ref c_NothingToRedo)))
    (a_CountsDiffer : PySem.W.nsIn K mainGlobals "CountsDiffer" = some (some (.ref c_CountsDiffer)))
    (a_BadPrices : PySem.W.nsIn K mainGlobals "BadPrices" = some (some (.ref c_BadPrices)))
    (a_SharedPlace : PySem.W.nsIn K mainGlobals "SharedPlace" = some (some (.ref c_SharedPlace)))
    (i_CableError : PySem.W.isClsIn K c_CableError = true)
    (y_CableError : PySem.W.typeIn K (.ref c_CableError) = some (.type "type"))
    (i_BadPlan : PySem.W.isClsIn K c_BadPlan = true)
    (y_BadPlan : PySem.W.typeIn K (.ref c_BadPlan) = some (.type "type"))
    (i_ZeroBottom : PySem.W.isClsIn K c_ZeroBottom = true)
    (y_ZeroBottom : PySem.W.typeIn K (.ref c_ZeroBottom) = some (.type "type"))
    (i_NotSquare : PySem.W.isClsIn K c_NotSquare = true)
    (y_NotSquare : PySem.W.typeIn K (.ref c_NotSquare) = some (.type "type"))
    (i_NotSymmetric : PySem.W.isClsIn K c_NotSymmetric = true)
    (y_NotSymmetric : PySem.W.typeIn K (.ref c_NotSymmetric) = some (.type "type"))
    (i_SizesDiffer : PySem.W.isClsIn K c_SizesDiffer = true)
    (y_SizesDiffer : PySem.W.typeIn K (.ref c_SizesDiffer) = some (.type "type"))
    (i_BelowZero : PySem.W.isClsIn K c_BelowZero = true)
    (y_BelowZero : PySem.W.typeIn K (.ref c_BelowZero) = some (.type "type"))
    (i_BadRow : PySem.W.isClsIn K c_BadRow = true)
    (y_BadRow : PySem.W.typeIn K (.ref c_BadRow) = some (.type "type"))
    (i_BadWeight : PySem.W.isClsIn K c_BadWeight = true)
    (y_BadWeight : PySem.W.typeIn K (.ref c_BadWeight) = some (.type "type"))
    (i_NoSolution : PySem.W.isClsIn K c_NoSolution = true)
    (y_NoSolution : PySem.W.typeIn K (.ref c_NoSolution) = some (.type "type"))
    (i_OutsideFence : PySem.W.isClsIn K c_OutsideFence = true)
    (y_OutsideFence : PySem.W.typeIn K (.ref c_OutsideFence) = some (.type "type"))
    (i_RunOver : PySem.W.isClsIn K c_RunOver = true)
    (y_RunOver : PySem.W.typeIn K (.ref c_RunOver) = some (.type "type"))
    (i_BadPick : PySem.W.isClsIn K c_BadPick = true)
    (y_BadPick : PySem.W.typeIn K (.ref c_BadPick) = some (.type "type"))
    (i_BadStep : PySem.W.isClsIn K c_BadStep = true)
    (y_BadStep : PySem.W.typeIn K (.ref c_BadStep) = some (.type "type"))
    (i_StepsLeft : PySem.W.isClsIn K c_StepsLeft = true)
    (y_StepsLeft : PySem.W.typeIn K (.ref c_StepsLeft) = some (.type "type"))
    (i_BadTie : PySem.W.isClsIn K c_BadTie = true)
    (y_BadTie : PySem.W.typeIn K (.ref c_BadTie) = some (.type "type"))
    (i_SamePlace : PySem.W.isClsIn K c_SamePlace = true)
    (y_SamePlace : PySem.W.typeIn K (.ref c_SamePlace) = some (.type "type"))
    (i_BadNotation : PySem.W.isClsIn K c_BadNotation = true)
    (y_BadNotation : PySem.W.typeIn K (.ref c_BadNotation) = some (.type "type"))
    (i_BadBundle : PySem.W.isClsIn K c_BadBundle = true)
    (y_BadBundle : PySem.W.typeIn K (.ref c_BadBundle) = some (.type "type"))
    (i_TooNear : PySem.W.isClsIn K c_TooNear = true)
    (y_TooNear : PySem.W.typeIn K (.ref c_TooNear) = some (.type "type"))
    (i_TakenIndex : PySem.W.isClsIn K c_TakenIndex = true)
    (y_TakenIndex : PySem.W.typeIn K (.ref c_TakenIndex) = some (.type "type"))
    (i_BadIndex : PySem.W.isClsIn K c_BadIndex = true)
    (y_BadIndex : PySem.W.typeIn K (.ref c_BadIndex) = some (.type "type"))
    (i_UnknownName : PySem.W.isClsIn K c_UnknownName = true)
    (y_UnknownName : PySem.W.typeIn K (.ref c_UnknownName) = some (.type "type"))
    (i_NoTie : PySem.W.isClsIn K c_NoTie = true)
    (y_NoTie : PySem.W.typeIn K (.ref c_NoTie) = some (.type "type"))
    (i_NothingToUndo : PySem.W.isClsIn K c_NothingToUndo = true)
    (y_NothingToUndo : PySem.W.typeIn K (.ref c_NothingToUndo) = some (.type "type"))
    (i_NothingToRedo : PySem.W.isClsIn K c_NothingToRedo = true)
    (y_NothingToRedo : PySem.W.typeIn K (.ref c_NothingToRedo) = some (.type "type"))
    (i_CountsDiffer : PySem.W.isClsIn K c_CountsDiffer = true)
    (y_CountsDiffer : PySem.W.typeIn K (.ref c_CountsDiffer) = some (.type "type"))
    (i_BadPrices : PySem.W.isClsIn K c_BadPrices = true)
    (y_BadPrices : PySem.W.typeIn K (.ref c_BadPrices) = some (.type "type"))
    (i_SharedPlace : PySem.W.isClsIn K c_SharedPlace = true)
    (y_SharedPlace : PySem.W.typeIn K (.ref c_SharedPlace) = some (.type "type"))
    (b_CableError : PySem.W.subIn K (.ref c_CableError) (.type "BaseException") = some true)
    (b_BadPlan : PySem.W.subIn K (.ref c_BadPlan) (.type "BaseException") = some true)
    (xl_BadPlan : K.lookup c_BadPlan = some (excClassObj nm_BadPlan q_BadPlan c_BadPlan N_BadPlan bs_BadPlan [.ref c_CableError, .type "ValueError", .type "Exception", .type "BaseException", .type "object"] true sn_BadPlan sub_BadPlan ab_BadPlan col_BadPlan dd_BadPlan m0_BadPlan m1_BadPlan m2_BadPlan m3_BadPlan m5_BadPlan "ValueError.__new__"))
    (sa_BadPlan : PySem.W.findIn K (.ref c_BadPlan) "__setattr__" = some (some (.builtin "object.__setattr__")))
    (ga_BadPlan : PySem.W.findIn K (.ref c_BadPlan) "__getattribute__" = some (some (.builtin "BaseException.__getattribute__")))
    (gg_BadPlan : PySem.W.findIn K (.ref c_BadPlan) "__getattr__" = some none)
    (ca_BadPlan : PySem.W.findIn K (.ref c_BadPlan) "__class__" = some (some (.builtin "object.__class__")))
    (cm_BadPlan : PySem.W.mroIn K c_BadPlan (.type "object") = some true)
    (hd_BadPlan : PySem.W.hasDictIn K c_BadPlan = true)
    (kp_BadPlan : PySem.W.keepIn K (.ref c_BadPlan) = true)
    (xq_BadPlan : PySem.W.excIn K c_BadPlan [.type "ValueError", .type "Exception", .type "BaseException", .type "object"] "ValueError.__new__" = true)
    (cn0 : PySem.W.specialIn K (.builtin "object.__class__") "__get__" = some (some (.builtin "getset_descriptor.__get__")))
    (ct0 : PySem.W.takesIn K (.builtin "object.__class__") = some true)
    (s_BadPlan_BadPlan : PySem.W.subIn K (.ref c_BadPlan) (.ref c_BadPlan) = some true)
    (s_BadPlan_CableError : PySem.W.subIn K (.ref c_BadPlan) (.ref c_CableError) = some true)
    (s_BadPlan_ZeroBottom : PySem.W.subIn K (.ref c_BadPlan) (.ref c_ZeroBottom) = some false)
    (s_BadPlan_NotSquare : PySem.W.subIn K (.ref c_BadPlan) (.ref c_NotSquare) = some false)
    (s_BadPlan_NotSymmetric : PySem.W.subIn K (.ref c_BadPlan) (.ref c_NotSymmetric) = some false)
    (s_BadPlan_SizesDiffer : PySem.W.subIn K (.ref c_BadPlan) (.ref c_SizesDiffer) = some false)
    (s_BadPlan_BelowZero : PySem.W.subIn K (.ref c_BadPlan) (.ref c_BelowZero) = some false)
    (s_BadPlan_BadRow : PySem.W.subIn K (.ref c_BadPlan) (.ref c_BadRow) = some false)
    (s_BadPlan_BadWeight : PySem.W.subIn K (.ref c_BadPlan) (.ref c_BadWeight) = some false)
    (s_BadPlan_NoSolution : PySem.W.subIn K (.ref c_BadPlan) (.ref c_NoSolution) = some false)
    (s_BadPlan_OutsideFence : PySem.W.subIn K (.ref c_BadPlan) (.ref c_OutsideFence) = some false)
    (s_BadPlan_RunOver : PySem.W.subIn K (.ref c_BadPlan) (.ref c_RunOver) = some false)
    (s_BadPlan_BadPick : PySem.W.subIn K (.ref c_BadPlan) (.ref c_BadPick) = some false)
    (s_BadPlan_BadStep : PySem.W.subIn K (.ref c_BadPlan) (.ref c_BadStep) = some false)
    (s_BadPlan_StepsLeft : PySem.W.subIn K (.ref c_BadPlan) (.ref c_StepsLeft) = some false)
    (s_BadPlan_BadTie : PySem.W.subIn K (.ref c_BadPlan) (.ref c_BadTie) = some false)
    (s_BadPlan_SamePlace : PySem.W.subIn K (.ref c_BadPlan) (.ref c_SamePlace) = some false)
    (s_BadPlan_BadNotation : PySem.W.subIn K (.ref c_BadPlan) (.ref c_BadNotation) = some false)
    (s_BadPlan_BadBundle : PySem.W.subIn K (.ref c_BadPlan) (.ref c_BadBundle) = some false)
    (s_BadPlan_TooNear : PySem.W.subIn K (.ref c_BadPlan) (.ref c_TooNear) = some false)
    (s_BadPlan_TakenIndex : PySem.W.subIn K (.ref c_BadPlan) (.ref c_TakenIndex) = some false)
    (s_BadPlan_BadIndex : PySem.W.subIn K (.ref c_BadPlan) (.ref c_BadIndex) = some false)
    (s_BadPlan_UnknownName : PySem.W.subIn K (.ref c_BadPlan) (.ref c_UnknownName) = some false)
    (s_BadPlan_NoTie : PySem.W.subIn K (.ref c_BadPlan) (.ref c_NoTie) = some false)
    (s_BadPlan_NothingToUndo : PySem.W.subIn K (.ref c_BadPlan) (.ref c_NothingToUndo) = some false)
    (s_BadPlan_NothingToRedo : PySem.W.subIn K (.ref c_BadPlan) (.ref c_NothingToRedo) = some false)
    (s_BadPlan_CountsDiffer : PySem.W.subIn K (.ref c_BadPlan) (.ref c_CountsDiffer) = some false)
    (s_BadPlan_BadPrices : PySem.W.subIn K (.ref c_BadPlan) (.ref c_BadPrices) = some false)
    (s_BadPlan_SharedPlace : PySem.W.subIn K (.ref c_BadPlan) (.ref c_SharedPlace) = some false)
    (sb_BadPlan_ValueError : PySem.W.subIn K (.ref c_BadPlan) (.type "ValueError") = some true)
    : ∃ fd : FuncData, (∀ (s : Shared) (v : Value), BindsTo s fd ⟨[v], []⟩ [("script", v)]) ∧ ∀ base : Heap, K.In base → base.Ns mainGlobals mg → FnOk l.prog w K mg base CX0 43 fa fd ["script"] (spLaw K) := by
  have e := hfa.symm.trans (PySem.W.mg_of X G a31)
  cases e
  have T : Txt mg := { b_len := PySem.W.mg_none_of X G z0, b_int := PySem.W.mg_none_of X G z1, b_str := PySem.W.mg_none_of X G z2, b_tuple := PySem.W.mg_none_of X G z3, b_bool := PySem.W.mg_none_of X G z4, b_isinstance := PySem.W.mg_none_of X G z5, b_range := PySem.W.mg_none_of X G z6, b_any := PySem.W.mg_none_of X G z7, b_all := PySem.W.mg_none_of X G z8, b_max := PySem.W.mg_none_of X G z9, b_ValueError := PySem.W.mg_none_of X G z10, b_DIGITS_reading := ⟨_, PySem.W.mg_of X G y0⟩, b_DIGITS_plannotes := ⟨_, PySem.W.mg_of X G y1⟩, b_LETTERS := ⟨_, PySem.W.mg_of X G y2⟩, b_MOST_LETTERS := ⟨_, PySem.W.mg_of X G y3⟩, b_MOST_DEPTH := ⟨_, PySem.W.mg_of X G y4⟩, b_MOST_TUPLES := ⟨_, PySem.W.mg_of X G y5⟩ }
  have G_CableError := PySem.W.mg_of X G a_CableError
  have G_BadPlan := PySem.W.mg_of X G a_BadPlan
  have G_ZeroBottom := PySem.W.mg_of X G a_ZeroBottom
  have G_NotSquare := PySem.W.mg_of X G a_NotSquare
  have G_NotSymmetric := PySem.W.mg_of X G a_NotSymmetric
  have G_SizesDiffer := PySem.W.mg_of X G a_SizesDiffer
  have G_BelowZero := PySem.W.mg_of X G a_BelowZero
  have G_BadRow := PySem.W.mg_of X G a_BadRow
  have G_BadWeight := PySem.W.mg_of X G a_BadWeight
  have G_NoSolution := PySem.W.mg_of X G a_NoSolution
  have G_OutsideFence := PySem.W.mg_of X G a_OutsideFence
  have G_RunOver := PySem.W.mg_of X G a_RunOver
  have G_BadPick := PySem.W.mg_of X G a_BadPick
  have G_BadStep := PySem.W.mg_of X G a_BadStep
  have G_StepsLeft := PySem.W.mg_of X G a_StepsLeft
  have G_BadTie := PySem.W.mg_of X G a_BadTie
  have G_SamePlace := PySem.W.mg_of X G a_SamePlace
  have G_BadNotation := PySem.W.mg_of X G a_BadNotation
  have G_BadBundle := PySem.W.mg_of X G a_BadBundle
  have G_TooNear := PySem.W.mg_of X G a_TooNear
  have G_TakenIndex := PySem.W.mg_of X G a_TakenIndex
  have G_BadIndex := PySem.W.mg_of X G a_BadIndex
  have G_UnknownName := PySem.W.mg_of X G a_UnknownName
  have G_NoTie := PySem.W.mg_of X G a_NoTie
  have G_NothingToUndo := PySem.W.mg_of X G a_NothingToUndo
  have G_NothingToRedo := PySem.W.mg_of X G a_NothingToRedo
  have G_CountsDiffer := PySem.W.mg_of X G a_CountsDiffer
  have G_BadPrices := PySem.W.mg_of X G a_BadPrices
  have G_SharedPlace := PySem.W.mg_of X G a_SharedPlace
  have X_BadPlan : EX.XCls K c_BadPlan := ⟨i_BadPlan, ga_BadPlan, gg_BadPlan, b_BadPlan, ca_BadPlan, cn0, ct0, cm_BadPlan, hd_BadPlan, y_BadPlan, kp_BadPlan⟩
  have O_BadPlan : OexC K c_BadPlan := ⟨⟨nm_BadPlan, q_BadPlan, N_BadPlan, bs_BadPlan, _, sn_BadPlan, sub_BadPlan, ab_BadPlan, col_BadPlan, dd_BadPlan, m0_BadPlan, m1_BadPlan, m2_BadPlan, m3_BadPlan, m5_BadPlan, xl_BadPlan, by rfl⟩, sa_BadPlan, b_BadPlan, y_BadPlan, kp_BadPlan⟩
  have F_whole_of := fun_mk (st := s_whole_of) l1 c1 k1
  have m_whole_of := PySem.W.mg_of X G a1
  have b_whole_of := F_whole_of.binds (ps := ["word"]) fun _ _ _ _ _ _ us hl => match us, hl with | [_], _ => rfl
  have F_number_of := fun_mk (st := s_number_of) l2 c2 k2
  have m_number_of := PySem.W.mg_of X G a2
  have b_number_of := F_number_of.binds (ps := ["word", "least"]) fun _ _ _ _ _ _ us hl => match us, hl with | [_, _], _ => rfl
  have F_tuples_in := fun_mk (st := s_tuples_in) l3 c3 k3
  have m_tuples_in := PySem.W.mg_of X G a3
  have b_tuples_in := F_tuples_in.binds (ps := ["plan"]) fun _ _ _ _ _ _ us hl => match us, hl with | [_], _ => rfl
  have F_longest := fun_mk (st := s_longest) l4 c4 k4
  have m_longest := PySem.W.mg_of X G a4
  have b_longest := F_longest.binds (ps := ["text", "at", "signs"]) fun _ _ _ _ _ _ us hl => match us, hl with | [_, _, _], _ => rfl
  have F_behind := fun_mk (st := s_behind) l5 c5 k5
  have m_behind := PySem.W.mg_of X G a5
  have b_behind := F_behind.binds (ps := ["text", "at", "part"]) fun _ _ _ _ _ _ us hl => match us, hl with | [_, _, _], _ => rfl
  have F_read_number := fun_mk (st := s_read_number) l6 c6 k6
  have m_read_number := PySem.W.mg_of X G a6
  have b_read_number := F_read_number.binds (ps := ["text", "at", "least", "most"]) fun _ _ _ _ _ _ us hl => match us, hl with | [_, _, _, _], _ => rfl
  have F_read_join := fun_mk (st := s_read_join) l7 c7 k7
  have m_read_join := PySem.W.mg_of X G a7
  have b_read_join := F_read_join.binds (ps := ["text", "at", "depth"]) fun _ _ _ _ _ _ us hl => match us, hl with | [_, _, _], _ => rfl
  have F_read_scale := fun_mk (st := s_read_scale) l8 c8 k8
  have m_read_scale := PySem.W.mg_of X G a8
  have b_read_scale := F_read_scale.binds (ps := ["text", "at", "depth"]) fun _ _ _ _ _ _ us hl => match us, hl with | [_, _, _], _ => rfl
  have F_read_thin := fun_mk (st := s_read_thin) l9 c9 k9
  have m_read_thin := PySem.W.mg_of X G a9
  have b_read_thin := F_read_thin.binds (ps := ["text", "at", "depth"]) fun _ _ _ _ _ _ us hl => match us, hl with | [_, _, _], _ => rfl
  have F_read_word := fun_mk (st := s_read_word) l10 c10 k10
  have m_read_word := PySem.W.mg_of X G a10
  have b_read_word := F_read_word.binds (ps := ["text", "at", "depth"]) fun _ _ _ _ _ _ us hl => match us, hl with | [_, _, _], _ => rfl
  have F_read_plan := fun_mk (st := s_read_plan) l11 c11 k11
  have m_read_plan := PySem.W.mg_of X G a11
  have b_read_plan := F_read_plan.binds (ps := ["text", "at", "depth"]) fun _ _ _ _ _ _ us hl => match us, hl with | [_, _, _], _ => rfl
  have F_parse_plan := fun_mk (st := s_parse_plan) l12 c12 k12
  have m_parse_plan := PySem.W.mg_of X G a12
  have b_parse_plan := F_parse_plan.binds (ps := ["text"]) fun _ _ _ _ _ _ us hl => match us, hl with | [_], _ => rfl
  have F__law_whole := fun_mk (st := s__law_whole) l13 c13 k13
  have m__law_whole := PySem.W.mg_of X G a13
  have b__law_whole := F__law_whole.binds (ps := ["value"]) fun _ _ _ _ _ _ us hl => match us, hl with | [_], _ => rfl
  have F__law_cell := fun_mk (st := s__law_cell) l14 c14 k14
  have m__law_cell := PySem.W.mg_of X G a14
  have b__law_cell := F__law_cell.binds (ps := ["script", "k"]) fun _ _ _ _ _ _ us hl => match us, hl with | [_, _], _ => rfl
  have F__law_digits := fun_mk (st := s__law_digits) l15 c15 k15
  have m__law_digits := PySem.W.mg_of X G a15
  have b__law_digits := F__law_digits.binds (ps := ["cell", "sizes"]) fun _ _ _ _ _ _ us hl => match us, hl with | [_, _], _ => rfl
  have F__law_same := fun_mk (st := s__law_same) l16 c16 k16
  have m__law_same := PySem.W.mg_of X G a16
  have b__law_same := F__law_same.binds (ps := ["told", "due"]) fun _ _ _ _ _ _ us hl => match us, hl with | [_, _], _ => rfl
  have F__law_name := fun_mk (st := s__law_name) l17 c17 k17
  have m__law_name := PySem.W.mg_of X G a17
  have b__law_name := F__law_name.binds (ps := ["row", "taken"]) fun _ _ _ _ _ _ us hl => match us, hl with | [_, _], _ => rfl
  have F__law_grow := fun_mk (st := s__law_grow) l18 c18 k18
  have m__law_grow := PySem.W.mg_of X G a18
  have b__law_grow := F__law_grow.binds (ps := ["rows", "at", "many", "deep", "mode"]) fun _ _ _ _ _ _ us hl => match us, hl with | [_, _, _, _, _], _ => rfl
  have F__law_written := fun_mk (st := s__law_written) l19 c19 k19
  have m__law_written := PySem.W.mg_of X G a19
  have b__law_written := F__law_written.binds (ps := ["plan"]) fun _ _ _ _ _ _ us hl => match us, hl with | [_], _ => rfl
  have F__law_many := fun_mk (st := s__law_many) l20 c20 k20
  have m__law_many := PySem.W.mg_of X G a20
  have b__law_many := F__law_many.binds (ps := ["plan"]) fun _ _ _ _ _ _ us hl => match us, hl with | [_], _ => rfl
  have F__law_run := fun_mk (st := s__law_run) l21 c21 k21
  have m__law_run := PySem.W.mg_of X G a21
  have b__law_run := F__law_run.binds (ps := ["text", "at", "signs"]) fun _ _ _ _ _ _ us hl => match us, hl with | [_, _, _], _ => rfl
  have F__law_in_range := fun_mk (st := s__law_in_range) l22 c22 k22
  have m__law_in_range := PySem.W.mg_of X G a22
  have b__law_in_range := F__law_in_range.binds (ps := ["word", "least", "most"]) fun _ _ _ _ _ _ us hl => match us, hl with | [_, _, _], _ => rfl
  have F__law_read := fun_mk (st := s__law_read) l23 c23 k23
  have m__law_read := PySem.W.mg_of X G a23
  have b__law_read := F__law_read.binds (ps := ["text", "at", "deep"]) fun _ _ _ _ _ _ us hl => match us, hl with | [_, _, _], _ => rfl
  have F__law_plan_of := fun_mk (st := s__law_plan_of) l24 c24 k24
  have m__law_plan_of := PySem.W.mg_of X G a24
  have b__law_plan_of := F__law_plan_of.binds (ps := ["text"]) fun _ _ _ _ _ _ us hl => match us, hl with | [_], _ => rfl
  have F__law_signs := fun_mk (st := s__law_signs) l25 c25 k25
  have m__law_signs := PySem.W.mg_of X G a25
  have b__law_signs := F__law_signs.binds (ps := []) fun _ _ _ _ _ _ us hl => match us, hl with | [], _ => rfl
  have F__law_token := fun_mk (st := s__law_token) l26 c26 k26
  have m__law_token := PySem.W.mg_of X G a26
  have b__law_token := F__law_token.binds (ps := ["text", "place", "signs"]) fun _ _ _ _ _ _ us hl => match us, hl with | [_, _, _], _ => rfl
  have F__law_spoilt := fun_mk (st := s__law_spoilt) l27 c27 k27
  have m__law_spoilt := PySem.W.mg_of X G a27
  have b__law_spoilt := F__law_spoilt.binds (ps := ["text", "row"]) fun _ _ _ _ _ _ us hl => match us, hl with | [_, _], _ => rfl
  have F__law_drawn := fun_mk (st := s__law_drawn) l28 c28 k28
  have m__law_drawn := PySem.W.mg_of X G a28
  have b__law_drawn := F__law_drawn.binds (ps := ["script", "at", "pieces", "length"]) fun _ _ _ _ _ _ us hl => match us, hl with | [_, _, _, _], _ => rfl
  have F__law_is_bad := fun_mk (st := s__law_is_bad) l29 c29 k29
  have m__law_is_bad := PySem.W.mg_of X G a29
  have b__law_is_bad := F__law_is_bad.binds (ps := ["error"]) fun _ _ _ _ _ _ us hl => match us, hl with | [_], _ => rfl
  have F__law_right := fun_mk (st := s__law_right) l30 c30 k30
  have m__law_right := PySem.W.mg_of X G a30
  have b__law_right := F__law_right.binds (ps := ["text"]) fun _ _ _ _ _ _ us hl => match us, hl with | [_], _ => rfl
  have F_law := fun_mk (st := s_law) l31 c31 k31
  have m_law := PySem.W.mg_of X G a31
  refine ⟨PySem.W.fnOf "law" "law" (defArgs s_law) (defBody s_law) (defScope s_law) .none kV31 dc31 pm31 an31 cd31 ct31, fun s v => .of_eq rfl, fun base _ _ => ?_⟩
  have U : Err K mg c_BadPlan c_CableError := { g_BadPlan := G_BadPlan, g_CableError := G_CableError, q_BadPlan := xq_BadPlan, k_BadPlan := kp_BadPlan, x := X_BadPlan, eC := EX.exm_sub i_CableError y_CableError b_CableError s_BadPlan_CableError, kB := EX.kit_sub i_BadPlan y_BadPlan s_BadPlan_BadPlan s_BadPlan_BadPlan, kC := EX.kit_sub i_CableError y_CableError s_BadPlan_CableError s_BadPlan_BadPlan, kV := EX.kit_blt (by decide +kernel) sb_BadPlan_ValueError, n_ZeroBottom := ⟨_, G_ZeroBottom, EX.kit_sub i_ZeroBottom y_ZeroBottom s_BadPlan_ZeroBottom s_BadPlan_BadPlan⟩, n_NotSquare := ⟨_, G_NotSquare, EX.kit_sub i_NotSquare y_NotSquare s_BadPlan_NotSquare s_BadPlan_BadPlan⟩, n_NotSymmetric := ⟨_, G_NotSymmetric, EX.kit_sub i_NotSymmetric y_NotSymmetric s_BadPlan_NotSymmetric s_BadPlan_BadPlan⟩, n_SizesDiffer := ⟨_, G_SizesDiffer, EX.kit_sub i_SizesDiffer y_SizesDiffer s_BadPlan_SizesDiffer s_BadPlan_BadPlan⟩, n_BelowZero := ⟨_, G_BelowZero, EX.kit_sub i_BelowZero y_BelowZero s_BadPlan_BelowZero s_BadPlan_BadPlan⟩, n_BadRow := ⟨_, G_BadRow, EX.kit_sub i_BadRow y_BadRow s_BadPlan_BadRow s_BadPlan_BadPlan⟩, n_BadWeight := ⟨_, G_BadWeight, EX.kit_sub i_BadWeight y_BadWeight s_BadPlan_BadWeight s_BadPlan_BadPlan⟩, n_NoSolution := ⟨_, G_NoSolution, EX.kit_sub i_NoSolution y_NoSolution s_BadPlan_NoSolution s_BadPlan_BadPlan⟩, n_OutsideFence := ⟨_, G_OutsideFence, EX.kit_sub i_OutsideFence y_OutsideFence s_BadPlan_OutsideFence s_BadPlan_BadPlan⟩, n_RunOver := ⟨_, G_RunOver, EX.kit_sub i_RunOver y_RunOver s_BadPlan_RunOver s_BadPlan_BadPlan⟩, n_BadPick := ⟨_, G_BadPick, EX.kit_sub i_BadPick y_BadPick s_BadPlan_BadPick s_BadPlan_BadPlan⟩, n_BadStep := ⟨_, G_BadStep, EX.kit_sub i_BadStep y_BadStep s_BadPlan_BadStep s_BadPlan_BadPlan⟩, n_StepsLeft := ⟨_, G_StepsLeft, EX.kit_sub i_StepsLeft y_StepsLeft s_BadPlan_StepsLeft s_BadPlan_BadPlan⟩, n_BadTie := ⟨_, G_BadTie, EX.kit_sub i_BadTie y_BadTie s_BadPlan_BadTie s_BadPlan_BadPlan⟩, n_SamePlace := ⟨_, G_SamePlace, EX.kit_sub i_SamePlace y_SamePlace s_BadPlan_SamePlace s_BadPlan_BadPlan⟩, n_BadNotation := ⟨_, G_BadNotation, EX.kit_sub i_BadNotation y_BadNotation s_BadPlan_BadNotation s_BadPlan_BadPlan⟩, n_BadBundle := ⟨_, G_BadBundle, EX.kit_sub i_BadBundle y_BadBundle s_BadPlan_BadBundle s_BadPlan_BadPlan⟩, n_TooNear := ⟨_, G_TooNear, EX.kit_sub i_TooNear y_TooNear s_BadPlan_TooNear s_BadPlan_BadPlan⟩, n_TakenIndex := ⟨_, G_TakenIndex, EX.kit_sub i_TakenIndex y_TakenIndex s_BadPlan_TakenIndex s_BadPlan_BadPlan⟩, n_BadIndex := ⟨_, G_BadIndex, EX.kit_sub i_BadIndex y_BadIndex s_BadPlan_BadIndex s_BadPlan_BadPlan⟩, n_UnknownName := ⟨_, G_UnknownName, EX.kit_sub i_UnknownName y_UnknownName s_BadPlan_UnknownName s_BadPlan_BadPlan⟩, n_NoTie := ⟨_, G_NoTie, EX.kit_sub i_NoTie y_NoTie s_BadPlan_NoTie s_BadPlan_BadPlan⟩, n_NothingToUndo := ⟨_, G_NothingToUndo, EX.kit_sub i_NothingToUndo y_NothingToUndo s_BadPlan_NothingToUndo s_BadPlan_BadPlan⟩, n_NothingToRedo := ⟨_, G_NothingToRedo, EX.kit_sub i_NothingToRedo y_NothingToRedo s_BadPlan_NothingToRedo s_BadPlan_BadPlan⟩, n_CountsDiffer := ⟨_, G_CountsDiffer, EX.kit_sub i_CountsDiffer y_CountsDiffer s_BadPlan_CountsDiffer s_BadPlan_BadPlan⟩, n_BadPrices := ⟨_, G_BadPrices, EX.kit_sub i_BadPrices y_BadPrices s_BadPlan_BadPrices s_BadPlan_BadPlan⟩, n_SharedPlace := ⟨_, G_SharedPlace, EX.kit_sub i_SharedPlace y_SharedPlace s_BadPlan_SharedPlace s_BadPlan_BadPlan⟩ }
  have Cwhole_of : Cal l.prog w K mg base 1 "whole_of" ["word"] spWhole_of := ⟨_, _, ok_whole_of F_whole_of T, m_whole_of, F_whole_of.kp, b_whole_of⟩
  have Cnumber_of : Cal l.prog w K mg base 2 "number_of" ["word", "least"] spNumber_of := ⟨_, _, ok_number_of F_number_of T Cwhole_of, m_number_of, F_number_of.kp, b_number_of⟩
  have Ctuples : Cal l.prog w K mg base 12 "tuples_in" ["plan"] (spTuples 12) := all_tuples T F_tuples_in m_tuples_in b_tuples_in  12
  have Clongest : Cal l.prog w K mg base 1 "longest" ["text", "at", "signs"] spLongest := ⟨_, _, ok_longest F_longest T, m_longest, F_longest.kp, b_longest⟩
  have Cbehind : EX.CalX l.prog w K mg base 1 "behind" ["text", "at", "part"] (spBehind c_BadPlan) := ⟨_, _, ok_behind F_behind T U, m_behind, F_behind.kp, b_behind⟩
  have Cread_number : EX.CalX l.prog w K mg base 3 "read_number" ["text", "at", "least", "most"] (spRead_number c_BadPlan) := ⟨_, _, ok_read_number F_read_number T U Clongest Cnumber_of, m_read_number, F_read_number.kp, b_read_number⟩
  have Cread_plan : EX.CalX l.prog w K mg base 40 "read_plan" ["text", "at", "depth"] (spRd c_BadPlan 12 13 (rp 12)) := ring T U F_read_join F_read_scale F_read_thin F_read_word F_read_plan m_read_join m_read_scale m_read_thin m_read_word m_read_plan b_read_join b_read_scale b_read_thin b_read_word b_read_plan Cbehind Clongest Cread_number 12
  have Cparse : EX.CalX l.prog w K mg base 41 "parse_plan" ["text"] (spParse c_BadPlan) := ⟨_, _, ok_parse_plan F_parse_plan T U Cread_plan Ctuples, m_parse_plan, F_parse_plan.kp, b_parse_plan⟩
  have Cwhole : Cal l.prog w K mg base 1 "_law_whole" ["value"] spLaw_whole := ⟨_, _, ok__law_whole F__law_whole T, m__law_whole, F__law_whole.kp, b__law_whole⟩
  have Csame : Cal l.prog w K mg base 14 "_law_same" ["told", "due"] (spSame 12) := all_same T F__law_same m__law_same b__law_same Cwhole 12
  have Ccell : Cal l.prog w K mg base 1 "_law_cell" ["script", "k"] (spCell K) := ⟨_, _, ok__law_cell F__law_cell T, m__law_cell, F__law_cell.kp, b__law_cell⟩
  have Cdigits : Cal l.prog w K mg base 1 "_law_digits" ["cell", "sizes"] (spDigits K) := ⟨_, _, ok__law_digits F__law_digits T, m__law_digits, F__law_digits.kp, b__law_digits⟩
  have Cname : Cal l.prog w K mg base 1 "_law_name" ["row", "taken"] spName := ⟨_, _, ok__law_name F__law_name T, m__law_name, F__law_name.kp, b__law_name⟩
  have Cgrow : Cal l.prog w K mg base 14 "_law_grow" ["rows", "at", "many", "deep", "mode"] (spGrow 12) := all_grow T F__law_grow m__law_grow b__law_grow Cname 12
  have Cwritten : Cal l.prog w K mg base 13 "_law_written" ["plan"] (spFmt 13) := all_written T F__law_written m__law_written b__law_written  13
  have Cmany : Cal l.prog w K mg base 12 "_law_many" ["plan"] (spTuples 12) := all_many T F__law_many m__law_many b__law_many  12
  have Crun : Cal l.prog w K mg base 1 "_law_run" ["text", "at", "signs"] spRun := ⟨_, _, ok__law_run F__law_run T, m__law_run, F__law_run.kp, b__law_run⟩
  have Cinr : Cal l.prog w K mg base 1 "_law_in_range" ["word", "least", "most"] spInr := ⟨_, _, ok__law_in_range F__law_in_range T, m__law_in_range, F__law_in_range.kp, b__law_in_range⟩
  have Cread : Cal l.prog w K mg base 14 "_law_read" ["text", "at", "deep"] (spLr 12) := all_read T F__law_read m__law_read b__law_read Crun Cinr 12
  have Cplan_of : Cal l.prog w K mg base 15 "_law_plan_of" ["text"] spPlanOf := ⟨_, _, ok__law_plan_of F__law_plan_of T Cread Cmany Cwritten, m__law_plan_of, F__law_plan_of.kp, b__law_plan_of⟩
  have Csigns : Cal l.prog w K mg base 1 "_law_signs" [] spSigns := ⟨_, _, ok__law_signs F__law_signs T, m__law_signs, F__law_signs.kp, b__law_signs⟩
  have Ctoken : Cal l.prog w K mg base 1 "_law_token" ["text", "place", "signs"] spTok := ⟨_, _, ok__law_token F__law_token T, m__law_token, F__law_token.kp, b__law_token⟩
  have Cspoilt : Cal l.prog w K mg base 2 "_law_spoilt" ["text", "row"] spSpoilt := ⟨_, _, ok__law_spoilt F__law_spoilt T Csigns Ctoken, m__law_spoilt, F__law_spoilt.kp, b__law_spoilt⟩
  have Cdrawn : Cal l.prog w K mg base 2 "_law_drawn" ["script", "at", "pieces", "length"] (spDrawn K) := ⟨_, _, ok__law_drawn F__law_drawn T Csigns Ccell Cdigits, m__law_drawn, F__law_drawn.kp, b__law_drawn⟩
  have Cbad : Cal l.prog w K mg base 1 "_law_is_bad" ["error"] (spBad c_BadPlan) := ⟨_, _, ok__law_is_bad F__law_is_bad T U, m__law_is_bad, F__law_is_bad.kp, b__law_is_bad⟩
  have CEbad : EX.CalE l.prog w K mg base 1 "_law_is_bad" "error" c_BadPlan (.bl true) := ⟨_, _, okE__law_is_bad F__law_is_bad T U, m__law_is_bad, F__law_is_bad.kp, b__law_is_bad⟩
  have Cright : Cal l.prog w K mg base 42 "_law_right" ["text"] spRight := ⟨_, _, ok__law_right F__law_right T U Cplan_of Cparse Csame CEbad, m__law_right, F__law_right.kp, b__law_right⟩
  exact ok_law F_law T Ccell Cdigits Cgrow Cwritten Cspoilt Cdrawn U xq_BadPlan Cbad Cright
theorem walk {l : PySem.W.OpenLaw} {q : Program} {loose : List Str} {XP : (Str → Option Value) → Heap → Prop} {YP : World → Heap → Prop} {d : DefRec} {K : Params → PySem.W.Frag} (hn : l.most = some 63) (hdf : d.params.defaults = [])
    (hY : ∀ (w : World) (h : Heap), YP w h → (K w.params).In h)
    (F : ∀ (w : World) (mg : Str → Option Value) (fa : Addr) (h : Heap), (K w.params).In h → h.Ns mainGlobals mg → mg d.name = some (.ref fa) →
      ∃ fd : FuncData, (∀ (s : Shared) (u : Value), BindsTo s fd ⟨[u], []⟩ [("script", u)]) ∧ ∀ base : Heap, (K w.params).In base → base.Ns mainGlobals mg → FnOk l.prog w (K w.params) mg base CX0 43 fa fd ["script"] (spLaw (K w.params))) :
    PySem.W.WalkO q loose XP YP l.row.toRowW d [] (fun f vs => PySem.call f vs) :=
  L2.walk_of (n := 63) (k := 43) (x := "script") (CX := fun _ => CX0) (sp := fun w => spLaw (K w.params)) hn (by decide) hdf ⟨rfl, by decide, by decide⟩ hY F (fun _ _ a ns hl _ hS => ⟨a, ns, rfl, hS, hl, fun _ => rfl⟩) fun _ _ _ _ _ z => z
end P66
open PySem PySem.W PyProof.Rows
set_option maxRecDepth 100000 in
set_option maxHeartbeats 0 in
theorem PySem.Challenge.cw_wholecables_k66_bad_plans_holds : PySem.Challenge.rw_wholecables_k66_bad_plans.Holds := by
  w_on; o_law; k_head; (case hw => w_witness2)
  k_fill
  refine P66.walk (l := PySem.Challenge.rw_wholecables_k66_bad_plans) rfl rfl (fun w h Y => PySem.W.kIn_of Y) ?F
  case F =>
    intro w mg fa h KX G hmg
    refine' P66.all_mk KX G hmg ?a1 ?l1 ?c1 ?k1 ?a2 ?l2 ?c2 ?k2 ?a3 ?l3 ?c3 ?k3 ?a4 ?l4 ?c4 ?k4 ?a5 ?l5 ?c5 ?k5 ?a6 ?l6 ?c6 ?k6 ?a7 ?l7 ?c7 ?k7 ?a8 ?l8 ?c8 ?k8 ?a9 ?l9 ?c9 ?k9 ?a10 ?l10 ?c10 ?k10 ?a11 ?l11 ?c11 ?k11 ?a12 ?l12 ?c12 ?k12 ?a13 ?l13 ?c13 ?k13 ?a14 ?l14 ?c14 ?k14 ?a15 ?l15 ?c15 ?k15 ?a16 ?l16 ?c16 ?k16 ?a17 ?l17 ?c17 ?k17 ?a18 ?l18 ?c18 ?k18 ?a19 ?l19 ?c19 ?k19 ?a20 ?l20 ?c20 ?k20 ?a21 ?l21 ?c21 ?k21 ?a22 ?l22 ?c22 ?k22 ?a23 ?l23 ?c23 ?k23 ?a24 ?l24 ?c24 ?k24 ?a25 ?l25 ?c25 ?k25 ?a26 ?l26 ?c26 ?k26 ?a27 ?l27 ?c27 ?k27 ?a28 ?l28 ?c28 ?k28 ?a29 ?l29 ?c29 ?k29 ?a30 ?l30 ?c30 ?k30 ?a31 ?l31 ?c31 ?k31 ?z0 ?z1 ?z2 ?z3 ?z4 ?z5 ?z6 ?z7 ?z8 ?z9 ?z10 ?y0 ?y1 ?y2 ?y3 ?y4 ?y5 ?a_CableError ?a_BadPlan ?a_ZeroBottom ?a_NotSquare ?a_NotSymmetric ?a_SizesDiffer ?a_BelowZero ?a_BadRow ?a_BadWeight ?a_NoSolution ?a_OutsideFence ?a_RunOver ?a_BadPick ?a_BadStep ?a_StepsLeft ?a_BadTie ?a_SamePlace ?a_BadNotation ?a_BadBundle ?a_TooNear ?a_TakenIndex ?a_BadIndex ?a_UnknownName ?a_NoTie ?a_NothingToUndo ?a_NothingToRedo ?a_CountsDiffer ?a_BadPrices ?a_SharedPlace ?i_CableError ?y_CableError ?i_BadPlan ?y_BadPlan ?i_ZeroBottom ?y_ZeroBottom ?i_NotSquare ?y_NotSquare ?i_NotSymmetric ?y_NotSymmetric ?i_SizesDiffer ?y_SizesDiffer ?i_BelowZero ?y_BelowZero ?i_BadRow ?y_BadRow ?i_BadWeight ?y_BadWeight ?i_NoSolution ?y_NoSolution ?i_OutsideFence ?y_OutsideFence ?i_RunOver ?y_RunOver ?i_BadPick ?y_BadPick ?i_BadStep ?y_BadStep ?i_StepsLeft ?y_StepsLeft ?i_BadTie ?y_BadTie ?i_SamePlace ?y_SamePlace ?i_BadNotation ?y_BadNotation ?i_BadBundle ?y_BadBundle ?i_TooNear ?y_TooNear ?i_TakenIndex ?y_TakenIndex ?i_BadIndex ?y_BadIndex ?i_UnknownName ?y_UnknownName ?i_NoTie ?y_NoTie ?i_NothingToUndo ?y_NothingToUndo ?i_NothingToRedo ?y_NothingToRedo ?i_CountsDiffer ?y_CountsDiffer ?i_BadPrices ?y_BadPrices ?i_SharedPlace ?y_SharedPlace ?b_CableError ?b_BadPlan ?xl_BadPlan ?sa_BadPlan ?ga_BadPlan ?gg_BadPlan ?ca_BadPlan ?cm_BadPlan ?hd_BadPlan ?kp_BadPlan ?xq_BadPlan ?cn0 ?ct0 ?s_BadPlan_BadPlan ?s_BadPlan_CableError ?s_BadPlan_ZeroBottom ?s_BadPlan_NotSquare ?s_BadPlan_NotSymmetric ?s_BadPlan_SizesDiffer ?s_BadPlan_BelowZero ?s_BadPlan_BadRow ?s_BadPlan_BadWeight ?s_BadPlan_NoSolution ?s_BadPlan_OutsideFence ?s_BadPlan_RunOver ?s_BadPlan_BadPick ?s_BadPlan_BadStep ?s_BadPlan_StepsLeft ?s_BadPlan_BadTie ?s_BadPlan_SamePlace ?s_BadPlan_BadNotation ?s_BadPlan_BadBundle ?s_BadPlan_TooNear ?s_BadPlan_TakenIndex ?s_BadPlan_BadIndex ?s_BadPlan_UnknownName ?s_BadPlan_NoTie ?s_BadPlan_NothingToUndo ?s_BadPlan_NothingToRedo ?s_BadPlan_CountsDiffer ?s_BadPlan_BadPrices ?s_BadPlan_SharedPlace ?sb_BadPlan_ValueError
    (case a1 => k_is)
    (case l1 => k_is)
    (case c1 => k_is)
    (case k1 => k_is)
    (case a2 => k_is)
    (case l2 => k_is)
    (case c2 => k_is)
    (case k2 => k_is)
    (case a3 => k_is)
    (case l3 => k_is)
    (case c3 => k_is)
    (case k3 => k_is)
    (case a4 => k_is)
    (case l4 => k_is)
    (case c4 => k_is)
    (case k4 => k_is)
    (case a5 => k_is)
    (case l5 => k_is)
    (case c5 => k_is)
    (case k5 => k_is)
    (case a6 => k_is)
    (case l6 => k_is)
    (case c6 => k_is)
    (case k6 => k_is)
    (case a7 => k_is)
    (case l7 => k_is)
    (case c7 => k_is)
    (case k7 => k_is)
    (case a8 => k_is)
    (case l8 => k_is)
    (case c8 => k_is)
    (case k8 => k_is)
    (case a9 => k_is)
    (case l9 => k_is)
    (case c9 => k_is)
    (case k9 => k_is)
    (case a10 => k_is)
    (case l10 => k_is)
    (case c10 => k_is)
    (case k10 => k_is)
    (case a11 => k_is)
    (case l11 => k_is)
    (case c11 => k_is)
    (case k11 => k_is)
    (case a12 => k_is)
    (case l12 => k_is)
    (case c12 => k_is)
    (case k12 => k_is)
    (case a13 => k_is)
    (case l13 => k_is)
    (case c13 => k_is)
    (case k13 => k_is)
    (case a14 => k_is)
    (case l14 => k_is)
    (case c14 => k_is)
    (case k14 => k_is)
    (case a15 => k_is)
    (case l15 => k_is)
    (case c15 => k_is)
    (case k15 => k_is)
    (case a16 => k_is)
    (case l16 => k_is)
    (case c16 => k_is)
    (case k16 => k_is)
    (case a17 => k_is)
    (case l17 => k_is)
    (case c17 => k_is)
    (case k17 => k_is)
    (case a18 => k_is)
    (case l18 => k_is)
    (case c18 => k_is)
    (case k18 => k_is)
    (case a19 => k_is)
    (case l19 => k_is)
    (case c19 => k_is)
    (case k19 => k_is)
    (case a20 => k_is)
    (case l20 => k_is)
    (case c20 => k_is)
    (case k20 => k_is)
    (case a21 => k_is)
    (case l21 => k_is)
    (case c21 => k_is)
    (case k21 => k_is)
    (case a22 => k_is)
    (case l22 => k_is)
    (case c22 => k_is)
    (case k22 => k_is)
    (case a23 => k_is)
    (case l23 => k_is)
    (case c23 => k_is)
    (case k23 => k_is)
    (case a24 => k_is)
    (case l24 => k_is)
    (case c24 => k_is)
    (case k24 => k_is)
    (case a25 => k_is)
    (case l25 => k_is)
    (case c25 => k_is)
    (case k25 => k_is)
    (case a26 => k_is)
    (case l26 => k_is)
    (case c26 => k_is)
    (case k26 => k_is)
    (case a27 => k_is)
    (case l27 => k_is)
    (case c27 => k_is)
    (case k27 => k_is)
    (case a28 => k_is)
    (case l28 => k_is)
    (case c28 => k_is)
    (case k28 => k_is)
    (case a29 => k_is)
    (case l29 => k_is)
    (case c29 => k_is)
    (case k29 => k_is)
    (case a30 => k_is)
    (case l30 => k_is)
    (case c30 => k_is)
    (case k30 => k_is)
    (case a31 => k_is)
    (case l31 => k_is)
    (case c31 => k_is)
    (case k31 => k_is)
    (case z0 => k_is)
    (case z1 => k_is)
    (case z2 => k_is)
    (case z3 => k_is)
    (case z4 => k_is)
    (case z5 => k_is)
    (case z6 => k_is)
    (case z7 => k_is)
    (case z8 => k_is)
    (case z9 => k_is)
    (case z10 => k_is)
    (case y0 => k_is)
    (case y1 => k_is)
    (case y2 => k_is)
    (case y3 => k_is)
    (case y4 => k_is)
    (case y5 => k_is)
    (case a_CableError => k_is)
    (case a_BadPlan => k_is)
    (case a_ZeroBottom => k_is)
    (case a_NotSquare => k_is)
    (case a_NotSymmetric => k_is)
    (case a_SizesDiffer => k_is)
    (case a_BelowZero => k_is)
    (case a_BadRow => k_is)
    (case a_BadWeight => k_is)
    (case a_NoSolution => k_is)
    (case a_OutsideFence => k_is)
    (case a_RunOver => k_is)
    (case a_BadPick => k_is)
    (case a_BadStep => k_is)
    (case a_StepsLeft => k_is)
    (case a_BadTie => k_is)
    (case a_SamePlace => k_is)
    (case a_BadNotation => k_is)
    (case a_BadBundle => k_is)
    (case a_TooNear => k_is)
    (case a_TakenIndex => k_is)
    (case a_BadIndex => k_is)
    (case a_UnknownName => k_is)
    (case a_NoTie => k_is)
    (case a_NothingToUndo => k_is)
    (case a_NothingToRedo => k_is)
    (case a_CountsDiffer => k_is)
    (case a_BadPrices => k_is)
    (case a_SharedPlace => k_is)
    (case i_CableError => k_is)
    (case y_CableError => k_is)
    (case i_BadPlan => k_is)
    (case y_BadPlan => k_is)
    (case i_ZeroBottom => k_is)
    (case y_ZeroBottom => k_is)
    (case i_NotSquare => k_is)
    (case y_NotSquare => k_is)
    (case i_NotSymmetric => k_is)
    (case y_NotSymmetric => k_is)
    (case i_SizesDiffer => k_is)
    (case y_SizesDiffer => k_is)
    (case i_BelowZero => k_is)
    (case y_BelowZero => k_is)
    (case i_BadRow => k_is)
    (case y_BadRow => k_is)
    (case i_BadWeight => k_is)
    (case y_BadWeight => k_is)
    (case i_NoSolution => k_is)
    (case y_NoSolution => k_is)
    (case i_OutsideFence => k_is)
    (case y_OutsideFence => k_is)
    (case i_RunOver => k_is)
    (case y_RunOver => k_is)
    (case i_BadPick => k_is)
    (case y_BadPick => k_is)
    (case i_BadStep => k_is)
    (case y_BadStep => k_is)
    (case i_StepsLeft => k_is)
    (case y_StepsLeft => k_is)
    (case i_BadTie => k_is)
    (case y_BadTie => k_is)
    (case i_SamePlace => k_is)
    (case y_SamePlace => k_is)
    (case i_BadNotation => k_is)
    (case y_BadNotation => k_is)
    (case i_BadBundle => k_is)
    (case y_BadBundle => k_is)
    (case i_TooNear => k_is)
    (case y_TooNear => k_is)
    (case i_TakenIndex => k_is)
    (case y_TakenIndex => k_is)
    (case i_BadIndex => k_is)
    (case y_BadIndex => k_is)
    (case i_UnknownName => k_is)
    (case y_UnknownName => k_is)
    (case i_NoTie => k_is)
    (case y_NoTie => k_is)
    (case i_NothingToUndo => k_is)
    (case y_NothingToUndo => k_is)
    (case i_NothingToRedo => k_is)
    (case y_NothingToRedo => k_is)
    (case i_CountsDiffer => k_is)
    (case y_CountsDiffer => k_is)
    (case i_BadPrices => k_is)
    (case y_BadPrices => k_is)
    (case i_SharedPlace => k_is)
    (case y_SharedPlace => k_is)
    (case b_CableError => k_is)
    (case b_BadPlan => k_is)
    (case xl_BadPlan => k_is)
    (case sa_BadPlan => k_is)
    (case ga_BadPlan => k_is)
    (case gg_BadPlan => k_is)
    (case ca_BadPlan => k_is)
    (case cm_BadPlan => k_is)
    (case hd_BadPlan => k_is)
    (case kp_BadPlan => k_is)
    (case xq_BadPlan => k_exc)
    (case cn0 => k_is)
    (case ct0 => k_is)
    (case s_BadPlan_BadPlan => k_is)
    (case s_BadPlan_CableError => k_is)
    (case s_BadPlan_ZeroBottom => k_is)
    (case s_BadPlan_NotSquare => k_is)
    (case s_BadPlan_NotSymmetric => k_is)
    (case s_BadPlan_SizesDiffer => k_is)
    (case s_BadPlan_BelowZero => k_is)
    (case s_BadPlan_BadRow => k_is)
    (case s_BadPlan_BadWeight => k_is)
    (case s_BadPlan_NoSolution => k_is)
    (case s_BadPlan_OutsideFence => k_is)
    (case s_BadPlan_RunOver => k_is)
    (case s_BadPlan_BadPick => k_is)
    (case s_BadPlan_BadStep => k_is)
    (case s_BadPlan_StepsLeft => k_is)
    (case s_BadPlan_BadTie => k_is)
    (case s_BadPlan_SamePlace => k_is)
    (case s_BadPlan_BadNotation => k_is)
    (case s_BadPlan_BadBundle => k_is)
    (case s_BadPlan_TooNear => k_is)
    (case s_BadPlan_TakenIndex => k_is)
    (case s_BadPlan_BadIndex => k_is)
    (case s_BadPlan_UnknownName => k_is)
    (case s_BadPlan_NoTie => k_is)
    (case s_BadPlan_NothingToUndo => k_is)
    (case s_BadPlan_NothingToRedo => k_is)
    (case s_BadPlan_CountsDiffer => k_is)
    (case s_BadPlan_BadPrices => k_is)
    (case s_BadPlan_SharedPlace => k_is)
    (case sb_BadPlan_ValueError => k_is)
