import PyProof.Rows.All
import Wide.All
import OpenK.AllK
import Wide.FinOn
import HandS.Codes
import HandS.Base
import HandS.List
import HandS.IsInst
import HandS.Text
import HandS.Call
import HandS.Comp
import HandS.Ends
import HandS.Iter
import HandS.Words
import HandS.WordsList
import HandS.Exc
import HandS.FStr
import HandS.Walk
import HandS.Wide
import PySem.Challenge.RW_wholecables_k65_plans_written
set_option Elab.async false
set_option linter.all false
set_option maxRecDepth 100000
set_option maxHeartbeats 4000000
/-! Plans, the texts that write them, what a reader sees of such a text. -/
namespace P65
open PySem SX

/-- a plan -/
inductive Plan where
  | take (n : List Nat)
  | join (a b : Plan)
  | scale (p q : Nat) (a : Plan)
  | spare (a : Plan)
  | base (a : Plan)
  | thin (k : Nat) (a : Plan)

namespace Plan
def height : Plan → Nat
  | take _ => 1
  | join a b => max a.height b.height + 1
  | scale _ _ a => a.height + 1
  | spare a => a.height + 1
  | base a => a.height + 1
  | thin _ a => a.height + 1
def count : Plan → Nat
  | take _ => 1
  | join a b => 1 + a.count + b.count
  | scale _ _ a => 1 + a.count
  | spare a => 1 + a.count
  | base a => 1 + a.count
  | thin _ a => 1 + a.count
end Plan

/-- the signs of a word -/
def tThin : List Nat := [116, 104, 105, 110]
def tSpare : List Nat := [115, 112, 97, 114, 101]
def tBase : List Nat := [98, 97, 115, 101]
/-- small letters, digits -/
def letter (c : Nat) : Bool := decide (97 ≤ c ∧ c ≤ 122)
def digit (c : Nat) : Bool := decide (48 ≤ c ∧ c ≤ 57)
/-- a name: 1 to 8 small letters, none of the three words -/
structure GoodName (n : List Nat) : Prop where
  pos : 1 ≤ n.length
  le : n.length ≤ 8
  let_ : ∀ c ∈ n, letter c = true
  thin : n ≠ tThin
  spare : n ≠ tSpare
  base : n ≠ tBase
def Good : Plan → Prop
  | .take n => GoodName n
  | .join a b => Good a ∧ Good b
  | .scale p q a => (1 ≤ p ∧ p ≤ 999) ∧ (1 ≤ q ∧ q ≤ 999) ∧ Good a
  | .spare a => Good a
  | .base a => Good a
  | .thin k a => (2 ≤ k ∧ k ≤ 10) ∧ Good a

/-- the text that writes a plan -/
def fmt : Plan → List Nat
  | .take n => n
  | .join a b => [40] ++ fmt a ++ [32, 43, 32] ++ fmt b ++ [41]
  | .scale p q a => TL.numL p ++ [47] ++ TL.numL q ++ [32, 42, 32] ++ fmt a
  | .spare a => tSpare ++ [32] ++ fmt a
  | .base a => tBase ++ [32] ++ fmt a
  | .thin k a => tThin ++ [32] ++ TL.numL k ++ [32] ++ fmt a

theorem numL_le3 {p : Nat} (h : p ≤ 999) : (TL.numL p).length ≤ 3 := TL.numL_len (by decide) (Nat.lt_of_le_of_lt h (by decide))
theorem numL_digit (p : Nat) : ∀ c ∈ TL.numL p, digit c = true := fun c hc => by
  have h := TL.numL_digits p c hc
  exact decide_eq_true ⟨h.1, h.2⟩
/-- the first sign of a number above 0 is no zero -/
theorem numL_head : ∀ {p : Nat}, 1 ≤ p → ∃ c r, TL.numL p = c :: r ∧ c ≠ 48 := fun {p} => by
  induction p using Nat.strongRecOn with
  | _ p ih =>
    intro h
    by_cases h10 : p < 10
    · exact ⟨48 + p, [], TL.numL_lt h10, by omega⟩
    · obtain ⟨c, r, e, n⟩ := ih (p / 10) (by omega) (by omega)
      exact ⟨c, r ++ [48 + p % 10], by rw [TL.numL_step (by omega), e]; rfl, n⟩
theorem numL_pos (p : Nat) : 1 ≤ (TL.numL p).length := List.length_pos_iff.mpr (TL.numL_ne p)

/-- how long a text is -/
theorem fmt_len : ∀ {a : Plan}, Good a → (fmt a).length ≤ 16 * a.count
  | .take n, h => by have := h.le; simp only [fmt, Plan.count]; omega
  | .join a b, h => by
    have h1 := fmt_len h.1
    have h2 := fmt_len h.2
    simp only [fmt, Plan.count, List.length_append, List.length_cons, List.length_nil]
    omega
  | .scale p q a, h => by
    have h1 := fmt_len h.2.2
    have h2 := numL_le3 h.1.2
    have h3 := numL_le3 h.2.1.2
    simp only [fmt, Plan.count, List.length_append, List.length_cons, List.length_nil]
    omega
  | .spare a, h => by
    have h1 := fmt_len (a := a) h
    simp only [fmt, tSpare, Plan.count, List.length_append, List.length_cons, List.length_nil]
    omega
  | .base a, h => by
    have h1 := fmt_len (a := a) h
    simp only [fmt, tBase, Plan.count, List.length_append, List.length_cons, List.length_nil]
    omega
  | .thin k a, h => by
    have h1 := fmt_len h.2
    have h2 := numL_le3 (p := k) (by have := h.1.2; omega)
    simp only [fmt, tThin, Plan.count, List.length_append, List.length_cons, List.length_nil]
    omega
theorem count_pos : ∀ a : Plan, 1 ≤ a.count
  | .take _ => Nat.le_refl 1
  | .join a b => by simp only [Plan.count]; omega
  | .scale _ _ a => by simp only [Plan.count]; omega
  | .spare a => by simp only [Plan.count]; omega
  | .base a => by simp only [Plan.count]; omega
  | .thin _ a => by simp only [Plan.count]; omega
theorem height_pos : ∀ a : Plan, 1 ≤ a.height
  | .take _ => Nat.le_refl 1
  | .join a b => by simp only [Plan.height]; omega
  | .scale _ _ a => by simp only [Plan.height]; omega
  | .spare a => by simp only [Plan.height]; omega
  | .base a => by simp only [Plan.height]; omega
  | .thin _ a => by simp only [Plan.height]; omega

/-- what stands behind a plan: nothing, a bracket, a blank -/
def Stop (r : List Nat) : Prop := ∀ c, r.head? = some c → c = 41 ∨ c = 32
theorem Stop.nil : Stop [] := fun c h => by simp at h
theorem Stop.cons {c : Nat} {r : List Nat} (h : c = 41 ∨ c = 32) : Stop (c :: r) := fun d hd => by
  have e : c = d := Option.some.inj hd
  subst e; exact h
theorem tw_app {p : Nat → Bool} {a r : List Nat} (ha : ∀ c ∈ a, p c = true) (hr : ∀ c, r.head? = some c → p c = false) : (a ++ r).takeWhile p = a := by
  induction a with
  | nil =>
    cases r with
    | nil => rfl
    | cons c r => rw [List.nil_append, List.takeWhile_cons, if_neg (by rw [hr c rfl]; exact Bool.false_ne_true)]
  | cons c a ih =>
    rw [List.cons_append, List.takeWhile_cons, if_pos (ha c List.mem_cons_self), ih fun d hd => ha d (List.mem_cons_of_mem _ hd)]
theorem Stop.letter {r : List Nat} (h : Stop r) : ∀ c, r.head? = some c → letter c = false := fun c e => by
  rcases h c e with rfl | rfl <;> decide
theorem Stop.digit {r : List Nat} (h : Stop r) : ∀ c, r.head? = some c → digit c = false := fun c e => by
  rcases h c e with rfl | rfl <;> decide

/-- the kind of a plan's first sign -/
inductive Kind where | bracket | number | word
def kind : Plan → Kind
  | .join _ _ => .bracket
  | .scale _ _ _ => .number
  | _ => .word
theorem head_name {n : List Nat} (h : GoodName n) : ∃ c r, n = c :: r ∧ letter c = true := by
  cases n with
  | nil => exact absurd h.pos (by decide)
  | cons c r => exact ⟨c, r, rfl, h.let_ c List.mem_cons_self⟩
/-- a written plan begins with a bracket, a digit or a letter, as its kind says -/
theorem fmt_head : ∀ {a : Plan}, Good a → ∃ c r, fmt a = c :: r ∧ (match kind a with | .bracket => c = 40 | .number => digit c = true | .word => letter c = true)
  | .take n, h => head_name h
  | .join a b, h => ⟨40, _, rfl, rfl⟩
  | .scale p q a, h => by
    obtain ⟨c, r, e, _⟩ := numL_head h.1.1
    refine ⟨c, r ++ ([47] ++ TL.numL q ++ [32, 42, 32] ++ fmt a), ?_, numL_digit p c (by rw [e]; exact List.mem_cons_self)⟩
    simp only [fmt, e, List.cons_append, List.append_assoc]
  | .spare a, h => ⟨115, _, rfl, by show letter 115 = true; decide⟩
  | .base a, h => ⟨98, _, rfl, by show letter 98 = true; decide⟩
  | .thin k a, h => ⟨116, _, rfl, by show letter 116 = true; decide⟩
end P65
/-! A rule for «match e: case 'a': .. case _: ..» over a text. -/
namespace L2
open PySem PySem.Spec PyProof.Rows
/-- the cases of a match, of a value -/
structure PM (X : Cx) (cs : List MatchCase) (t : V → TS) : Prop where
  run : ∀ (pins : List (Addr × Obj)) (s : Shared) (σ : St) (H : Hp) (D : Ends) (v : V) (u : Value) (first : Bool), Inv X pins σ H s → RelV v u → t v D σ H → wpAny (model X.prog X.w) X.A (matchCases cs X.env u first) (SP X pins D) X.xe s
section
variable {X : Cx}
def tMNil : V → TS := fun _ D σ H => D.nx σ H
def tMStr (x : Str) (tb : TS) (tr : V → TS) : V → TS := fun v D σ H => ∃ y, v = .str y ∧ if decide (y = x) = true then tb D σ H else tr (.str y) D σ H
def tMAny (tb : TS) : V → TS := fun _ D σ H => tb D σ H
theorem pm_nil : PM X [] tMNil := ⟨fun pins s σ H D v u first I r h => wpAny_matchCases_nil ⟨σ, H, I, h⟩⟩
theorem pm_str {x : Str} {j p1 p2} {body : List Stmt} {rest : List MatchCase} {tb : TS} {tr : V → TS} (hb : PSs X body tb) (hr : PM X rest tr) :
    PM X (⟨.MatchValue (.Constant (.str x) j p1) p2, none, body⟩ :: rest) (tMStr x tb tr) := by
  refine ⟨fun pins s σ H D v u first I r h => ?_⟩
  obtain ⟨y, rfl, q⟩ := h
  obtain ⟨t, rfl⟩ := r
  refine wpAny_matchCases_cons (wpAny_matchPattern_Value (Calls.Constant_str ?_))
  refine eq_str ?_
  refine wpAny_truthy_bool ?_
  by_cases e : y = x
  · have e1 : (y == x) = true := by rw [e]; exact beq_self_eq_true x
    rw [if_pos (decide_eq_true e)] at q
    first
      | rw [e1]
      | (rw [decide_eq_true e])
    show wpAny _ X.A (assignInOrder [] []) _ _ _
    exact wpAny_assignInOrder_none (hb.run pins _ σ H D (I.tok _) q)
  · have e1 : (y == x) = false := beq_eq_false_iff_ne.mpr e
    rw [if_neg (by rw [decide_eq_false e]; exact Bool.false_ne_true)] at q
    first
      | rw [e1]
      | (rw [decide_eq_false e])
    exact hr.run pins _ σ H D (.str y) _ false (I.tok _) ⟨t, rfl⟩ q
theorem pm_any {p2} {body : List Stmt} {tb : TS} (hb : PSs X body tb) : PM X [⟨.MatchAs none none p2, none, body⟩] (tMAny tb) := by
  refine ⟨fun pins s σ H D v u first I r h => ?_⟩
  refine wpAny_matchCases_cons (wpAny_matchPattern_Capture ?_)
  show wpAny _ X.A (assignInOrder [] []) _ _ _
  exact wpAny_assignInOrder_none (hb.run pins _ σ H D I h)
def tMatch (te : TE) (t : V → TS) : TS := fun D σ H => te σ H fun v H1 => t v D σ H1
theorem ps_match {e : Expr} {cs : List MatchCase} {pos : Pos} {te : TE} {t : V → TS} (he : PE X e te) (hc : PM X cs t) : PS X (.Match e cs pos) (tMatch te t) := by
  refine ⟨fun pins s σ H D I h => ?_⟩
  refine wpAny_Match (thn (he.run pins s σ H _ I h) fun u s1 ⟨v, H1, I1, r1, q1⟩ => ?_)
  exact hc.run pins s1 σ H1 D v u true I1 r1 q1
/-! the rules that speak of the written part, with K said outright: for a comprehension's block, where the context is bound -/
section
variable {X : Cx}
theorem ix_tupK {K : PySem.W.Frag} (h : X.K = K) : IxR X (rIxT K) := by subst h; exact ix_tup
theorem ix_listK {K : PySem.W.Frag} (h : X.K = K) : IxR X (rIxL K) := by subst h; exact ix_list
theorem sl_listK {K : PySem.W.Frag} (h : X.K = K) : SlR X (rSlL K) := by subst h; exact sl_list
theorem sl_tupK {K : PySem.W.Frag} (h : X.K = K) : SlR X (rSlT K) := by subst h; exact sl_tup
theorem op_in_seqK {K : PySem.W.Frag} (h : X.K = K) : OpR X (compareOp .In) (rIn K false) := by subst h; exact op_in_seq
theorem op_notIn_seqK {K : PySem.W.Frag} (h : X.K = K) : OpR X (compareOp .NotIn) (rIn K true) := by subst h; exact op_notIn_seq
theorem call_len_seqK {K : PySem.W.Frag} (h : X.K = K) : CallR X (.builtin "len") (fun xs H Q => ∃ p ys, xs = [.ref p] ∧ (SqL K H p ys ∨ SqT K H p ys) ∧ Q (.int ys.length) H) := by subst h; exact call_len_seq
theorem call_isiK1 {K : PySem.W.Frag} (h : X.K = K) : CallR X (.builtin "isinstance") (rIsi K) := by subst h; exact call_isi
theorem cr_allK {K : PySem.W.Frag} (h : X.K = K) (hc : X.calm = true) : CallR X (.builtin "all") (rAll K) := by subst h; exact cr_all hc
theorem cr_anyK {K : PySem.W.Frag} (h : X.K = K) (hc : X.calm = true) : CallR X (.builtin "any") (rAny K) := by subst h; exact cr_any hc
theorem cr_sumK {K : PySem.W.Frag} (h : X.K = K) (hc : X.calm = true) : CallR X (.builtin "sum") (rSum K) := by subst h; exact cr_sum hc
end
end
end L2
/-! What the walks share: the text by places, the facts of the top, plans in the heap. -/
namespace P65
open PySem PySem.Spec PyProof.Rows L2 SX
def top (i : Nat) : Stmt := PySem.Challenge.pw_wholecables_k65_plans_written.main.body.getD i (.Pass ⟨0, 0, 0, 0⟩)

/-- a def as its callers see it -/
def Cal (P : Program) (w : World) (K : PySem.W.Frag) (mg : Str → Option Value) (base : Heap) (k : Nat) (x : Str) (ps : List Str) (sp : Sp) : Prop :=
  ∃ (f : Addr) (fd : FuncData), FnOk P w K mg base CX0 k f fd ps sp ∧ mg x = some (.ref f) ∧ PySem.W.keepIn K (.ref f) = true ∧ Binds K fd ps []
theorem Cal.mono {P : Program} {w : World} {K : PySem.W.Frag} {mg : Str → Option Value} {base : Heap} {j k : Nat} {x : Str} {ps : List Str} {sp : Sp} (C : Cal P w K mg base j x ps sp) (h : j ≤ k) : Cal P w K mg base k x ps sp := by
  obtain ⟨f, fd, G, m, kp, b⟩ := C
  exact ⟨f, fd, G.mono h, m, kp, b⟩
theorem pe_cal {X : Cx} {k : Nat} {x : Str} {ps : List Str} {sp : Sp} {p pos : Pos} {e : Expr} {es : List Expr} {t : TA} (C : Cal X.prog X.w X.K X.mg X.base k x ps sp) (hr : Room k X.A) (hg : Gl X x) (ha : PA X (e :: es) t)
    (hdb : (x == ("__debug__" : Str)) = false := by decide) (he : starEach (e :: es) X.env = (false, eval e X.env) :: starEach es X.env := by rfl) (hpl : (backTo pos (starEach es X.env)).any (·.1) = false := by rfl) :
    PE X (.Call (.Name x p) (e :: es) [] pos) (tCall sp [] E0 t) := by
  obtain ⟨f, fd, G, m, kp, b⟩ := C
  exact pe_call G hr hg m kp b .nil pass0 ha hdb he hpl

/-- the built-in names that the text asks for are the built-in ones, its constants stand -/
structure Txt (mg : Str → Option Value) : Prop where
  b_len : mg "len" = none
  b_int : mg "int" = none
  b_str : mg "str" = none
  b_tuple : mg "tuple" = none
  b_bool : mg "bool" = none
  b_isinstance : mg "isinstance" = none
  b_range : mg "range" = none
  b_any : mg "any" = none
  b_all : mg "all" = none
  b_max : mg "max" = none
  b_DIGITS_reading : ∃ t, mg "DIGITS_reading" = some (.str "0123456789" t)
  b_DIGITS_plannotes : ∃ t, mg "DIGITS_plannotes" = some (.str "0123456789" t)
  b_LETTERS : ∃ t, mg "LETTERS" = some (.str "abcdefghijklmnopqrstuvwxyz" t)
  b_MOST_LETTERS : ∃ t, mg "MOST_LETTERS" = some (.int 8 t)
  b_MOST_DEPTH : ∃ t, mg "MOST_DEPTH" = some (.int 12 t)
  b_MOST_TUPLES : ∃ t, mg "MOST_TUPLES" = some (.int 40 t)
theorem pe_gstr {X : Cx} {x : Str} {y : Str} {pos : Pos} (hg : Gl X x) (h : ∃ t, X.mg x = some (.str y t)) (hd : (x == ("__debug__" : Str)) = false := by decide) : PE X (.Name x pos) (tC (.str y)) := by
  obtain ⟨t, e⟩ := h
  exact pe_glob hg e ⟨_, rfl⟩ hd
theorem pe_gint {X : Cx} {x : Str} {y : Int} {pos : Pos} (hg : Gl X x) (h : ∃ t, X.mg x = some (.int y t)) (hd : (x == ("__debug__" : Str)) = false := by decide) : PE X (.Name x pos) (tC (.int y)) := by
  obtain ⟨t, e⟩ := h
  exact pe_glob hg e ⟨_, rfl⟩ hd

/-- a plan in the heap -/
def PlanAt (H : Hp) : Plan → Addr → Prop
  | .take n, p => H p = some (.tup [.str "take", .str (S n)])
  | .join a b, p => ∃ pa pb, H p = some (.tup [.str "join", .ref pa, .ref pb]) ∧ PlanAt H a pa ∧ PlanAt H b pb
  | .scale i j a, p => ∃ pa, H p = some (.tup [.str "scale", .int i, .int j, .ref pa]) ∧ PlanAt H a pa
  | .spare a, p => ∃ pa, H p = some (.tup [.str "spare", .ref pa]) ∧ PlanAt H a pa
  | .base a, p => ∃ pa, H p = some (.tup [.str "base", .ref pa]) ∧ PlanAt H a pa
  | .thin k a, p => ∃ pa, H p = some (.tup [.str "thin", .int k, .ref pa]) ∧ PlanAt H a pa
theorem PlanAt.same {H H' : Hp} (e : Same H H') : ∀ {a : Plan} {p : Addr}, PlanAt H a p → PlanAt H' a p
  | .take _, _, h => e _ _ h
  | .join _ _, _, ⟨pa, pb, h, ha, hb⟩ => ⟨pa, pb, e _ _ h, PlanAt.same e ha, PlanAt.same e hb⟩
  | .scale _ _ _, _, ⟨pa, h, ha⟩ => ⟨pa, e _ _ h, PlanAt.same e ha⟩
  | .spare _, _, ⟨pa, h, ha⟩ => ⟨pa, e _ _ h, PlanAt.same e ha⟩
  | .base _, _, ⟨pa, h, ha⟩ => ⟨pa, e _ _ h, PlanAt.same e ha⟩
  | .thin _ _, _, ⟨pa, h, ha⟩ => ⟨pa, e _ _ h, PlanAt.same e ha⟩
theorem same_new {H : Hp} {p : Addr} (h : H p = none) (o : HO) : Same H (upd H p o) := fun b u q => by rw [upd_ne (ne_of_none q h)]; exact q
theorem line_ge {n : Nat} (h : n ≤ 100000) : n ≤ sizeLine := Nat.le_trans h (by rw [sizeLine_eq]; decide)
theorem slen (l : List Nat) : (S l).length = l.length := S_len l
theorem sline {l : List Nat} (h : l.length ≤ 100000) : (S l).length ≤ sizeLine := by rw [slen]; exact line_ge h
end P65
namespace P65
open PySem PySem.Spec PyProof.Rows L2 SX
/-! ### slices of a text -/
theorem cut_mid (l : List Nat) {a b : Int} (ha : 0 ≤ a) (hb : a ≤ b) : cutS (S l) (some a) (some b) = S ((l.drop a.toNat).take (b - a).toNat) := by
  have e1 : HT.sIx (S l).length 0 (some a) = min a.toNat l.length := by rw [slen]; show (if a < 0 then _ else _) = _; rw [if_neg (by omega)]
  have e2 : HT.sIx (S l).length (S l).length (some b) = min b.toNat l.length := by rw [slen]; show (if b < 0 then _ else _) = _; rw [if_neg (by omega)]
  unfold cutS
  rw [e1, e2]
  show (⟨((l.drop (min a.toNat l.length)).take (min b.toNat l.length - min a.toNat l.length)).toArray⟩ : Str) = _
  refine congrArg S ?_
  by_cases h : a.toNat ≤ l.length
  · rw [Nat.min_eq_left h]
    by_cases h2 : b.toNat ≤ l.length
    · rw [Nat.min_eq_left h2]
      congr 1
      omega
    · rw [Nat.min_eq_right (by omega), List.take_of_length_le (by rw [List.length_drop]; omega), List.take_of_length_le (by rw [List.length_drop]; omega)]
  · rw [List.drop_eq_nil_of_le (by omega), List.drop_eq_nil_of_le (by omega), List.take_nil, List.take_nil]
theorem cut_to (l : List Nat) {b : Int} (hb : 0 ≤ b) : cutS (S l) none (some b) = S (l.take b.toNat) := by
  have e := cut_mid l (a := 0) (b := b) (Int.le_refl 0) hb
  have q : cutS (S l) none (some b) = cutS (S l) (some 0) (some b) := by
    unfold cutS
    have e1 : HT.sIx (S l).length 0 none = 0 := rfl
    have e2 : HT.sIx (S l).length 0 (some 0) = 0 := by show (if (0 : Int) < 0 then ((0 : Int) + ((S l).length : Nat)).toNat else min (0 : Int).toNat (S l).length) = 0; rw [if_neg (by decide)]; exact Nat.zero_min _
    rw [e1, e2]
  rw [q, e, show (b - 0).toNat = b.toNat by omega]
  rfl
theorem at_pos {α : Type} {xs : List α} {z : Int} {v : α} (h0 : 0 ≤ z) (h : xs[z.toNat]? = some v) : atI xs z = some v := by
  have e : z = ((z.toNat : Nat) : Int) := by omega
  rw [e]
  exact atI_nat h
/-! ### behind -/
def spBehind : Sp := fun vs H Q _ => ∃ (l part rest : List Nat) (a : Int), vs = [.str (S l), .int a, .str (S part)] ∧ l.length ≤ 100000 ∧ part.length ≤ 1000 ∧ 0 ≤ a ∧ l.drop a.toNat = part ++ rest ∧ Q (.int (a + part.length)) H
abbrev s_behind : Stmt := top 16
abbrev N_behind : List Str := ["text", "at", "part"]
theorem sc_behind : FnScope N_behind ["text", "at", "part"] (defScope s_behind) := ⟨rfl, rfl, rfl, by decide +kernel, rfl, by decide +kernel, by decide +kernel⟩
section
variable {P : Program} {w : World} {K : PySem.W.Frag} {mg : Str → Option Value} {base : Heap} {f : Addr} {fd : FuncData}
theorem ok_behind (F : Fun K "behind" "behind" s_behind f fd) (T : Txt mg) : FnOk P w K mg base CX0 1 f fd ["text", "at", "part"] spBehind := by
  refine F.ok sc_behind (fun vs H Q E h => ?_) (fun cdv A outer s H vs Q E hr h => ?_)
  · obtain ⟨l, part, rest, a, rfl, _⟩ := h
    rfl
  obtain ⟨l, part, rest, a, rfl, hl, hp, h0, hd, q⟩ := h
  refine ⟨_, (pss_cons (ps_if (pt_cmpR op_ne (pe_slice sl_str (pv 0) (po_some (pv 1)) (po_some (pe_op op_add (pv 1) (pe_callB call_len_str (by rfl) T.b_len PySem.boot_len (pa_cons (pv 2) pa_nil))))) (pv 2) (nomark _)) (pss_one ps_never) pss_nil)
    (pss_one (ps_ret (pe_op op_add (pv 1) (pe_callB call_len_str (by rfl) T.b_len PySem.boot_len (pa_cons (pv 2) pa_nil)))))), ?_⟩
  refine ⟨_, rfl, _, rfl, _, rfl, _, rfl, _, rfl, _, rfl, sline (by omega), _, _, rfl, rfl, _, rfl, _, rfl, sline hl, _, rfl, rfl, _, rfl, ?_⟩
  refine iteNS ?_ ?_
  · rw [cut_mid l h0 (by omega), hd, slen, show (a + (part.length : Int) - a).toNat = part.length by omega, List.take_left]
  refine ⟨_, rfl, _, rfl, _, rfl, sline (by omega), _, _, rfl, rfl, ?_⟩
  rw [slen]
  exact q
/-! ### longest -/
def inS (g : List Nat) (c : Nat) : Bool := decide (c ∈ g)
/-- the longest string of the signs g that begins at the place a -/
def run (l g : List Nat) (a : Int) : List Nat := (l.drop a.toNat).takeWhile (inS g)
def spLongest : Sp := fun vs H Q _ => ∃ (l g : List Nat) (a : Int), vs = [.str (S l), .int a, .str (S g)] ∧ l.length ≤ 100000 ∧ 0 ≤ a ∧ a ≤ l.length ∧ Q (.str (S (run l g a))) H
abbrev s_longest : Stmt := top 15
abbrev N_longest : List Str := ["text", "at", "signs", "end"]
theorem sc_longest : FnScope N_longest ["text", "at", "signs"] (defScope s_longest) := ⟨rfl, rfl, rfl, by decide +kernel, rfl, by decide +kernel, by decide +kernel⟩
/-- e stands between the place a and the end of the run -/
structure Going (l g : List Nat) (a e : Int) : Prop where
  lo : a ≤ e
  hi : e ≤ l.length
  run : run l g a = (l.drop a.toNat).take (e - a).toNat ++ run l g e
theorem run_more {l g : List Nat} {e : Int} {c : Nat} (h0 : 0 ≤ e) (h : l[e.toNat]? = some c) (hc : c ∈ g) : run l g e = c :: run l g (e + 1) := by
  obtain ⟨hlt, hx⟩ := List.getElem?_eq_some_iff.mp h
  unfold run
  rw [List.drop_eq_getElem_cons hlt, hx, List.takeWhile_cons, if_pos (show inS g c = true from decide_eq_true hc), show (e + 1).toNat = e.toNat + 1 by omega]
theorem run_stop {l g : List Nat} {e : Int} {c : Nat} (h0 : 0 ≤ e) (h : l[e.toNat]? = some c) (hc : c ∉ g) : run l g e = [] := by
  obtain ⟨hlt, hx⟩ := List.getElem?_eq_some_iff.mp h
  unfold run
  rw [List.drop_eq_getElem_cons hlt, hx, List.takeWhile_cons, if_neg (by unfold inS; rw [decide_eq_false hc]; exact Bool.false_ne_true)]
theorem run_end {l g : List Nat} {e : Int} (h : (l.length : Int) ≤ e) : run l g e = [] := by
  unfold run
  rw [List.drop_eq_nil_of_le (by omega)]
  rfl
theorem take_more {l : List Nat} {a e : Int} {c : Nat} (h0 : 0 ≤ a) (h1 : a ≤ e) (h : l[e.toNat]? = some c) : (l.drop a.toNat).take (e + 1 - a).toNat = (l.drop a.toNat).take (e - a).toNat ++ [c] := by
  rw [show (e + 1 - a).toNat = (e - a).toNat + 1 by omega, List.take_add_one, List.getElem?_drop, show a.toNat + (e - a).toNat = e.toNat by omega, h]
  rfl
def wLongest (l g : List Nat) (a : Int) (H : Hp) (m : Nat) (σ : L2.St) (H' : Hp) : Prop :=
  ∃ e : Int, σ = [some (.str (S l)), some (.int a), some (.str (S g)), some (.int e)] ∧ H' = H ∧ Going l g a e ∧ m = ((l.length : Int) - e).toNat
theorem ok_longest (F : Fun K "longest" "longest" s_longest f fd) (T : Txt mg) : FnOk P w K mg base CX0 1 f fd ["text", "at", "signs"] spLongest := by
  refine F.ok sc_longest (fun vs H Q E h => ?_) (fun cdv A outer s H vs Q E hr h => ?_)
  · obtain ⟨l, g, a, rfl, _⟩ := h
    rfl
  obtain ⟨l, g, a, rfl, hl, h0, h1, q⟩ := h
  refine ⟨_, (pss_cons (ps_set (i := 3) sc_longest.nd rfl (Or.inl rfl) (pv 1))
  (pss_cons (ps_while PassesOwn.never (PW.pt (pw_and (pt_cmpR op_lt (pv 3) (pe_callB call_len_str (by rfl) T.b_len PySem.boot_len (pa_cons (pv 0) pa_nil)) (nomark _)) (pw_and1 (pt_cmpR op_in_sign (pe_ix ix_str (pv 0) (pv 3) (fun _ _ => rfl)) (pv 2) (by rfl))))) (pss_one (ps_set (i := 3) sc_longest.nd rfl (Or.inl rfl) (pe_op op_add (pv 3) pe_int))))
  (pss_one (ps_ret (pe_slice sl_str (pv 0) (po_some (pv 1)) (po_some (pv 3))))))), ?_⟩
  refine ⟨_, rfl, wLongest l g a H, ⟨_, a, rfl, rfl, ⟨Int.le_refl a, h1, ?_⟩, rfl⟩, ?_⟩
  · rw [Int.sub_self]
    rfl
  · rintro m σ H' ⟨e, rfl, rfl, G, rfl⟩
    have ge := G.lo
    refine ⟨_, rfl, _, rfl, _, rfl, sline hl, _, _, rfl, rfl, _, rfl, ?_⟩
    refine ite2 (fun c => ?_) (fun c => ?_)
    · have c1 : e < ((S l).length : Nat) := of_decide_eq_true c
      rw [slen] at c1
      have hlt : e.toNat < l.length := by omega
      obtain ⟨d, hd⟩ : ∃ d, l[e.toNat]? = some d := ⟨l[e.toNat], List.getElem?_eq_getElem hlt⟩
      have ge0 : 0 ≤ e := by omega
      refine ⟨_, rfl, _, rfl, _, _, d, rfl, rfl, sline hl, at_pos ge0 hd, _, rfl, d, S g, rfl, rfl, _, rfl, ?_⟩
      refine ite2 (fun c2 => ?_) (fun c2 => ?_)
      · have hc : d ∈ g := of_decide_eq_true c2
        refine ⟨fun σ' G' => ∃ m', m' < ((l.length : Int) - e).toNat ∧ wLongest l g a H' m' σ' G', fun _ _ z => z, ?_⟩
        refine ⟨_, rfl, e, 1, rfl, rfl, ((l.length : Int) - (e + 1)).toNat, ?_, e + 1, rfl, rfl, ⟨by omega, by omega, ?_⟩, rfl⟩
        · omega
        rw [G.run, run_more (by omega) hd hc, take_more h0 ge hd, List.append_assoc]
        rfl
      · have hc : d ∉ g := of_decide_eq_false (Bool.eq_false_iff.mpr c2)
        refine ⟨_, rfl, _, rfl, _, rfl, _, rfl, _, rfl, S l, rfl, sline hl, ?_⟩
        rw [cut_mid l h0 ge]
        have := G.run
        rw [run_stop (by omega) hd hc, List.append_nil] at this
        rw [← this]
        exact q
    · have c1 : ¬ e < ((S l).length : Nat) := of_decide_eq_false (Bool.eq_false_iff.mpr c)
      rw [slen] at c1
      refine ⟨_, rfl, _, rfl, _, rfl, _, rfl, _, rfl, S l, rfl, sline hl, ?_⟩
      rw [cut_mid l h0 ge]
      have := G.run
      rw [run_end (e := e) (by omega), List.append_nil] at this
      rw [← this]
      exact q
end
end P65
namespace P65
open PySem PySem.Spec PyProof.Rows L2 SX
theorem lc_yes {σ : L2.St} {H : Hp} {A B : Hp → Prop} (h : A H) : tYes σ H (fun b H3 => if b = true then A H3 else B H3) := by
  show (if true = true then A H else B H)
  exact iteT h
theorem lit_digits : ("0123456789" : Str) = S [48, 49, 50, 51, 52, 53, 54, 55, 56, 57] := by decide +kernel
theorem lit_minus : ("-" : Str) = S [45] := by decide +kernel
theorem lit_zero : ("0" : Str) = S [48] := by decide +kernel
theorem lit_empty : ("" : Str) = S [] := by decide +kernel
theorem mem_digits {c : Nat} (h : digit c = true) : c ∈ [48, 49, 50, 51, 52, 53, 54, 55, 56, 57] := by
  have h := of_decide_eq_true h
  simp only [List.mem_cons, List.not_mem_nil, or_false]
  omega
theorem digit_of_mem {c : Nat} (h : c ∈ [48, 49, 50, 51, 52, 53, 54, 55, 56, 57]) : digit c = true := by
  simp only [List.mem_cons, List.not_mem_nil, or_false] at h
  exact decide_eq_true (by omega)
theorem str_ne {a b : List Nat} (h : a ≠ b) : ¬ V.str (S a) = V.str (S b) := fun e => h (S_inj (V.str.inj e))
def spWhole_of : Sp := fun vs H Q _ => ∃ p : Nat, vs = [.str (S (TL.numL p))] ∧ 1 ≤ p ∧ p ≤ 999 ∧ ∀ H', Same H H' → Q (.int (p : Nat)) H'
abbrev s_whole_of : Stmt := top 5
abbrev N_whole_of : List Str := ["word", "digits", "char"]
theorem sc_whole_of : FnScope N_whole_of ["word"] (defScope s_whole_of) := ⟨rfl, rfl, rfl, by decide +kernel, rfl, by decide +kernel, by decide +kernel⟩
section
variable {P : Program} {w : World} {K : PySem.W.Frag} {mg : Str → Option Value} {base : Heap} {f : Addr} {fd : FuncData}
theorem ok_whole_of (F : Fun K "whole_of" "whole_of" s_whole_of f fd) (T : Txt mg) : FnOk P w K mg base CX0 1 f fd ["word"] spWhole_of := by
  refine F.ok sc_whole_of (fun vs H Q E h => ?_) (fun cdv A outer s H vs Q E hr h => ?_)
  · obtain ⟨p, rfl, _⟩ := h
    rfl
  obtain ⟨p, rfl, hp1, hp9, q⟩ := h
  refine ⟨_, (pss_cons (ps_set (i := 1) sc_whole_of.nd rfl (Or.inl rfl) (pe_ifExp (pt_cmpR op_eq (pe_slice sl_str (pv 0) po_none (po_some pe_int)) pe_str (nomark _)) (pe_slice sl_str (pv 0) (po_some pe_int) po_none) (pv 0)))
  (pss_cons (ps_if (PW.pt (pw_or (pt_cmpR op_eq (pv 1) pe_str (nomark _)) (pw_or1 (pt_val (pe_callB (cr_any rfl) (by rfl) T.b_any (by decide +kernel) (pa_cons (pe_lc (own := [("char", 2)]) (g := gName 2) (tt := tYes) (by rfl) sc_whole_of.nd (pi_str (pv 1)) (blkOk_by (N := N_whole_of) (sc := defScope s_whole_of) (by decide +kernel)) (fun _ _ _ _ _ => pg_name (i := 2) sc_whole_of.nd rfl (Or.inl rfl)) (fun _ _ _ _ _ => pts_nil) (fun _ _ _ _ _ => (pe_cmpR op_notIn_sign (pv 2) (pe_gstr rfl T.b_DIGITS_reading) (by rfl)))) pa_nil)))))) (pss_one (ps_ret pe_non)) pss_nil)
  (pss_cons (ps_if (PW.pt (pw_and (pt_cmpR op_eq (pe_ix ix_str (pv 1) pe_int (fun _ _ => rfl)) pe_str (nomark _)) (pw_and1 (pt_cmpR op_ne (pv 0) pe_str (nomark _))))) (pss_one (ps_ret pe_non)) pss_nil)
  (pss_one (ps_ret (pe_callTy call_int_str (by rfl) T.b_int (by decide +kernel) (pa_cons (pv 0) pa_nil))))))), ?_⟩
  have hlen := numL_le3 hp9
  have hl : (TL.numL p).length ≤ 100000 := by omega
  obtain ⟨c0, r0, e0, hc0⟩ := numL_head hp1
  have hd0 : digit c0 = true := numL_digit p c0 (by rw [e0]; exact List.mem_cons_self)
  refine ⟨_, rfl, _, rfl, _, rfl, sline hl, rfl, _, rfl, ?_⟩
  refine ite2 (fun c => ?_) (fun _ => ?_)
  · have e := of_decide_eq_true c
    rw [cut_to _ (by decide), lit_minus, e0] at e
    have e1 := S_inj (V.str.inj e)
    have e2 : c0 = 45 := List.head_eq_of_cons_eq e1
    rw [e2] at hd0
    exact absurd hd0 (by decide)
  refine ⟨_, rfl, _, rfl, rfl, _, rfl, ?_⟩
  refine ite2 (fun c => ?_) (fun _ => ?_)
  · have e := of_decide_eq_true c
    rw [lit_empty, e0] at e
    exact absurd e (str_ne (by simp))
  refine ⟨_, rfl, _, rfl, fun D hD => ?_⟩
  refine lc_it walk_str (fun i H' => H' = upd H D (.lst (List.replicate i (V.bl false)))) rfl (fun _ _ _ _ => trivial) ?_ ?_
  · rintro i x H1 H2 hi rfl ⟨rfl, c, hc, rfl⟩
    refine ⟨rfl, ?_⟩
    have hcm : c ∈ TL.numL p := by
      have e : (TL.numL p)[i]? = some c := (Array.getElem?_toList (xs := (S (TL.numL p)).cps) (i := i)).trans hc
      exact List.mem_of_getElem? e
    have hcd := mem_digits (numL_digit p c hcm)
    have hi3 : i < 3 := by
      have e : (S (TL.numL p)).cps.size = (TL.numL p).length := slen _
      omega
    refine lc_yes ?_
    refine ⟨_, rfl, c, S [48, 49, 50, 51, 52, 53, 54, 55, 56, 57], rfl, congrArg V.str lit_digits, _, upd_same, ?_, ?_⟩
    · rw [List.length_replicate]
      exact small1000 (by omega)
    · rw [decide_eq_true hcd, upd_upd, List.replicate_succ']
      rfl
  rintro H1 rfl
  have hsz : (S (TL.numL p)).cps.size = (TL.numL p).length := slen _
  refine ⟨D, List.replicate (TL.numL p).length false, rfl, SqL.of ?_, ?_⟩
  · rw [upd_same, hsz, List.map_replicate]
  have hany : (List.replicate (TL.numL p).length false).any id = false := by
    rw [List.any_eq_false]
    intro x hx
    rw [List.eq_of_mem_replicate hx]
    exact Bool.false_ne_true
  rw [hany]
  refine ⟨_, rfl, iteF ?_⟩
  refine ⟨_, rfl, _, _, c0, rfl, rfl, sline hl, ?_, rfl, _, rfl, ?_⟩
  · rw [e0]
    exact at_pos (by decide) rfl
  refine ite2 (fun c => ?_) (fun _ => ?_)
  · have e := of_decide_eq_true c
    rw [lit_zero] at e
    exact absurd (List.head_eq_of_cons_eq (S_inj (V.str.inj e))) hc0
  refine iteF ?_
  refine ⟨_, rfl, _, (p : Int), rfl, ?_, by rw [slen]; omega, q _ (same_new hD _)⟩
  rw [← num_S p]
  exact TL.int_num (by omega)
/-! ### number_of -/
def spNumber_of : Sp := fun vs H Q _ => ∃ (p : Nat) (least : Int), vs = [.str (S (TL.numL p)), .int least] ∧ 1 ≤ p ∧ p ≤ 999 ∧ least ≤ p ∧ ∀ H', Same H H' → Q (.int (p : Nat)) H'
abbrev s_number_of : Stmt := top 6
abbrev N_number_of : List Str := ["word", "least", "number"]
theorem sc_number_of : FnScope N_number_of ["word", "least"] (defScope s_number_of) := ⟨rfl, rfl, rfl, by decide +kernel, rfl, by decide +kernel, by decide +kernel⟩
theorem ok_number_of (F : Fun K "number_of" "number_of" s_number_of f fd) (T : Txt mg) (C_whole_of : Cal P w K mg base 1 "whole_of" ["word"] spWhole_of) : FnOk P w K mg base CX0 2 f fd ["word", "least"] spNumber_of := by
  refine F.ok sc_number_of (fun vs H Q E h => ?_) (fun cdv A outer s H vs Q E hr h => ?_)
  · obtain ⟨p, least, rfl, _⟩ := h
    rfl
  obtain ⟨p, least, rfl, hp1, hp9, hle, q⟩ := h
  refine ⟨_, (pss_cons (ps_set (i := 2) sc_number_of.nd rfl (Or.inl rfl) (pe_cal C_whole_of (hr.mono (by omega)) rfl (pa_cons (pv 0) pa_nil)))
  (pss_cons (ps_if (PW.pt (pw_or (pt_cmpR op_isN (pv 2) pe_non (nomark _)) (pw_or1 (pt_cmpR op_lt (pv 2) (pv 1) (nomark _))))) (pss_one (ps_ret pe_non)) pss_nil)
  (pss_one (ps_ret (pv 2))))), ?_⟩
  refine ⟨_, rfl, p, rfl, hp1, hp9, fun H1 g1 => ?_⟩
  refine ⟨_, rfl, rfl, _, rfl, ?_⟩
  refine ite2 (fun c => nomatch (of_decide_eq_true c)) (fun _ => ?_)
  refine ⟨_, rfl, _, rfl, _, _, rfl, rfl, _, rfl, ?_⟩
  refine ite2 (fun c => ?_) (fun _ => ?_)
  · have := of_decide_eq_true c
    omega
  exact ⟨_, rfl, q H1 g1⟩
/-! ### read_number -/
def spRead_number : Sp := fun vs H Q _ => ∃ (l rest : List Nat) (p : Nat) (a least most : Int), vs = [.str (S l), .int a, .int least, .int most] ∧ l.length ≤ 100000 ∧ 0 ≤ a ∧ l.drop a.toNat = TL.numL p ++ rest ∧ (∀ c, rest.head? = some c → digit c = false) ∧
  1 ≤ p ∧ p ≤ 999 ∧ least ≤ p ∧ p ≤ most ∧ ∀ r H', Same H H' → H' r = some (.tup [.int (p : Nat), .int (a + (TL.numL p).length)]) → Q (.ref r) H'
abbrev s_read_number : Stmt := top 17
abbrev N_read_number : List Str := ["text", "at", "least", "most", "word", "number"]
theorem sc_read_number : FnScope N_read_number ["text", "at", "least", "most"] (defScope s_read_number) := ⟨rfl, rfl, rfl, by decide +kernel, rfl, by decide +kernel, by decide +kernel⟩
theorem at_le {l x rest : List Nat} {a : Int} (h0 : 0 ≤ a) (h : l.drop a.toNat = x ++ rest) (hx : 1 ≤ x.length) : a ≤ l.length ∧ a + x.length + rest.length = l.length := by
  have e := congrArg List.length h
  rw [List.length_drop, List.length_append] at e
  omega
theorem run_digits {l rest : List Nat} {p : Nat} {a : Int} (h : l.drop a.toNat = TL.numL p ++ rest) (hr : ∀ c, rest.head? = some c → digit c = false) : run l [48, 49, 50, 51, 52, 53, 54, 55, 56, 57] a = TL.numL p := by
  unfold run
  rw [h]
  refine tw_app (fun c hc => decide_eq_true (mem_digits (numL_digit p c hc))) (fun c hc => decide_eq_false fun hm => ?_)
  have := hr c hc
  rw [digit_of_mem hm] at this
  cases this
theorem ok_read_number (F : Fun K "read_number" "read_number" s_read_number f fd) (T : Txt mg) (C_longest : Cal P w K mg base 1 "longest" ["text", "at", "signs"] spLongest) (C_number_of : Cal P w K mg base 2 "number_of" ["word", "least"] spNumber_of) :
    FnOk P w K mg base CX0 3 f fd ["text", "at", "least", "most"] spRead_number := by
  refine F.ok sc_read_number (fun vs H Q E h => ?_) (fun cdv A outer s H vs Q E hr h => ?_)
  · obtain ⟨l, rest, p, a, least, most, rfl, _⟩ := h
    rfl
  obtain ⟨l, rest, p, a, least, most, rfl, hl, h0, hd, hrest, hp1, hp9, hle, hmo, q⟩ := h
  refine ⟨_, (pss_cons (ps_set (i := 4) sc_read_number.nd rfl (Or.inl rfl) (pe_cal C_longest (hr.mono (by omega)) rfl (pa_cons (pv 0) (pa_cons (pv 1) (pa_cons (pe_gstr rfl T.b_DIGITS_plannotes) pa_nil)))))
  (pss_cons (ps_set (i := 5) sc_read_number.nd rfl (Or.inl rfl) (pe_cal C_number_of (hr.mono (by omega)) rfl (pa_cons (pv 4) (pa_cons (pv 2) pa_nil))))
  (pss_cons (ps_if (PW.pt (pw_or (pt_cmpR op_isN (pv 5) pe_non (nomark _)) (pw_or1 (pt_cmpR op_gt (pv 5) (pv 3) (nomark _))))) (pss_one ps_never) pss_nil)
  (pss_one (ps_ret (pe_tup (pa_cons (pv 5) (pa_cons (pe_op op_add (pv 1) (pe_callB call_len_str (by rfl) T.b_len PySem.boot_len (pa_cons (pv 4) pa_nil))) pa_nil)))))))), ?_⟩
  have hpos := numL_pos p
  have ha := at_le h0 hd hpos
  have hrun := run_digits hd hrest
  refine ⟨_, rfl, _, rfl, l, [48, 49, 50, 51, 52, 53, 54, 55, 56, 57], a, by rw [lit_digits]; rfl, hl, h0, ha.1, ?_⟩
  rw [hrun]
  refine ⟨_, rfl, _, rfl, p, least, rfl, hp1, hp9, hle, fun H1 g1 => ?_⟩
  refine ⟨_, rfl, rfl, _, rfl, ?_⟩
  refine ite2 (fun c => nomatch (of_decide_eq_true c)) (fun _ => ?_)
  refine ⟨_, rfl, _, rfl, _, _, rfl, rfl, _, rfl, ?_⟩
  refine ite2 (fun c => ?_) (fun _ => ?_)
  · have := of_decide_eq_true c
    omega
  have hl3 := numL_le3 hp9
  refine ⟨_, rfl, _, rfl, _, rfl, _, rfl, sline (by omega), _, _, rfl, rfl, (by show 2 ≤ sizeLine; exact line_ge (by omega)), fun r hr' => q r _ (g1.trans (same_new hr' _)) ?_⟩
  rw [upd_same, slen]
end
end P65
namespace P65
open PySem PySem.Spec PyProof.Rows L2 SX
theorem drop_more {l x y : List Nat} {a : Int} (h0 : 0 ≤ a) (h : l.drop a.toNat = x ++ y) : l.drop (a + x.length).toNat = y := by
  rw [show (a + x.length).toNat = a.toNat + x.length by omega, ← List.drop_drop, h, List.drop_left]
theorem lit_lp : ("(" : Str) = S [40] := by decide +kernel
theorem lit_rp : (")" : Str) = S [41] := by decide +kernel
theorem lit_plus : (" + " : Str) = S [32, 43, 32] := by decide +kernel
theorem lit_slash : ("/" : Str) = S [47] := by decide +kernel
theorem lit_star : (" * " : Str) = S [32, 42, 32] := by decide +kernel
theorem lit_blank : (" " : Str) = S [32] := by decide +kernel
theorem lit_thin_ : ("thin " : Str) = S (tThin ++ [32]) := by decide +kernel
theorem lit_thin : ("thin" : Str) = S tThin := by decide +kernel
theorem lit_spare : ("spare" : Str) = S tSpare := by decide +kernel
theorem lit_base : ("base" : Str) = S tBase := by decide +kernel
theorem lit_letters : ("abcdefghijklmnopqrstuvwxyz" : Str) = S [97, 98, 99, 100, 101, 102, 103, 104, 105, 106, 107, 108, 109, 110, 111, 112, 113, 114, 115, 116, 117, 118, 119, 120, 121, 122] := by decide +kernel
/-- a reader of the plans of which W holds -/
def spRead (W : Plan → Prop) : Sp := fun vs H Q _ => ∃ (l rest : List Nat) (pl : Plan) (a d : Int), vs = [.str (S l), .int a, .int d] ∧ l.length ≤ 100000 ∧ 0 ≤ a ∧ l.drop a.toNat = fmt pl ++ rest ∧ Stop rest ∧ Good pl ∧ W pl ∧ 1 ≤ d ∧ d + pl.height ≤ 13 ∧
  ∀ p r H', Same H H' → PlanAt H' pl p → H' r = some (.tup [.ref p, .int (a + (fmt pl).length)]) → Q (.ref r) H'
abbrev s_read_join : Stmt := top 18
abbrev N_read_join : List Str := ["text", "at", "depth", "one", "end", "two", "last"]
theorem sc_read_join : FnScope N_read_join ["text", "at", "depth"] (defScope s_read_join) := ⟨rfl, rfl, rfl, by decide +kernel, rfl, by decide +kernel, by decide +kernel⟩
def wJoin (h : Nat) (pl : Plan) : Prop := pl.height ≤ h + 1 ∧ ∃ a b, pl = .join a b
def wScale (h : Nat) (pl : Plan) : Prop := pl.height ≤ h + 1 ∧ ∃ p q a, pl = .scale p q a
def wThin (h : Nat) (pl : Plan) : Prop := pl.height ≤ h + 1 ∧ ∃ k a, pl = .thin k a
def wWord (h : Nat) (pl : Plan) : Prop := pl.height ≤ h + 1 ∧ (match kind pl with | .word => True | _ => False)
def wAll (h : Nat) (pl : Plan) : Prop := pl.height ≤ h
theorem two_line : 2 ≤ sizeLine := line_ge (by omega)
theorem three_line : 3 ≤ sizeLine := line_ge (by omega)
section
variable {P : Program} {w : World} {K : PySem.W.Frag} {mg : Str → Option Value} {base : Heap} {f : Addr} {fd : FuncData}
theorem ok_read_join {h : Nat} (F : Fun K "read_join" "read_join" s_read_join f fd) (T : Txt mg) (C_behind : Cal P w K mg base 1 "behind" ["text", "at", "part"] spBehind)
    (C_read_plan : Cal P w K mg base (3 * h + 4) "read_plan" ["text", "at", "depth"] (spRead (wAll h))) : FnOk P w K mg base CX0 (3 * h + 5) f fd ["text", "at", "depth"] (spRead (wJoin h)) := by
  refine F.ok sc_read_join (fun vs H Q E h => ?_) (fun cdv A outer s H vs Q E hr h => ?_)
  · obtain ⟨l, rest, pl, a, d, rfl, _⟩ := h
    rfl
  obtain ⟨l, rest, pl, a, d, rfl, hl, h0, hd, hstop, hg, ⟨hh, x, y, rfl⟩, hd1, hd13, q⟩ := h
  refine ⟨_, (pss_cons (ps_asg (pe_cal C_read_plan (hr.mono (by omega)) rfl (pa_cons (pv 0) (pa_cons (pe_cal C_behind (hr.mono (by omega)) rfl (pa_cons (pv 0) (pa_cons (pv 1) (pa_cons pe_str pa_nil)))) (pa_cons (pe_op op_add (pv 2) pe_int) pa_nil)))) (pg_tup rfl (pgs_cons (pg_name (i := 3) sc_read_join.nd rfl (Or.inl rfl)) (pgs_cons (pg_name (i := 4) sc_read_join.nd rfl (Or.inl rfl)) pgs_nil))))
  (pss_cons (ps_asg (pe_cal C_read_plan (hr.mono (by omega)) rfl (pa_cons (pv 0) (pa_cons (pe_cal C_behind (hr.mono (by omega)) rfl (pa_cons (pv 0) (pa_cons (pv 4) (pa_cons pe_str pa_nil)))) (pa_cons (pe_op op_add (pv 2) pe_int) pa_nil)))) (pg_tup rfl (pgs_cons (pg_name (i := 5) sc_read_join.nd rfl (Or.inl rfl)) (pgs_cons (pg_name (i := 6) sc_read_join.nd rfl (Or.inl rfl)) pgs_nil))))
  (pss_one (ps_ret (pe_tup (pa_cons (pe_tup (pa_cons pe_str (pa_cons (pv 3) (pa_cons (pv 5) pa_nil)))) (pa_cons (pe_cal C_behind (hr.mono (by omega)) rfl (pa_cons (pv 0) (pa_cons (pv 6) (pa_cons pe_str pa_nil)))) pa_nil))))))), ?_⟩
  have hx : x.height ≤ h ∧ y.height ≤ h ∧ x.height + d ≤ 12 ∧ y.height + d ≤ 12 := by
    simp only [Plan.height] at hh hd13
    omega
  have e1 : l.drop a.toNat = [40] ++ (fmt x ++ ([32, 43, 32] ++ (fmt y ++ ([41] ++ rest)))) := by
    rw [hd]
    simp only [fmt, List.append_assoc]
  have e2 := drop_more h0 e1
  have e3 := drop_more (by omega) e2
  have e4 := drop_more (by omega) e3
  have e5 := drop_more (by omega) e4
  simp only [List.length_cons, List.length_nil] at e2 e3 e4 e5
  refine ⟨_, rfl, _, rfl, _, rfl, l, [40], _, a, by rw [lit_lp]; rfl, hl, by decide, h0, e1, ?_⟩
  refine ⟨_, rfl, _, _, rfl, rfl, l, _, x, a + 1, d + 1, rfl, hl, by omega, e2, Stop.cons (.inr rfl), hg.1, hx.1, by omega, by omega, fun p1 r1 H1 g1 hp1 hr1 => ?_⟩
  refine ⟨r1, _, rfl, .inl (.inl hr1), rfl, _, _, rfl, _, _, rfl, rfl, ?_⟩
  refine ⟨_, rfl, _, rfl, _, rfl, l, [32, 43, 32], _, _, by rw [lit_plus]; rfl, hl, by decide, by omega, e3, ?_⟩
  refine ⟨_, rfl, _, _, rfl, rfl, l, _, y, a + 1 + (fmt x).length + 3, d + 1, rfl, hl, by omega, e4, Stop.cons (.inl rfl), hg.2, hx.2.1, by omega, by omega, fun p2 r2 H2 g2 hp2 hr2 => ?_⟩
  refine ⟨r2, _, rfl, .inl (.inl hr2), rfl, _, _, rfl, _, _, rfl, rfl, ?_⟩
  refine ⟨_, rfl, _, rfl, three_line, fun t ht => ?_⟩
  refine ⟨_, rfl, _, rfl, l, [41], rest, _, by rw [lit_rp]; rfl, hl, by decide, by omega, e5, two_line, fun u hu => ?_⟩
  have g3 : Same H2 (upd H2 t (.tup [.str "join", .ref p1, .ref p2])) := same_new ht _
  have g4 := same_new hu (.tup [.ref t, .int (a + 1 + (fmt x).length + 3 + (fmt y).length + 1)])
  refine q t u _ (g1.trans (g2.trans (g3.trans (same_new hu _)))) ⟨p1, p2, same_new hu _ _ _ upd_same, hp1.same (g2.trans (g3.trans (same_new hu _))), hp2.same (g3.trans (same_new hu _))⟩ ?_
  rw [upd_same]
  refine congrArg (fun z => some (HO.tup [V.ref t, V.int z])) ?_
  simp only [fmt, List.length_append, List.length_cons, List.length_nil]
  omega
/-! ### read_scale -/
abbrev s_read_scale : Stmt := top 19
abbrev N_read_scale : List Str := ["text", "at", "depth", "top", "end", "bottom", "last", "inner", "rest"]
theorem sc_read_scale : FnScope N_read_scale ["text", "at", "depth"] (defScope s_read_scale) := ⟨rfl, rfl, rfl, by decide +kernel, rfl, by decide +kernel, by decide +kernel⟩
theorem nd_slash {r : List Nat} {x : Nat} (h : digit x = false) : ∀ c, ([x] ++ r).head? = some c → digit c = false := fun c e => by
  have : x = c := Option.some.inj e
  subst this
  exact h
theorem ok_read_scale {h : Nat} (F : Fun K "read_scale" "read_scale" s_read_scale f fd) (T : Txt mg) (C_behind : Cal P w K mg base 1 "behind" ["text", "at", "part"] spBehind)
    (C_read_number : Cal P w K mg base 3 "read_number" ["text", "at", "least", "most"] spRead_number)
    (C_read_plan : Cal P w K mg base (3 * h + 4) "read_plan" ["text", "at", "depth"] (spRead (wAll h))) : FnOk P w K mg base CX0 (3 * h + 5) f fd ["text", "at", "depth"] (spRead (wScale h)) := by
  refine F.ok sc_read_scale (fun vs H Q E h => ?_) (fun cdv A outer s H vs Q E hr h => ?_)
  · obtain ⟨l, rest, pl, a, d, rfl, _⟩ := h
    rfl
  obtain ⟨l, rest, pl, a, d, rfl, hl, h0, hd, hstop, hg, ⟨hh, m, n, x, rfl⟩, hd1, hd13, q⟩ := h
  refine ⟨_, (pss_cons (ps_asg (pe_cal C_read_number (hr.mono (by omega)) rfl (pa_cons (pv 0) (pa_cons (pv 1) (pa_cons pe_int (pa_cons pe_int pa_nil))))) (pg_tup rfl (pgs_cons (pg_name (i := 3) sc_read_scale.nd rfl (Or.inl rfl)) (pgs_cons (pg_name (i := 4) sc_read_scale.nd rfl (Or.inl rfl)) pgs_nil))))
  (pss_cons (ps_asg (pe_cal C_read_number (hr.mono (by omega)) rfl (pa_cons (pv 0) (pa_cons (pe_cal C_behind (hr.mono (by omega)) rfl (pa_cons (pv 0) (pa_cons (pv 4) (pa_cons pe_str pa_nil)))) (pa_cons pe_int (pa_cons pe_int pa_nil))))) (pg_tup rfl (pgs_cons (pg_name (i := 5) sc_read_scale.nd rfl (Or.inl rfl)) (pgs_cons (pg_name (i := 6) sc_read_scale.nd rfl (Or.inl rfl)) pgs_nil))))
  (pss_cons (ps_asg (pe_cal C_read_plan (hr.mono (by omega)) rfl (pa_cons (pv 0) (pa_cons (pe_cal C_behind (hr.mono (by omega)) rfl (pa_cons (pv 0) (pa_cons (pv 6) (pa_cons pe_str pa_nil)))) (pa_cons (pe_op op_add (pv 2) pe_int) pa_nil)))) (pg_tup rfl (pgs_cons (pg_name (i := 7) sc_read_scale.nd rfl (Or.inl rfl)) (pgs_cons (pg_name (i := 8) sc_read_scale.nd rfl (Or.inl rfl)) pgs_nil))))
  (pss_one (ps_ret (pe_tup (pa_cons (pe_tup (pa_cons pe_str (pa_cons (pv 3) (pa_cons (pv 5) (pa_cons (pv 7) pa_nil))))) (pa_cons (pv 8) pa_nil)))))))), ?_⟩
  have hx : x.height ≤ h ∧ x.height + d ≤ 12 := by
    simp only [Plan.height] at hh hd13
    omega
  have e1 : l.drop a.toNat = TL.numL m ++ ([47] ++ (TL.numL n ++ ([32, 42, 32] ++ (fmt x ++ rest)))) := by
    rw [hd]
    simp only [fmt, List.append_assoc]
  have e2 := drop_more h0 e1
  have e3 := drop_more (by omega) e2
  have e4 := drop_more (by omega) e3
  have e5 := drop_more (by omega) e4
  simp only [List.length_cons, List.length_nil] at e2 e3 e4 e5
  refine ⟨_, rfl, _, rfl, l, _, m, a, 1, 999, rfl, hl, h0, e1, nd_slash (by decide), hg.1.1, hg.1.2, by have := hg.1.1; omega, by have := hg.1.2; omega, fun r1 H1 g1 hr1 => ?_⟩
  refine ⟨r1, _, rfl, .inl (.inl hr1), rfl, _, _, rfl, _, _, rfl, rfl, ?_⟩
  refine ⟨_, rfl, _, rfl, _, rfl, l, [47], _, _, by rw [lit_slash]; rfl, hl, by decide, by omega, e2, ?_⟩
  refine ⟨l, _, n, _, 1, 999, rfl, hl, by first | omega | (simp only [List.length_cons, List.length_nil]; omega), e3, nd_slash (by decide), hg.2.1.1, hg.2.1.2, by have := hg.2.1.1; omega, by have := hg.2.1.2; omega, fun r2 H2 g2 hr2 => ?_⟩
  refine ⟨r2, _, rfl, .inl (.inl hr2), rfl, _, _, rfl, _, _, rfl, rfl, ?_⟩
  refine ⟨_, rfl, _, rfl, _, rfl, l, [32, 42, 32], _, _, by rw [lit_star]; rfl, hl, by decide, by first | omega | (simp only [List.length_cons, List.length_nil]; omega), e4, ?_⟩
  refine ⟨_, rfl, _, _, rfl, rfl, l, rest, x, _, d + 1, rfl, hl, by first | omega | (simp only [List.length_cons, List.length_nil]; omega), e5, hstop, hg.2.2, hx.1, by omega, by omega, fun p3 r3 H3 g3 hp3 hr3 => ?_⟩
  refine ⟨r3, _, rfl, .inl (.inl hr3), rfl, _, _, rfl, _, _, rfl, rfl, ?_⟩
  refine ⟨_, rfl, _, rfl, _, rfl, (by show 4 ≤ sizeLine; exact line_ge (by omega)), fun t ht => ?_⟩
  refine ⟨_, rfl, two_line, fun u hu => ?_⟩
  have g4 := same_new ht (.tup [.str "scale", .int m, .int n, .ref p3])
  refine q t u _ (g1.trans (g2.trans (g3.trans (g4.trans (same_new hu _))))) ⟨p3, same_new hu _ _ _ upd_same, hp3.same (g4.trans (same_new hu _))⟩ ?_
  rw [upd_same]
  refine congrArg (fun z => some (HO.tup [V.ref t, V.int z])) ?_
  simp only [fmt, List.length_append, List.length_cons, List.length_nil]
  omega
/-! ### read_thin -/
abbrev s_read_thin : Stmt := top 20
abbrev N_read_thin : List Str := ["text", "at", "depth", "grade", "end", "inner", "last"]
theorem sc_read_thin : FnScope N_read_thin ["text", "at", "depth"] (defScope s_read_thin) := ⟨rfl, rfl, rfl, by decide +kernel, rfl, by decide +kernel, by decide +kernel⟩
theorem ok_read_thin {h : Nat} (F : Fun K "read_thin" "read_thin" s_read_thin f fd) (T : Txt mg) (C_behind : Cal P w K mg base 1 "behind" ["text", "at", "part"] spBehind)
    (C_read_number : Cal P w K mg base 3 "read_number" ["text", "at", "least", "most"] spRead_number)
    (C_read_plan : Cal P w K mg base (3 * h + 4) "read_plan" ["text", "at", "depth"] (spRead (wAll h))) : FnOk P w K mg base CX0 (3 * h + 5) f fd ["text", "at", "depth"] (spRead (wThin h)) := by
  refine F.ok sc_read_thin (fun vs H Q E h => ?_) (fun cdv A outer s H vs Q E hr h => ?_)
  · obtain ⟨l, rest, pl, a, d, rfl, _⟩ := h
    rfl
  obtain ⟨l, rest, pl, a, d, rfl, hl, h0, hd, hstop, hg, ⟨hh, k, x, rfl⟩, hd1, hd13, q⟩ := h
  refine ⟨_, (pss_cons (ps_asg (pe_cal C_read_number (hr.mono (by omega)) rfl (pa_cons (pv 0) (pa_cons (pe_cal C_behind (hr.mono (by omega)) rfl (pa_cons (pv 0) (pa_cons (pv 1) (pa_cons pe_str pa_nil)))) (pa_cons pe_int (pa_cons pe_int pa_nil))))) (pg_tup rfl (pgs_cons (pg_name (i := 3) sc_read_thin.nd rfl (Or.inl rfl)) (pgs_cons (pg_name (i := 4) sc_read_thin.nd rfl (Or.inl rfl)) pgs_nil))))
  (pss_cons (ps_asg (pe_cal C_read_plan (hr.mono (by omega)) rfl (pa_cons (pv 0) (pa_cons (pe_cal C_behind (hr.mono (by omega)) rfl (pa_cons (pv 0) (pa_cons (pv 4) (pa_cons pe_str pa_nil)))) (pa_cons (pe_op op_add (pv 2) pe_int) pa_nil)))) (pg_tup rfl (pgs_cons (pg_name (i := 5) sc_read_thin.nd rfl (Or.inl rfl)) (pgs_cons (pg_name (i := 6) sc_read_thin.nd rfl (Or.inl rfl)) pgs_nil))))
  (pss_one (ps_ret (pe_tup (pa_cons (pe_tup (pa_cons pe_str (pa_cons (pv 3) (pa_cons (pv 5) pa_nil)))) (pa_cons (pv 6) pa_nil))))))), ?_⟩
  have hx : x.height ≤ h ∧ x.height + d ≤ 12 := by
    simp only [Plan.height] at hh hd13
    omega
  have e1 : l.drop a.toNat = (tThin ++ [32]) ++ (TL.numL k ++ ([32] ++ (fmt x ++ rest))) := by
    rw [hd]
    simp only [fmt, List.append_assoc]
  have e2 := drop_more h0 e1
  have e3 := drop_more (by omega) e2
  have e4 := drop_more (by omega) e3
  refine ⟨_, rfl, _, rfl, _, rfl, l, tThin ++ [32], _, _, by rw [lit_thin_]; rfl, hl, by decide, h0, e1, ?_⟩
  refine ⟨l, _, k, _, 2, 10, rfl, hl, by omega, e2, nd_slash (by decide), by have := hg.1.1; omega, by have := hg.1.2; omega, by have := hg.1.1; omega, by have := hg.1.2; omega, fun r1 H1 g1 hr1 => ?_⟩
  refine ⟨r1, _, rfl, .inl (.inl hr1), rfl, _, _, rfl, _, _, rfl, rfl, ?_⟩
  refine ⟨_, rfl, _, rfl, _, rfl, l, [32], _, _, by rw [lit_blank]; rfl, hl, by decide, by omega, e3, ?_⟩
  refine ⟨_, rfl, _, _, rfl, rfl, l, rest, x, _, d + 1, rfl, hl, by omega, e4, hstop, hg.2, hx.1, by omega, by omega, fun p3 r3 H3 g3 hp3 hr3 => ?_⟩
  refine ⟨r3, _, rfl, .inl (.inl hr3), rfl, _, _, rfl, _, _, rfl, rfl, ?_⟩
  refine ⟨_, rfl, _, rfl, three_line, fun t ht => ?_⟩
  refine ⟨_, rfl, two_line, fun u hu => ?_⟩
  have g4 := same_new ht (.tup [.str "thin", .int k, .ref p3])
  refine q t u _ (g1.trans (g3.trans (g4.trans (same_new hu _)))) ⟨p3, same_new hu _ _ _ upd_same, hp3.same (g4.trans (same_new hu _))⟩ ?_
  rw [upd_same]
  refine congrArg (fun z => some (HO.tup [V.ref t, V.int z])) ?_
  simp only [fmt, List.length_append, List.length_cons, List.length_nil]
  omega
end
end P65
namespace P65
open PySem PySem.Spec PyProof.Rows L2 SX
abbrev letters : List Nat := [97, 98, 99, 100, 101, 102, 103, 104, 105, 106, 107, 108, 109, 110, 111, 112, 113, 114, 115, 116, 117, 118, 119, 120, 121, 122]
theorem mem_letters {c : Nat} (h : letter c = true) : c ∈ letters := by
  have h := of_decide_eq_true h
  simp only [letters, List.mem_cons, List.not_mem_nil, or_false]
  omega
theorem letter_of_mem {c : Nat} (h : c ∈ letters) : letter c = true := by
  simp only [letters, List.mem_cons, List.not_mem_nil, or_false] at h
  exact decide_eq_true (by omega)
theorem run_letters {l x rest : List Nat} {a : Int} (h : l.drop a.toNat = x ++ rest) (hx : ∀ c ∈ x, letter c = true) (hr : ∀ c, rest.head? = some c → letter c = false) : run l letters a = x := by
  unfold run
  rw [h]
  refine tw_app (fun c hc => decide_eq_true (mem_letters (hx c hc))) (fun c hc => decide_eq_false fun hm => ?_)
  have := hr c hc
  rw [letter_of_mem hm] at this
  cases this
theorem inV_strs (x : Str) (ys : List Str) : inV (.str x) (ys.map V.str) = ys.any (· == x) := by
  induction ys with
  | nil => rfl
  | cons y ys ih => exact congrArg (fun b => (y == x) || b) ih
theorem word_in {n : List Nat} (h : n = tSpare ∨ n = tBase) : inV (.str (S n)) [.str "spare", .str "base"] = true := by
  have e := inV_strs (S n) ["spare", "base"]
  refine e.trans ?_
  rw [lit_spare, lit_base]
  rcases h with rfl | rfl <;> decide +kernel
theorem word_out {n : List Nat} (h1 : n ≠ tSpare) (h2 : n ≠ tBase) : inV (.str (S n)) [.str "spare", .str "base"] = false := by
  have e := inV_strs (S n) ["spare", "base"]
  refine e.trans ?_
  rw [lit_spare, lit_base, List.any_cons, List.any_cons, S_beq_eq, S_beq_eq, decide_eq_false (Ne.symm h1), decide_eq_false (Ne.symm h2)]
  rfl
abbrev s_read_word : Stmt := top 21
abbrev N_read_word : List Str := ["text", "at", "depth", "word", "end", "inner", "last"]
theorem sc_read_word : FnScope N_read_word ["text", "at", "depth"] (defScope s_read_word) := ⟨rfl, rfl, rfl, by decide +kernel, rfl, by decide +kernel, by decide +kernel⟩
theorem ifT {c : Bool} {A B : Prop} (hc : c = true) (h : A) : if c = true then A else B := by rw [if_pos hc]; exact h
theorem ifF {c : Bool} {A B : Prop} (hc : c = false) (h : B) : if c = true then A else B := by rw [hc, if_neg Bool.false_ne_true]; exact h
theorem dec_ne {a b : V} (h : a ≠ b) : decide (a = b) = false := decide_eq_false h
theorem seven {h : Nat} : 3 * h + 5 + 1 = 3 * h + 6 := rfl
section
variable {P : Program} {w : World} {K : PySem.W.Frag} {mg : Str → Option Value} {base : Heap} {f : Addr} {fd : FuncData}
theorem ok_read_word {h : Nat} (F : Fun K "read_word" "read_word" s_read_word f fd) (T : Txt mg) (C_behind : Cal P w K mg base 1 "behind" ["text", "at", "part"] spBehind)
    (C_longest : Cal P w K mg base 1 "longest" ["text", "at", "signs"] spLongest)
    (C_read_thin : Cal P w K mg base (3 * h + 5) "read_thin" ["text", "at", "depth"] (spRead (wThin h)))
    (C_read_plan : Cal P w K mg base (3 * h + 4) "read_plan" ["text", "at", "depth"] (spRead (wAll h))) : FnOk P w K mg base CX0 (3 * h + 6) f fd ["text", "at", "depth"] (spRead (wWord h)) := by
  refine F.ok sc_read_word (fun vs H Q E h => ?_) (fun cdv A outer s H vs Q E hr h => ?_)
  · obtain ⟨l, rest, pl, a, d, rfl, _⟩ := h
    rfl
  obtain ⟨l, rest, pl, a, d, rfl, hl, h0, hd, hstop, hg, ⟨hh, hk⟩, hd1, hd13, q⟩ := h
  refine ⟨_, (pss_cons (ps_set (i := 3) sc_read_word.nd rfl (Or.inl rfl) (pe_cal C_longest (hr.mono (by omega)) rfl (pa_cons (pv 0) (pa_cons (pv 1) (pa_cons (pe_gstr rfl T.b_LETTERS) pa_nil)))))
  (pss_cons (ps_set (i := 4) sc_read_word.nd rfl (Or.inl rfl) (pe_op op_add (pv 1) (pe_callB call_len_str (by rfl) T.b_len PySem.boot_len (pa_cons (pv 3) pa_nil))))
  (pss_cons (ps_if (pt_cmpR op_eq (pv 3) pe_str (nomark _)) (pss_one (ps_ret (pe_cal C_read_thin (hr.mono (by omega)) rfl (pa_cons (pv 0) (pa_cons (pv 1) (pa_cons (pv 2) pa_nil)))))) pss_nil)
  (pss_cons (ps_if (pt_cmpR op_in_seq (pv 3) (pe_tup (pa_cons pe_str (pa_cons pe_str pa_nil))) (by rfl)) (pss_cons (ps_asg (pe_cal C_read_plan (hr.mono (by omega)) rfl (pa_cons (pv 0) (pa_cons (pe_cal C_behind (hr.mono (by omega)) rfl (pa_cons (pv 0) (pa_cons (pv 4) (pa_cons pe_str pa_nil)))) (pa_cons (pe_op op_add (pv 2) pe_int) pa_nil)))) (pg_tup rfl (pgs_cons (pg_name (i := 5) sc_read_word.nd rfl (Or.inl rfl)) (pgs_cons (pg_name (i := 6) sc_read_word.nd rfl (Or.inl rfl)) pgs_nil))))
  (pss_one (ps_ret (pe_tup (pa_cons (pe_tup (pa_cons (pv 3) (pa_cons (pv 5) pa_nil))) (pa_cons (pv 6) pa_nil)))))) pss_nil)
  (pss_cons (ps_if (PW.pt (pw_or (pt_cmpR op_eq (pv 3) pe_str (nomark _)) (pw_or1 (pt_cmpR op_gt (pe_callB call_len_str (by rfl) T.b_len PySem.boot_len (pa_cons (pv 3) pa_nil)) (pe_gint rfl T.b_MOST_LETTERS) (nomark _))))) (pss_one ps_never) pss_nil)
  (pss_one (ps_ret (pe_tup (pa_cons (pe_tup (pa_cons pe_str (pa_cons (pv 3) pa_nil))) (pa_cons (pv 4) pa_nil)))))))))), ?_⟩
  have hal : a ≤ l.length := by
    obtain ⟨c, r, e, _⟩ := fmt_head hg
    rw [e, List.cons_append] at hd
    have := congrArg List.length hd
    rw [List.length_drop, List.length_cons] at this
    omega
  refine ⟨_, rfl, _, rfl, l, letters, a, by rw [lit_letters]; rfl, hl, h0, hal, ?_⟩
  -- the word ahead
  have key : ∀ (x r : List Nat), l.drop a.toNat = x ++ r → (∀ c ∈ x, letter c = true) → (∀ c, r.head? = some c → letter c = false) → run l letters a = x := fun x r e h1 h2 => run_letters e h1 h2
  cases pl with
  | join x y => exact hk.elim
  | scale m n x => exact hk.elim
  | take n =>
    have hn : GoodName n := hg
    have hn8 := hn.le
    rw [key n rest hd hn.let_ hstop.letter]
    refine ⟨_, rfl, _, rfl, _, rfl, sline (by omega), _, _, rfl, rfl, ?_⟩
    refine ⟨_, rfl, rfl, _, rfl, ifF (dec_ne (by rw [lit_thin]; exact str_ne hn.thin)) ?_⟩
    refine ⟨_, rfl, two_line, fun t0 ht0 => ?_⟩
    refine ⟨t0, _, rfl, .inr (SqT.of upd_same), rfl, rfl, _, rfl, ifF (word_out hn.spare hn.base) ?_⟩
    refine ⟨_, rfl, rfl, _, rfl, ifF (dec_ne (by rw [lit_empty]; exact str_ne fun e => by have := hn.pos; rw [e] at this; exact absurd this (by decide))) ?_⟩
    refine ⟨_, rfl, _, rfl, sline (by omega), _, _, rfl, rfl, _, rfl, ifF (decide_eq_false (by rw [slen]; omega)) ?_⟩
    refine ⟨_, rfl, two_line, fun t ht => ?_⟩
    refine ⟨_, rfl, two_line, fun u hu => ?_⟩
    refine q t u _ ((same_new ht0 _).trans ((same_new ht _).trans (same_new hu _))) (same_new hu _ _ _ upd_same) ?_
    rw [upd_same, slen]
    rfl
  | spare x =>
    have hx : x.height ≤ h ∧ x.height + d ≤ 12 := by
      simp only [Plan.height] at hh hd13
      omega
    have e1 : l.drop a.toNat = tSpare ++ ([32] ++ (fmt x ++ rest)) := by
      rw [hd]
      simp only [fmt, List.append_assoc]
    have e2 := drop_more h0 e1
    have e3 := drop_more (by omega) e2
    rw [key _ _ e1 (by decide) (fun c e => by have : 32 = c := Option.some.inj e; subst this; decide)]
    refine ⟨_, rfl, _, rfl, _, rfl, sline (by decide), _, _, rfl, rfl, ?_⟩
    refine ⟨_, rfl, rfl, _, rfl, ifF (dec_ne (by rw [lit_thin]; exact str_ne (by decide))) ?_⟩
    refine ⟨_, rfl, two_line, fun t0 ht0 => ?_⟩
    refine ⟨t0, _, rfl, .inr (SqT.of upd_same), rfl, rfl, _, rfl, ifT (word_in (.inl rfl)) ?_⟩
    refine ⟨_, rfl, _, rfl, _, rfl, l, [32], _, _, by rw [lit_blank, slen]; rfl, hl, by decide, by omega, e2, ?_⟩
    refine ⟨_, rfl, _, _, rfl, rfl, l, rest, x, _, d + 1, rfl, hl, by omega, e3, hstop, hg, hx.1, by omega, by omega, fun p3 r3 H3 g3 hp3 hr3 => ?_⟩
    refine ⟨r3, _, rfl, .inl (.inl hr3), rfl, _, _, rfl, _, _, rfl, rfl, ?_⟩
    refine ⟨_, rfl, _, rfl, two_line, fun t ht => ?_⟩
    refine ⟨_, rfl, two_line, fun u hu => ?_⟩
    refine q t u _ ((same_new ht0 _).trans (g3.trans ((same_new ht _).trans (same_new hu _)))) ⟨p3, ?_, hp3.same ((same_new ht _).trans (same_new hu _))⟩ ?_
    · rw [lit_spare]
      exact same_new hu _ _ _ upd_same
    rw [upd_same]
    refine congrArg (fun z => some (HO.tup [V.ref t, V.int z])) ?_
    simp only [fmt, List.length_append, List.length_cons, List.length_nil]
    omega
  | base x =>
    have hx : x.height ≤ h ∧ x.height + d ≤ 12 := by
      simp only [Plan.height] at hh hd13
      omega
    have e1 : l.drop a.toNat = tBase ++ ([32] ++ (fmt x ++ rest)) := by
      rw [hd]
      simp only [fmt, List.append_assoc]
    have e2 := drop_more h0 e1
    have e3 := drop_more (by omega) e2
    rw [key _ _ e1 (by decide) (fun c e => by have : 32 = c := Option.some.inj e; subst this; decide)]
    refine ⟨_, rfl, _, rfl, _, rfl, sline (by decide), _, _, rfl, rfl, ?_⟩
    refine ⟨_, rfl, rfl, _, rfl, ifF (dec_ne (by rw [lit_thin]; exact str_ne (by decide))) ?_⟩
    refine ⟨_, rfl, two_line, fun t0 ht0 => ?_⟩
    refine ⟨t0, _, rfl, .inr (SqT.of upd_same), rfl, rfl, _, rfl, ifT (word_in (.inr rfl)) ?_⟩
    refine ⟨_, rfl, _, rfl, _, rfl, l, [32], _, _, by rw [lit_blank, slen]; rfl, hl, by decide, by omega, e2, ?_⟩
    refine ⟨_, rfl, _, _, rfl, rfl, l, rest, x, _, d + 1, rfl, hl, by omega, e3, hstop, hg, hx.1, by omega, by omega, fun p3 r3 H3 g3 hp3 hr3 => ?_⟩
    refine ⟨r3, _, rfl, .inl (.inl hr3), rfl, _, _, rfl, _, _, rfl, rfl, ?_⟩
    refine ⟨_, rfl, _, rfl, two_line, fun t ht => ?_⟩
    refine ⟨_, rfl, two_line, fun u hu => ?_⟩
    refine q t u _ ((same_new ht0 _).trans (g3.trans ((same_new ht _).trans (same_new hu _)))) ⟨p3, ?_, hp3.same ((same_new ht _).trans (same_new hu _))⟩ ?_
    · rw [lit_base]
      exact same_new hu _ _ _ upd_same
    rw [upd_same]
    refine congrArg (fun z => some (HO.tup [V.ref t, V.int z])) ?_
    simp only [fmt, List.length_append, List.length_cons, List.length_nil]
    omega
  | thin k x =>
    have e1 : l.drop a.toNat = tThin ++ ([32] ++ (TL.numL k ++ ([32] ++ (fmt x ++ rest)))) := by
      rw [hd]
      simp only [fmt, List.append_assoc]
    rw [key _ _ e1 (by decide) (fun c e => by have : 32 = c := Option.some.inj e; subst this; decide)]
    refine ⟨_, rfl, _, rfl, _, rfl, sline (by decide), _, _, rfl, rfl, ?_⟩
    refine ⟨_, rfl, rfl, _, rfl, ifT (decide_eq_true (by rw [lit_thin])) ?_⟩
    exact ⟨_, rfl, _, rfl, _, rfl, l, rest, .thin k x, a, d, rfl, hl, h0, hd, hstop, hg, ⟨hh, k, x, rfl⟩, hd1, hd13, q⟩
end
end P65
namespace P65
open PySem PySem.Spec PyProof.Rows L2 SX
abbrev s_read_plan : Stmt := top 22
abbrev N_read_plan : List Str := ["text", "at", "depth"]
theorem sc_read_plan : FnScope N_read_plan ["text", "at", "depth"] (defScope s_read_plan) := ⟨rfl, rfl, rfl, by decide +kernel, rfl, by decide +kernel, by decide +kernel⟩
section
variable {P : Program} {w : World} {K : PySem.W.Frag} {mg : Str → Option Value} {base : Heap} {f : Addr} {fd : FuncData}
theorem fmt_at {l rest : List Nat} {pl : Plan} {a : Int} (h0 : 0 ≤ a) (hg : Good pl) (hd : l.drop a.toNat = fmt pl ++ rest) : a ≤ l.length ∧ ∃ c r, l.drop a.toNat = c :: r ∧ (match kind pl with | .bracket => c = 40 | .number => digit c = true | .word => letter c = true) := by
  obtain ⟨c, r, e, k⟩ := fmt_head hg
  rw [e, List.cons_append] at hd
  refine ⟨?_, c, _, hd, k⟩
  have := congrArg List.length hd
  rw [List.length_drop, List.length_cons] at this
  omega
theorem run_none {l g r : List Nat} {a : Int} {c : Nat} (h : l.drop a.toNat = c :: r) (hc : c ∉ g) : run l g a = [] := by
  unfold run
  rw [h, List.takeWhile_cons, if_neg (by unfold inS; rw [decide_eq_false hc]; exact Bool.false_ne_true)]
theorem run_some {l g r : List Nat} {a : Int} {c : Nat} (h : l.drop a.toNat = c :: r) (hc : c ∈ g) : run l g a ≠ [] := by
  unfold run
  rw [h, List.takeWhile_cons, if_pos (show inS g c = true from decide_eq_true hc)]
  simp
theorem ok_read_plan {h : Nat} (F : Fun K "read_plan" "read_plan" s_read_plan f fd) (T : Txt mg)
    (C_longest : Cal P w K mg base 1 "longest" ["text", "at", "signs"] spLongest)
    (C_read_join : Cal P w K mg base (3 * h + 5) "read_join" ["text", "at", "depth"] (spRead (wJoin h)))
    (C_read_scale : Cal P w K mg base (3 * h + 5) "read_scale" ["text", "at", "depth"] (spRead (wScale h)))
    (C_read_word : Cal P w K mg base (3 * h + 6) "read_word" ["text", "at", "depth"] (spRead (wWord h))) : FnOk P w K mg base CX0 (3 * h + 7) f fd ["text", "at", "depth"] (spRead (wAll (h + 1))) := by
  refine F.ok sc_read_plan (fun vs H Q E h => ?_) (fun cdv A outer s H vs Q E hr h => ?_)
  · obtain ⟨l, rest, pl, a, d, rfl, _⟩ := h
    rfl
  obtain ⟨l, rest, pl, a, d, rfl, hl, h0, hd, hstop, hg, hh, hd1, hd13, q⟩ := h
  refine ⟨_, (pss_cons (ps_if (pt_cmpR op_gt (pv 2) (pe_gint rfl T.b_MOST_DEPTH) (nomark _)) (pss_one ps_never) pss_nil)
  (pss_cons (ps_if (pt_cmpR op_eq (pe_slice sl_str (pv 0) (po_some (pv 1)) (po_some (pe_op op_add (pv 1) pe_int))) pe_str (nomark _)) (pss_one (ps_ret (pe_cal C_read_join (hr.mono (by omega)) rfl (pa_cons (pv 0) (pa_cons (pv 1) (pa_cons (pv 2) pa_nil)))))) pss_nil)
  (pss_cons (ps_if (pt_cmpR op_ne (pe_cal C_longest (hr.mono (by omega)) rfl (pa_cons (pv 0) (pa_cons (pv 1) (pa_cons (pe_gstr rfl T.b_DIGITS_plannotes) pa_nil)))) pe_str (nomark _)) (pss_one (ps_ret (pe_cal C_read_scale (hr.mono (by omega)) rfl (pa_cons (pv 0) (pa_cons (pv 1) (pa_cons (pv 2) pa_nil)))))) pss_nil)
  (pss_one (ps_ret (pe_cal C_read_word (hr.mono (by omega)) rfl (pa_cons (pv 0) (pa_cons (pv 1) (pa_cons (pv 2) pa_nil))))))))), ?_⟩
  obtain ⟨hal, c, r, ec, hc⟩ := fmt_at h0 hg hd
  have hp := height_pos pl
  have one : cutS (S l) (some a) (some (a + 1)) = S [c] := by
    rw [cut_mid l h0 (by omega), show (a + 1 - a).toNat = 1 by omega, ec]
    rfl
  refine ⟨_, rfl, _, _, rfl, rfl, _, rfl, ifF (decide_eq_false (by omega)) ?_⟩
  refine ⟨_, rfl, _, rfl, _, rfl, _, rfl, _, _, rfl, rfl, _, rfl, S l, rfl, sline hl, rfl, _, rfl, ?_⟩
  by_cases hb : ∃ x y, pl = .join x y
  · obtain ⟨x, y, rfl⟩ := hb
    refine ifT (decide_eq_true (by rw [one, lit_lp, show c = 40 from hc])) ?_
    exact ⟨_, rfl, _, rfl, _, rfl, l, rest, _, a, d, rfl, hl, h0, hd, hstop, hg, ⟨hh, x, y, rfl⟩, hd1, hd13, q⟩
  have hc40 : c ≠ 40 := by
    intro e
    subst e
    cases pl with
    | join x y => exact hb ⟨x, y, rfl⟩
    | take n => exact absurd (show letter 40 = true from hc) (by decide)
    | scale m n x => exact absurd (show digit 40 = true from hc) (by decide)
    | spare x => exact absurd (show letter 40 = true from hc) (by decide)
    | base x => exact absurd (show letter 40 = true from hc) (by decide)
    | thin k x => exact absurd (show letter 40 = true from hc) (by decide)
  refine ifF (dec_ne (by rw [one, lit_lp]; exact str_ne fun e => hc40 (List.head_eq_of_cons_eq e))) ?_
  refine ⟨_, rfl, _, rfl, l, [48, 49, 50, 51, 52, 53, 54, 55, 56, 57], a, by rw [lit_digits]; rfl, hl, h0, hal, rfl, _, rfl, ?_⟩
  by_cases hs : ∃ m n x, pl = .scale m n x
  · obtain ⟨m, n, x, rfl⟩ := hs
    have hne := run_some ec (mem_digits hc)
    refine ifT (by rw [lit_empty, dec_ne (str_ne hne)]; rfl) ?_
    exact ⟨_, rfl, _, rfl, _, rfl, l, rest, _, a, d, rfl, hl, h0, hd, hstop, hg, ⟨hh, m, n, x, rfl⟩, hd1, hd13, q⟩
  have hcl : letter c = true ∧ (match kind pl with | .word => True | _ => False) := by
    cases pl with
    | join x y => exact (hb ⟨x, y, rfl⟩).elim
    | take n => exact ⟨hc, trivial⟩
    | scale m n x => exact (hs ⟨m, n, x, rfl⟩).elim
    | spare x => exact ⟨hc, trivial⟩
    | base x => exact ⟨hc, trivial⟩
    | thin k x => exact ⟨hc, trivial⟩
  have hno : c ∉ [48, 49, 50, 51, 52, 53, 54, 55, 56, 57] := fun hm => by
    have h1 := of_decide_eq_true (digit_of_mem hm)
    have h2 := of_decide_eq_true hcl.1
    omega
  refine ifF (by rw [lit_empty, run_none ec hno, decide_eq_true rfl]; rfl) ?_
  exact ⟨_, rfl, _, rfl, _, rfl, l, rest, _, a, d, rfl, hl, h0, hd, hstop, hg, ⟨hh, hcl.2⟩, hd1, hd13, q⟩
/-! ### the ring of the readers -/
theorem none_read {fd : FuncData} {k : Nat} : FnOk P w K mg base CX0 k f fd ["text", "at", "depth"] (spRead (wAll 0)) := by
  have no : ∀ vs H Q E, ¬ spRead (wAll 0) vs H Q E := fun vs H Q E h => by
    obtain ⟨l, rest, pl, a, d, _, _, _, _, _, _, hh, _⟩ := h
    have := height_pos pl
    have : pl.height ≤ 0 := hh
    omega
  exact ⟨fun vs H Q E h => absurd h (no vs H Q E), fun A outer s H args us vs Q E _ _ _ _ h => absurd h (no vs H Q E)⟩
theorem ring {f1 f2 f3 f4 f5 : Addr} {d1 d2 d3 d4 d5 : FuncData} (T : Txt mg)
    (F1 : Fun K "read_join" "read_join" s_read_join f1 d1) (F2 : Fun K "read_scale" "read_scale" s_read_scale f2 d2) (F3 : Fun K "read_thin" "read_thin" s_read_thin f3 d3) (F4 : Fun K "read_word" "read_word" s_read_word f4 d4) (F5 : Fun K "read_plan" "read_plan" s_read_plan f5 d5)
    (m1 : mg "read_join" = some (.ref f1)) (m2 : mg "read_scale" = some (.ref f2)) (m3 : mg "read_thin" = some (.ref f3)) (m4 : mg "read_word" = some (.ref f4)) (m5 : mg "read_plan" = some (.ref f5))
    (b1 : Binds K d1 ["text", "at", "depth"] []) (b2 : Binds K d2 ["text", "at", "depth"] []) (b3 : Binds K d3 ["text", "at", "depth"] []) (b4 : Binds K d4 ["text", "at", "depth"] []) (b5 : Binds K d5 ["text", "at", "depth"] [])
    (C_behind : Cal P w K mg base 1 "behind" ["text", "at", "part"] spBehind) (C_longest : Cal P w K mg base 1 "longest" ["text", "at", "signs"] spLongest)
    (C_read_number : Cal P w K mg base 3 "read_number" ["text", "at", "least", "most"] spRead_number) :
    ∀ h : Nat, Cal P w K mg base (3 * h + 4) "read_plan" ["text", "at", "depth"] (spRead (wAll h))
  | 0 => ⟨f5, d5, none_read, m5, F5.kp, b5⟩
  | h + 1 => by
    have C := ring T F1 F2 F3 F4 F5 m1 m2 m3 m4 m5 b1 b2 b3 b4 b5 C_behind C_longest C_read_number h
    have C3 : Cal P w K mg base (3 * h + 5) "read_thin" ["text", "at", "depth"] (spRead (wThin h)) := ⟨f3, d3, ok_read_thin F3 T C_behind C_read_number C, m3, F3.kp, b3⟩
    exact ⟨f5, d5, ok_read_plan F5 T C_longest ⟨f1, d1, ok_read_join F1 T C_behind C, m1, F1.kp, b1⟩ ⟨f2, d2, ok_read_scale F2 T C_behind C_read_number C, m2, F2.kp, b2⟩ ⟨f4, d4, ok_read_word F4 T C_behind C_longest C3 C, m4, F4.kp, b4⟩, m5, F5.kp, b5⟩
/-! ### tuples_in -/
def spTuples (h : Nat) : Sp := fun vs H Q _ => ∃ (pl : Plan) (p : Addr), vs = [.ref p] ∧ PlanAt H pl p ∧ pl.height ≤ h ∧ Q (.int (pl.count : Nat)) H
abbrev s_tuples_in : Stmt := top 14
abbrev N_tuples_in : List Str := ["plan"]
theorem sc_tuples_in : FnScope N_tuples_in ["plan"] (defScope s_tuples_in) := ⟨rfl, rfl, rfl, by decide +kernel, rfl, by decide +kernel, by decide +kernel⟩
theorem ok_tuples_in {h : Nat} (F : Fun K "tuples_in" "tuples_in" s_tuples_in f fd) (T : Txt mg) (C_tuples_in : Cal P w K mg base h "tuples_in" ["plan"] (spTuples h)) : FnOk P w K mg base CX0 (h + 1) f fd ["plan"] (spTuples (h + 1)) := by
  refine F.ok sc_tuples_in (fun vs H Q E h => ?_) (fun cdv A outer s H vs Q E hr h => ?_)
  · obtain ⟨pl, p, rfl, _⟩ := h
    rfl
  obtain ⟨pl, p, rfl, hp, hh, q⟩ := h
  refine ⟨_, (pss_one (ps_match (pe_ix ix_tup (pv 0) pe_int (fun _ _ => rfl)) (pm_str (pss_one (ps_ret pe_int))
    (pm_str (pss_one (ps_ret (pe_op op_add (pe_op op_add pe_int (pe_cal C_tuples_in (hr.mono (by omega)) rfl (pa_cons (pe_ix ix_tup (pv 0) pe_int (fun _ _ => rfl)) pa_nil))) (pe_cal C_tuples_in (hr.mono (by omega)) rfl (pa_cons (pe_ix ix_tup (pv 0) pe_int (fun _ _ => rfl)) pa_nil)))))
    (pm_any (pss_one (ps_ret (pe_op op_add pe_int (pe_cal C_tuples_in (hr.mono (by omega)) rfl (pa_cons (pe_ix ix_tup (pv 0) (pe_un un_neg pe_int) (fun _ _ => rfl)) pa_nil)))))))))), ?_⟩
  cases pl with
  | take n =>
    refine ⟨_, rfl, p, _, 0, _, rfl, rfl, SqT.of hp, at_pos (by decide) rfl, _, rfl, ifT (by decide +kernel) ?_⟩
    exact q
  | join x y =>
    obtain ⟨pa, pb, ho, ha, hb⟩ := hp
    simp only [Plan.height] at hh
    refine ⟨_, rfl, p, _, 0, _, rfl, rfl, SqT.of ho, at_pos (by decide) rfl, _, rfl, ifF (by decide +kernel) ⟨_, rfl, ifT (by decide +kernel) ?_⟩⟩
    refine ⟨_, rfl, p, _, 1, _, rfl, rfl, SqT.of ho, at_pos (by decide) rfl, x, pa, rfl, ha, by omega, ?_⟩
    refine ⟨_, _, rfl, rfl, _, rfl, p, _, 2, _, rfl, rfl, SqT.of ho, at_pos (by decide) rfl, y, pb, rfl, hb, by omega, _, _, rfl, rfl, ?_⟩
    show Q (.int (1 + (x.count : Int) + (y.count : Int))) H
    rw [show (1 + (x.count : Int) + (y.count : Int)) = ((Plan.join x y).count : Nat) by simp only [Plan.count]; omega]
    exact q
  | scale m n x =>
    obtain ⟨pa, ho, ha⟩ := hp
    simp only [Plan.height] at hh
    refine ⟨_, rfl, p, _, 0, _, rfl, rfl, SqT.of ho, at_pos (by decide) rfl, _, rfl, ifF (by decide +kernel) ⟨_, rfl, ifF (by decide +kernel) ?_⟩⟩
    refine ⟨_, rfl, _, rfl, p, _, -1, _, rfl, rfl, SqT.of ho, atI_last [_, _, _] _, x, pa, rfl, ha, by omega, _, _, rfl, rfl, ?_⟩
    show Q (.int (1 + (x.count : Int))) H
    rw [show (1 + (x.count : Int)) = ((Plan.scale m n x).count : Nat) by simp only [Plan.count]; omega]
    exact q
  | spare x =>
    obtain ⟨pa, ho, ha⟩ := hp
    simp only [Plan.height] at hh
    refine ⟨_, rfl, p, _, 0, _, rfl, rfl, SqT.of ho, at_pos (by decide) rfl, _, rfl, ifF (by decide +kernel) ⟨_, rfl, ifF (by decide +kernel) ?_⟩⟩
    refine ⟨_, rfl, _, rfl, p, _, -1, _, rfl, rfl, SqT.of ho, atI_last [_] _, x, pa, rfl, ha, by omega, _, _, rfl, rfl, ?_⟩
    show Q (.int (1 + (x.count : Int))) H
    rw [show (1 + (x.count : Int)) = ((Plan.spare x).count : Nat) by simp only [Plan.count]; omega]
    exact q
  | base x =>
    obtain ⟨pa, ho, ha⟩ := hp
    simp only [Plan.height] at hh
    refine ⟨_, rfl, p, _, 0, _, rfl, rfl, SqT.of ho, at_pos (by decide) rfl, _, rfl, ifF (by decide +kernel) ⟨_, rfl, ifF (by decide +kernel) ?_⟩⟩
    refine ⟨_, rfl, _, rfl, p, _, -1, _, rfl, rfl, SqT.of ho, atI_last [_] _, x, pa, rfl, ha, by omega, _, _, rfl, rfl, ?_⟩
    show Q (.int (1 + (x.count : Int))) H
    rw [show (1 + (x.count : Int)) = ((Plan.base x).count : Nat) by simp only [Plan.count]; omega]
    exact q
  | thin k x =>
    obtain ⟨pa, ho, ha⟩ := hp
    simp only [Plan.height] at hh
    refine ⟨_, rfl, p, _, 0, _, rfl, rfl, SqT.of ho, at_pos (by decide) rfl, _, rfl, ifF (by decide +kernel) ⟨_, rfl, ifF (by decide +kernel) ?_⟩⟩
    refine ⟨_, rfl, _, rfl, p, _, -1, _, rfl, rfl, SqT.of ho, atI_last [_, _] _, x, pa, rfl, ha, by omega, _, _, rfl, rfl, ?_⟩
    show Q (.int (1 + (x.count : Int))) H
    rw [show (1 + (x.count : Int)) = ((Plan.thin k x).count : Nat) by simp only [Plan.count]; omega]
    exact q
theorem none_tuples {k : Nat} : FnOk P w K mg base CX0 k f fd ["plan"] (spTuples 0) := by
  have no : ∀ vs H Q E, ¬ spTuples 0 vs H Q E := fun vs H Q E h => by
    obtain ⟨pl, p, _, _, hh, _⟩ := h
    have := height_pos pl
    omega
  exact ⟨fun vs H Q E h => absurd h (no vs H Q E), fun A outer s H args us vs Q E _ _ _ _ h => absurd h (no vs H Q E)⟩
theorem all_tuples (T : Txt mg) (F : Fun K "tuples_in" "tuples_in" s_tuples_in f fd) (m : mg "tuples_in" = some (.ref f)) (b : Binds K fd ["plan"] []) : ∀ h : Nat, Cal P w K mg base h "tuples_in" ["plan"] (spTuples h)
  | 0 => ⟨f, fd, none_tuples, m, F.kp, b⟩
  | h + 1 => ⟨f, fd, ok_tuples_in F T (all_tuples T F m b h), m, F.kp, b⟩
/-! ### parse_plan -/
def spParse : Sp := fun vs H Q _ => ∃ pl : Plan, vs = [.str (S (fmt pl))] ∧ Good pl ∧ pl.height ≤ 12 ∧ pl.count ≤ 40 ∧ ∀ p H', Same H H' → PlanAt H' pl p → Q (.ref p) H'
abbrev s_parse_plan : Stmt := top 23
abbrev N_parse_plan : List Str := ["text", "plan", "end"]
theorem sc_parse_plan : FnScope N_parse_plan ["text"] (defScope s_parse_plan) := ⟨rfl, rfl, rfl, by decide +kernel, rfl, by decide +kernel, by decide +kernel⟩
theorem ok_parse_plan (F : Fun K "parse_plan" "parse_plan" s_parse_plan f fd) (T : Txt mg) (C_read_plan : Cal P w K mg base 40 "read_plan" ["text", "at", "depth"] (spRead (wAll 12))) (C_tuples_in : Cal P w K mg base 12 "tuples_in" ["plan"] (spTuples 12)) :
    FnOk P w K mg base CX0 41 f fd ["text"] spParse := by
  refine F.ok sc_parse_plan (fun vs H Q E h => ?_) (fun cdv A outer s H vs Q E hr h => ?_)
  · obtain ⟨pl, rfl, _⟩ := h
    rfl
  obtain ⟨pl, rfl, hg, hh, hc, q⟩ := h
  refine ⟨_, (pss_cons (ps_asg (pe_cal C_read_plan (hr.mono (by omega)) rfl (pa_cons (pv 0) (pa_cons pe_int (pa_cons pe_int pa_nil)))) (pg_tup rfl (pgs_cons (pg_name (i := 1) sc_parse_plan.nd rfl (Or.inl rfl)) (pgs_cons (pg_name (i := 2) sc_parse_plan.nd rfl (Or.inl rfl)) pgs_nil))))
  (pss_cons (ps_if (PW.pt (pw_or (pt_cmpR op_ne (pv 2) (pe_callB call_len_str (by rfl) T.b_len PySem.boot_len (pa_cons (pv 0) pa_nil)) (nomark _)) (pw_or1 (pt_cmpR op_gt (pe_cal C_tuples_in (hr.mono (by omega)) rfl (pa_cons (pv 1) pa_nil)) (pe_gint rfl T.b_MOST_TUPLES) (nomark _))))) (pss_one ps_never) pss_nil)
  (pss_one (ps_ret (pv 1))))), ?_⟩
  have hl := fmt_len hg
  refine ⟨_, rfl, fmt pl, [], pl, 0, 1, rfl, by omega, by decide, by rw [List.append_nil]; rfl, Stop.nil, hg, hh, by decide, by omega, fun p r H1 g1 hp hr1 => ?_⟩
  refine ⟨r, _, rfl, .inl (.inl hr1), rfl, _, _, rfl, _, _, rfl, rfl, ?_⟩
  refine ⟨_, rfl, _, rfl, _, rfl, sline (by omega), rfl, _, rfl, ifF (by rw [slen, decide_eq_true (by rw [Int.zero_add])]; rfl) ?_⟩
  refine ⟨_, rfl, pl, p, rfl, hp, hh, _, _, rfl, rfl, _, rfl, ifF (decide_eq_false (by omega)) ?_⟩
  exact ⟨_, rfl, q p H1 g1 hp⟩
end
end P65
namespace P65
open PySem PySem.Spec PyProof.Rows L2 SX
theorem sapp (a b : Str) : (a ++ b).length = a.length + b.length := by
  show (a.cps ++ b.cps).size = a.cps.size + b.cps.size
  exact Array.size_append
theorem num_len {n : Nat} (h : n ≤ 999) : (Str.ofString (toString ((n : Nat) : Int))).length ≤ 3 := by
  rw [num_S, slen]
  exact numL_le3 h
theorem log_ok {n : Nat} (h : n ≤ 999) : ((n : Nat) : Int).natAbs.log2 < 1920 := by
  rw [Int.natAbs_natCast]
  by_cases h0 : n = 0
  · subst h0; decide
  · exact (Nat.log2_lt h0).mpr (Nat.lt_of_le_of_lt h (by exact Nat.lt_of_lt_of_le (show 999 < 2 ^ 10 by decide) (Nat.pow_le_pow_right (by decide) (by decide))))
theorem fmt_join (x y : Plan) : ("(" : Str) ++ S (fmt x) ++ (" + " : Str) ++ S (fmt y) ++ (")" : Str) = S (fmt (.join x y)) := by
  rw [lit_lp, lit_rp, lit_plus, S_cat, S_cat, S_cat, S_cat]
  rfl
theorem fmt_scale (m n : Nat) (x : Plan) : (Str.ofString (toString (m : Int))) ++ ("/" : Str) ++ (Str.ofString (toString (n : Int))) ++ (" * " : Str) ++ S (fmt x) = S (fmt (.scale m n x)) := by
  rw [num_S, num_S, lit_slash, lit_star, S_cat, S_cat, S_cat, S_cat]
  rfl
theorem fmt_thin (k : Nat) (x : Plan) : ("thin " : Str) ++ (Str.ofString (toString (k : Int))) ++ (" " : Str) ++ S (fmt x) = S (fmt (.thin k x)) := by
  rw [num_S, lit_thin_, lit_blank, S_cat, S_cat, S_cat]
  rfl
theorem fmt_spare (x : Plan) : ("spare" : Str) ++ (" " : Str) ++ S (fmt x) = S (fmt (.spare x)) := by
  rw [lit_spare, lit_blank, S_cat, S_cat]
  rfl
theorem fmt_base (x : Plan) : ("base" : Str) ++ (" " : Str) ++ S (fmt x) = S (fmt (.base x)) := by
  rw [lit_base, lit_blank, S_cat, S_cat]
  rfl
theorem emp_app (a : Str) : Str.empty ++ a = a := by
  have e : Str.empty = S [] := rfl
  rw [e, ← S_tl a, S_cat]
  rfl
theorem len_lp : ("(" : Str).length = 1 := by rw [lit_lp]; rfl
theorem len_rp : (")" : Str).length = 1 := by rw [lit_rp]; rfl
theorem len_plus : (" + " : Str).length = 3 := by rw [lit_plus]; rfl
theorem len_slash : ("/" : Str).length = 1 := by rw [lit_slash]; rfl
theorem len_star : (" * " : Str).length = 3 := by rw [lit_star]; rfl
theorem len_blank : (" " : Str).length = 1 := by rw [lit_blank]; rfl
theorem len_thin_ : ("thin " : Str).length = 5 := by rw [lit_thin_]; rfl
theorem len_spare : ("spare" : Str).length = 5 := by rw [lit_spare]; rfl
theorem len_base : ("base" : Str).length = 4 := by rw [lit_base]; rfl
theorem len_empty : Str.empty.length = 0 := rfl
/-- a writer of plans -/
def spFmt (h : Nat) : Sp := fun vs H Q _ => ∃ (pl : Plan) (p : Addr), vs = [.ref p] ∧ PlanAt H pl p ∧ Good pl ∧ pl.height ≤ h ∧ pl.count ≤ 100 ∧ Q (.str (S (fmt pl))) H
abbrev s_format_plan : Stmt := top 13
abbrev N_format_plan : List Str := ["plan"]
theorem sc_format_plan : FnScope N_format_plan ["plan"] (defScope s_format_plan) := ⟨rfl, rfl, rfl, by decide +kernel, rfl, by decide +kernel, by decide +kernel⟩
abbrev s__law_written : Stmt := top 31
abbrev N__law_written : List Str := ["plan"]
theorem sc__law_written : FnScope N__law_written ["plan"] (defScope s__law_written) := ⟨rfl, rfl, rfl, by decide +kernel, rfl, by decide +kernel, by decide +kernel⟩
section
variable {P : Program} {w : World} {K : PySem.W.Frag} {mg : Str → Option Value} {base : Heap} {f : Addr} {fd : FuncData}
theorem none_fmt {k h : Nat} (h0 : h = 0) : FnOk P w K mg base CX0 k f fd ["plan"] (spFmt h) := by
  have no : ∀ vs H Q E, ¬ spFmt h vs H Q E := fun vs H Q E hh => by
    obtain ⟨pl, p, _, _, _, hh, _⟩ := hh
    have := height_pos pl
    omega
  exact ⟨fun vs H Q E h => absurd h (no vs H Q E), fun A outer s H args us vs Q E _ _ _ _ h => absurd h (no vs H Q E)⟩
theorem ok_format_plan {h : Nat} (F : Fun K "format_plan" "format_plan" s_format_plan f fd) (T : Txt mg) (C_format_plan : Cal P w K mg base h "format_plan" ["plan"] (spFmt h)) : FnOk P w K mg base CX0 (h + 1) f fd ["plan"] (spFmt (h + 1)) := by
  refine F.ok sc_format_plan (fun vs H Q E h => ?_) (fun cdv A outer s H vs Q E hr h => ?_)
  · obtain ⟨pl, p, rfl, _⟩ := h
    rfl
  obtain ⟨pl, p, rfl, hp, hg, hh, hc, q⟩ := h
  refine ⟨_, (pss_one (ps_match (pe_ix ix_tup (pv 0) pe_int (fun _ _ => rfl)) (pm_str (pss_one (ps_ret (pe_ix ix_tup (pv 0) pe_int (fun _ _ => rfl))))
    (pm_str (pss_one (ps_ret (pe_op op_add_str (pe_op op_add_str (pe_op op_add_str (pe_op op_add_str pe_str (pe_cal C_format_plan (hr.mono (by omega)) rfl (pa_cons (pe_ix ix_tup (pv 0) pe_int (fun _ _ => rfl)) pa_nil))) pe_str) (pe_cal C_format_plan (hr.mono (by omega)) rfl (pa_cons (pe_ix ix_tup (pv 0) pe_int (fun _ _ => rfl)) pa_nil))) pe_str)))
    (pm_str (pss_one (ps_ret (pe_op op_add_str (pe_joined (PJ.cons (pe_fmt (pe_ix ix_tup (pv 0) pe_int (fun _ _ => rfl))) (PJ.cons pe_str (PJ.cons (pe_fmt (pe_ix ix_tup (pv 0) pe_int (fun _ _ => rfl))) (PJ.cons pe_str PJ.nil))))) (pe_cal C_format_plan (hr.mono (by omega)) rfl (pa_cons (pe_ix ix_tup (pv 0) pe_int (fun _ _ => rfl)) pa_nil)))))
    (pm_str (pss_one (ps_ret (pe_op op_add_str (pe_joined (PJ.cons pe_str (PJ.cons (pe_fmt (pe_ix ix_tup (pv 0) pe_int (fun _ _ => rfl))) (PJ.cons pe_str PJ.nil)))) (pe_cal C_format_plan (hr.mono (by omega)) rfl (pa_cons (pe_ix ix_tup (pv 0) pe_int (fun _ _ => rfl)) pa_nil)))))
    (pm_any (pss_one (ps_ret (pe_op op_add_str (pe_op op_add_str (pe_ix ix_tup (pv 0) pe_int (fun _ _ => rfl)) pe_str) (pe_cal C_format_plan (hr.mono (by omega)) rfl (pa_cons (pe_ix ix_tup (pv 0) pe_int (fun _ _ => rfl)) pa_nil)))))))))))), ?_⟩
  cases pl with
  | take n =>
    refine ⟨_, rfl, p, _, 0, _, rfl, rfl, SqT.of hp, at_pos (by decide) rfl, _, rfl, ifT (by decide +kernel) ?_⟩
    exact ⟨_, rfl, p, _, 1, _, rfl, rfl, SqT.of hp, at_pos (by decide) rfl, q⟩
  | join x y =>
    obtain ⟨pa, pb, ho, ha, hb⟩ := hp
    simp only [Plan.height] at hh
    simp only [Plan.count] at hc
    have l1 := fmt_len hg.1
    have l2 := fmt_len hg.2
    refine ⟨_, rfl, p, _, 0, _, rfl, rfl, SqT.of ho, at_pos (by decide) rfl, _, rfl, ifF (by decide +kernel) ⟨_, rfl, ifT (by decide +kernel) ?_⟩⟩
    refine ⟨_, rfl, p, _, 1, _, rfl, rfl, SqT.of ho, at_pos (by decide) rfl, x, pa, rfl, ha, hg.1, by omega, by omega, ?_⟩
    refine ⟨_, _, rfl, rfl, line_ge (by rw [len_lp, slen]; omega), _, _, rfl, rfl, line_ge (by rw [sapp, len_lp, len_plus, slen]; omega), ?_⟩
    refine ⟨_, rfl, p, _, 2, _, rfl, rfl, SqT.of ho, at_pos (by decide) rfl, y, pb, rfl, hb, hg.2, by omega, by omega, ?_⟩
    refine ⟨_, _, rfl, rfl, line_ge (by rw [sapp, sapp, len_lp, len_plus, slen, slen]; omega), _, _, rfl, rfl, line_ge (by rw [sapp, sapp, sapp, len_lp, len_plus, len_rp, slen, slen]; omega), ?_⟩
    show Q (.str (("(" : Str) ++ S (fmt x) ++ (" + " : Str) ++ S (fmt y) ++ (")" : Str))) H
    rw [fmt_join]
    exact q
  | scale m n x =>
    obtain ⟨pa, ho, ha⟩ := hp
    simp only [Plan.height] at hh
    simp only [Plan.count] at hc
    have l1 := fmt_len hg.2.2
    have lm := num_len hg.1.2
    have ln := num_len hg.2.1.2
    refine ⟨_, rfl, p, _, 0, _, rfl, rfl, SqT.of ho, at_pos (by decide) rfl, _, rfl, ifF (by decide +kernel) ⟨_, rfl, ifF (by decide +kernel) ⟨_, rfl, ifT (by decide +kernel) ?_⟩⟩⟩
    refine ⟨_, rfl, p, _, 1, _, rfl, rfl, SqT.of ho, at_pos (by decide) rfl, .inr ⟨_, rfl, log_ok hg.1.2, _, rfl, line_ge (by rw [emp_app]; omega), ?_⟩⟩
    refine ⟨_, rfl, line_ge (by rw [sapp, emp_app, len_slash]; omega), ?_⟩
    refine ⟨_, rfl, p, _, 2, _, rfl, rfl, SqT.of ho, at_pos (by decide) rfl, .inr ⟨_, rfl, log_ok hg.2.1.2, _, rfl, line_ge (by rw [sapp, sapp, emp_app, len_slash]; omega), ?_⟩⟩
    refine ⟨_, rfl, line_ge (by rw [sapp, sapp, sapp, emp_app, len_slash, len_star]; omega), ?_⟩
    refine ⟨_, rfl, p, _, 3, _, rfl, rfl, SqT.of ho, at_pos (by decide) rfl, x, pa, rfl, ha, hg.2.2, by omega, by omega, ?_⟩
    refine ⟨_, _, rfl, rfl, line_ge (by rw [sapp, sapp, sapp, emp_app, len_slash, len_star, slen (fmt x)]; omega), ?_⟩
    show Q (.str (Str.empty ++ (Str.ofString (toString (m : Int))) ++ ("/" : Str) ++ (Str.ofString (toString (n : Int))) ++ (" * " : Str) ++ S (fmt x))) H
    rw [emp_app, fmt_scale]
    exact q
  | spare x =>
    obtain ⟨pa, ho, ha⟩ := hp
    simp only [Plan.height] at hh
    simp only [Plan.count] at hc
    have l1 := fmt_len (a := x) hg
    refine ⟨_, rfl, p, _, 0, _, rfl, rfl, SqT.of ho, at_pos (by decide) rfl, _, rfl, ifF (by decide +kernel) ⟨_, rfl, ifF (by decide +kernel) ⟨_, rfl, ifF (by decide +kernel) ⟨_, rfl, ifF (by decide +kernel) ?_⟩⟩⟩⟩
    refine ⟨_, rfl, p, _, 0, _, rfl, rfl, SqT.of ho, at_pos (by decide) rfl, _, _, rfl, rfl, line_ge (by rw [len_spare, len_blank]; omega), ?_⟩
    refine ⟨_, rfl, p, _, 1, _, rfl, rfl, SqT.of ho, at_pos (by decide) rfl, x, pa, rfl, ha, hg, by omega, by omega, ?_⟩
    refine ⟨_, _, rfl, rfl, line_ge (by rw [sapp, len_spare, len_blank, slen]; omega), ?_⟩
    show Q (.str (("spare" : Str) ++ (" " : Str) ++ S (fmt x))) H
    rw [fmt_spare]
    exact q
  | base x =>
    obtain ⟨pa, ho, ha⟩ := hp
    simp only [Plan.height] at hh
    simp only [Plan.count] at hc
    have l1 := fmt_len (a := x) hg
    refine ⟨_, rfl, p, _, 0, _, rfl, rfl, SqT.of ho, at_pos (by decide) rfl, _, rfl, ifF (by decide +kernel) ⟨_, rfl, ifF (by decide +kernel) ⟨_, rfl, ifF (by decide +kernel) ⟨_, rfl, ifF (by decide +kernel) ?_⟩⟩⟩⟩
    refine ⟨_, rfl, p, _, 0, _, rfl, rfl, SqT.of ho, at_pos (by decide) rfl, _, _, rfl, rfl, line_ge (by rw [len_base, len_blank]; omega), ?_⟩
    refine ⟨_, rfl, p, _, 1, _, rfl, rfl, SqT.of ho, at_pos (by decide) rfl, x, pa, rfl, ha, hg, by omega, by omega, ?_⟩
    refine ⟨_, _, rfl, rfl, line_ge (by rw [sapp, len_base, len_blank, slen]; omega), ?_⟩
    show Q (.str (("base" : Str) ++ (" " : Str) ++ S (fmt x))) H
    rw [fmt_base]
    exact q
  | thin k x =>
    obtain ⟨pa, ho, ha⟩ := hp
    simp only [Plan.height] at hh
    simp only [Plan.count] at hc
    have l1 := fmt_len hg.2
    have hk : k ≤ 999 := by have := hg.1.2; omega
    have lk := num_len hk
    refine ⟨_, rfl, p, _, 0, _, rfl, rfl, SqT.of ho, at_pos (by decide) rfl, _, rfl, ifF (by decide +kernel) ⟨_, rfl, ifF (by decide +kernel) ⟨_, rfl, ifF (by decide +kernel) ⟨_, rfl, ifT (by decide +kernel) ?_⟩⟩⟩⟩
    refine ⟨_, rfl, line_ge (by rw [emp_app, len_thin_]; omega), ?_⟩
    refine ⟨_, rfl, p, _, 1, _, rfl, rfl, SqT.of ho, at_pos (by decide) rfl, .inr ⟨_, rfl, log_ok hk, _, rfl, line_ge (by rw [sapp, emp_app, len_thin_]; omega), ?_⟩⟩
    refine ⟨_, rfl, line_ge (by rw [sapp, sapp, emp_app, len_thin_, len_blank]; omega), ?_⟩
    refine ⟨_, rfl, p, _, 2, _, rfl, rfl, SqT.of ho, at_pos (by decide) rfl, x, pa, rfl, ha, hg.2, by omega, by omega, ?_⟩
    refine ⟨_, _, rfl, rfl, line_ge (by rw [sapp, sapp, emp_app, len_thin_, len_blank, slen (fmt x)]; omega), ?_⟩
    show Q (.str (Str.empty ++ ("thin " : Str) ++ (Str.ofString (toString (k : Int))) ++ (" " : Str) ++ S (fmt x))) H
    rw [emp_app, fmt_thin]
    exact q
theorem ok__law_written {h : Nat} (F : Fun K "_law_written" "_law_written" s__law_written f fd) (T : Txt mg) (C__law_written : Cal P w K mg base h "_law_written" ["plan"] (spFmt h)) : FnOk P w K mg base CX0 (h + 1) f fd ["plan"] (spFmt (h + 1)) := by
  refine F.ok sc__law_written (fun vs H Q E h => ?_) (fun cdv A outer s H vs Q E hr h => ?_)
  · obtain ⟨pl, p, rfl, _⟩ := h
    rfl
  obtain ⟨pl, p, rfl, hp, hg, hh, hc, q⟩ := h
  refine ⟨_, (pss_cons (ps_if (pt_cmpR op_eq (pe_ix ix_tup (pv 0) pe_int (fun _ _ => rfl)) pe_str (nomark _)) (pss_one (ps_ret (pe_ix ix_tup (pv 0) pe_int (fun _ _ => rfl)))) pss_nil)
  (pss_cons (ps_if (pt_cmpR op_eq (pe_ix ix_tup (pv 0) pe_int (fun _ _ => rfl)) pe_str (nomark _)) (pss_one (ps_ret (pe_op op_add_str (pe_op op_add_str (pe_op op_add_str (pe_op op_add_str pe_str (pe_cal C__law_written (hr.mono (by omega)) rfl (pa_cons (pe_ix ix_tup (pv 0) pe_int (fun _ _ => rfl)) pa_nil))) pe_str) (pe_cal C__law_written (hr.mono (by omega)) rfl (pa_cons (pe_ix ix_tup (pv 0) pe_int (fun _ _ => rfl)) pa_nil))) pe_str))) pss_nil)
  (pss_cons (ps_if (pt_cmpR op_eq (pe_ix ix_tup (pv 0) pe_int (fun _ _ => rfl)) pe_str (nomark _)) (pss_one (ps_ret (pe_op op_add_str (pe_op op_add_str (pe_op op_add_str (pe_op op_add_str (pe_callTy call_str_int (by rfl) T.b_str (by decide +kernel) (pa_cons (pe_ix ix_tup (pv 0) pe_int (fun _ _ => rfl)) pa_nil)) pe_str) (pe_callTy call_str_int (by rfl) T.b_str (by decide +kernel) (pa_cons (pe_ix ix_tup (pv 0) pe_int (fun _ _ => rfl)) pa_nil))) pe_str) (pe_cal C__law_written (hr.mono (by omega)) rfl (pa_cons (pe_ix ix_tup (pv 0) pe_int (fun _ _ => rfl)) pa_nil))))) pss_nil)
  (pss_cons (ps_if (pt_cmpR op_eq (pe_ix ix_tup (pv 0) pe_int (fun _ _ => rfl)) pe_str (nomark _)) (pss_one (ps_ret (pe_op op_add_str (pe_op op_add_str (pe_op op_add_str pe_str (pe_callTy call_str_int (by rfl) T.b_str (by decide +kernel) (pa_cons (pe_ix ix_tup (pv 0) pe_int (fun _ _ => rfl)) pa_nil))) pe_str) (pe_cal C__law_written (hr.mono (by omega)) rfl (pa_cons (pe_ix ix_tup (pv 0) pe_int (fun _ _ => rfl)) pa_nil))))) pss_nil)
  (pss_one (ps_ret (pe_op op_add_str (pe_op op_add_str (pe_ix ix_tup (pv 0) pe_int (fun _ _ => rfl)) pe_str) (pe_cal C__law_written (hr.mono (by omega)) rfl (pa_cons (pe_ix ix_tup (pv 0) pe_int (fun _ _ => rfl)) pa_nil))))))))), ?_⟩
  cases pl with
  | take n =>
    refine ⟨_, rfl, p, _, 0, _, rfl, rfl, SqT.of hp, at_pos (by decide) rfl, rfl, _, rfl, ifT (by decide +kernel) ?_⟩
    exact ⟨_, rfl, p, _, 1, _, rfl, rfl, SqT.of hp, at_pos (by decide) rfl, q⟩
  | join x y =>
    obtain ⟨pa, pb, ho, ha, hb⟩ := hp
    simp only [Plan.height] at hh
    simp only [Plan.count] at hc
    have l1 := fmt_len hg.1
    have l2 := fmt_len hg.2
    refine ⟨_, rfl, p, _, 0, _, rfl, rfl, SqT.of ho, at_pos (by decide) rfl, rfl, _, rfl, ifF (by decide +kernel) ?_⟩
    refine ⟨_, rfl, p, _, 0, _, rfl, rfl, SqT.of ho, at_pos (by decide) rfl, rfl, _, rfl, ifT (by decide +kernel) ?_⟩
    refine ⟨_, rfl, p, _, 1, _, rfl, rfl, SqT.of ho, at_pos (by decide) rfl, x, pa, rfl, ha, hg.1, by omega, by omega, ?_⟩
    refine ⟨_, _, rfl, rfl, line_ge (by rw [len_lp, slen]; omega), _, _, rfl, rfl, line_ge (by rw [sapp, len_lp, len_plus, slen]; omega), ?_⟩
    refine ⟨_, rfl, p, _, 2, _, rfl, rfl, SqT.of ho, at_pos (by decide) rfl, y, pb, rfl, hb, hg.2, by omega, by omega, ?_⟩
    refine ⟨_, _, rfl, rfl, line_ge (by rw [sapp, sapp, len_lp, len_plus, slen, slen]; omega), _, _, rfl, rfl, line_ge (by rw [sapp, sapp, sapp, len_lp, len_plus, len_rp, slen, slen]; omega), ?_⟩
    show Q (.str (("(" : Str) ++ S (fmt x) ++ (" + " : Str) ++ S (fmt y) ++ (")" : Str))) H
    rw [fmt_join]
    exact q
  | scale m n x =>
    obtain ⟨pa, ho, ha⟩ := hp
    simp only [Plan.height] at hh
    simp only [Plan.count] at hc
    have l1 := fmt_len hg.2.2
    have lm := num_len hg.1.2
    have ln := num_len hg.2.1.2
    refine ⟨_, rfl, p, _, 0, _, rfl, rfl, SqT.of ho, at_pos (by decide) rfl, rfl, _, rfl, ifF (by decide +kernel) ?_⟩
    refine ⟨_, rfl, p, _, 0, _, rfl, rfl, SqT.of ho, at_pos (by decide) rfl, rfl, _, rfl, ifF (by decide +kernel) ?_⟩
    refine ⟨_, rfl, p, _, 0, _, rfl, rfl, SqT.of ho, at_pos (by decide) rfl, rfl, _, rfl, ifT (by decide +kernel) ?_⟩
    refine ⟨_, rfl, p, _, 1, _, rfl, rfl, SqT.of ho, at_pos (by decide) rfl, _, rfl, log_ok hg.1.2, _, _, rfl, rfl, line_ge (by rw [len_slash]; omega), ?_⟩
    refine ⟨_, rfl, p, _, 2, _, rfl, rfl, SqT.of ho, at_pos (by decide) rfl, _, rfl, log_ok hg.2.1.2, _, _, rfl, rfl, line_ge (by rw [sapp, len_slash]; omega), ?_⟩
    refine ⟨_, _, rfl, rfl, line_ge (by rw [sapp, sapp, len_slash, len_star]; omega), ?_⟩
    refine ⟨_, rfl, p, _, 3, _, rfl, rfl, SqT.of ho, at_pos (by decide) rfl, x, pa, rfl, ha, hg.2.2, by omega, by omega, ?_⟩
    refine ⟨_, _, rfl, rfl, line_ge (by rw [sapp, sapp, sapp, len_slash, len_star, slen (fmt x)]; omega), ?_⟩
    show Q (.str ((Str.ofString (toString (m : Int))) ++ ("/" : Str) ++ (Str.ofString (toString (n : Int))) ++ (" * " : Str) ++ S (fmt x))) H
    rw [fmt_scale]
    exact q
  | spare x =>
    obtain ⟨pa, ho, ha⟩ := hp
    simp only [Plan.height] at hh
    simp only [Plan.count] at hc
    have l1 := fmt_len (a := x) hg
    refine ⟨_, rfl, p, _, 0, _, rfl, rfl, SqT.of ho, at_pos (by decide) rfl, rfl, _, rfl, ifF (by decide +kernel) ?_⟩
    refine ⟨_, rfl, p, _, 0, _, rfl, rfl, SqT.of ho, at_pos (by decide) rfl, rfl, _, rfl, ifF (by decide +kernel) ?_⟩
    refine ⟨_, rfl, p, _, 0, _, rfl, rfl, SqT.of ho, at_pos (by decide) rfl, rfl, _, rfl, ifF (by decide +kernel) ?_⟩
    refine ⟨_, rfl, p, _, 0, _, rfl, rfl, SqT.of ho, at_pos (by decide) rfl, rfl, _, rfl, ifF (by decide +kernel) ?_⟩
    refine ⟨_, rfl, p, _, 0, _, rfl, rfl, SqT.of ho, at_pos (by decide) rfl, _, _, rfl, rfl, line_ge (by rw [len_spare, len_blank]; omega), ?_⟩
    refine ⟨_, rfl, p, _, 1, _, rfl, rfl, SqT.of ho, at_pos (by decide) rfl, x, pa, rfl, ha, hg, by omega, by omega, ?_⟩
    refine ⟨_, _, rfl, rfl, line_ge (by rw [sapp, len_spare, len_blank, slen]; omega), ?_⟩
    show Q (.str (("spare" : Str) ++ (" " : Str) ++ S (fmt x))) H
    rw [fmt_spare]
    exact q
  | base x =>
    obtain ⟨pa, ho, ha⟩ := hp
    simp only [Plan.height] at hh
    simp only [Plan.count] at hc
    have l1 := fmt_len (a := x) hg
    refine ⟨_, rfl, p, _, 0, _, rfl, rfl, SqT.of ho, at_pos (by decide) rfl, rfl, _, rfl, ifF (by decide +kernel) ?_⟩
    refine ⟨_, rfl, p, _, 0, _, rfl, rfl, SqT.of ho, at_pos (by decide) rfl, rfl, _, rfl, ifF (by decide +kernel) ?_⟩
    refine ⟨_, rfl, p, _, 0, _, rfl, rfl, SqT.of ho, at_pos (by decide) rfl, rfl, _, rfl, ifF (by decide +kernel) ?_⟩
    refine ⟨_, rfl, p, _, 0, _, rfl, rfl, SqT.of ho, at_pos (by decide) rfl, rfl, _, rfl, ifF (by decide +kernel) ?_⟩
    refine ⟨_, rfl, p, _, 0, _, rfl, rfl, SqT.of ho, at_pos (by decide) rfl, _, _, rfl, rfl, line_ge (by rw [len_base, len_blank]; omega), ?_⟩
    refine ⟨_, rfl, p, _, 1, _, rfl, rfl, SqT.of ho, at_pos (by decide) rfl, x, pa, rfl, ha, hg, by omega, by omega, ?_⟩
    refine ⟨_, _, rfl, rfl, line_ge (by rw [sapp, len_base, len_blank, slen]; omega), ?_⟩
    show Q (.str (("base" : Str) ++ (" " : Str) ++ S (fmt x))) H
    rw [fmt_base]
    exact q
  | thin k x =>
    obtain ⟨pa, ho, ha⟩ := hp
    simp only [Plan.height] at hh
    simp only [Plan.count] at hc
    have l1 := fmt_len hg.2
    have hk : k ≤ 999 := by have := hg.1.2; omega
    have lk := num_len hk
    refine ⟨_, rfl, p, _, 0, _, rfl, rfl, SqT.of ho, at_pos (by decide) rfl, rfl, _, rfl, ifF (by decide +kernel) ?_⟩
    refine ⟨_, rfl, p, _, 0, _, rfl, rfl, SqT.of ho, at_pos (by decide) rfl, rfl, _, rfl, ifF (by decide +kernel) ?_⟩
    refine ⟨_, rfl, p, _, 0, _, rfl, rfl, SqT.of ho, at_pos (by decide) rfl, rfl, _, rfl, ifF (by decide +kernel) ?_⟩
    refine ⟨_, rfl, p, _, 0, _, rfl, rfl, SqT.of ho, at_pos (by decide) rfl, rfl, _, rfl, ifT (by decide +kernel) ?_⟩
    refine ⟨_, rfl, p, _, 1, _, rfl, rfl, SqT.of ho, at_pos (by decide) rfl, _, rfl, log_ok hk, _, _, rfl, rfl, line_ge (by rw [len_thin_]; omega), ?_⟩
    refine ⟨_, _, rfl, rfl, line_ge (by rw [sapp, len_thin_, len_blank]; omega), ?_⟩
    refine ⟨_, rfl, p, _, 2, _, rfl, rfl, SqT.of ho, at_pos (by decide) rfl, x, pa, rfl, ha, hg.2, by omega, by omega, ?_⟩
    refine ⟨_, _, rfl, rfl, line_ge (by rw [sapp, sapp, len_thin_, len_blank, slen (fmt x)]; omega), ?_⟩
    show Q (.str (("thin " : Str) ++ (Str.ofString (toString (k : Int))) ++ (" " : Str) ++ S (fmt x))) H
    rw [fmt_thin]
    exact q
theorem all_format (T : Txt mg) (F : Fun K "format_plan" "format_plan" s_format_plan f fd) (m : mg "format_plan" = some (.ref f)) (b : Binds K fd ["plan"] []) : ∀ h : Nat, Cal P w K mg base h "format_plan" ["plan"] (spFmt h)
  | 0 => ⟨f, fd, none_fmt rfl, m, F.kp, b⟩
  | h + 1 => ⟨f, fd, ok_format_plan F T (all_format T F m b h), m, F.kp, b⟩
theorem all_written (T : Txt mg) (F : Fun K "_law_written" "_law_written" s__law_written f fd) (m : mg "_law_written" = some (.ref f)) (b : Binds K fd ["plan"] []) : ∀ h : Nat, Cal P w K mg base h "_law_written" ["plan"] (spFmt h)
  | 0 => ⟨f, fd, none_fmt rfl, m, F.kp, b⟩
  | h + 1 => ⟨f, fd, ok__law_written F T (all_written T F m b h), m, F.kp, b⟩
end
end P65
namespace P65
open PySem PySem.Spec PyProof.Rows L2 SX
theorem kit1 {K : PySem.W.Frag} : PySem.W.kitOne K (.type "int") (.type "int") = some true := kit_ty (by decide +kernel)
theorem kit2 {K : PySem.W.Frag} : PySem.W.kitOne K (.type "int") (.type "bool") = some false := kit_ty (by decide +kernel)
theorem kit3 {K : PySem.W.Frag} : PySem.W.kitOne K (.type "str") (.type "str") = some true := kit_ty (by decide +kernel)
theorem kit4 {K : PySem.W.Frag} : PySem.W.kitOne K (.type "int") (.type "str") = some false := kit_ty (by decide +kernel)
theorem kit5 {K : PySem.W.Frag} : PySem.W.kitOne K (.type "tuple") (.type "str") = some false := kit_ty (by decide +kernel)
theorem kit6 {K : PySem.W.Frag} : PySem.W.kitOne K (.type "tuple") (.type "tuple") = some true := kit_ty (by decide +kernel)
theorem kit7 {K : PySem.W.Frag} : PySem.W.kitOne K (.type "int") (.type "tuple") = some false := kit_ty (by decide +kernel)
def spLaw_whole : Sp := fun vs H Q _ => ∃ i : Int, vs = [.int i] ∧ Q (.bl true) H
abbrev s__law_whole : Stmt := top 25
abbrev N__law_whole : List Str := ["value"]
theorem sc__law_whole : FnScope N__law_whole ["value"] (defScope s__law_whole) := ⟨rfl, rfl, rfl, by decide +kernel, rfl, by decide +kernel, by decide +kernel⟩
/-- told and due are the same data, at most n deep -/
inductive SameD (H : Hp) : Nat → V → V → Prop where
  | str (n : Nat) (x : Str) : SameD H n (.str x) (.str x)
  | int (n : Nat) (i : Int) : SameD H n (.int i) (.int i)
  | tup (n : Nat) (p q : Addr) (xs ys : List V) (hp : H p = some (.tup xs)) (hq : H q = some (.tup ys)) (hl : xs.length = ys.length) (h9 : xs.length ≤ 100)
      (h : ∀ (i : Nat) (x y : V), xs[i]? = some x → ys[i]? = some y → SameD H n x y) : SameD H (n + 1) (.ref p) (.ref q)
theorem SameD.same {H H' : Hp} (e : Same H H') {n : Nat} {x y : V} (h : SameD H n x y) : SameD H' n x y := by
  induction h with
  | str n x => exact .str n x
  | int n i => exact .int n i
  | tup n p q xs ys hp hq hl h9 h ih => exact .tup n p q xs ys (e _ _ hp) (e _ _ hq) hl h9 ih
theorem two_items {H : Hp} {n : Nat} {a b c d : V} (h1 : SameD H n a c) (h2 : SameD H n b d) : ∀ (i : Nat) (x y : V), [a, b][i]? = some x → [c, d][i]? = some y → SameD H n x y
  | 0, _, _, e1, e2 => by cases e1; cases e2; exact h1
  | 1, _, _, e1, e2 => by cases e1; cases e2; exact h2
  | i + 2, _, _, e1, _ => by simp at e1
theorem three_items {H : Hp} {n : Nat} {a b c d e f : V} (h1 : SameD H n a d) (h2 : SameD H n b e) (h3 : SameD H n c f) : ∀ (i : Nat) (x y : V), [a, b, c][i]? = some x → [d, e, f][i]? = some y → SameD H n x y
  | 0, _, _, e1, e2 => by cases e1; cases e2; exact h1
  | 1, _, _, e1, e2 => by cases e1; cases e2; exact h2
  | 2, _, _, e1, e2 => by cases e1; cases e2; exact h3
  | i + 3, _, _, e1, _ => by simp at e1
theorem four_items {H : Hp} {n : Nat} {a b c d a' b' c' d' : V} (h1 : SameD H n a a') (h2 : SameD H n b b') (h3 : SameD H n c c') (h4 : SameD H n d d') : ∀ (i : Nat) (x y : V), [a, b, c, d][i]? = some x → [a', b', c', d'][i]? = some y → SameD H n x y
  | 0, _, _, e1, e2 => by cases e1; cases e2; exact h1
  | 1, _, _, e1, e2 => by cases e1; cases e2; exact h2
  | 2, _, _, e1, e2 => by cases e1; cases e2; exact h3
  | 3, _, _, e1, e2 => by cases e1; cases e2; exact h4
  | i + 4, _, _, e1, _ => by simp at e1
/-- two plans that are one -/
theorem PlanAt.sameD {H : Hp} : ∀ {n : Nat} {pl : Plan} {p q : Addr}, pl.height ≤ n → PlanAt H pl p → PlanAt H pl q → SameD H n (.ref p) (.ref q)
  | 0, pl, p, q, h, _, _ => by have := height_pos pl; omega
  | n + 1, .take x, p, q, h, hp, hq => .tup n p q _ _ hp hq rfl (by simp) (two_items (.str n _) (.str n _))
  | n + 1, .join a b, p, q, h, ⟨pa, pb, hp, ha, hb⟩, ⟨qa, qb, hq, ha', hb'⟩ => by
    simp only [Plan.height] at h
    exact .tup n p q _ _ hp hq rfl (by simp) (three_items (.str n _) (PlanAt.sameD (by omega) ha ha') (PlanAt.sameD (by omega) hb hb'))
  | n + 1, .scale i j a, p, q, h, ⟨pa, hp, ha⟩, ⟨qa, hq, ha'⟩ => by
    simp only [Plan.height] at h
    exact .tup n p q _ _ hp hq rfl (by simp) (four_items (.str n _) (.int n _) (.int n _) (PlanAt.sameD (by omega) ha ha'))
  | n + 1, .spare a, p, q, h, ⟨pa, hp, ha⟩, ⟨qa, hq, ha'⟩ => by
    simp only [Plan.height] at h
    exact .tup n p q _ _ hp hq rfl (by simp) (two_items (.str n _) (PlanAt.sameD (by omega) ha ha'))
  | n + 1, .base a, p, q, h, ⟨pa, hp, ha⟩, ⟨qa, hq, ha'⟩ => by
    simp only [Plan.height] at h
    exact .tup n p q _ _ hp hq rfl (by simp) (two_items (.str n _) (PlanAt.sameD (by omega) ha ha'))
  | n + 1, .thin k a, p, q, h, ⟨pa, hp, ha⟩, ⟨qa, hq, ha'⟩ => by
    simp only [Plan.height] at h
    exact .tup n p q _ _ hp hq rfl (by simp) (three_items (.str n _) (.int n _) (PlanAt.sameD (by omega) ha ha'))
def spSame (n : Nat) : Sp := fun vs H Q _ => ∃ told due : V, vs = [told, due] ∧ SameD H n told due ∧ ∀ H', Same H H' → Q (.bl true) H'
abbrev s__law_same : Stmt := top 28
abbrev N__law_same : List Str := ["told", "due", "k"]
theorem sc__law_same : FnScope N__law_same ["told", "due"] (defScope s__law_same) := ⟨rfl, rfl, rfl, by decide +kernel, rfl, by decide +kernel, by decide +kernel⟩
section
variable {P : Program} {w : World} {K : PySem.W.Frag} {mg : Str → Option Value} {base : Heap} {f : Addr} {fd : FuncData}
theorem ok__law_whole (F : Fun K "_law_whole" "_law_whole" s__law_whole f fd) (T : Txt mg) : FnOk P w K mg base CX0 1 f fd ["value"] spLaw_whole := by
  refine F.ok sc__law_whole (fun vs H Q E h => ?_) (fun cdv A outer s H vs Q E hr h => ?_)
  · obtain ⟨i, rfl, _⟩ := h
    rfl
  obtain ⟨i, rfl, q⟩ := h
  refine ⟨_, (pss_one (ps_ret (pe_and (pe_callB call_isi (by rfl) T.b_isinstance (by decide +kernel) (pa_cons (pv 0) (pa_cons (pe_bltn (v := .ty "int") (by rfl) T.b_int (by decide +kernel) rfl) pa_nil))) (pe_one (pe_not (pe_callB call_isi (by rfl) T.b_isinstance (by decide +kernel) (pa_cons (pv 0) (pa_cons (pe_bltn (v := .ty "bool") (by rfl) T.b_bool (by decide +kernel) rfl) pa_nil)))))))), ?_⟩
  refine ⟨_, rfl, _, _, _, _, true, rfl, .ty _, .base (.int i), kit1, true, rfl, ifT rfl ?_⟩
  exact ⟨_, rfl, _, _, _, _, false, rfl, .ty _, .base (.int i), kit2, false, rfl, q⟩
def spSub (n : Nat) : Sp := fun vs H Q E => ∃ m, n = m + 1 ∧ spSame m vs H Q E
theorem ok__law_same {n : Nat} (F : Fun K "_law_same" "_law_same" s__law_same f fd) (T : Txt mg) (C__law_whole : Cal P w K mg base 1 "_law_whole" ["value"] spLaw_whole)
    (C__law_same : Cal P w K mg base (n + 1) "_law_same" ["told", "due"] (spSub n)) : FnOk P w K mg base CX0 (n + 2) f fd ["told", "due"] (spSame n) := by
  refine F.ok sc__law_same (fun vs H Q E h => ?_) (fun cdv A outer s H vs Q E hr h => ?_)
  · obtain ⟨told, due, rfl, _⟩ := h
    rfl
  obtain ⟨told, due, rfl, hs, q⟩ := h
  refine ⟨_, (pss_cons (ps_if (pt_val (pe_callB call_isi (by rfl) T.b_isinstance (by decide +kernel) (pa_cons (pv 1) (pa_cons (pe_bltn (v := .ty "str") (by rfl) T.b_str (by decide +kernel) rfl) pa_nil)))) (pss_one (ps_ret (pe_and (pe_callB call_isi (by rfl) T.b_isinstance (by decide +kernel) (pa_cons (pv 0) (pa_cons (pe_bltn (v := .ty "str") (by rfl) T.b_str (by decide +kernel) rfl) pa_nil))) (pe_one (pe_cmpR op_eq (pv 0) (pv 1) (nomark _)))))) pss_nil)
  (pss_cons (ps_if (pt_not (pt_val (pe_callB call_isi (by rfl) T.b_isinstance (by decide +kernel) (pa_cons (pv 1) (pa_cons (pe_bltn (v := .ty "tuple") (by rfl) T.b_tuple (by decide +kernel) rfl) pa_nil))))) (pss_one (ps_ret (pe_and (pe_cal C__law_whole (hr.mono (by omega)) rfl (pa_cons (pv 0) pa_nil)) (pe_one (pe_cmpR op_eq (pv 0) (pv 1) (nomark _)))))) pss_nil)
  (pss_cons (ps_if (PW.pt (pw_or (pt_not (pt_val (pe_callB call_isi (by rfl) T.b_isinstance (by decide +kernel) (pa_cons (pv 0) (pa_cons (pe_bltn (v := .ty "tuple") (by rfl) T.b_tuple (by decide +kernel) rfl) pa_nil))))) (pw_or1 (pt_cmpR op_ne (pe_callB call_len_seq (by rfl) T.b_len PySem.boot_len (pa_cons (pv 0) pa_nil)) (pe_callB call_len_seq (by rfl) T.b_len PySem.boot_len (pa_cons (pv 1) pa_nil)) (nomark _))))) (pss_one (ps_ret pe_bl)) pss_nil)
  (pss_one (ps_ret (pe_callB (cr_all rfl) (by rfl) T.b_all (by decide +kernel) (pa_cons (pe_lc (own := [("k", 2)]) (g := gName 2) (tt := tYes) (by rfl) sc__law_same.nd (pi_range1 (by rfl) T.b_range (pa_cons (pe_callB call_len_seq (by rfl) T.b_len PySem.boot_len (pa_cons (pv 1) pa_nil)) pa_nil)) (blkOk_by (N := N__law_same) (sc := defScope s__law_same) (by decide +kernel)) (fun _ _ _ _ _ => pg_name (i := 2) sc__law_same.nd rfl (Or.inl rfl)) (fun _ _ _ _ _ => pts_nil) (fun _ _ _ _ _ => (pe_cal C__law_same (hr.mono (by omega)) rfl (pa_cons (pe_ix (ix_tupK (K := K) rfl) (pv 0) (pv 2) (fun _ _ => rfl)) (pa_cons (pe_ix (ix_tupK (K := K) rfl) (pv 1) (pv 2) (fun _ _ => rfl)) pa_nil))))) pa_nil))))))), ?_⟩
  cases hs with
  | str _ x =>
    refine ⟨_, rfl, _, _, _, _, true, rfl, .ty _, .base (.str x), kit3, true, rfl, ifT rfl ?_⟩
    refine ⟨_, rfl, _, _, _, _, true, rfl, .ty _, .base (.str x), kit3, true, rfl, ifT rfl ?_⟩
    refine ⟨_, rfl, _, rfl, rfl, ?_⟩
    rw [decide_eq_true rfl]
    exact q H (Same.refl H)
  | int _ i =>
    refine ⟨_, rfl, _, _, _, _, false, rfl, .ty _, .base (.int i), kit4, false, rfl, ifF rfl ?_⟩
    refine ⟨_, rfl, _, _, _, _, false, rfl, .ty _, .base (.int i), kit7, false, rfl, ifT rfl ?_⟩
    refine ⟨_, rfl, i, rfl, true, rfl, ifT rfl ?_⟩
    refine ⟨_, rfl, _, rfl, rfl, ?_⟩
    rw [decide_eq_true rfl]
    exact q H (Same.refl H)
  | tup m p r xs ys hp hq hl h9 hi =>
    refine ⟨_, rfl, _, _, _, _, false, rfl, .ty _, .base (.tup hq), kit5, false, rfl, ifF rfl ?_⟩
    refine ⟨_, rfl, _, _, _, _, true, rfl, .ty _, .base (.tup hq), kit6, true, rfl, ifF rfl ?_⟩
    refine ⟨_, rfl, _, _, _, _, true, rfl, .ty _, .base (.tup hp), kit6, true, rfl, ifF rfl ?_⟩
    refine ⟨_, rfl, p, xs, rfl, .inr (SqT.of hp), _, rfl, r, ys, rfl, .inr (SqT.of hq), rfl, _, rfl, ifF (by rw [hl, decide_eq_true rfl]; rfl) ?_⟩
    refine ⟨_, rfl, r, ys, rfl, .inr (SqT.of hq), _, rfl, by omega, by omega, fun D hD => ?_⟩
    refine lc_range (lo := 0) (n := ys.length) (fun i H' => Same H H' ∧ H' D = some (.lst (List.replicate i (V.bl true)))) ⟨same_new hD _, upd_same⟩ ?_ ?_
    · rintro i H1 hlt ⟨g1, hd1⟩
      refine ⟨rfl, lc_yes ?_⟩
      obtain ⟨x, hx⟩ : ∃ x, xs[i]? = some x := ⟨xs[i]'(by omega), List.getElem?_eq_getElem (by omega)⟩
      obtain ⟨y, hy⟩ : ∃ y, ys[i]? = some y := ⟨ys[i], List.getElem?_eq_getElem (by omega)⟩
      have ei : ((0 : Int) + (i : Nat)).toNat = i := by omega
      refine ⟨_, rfl, _, rfl, p, xs, _, x, rfl, rfl, SqT.of (g1 _ _ hp), at_pos (by omega) (by rw [ei]; exact hx), ?_⟩
      refine ⟨_, rfl, _, rfl, r, ys, _, y, rfl, rfl, SqT.of (g1 _ _ hq), at_pos (by omega) (by rw [ei]; exact hy), ?_⟩
      refine ⟨m, rfl, x, y, rfl, (hi i x y hx hy).same g1, fun H2 g2 => ?_⟩
      refine ⟨_, g2 _ _ hd1, by rw [List.length_replicate]; exact small1000 (by omega), ?_, ?_⟩
      · intro b o hb
        have hne : b ≠ D := fun e => by
          rw [e, hD] at hb
          cases hb
        rw [upd_ne hne]
        exact g2 _ _ (g1 _ _ hb)
      · rw [upd_same, List.replicate_succ']
    · rintro H1 ⟨g1, hd1⟩
      refine ⟨D, List.replicate ys.length true, rfl, SqL.of (by rw [hd1, List.map_replicate]), ?_⟩
      have ha : (List.replicate ys.length true).all id = true := by
        rw [List.all_eq_true]
        intro x hx
        rw [List.eq_of_mem_replicate hx]
        rfl
      rw [ha]
      exact q H1 g1
theorem all_same (T : Txt mg) (F : Fun K "_law_same" "_law_same" s__law_same f fd) (m : mg "_law_same" = some (.ref f)) (b : Binds K fd ["told", "due"] []) (C__law_whole : Cal P w K mg base 1 "_law_whole" ["value"] spLaw_whole) :
    ∀ n : Nat, Cal P w K mg base (n + 2) "_law_same" ["told", "due"] (spSame n)
  | 0 => by
    have no : ∀ vs H Q E, ¬ spSub 0 vs H Q E := fun vs H Q E ⟨k, e, _⟩ => by omega
    exact ⟨f, fd, ok__law_same F T C__law_whole ⟨f, fd, ⟨fun vs H Q E h => absurd h (no vs H Q E), fun A outer s H args us vs Q E _ _ _ _ h => absurd h (no vs H Q E)⟩, m, F.kp, b⟩, m, F.kp, b⟩
  | n + 1 => by
    obtain ⟨f', fd', G, m', kp', b'⟩ := all_same T F m b C__law_whole n
    exact ⟨f, fd, ok__law_same F T C__law_whole ⟨f', fd', G.imp (fun vs H Q E ⟨k, e, h⟩ => by
      have : n = k := by omega
      subst this
      exact h), m', kp', b'⟩, m, F.kp, b⟩
/-! ### _law_is_text, _law_parsed -/
def spIsText : Sp := fun vs H Q _ => ∃ x : Str, vs = [.str x, .str x] ∧ Q (.bl true) H
abbrev s__law_is_text : Stmt := top 32
abbrev N__law_is_text : List Str := ["told", "text"]
theorem sc__law_is_text : FnScope N__law_is_text ["told", "text"] (defScope s__law_is_text) := ⟨rfl, rfl, rfl, by decide +kernel, rfl, by decide +kernel, by decide +kernel⟩
theorem ok__law_is_text (F : Fun K "_law_is_text" "_law_is_text" s__law_is_text f fd) (T : Txt mg) : FnOk P w K mg base CX0 1 f fd ["told", "text"] spIsText := by
  refine F.ok sc__law_is_text (fun vs H Q E h => ?_) (fun cdv A outer s H vs Q E hr h => ?_)
  · obtain ⟨x, rfl, _⟩ := h
    rfl
  obtain ⟨x, rfl, q⟩ := h
  refine ⟨_, (pss_one (ps_ret (pe_and (pe_callB call_isi (by rfl) T.b_isinstance (by decide +kernel) (pa_cons (pv 0) (pa_cons (pe_bltn (v := .ty "str") (by rfl) T.b_str (by decide +kernel) rfl) pa_nil))) (pe_one (pe_cmpR op_eq (pv 0) (pv 1) (nomark _)))))), ?_⟩
  refine ⟨_, rfl, _, _, _, _, true, rfl, .ty _, .base (.str x), kit3, true, rfl, ifT rfl ?_⟩
  refine ⟨_, rfl, _, rfl, rfl, ?_⟩
  rw [decide_eq_true rfl]
  exact q
abbrev s__law_parsed : Stmt := top 33
abbrev N__law_parsed : List Str := ["text"]
theorem sc__law_parsed : FnScope N__law_parsed ["text"] (defScope s__law_parsed) := ⟨rfl, rfl, rfl, by decide +kernel, rfl, by decide +kernel, by decide +kernel⟩
theorem ok__law_parsed (F : Fun K "_law_parsed" "_law_parsed" s__law_parsed f fd) (T : Txt mg) (C_parse_plan : Cal P w K mg base 41 "parse_plan" ["text"] spParse) : FnOk P w K mg base CX0 42 f fd ["text"] spParse := by
  refine F.ok sc__law_parsed (fun vs H Q E h => ?_) (fun cdv A outer s H vs Q E hr h => ?_)
  · obtain ⟨pl, rfl, _⟩ := h
    rfl
  obtain ⟨pl, rfl, hg, hh, hc, q⟩ := h
  refine ⟨_, (pss_one (ps_try_thru0 (pss_one (ps_ret (pe_cal C_parse_plan (hr.mono (by omega)) rfl (pa_cons (pv 0) pa_nil)))))), ?_⟩
  exact ⟨_, rfl, pl, rfl, hg, hh, hc, q⟩
end
end P65
namespace P65
open PySem PySem.Spec PyProof.Rows L2 SX
/-! ### _law_cell: some int -/
def spCell (K : PySem.W.Frag) : Sp := fun vs H Q _ => ∃ (a : Addr) (ns : List Int) (k : Int), vs = [.ref a, .int k] ∧ SqL K H a (ns.map V.int) ∧ 0 ≤ k ∧ k ≤ 1000 ∧ ∀ i : Int, Q (.int i) H
abbrev s__law_cell : Stmt := top 26
abbrev N__law_cell : List Str := ["script", "k", "seed", "cell"]
theorem sc__law_cell : FnScope N__law_cell ["script", "k"] (defScope s__law_cell) := ⟨rfl, rfl, rfl, by decide +kernel, rfl, by decide +kernel, by decide +kernel⟩
/-- digits: each is below its size -/
abbrev Dig (ns zs : List Int) : Prop := Paired (fun n z => 0 ≤ n ∧ n < z) ns zs
theorem Dig.snoc : ∀ {ns zs : List Int} {n z : Int}, Dig ns zs → 0 ≤ n → n < z → Dig (ns ++ [n]) (zs ++ [z])
  | _, _, _, _, .nil, h1, h2 => .cons ⟨h1, h2⟩ .nil
  | _, _, _, _, .cons r t, h1, h2 => .cons r (Dig.snoc t h1 h2)
theorem Dig.get : ∀ {ns zs : List Int} {i : Nat} {z : Int}, Dig ns zs → zs[i]? = some z → ∃ n, ns[i]? = some n ∧ 0 ≤ n ∧ n < z
  | _, _, _, _, .nil, e => by simp at e
  | _, _, 0, _, .cons r _, e => by cases e; exact ⟨_, rfl, r.1, r.2⟩
  | _, _, i + 1, z, .cons _ t, e => by
    obtain ⟨n, h1, h2⟩ := Dig.get (i := i) (z := z) t (by simpa using e)
    exact ⟨n, by simpa using h1, h2⟩
theorem Dig.len {ns zs : List Int} (d : Dig ns zs) : ns.length = zs.length := Paired.length d
theorem take_snoc {α : Type} {l : List α} {i : Nat} {x : α} (h : l[i]? = some x) : l.take (i + 1) = l.take i ++ [x] := by
  rw [List.take_add_one, h]
  rfl
theorem map_int {ns : List Int} {i : Nat} {x : V} (h : (ns.map V.int)[i]? = some x) : ∃ z, ns[i]? = some z ∧ x = .int z := by
  rw [List.getElem?_map] at h
  cases e : ns[i]? with
  | none => rw [e] at h; cases h
  | some z => rw [e] at h; exact ⟨z, rfl, (Option.some.inj h).symm⟩
theorem int_at {ns : List Int} {i : Nat} {z : Int} (h : ns[i]? = some z) : (ns.map V.int)[i]? = some (.int z) := by
  rw [List.getElem?_map, h]
  rfl
theorem snoc_int (ns : List Int) (n : Int) : ns.map V.int ++ [V.int n] = (ns ++ [n]).map V.int := by
  rw [List.map_append]
  rfl
/-! ### _law_digits: one digit for each size -/
def spDigits (K : PySem.W.Frag) : Sp := fun vs H Q _ => ∃ (c : Int) (a : Addr) (zs : List Int), vs = [.int c, .ref a] ∧ SqL K H a (zs.map V.int) ∧ zs.length ≤ 1000 ∧ (∀ z ∈ zs, 0 < z ∧ z.natAbs < 2 ^ 2000) ∧
  ∀ p ns, H p = none → Dig ns zs → Q (.ref p) (upd H p (.lst (ns.map V.int)))
abbrev s__law_digits : Stmt := top 27
abbrev N__law_digits : List Str := ["cell", "sizes", "row", "rest", "size", "seed", "k", "twice"]
theorem sc__law_digits : FnScope N__law_digits ["cell", "sizes"] (defScope s__law_digits) := ⟨rfl, rfl, rfl, by decide +kernel, rfl, by decide +kernel, by decide +kernel⟩
section
variable {P : Program} {w : World} {K : PySem.W.Frag} {mg : Str → Option Value} {base : Heap} {f : Addr} {fd : FuncData}
theorem ok__law_cell (F : Fun K "_law_cell" "_law_cell" s__law_cell f fd) (T : Txt mg) : FnOk P w K mg base CX0 1 f fd ["script", "k"] (spCell K) := by
  refine F.ok sc__law_cell (fun vs H Q E h => ?_) (fun cdv A outer s H vs Q E hr h => ?_)
  · obtain ⟨a, ns, k, rfl, _⟩ := h
    rfl
  obtain ⟨a, ns, k, rfl, hs, h0, h1, q⟩ := h
  refine ⟨_, (pss_cons (ps_if (pt_cmpR op_lt (pv 1) (pe_callB call_len_seq (by rfl) T.b_len PySem.boot_len (pa_cons (pv 0) pa_nil)) (nomark _)) (pss_one (ps_ret (pe_ix ix_list (pv 0) (pv 1) (fun _ _ => rfl)))) pss_nil)
  (pss_cons (ps_set (i := 2) sc__law_cell.nd rfl (Or.inl rfl) pe_int)
  (pss_cons (ps_for PassesOwn.never rfl (pi_list (pv 0)) (pg_name (i := 3) sc__law_cell.nd rfl (Or.inl rfl)) (pss_one (ps_set (i := 2) sc__law_cell.nd rfl (Or.inl rfl) (pe_op op_mod (pe_callTy call_int1 (by rfl) T.b_int (by decide +kernel) (pa_cons (pe_op op_add (pe_op op_mul (pv 2) pe_int) (pe_op op_mod (pe_callTy call_int1 (by rfl) T.b_int (by decide +kernel) (pa_cons (pv 3) pa_nil)) pe_int)) pa_nil)) pe_int))))
  (pss_one (ps_ret (pe_op op_mod (pe_callTy call_int1 (by rfl) T.b_int (by decide +kernel) (pa_cons (pe_op op_mul (pe_op op_mul (pe_op op_add (pv 2) pe_int) (pe_op op_add (pv 1) pe_int)) pe_int) pa_nil)) pe_int)))))), ?_⟩
  refine ⟨_, rfl, _, rfl, a, _, rfl, .inl hs, _, _, rfl, rfl, _, rfl, ?_⟩
  refine ite2 (fun c => ?_) (fun c => ?_)
  · have c' : k < (((ns.map V.int).length : Nat) : Int) := of_decide_eq_true c
    rw [List.length_map] at c'
    obtain ⟨z, hz⟩ : ∃ z, ns[k.toNat]? = some z := ⟨ns[k.toNat]'(by omega), List.getElem?_eq_getElem (by omega)⟩
    exact ⟨_, rfl, _, rfl, a, _, k, _, rfl, rfl, hs, at_pos h0 (int_at hz), q z⟩
  · refine ⟨_, rfl, a, rfl, ⟨_, hs⟩, for_list (K := K) (a := a) (xs := ns.map V.int) (fun i σ H' => ∃ (z : Int) (v : Option V), σ = [some (.ref a), some (.int k), some (.int z), v] ∧ H' = H)
      ⟨17, none, rfl, rfl⟩ (fun i σ H' _ ⟨_, _, _, e⟩ => by rw [e]; exact hs) ?_ ?_⟩
    · rintro i y σ H' hi ⟨z, v, rfl, rfl⟩
      obtain ⟨x, hx, rfl⟩ := map_int hi
      refine ⟨_, rfl, _, _, rfl, rfl, .inr (by decide), _, rfl, .inl ⟨_, rfl, _, _, rfl, rfl, (by show (0 : Int) < 1000003; decide), _, _, rfl, rfl, .inl ⟨_, rfl, _, _, rfl, rfl, (by show (0 : Int) < 1000003; decide), ?_⟩⟩⟩
      exact ⟨_, _, rfl, rfl⟩
    · rintro σ H' ⟨z, v, rfl, rfl⟩
      refine ⟨_, rfl, _, _, rfl, rfl, _, rfl, _, _, rfl, rfl, _, _, rfl, rfl, .inr (by omega), _, _, rfl, rfl, .inr (by decide), .inl ⟨_, rfl, _, _, rfl, rfl, (by show (0 : Int) < 2147483647; decide), ?_⟩⟩
      exact q _
theorem ok__law_digits (F : Fun K "_law_digits" "_law_digits" s__law_digits f fd) (T : Txt mg) : FnOk P w K mg base CX0 1 f fd ["cell", "sizes"] (spDigits K) := by
  refine F.ok sc__law_digits (fun vs H Q E h => ?_) (fun cdv A outer s H vs Q E hr h => ?_)
  · obtain ⟨c, a, zs, rfl, _⟩ := h
    rfl
  obtain ⟨c, a, zs, rfl, hs, hz9, hz, q⟩ := h
  refine ⟨_, (pss_cons (ps_set (i := 2) sc__law_digits.nd rfl (Or.inl rfl) (pe_lst pa_nil))
  (pss_cons (ps_set (i := 3) sc__law_digits.nd rfl (Or.inl rfl) (pe_callTy call_int1 (by rfl) T.b_int (by decide +kernel) (pa_cons (pv 0) pa_nil)))
  (pss_cons (ps_if (pt_cmpR op_ge (pv 3) (pe_op op_pow pe_int pe_int) (nomark _)) (pss_cons (ps_set (i := 3) sc__law_digits.nd rfl (Or.inl rfl) (pe_op op_sub (pv 3) (pe_op op_pow pe_int pe_int)))
  (pss_cons (ps_for PassesOwn.never rfl (pi_list (pv 1)) (pg_name (i := 4) sc__law_digits.nd rfl (Or.inl rfl)) (pss_cons (ps_expr (pe_bm PySem.F.plainAttrs_list PySem.F.slot_list_append PySem.F.type_list_append mt_append (pv 2) (pa_cons (pe_op op_mod (pe_callTy call_int1 (by rfl) T.b_int (by decide +kernel) (pa_cons (pv 3) pa_nil)) (pv 4)) pa_nil)))
  (pss_one (ps_set (i := 3) sc__law_digits.nd rfl (Or.inl rfl) (pe_op op_fdivW (pe_callTy call_int1 (by rfl) T.b_int (by decide +kernel) (pa_cons (pv 3) pa_nil)) (pv 4))))))
  (pss_one (ps_ret (pv 2))))) pss_nil)
  (pss_cons (ps_set (i := 5) sc__law_digits.nd rfl (Or.inl rfl) (pe_op op_mod (pe_callTy call_int1 (by rfl) T.b_int (by decide +kernel) (pa_cons (pv 3) pa_nil)) pe_int))
  (pss_cons (ps_for PassesOwn.never rfl (pi_range1 (by rfl) T.b_range (pa_cons (pe_callB call_len_seq (by rfl) T.b_len PySem.boot_len (pa_cons (pv 1) pa_nil)) pa_nil)) (pg_name (i := 6) sc__law_digits.nd rfl (Or.inl rfl)) (pss_cons (ps_set (i := 5) sc__law_digits.nd rfl (Or.inl rfl) (pe_op op_mod (pe_callTy call_int1 (by rfl) T.b_int (by decide +kernel) (pa_cons (pe_op op_add (pe_op op_add (pe_op op_mul (pv 5) pe_int) (pe_op op_mul pe_int (pv 6))) pe_int) pa_nil)) pe_int))
  (pss_cons (ps_set (i := 7) sc__law_digits.nd rfl (Or.inl rfl) (pe_op op_mod (pe_callTy call_int1 (by rfl) T.b_int (by decide +kernel) (pa_cons (pe_op op_mul (pv 5) (pe_op op_add (pe_op op_fdiv (pv 5) pe_int) pe_int)) pa_nil)) pe_int))
  (pss_one (ps_expr (pe_bm PySem.F.plainAttrs_list PySem.F.slot_list_append PySem.F.type_list_append mt_append (pv 2) (pa_cons (pe_op op_mod (pe_op op_fdiv (pv 7) pe_int) (pe_ix ix_list (pv 1) (pv 6) (fun _ _ => rfl))) pa_nil)))))))
  (pss_one (ps_ret (pv 2)))))))), ?_⟩
  have keep : ∀ {p : Addr} {o : HO}, H p = none → SqL K (upd H p o) a (zs.map V.int) := fun hp => (same_new hp _).seq hs
  refine ⟨(by show 0 ≤ sizeLine; exact Nat.zero_le _), fun p hp => ?_⟩
  refine ⟨_, rfl, .inl ⟨_, rfl, ?_⟩⟩
  refine ⟨_, rfl, _, _, rfl, rfl, ⟨by decide, by decide, by decide⟩, _, _, rfl, rfl, _, rfl, ?_⟩
  refine ite2 (fun _ => ?_) (fun _ => ?_)
  · refine ⟨_, rfl, _, _, rfl, rfl, ⟨by decide, by decide, by decide⟩, _, _, rfl, rfl, ?_⟩
    refine ⟨_, rfl, a, rfl, ⟨_, keep hp⟩, for_list (K := K) (a := a) (xs := zs.map V.int) (fun i σ H' => ∃ (z : Int) (v : Option V) (ns : List Int), σ = [some (.int c), some (.ref a), some (.ref p), some (.int z), v, none, none, none] ∧ H' = upd H p (.lst (ns.map V.int)) ∧ Dig ns (zs.take i))
      ⟨_, none, [], rfl, rfl, .nil⟩ (fun i σ H' _ ⟨_, _, _, _, e, _⟩ => by rw [e]; exact keep hp) ?_ ?_⟩
    · rintro i y σ H' hi ⟨z, v, ns, rfl, rfl, hd⟩
      obtain ⟨x, hx, rfl⟩ := map_int hi
      have hx2 := hz x (List.mem_of_getElem? hx)
      have hlen : ns.length ≤ 1000 := by
        have := hd.len
        rw [List.length_take] at this
        omega
      refine ⟨_, rfl, .inl ⟨rfl, _, SqL.of upd_same⟩, _, rfl, .inl ⟨_, rfl, _, rfl, _, _, rfl, rfl, hx2.1, p, _, _, rfl, rfl, upd_same, by rw [List.length_map]; exact small1000 hlen, ?_⟩⟩
      refine ⟨_, rfl, .inl ⟨_, rfl, _, rfl, _, _, rfl, rfl, wide_div hx2.1 hx2.2 (by decide) (by decide), ?_⟩⟩
      exact ⟨_, _, ns ++ [z % x], rfl, by rw [upd_upd, snoc_int], by rw [take_snoc hx]; exact hd.snoc (Int.emod_nonneg _ (by omega)) (Int.emod_lt_of_pos _ hx2.1)⟩
    · rintro σ H' ⟨z, v, ns, rfl, rfl, hd⟩
      rw [List.length_map, List.take_length] at hd
      exact ⟨_, rfl, q p ns hp hd⟩
  · refine ⟨_, rfl, .inl ⟨_, rfl, _, _, rfl, rfl, (by show (0 : Int) < 2147483629; decide), ?_⟩⟩
    refine ⟨_, rfl, a, _, rfl, .inl (keep hp), _, rfl, by rw [List.length_map]; omega, by rw [List.length_map]; omega, for_range (lo := 0) (n := (((zs.map V.int).length : Nat) : Int).toNat)
      (fun i σ H' => ∃ (sd : Int) (v6 v7 : Option V) (r : Int) (ns : List Int), σ = [some (.int c), some (.ref a), some (.ref p), some (.int r), none, some (.int sd), v6, v7] ∧ 0 ≤ sd ∧ sd < 2147483648 ∧ H' = upd H p (.lst (ns.map V.int)) ∧ Dig ns (zs.take i))
      ⟨_, none, none, _, [], rfl, Int.emod_nonneg _ (by decide), Int.lt_trans (Int.emod_lt_of_pos _ (by decide)) (by decide), rfl, .nil⟩ ?_ ?_⟩
    · rintro i σ H' hi ⟨sd, v6, v7, r, ns, rfl, hs0, hs1, rfl, hd⟩
      rw [Int.toNat_natCast, List.length_map] at hi
      obtain ⟨x, hx⟩ : ∃ x, zs[i]? = some x := ⟨zs[i], List.getElem?_eq_getElem hi⟩
      have hx2 := hz x (List.mem_of_getElem? hx)
      have hlen : ns.length ≤ 1000 := by
        have := hd.len
        rw [List.length_take] at this
        omega
      refine ⟨_, rfl, _, _, rfl, rfl, .inr (by decide), _, rfl, _, _, rfl, rfl, .inl (by decide), _, _, rfl, rfl, _, _, rfl, rfl, .inl ⟨_, rfl, _, _, rfl, rfl, (by show (0 : Int) < 2147483647; decide), ?_⟩⟩
      have b0 : 0 ≤ (sd * 48271 + 974711 * (0 + (i : Int)) + 12345) % 2147483647 := Int.emod_nonneg _ (by decide)
      have b1 : (sd * 48271 + 974711 * (0 + (i : Int)) + 12345) % 2147483647 < 2147483648 := Int.lt_trans (Int.emod_lt_of_pos _ (by decide)) (by decide)
      refine ⟨_, rfl, _, rfl, _, _, rfl, rfl, ⟨by decide, by decide⟩, _, _, rfl, rfl, _, _, rfl, rfl, .inl ⟨Int.lt_of_lt_of_le (by decide) b0, Int.lt_trans b1 (by decide)⟩, .inl ⟨_, rfl, _, _, rfl, rfl, (by show (0 : Int) < 2147483629; decide), ?_⟩⟩
      refine ⟨_, rfl, .inl ⟨rfl, _, SqL.of upd_same⟩, _, rfl, _, _, rfl, rfl, ⟨by decide, by decide⟩, _, rfl, _, rfl, a, _, _, _, rfl, rfl, keep hp, at_pos (by omega) (int_at (by rw [show ((0 : Int) + (i : Nat)).toNat = i by omega]; exact hx)), _, _, rfl, rfl, hx2.1, p, _, _, rfl, rfl, upd_same, by rw [List.length_map]; exact small1000 hlen, ?_⟩
      exact ⟨_, _, _, r, _, rfl, b0, b1, by rw [upd_upd, snoc_int], by rw [take_snoc hx]; exact hd.snoc (Int.emod_nonneg _ (by omega)) (Int.emod_lt_of_pos _ hx2.1)⟩
    · rintro σ H' ⟨sd, v6, v7, r, ns, rfl, hs0, hs1, rfl, hd⟩
      rw [Int.toNat_natCast, List.length_map, List.take_length] at hd
      exact ⟨_, rfl, q p ns hp hd⟩
end
end P65
namespace P65
open PySem PySem.Spec PyProof.Rows L2 SX
/-- 1 to 8 small letters -/
def Word (n : List Nat) : Bool := decide (1 ≤ n.length) && decide (n.length ≤ 8) && n.all letter
def Key3 (n : List Nat) : Bool := decide (n = tThin) || decide (n = tSpare) || decide (n = tBase)
theorem good_of {n : List Nat} (h : Word n = true) (k : Key3 n = false) : GoodName n := by
  unfold Word at h
  rw [Bool.and_eq_true, Bool.and_eq_true, decide_eq_true_eq, decide_eq_true_eq, List.all_eq_true] at h
  unfold Key3 at k
  rw [Bool.or_eq_false_iff, Bool.or_eq_false_iff, decide_eq_false_iff_not, decide_eq_false_iff_not, decide_eq_false_iff_not] at k
  exact ⟨h.1.1, h.1.2, h.2, k.1.1, k.1.2, k.2⟩
theorem word_of {n : List Nat} (h1 : 1 ≤ n.length) (h8 : n.length ≤ 8) (h : ∀ c ∈ n, letter c = true) : Word n = true := by
  unfold Word
  rw [Bool.and_eq_true, Bool.and_eq_true, decide_eq_true_eq, decide_eq_true_eq, List.all_eq_true]
  exact ⟨⟨h1, h8⟩, h⟩
def nearL : List (List Nat) := [[116, 104, 105], [116, 104, 105, 110, 115], [116, 104, 105, 110, 120], [115, 112, 97, 114], [115, 112, 97, 114, 101, 115], [98, 97, 115], [98, 97, 115, 101, 115], [98, 97, 115, 101, 97], [104, 105, 110], [97, 98, 97, 115, 101], [97, 116, 104, 105, 110], [101]]
theorem near_is : (["thi", "thins", "thinx", "spar", "spares", "bas", "bases", "basea", "hin", "abase", "athin", "e"] : List Str) = nearL.map S := by decide +kernel
theorem near_word : ∀ n ∈ nearL, Word n = true := by decide +kernel
theorem near_at {j : Int} (h0 : 0 ≤ j) (h : j < 12) : ∃ n, atI [V.str "thi", V.str "thins", V.str "thinx", V.str "spar", V.str "spares", V.str "bas", V.str "bases", V.str "basea", V.str "hin", V.str "abase", V.str "athin", V.str "e"] j = some (.str (S n)) ∧ Word n = true := by
  have hl : j.toNat < nearL.length := by show j.toNat < 12; omega
  refine ⟨nearL[j.toNat], at_pos h0 ?_, near_word _ (List.getElem_mem hl)⟩
  show ((["thi", "thins", "thinx", "spar", "spares", "bas", "bases", "basea", "hin", "abase", "athin", "e"] : List Str).map V.str)[j.toNat]? = _
  rw [near_is, List.getElem?_map, List.getElem?_map, List.getElem?_eq_getElem hl]
  rfl
theorem letter_at {j : Int} (h0 : 0 ≤ j) (h : j < 26) : ∃ c, atI (S letters).cps.toList j = some c ∧ letter c = true := by
  have hl : j.toNat < letters.length := by show j.toNat < 26; omega
  exact ⟨letters[j.toNat], at_pos h0 (List.getElem?_eq_getElem hl), letter_of_mem (List.getElem_mem hl)⟩
theorem join_signs : ∀ cs : List Nat, Txt.join (S []) (cs.map fun c => S [c]) = S cs := by
  have go : ∀ cs : List Nat, TL.joinL [] (cs.map fun c => [c]) = cs := fun cs => by
    induction cs with
    | nil => rfl
    | cons c cs ih =>
      cases cs with
      | nil => rfl
      | cons d ds => exact congrArg (fun z => c :: z) ih
  intro cs
  rw [TL.join_eq]
  refine TL.ext_tl ?_
  rw [TL.tl_join]
  have e : (cs.map fun c => S [c]).map TL.tl = cs.map fun c => [c] := by rw [List.map_map]; rfl
  rw [e]
  exact go cs
theorem key_in {n : List Nat} : inV (.str (S n)) [.str "thin", .str "spare", .str "base"] = Key3 n := by
  have e := inV_strs (S n) ["thin", "spare", "base"]
  refine e.trans ?_
  rw [lit_thin, lit_spare, lit_base, List.any_cons, List.any_cons, List.any_cons, List.any_nil, S_beq_eq, S_beq_eq, S_beq_eq]
  unfold Key3
  rw [Bool.or_false, decide_eq_decide.mpr (eq_comm (a := tThin)), decide_eq_decide.mpr (eq_comm (a := tSpare)), decide_eq_decide.mpr (eq_comm (a := tBase)), Bool.or_assoc]
theorem key_one (c : Nat) : Key3 [c] = false := by
  unfold Key3 tThin tSpare tBase
  simp
def nameSizes : List Int := [8, 12, 26, 26, 26, 26, 26, 26, 26, 26]
def spName : Sp := fun vs H Q _ => ∃ (r t : Addr) (ds : List Int), vs = [.ref r, .ref t] ∧ H r = some (.lst (ds.map V.int)) ∧ Dig ds nameSizes ∧ H t = some (.lst []) ∧ ∀ n H', Same H H' → GoodName n → Q (.str (S n)) H'
abbrev s__law_name : Stmt := top 29
abbrev N__law_name : List Str := ["row", "taken", "letters", "near", "name", "mate", "place", "turn", "k"]
theorem sc__law_name : FnScope N__law_name ["row", "taken"] (defScope s__law_name) := ⟨rfl, rfl, rfl, by decide +kernel, rfl, by decide +kernel, by decide +kernel⟩
section
variable {P : Program} {w : World} {K : PySem.W.Frag} {mg : Str → Option Value} {base : Heap} {f : Addr} {fd : FuncData}
theorem ok__law_name (F : Fun K "_law_name" "_law_name" s__law_name f fd) (T : Txt mg) : FnOk P w K mg base CX0 1 f fd ["row", "taken"] spName := by
  refine F.ok sc__law_name (fun vs H Q E h => ?_) (fun cdv A outer s H vs Q E hr h => ?_)
  · obtain ⟨r, t, ds, rfl, _⟩ := h
    rfl
  obtain ⟨r, t, ds, rfl, hrow, hd, ht, q⟩ := h
  refine ⟨_, (pss_cons (ps_set (i := 2) sc__law_name.nd rfl (Or.inr rfl) pe_str)
  (pss_cons (ps_set (i := 3) sc__law_name.nd rfl (Or.inl rfl) (pe_lst (pa_cons pe_str (pa_cons pe_str (pa_cons pe_str (pa_cons pe_str (pa_cons pe_str (pa_cons pe_str (pa_cons pe_str (pa_cons pe_str (pa_cons pe_str (pa_cons pe_str (pa_cons pe_str (pa_cons pe_str pa_nil))))))))))))))
  (pss_cons (ps_set (i := 4) sc__law_name.nd rfl (Or.inl rfl) (pe_join pe_str (pe_lc (own := [("k", 8)]) (g := gName 8) (tt := tYes) (by rfl) sc__law_name.nd (pi_range1 (by rfl) T.b_range (pa_cons (pe_op op_add pe_int (pe_ix ix_list (pv 0) pe_int (fun _ _ => rfl))) pa_nil)) (blkOk_by (N := N__law_name) (sc := defScope s__law_name) (by decide +kernel)) (fun _ _ _ _ _ => pg_name (i := 8) sc__law_name.nd rfl (Or.inl rfl)) (fun _ _ _ _ _ => pts_nil) (fun _ _ _ _ _ => (pe_ix ix_str (pv 2) (pe_ix (ix_listK (K := K) rfl) (pv 0) (pe_op op_add pe_int (pv 8)) (fun _ _ => rfl)) (fun _ _ => rfl))))))
  (C8.pss_cut (ps_if (pt_cmpR op_ge (pe_ix ix_list (pv 0) pe_int (fun _ _ => rfl)) pe_int (nomark _)) (pss_one (ps_set (i := 4) sc__law_name.nd rfl (Or.inl rfl) (pe_ix ix_list (pv 3) (pe_op op_mod (pe_callTy call_int1 (by rfl) T.b_int (by decide +kernel) (pa_cons (pe_ix ix_list (pv 0) pe_int (fun _ _ => rfl)) pa_nil)) pe_int) (fun _ _ => rfl)))) pss_nil)
  (C8.pss_cut (ps_if (PW.pt (pw_and (pt_chain op_le op_lt pe_int (pe_ix ix_list (pv 0) pe_int (fun _ _ => rfl)) pe_int) (pw_and1 (pt_cmpR op_gt (pe_callB call_len_seq (by rfl) T.b_len PySem.boot_len (pa_cons (pv 1) pa_nil)) pe_int (nomark _))))) (pss_cons (ps_set (i := 5) sc__law_name.nd rfl (Or.inl rfl) (pe_ix ix_list (pv 1) (pe_op op_mod (pe_callTy call_int1 (by rfl) T.b_int (by decide +kernel) (pa_cons (pe_ix ix_list (pv 0) pe_int (fun _ _ => rfl)) pa_nil)) (pe_callB call_len_seq (by rfl) T.b_len PySem.boot_len (pa_cons (pv 1) pa_nil))) (fun _ _ => rfl)))
  (pss_cons (ps_set (i := 6) sc__law_name.nd rfl (Or.inl rfl) (pe_op op_mod (pe_callTy call_int1 (by rfl) T.b_int (by decide +kernel) (pa_cons (pe_ix ix_list (pv 0) pe_int (fun _ _ => rfl)) pa_nil)) (pe_callB call_len_str (by rfl) T.b_len PySem.boot_len (pa_cons (pv 5) pa_nil))))
  (pss_cons (ps_if (pt_cmpR op_eq (pe_ix ix_list (pv 0) pe_int (fun _ _ => rfl)) pe_int (nomark _)) (pss_one (ps_set (i := 4) sc__law_name.nd rfl (Or.inl rfl) (pe_slice sl_str (pe_op op_add_str (pv 5) (pe_ix ix_str (pv 2) (pe_ix ix_list (pv 0) pe_int (fun _ _ => rfl)) (fun _ _ => rfl))) po_none (po_some pe_int)))) pss_nil)
  (pss_cons (ps_if (PW.pt (pw_and (pt_cmpR op_eq (pe_ix ix_list (pv 0) pe_int (fun _ _ => rfl)) pe_int (nomark _)) (pw_and1 (pt_cmpR op_gt (pe_callB call_len_str (by rfl) T.b_len PySem.boot_len (pa_cons (pv 5) pa_nil)) pe_int (nomark _))))) (pss_one (ps_set (i := 4) sc__law_name.nd rfl (Or.inl rfl) (pe_slice sl_str (pv 5) po_none (po_some (pe_op op_sub (pe_callB call_len_str (by rfl) T.b_len PySem.boot_len (pa_cons (pv 5) pa_nil)) pe_int))))) pss_nil)
  (pss_one (ps_if (pt_cmpR op_eq (pe_ix ix_list (pv 0) pe_int (fun _ _ => rfl)) pe_int (nomark _)) (pss_one (ps_set (i := 4) sc__law_name.nd rfl (Or.inl rfl) (pe_op op_add_str (pe_op op_add_str (pe_slice sl_str (pv 5) po_none (po_some (pv 6))) (pe_ix ix_str (pv 2) (pe_ix ix_list (pv 0) pe_int (fun _ _ => rfl)) (fun _ _ => rfl))) (pe_slice sl_str (pv 5) (po_some (pe_op op_add (pv 6) pe_int)) po_none)))) pss_nil)))))) pss_nil)
  (pss_cons (ps_for PassesOwn.never rfl (pi_range1 (by rfl) T.b_range (pa_cons pe_int pa_nil)) (pg_name (i := 7) sc__law_name.nd rfl (Or.inl rfl)) (pss_one (ps_if (PW.pt (pw_or (pt_cmpR op_in_seq (pv 4) (pv 1) (by rfl)) (pw_or1 (pt_cmpR op_in_seq (pv 4) (pe_lst (pa_cons pe_str (pa_cons pe_str (pa_cons pe_str pa_nil)))) (by rfl))))) (pss_one (ps_set (i := 4) sc__law_name.nd rfl (Or.inl rfl) (pe_ix ix_str (pv 2) (pe_op op_mod (pe_callTy call_int1 (by rfl) T.b_int (by decide +kernel) (pa_cons (pe_op op_add (pe_ix ix_list (pv 0) pe_int (fun _ _ => rfl)) (pv 7)) pa_nil)) pe_int) (fun _ _ => rfl)))) pss_nil)))
  (pss_one (ps_ret (pv 4))))))))), ?_⟩
  -- the digits
  have dig : ∀ (i : Nat) (z : Int), nameSizes[i]? = some z → ∃ n, (ds.map V.int)[i]? = some (.int n) ∧ 0 ≤ n ∧ n < z := fun i z h => by
    obtain ⟨n, h1, h2, h3⟩ := hd.get h
    exact ⟨n, int_at h1, h2, h3⟩
  obtain ⟨d0, e0, a0, b0⟩ := dig 0 8 rfl
  obtain ⟨d1, e1, a1, b1⟩ := dig 1 12 rfl
  obtain ⟨d2, e2, a2, b2⟩ := dig 2 26 rfl
  refine ⟨line_ge (by show 12 ≤ _; omega), fun pn hpn => ?_⟩
  have g1 := same_new hpn (.lst [V.str "thi", V.str "thins", V.str "thinx", V.str "spar", V.str "spares", V.str "bas", V.str "bases", V.str "basea", V.str "hin", V.str "abase", V.str "athin", V.str "e"])
  refine ⟨⟨_, rfl⟩, ?_⟩
  refine ⟨_, rfl, r, _, 0, _, rfl, rfl, SqL.of (g1 _ _ hrow), at_pos (by decide) e0, _, _, rfl, rfl, 1 + d0, rfl, by omega, by omega, fun D hD => ?_⟩
  have hn0 : (1 + d0).toNat ≤ 8 := by omega
  refine lc_range (lo := 0) (n := (1 + d0).toNat) (fun i H' => ∃ cs : List Nat, cs.length = i ∧ (∀ c ∈ cs, letter c = true) ∧ Same (upd H pn (.lst [V.str "thi", V.str "thins", V.str "thinx", V.str "spar", V.str "spares", V.str "bas", V.str "bases", V.str "basea", V.str "hin", V.str "abase", V.str "athin", V.str "e"])) H' ∧ H' D = some (.lst (cs.map fun c => V.str (S [c]))))
    ⟨[], rfl, (fun c hc => nomatch hc), same_new hD _, upd_same⟩ ?_ ?_
  · rintro i H1 hlt ⟨cs, hcs, hall, g2, hd1⟩
    refine ⟨rfl, lc_yes ?_⟩
    obtain ⟨d, ed, ad, bd⟩ := dig (2 + i) 26 (by
      have : i < 8 := by omega
      match i, this with
      | 0, _ => rfl
      | 1, _ => rfl
      | 2, _ => rfl
      | 3, _ => rfl
      | 4, _ => rfl
      | 5, _ => rfl
      | 6, _ => rfl
      | 7, _ => rfl)
    obtain ⟨c, hc, hlc⟩ := letter_at ad bd
    refine ⟨_, rfl, _, rfl, _, rfl, _, _, rfl, rfl, r, _, _, _, rfl, rfl, SqL.of (g2 _ _ (g1 _ _ hrow)), at_pos (by omega) (by rw [show ((2 : Int) + (0 + (i : Nat))).toNat = 2 + i by omega]; exact ed), ?_⟩
    refine ⟨_, d, c, rfl, rfl, line_ge (by rw [lit_letters]; decide), by rw [lit_letters]; exact hc, ?_⟩
    refine ⟨_, hd1, by rw [List.length_map]; exact small1000 (by omega), cs ++ [c], by rw [List.length_append, hcs]; rfl, ?_, ?_, ?_⟩
    · intro x hx
      rcases List.mem_append.mp hx with hx | hx
      · exact hall x hx
      · rw [List.mem_singleton.mp hx]
        exact hlc
    · intro b o hb
      have hne : b ≠ D := fun e => by
        rw [e, hD] at hb
        cases hb
      rw [upd_ne hne]
      exact g2 _ _ hb
    · rw [upd_same, List.map_append]
      rfl
  rintro H1 ⟨cs, hcs, hall, g2, hd1⟩
  have hlen : ((cs.map fun c => S [c]).map (·.length)).sum + (cs.map fun c => S [c]).length * (S []).length ≤ 16777216 := by
    have h1 : (S []).length = 0 := rfl
    have h2 : ∀ cs : List Nat, ((cs.map fun c => S [c]).map (·.length)).sum = cs.length := fun cs => by
      induction cs with
      | nil => rfl
      | cons c cs ih =>
        rw [List.map_cons, List.map_cons, List.sum_cons, ih, List.length_cons]
        show 1 + cs.length = cs.length + 1
        omega
    rw [h1, h2, hcs]
    omega
  have hlist : (cs.map fun c => V.str (S [c])) = ((cs.map fun c => S [c])).map V.str := by rw [List.map_map]; rfl
  refine ⟨S [], D, cs.map fun c => S [c], congrArg V.str lit_empty, rfl, .inl (SqL.of (by rw [hd1, hlist])), hlen, ?_⟩
  rw [join_signs]
  have hw0 : Word cs = true := word_of (by omega) (by omega) hall
  have g3 : Same H H1 := g1.trans g2
  have hn1 := g2 _ _ (upd_same (H := H) (a := pn) (o := .lst [V.str "thi", V.str "thins", V.str "thinx", V.str "spar", V.str "spares", V.str "bas", V.str "bases", V.str "basea", V.str "hin", V.str "abase", V.str "athin", V.str "e"]))
  refine ⟨fun σ H' => ∃ n, σ = [some (.ref r), some (.ref t), some (.str "abcdefghijklmnopqrstuvwxyz"), some (.ref pn), some (.str (S n)), none, none, none, none] ∧ Word n = true ∧ H' = H1, ?_, ?_⟩
  · refine ⟨_, rfl, r, _, 1, _, rfl, rfl, SqL.of (g3 _ _ hrow), at_pos (by decide) e1, _, _, rfl, rfl, _, rfl, ?_⟩
    refine ite2 (fun _ => ?_) (fun _ => ?_)
    · obtain ⟨n, hn, hw⟩ := near_at (j := d2 % 12) (Int.emod_nonneg _ (by decide)) (Int.emod_lt_of_pos _ (by decide))
      refine ⟨_, rfl, _, rfl, r, _, 2, _, rfl, rfl, SqL.of (g3 _ _ hrow), at_pos (by decide) e2, .inl ⟨_, rfl, _, _, rfl, rfl, (by show (0 : Int) < 12; decide), pn, _, _, _, rfl, rfl, SqL.of hn1, hn, ?_⟩⟩
      exact ⟨n, rfl, hw, rfl⟩
    · exact ⟨cs, rfl, hw0, rfl⟩
  rintro σ H2 ⟨n, rfl, hw, rfl⟩
  have ht1 := g3 _ _ ht
  refine ⟨fun σ H' => σ = [some (.ref r), some (.ref t), some (.str "abcdefghijklmnopqrstuvwxyz"), some (.ref pn), some (.str (S n)), none, none, none, none] ∧ H' = H2, ?_, ?_⟩
  · refine ⟨_, rfl, r, _, 1, _, rfl, rfl, SqL.of (g3 _ _ hrow), at_pos (by decide) e1, _, _, rfl, rfl, _, rfl, ?_⟩
    refine ite2 (fun _ => ?_) (fun _ => ?_)
    · refine ⟨_, _, rfl, rfl, _, rfl, ?_⟩
      refine ite2 (fun _ => ?_) (fun _ => ?_)
      · refine ⟨_, rfl, t, _, rfl, .inl (SqL.of ht1), _, _, rfl, rfl, _, rfl, ifF rfl ⟨rfl, rfl⟩⟩
      · exact ⟨rfl, rfl⟩
    · exact ⟨_, rfl, ifF rfl ⟨rfl, rfl⟩⟩
  rintro σ H3 ⟨rfl, rfl⟩
  refine ⟨26, rfl, by decide, by decide, for_range (lo := 0) (n := 26)
    (fun i σ H' => ∃ (n : List Nat) (v : Option V), σ = [some (.ref r), some (.ref t), some (.str "abcdefghijklmnopqrstuvwxyz"), some (.ref pn), some (.str (S n)), none, none, v, none] ∧ Word n = true ∧ (1 ≤ i → Key3 n = false) ∧ Same H3 H')
    ⟨n, none, rfl, hw, fun h => absurd h (by decide), Same.refl _⟩ ?_ ?_⟩
  · rintro i σ H4 hi ⟨m, v, rfl, hm, hk, g4⟩
    refine ⟨_, rfl, _, rfl, t, [], rfl, .inl (SqL.of (g4 _ _ ht1)), rfl, rfl, _, rfl, ifF rfl ?_⟩
    refine ⟨_, rfl, three_line, fun z hz => ?_⟩
    refine ⟨z, _, rfl, .inl (SqL.of upd_same), rfl, rfl, _, rfl, ?_⟩
    have e : (if false = true then !inV (V.str (S m)) [V.str "thin", V.str "spare", V.str "base"] else inV (V.str (S m)) [V.str "thin", V.str "spare", V.str "base"]) = Key3 m := by
      rw [if_neg Bool.false_ne_true]
      exact key_in
    have g5 := g4.trans (same_new hz (.lst [V.str "thin", V.str "spare", V.str "base"]))
    refine ite2 (fun c => ?_) (fun c => ?_)
    · obtain ⟨x, hx, hlx⟩ := letter_at (j := (d2 + (0 + (i : Nat))) % 26) (Int.emod_nonneg _ (by decide)) (Int.emod_lt_of_pos _ (by decide))
      refine ⟨_, rfl, _, rfl, r, _, 2, _, rfl, rfl, SqL.of (g5 _ _ (g3 _ _ hrow)), at_pos (by decide) e2, _, rfl, _, _, rfl, rfl, .inl ⟨_, rfl, _, _, rfl, rfl, (by show (0 : Int) < 26; decide), ?_⟩⟩
      refine ⟨_, _, x, rfl, rfl, line_ge (by rw [lit_letters]; decide), by rw [lit_letters]; exact hx, ?_⟩
      exact ⟨[x], _, rfl, word_of (by simp) (by simp) (fun y hy => by rw [List.mem_singleton.mp hy]; exact hlx), fun _ => key_one x, g5⟩
    · have c' : Key3 m = false := by
        cases hkm : Key3 m with
        | false => rfl
        | true => exact absurd (e.trans hkm) c
      exact ⟨m, _, rfl, hm, fun _ => c', g5⟩
  · rintro σ H4 ⟨m, v, rfl, hm, hk, g4⟩
    exact ⟨_, rfl, q m H4 (g3.trans g4) (good_of hm (hk (by decide)))⟩
end
end P65
namespace P65
open PySem PySem.Spec PyProof.Rows L2 SX
theorem ifs_of {c : TT} {t u : TS} {D : Ends} {σ : L2.St} {H : Hp} (b : Bool) (hb : ∀ Q : Bool → Hp → Prop, Q b H → c σ H Q) (ht : b = true → t D σ H) (hu : b = false → u D σ H) : tIfS c t u D σ H := by
  refine hb _ ?_
  cases b with
  | true => exact ifT rfl (ht rfl)
  | false => exact ifF rfl (hu rfl)
theorem ifs_seq {c : TT} {t u r : TS} {D : Ends} {σ : L2.St} {H : Hp} (b : Bool) (hb : ∀ Q : Bool → Hp → Prop, Q b H → c σ H Q) (ht : b = true → t { D with nx := r D } σ H) (hu : b = false → u { D with nx := r D } σ H) : tSeq (tIfS c t u) r D σ H := ifs_of b hb ht hu
theorem ifs_seqN {c : TT} {t r : TS} {D : Ends} {σ : L2.St} {H : Hp} (b : Bool) (hb : ∀ Q : Bool → Hp → Prop, Q b H → c σ H Q) (ht : b = true → t { D with nx := r D } σ H) (hu : b = false → r D σ H) : tSeq (tIfS c t tNext) r D σ H := ifs_of b hb ht hu
theorem seq_asg {te : TE} {i : Nat} {u : TS} {D : Ends} {σ : L2.St} {H : Hp} (h : te σ H fun x H1 => u D (σ.set i (some x)) H1) : tSeq (tAsg te (gName i)) u D σ H := h
theorem Dig.drop : ∀ {ns zs : List Int} (k : Nat), Dig ns zs → Dig (ns.drop k) (zs.drop k)
  | _, _, 0, d => d
  | _, _, _ + 1, .nil => .nil
  | _, _, k + 1, .cons _ t => Dig.drop k t
theorem cutV_from (xs : List V) {k : Int} (h0 : 0 ≤ k) : cutV xs (some k) none = xs.drop k.toNat := by
  have e1 : HT.sIx xs.length 0 (some k) = min k.toNat xs.length := by show (if k < 0 then _ else _) = _; rw [if_neg (by omega)]
  have e2 : HT.sIx xs.length xs.length none = xs.length := rfl
  unfold cutV
  rw [e1, e2]
  by_cases h : k.toNat ≤ xs.length
  · rw [Nat.min_eq_left h]
    exact List.take_of_length_le (by rw [List.length_drop]; omega)
  · rw [Nat.min_eq_right (by omega), List.drop_eq_nil_of_le (Nat.le_refl _), List.drop_eq_nil_of_le (by omega), List.take_nil]
def growSizes : List Int := [10, 40, 999, 999, 9, 8, 12, 26, 26, 26, 26, 26, 26, 26, 26]
/-- rows of digits -/
def RowsAt (H : Hp) (a : Addr) (as : List Addr) : Prop := H a = some (.lst (as.map V.ref)) ∧ ∀ b ∈ as, ∃ ds : List Int, H b = some (.lst (ds.map V.int)) ∧ Dig ds growSizes
theorem RowsAt.same {H H' : Hp} {a : Addr} {as : List Addr} (e : Same H H') (r : RowsAt H a as) : RowsAt H' a as := ⟨e _ _ r.1, fun b hb => let ⟨ds, h1, h2⟩ := r.2 b hb; ⟨ds, e _ _ h1, h2⟩⟩
def spGrow (n : Nat) : Sp := fun vs H Q _ => ∃ (a : Addr) (as : List Addr) (at_ many deep mode : Int), vs = [.ref a, .int at_, .int many, .int deep, .int mode] ∧ RowsAt H a as ∧ 0 ≤ at_ ∧ at_ + many ≤ as.length ∧ at_ + 1 ≤ as.length ∧ deep ≤ n + 1 ∧
  ∀ pl p H', Same H H' → PlanAt H' pl p → Good pl → (pl.height ≤ 1 ∨ (pl.height : Int) ≤ deep) → (pl.count ≤ 1 ∨ (pl.count : Int) ≤ many) → Q (.ref p) H'
def spGSub (n : Nat) : Sp := fun vs H Q E => ∃ m, n = m + 1 ∧ spGrow m vs H Q E
abbrev s__law_grow : Stmt := top 30
abbrev N__law_grow : List Str := ["rows", "at", "many", "deep", "mode", "row", "share", "one", "two", "inner", "kind"]
theorem sc__law_grow : FnScope N__law_grow ["rows", "at", "many", "deep", "mode"] (defScope s__law_grow) := ⟨rfl, rfl, rfl, by decide +kernel, rfl, by decide +kernel, by decide +kernel⟩
section
variable {P : Program} {w : World} {K : PySem.W.Frag} {mg : Str → Option Value} {base : Heap} {f : Addr} {fd : FuncData}
theorem ok__law_grow {n : Nat} (F : Fun K "_law_grow" "_law_grow" s__law_grow f fd) (T : Txt mg) (C__law_name : Cal P w K mg base 1 "_law_name" ["row", "taken"] spName)
    (C__law_grow : Cal P w K mg base (n + 1) "_law_grow" ["rows", "at", "many", "deep", "mode"] (spGSub n)) : FnOk P w K mg base CX0 (n + 2) f fd ["rows", "at", "many", "deep", "mode"] (spGrow n) := by
  refine F.ok sc__law_grow (fun vs H Q E h => ?_) (fun cdv A outer s H vs Q E hr h => ?_)
  · obtain ⟨a, as, at_, many, deep, mode, rfl, _⟩ := h
    rfl
  obtain ⟨a, as, at_, many, deep, mode, rfl, hR, h0, hm, hm1, hdeep, q⟩ := h
  refine ⟨_, (pss_cons (ps_set (i := 5) sc__law_grow.nd rfl (Or.inl rfl) (pe_ix ix_list (pv 0) (pv 1) (fun _ _ => rfl)))
  (pss_cons (ps_if (PW.pt (pw_or (pt_cmpR op_le (pv 2) pe_int (nomark _)) (pw_or1 (pt_cmpR op_le (pv 3) pe_int (nomark _))))) (pss_one (ps_ret (pe_tup (pa_cons pe_str (pa_cons (pe_cal C__law_name (hr.mono (by omega)) rfl (pa_cons (pe_slice sl_list (pv 5) (po_some pe_int) po_none) (pa_cons (pe_lst pa_nil) pa_nil))) pa_nil))))) pss_nil)
  (pss_cons (ps_if (PW.pt (pw_and (pt_cmpR op_ge (pv 2) pe_int (nomark _)) (pw_and1 (PW.pt (pw_or (pt_cmpR op_eq (pv 4) pe_int (nomark _)) (pw_or1 (PW.pt (pw_and (pt_cmpR op_eq (pv 4) pe_int (nomark _)) (pw_and1 (pt_cmpR op_lt (pe_ix ix_list (pv 5) pe_int (fun _ _ => rfl)) pe_int (nomark _))))))))))) (pss_cons (ps_set (i := 6) sc__law_grow.nd rfl (Or.inl rfl) (pe_op op_add pe_int (pe_op op_mod (pe_callTy call_int1 (by rfl) T.b_int (by decide +kernel) (pa_cons (pe_ix ix_list (pv 5) pe_int (fun _ _ => rfl)) pa_nil)) (pe_op op_sub (pv 2) pe_int))))
  (C8.pss_cut (ps_if (pt_cmpR op_eq (pv 4) pe_int (nomark _)) (pss_one (ps_set (i := 6) sc__law_grow.nd rfl (Or.inl rfl) (pe_op op_fdiv (pe_op op_sub (pv 2) pe_int) pe_int))) pss_nil)
  (pss_cons (ps_set (i := 7) sc__law_grow.nd rfl (Or.inl rfl) (pe_cal C__law_grow (hr.mono (by omega)) rfl (pa_cons (pv 0) (pa_cons (pe_op op_add (pv 1) pe_int) (pa_cons (pv 6) (pa_cons (pe_op op_sub (pv 3) pe_int) (pa_cons (pv 4) pa_nil)))))))
  (pss_cons (ps_set (i := 8) sc__law_grow.nd rfl (Or.inl rfl) (pe_cal C__law_grow (hr.mono (by omega)) rfl (pa_cons (pv 0) (pa_cons (pe_op op_add (pe_op op_add (pv 1) pe_int) (pv 6)) (pa_cons (pe_op op_sub (pe_op op_sub (pv 2) pe_int) (pv 6)) (pa_cons (pe_op op_sub (pv 3) pe_int) (pa_cons (pv 4) pa_nil)))))))
  (pss_one (ps_ret (pe_tup (pa_cons pe_str (pa_cons (pv 7) (pa_cons (pv 8) pa_nil)))))))))) pss_nil)
  (pss_cons (ps_set (i := 9) sc__law_grow.nd rfl (Or.inl rfl) (pe_cal C__law_grow (hr.mono (by omega)) rfl (pa_cons (pv 0) (pa_cons (pe_op op_add (pv 1) pe_int) (pa_cons (pe_op op_sub (pv 2) pe_int) (pa_cons (pe_op op_sub (pv 3) pe_int) (pa_cons (pv 4) pa_nil)))))))
  (pss_cons (ps_set (i := 10) sc__law_grow.nd rfl (Or.inl rfl) (pe_op op_mod (pe_callTy call_int1 (by rfl) T.b_int (by decide +kernel) (pa_cons (pe_ix ix_list (pv 5) pe_int (fun _ _ => rfl)) pa_nil)) pe_int))
  (pss_cons (ps_if (pt_cmpR op_eq (pv 10) pe_int (nomark _)) (pss_one (ps_ret (pe_tup (pa_cons pe_str (pa_cons (pe_op op_add pe_int (pe_ix ix_list (pv 5) pe_int (fun _ _ => rfl))) (pa_cons (pe_op op_add pe_int (pe_ix ix_list (pv 5) pe_int (fun _ _ => rfl))) (pa_cons (pv 9) pa_nil))))))) pss_nil)
  (pss_cons (ps_if (pt_cmpR op_eq (pv 10) pe_int (nomark _)) (pss_one (ps_ret (pe_tup (pa_cons pe_str (pa_cons (pv 9) pa_nil))))) pss_nil)
  (pss_cons (ps_if (pt_cmpR op_eq (pv 10) pe_int (nomark _)) (pss_one (ps_ret (pe_tup (pa_cons pe_str (pa_cons (pv 9) pa_nil))))) pss_nil)
  (pss_one (ps_ret (pe_tup (pa_cons pe_str (pa_cons (pe_op op_add pe_int (pe_ix ix_list (pv 5) pe_int (fun _ _ => rfl))) (pa_cons (pv 9) pa_nil)))))))))))))), ?_⟩
  have hat : at_.toNat < as.length := by omega
  obtain ⟨b, hb⟩ : ∃ b, as[at_.toNat]? = some b := ⟨as[at_.toNat], List.getElem?_eq_getElem hat⟩
  have hbv : (as.map V.ref)[at_.toNat]? = some (.ref b) := by rw [List.getElem?_map, hb]; rfl
  obtain ⟨ds, hrow, hdig⟩ := hR.2 b (List.mem_of_getElem? hb)
  have dig : ∀ (i : Nat) (z : Int), growSizes[i]? = some z → ∃ n, (ds.map V.int)[i]? = some (.int n) ∧ 0 ≤ n ∧ n < z := fun i z h => by
    obtain ⟨n, h1, h2, h3⟩ := hdig.get h
    exact ⟨n, int_at h1, h2, h3⟩
  obtain ⟨d0, e0, a0, b0⟩ := dig 0 10 rfl
  obtain ⟨d1, e1, a1, b1⟩ := dig 1 40 rfl
  obtain ⟨d2, e2, a2, b2⟩ := dig 2 999 rfl
  obtain ⟨d3, e3, a3, b3⟩ := dig 3 999 rfl
  obtain ⟨d4, e4, a4, b4⟩ := dig 4 9 rfl
  refine seq_asg ?_
  refine ⟨_, rfl, _, rfl, a, _, _, _, rfl, rfl, SqL.of hR.1, at_pos h0 hbv, ?_⟩
  refine ifs_seqN (decide (many ≤ 1) || decide (deep ≤ 1)) (fun Q hq => ?_) (fun hbt => ?_) (fun hbt => ?_)
  · refine ⟨_, rfl, _, _, rfl, rfl, _, rfl, ?_⟩
    refine ite2 (fun c => ?_) (fun c => ?_)
    · rw [show (decide (many ≤ 1)) = true from c] at hq
      exact hq
    · rw [show (decide (many ≤ 1)) = false from Bool.eq_false_iff.mpr c, Bool.false_or] at hq
      exact ⟨_, rfl, _, _, rfl, rfl, _, rfl, hq⟩
  · refine ⟨_, rfl, _, rfl, b, _, rfl, SqL.of hrow, fun p1 hp1 => ?_⟩
    rw [cutV_from _ (by decide)]
    refine ⟨(by show 0 ≤ sizeLine; exact Nat.zero_le _), fun p2 hp2 => ?_⟩
    have g1 := same_new hp1 (.lst ((ds.map V.int).drop (5 : Int).toNat))
    refine ⟨p1, p2, ds.drop 5, rfl, same_new hp2 _ _ _ (by rw [upd_same, ← List.map_drop]; rfl), hdig.drop 5, upd_same, fun nm H1 g2 hg => ?_⟩
    refine ⟨two_line, fun u hu => ?_⟩
    exact q (.take nm) u _ (g1.trans ((same_new hp2 _).trans (g2.trans (same_new hu _)))) upd_same hg (.inl (Nat.le_refl 1)) (.inl (Nat.le_refl 1))
  rw [Bool.or_eq_false_iff, decide_eq_false_iff_not, decide_eq_false_iff_not] at hbt
  obtain ⟨hm2, hd2⟩ := hbt
  obtain ⟨m, rfl⟩ : ∃ m, n = m + 1 := ⟨n - 1, by omega⟩
  refine ifs_seqN (decide (many ≥ 3) && (decide (mode = 1) || (decide (mode = 0) && decide (d0 < 5)))) (fun Q hq => ?_) (fun hbt => ?_) (fun _ => ?_)
  · refine ⟨_, rfl, _, _, rfl, rfl, _, rfl, ?_⟩
    refine ite2 (fun c => ?_) (fun c => ?_)
    · rw [show (decide (many ≥ 3)) = true from c, Bool.true_and] at hq
      refine ⟨_, rfl, rfl, _, rfl, ?_⟩
      rw [dec_int]
      refine ite2 (fun c => ?_) (fun c => ?_)
      · have e : mode = 1 := eq_of_beq c
        rw [decide_eq_true e, Bool.true_or] at hq
        exact hq
      · have e : ¬ mode = 1 := fun e => c (by rw [e]; rfl)
        rw [decide_eq_false e, Bool.false_or] at hq
        refine ⟨_, rfl, rfl, _, rfl, ?_⟩
        rw [dec_int]
        refine ite2 (fun c => ?_) (fun c => ?_)
        · have e : mode = 0 := eq_of_beq c
          rw [decide_eq_true e, Bool.true_and] at hq
          exact ⟨_, rfl, b, _, 0, _, rfl, rfl, SqL.of hrow, at_pos (by decide) e0, _, _, rfl, rfl, _, rfl, hq⟩
        · have e : ¬ mode = 0 := fun e => c (by rw [e]; rfl)
          rw [decide_eq_false e, Bool.false_and] at hq
          exact hq
    · rw [show (decide (many ≥ 3)) = false from Bool.eq_false_iff.mpr c, Bool.false_and] at hq
      exact hq
  · rw [Bool.and_eq_true] at hbt
    have hm3 : many ≥ 3 := of_decide_eq_true hbt.1
    refine seq_asg ?_
    refine ⟨_, rfl, b, _, 1, _, rfl, rfl, SqL.of hrow, at_pos (by decide) e1, .inl ⟨_, rfl, _, rfl, _, _, rfl, rfl, _, _, rfl, rfl, (by show (0 : Int) < many - 2; omega), _, _, rfl, rfl, ?_⟩⟩
    have s0 : 0 ≤ d1 % (many - 2) := Int.emod_nonneg _ (by omega)
    have s1 : d1 % (many - 2) < many - 2 := Int.emod_lt_of_pos _ (by omega)
    refine ⟨fun σ H' => ∃ share : Int, σ = [some (.ref a), some (.int at_), some (.int many), some (.int deep), some (.int mode), some (.ref b), some (.int share), none, none, none, none] ∧ 1 ≤ share ∧ share ≤ many - 2 ∧ H' = H, ?_, ?_⟩
    · refine ifs_of (decide (mode = 1)) (fun Q hq => ?_) (fun _ => ?_) (fun _ => ?_)
      · refine ⟨_, rfl, rfl, _, rfl, ?_⟩
        rw [dec_int, Bool.beq_eq_decide_eq]
        exact hq
      · refine ⟨_, rfl, _, _, rfl, rfl, _, _, rfl, rfl, ⟨by decide, by decide⟩, ?_⟩
        exact ⟨_, rfl, by omega, by omega, rfl⟩
      · exact ⟨_, rfl, by omega, by omega, rfl⟩
    rintro σ H' ⟨share, rfl, h1, h2, rfl⟩
    refine ⟨_, rfl, _, rfl, _, _, rfl, rfl, _, rfl, _, rfl, _, _, rfl, rfl, _, rfl, m, rfl, a, as, at_ + 1, share, deep - 1, mode, rfl, hR, by omega, by omega, by omega, by omega, fun pl1 p1 H1 g1 hp1 hg1 hh1 hc1 => ?_⟩
    refine ⟨_, rfl, _, rfl, _, _, rfl, rfl, _, rfl, _, _, rfl, rfl, _, rfl, _, _, rfl, rfl, _, rfl, _, _, rfl, rfl, _, rfl, _, _, rfl, rfl, _, rfl, m, rfl, a, as, at_ + 1 + share, many - 1 - share, deep - 1, mode, rfl, hR.same g1, by omega, by omega, by omega, by omega, fun pl2 p2 H2 g2 hp2 hg2 hh2 hc2 => ?_⟩
    refine ⟨_, rfl, _, rfl, three_line, fun u hu => ?_⟩
    refine q (.join pl1 pl2) u _ (g1.trans (g2.trans (same_new hu _))) ⟨p1, p2, upd_same, hp1.same (g2.trans (same_new hu _)), hp2.same (same_new hu _)⟩ ⟨hg1, hg2⟩ (.inr ?_) (.inr ?_)
    · simp only [Plan.height]
      omega
    · simp only [Plan.count]
      omega
  · refine ⟨_, rfl, _, rfl, _, _, rfl, rfl, _, rfl, _, _, rfl, rfl, _, rfl, _, _, rfl, rfl, _, rfl, m, rfl, a, as, at_ + 1, many - 1, deep - 1, mode, rfl, hR, by omega, by omega, by omega, by omega, fun x p1 H1 g1 hp1 hg1 hh1 hc1 => ?_⟩
    have hrow1 := g1 _ _ hrow
    have hx : (x.height : Int) + 1 ≤ deep := by omega
    have hy : (x.count : Int) + 1 ≤ many := by omega
    refine ⟨_, rfl, b, _, 0, _, rfl, rfl, SqL.of hrow1, at_pos (by decide) e0, .inl ⟨_, rfl, _, _, rfl, rfl, (by show (0 : Int) < 5; decide), ?_⟩⟩
    refine ⟨_, rfl, rfl, _, rfl, ?_⟩
    refine ite2 (fun _ => ?_) (fun _ => ?_)
    · refine ⟨_, rfl, b, _, 2, _, rfl, rfl, SqL.of hrow1, at_pos (by decide) e2, _, _, rfl, rfl, _, rfl, b, _, 3, _, rfl, rfl, SqL.of hrow1, at_pos (by decide) e3, _, _, rfl, rfl, _, rfl, (by show 4 ≤ sizeLine; exact line_ge (by omega)), fun u hu => ?_⟩
      refine q (.scale (1 + d2).toNat (1 + d3).toNat x) u _ (g1.trans (same_new hu _)) ⟨p1, ?_, hp1.same (same_new hu _)⟩ ⟨by omega, by omega, hg1⟩ (.inr ?_) (.inr ?_)
      · rw [upd_same, Int.toNat_of_nonneg (by omega), Int.toNat_of_nonneg (by omega)]
      · simp only [Plan.height]
        omega
      · simp only [Plan.count]
        omega
    refine ⟨_, rfl, rfl, _, rfl, ?_⟩
    refine ite2 (fun _ => ?_) (fun _ => ?_)
    · refine ⟨_, rfl, two_line, fun u hu => ?_⟩
      refine q (.spare x) u _ (g1.trans (same_new hu _)) ⟨p1, upd_same, hp1.same (same_new hu _)⟩ hg1 (.inr ?_) (.inr ?_)
      · simp only [Plan.height]
        omega
      · simp only [Plan.count]
        omega
    refine ⟨_, rfl, rfl, _, rfl, ?_⟩
    refine ite2 (fun _ => ?_) (fun _ => ?_)
    · refine ⟨_, rfl, two_line, fun u hu => ?_⟩
      refine q (.base x) u _ (g1.trans (same_new hu _)) ⟨p1, upd_same, hp1.same (same_new hu _)⟩ hg1 (.inr ?_) (.inr ?_)
      · simp only [Plan.height]
        omega
      · simp only [Plan.count]
        omega
    refine ⟨_, rfl, b, _, 4, _, rfl, rfl, SqL.of hrow1, at_pos (by decide) e4, _, _, rfl, rfl, _, rfl, three_line, fun u hu => ?_⟩
    refine q (.thin (2 + d4).toNat x) u _ (g1.trans (same_new hu _)) ⟨p1, ?_, hp1.same (same_new hu _)⟩ ⟨by omega, hg1⟩ (.inr ?_) (.inr ?_)
    · rw [upd_same, Int.toNat_of_nonneg (by omega)]
    · simp only [Plan.height]
      omega
    · simp only [Plan.count]
      omega
theorem all_grow (T : Txt mg) (F : Fun K "_law_grow" "_law_grow" s__law_grow f fd) (m : mg "_law_grow" = some (.ref f)) (b : Binds K fd ["rows", "at", "many", "deep", "mode"] []) (C__law_name : Cal P w K mg base 1 "_law_name" ["row", "taken"] spName) :
    ∀ n : Nat, Cal P w K mg base (n + 2) "_law_grow" ["rows", "at", "many", "deep", "mode"] (spGrow n)
  | 0 => by
    have no : ∀ vs H Q E, ¬ spGSub 0 vs H Q E := fun vs H Q E ⟨k, e, _⟩ => by omega
    exact ⟨f, fd, ok__law_grow F T C__law_name ⟨f, fd, ⟨fun vs H Q E h => absurd h (no vs H Q E), fun A outer s H args us vs Q E _ _ _ _ h => absurd h (no vs H Q E)⟩, m, F.kp, b⟩, m, F.kp, b⟩
  | n + 1 => by
    obtain ⟨f', fd', G, m', kp', b'⟩ := all_grow T F m b C__law_name n
    exact ⟨f, fd, ok__law_grow F T C__law_name ⟨f', fd', G.imp (fun vs H Q E ⟨k, e, h⟩ => by
      have : n = k := by omega
      subst this
      exact h), m', kp', b'⟩, m, F.kp, b⟩
end
end P65
namespace P65
open PySem PySem.Spec PyProof.Rows L2 SX
/-- the tuples stand -/
def Tups (H H' : Hp) : Prop := ∀ b xs, H b = some (.tup xs) → H' b = some (.tup xs)
theorem PlanAt.tups {H H' : Hp} (e : Tups H H') : ∀ {a : Plan} {p : Addr}, PlanAt H a p → PlanAt H' a p
  | .take _, _, h => e _ _ h
  | .join _ _, _, ⟨pa, pb, h, ha, hb⟩ => ⟨pa, pb, e _ _ h, PlanAt.tups e ha, PlanAt.tups e hb⟩
  | .scale _ _ _, _, ⟨pa, h, ha⟩ => ⟨pa, e _ _ h, PlanAt.tups e ha⟩
  | .spare _, _, ⟨pa, h, ha⟩ => ⟨pa, e _ _ h, PlanAt.tups e ha⟩
  | .base _, _, ⟨pa, h, ha⟩ => ⟨pa, e _ _ h, PlanAt.tups e ha⟩
  | .thin _ _, _, ⟨pa, h, ha⟩ => ⟨pa, e _ _ h, PlanAt.tups e ha⟩
/-- a plan that may be asked of -/
structure Fine (H : Hp) (x : Plan × Addr) : Prop where
  at_ : PlanAt H x.1 x.2
  good : Good x.1
  high : x.1.height ≤ 12
  many : x.1.count ≤ 40
theorem Fine.same {H H' : Hp} (e : Same H H') {x : Plan × Addr} (f : Fine H x) : Fine H' x := ⟨f.at_.same e, f.good, f.high, f.many⟩
/-- what stands behind the drawing: the list of plans -/
structure Drawn (H : Hp) (pP : Addr) (p : Addr) (pl : Plan) (pls : List (Plan × Addr)) : Prop where
  lst : H pP = some (.lst (pls.map fun x => V.ref x.2))
  all : ∀ x ∈ pls, Fine H x
  hd : pls[0]? = some (pl, p)
  le : pls.length ≤ 3
theorem Drawn.same {H H' : Hp} (e : Same H H') {pP p : Addr} {pl : Plan} {pls : List (Plan × Addr)} (d : Drawn H pP p pl pls) : Drawn H' pP p pl pls := ⟨e _ _ d.lst, fun x hx => (d.all x hx).same e, d.hd, d.le⟩
/-- the texts of the plans -/
def txts (pls : List (Plan × Addr)) : List V := pls.map fun x => V.str (S (fmt x.1))
def spLaw (K : PySem.W.Frag) : Sp := fun vs H Q _ => ∃ (a : Addr) (ns : List Int), vs = [.ref a] ∧ SqL K H a (ns.map V.int) ∧ ns.length ≤ 63 ∧ ∀ H', Q (.bl true) H'
abbrev s_law : Stmt := top 34
abbrev N_law : List Str := ["script", "shape", "sizes", "rows", "many", "deep", "plan", "plans", "texts", "back", "k", "one"]
theorem sc_law : FnScope N_law ["script"] (defScope s_law) := ⟨rfl, rfl, rfl, by decide +kernel, rfl, by decide +kernel, by decide +kernel⟩
theorem same_at {H H' : Hp} {D : Addr} {o : HO} (e : Same H H') (h : H D = none) : Same H (upd H' D o) := fun b u q => by
  rw [upd_ne (ne_of_none q h)]
  exact e b u q
theorem grow_bounds : ∀ z ∈ growSizes, 0 < z ∧ z.natAbs < 2 ^ 2000 := by decide +kernel
/-- a plan that is no take ends in a plan -/
theorem last_of {H : Hp} {pl : Plan} {p : Addr} (h : PlanAt H pl p) (hg : Good pl) : (∃ n, pl = .take n) ∨ ∃ (tag : Str) (xs : List V) (x : Plan) (pa : Addr), tag ≠ ("take" : Str) ∧ H p = some (.tup (.str tag :: (xs ++ [.ref pa]))) ∧ PlanAt H x pa ∧ Good x ∧ x.height ≤ pl.height ∧ x.count ≤ pl.count := by
  cases pl with
  | take n => exact .inl ⟨n, rfl⟩
  | join x y =>
    obtain ⟨pa, pb, ho, ha, hb⟩ := h
    exact .inr ⟨"join", [.ref pa], y, pb, by decide +kernel, ho, hb, hg.2, by simp only [Plan.height]; omega, by simp only [Plan.count]; omega⟩
  | scale m n x =>
    obtain ⟨pa, ho, ha⟩ := h
    exact .inr ⟨"scale", [.int m, .int n], x, pa, by decide +kernel, ho, ha, hg.2.2, by simp only [Plan.height]; omega, by simp only [Plan.count]; omega⟩
  | spare x =>
    obtain ⟨pa, ho, ha⟩ := h
    exact .inr ⟨"spare", [], x, pa, by decide +kernel, ho, ha, hg, by simp only [Plan.height]; omega, by simp only [Plan.count]; omega⟩
  | base x =>
    obtain ⟨pa, ho, ha⟩ := h
    exact .inr ⟨"base", [], x, pa, by decide +kernel, ho, ha, hg, by simp only [Plan.height]; omega, by simp only [Plan.count]; omega⟩
  | thin k x =>
    obtain ⟨pa, ho, ha⟩ := h
    exact .inr ⟨"thin", [.int k], x, pa, by decide +kernel, ho, ha, hg.2, by simp only [Plan.height]; omega, by simp only [Plan.count]; omega⟩
theorem last_at (t : V) (xs : List V) (y : V) : atI (t :: (xs ++ [y])) ((((t :: (xs ++ [y])).length : Nat) : Int) - 1) = some y := by
  have e : (((t :: (xs ++ [y])).length : Nat) : Int) - 1 = ((xs.length + 1 : Nat) : Int) := by
    rw [List.length_cons, List.length_append, List.length_cons, List.length_nil]
    omega
  rw [e]
  refine atI_nat ?_
  rw [List.getElem?_cons_succ, List.getElem?_append_right (Nat.le_refl _), Nat.sub_self]
  rfl
theorem pls_at {pls : List (Plan × Addr)} {i : Nat} {x : V} (h : (pls.map fun x => V.ref x.2)[i]? = some x) : ∃ y, pls[i]? = some y ∧ x = .ref y.2 := by
  rw [List.getElem?_map] at h
  cases e : pls[i]? with
  | none => rw [e] at h; cases h
  | some y => rw [e] at h; exact ⟨y, rfl, (Option.some.inj h).symm⟩
theorem all_true (n : Nat) : (List.replicate n true).all id = true := by
  rw [List.all_eq_true]
  intro x hx
  rw [List.eq_of_mem_replicate hx]
  rfl
theorem many_at {d0 d1 : Int} (a0 : 0 ≤ d0) (b0 : d0 < 8) (a1 : 0 ≤ d1) (b1 : d1 < 40) : ∃ many : Int, atI [V.int (1 + d1 % 14), V.int (1 + d1), V.int 40, V.int 12] (if d0 - 4 > 0 then d0 - 4 else 0) = some (.int many) ∧ 1 ≤ many ∧ many ≤ 40 := by
  have h14 : 0 ≤ d1 % 14 := Int.emod_nonneg _ (by decide)
  have h15 : d1 % 14 < 14 := Int.emod_lt_of_pos _ (by decide)
  by_cases c : d0 - 4 > 0
  · rw [if_pos c]
    have h : d0 = 5 ∨ d0 = 6 ∨ d0 = 7 := by omega
    rcases h with rfl | rfl | rfl
    · exact ⟨_, at_pos (by decide) rfl, by omega, by omega⟩
    · exact ⟨_, at_pos (by decide) rfl, by omega, by omega⟩
    · exact ⟨_, at_pos (by decide) rfl, by omega, by omega⟩
  · rw [if_neg c]
    exact ⟨_, at_pos (by decide) rfl, by omega, by omega⟩
section
variable {P : Program} {w : World} {K : PySem.W.Frag} {mg : Str → Option Value} {base : Heap} {f : Addr} {fd : FuncData}
theorem ok_law (F : Fun K "law" "law" s_law f fd) (T : Txt mg) (C__law_cell : Cal P w K mg base 1 "_law_cell" ["script", "k"] (spCell K)) (C__law_digits : Cal P w K mg base 1 "_law_digits" ["cell", "sizes"] (spDigits K))
    (C__law_grow : Cal P w K mg base 13 "_law_grow" ["rows", "at", "many", "deep", "mode"] (spGrow 11)) (C__law_written : Cal P w K mg base 12 "_law_written" ["plan"] (spFmt 12)) (C_format_plan : Cal P w K mg base 12 "format_plan" ["plan"] (spFmt 12))
    (C__law_is_text : Cal P w K mg base 1 "_law_is_text" ["told", "text"] spIsText) (C__law_parsed : Cal P w K mg base 42 "_law_parsed" ["text"] spParse) (C__law_same : Cal P w K mg base 14 "_law_same" ["told", "due"] (spSame 12)) :
    FnOk P w K mg base CX0 43 f fd ["script"] (spLaw K) := by
  refine F.ok sc_law (fun vs H Q E h => ?_) (fun cdv A outer s H vs Q E hr h => ?_)
  · obtain ⟨a, ns, rfl, _⟩ := h
    rfl
  obtain ⟨a, ns, rfl, hS, h63, q⟩ := h
  refine ⟨_, (pss_cons (ps_set (i := 1) sc_law.nd rfl (Or.inl rfl) (pe_cal C__law_digits (hr.mono (by omega)) rfl (pa_cons (pe_cal C__law_cell (hr.mono (by omega)) rfl (pa_cons (pv 0) (pa_cons pe_int pa_nil))) (pa_cons (pe_lst (pa_cons pe_int (pa_cons pe_int (pa_cons pe_int (pa_cons pe_int pa_nil))))) pa_nil))))
  (pss_cons (ps_set (i := 2) sc_law.nd rfl (Or.inr rfl) (pe_op op_cat (pe_lst (pa_cons pe_int (pa_cons pe_int (pa_cons pe_int (pa_cons pe_int (pa_cons pe_int (pa_cons pe_int (pa_cons pe_int pa_nil)))))))) (pe_op op_rep (pe_lst (pa_cons pe_int pa_nil)) pe_int)))
  (pss_cons (ps_setLc (i := 3) (own := [("k", 10)]) (g := gName 10) (tt := tYes) (by rfl) sc_law.nd rfl rfl (sw_true rfl rfl rfl (by decide +kernel)) (pi_range1 (by rfl) T.b_range (pa_cons pe_int pa_nil)) (blkOk_by (N := N_law) (sc := defScope s_law) (by decide +kernel)) (fun _ _ _ _ _ => pg_name (i := 10) sc_law.nd rfl (Or.inl rfl)) (fun _ _ _ _ _ => pts_nil) (fun _ _ _ _ _ => (pe_cal C__law_digits (hr.mono (by omega)) rfl (pa_cons (pe_cal C__law_cell (hr.mono (by omega)) rfl (pa_cons (pv 0) (pa_cons (pe_op op_add pe_int (pv 10)) pa_nil))) (pa_cons (pv 2) pa_nil)))))
  (pss_cons (ps_set (i := 4) sc_law.nd rfl (Or.inl rfl) (pe_ix ix_list (pe_lst (pa_cons (pe_op op_add pe_int (pe_op op_mod (pe_callTy call_int1 (by rfl) T.b_int (by decide +kernel) (pa_cons (pe_ix ix_list (pv 1) pe_int (fun _ _ => rfl)) pa_nil)) pe_int)) (pa_cons (pe_op op_add pe_int (pe_ix ix_list (pv 1) pe_int (fun _ _ => rfl))) (pa_cons pe_int (pa_cons pe_int pa_nil))))) (pe_callB (call_max2 rfl) (by rfl) T.b_max (by decide +kernel) (pa_cons pe_int (pa_cons (pe_op op_sub (pe_ix ix_list (pv 1) pe_int (fun _ _ => rfl)) pe_int) pa_nil))) (fun _ _ => rfl)))
  (pss_cons (ps_set (i := 5) sc_law.nd rfl (Or.inl rfl) pe_int)
  (C8.pss_cut (ps_if (pt_cmpR op_lt (pe_ix ix_list (pv 1) pe_int (fun _ _ => rfl)) pe_int (nomark _)) (pss_one (ps_set (i := 5) sc_law.nd rfl (Or.inl rfl) (pe_op op_sub pe_int (pe_ix ix_list (pv 1) pe_int (fun _ _ => rfl))))) pss_nil)
  (pss_cons (ps_set (i := 6) sc_law.nd rfl (Or.inl rfl) (pe_cal C__law_grow (hr.mono (by omega)) rfl (pa_cons (pv 3) (pa_cons pe_int (pa_cons (pv 4) (pa_cons (pv 5) (pa_cons (pe_callB (call_max2 rfl) (by rfl) T.b_max (by decide +kernel) (pa_cons pe_int (pa_cons (pe_op op_sub (pe_ix ix_list (pv 1) pe_int (fun _ _ => rfl)) pe_int) pa_nil))) pa_nil)))))))
  (pss_cons (ps_set (i := 7) sc_law.nd rfl (Or.inr rfl) (pe_lst (pa_cons (pv 6) (pa_cons (pe_cal C__law_grow (hr.mono (by omega)) rfl (pa_cons (pv 3) (pa_cons pe_int (pa_cons (pe_op op_add pe_int (pe_ix ix_list (pv 1) pe_int (fun _ _ => rfl))) (pa_cons pe_int (pa_cons pe_int pa_nil)))))) pa_nil))))
  (C8.pss_cut (ps_if (pt_cmpR op_ne (pe_ix ix_tup (pv 6) pe_int (fun _ _ => rfl)) pe_str (nomark _)) (pss_one (ps_expr (pe_bm PySem.F.plainAttrs_list PySem.F.slot_list_append PySem.F.type_list_append mt_append (pv 7) (pa_cons (pe_ix ix_tup (pv 6) (pe_op op_sub (pe_callB call_len_seq (by rfl) T.b_len PySem.boot_len (pa_cons (pv 6) pa_nil)) pe_int) (fun _ _ => rfl)) pa_nil)))) pss_nil)
  (pss_cons (ps_set (i := 8) sc_law.nd rfl (Or.inr rfl) (pe_lc (own := [("one", 11)]) (g := gName 11) (tt := tYes) (by rfl) sc_law.nd (pi_list (pv 7)) (blkOk_by (N := N_law) (sc := defScope s_law) (by decide +kernel)) (fun _ _ _ _ _ => pg_name (i := 11) sc_law.nd rfl (Or.inl rfl)) (fun _ _ _ _ _ => pts_nil) (fun _ _ _ _ _ => (pe_cal C__law_written (hr.mono (by omega)) rfl (pa_cons (pv 11) pa_nil)))))
  (pss_cons (ps_if (pt_not (pt_val (pe_callB (cr_all rfl) (by rfl) T.b_all (by decide +kernel) (pa_cons (pe_lc (own := [("k", 10)]) (g := gName 10) (tt := tYes) (by rfl) sc_law.nd (pi_range1 (by rfl) T.b_range (pa_cons (pe_callB call_len_seq (by rfl) T.b_len PySem.boot_len (pa_cons (pv 7) pa_nil)) pa_nil)) (blkOk_by (N := N_law) (sc := defScope s_law) (by decide +kernel)) (fun _ _ _ _ _ => pg_name (i := 10) sc_law.nd rfl (Or.inl rfl)) (fun _ _ _ _ _ => pts_nil) (fun _ _ _ _ _ => (pe_cal C__law_is_text (hr.mono (by omega)) rfl (pa_cons (pe_cal C_format_plan (hr.mono (by omega)) rfl (pa_cons (pe_ix (ix_listK (K := K) rfl) (pv 7) (pv 10) (fun _ _ => rfl)) pa_nil)) (pa_cons (pe_ix (ix_listK (K := K) rfl) (pv 8) (pv 10) (fun _ _ => rfl)) pa_nil))))) pa_nil)))) (pss_one (ps_ret pe_bl)) pss_nil)
  (pss_cons (ps_if (pt_not (pt_val (pe_callB (cr_all rfl) (by rfl) T.b_all (by decide +kernel) (pa_cons (pe_lc (own := [("k", 10)]) (g := gName 10) (tt := tYes) (by rfl) sc_law.nd (pi_range1 (by rfl) T.b_range (pa_cons (pe_callB call_len_seq (by rfl) T.b_len PySem.boot_len (pa_cons (pv 7) pa_nil)) pa_nil)) (blkOk_by (N := N_law) (sc := defScope s_law) (by decide +kernel)) (fun _ _ _ _ _ => pg_name (i := 10) sc_law.nd rfl (Or.inl rfl)) (fun _ _ _ _ _ => pts_nil) (fun _ _ _ _ _ => (pe_cal C__law_same (hr.mono (by omega)) rfl (pa_cons (pe_cal C__law_parsed (hr.mono (by omega)) rfl (pa_cons (pe_ix (ix_listK (K := K) rfl) (pv 8) (pv 10) (fun _ _ => rfl)) pa_nil)) (pa_cons (pe_ix (ix_listK (K := K) rfl) (pv 7) (pv 10) (fun _ _ => rfl)) pa_nil))))) pa_nil)))) (pss_one (ps_ret pe_bl)) pss_nil)
  (pss_cons (ps_set (i := 9) sc_law.nd rfl (Or.inl rfl) (pe_cal C__law_parsed (hr.mono (by omega)) rfl (pa_cons (pe_ix ix_list (pv 8) pe_int (fun _ _ => rfl)) pa_nil)))
  (pss_cons (ps_if (PW.pt (pw_or (pt_not (pt_val (pe_cal C__law_same (hr.mono (by omega)) rfl (pa_cons (pv 9) (pa_cons (pv 6) pa_nil))))) (pw_or1 (pt_not (pt_val (pe_cal C__law_is_text (hr.mono (by omega)) rfl (pa_cons (pe_cal C_format_plan (hr.mono (by omega)) rfl (pa_cons (pv 9) pa_nil)) (pa_cons (pe_ix ix_list (pv 8) pe_int (fun _ _ => rfl)) pa_nil)))))))) (pss_one (ps_ret pe_bl)) pss_nil)
  (pss_one (ps_ret (pe_cal C__law_is_text (hr.mono (by omega)) rfl (pa_cons (pe_cal C_format_plan (hr.mono (by omega)) rfl (pa_cons (pv 6) pa_nil)) (pa_cons (pe_ix ix_list (pv 8) pe_int (fun _ _ => rfl)) pa_nil))))))))))))))))))), ?_⟩
  -- shape
  refine ⟨_, rfl, a, ns, 0, rfl, hS, by decide, by decide, fun c0 => ?_⟩
  refine ⟨line_ge (by show 4 ≤ _; omega), fun p1 hp1 => ?_⟩
  refine ⟨c0, p1, [8, 40, 9, 12], rfl, SqL.of upd_same, by decide, by decide +kernel, fun ps ds hps hdig => ?_⟩
  have g1 := (same_new hp1 (.lst [V.int 8, V.int 40, V.int 9, V.int 12])).trans (same_new hps (.lst (ds.map V.int)))
  have hshape : upd (upd H p1 (.lst [V.int 8, V.int 40, V.int 9, V.int 12])) ps (.lst (ds.map V.int)) ps = some (.lst (ds.map V.int)) := upd_same
  generalize upd (upd H p1 (.lst [V.int 8, V.int 40, V.int 9, V.int 12])) ps (.lst (ds.map V.int)) = H1 at g1 hshape
  have dig : ∀ (i : Nat) (z : Int), ([8, 40, 9, 12] : List Int)[i]? = some z → ∃ n, (ds.map V.int)[i]? = some (.int n) ∧ 0 ≤ n ∧ n < z := fun i z h => by
    obtain ⟨n, h1, h2, h3⟩ := hdig.get h
    exact ⟨n, int_at h1, h2, h3⟩
  obtain ⟨d0, e0, a0, b0⟩ := dig 0 8 rfl
  obtain ⟨d1, e1, a1, b1⟩ := dig 1 40 rfl
  obtain ⟨d2, e2, a2, b2⟩ := dig 2 9 rfl
  obtain ⟨d3, e3, a3, b3⟩ := dig 3 12 rfl
  -- sizes
  refine ⟨line_ge (by show 7 ≤ _; omega), fun p3 hp3 => ?_⟩
  refine ⟨line_ge (by show 1 ≤ _; omega), fun p4 hp4 => ?_⟩
  refine ⟨p4, 8, _, rfl, rfl, upd_same, by decide, by decide, line_ge (by show 1 * 8 ≤ _; omega), fun p5 hp5 => ?_⟩
  refine ⟨p3, p5, _, _, rfl, rfl, same_new hp5 _ _ _ (same_new hp4 _ _ _ upd_same), upd_same, line_ge (by show 7 + 8 ≤ _; omega), fun pz hpz => ?_⟩
  have g2 := g1.trans ((same_new hp3 _).trans ((same_new hp4 _).trans ((same_new hp5 _).trans (same_new hpz (.lst (growSizes.map V.int))))))
  have gs := ((same_new hp3 _).trans ((same_new hp4 _).trans ((same_new hp5 _).trans (same_new hpz (.lst (growSizes.map V.int))))))
  refine ⟨52, rfl, by decide, by decide, fun D hD => ?_⟩
  have hD1 : H1 D = none := gs.free hD
  have hzD : pz ≠ D := ne_of_none upd_same hD
  refine lc_range (lo := 0) (n := 52) (fun i H' => Same H1 H' ∧ H' pz = some (.lst (growSizes.map V.int)) ∧ ∃ as : List Addr, as.length = i ∧ H' D = some (.lst (as.map V.ref)) ∧ ∀ b ∈ as, b ≠ D ∧ ∃ ds : List Int, H' b = some (.lst (ds.map V.int)) ∧ Dig ds growSizes)
    ⟨same_at gs hD1, same_new hD _ _ _ upd_same, [], rfl, upd_same, (fun b hb => nomatch hb)⟩ ?_ ?_
  · rintro i H3 hlt ⟨g3, hz3, as, has, hd3, hall⟩
    refine ⟨rfl, lc_yes ?_⟩
    refine ⟨_, rfl, _, rfl, _, _, rfl, rfl, a, ns, _, rfl, g3.seq (g1.seq hS), by omega, by omega, fun c => ?_⟩
    refine ⟨_, rfl, c, pz, growSizes, rfl, SqL.of hz3, by decide, grow_bounds, fun p es hp hes => ?_⟩
    have hpD : p ≠ D := Ne.symm (ne_of_none hd3 hp)
    refine ⟨_, same_new hp _ _ _ hd3, by rw [List.length_map, has]; exact small1000 (by omega), same_at (g3.trans (same_new hp _)) hD1, ?_, as ++ [p], by rw [List.length_append, has]; rfl, by rw [upd_same, List.map_append]; rfl, fun b hb => ?_⟩
    · rw [upd_ne hzD]
      exact same_new hp _ _ _ hz3
    · rcases List.mem_append.mp hb with hb | hb
      · obtain ⟨hbD, es', hb1, hb2⟩ := hall b hb
        exact ⟨hbD, es', by rw [upd_ne hbD]; exact same_new hp _ _ _ hb1, hb2⟩
      · rw [List.mem_singleton.mp hb]
        exact ⟨hpD, es, by rw [upd_ne hpD]; exact upd_same, hes⟩
  rintro H3 ⟨g3, _, as, has, hd3, hall⟩
  have hR : RowsAt H3 D as := ⟨hd3, fun b hb => (hall b hb).2⟩
  have hsh3 := g3 _ _ hshape
  -- many
  refine ⟨_, rfl, ps, _, 1, _, rfl, rfl, SqL.of hsh3, at_pos (by decide) e1, .inl ⟨_, rfl, _, _, rfl, rfl, (by show (0 : Int) < 14; decide), _, _, rfl, rfl, ?_⟩⟩
  refine ⟨_, rfl, ps, _, 1, _, rfl, rfl, SqL.of hsh3, at_pos (by decide) e1, _, _, rfl, rfl, line_ge (by show 4 ≤ _; omega), fun p7 hp7 => ?_⟩
  have hsh4 := same_new hp7 (.lst [V.int (1 + d1 % 14), V.int (1 + d1), V.int 40, V.int 12]) _ _ hsh3
  obtain ⟨many, hmany, hm1, hm40⟩ := many_at a0 b0 a1 b1
  refine ⟨_, rfl, ps, _, 0, _, rfl, rfl, SqL.of hsh4, at_pos (by decide) e0, _, _, rfl, rfl, _, _, rfl, p7, _, _, _, rfl, rfl, SqL.of upd_same, hmany, ?_⟩
  have hR4 := hR.same (same_new hp7 (.lst [V.int (1 + d1 % 14), V.int (1 + d1), V.int 40, V.int 12]))
  generalize upd H3 p7 (.lst [V.int (1 + d1 % 14), V.int (1 + d1), V.int 40, V.int 12]) = H4 at hsh4 hR4
  -- deep
  refine ⟨fun σ H' => ∃ deep : Int, σ = [some (.ref a), some (.ref ps), some (.ref pz), some (.ref D), some (.int many), some (.int deep), none, none, none, none, none, none] ∧ deep ≤ 12 ∧ H' = H4, ?_, ?_⟩
  · refine ⟨_, rfl, ps, _, 0, _, rfl, rfl, SqL.of hsh4, at_pos (by decide) e0, _, _, rfl, rfl, _, rfl, ?_⟩
    refine ite2 (fun _ => ?_) (fun _ => ?_)
    · refine ⟨_, rfl, ps, _, 2, _, rfl, rfl, SqL.of hsh4, at_pos (by decide) e2, _, _, rfl, rfl, ?_⟩
      exact ⟨_, rfl, by omega, rfl⟩
    · exact ⟨_, rfl, Int.le_refl 12, rfl⟩
  rintro σ H' ⟨deep, rfl, hdeep, rfl⟩
  -- plan
  refine ⟨_, rfl, _, rfl, _, rfl, _, rfl, ps, _, 0, _, rfl, rfl, SqL.of hsh4, at_pos (by decide) e0, _, _, rfl, rfl, _, _, rfl, ?_⟩
  refine ⟨D, as, 0, many, deep, _, rfl, hR4, by decide, by omega, by omega, by omega, fun pl p H5 g5 hp hg hh hc => ?_⟩
  have hsh5 := g5 _ _ hsh4
  have hR5 := hR4.same g5
  refine ⟨_, rfl, _, rfl, _, rfl, ps, _, 3, _, rfl, rfl, SqL.of hsh5, at_pos (by decide) e3, _, _, rfl, rfl, D, as, 40, 1 + d3, 12, 0, rfl, hR5, by decide, ?_, ?_, by decide, fun pl2 p2 H6 g6 hp2 hg2 hh2 hc2 => ?_⟩
  · omega
  · omega
  refine ⟨two_line, fun pP hpP => ?_⟩
  have f1 : Fine H6 (pl, p) := ⟨hp.same g6, hg, by show pl.height ≤ 12; omega, by show pl.count ≤ 40; omega⟩
  have f2 : Fine H6 (pl2, p2) := ⟨hp2, hg2, by show pl2.height ≤ 12; omega, by show pl2.count ≤ 40; omega⟩
  refine ⟨fun σ H' => ∃ pls, σ = [some (.ref a), some (.ref ps), some (.ref pz), some (.ref D), some (.int many), some (.int deep), some (.ref p), some (.ref pP), none, none, none, none] ∧ Drawn H' pP p pl pls, ?_, ?_⟩
  · have gP := same_new hpP (.lst [V.ref p, V.ref p2])
    have base2 : Drawn (upd H6 pP (.lst [V.ref p, V.ref p2])) pP p pl [(pl, p), (pl2, p2)] := ⟨upd_same, fun x hx => by
      rcases List.mem_cons.mp hx with rfl | hx
      · exact f1.same gP
      · rw [List.mem_singleton.mp hx]
        exact f2.same gP, rfl, by simp⟩
    rcases last_of (pl := pl) (p := p) f1.at_ hg with ⟨n, rfl⟩ | ⟨tag, xs, x, pa, htag, ho, hx, hgx, hhx, hcx⟩
    · have ho := gP _ _ (f1.at_ : H6 p = _)
      refine ⟨_, rfl, p, _, 0, _, rfl, rfl, SqT.of ho, at_pos (by decide) rfl, rfl, _, rfl, ifF (by decide +kernel) ?_⟩
      exact ⟨_, rfl, base2⟩
    · have ho' := gP _ _ ho
      refine ⟨_, rfl, p, _, 0, _, rfl, rfl, SqT.of ho', at_pos (by decide) rfl, rfl, _, rfl, ifT (by rw [dec_ne (fun e => htag (V.str.inj e))]; rfl) ?_⟩
      refine ⟨_, rfl, .inl ⟨rfl, _, SqL.of upd_same⟩, _, rfl, _, rfl, p, _, rfl, .inr (SqT.of ho'), _, _, rfl, rfl, p, _, _, _, rfl, rfl, SqT.of ho', last_at _ _ _, pP, _, _, rfl, rfl, upd_same, small1000 (by simp), ?_⟩
      · refine ⟨[(pl, p), (pl2, p2), (x, pa)], rfl, ?_⟩
        rw [upd_upd]
        have gQ := same_new hpP (.lst ([V.ref p, V.ref p2] ++ [V.ref pa]))
        exact ⟨upd_same, fun y hy => by
          rcases List.mem_cons.mp hy with rfl | hy
          · exact f1.same gQ
          rcases List.mem_cons.mp hy with rfl | hy
          · exact f2.same gQ
          · rw [List.mem_singleton.mp hy]
            exact ⟨hx.same gQ, hgx, by show x.height ≤ 12; have h1 : pl.height ≤ 12 := f1.high; omega, by show x.count ≤ 40; have h1 : pl.count ≤ 40 := f1.many; omega⟩, rfl, by simp⟩
  rintro σ H7 ⟨pls, rfl, dr⟩
  have len3 := dr.le
  have at_ref : ∀ {i : Nat} {y : Plan × Addr}, pls[i]? = some y → (pls.map fun x => V.ref x.2)[i]? = some (.ref y.2) := fun h => by rw [List.getElem?_map, h]; rfl
  have at_txt : ∀ {i : Nat} {y : Plan × Addr}, pls[i]? = some y → (txts pls)[i]? = some (.str (S (fmt y.1))) := fun h => by unfold txts; rw [List.getElem?_map, h]; rfl
  -- texts
  refine ⟨_, rfl, pP, rfl, ⟨_, SqL.of dr.lst⟩, fun D2 hD2 => ?_⟩
  refine lc_list (K := K) (a := pP) (xs := pls.map fun x => V.ref x.2) (fun i H' => Same H7 H' ∧ H' D2 = some (.lst ((txts pls).take i))) ⟨same_new hD2 _, upd_same⟩ (fun i H' _ ⟨g, _⟩ => SqL.of (g _ _ dr.lst)) ?_ ?_
  · rintro i x H8 hx ⟨g8, hd2⟩
    obtain ⟨y, hy, rfl⟩ := pls_at hx
    have fy := (dr.all y (List.mem_of_getElem? hy)).same g8
    have hi : i < 3 := by
      have := (List.getElem?_eq_some_iff.mp hy).1
      omega
    refine ⟨rfl, lc_yes ?_⟩
    refine ⟨_, rfl, y.1, y.2, rfl, fy.at_, fy.good, fy.high, by have := fy.many; omega, ?_⟩
    refine ⟨_, hd2, small1000 (by rw [List.length_take]; omega), same_at g8 hD2, ?_⟩
    rw [upd_same, take_snoc (at_txt hy)]
  rintro H8 ⟨g8, hd2⟩
  rw [List.length_map, show pls.length = (txts pls).length by unfold txts; rw [List.length_map], List.take_length] at hd2
  have dr8 := dr.same g8
  -- the first all
  refine ⟨_, rfl, pP, _, rfl, .inl (SqL.of dr8.lst), _, rfl, by rw [List.length_map]; omega, by rw [List.length_map]; omega, fun D3 hD3 => ?_⟩
  rw [List.length_map, Int.toNat_natCast]
  refine lc_range (lo := 0) (n := pls.length) (fun i H' => Same H8 H' ∧ H' D3 = some (.lst (List.replicate i (V.bl true)))) ⟨same_new hD3 _, upd_same⟩ ?_ ?_
  · rintro i H9 hlt ⟨g9, hd3⟩
    obtain ⟨y, hy⟩ : ∃ y, pls[i]? = some y := ⟨pls[i], List.getElem?_eq_getElem hlt⟩
    have ei : ((0 : Int) + (i : Nat)).toNat = i := by omega
    have fy := (dr8.all y (List.mem_of_getElem? hy)).same g9
    refine ⟨rfl, lc_yes ?_⟩
    refine ⟨_, rfl, _, rfl, pP, _, _, _, rfl, rfl, SqL.of (g9 _ _ dr8.lst), at_pos (by omega) (by rw [ei]; exact at_ref hy), ?_⟩
    refine ⟨y.1, y.2, rfl, fy.at_, fy.good, fy.high, by have := fy.many; omega, ?_⟩
    refine ⟨_, rfl, _, rfl, D2, _, _, _, rfl, rfl, SqL.of (g9 _ _ hd2), at_pos (by omega) (by rw [ei]; exact at_txt hy), _, rfl, ?_⟩
    refine ⟨_, hd3, by rw [List.length_replicate]; exact small1000 (by omega), same_at g9 hD3, ?_⟩
    rw [upd_same, List.replicate_succ']
  rintro H9 ⟨g9, hd3⟩
  refine ⟨D3, List.replicate pls.length true, rfl, SqL.of (by rw [hd3, List.map_replicate]), ?_⟩
  rw [all_true]
  refine ⟨_, rfl, ifF rfl ?_⟩
  have dr9 := dr8.same g9
  have hd29 := g9 _ _ hd2
  -- the second all
  refine ⟨_, rfl, pP, _, rfl, .inl (SqL.of dr9.lst), _, rfl, by rw [List.length_map]; omega, by rw [List.length_map]; omega, fun D4 hD4 => ?_⟩
  rw [List.length_map, Int.toNat_natCast]
  refine lc_range (lo := 0) (n := pls.length) (fun i H' => Same H9 H' ∧ H' D4 = some (.lst (List.replicate i (V.bl true)))) ⟨same_new hD4 _, upd_same⟩ ?_ ?_
  · rintro i H10 hlt ⟨g10, hd4⟩
    obtain ⟨y, hy⟩ : ∃ y, pls[i]? = some y := ⟨pls[i], List.getElem?_eq_getElem hlt⟩
    have ei : ((0 : Int) + (i : Nat)).toNat = i := by omega
    have fy := (dr9.all y (List.mem_of_getElem? hy)).same g10
    refine ⟨rfl, lc_yes ?_⟩
    refine ⟨_, rfl, _, rfl, D2, _, _, _, rfl, rfl, SqL.of (g10 _ _ hd29), at_pos (by omega) (by rw [ei]; exact at_txt hy), ?_⟩
    refine ⟨y.1, rfl, fy.good, fy.high, fy.many, fun p' H11 g11 hp' => ?_⟩
    refine ⟨_, rfl, _, rfl, pP, _, _, _, rfl, rfl, SqL.of (g11 _ _ (g10 _ _ dr9.lst)), at_pos (by omega) (by rw [ei]; exact at_ref hy), ?_⟩
    refine ⟨_, _, rfl, PlanAt.sameD fy.high hp' (fy.at_.same g11), fun H12 g12 => ?_⟩
    refine ⟨_, g12 _ _ (g11 _ _ hd4), by rw [List.length_replicate]; exact small1000 (by omega), same_at (g10.trans (g11.trans g12)) hD4, ?_⟩
    rw [upd_same, List.replicate_succ']
  rintro H10 ⟨g10, hd4⟩
  refine ⟨D4, List.replicate pls.length true, rfl, SqL.of (by rw [hd4, List.map_replicate]), ?_⟩
  rw [all_true]
  refine ⟨_, rfl, ifF rfl ?_⟩
  have dr10 := dr9.same g10
  have f0 := dr10.all _ (List.mem_of_getElem? dr10.hd)
  have hd210 := g10 _ _ hd29
  have t0 := at_txt dr10.hd
  -- back
  refine ⟨_, rfl, D2, _, 0, _, rfl, rfl, SqL.of hd210, at_pos (by decide) t0, ?_⟩
  refine ⟨pl, rfl, f0.good, f0.high, f0.many, fun pb H11 g11 hpb => ?_⟩
  have f1 := f0.same g11
  refine ⟨_, rfl, _, rfl, _, _, rfl, PlanAt.sameD f1.high hpb f1.at_, fun H12 g12 => ?_⟩
  refine ⟨_, rfl, ifF rfl ?_⟩
  have f2 := f1.same g12
  refine ⟨_, rfl, pl, pb, rfl, hpb.same g12, f2.good, f2.high, by have := f2.many; show pl.count ≤ 100; omega, ?_⟩
  refine ⟨_, rfl, D2, _, 0, _, rfl, rfl, SqL.of (g12 _ _ (g11 _ _ hd210)), at_pos (by decide) t0, _, rfl, _, rfl, ifF rfl ?_⟩
  refine ⟨_, rfl, pl, p, rfl, f2.at_, f2.good, f2.high, by have := f2.many; show pl.count ≤ 100; omega, ?_⟩
  refine ⟨_, rfl, D2, _, 0, _, rfl, rfl, SqL.of (g12 _ _ (g11 _ _ hd210)), at_pos (by decide) t0, _, rfl, ?_⟩
  exact q H12
end
end P65
namespace P65
open PySem PySem.Spec PyProof.Rows L2 SX
theorem all_mk {l : PySem.W.OpenLaw} {w : World} {K : PySem.W.Frag} {h : Heap} {mg : Str → Option Value} {fa f1 f2 f3 f4 f5 f6 f7 f8 f9 f10 f11 f12 f13 f14 f15 f16 f17 f18 f19 f20 f21 f22 f23 : Addr} (X : K.In h) (G : h.Ns mainGlobals mg) (hfa : mg "law" = some (.ref fa))
    {od1 an1 od2 an2 od3 an3 od4 an4 od5 an5 od6 an6 od7 an7 od8 an8 od9 an9 od10 an10 od11 an11 od12 an12 od13 an13 od14 an14 od15 an15 od16 an16 od17 an17 od18 an18 od19 an19 od20 an20 od21 an21 od22 an22 od23 an23 : Option Addr}
    {sl1 sl2 sl3 sl4 sl5 sl6 sl7 sl8 sl9 sl10 sl11 sl12 sl13 sl14 sl15 sl16 sl17 sl18 sl19 sl20 sl21 sl22 sl23 : Array (Option Value)} {oc1 kV1 dc1 pm1 cd1 ct1 oc2 kV2 dc2 pm2 cd2 ct2 oc3 kV3 dc3 pm3 cd3 ct3 oc4 kV4 dc4 pm4 cd4 ct4 oc5 kV5 dc5 pm5 cd5 ct5 oc6 kV6 dc6 pm6 cd6 ct6 oc7 kV7 dc7 pm7 cd7 ct7 oc8 kV8 dc8 pm8 cd8 ct8 oc9 kV9 dc9 pm9 cd9 ct9 oc10 kV10 dc10 pm10 cd10 ct10 oc11 kV11 dc11 pm11 cd11 ct11 oc12 kV12 dc12 pm12 cd12 ct12 oc13 kV13 dc13 pm13 cd13 ct13 oc14 kV14 dc14 pm14 cd14 ct14 oc15 kV15 dc15 pm15 cd15 ct15 oc16 kV16 dc16 pm16 cd16 ct16 oc17 kV17 dc17 pm17 cd17 ct17 oc18 kV18 dc18 pm18 cd18 ct18 oc19 kV19 dc19 pm19 cd19 ct19 oc20 kV20 dc20 pm20 cd20 ct20 oc21 kV21 dc21 pm21 cd21 ct21 oc22 kV22 dc22 pm22 cd22 ct22 oc23 kV23 dc23 pm23 cd23 ct23 : Value} {tk0 tk1 tk2 tk3 tk4 tk5 : Tok}
    (a1 : PySem.W.nsIn K mainGlobals "whole_of" = some (some (.ref f1))) (l1 : K.lookup f1 = some ⟨oc1, od1, .func (PySem.W.fnOf "whole_of" "whole_of" (defArgs s_whole_of) (defBody s_whole_of) (defScope s_whole_of) .none kV1 dc1 pm1 an1 cd1 ct1), sl1⟩) (c1 : PySem.W.codeIn K cd1 "whole_of" = true) (k1 : PySem.W.keepIn K (.ref f1) = true)
    (a2 : PySem.W.nsIn K mainGlobals "number_of" = some (some (.ref f2))) (l2 : K.lookup f2 = some ⟨oc2, od2, .func (PySem.W.fnOf "number_of" "number_of" (defArgs s_number_of) (defBody s_number_of) (defScope s_number_of) .none kV2 dc2 pm2 an2 cd2 ct2), sl2⟩) (c2 : PySem.W.codeIn K cd2 "number_of" = true) (k2 : PySem.W.keepIn K (.ref f2) = true)
    (a3 : PySem.W.nsIn K mainGlobals "format_plan" = some (some (.ref f3))) (l3 : K.lookup f3 = some ⟨oc3, od3, .func (PySem.W.fnOf "format_plan" "format_plan" (defArgs s_format_plan) (defBody s_format_plan) (defScope s_format_plan) .none kV3 dc3 pm3 an3 cd3 ct3), sl3⟩) (c3 : PySem.W.codeIn K cd3 "format_plan" = true) (k3 : PySem.W.keepIn K (.ref f3) = true)
    (a4 : PySem.W.nsIn K mainGlobals "tuples_in" = some (some (.ref f4))) (l4 : K.lookup f4 = some ⟨oc4, od4, .func (PySem.W.fnOf "tuples_in" "tuples_in" (defArgs s_tuples_in) (defBody s_tuples_in) (defScope s_tuples_in) .none kV4 dc4 pm4 an4 cd4 ct4), sl4⟩) (c4 : PySem.W.codeIn K cd4 "tuples_in" = true) (k4 : PySem.W.keepIn K (.ref f4) = true)
    (a5 : PySem.W.nsIn K mainGlobals "longest" = some (some (.ref f5))) (l5 : K.lookup f5 = some ⟨oc5, od5, .func (PySem.W.fnOf "longest" "longest" (defArgs s_longest) (defBody s_longest) (defScope s_longest) .none kV5 dc5 pm5 an5 cd5 ct5), sl5⟩) (c5 : PySem.W.codeIn K cd5 "longest" = true) (k5 : PySem.W.keepIn K (.ref f5) = true)
    (a6 : PySem.W.nsIn K mainGlobals "behind" = some (some (.ref f6))) (l6 : K.lookup f6 = some ⟨oc6, od6, .func (PySem.W.fnOf "behind" "behind" (defArgs s_behind) (defBody s_behind) (defScope s_behind) .none kV6 dc6 pm6 an6 cd6 ct6), sl6⟩) (c6 : PySem.W.codeIn K cd6 "behind" = true) (k6 : PySem.W.keepIn K (.ref f6) = true)
    (a7 : PySem.W.nsIn K mainGlobals "read_number" = some (some (.ref f7))) (l7 : K.lookup f7 = some ⟨oc7, od7, .func (PySem.W.fnOf "read_number" "read_number" (defArgs s_read_number) (defBody s_read_number) (defScope s_read_number) .none kV7 dc7 pm7 an7 cd7 ct7), sl7⟩) (c7 : PySem.W.codeIn K cd7 "read_number" = true) (k7 : PySem.W.keepIn K (.ref f7) = true)
    (a8 : PySem.W.nsIn K mainGlobals "read_join" = some (some (.ref f8))) (l8 : K.lookup f8 = some ⟨oc8, od8, .func (PySem.W.fnOf "read_join" "read_join" (defArgs s_read_join) (defBody s_read_join) (defScope s_read_join) .none kV8 dc8 pm8 an8 cd8 ct8), sl8⟩) (c8 : PySem.W.codeIn K cd8 "read_join" = true) (k8 : PySem.W.keepIn K (.ref f8) = true)
    (a9 : PySem.W.nsIn K mainGlobals "read_scale" = some (some (.ref f9))) (l9 : K.lookup f9 = some ⟨oc9, od9, .func (PySem.W.fnOf "read_scale" "read_scale" (defArgs s_read_scale) (defBody s_read_scale) (defScope s_read_scale) .none kV9 dc9 pm9 an9 cd9 ct9), sl9⟩) (c9 : PySem.W.codeIn K cd9 "read_scale" = true) (k9 : PySem.W.keepIn K (.ref f9) = true)
    (a10 : PySem.W.nsIn K mainGlobals "read_thin" = some (some (.ref f10))) (l10 : K.lookup f10 = some ⟨oc10, od10, .func (PySem.W.fnOf "read_thin" "read_thin" (defArgs s_read_thin) (defBody s_read_thin) (defScope s_read_thin) .none kV10 dc10 pm10 an10 cd10 ct10), sl10⟩) (c10 : PySem.W.codeIn K cd10 "read_thin" = true) (k10 : PySem.W.keepIn K (.ref f10) = true)
    (a11 : PySem.W.nsIn K mainGlobals "read_word" = some (some (.ref f11))) (l11 : K.lookup f11 = some ⟨oc11, od11, .func (PySem.W.fnOf "read_word" "read_word" (defArgs s_read_word) (defBody s_read_word) (defScope s_read_word) .none kV11 dc11 pm11 an11 cd11 ct11), sl11⟩) (c11 : PySem.W.codeIn K cd11 "read_word" = true) (k11 : PySem.W.keepIn K (.ref f11) = true)
    (a12 : PySem.W.nsIn K mainGlobals "read_plan" = some (some (.ref f12))) (l12 : K.lookup f12 = some ⟨oc12, od12, .func (PySem.W.fnOf "read_plan" "read_plan" (defArgs s_read_plan) (defBody s_read_plan) (defScope s_read_plan) .none kV12 dc12 pm12 an12 cd12 ct12), sl12⟩) (c12 : PySem.W.codeIn K cd12 "read_plan" = true) (k12 : PySem.W.keepIn K (.ref f12) = true)
    (a13 : PySem.W.nsIn K mainGlobals "parse_plan" = some (some (.ref f13))) (l13 : K.lookup f13 = some ⟨oc13, od13, .func (PySem.W.fnOf "parse_plan" "parse_plan" (defArgs s_parse_plan) (defBody s_parse_plan) (defScope s_parse_plan) .none kV13 dc13 pm13 an13 cd13 ct13), sl13⟩) (c13 : PySem.W.codeIn K cd13 "parse_plan" = true) (k13 : PySem.W.keepIn K (.ref f13) = true)
    (a14 : PySem.W.nsIn K mainGlobals "_law_whole" = some (some (.ref f14))) (l14 : K.lookup f14 = some ⟨oc14, od14, .func (PySem.W.fnOf "_law_whole" "_law_whole" (defArgs s__law_whole) (defBody s__law_whole) (defScope s__law_whole) .none kV14 dc14 pm14 an14 cd14 ct14), sl14⟩) (c14 : PySem.W.codeIn K cd14 "_law_whole" = true) (k14 : PySem.W.keepIn K (.ref f14) = true)
    (a15 : PySem.W.nsIn K mainGlobals "_law_cell" = some (some (.ref f15))) (l15 : K.lookup f15 = some ⟨oc15, od15, .func (PySem.W.fnOf "_law_cell" "_law_cell" (defArgs s__law_cell) (defBody s__law_cell) (defScope s__law_cell) .none kV15 dc15 pm15 an15 cd15 ct15), sl15⟩) (c15 : PySem.W.codeIn K cd15 "_law_cell" = true) (k15 : PySem.W.keepIn K (.ref f15) = true)
    (a16 : PySem.W.nsIn K mainGlobals "_law_digits" = some (some (.ref f16))) (l16 : K.lookup f16 = some ⟨oc16, od16, .func (PySem.W.fnOf "_law_digits" "_law_digits" (defArgs s__law_digits) (defBody s__law_digits) (defScope s__law_digits) .none kV16 dc16 pm16 an16 cd16 ct16), sl16⟩) (c16 : PySem.W.codeIn K cd16 "_law_digits" = true) (k16 : PySem.W.keepIn K (.ref f16) = true)
    (a17 : PySem.W.nsIn K mainGlobals "_law_same" = some (some (.ref f17))) (l17 : K.lookup f17 = some ⟨oc17, od17, .func (PySem.W.fnOf "_law_same" "_law_same" (defArgs s__law_same) (defBody s__law_same) (defScope s__law_same) .none kV17 dc17 pm17 an17 cd17 ct17), sl17⟩) (c17 : PySem.W.codeIn K cd17 "_law_same" = true) (k17 : PySem.W.keepIn K (.ref f17) = true)
    (a18 : PySem.W.nsIn K mainGlobals "_law_name" = some (some (.ref f18))) (l18 : K.lookup f18 = some ⟨oc18, od18, .func (PySem.W.fnOf "_law_name" "_law_name" (defArgs s__law_name) (defBody s__law_name) (defScope s__law_name) .none kV18 dc18 pm18 an18 cd18 ct18), sl18⟩) (c18 : PySem.W.codeIn K cd18 "_law_name" = true) (k18 : PySem.W.keepIn K (.ref f18) = true)
    (a19 : PySem.W.nsIn K mainGlobals "_law_grow" = some (some (.ref f19))) (l19 : K.lookup f19 = some ⟨oc19, od19, .func (PySem.W.fnOf "_law_grow" "_law_grow" (defArgs s__law_grow) (defBody s__law_grow) (defScope s__law_grow) .none kV19 dc19 pm19 an19 cd19 ct19), sl19⟩) (c19 : PySem.W.codeIn K cd19 "_law_grow" = true) (k19 : PySem.W.keepIn K (.ref f19) = true)
    (a20 : PySem.W.nsIn K mainGlobals "_law_written" = some (some (.ref f20))) (l20 : K.lookup f20 = some ⟨oc20, od20, .func (PySem.W.fnOf "_law_written" "_law_written" (defArgs s__law_written) (defBody s__law_written) (defScope s__law_written) .none kV20 dc20 pm20 an20 cd20 ct20), sl20⟩) (c20 : PySem.W.codeIn K cd20 "_law_written" = true) (k20 : PySem.W.keepIn K (.ref f20) = true)
    (a21 : PySem.W.nsIn K mainGlobals "_law_is_text" = some (some (.ref f21))) (l21 : K.lookup f21 = some ⟨oc21, od21, .func (PySem.W.fnOf "_law_is_text" "_law_is_text" (defArgs s__law_is_text) (defBody s__law_is_text) (defScope s__law_is_text) .none kV21 dc21 pm21 an21 cd21 ct21), sl21⟩) (c21 : PySem.W.codeIn K cd21 "_law_is_text" = true) (k21 : PySem.W.keepIn K (.ref f21) = true)
    (a22 : PySem.W.nsIn K mainGlobals "_law_parsed" = some (some (.ref f22))) (l22 : K.lookup f22 = some ⟨oc22, od22, .func (PySem.W.fnOf "_law_parsed" "_law_parsed" (defArgs s__law_parsed) (defBody s__law_parsed) (defScope s__law_parsed) .none kV22 dc22 pm22 an22 cd22 ct22), sl22⟩) (c22 : PySem.W.codeIn K cd22 "_law_parsed" = true) (k22 : PySem.W.keepIn K (.ref f22) = true)
    (a23 : PySem.W.nsIn K mainGlobals "law" = some (some (.ref f23))) (l23 : K.lookup f23 = some ⟨oc23, od23, .func (PySem.W.fnOf "law" "law" (defArgs s_law) (defBody s_law) (defScope s_law) .none kV23 dc23 pm23 an23 cd23 ct23), sl23⟩) (c23 : PySem.W.codeIn K cd23 "law" = true) (k23 : PySem.W.keepIn K (.ref f23) = true)
    (z0 : PySem.W.nsIn K mainGlobals "len" = some none)
    (z1 : PySem.W.nsIn K mainGlobals "int" = some none)
    (z2 : PySem.W.nsIn K mainGlobals "str" = some none)
    (z3 : PySem.W.nsIn K mainGlobals "tuple" = some none)
    (z4 : PySem.W.nsIn K mainGlobals "bool" = some none)
    (z5 : PySem.W.nsIn K mainGlobals "isinstance" = some none)
    (z6 : PySem.W.nsIn K mainGlobals "range" = some none)
    (z7 : PySem.W.nsIn K mainGlobals "any" = some none)
    (z8 : PySem.W.nsIn K mainGlobals "all" = some none)
    (z9 : PySem.W.nsIn K mainGlobals "max" = some none)
    (y0 : PySem.W.nsIn K mainGlobals "DIGITS_reading" = some (some (.str "0123456789" tk0)))
    (y1 : PySem.W.nsIn K mainGlobals "DIGITS_plannotes" = some (some (.str "0123456789" tk1)))
    (y2 : PySem.W.nsIn K mainGlobals "LETTERS" = some (some (.str "abcdefghijklmnopqrstuvwxyz" tk2)))
    (y3 : PySem.W.nsIn K mainGlobals "MOST_LETTERS" = some (some (.int 8 tk3)))
    (y4 : PySem.W.nsIn K mainGlobals "MOST_DEPTH" = some (some (.int 12 tk4)))
    (y5 : PySem.W.nsIn K mainGlobals "MOST_TUPLES" = some (some (.int 40 tk5)))
    : ∃ fd : FuncData, (∀ (s : Shared) (v : Value), BindsTo s fd ⟨[v], []⟩ [("script", v)]) ∧ ∀ base : Heap, K.In base → base.Ns mainGlobals mg → FnOk l.prog w K mg base CX0 43 fa fd ["script"] (spLaw K) := by
  have e := hfa.symm.trans (PySem.W.mg_of X G a23)
  cases e
  have T : Txt mg := { b_len := PySem.W.mg_none_of X G z0, b_int := PySem.W.mg_none_of X G z1, b_str := PySem.W.mg_none_of X G z2, b_tuple := PySem.W.mg_none_of X G z3, b_bool := PySem.W.mg_none_of X G z4, b_isinstance := PySem.W.mg_none_of X G z5, b_range := PySem.W.mg_none_of X G z6, b_any := PySem.W.mg_none_of X G z7, b_all := PySem.W.mg_none_of X G z8, b_max := PySem.W.mg_none_of X G z9, b_DIGITS_reading := ⟨_, PySem.W.mg_of X G y0⟩, b_DIGITS_plannotes := ⟨_, PySem.W.mg_of X G y1⟩, b_LETTERS := ⟨_, PySem.W.mg_of X G y2⟩, b_MOST_LETTERS := ⟨_, PySem.W.mg_of X G y3⟩, b_MOST_DEPTH := ⟨_, PySem.W.mg_of X G y4⟩, b_MOST_TUPLES := ⟨_, PySem.W.mg_of X G y5⟩ }
  have F_whole_of := fun_mk (st := s_whole_of) l1 c1 k1
  have m_whole_of := PySem.W.mg_of X G a1
  have b_whole_of := F_whole_of.binds (ps := ["word"]) fun _ _ _ _ _ _ us hl => match us, hl with | [_], _ => rfl
  have F_number_of := fun_mk (st := s_number_of) l2 c2 k2
  have m_number_of := PySem.W.mg_of X G a2
  have b_number_of := F_number_of.binds (ps := ["word", "least"]) fun _ _ _ _ _ _ us hl => match us, hl with | [_, _], _ => rfl
  have F_format_plan := fun_mk (st := s_format_plan) l3 c3 k3
  have m_format_plan := PySem.W.mg_of X G a3
  have b_format_plan := F_format_plan.binds (ps := ["plan"]) fun _ _ _ _ _ _ us hl => match us, hl with | [_], _ => rfl
  have F_tuples_in := fun_mk (st := s_tuples_in) l4 c4 k4
  have m_tuples_in := PySem.W.mg_of X G a4
  have b_tuples_in := F_tuples_in.binds (ps := ["plan"]) fun _ _ _ _ _ _ us hl => match us, hl with | [_], _ => rfl
  have F_longest := fun_mk (st := s_longest) l5 c5 k5
  have m_longest := PySem.W.mg_of X G a5
  have b_longest := F_longest.binds (ps := ["text", "at", "signs"]) fun _ _ _ _ _ _ us hl => match us, hl with | [_, _, _], _ => rfl
  have F_behind := fun_mk (st := s_behind) l6 c6 k6
  have m_behind := PySem.W.mg_of X G a6
  have b_behind := F_behind.binds (ps := ["text", "at", "part"]) fun _ _ _ _ _ _ us hl => match us, hl with | [_, _, _], _ => rfl
  have F_read_number := fun_mk (st := s_read_number) l7 c7 k7
  have m_read_number := PySem.W.mg_of X G a7
  have b_read_number := F_read_number.binds (ps := ["text", "at", "least", "most"]) fun _ _ _ _ _ _ us hl => match us, hl with | [_, _, _, _], _ => rfl
  have F_read_join := fun_mk (st := s_read_join) l8 c8 k8
  have m_read_join := PySem.W.mg_of X G a8
  have b_read_join := F_read_join.binds (ps := ["text", "at", "depth"]) fun _ _ _ _ _ _ us hl => match us, hl with | [_, _, _], _ => rfl
  have F_read_scale := fun_mk (st := s_read_scale) l9 c9 k9
  have m_read_scale := PySem.W.mg_of X G a9
  have b_read_scale := F_read_scale.binds (ps := ["text", "at", "depth"]) fun _ _ _ _ _ _ us hl => match us, hl with | [_, _, _], _ => rfl
  have F_read_thin := fun_mk (st := s_read_thin) l10 c10 k10
  have m_read_thin := PySem.W.mg_of X G a10
  have b_read_thin := F_read_thin.binds (ps := ["text", "at", "depth"]) fun _ _ _ _ _ _ us hl => match us, hl with | [_, _, _], _ => rfl
  have F_read_word := fun_mk (st := s_read_word) l11 c11 k11
  have m_read_word := PySem.W.mg_of X G a11
  have b_read_word := F_read_word.binds (ps := ["text", "at", "depth"]) fun _ _ _ _ _ _ us hl => match us, hl with | [_, _, _], _ => rfl
  have F_read_plan := fun_mk (st := s_read_plan) l12 c12 k12
  have m_read_plan := PySem.W.mg_of X G a12
  have b_read_plan := F_read_plan.binds (ps := ["text", "at", "depth"]) fun _ _ _ _ _ _ us hl => match us, hl with | [_, _, _], _ => rfl
  have F_parse_plan := fun_mk (st := s_parse_plan) l13 c13 k13
  have m_parse_plan := PySem.W.mg_of X G a13
  have b_parse_plan := F_parse_plan.binds (ps := ["text"]) fun _ _ _ _ _ _ us hl => match us, hl with | [_], _ => rfl
  have F__law_whole := fun_mk (st := s__law_whole) l14 c14 k14
  have m__law_whole := PySem.W.mg_of X G a14
  have b__law_whole := F__law_whole.binds (ps := ["value"]) fun _ _ _ _ _ _ us hl => match us, hl with | [_], _ => rfl
  have F__law_cell := fun_mk (st := s__law_cell) l15 c15 k15
  have m__law_cell := PySem.W.mg_of X G a15
  have b__law_cell := F__law_cell.binds (ps := ["script", "k"]) fun _ _ _ _ _ _ us hl => match us, hl with | [_, _], _ => rfl
  have F__law_digits := fun_mk (st := s__law_digits) l16 c16 k16
  have m__law_digits := PySem.W.mg_of X G a16
  have b__law_digits := F__law_digits.binds (ps := ["cell", "sizes"]) fun _ _ _ _ _ _ us hl => match us, hl with | [_, _], _ => rfl
  have F__law_same := fun_mk (st := s__law_same) l17 c17 k17
  have m__law_same := PySem.W.mg_of X G a17
  have b__law_same := F__law_same.binds (ps := ["told", "due"]) fun _ _ _ _ _ _ us hl => match us, hl with | [_, _], _ => rfl
  have F__law_name := fun_mk (st := s__law_name) l18 c18 k18
  have m__law_name := PySem.W.mg_of X G a18
  have b__law_name := F__law_name.binds (ps := ["row", "taken"]) fun _ _ _ _ _ _ us hl => match us, hl with | [_, _], _ => rfl
  have F__law_grow := fun_mk (st := s__law_grow) l19 c19 k19
  have m__law_grow := PySem.W.mg_of X G a19
  have b__law_grow := F__law_grow.binds (ps := ["rows", "at", "many", "deep", "mode"]) fun _ _ _ _ _ _ us hl => match us, hl with | [_, _, _, _, _], _ => rfl
  have F__law_written := fun_mk (st := s__law_written) l20 c20 k20
  have m__law_written := PySem.W.mg_of X G a20
  have b__law_written := F__law_written.binds (ps := ["plan"]) fun _ _ _ _ _ _ us hl => match us, hl with | [_], _ => rfl
  have F__law_is_text := fun_mk (st := s__law_is_text) l21 c21 k21
  have m__law_is_text := PySem.W.mg_of X G a21
  have b__law_is_text := F__law_is_text.binds (ps := ["told", "text"]) fun _ _ _ _ _ _ us hl => match us, hl with | [_, _], _ => rfl
  have F__law_parsed := fun_mk (st := s__law_parsed) l22 c22 k22
  have m__law_parsed := PySem.W.mg_of X G a22
  have b__law_parsed := F__law_parsed.binds (ps := ["text"]) fun _ _ _ _ _ _ us hl => match us, hl with | [_], _ => rfl
  have F_law := fun_mk (st := s_law) l23 c23 k23
  have m_law := PySem.W.mg_of X G a23
  refine ⟨PySem.W.fnOf "law" "law" (defArgs s_law) (defBody s_law) (defScope s_law) .none kV23 dc23 pm23 an23 cd23 ct23, fun s v => .of_eq rfl, fun base _ _ => ?_⟩
  have Cbehind : Cal l.prog w K mg base 1 "behind" ["text", "at", "part"] spBehind := ⟨_, _, ok_behind F_behind T, m_behind, F_behind.kp, b_behind⟩
  have Clongest : Cal l.prog w K mg base 1 "longest" ["text", "at", "signs"] spLongest := ⟨_, _, ok_longest F_longest T, m_longest, F_longest.kp, b_longest⟩
  have Cwhole_of : Cal l.prog w K mg base 1 "whole_of" ["word"] spWhole_of := ⟨_, _, ok_whole_of F_whole_of T, m_whole_of, F_whole_of.kp, b_whole_of⟩
  have Cnumber_of : Cal l.prog w K mg base 2 "number_of" ["word", "least"] spNumber_of := ⟨_, _, ok_number_of F_number_of T Cwhole_of, m_number_of, F_number_of.kp, b_number_of⟩
  have Cread_number : Cal l.prog w K mg base 3 "read_number" ["text", "at", "least", "most"] spRead_number := ⟨_, _, ok_read_number F_read_number T Clongest Cnumber_of, m_read_number, F_read_number.kp, b_read_number⟩
  have Cread_plan : Cal l.prog w K mg base 40 "read_plan" ["text", "at", "depth"] (spRead (wAll 12)) := ring T F_read_join F_read_scale F_read_thin F_read_word F_read_plan m_read_join m_read_scale m_read_thin m_read_word m_read_plan b_read_join b_read_scale b_read_thin b_read_word b_read_plan Cbehind Clongest Cread_number 12
  have Ctuples : Cal l.prog w K mg base 12 "tuples_in" ["plan"] (spTuples 12) := all_tuples T F_tuples_in m_tuples_in b_tuples_in 12
  have Cparse : Cal l.prog w K mg base 41 "parse_plan" ["text"] spParse := ⟨_, _, ok_parse_plan F_parse_plan T Cread_plan Ctuples, m_parse_plan, F_parse_plan.kp, b_parse_plan⟩
  have Cparsed : Cal l.prog w K mg base 42 "_law_parsed" ["text"] spParse := ⟨_, _, ok__law_parsed F__law_parsed T Cparse, m__law_parsed, F__law_parsed.kp, b__law_parsed⟩
  have Cwhole : Cal l.prog w K mg base 1 "_law_whole" ["value"] spLaw_whole := ⟨_, _, ok__law_whole F__law_whole T, m__law_whole, F__law_whole.kp, b__law_whole⟩
  have Csame : Cal l.prog w K mg base 14 "_law_same" ["told", "due"] (spSame 12) := all_same T F__law_same m__law_same b__law_same Cwhole 12
  have Cname : Cal l.prog w K mg base 1 "_law_name" ["row", "taken"] spName := ⟨_, _, ok__law_name F__law_name T, m__law_name, F__law_name.kp, b__law_name⟩
  have Cgrow : Cal l.prog w K mg base 13 "_law_grow" ["rows", "at", "many", "deep", "mode"] (spGrow 11) := all_grow T F__law_grow m__law_grow b__law_grow Cname 11
  have Ccell : Cal l.prog w K mg base 1 "_law_cell" ["script", "k"] (spCell K) := ⟨_, _, ok__law_cell F__law_cell T, m__law_cell, F__law_cell.kp, b__law_cell⟩
  have Cdigits : Cal l.prog w K mg base 1 "_law_digits" ["cell", "sizes"] (spDigits K) := ⟨_, _, ok__law_digits F__law_digits T, m__law_digits, F__law_digits.kp, b__law_digits⟩
  have Cis_text : Cal l.prog w K mg base 1 "_law_is_text" ["told", "text"] spIsText := ⟨_, _, ok__law_is_text F__law_is_text T, m__law_is_text, F__law_is_text.kp, b__law_is_text⟩
  exact ok_law F_law T Ccell Cdigits Cgrow (all_written T F__law_written m__law_written b__law_written 12) (all_format T F_format_plan m_format_plan b_format_plan 12) Cis_text Cparsed Csame
theorem walk {l : PySem.W.OpenLaw} {q : Program} {loose : List Str} {XP : (Str → Option Value) → Heap → Prop} {YP : World → Heap → Prop} {d : DefRec} {K : Params → PySem.W.Frag} (hn : l.most = some 63) (hdf : d.params.defaults = [])
    (hY : ∀ (w : World) (h : Heap), YP w h → (K w.params).In h)
    (F : ∀ (w : World) (mg : Str → Option Value) (fa : Addr) (h : Heap), (K w.params).In h → h.Ns mainGlobals mg → mg d.name = some (.ref fa) →
      ∃ fd : FuncData, (∀ (s : Shared) (u : Value), BindsTo s fd ⟨[u], []⟩ [("script", u)]) ∧ ∀ base : Heap, (K w.params).In base → base.Ns mainGlobals mg → FnOk l.prog w (K w.params) mg base CX0 43 fa fd ["script"] (spLaw (K w.params))) :
    PySem.W.WalkO q loose XP YP l.row.toRowW d [] (fun f vs => PySem.call f vs) :=
  L2.walk_of (n := 63) (k := 43) (x := "script") (CX := fun _ => CX0) (sp := fun w => spLaw (K w.params)) hn (by decide) hdf ⟨rfl, by decide, by decide⟩ hY F (fun _ _ a ns hl _ hS => ⟨a, ns, rfl, hS, hl, fun _ => rfl⟩) fun _ _ _ _ _ z => z
end P65
open PySem PySem.W PyProof.Rows
set_option maxRecDepth 100000 in
set_option maxHeartbeats 0 in
theorem PySem.Challenge.cw_wholecables_k65_plans_written_holds : PySem.Challenge.rw_wholecables_k65_plans_written.Holds := by
  w_on; o_law; k_head; (case hw => w_witness2)
  k_fill
  refine P65.walk (l := PySem.Challenge.rw_wholecables_k65_plans_written) rfl rfl (fun w h Y => PySem.W.kIn_of Y) ?F
  case F =>
    intro w mg fa h KX G hmg
    refine' P65.all_mk KX G hmg ?a1 ?l1 ?c1 ?k1 ?a2 ?l2 ?c2 ?k2 ?a3 ?l3 ?c3 ?k3 ?a4 ?l4 ?c4 ?k4 ?a5 ?l5 ?c5 ?k5 ?a6 ?l6 ?c6 ?k6 ?a7 ?l7 ?c7 ?k7 ?a8 ?l8 ?c8 ?k8 ?a9 ?l9 ?c9 ?k9 ?a10 ?l10 ?c10 ?k10 ?a11 ?l11 ?c11 ?k11 ?a12 ?l12 ?c12 ?k12 ?a13 ?l13 ?c13 ?k13 ?a14 ?l14 ?c14 ?k14 ?a15 ?l15 ?c15 ?k15 ?a16 ?l16 ?c16 ?k16 ?a17 ?l17 ?c17 ?k17 ?a18 ?l18 ?c18 ?k18 ?a19 ?l19 ?c19 ?k19 ?a20 ?l20 ?c20 ?k20 ?a21 ?l21 ?c21 ?k21 ?a22 ?l22 ?c22 ?k22 ?a23 ?l23 ?c23 ?k23 ?z0 ?z1 ?z2 ?z3 ?z4 ?z5 ?z6 ?z7 ?z8 ?z9 ?y0 ?y1 ?y2 ?y3 ?y4 ?y5
    (case a1 => k_is)
    (case l1 => k_is)
    (case c1 => k_is)
    (case k1 => k_is)
    (case a2 => k_is)
    (case l2 => k_is)
    (case c2 => k_is)
    (case k2 => k_is)
    (case a3 => k_is)
    (case l3 => k_is)
    (case c3 => k_is)
    (case k3 => k_is)
    (case a4 => k_is)
    (case l4 => k_is)
    (case c4 => k_is)
    (case k4 => k_is)
    (case a5 => k_is)
    (case l5 => k_is)
    (case c5 => k_is)
    (case k5 => k_is)
    (case a6 => k_is)
    (case l6 => k_is)
    (case c6 => k_is)
    (case k6 => k_is)
    (case a7 => k_is)
    (case l7 => k_is)
    (case c7 => k_is)
    (case k7 => k_is)
    (case a8 => k_is)
    (case l8 => k_is)
    (case c8 => k_is)
    (case k8 => k_is)
    (case a9 => k_is)
    (case l9 => k_is)
    (case c9 => k_is)
    (case k9 => k_is)
    (case a10 => k_is)
    (case l10 => k_is)
    (case c10 => k_is)
    (case k10 => k_is)
    (case a11 => k_is)
    (case l11 => k_is)
    (case c11 => k_is)
    (case k11 => k_is)
    (case a12 => k_is)
    (case l12 => k_is)
    (case c12 => k_is)
    (case k12 => k_is)
    (case a13 => k_is)
    (case l13 => k_is)
    (case c13 => k_is)
    (case k13 => k_is)
    (case a14 => k_is)
    (case l14 => k_is)
    (case c14 => k_is)
    (case k14 => k_is)
    (case a15 => k_is)
    (case l15 => k_is)
    (case c15 => k_is)
    (case k15 => k_is)
    (case a16 => k_is)
    (case l16 => k_is)
    (case c16 => k_is)
    (case k16 => k_is)
    (case a17 => k_is)
    (case l17 => k_is)
    (case c17 => k_is)
    (case k17 => k_is)
    (case a18 => k_is)
    (case l18 => k_is)
    (case c18 => k_is)
    (case k18 => k_is)
    (case a19 => k_is)
    (case l19 => k_is)
    (case c19 => k_is)
    (case k19 => k_is)
    (case a20 => k_is)
    (case l20 => k_is)
    (case c20 => k_is)
    (case k20 => k_is)
    (case a21 => k_is)
    (case l21 => k_is)
    (case c21 => k_is)
    (case k21 => k_is)
    (case a22 => k_is)
    (case l22 => k_is)
    (case c22 => k_is)
    (case k22 => k_is)
    (case a23 => k_is)
    (case l23 => k_is)
    (case c23 => k_is)
    (case k23 => k_is)
    (case z0 => k_is)
    (case z1 => k_is)
    (case z2 => k_is)
    (case z3 => k_is)
    (case z4 => k_is)
    (case z5 => k_is)
    (case z6 => k_is)
    (case z7 => k_is)
    (case z8 => k_is)
    (case z9 => k_is)
    (case y0 => k_is)
    (case y1 => k_is)
    (case y2 => k_is)
    (case y3 => k_is)
    (case y4 => k_is)
    (case y5 => k_is)
