import PyProof.Rows.All
import Wide.All
import OpenK.AllK
import Wide.FinOn
import HandS.Base
import HandS.List
import HandS.IsInst
import HandS.Text
import HandS.Call
import HandS.Comp
import HandS.Dict
import HandS.DictComp
import HandS.Flt
import HandS.TryOnly
import HandS.Words
import HandS.Ends
import HandS.Iter
import HandS.WordsList
import HandS.Exc
import HandS.ExcOwn
import HandS.ExcCtx
import HandS.ExcInit
import HandS.ExcField
import HandS.ExcIs
import HandS.HotCalls
import HandS.Codes
import KE.KExcIs
import HandS.ExcValue
import KE.GoesMore
import HandS.Walk
import HandS.Zip
import HandS.TupAny
import KE.GoesZip
import KE.KCallOwn
import HandS.Gcd
import HandS.Wide
import HandS.Rev
import HandS.MakeKwOnly
import HandS.Defaults
import PySem.Challenge.RW_wholecables_k12_paired_sums
set_option Elab.async false
set_option linter.all false
set_option maxRecDepth 100000
set_option maxHeartbeats 4000000
/-! A rule for «match e: case 'a': .. case _: ..» over a text. -/
namespace L2
open PySem PySem.Spec PyProof.Rows
/-- the cases of a match, of a value -/
structure PM (X : Cx) (cs : List MatchCase) (t : V → TS) : Prop where
  run : ∀ (pins : List (Addr × Obj)) (s : Shared) (σ : St) (H : Hp) (D : Ends) (v : V) (u : Value) (first : Bool), Inv X pins σ H s → RelV v u → t v D σ H → wpAny (model X.prog X.w) X.A (matchCases cs X.env u first) (SP X pins D) X.xe s
section
variable {X : Cx}
def tMNil : V → TS := fun _ D σ H => D.nx σ H
def tMStr (x : Str) (tb : TS) (tr : V → TS) : V → TS := fun v D σ H => ∃ y, v = .str y ∧ if decide (y = x) = true then tb D σ H else tr (.str y) D σ H
def tMAny (tb : TS) : V → TS := fun _ D σ H => tb D σ H
theorem pm_nil : PM X [] tMNil := ⟨fun pins s σ H D v u first I r h => wpAny_matchCases_nil ⟨σ, H, I, h⟩⟩
theorem pm_str {x : Str} {j p1 p2} {body : List Stmt} {rest : List MatchCase} {tb : TS} {tr : V → TS} (hb : PSs X body tb) (hr : PM X rest tr) :
    PM X (⟨.MatchValue (.Constant (.str x) j p1) p2, none, body⟩ :: rest) (tMStr x tb tr) := by
  refine ⟨fun pins s σ H D v u first I r h => ?_⟩
  obtain ⟨y, rfl, q⟩ := h
  obtain ⟨t, rfl⟩ := r
  refine wpAny_matchCases_cons (wpAny_matchPattern_Value (Calls.Constant_str ?_))
  refine eq_str ?_
  refine wpAny_truthy_bool ?_
  by_cases e : y = x
  · have e1 : (y == x) = true := by rw [e]; exact beq_self_eq_true x
    rw [if_pos (decide_eq_true e)] at q
    first
      | rw [e1]
      | (rw [decide_eq_true e])
    show wpAny _ X.A (assignInOrder [] []) _ _ _
    exact wpAny_assignInOrder_none (hb.run pins _ σ H D (I.tok _) q)
  · have e1 : (y == x) = false := beq_eq_false_iff_ne.mpr e
    rw [if_neg (by rw [decide_eq_false e]; exact Bool.false_ne_true)] at q
    first
      | rw [e1]
      | (rw [decide_eq_false e])
    exact hr.run pins _ σ H D (.str y) _ false (I.tok _) ⟨t, rfl⟩ q
theorem pm_any {p2} {body : List Stmt} {tb : TS} (hb : PSs X body tb) : PM X [⟨.MatchAs none none p2, none, body⟩] (tMAny tb) := by
  refine ⟨fun pins s σ H D v u first I r h => ?_⟩
  refine wpAny_matchCases_cons (wpAny_matchPattern_Capture ?_)
  show wpAny _ X.A (assignInOrder [] []) _ _ _
  exact wpAny_assignInOrder_none (hb.run pins _ σ H D I h)
def tMatch (te : TE) (t : V → TS) : TS := fun D σ H => te σ H fun v H1 => t v D σ H1
theorem ps_match {e : Expr} {cs : List MatchCase} {pos : Pos} {te : TE} {t : V → TS} (he : PE X e te) (hc : PM X cs t) : PS X (.Match e cs pos) (tMatch te t) := by
  refine ⟨fun pins s σ H D I h => ?_⟩
  refine wpAny_Match (thn (he.run pins s σ H _ I h) fun u s1 ⟨v, H1, I1, r1, q1⟩ => ?_)
  exact hc.run pins s1 σ H1 D v u true I1 r1 q1
/-! the rules that speak of the written part, with K said outright: for a comprehension's block, where the context is bound -/
section
variable {X : Cx}
theorem ix_tupK {K : PySem.W.Frag} (h : X.K = K) : IxR X (rIxT K) := by subst h; exact ix_tup
theorem ix_listK {K : PySem.W.Frag} (h : X.K = K) : IxR X (rIxL K) := by subst h; exact ix_list
theorem sl_listK {K : PySem.W.Frag} (h : X.K = K) : SlR X (rSlL K) := by subst h; exact sl_list
theorem sl_tupK {K : PySem.W.Frag} (h : X.K = K) : SlR X (rSlT K) := by subst h; exact sl_tup
theorem op_in_seqK {K : PySem.W.Frag} (h : X.K = K) : OpR X (compareOp .In) (rIn K false) := by subst h; exact op_in_seq
theorem op_notIn_seqK {K : PySem.W.Frag} (h : X.K = K) : OpR X (compareOp .NotIn) (rIn K true) := by subst h; exact op_notIn_seq
theorem call_len_seqK {K : PySem.W.Frag} (h : X.K = K) : CallR X (.builtin "len") (fun xs H Q => ∃ p ys, xs = [.ref p] ∧ (SqL K H p ys ∨ SqT K H p ys) ∧ Q (.int ys.length) H) := by subst h; exact call_len_seq
theorem call_isiK1 {K : PySem.W.Frag} (h : X.K = K) : CallR X (.builtin "isinstance") (rIsi K) := by subst h; exact call_isi
theorem cr_allK {K : PySem.W.Frag} (h : X.K = K) (hc : X.calm = true) : CallR X (.builtin "all") (rAll K) := by subst h; exact cr_all hc
theorem cr_anyK {K : PySem.W.Frag} (h : X.K = K) (hc : X.calm = true) : CallR X (.builtin "any") (rAny K) := by subst h; exact cr_any hc
theorem cr_sumK {K : PySem.W.Frag} (h : X.K = K) (hc : X.calm = true) : CallR X (.builtin "sum") (rSum K) := by subst h; exact cr_sum hc
end
end
end L2
/-! Rules for «one or the other», max of three ints, the written part's letter said outright. -/
namespace L2
open PySem PySem.Spec PyProof.Rows
section
variable {X : Cx}
theorem pi_or {tg iter : Expr} {w1 w2 : TI} (h1 : PI X tg iter w1) (h2 : PI X tg iter w2) : PI X tg iter (fun σ H R => w1 σ H R ∨ w2 σ H R) :=
  ⟨fun pins s σ H R I h => h.elim (h1.run pins s σ H R I) (h2.run pins s σ H R I)⟩
theorem pg_or {tg : Expr} {g1 g2 : TG} (h1 : PG X tg g1) (h2 : PG X tg g2) : PG X tg (fun v σ H Q => g1 v σ H Q ∨ g2 v σ H Q) :=
  ⟨fun pins s σ H v u Q I r h => h.elim (h1.run pins s σ H v u Q I r) (h2.run pins s σ H v u Q I r)⟩
theorem ix_or : IxR X (fun x y H Q => rIxL X.K x y H Q ∨ rIxT X.K x y H Q) := ix_list.or ix_tup
theorem ix_orK {K : PySem.W.Frag} (h : X.K = K) : IxR X (fun x y H Q => rIxL K x y H Q ∨ rIxT K x y H Q) := by subst h; exact ix_or
theorem call_max3I (hc : X.calm = true) : CallR X (.builtin "max") (fun xs H Q => ∃ i j k : Int, xs = [.int i, .int j, .int k] ∧ Q (.int (if k > (if j > i then j else i) then k else (if j > i then j else i))) H) := by
  intro pins s σ H xs us Q I r h
  obtain ⟨i, j, k, rfl, q⟩ := h
  have e : nuMax3 (.int i) (.int j) (.int k) = some (.int (if k > (if j > i then j else i) then k else (if j > i then j else i))) := by
    have two : ∀ a b : Int, nuMax2 (.int a) (.int b) = some (.int (if b > a then b else a)) := fun a b => by
      show some (if decide (a < b) = true then V.int b else V.int a) = _
      by_cases h : b > a
      · rw [if_pos (decide_eq_true (show a < b from h)), if_pos h]
      · rw [if_neg (by rw [decide_eq_false (show ¬ a < b from h)]; exact Bool.false_ne_true), if_neg h]
    unfold nuMax3
    rw [two i j]
    exact two _ k
  exact call_max3Nu hc pins s σ H _ us Q I r ⟨_, _, _, _, rfl, e, q⟩
theorem call_list_ofK {K : PySem.W.Frag} (h : X.K = K) : CallR X (.type "list") (fun xs H Q => ∃ p ys, xs = [.ref p] ∧ (SqL K H p ys ∨ SqT K H p ys) ∧ ∀ l, H l = none → Q (.ref l) (upd H l (.lst ys))) := by subst h; exact call_list_of
theorem call_tuple_ofK {K : PySem.W.Frag} (h : X.K = K) : CallR X (.type "tuple") (fun xs H Q => ∃ p ys, xs = [.ref p] ∧ ((SqL K H p ys ∧ ∀ l, H l = none → Q (.ref l) (upd H l (.tup ys))) ∨ (SqT K H p ys ∧ Q (.ref p) H))) := by subst h; exact call_tuple_of
theorem pg_tupK {K : PySem.W.Frag} {es : List Expr} {k : Nat} {t : TGs} {n : Nat} {pos : Pos} (hK : X.K = K) (hc : X.calm = true) (h : PGs X es t)
    (hn : (assignEach es X.env).length = n := by rfl) (hst : (assignEach es X.env).findIdx? (·.1) = none := by rfl) : PG X (.Tuple es k pos) (gTup K n t) := by subst hK; exact pg_tup hc h hn hst
theorem pg_lstK {K : PySem.W.Frag} {es : List Expr} {k : Nat} {t : TGs} {n : Nat} {pos : Pos} (hK : X.K = K) (hc : X.calm = true) (h : PGs X es t)
    (hn : (assignEach es X.env).length = n := by rfl) (hst : (assignEach es X.env).findIdx? (·.1) = none := by rfl) : PG X (.Tuple es k pos) (gLst K n t) := by subst hK; exact pg_lst hc h hn hst
end
section
variable {X : Cx}
/-- y = {..}, a dict comprehension stored in its own statement -/
theorem ps_setDc {i : Nat} {y : Str} {py : Pos} {kx vx tg iter : Expr} {ifs : List Expr} {scope : Scope} {own : List (Str × Nat)} {pos spos : Pos} {wi : TI} {g : TG} {tt : TT} {tk tv : TE} (hc : X.calm = true) (hN : X.N.Nodup) (hy : X.N[i]? = some y) (hyl : X.env.scope.names.lookup y = some .local)
    (hsw : swapsWith (.DictComp kx vx [⟨tg, iter, ifs, 0⟩] scope pos) (some (.Name y py)) spos.line X.env = pure true) (hi : PI X tg iter wi) (ok : BlkOk X.N X.env.scope scope own)
    (hg : ∀ (s : Shared) (H : Hp) (C : Addr) (cl : List (Str × Addr)) (fp : List Addr), PG (X.blk s H scope (compEnvC scope cl C X.env) fp) tg g) (ht : ∀ (s : Shared) (H : Hp) (C : Addr) (cl : List (Str × Addr)) (fp : List Addr), PTs (X.blk s H scope (compEnvC scope cl C X.env) fp) ifs tt)
    (hk : ∀ (s : Shared) (H : Hp) (C : Addr) (cl : List (Str × Addr)) (fp : List Addr), PE (X.blk s H scope (compEnvC scope cl C X.env) fp) kx tk)
    (he : ∀ (s : Shared) (H : Hp) (C : Addr) (cl : List (Str × Addr)) (fp : List Addr), PE (X.blk s H scope (compEnvC scope cl C X.env) fp) vx tv) (hs : ∀ x, foldedSetIterable iter X.env x = pure x := by intro _; rfl) :
    PS X (.Assign [.Name y py] (.DictComp kx vx [⟨tg, iter, ifs, 0⟩] scope pos) spos) (tAsg (tDc wi g tt tk tv (own.map (·.2))) (gName i)) := by
  refine ⟨fun pins s σ H D I h => ?_⟩
  rw [exec_Assign_Name_used _ _ _ _ hsw]
  refine wpAny_bind (wpAny_standAt (wpAny_bind ?_))
  show wpAny _ X.A (do let _ ← comprehension (.DictComp kx vx [⟨tg, iter, ifs, 0⟩] scope pos) scope X.env (firstIterPos [⟨tg, iter, ifs, 0⟩] pos) newDict false (eval iter X.env) (some (assign (.Name y py) X.env))) _ _ s
  have h : tDc wi g tt tk tv (own.map (·.2)) σ H (fun x H1 => gName i x σ H1 D.nx) := h
  refine wpAny_bind (thn (dc_core (Qf := fun _ s' => SP X pins D .next s') hc hN I hi ok hg ht hk he hs h fun L C s' m H' I' q hn f => ?_) fun _ s' hq => wpAny_pure (wpAny_pure hq))
  show wpAny _ _ (assign (.Name y py) X.env (.ref L)) _ _ _
  refine wpAny_assign_Name (store_ok2 (v := V.ref L) I' hN hy (.inl hyl) rfl (fun s2 I2 hex => ?_) (.inr hyl))
  obtain ⟨a, sb, ha⟩ := hex
  obtain ⟨f0, f1, f2, f3, f4, f5⟩ := f
  have haC : C ≠ a := ha.elim (fun z => by rw [z]; exact f1) fun z e => f4 y a z e.symm
  exact ⟨m, hn.sameBut sb haC, fun h3 sb3 => ⟨_, H', I2.turned (t' := s2.toks) (fun b o hb e => (sb3.2 b hb).trans e) f0 f1 f3 f4 f5, q⟩⟩
theorem sw_trueD {kx vx : Expr} {gs : List Comprehension} {scope : Scope} {pos py : Pos} {y : Str} {l : Nat} {env : Env} (hk : env.scope.kind = .function) (hy : env.scope.names.lookup y = some .local) (hl : (py.line == pos.line) = true)
    (ha : (scope.names.any fun (n, k) => n == y && (k == .local || k == .cell)) = false) : swapsWith (.DictComp kx vx gs scope pos) (some (.Name y py)) l env = pure true := by
  have ky : env.kindOf y = some .local := hy
  have hb : env.blockKind = .function := by
    unfold Env.blockKind
    rw [hk]
    rfl
  unfold swapsWith
  simp only [hb, ky, ha, Expr.pos, hl]
  rfl
end
/-- a dict comprehension over a list that stays -/
theorem dc_list {K : PySem.W.Frag} {a : Addr} {xs : List V} {g : TG} {tt : TT} {tk tv : TE} {vs : List Nat} {σ : St} {H1 : Hp} {D : Addr} {Qd : Hp → Prop} (Pv : Nat → Hp → Prop) (h0 : Pv 0 (upd H1 D (.dK []))) (hl : ∀ i H, i ≤ xs.length → Pv i H → SqL K H a xs)
    (hs : ∀ i x H, xs[i]? = some x → Pv i H → g x (wipe σ vs) H fun σ2 H2 => wipe σ2 vs = wipe σ vs ∧ tt σ2 H2 fun b H3 =>
      if b = true then tk σ2 H3 fun y H4 => tv σ2 H4 fun z H5 => ∃ kvs k, y = kV k ∧ H5 D = some (.dK kvs) ∧ kvs.length < sizeLine ∧ Pv (i + 1) (upd H5 D (.dK (putK kvs k z))) else Pv (i + 1) H3) (hd : ∀ H, Pv xs.length H → Qd H) :
    ∃ W : Nat → Nat → Hp → Prop, (∃ m, W 0 m (upd H1 D (.dK []))) ∧ ∀ i m H, W i m H →
      ((Itl K a).stop i H ∧ Qd H) ∨ ((Itl K a).go i H ∧ ∃ Nx : Hp → Prop, (∀ H', Nx H' → ∃ m', m' < m ∧ W (i + 1) m' H') ∧ ∀ x H', (Itl K a).yld i H x H' → g x (wipe σ vs) H' fun σ2 H2 => wipe σ2 vs = wipe σ vs ∧ tt σ2 H2 fun b H3 =>
        if b = true then tk σ2 H3 fun y H4 => tv σ2 H4 fun z H5 => ∃ kvs k, y = kV k ∧ H5 D = some (.dK kvs) ∧ kvs.length < sizeLine ∧ Nx (upd H5 D (.dK (putK kvs k z))) else Nx H3) := by
  refine ⟨fun i m H => m = xs.length - i ∧ i ≤ xs.length ∧ Pv i H, ⟨xs.length, by simp, Nat.zero_le _, h0⟩, ?_⟩
  rintro i m H ⟨rfl, hi, p⟩
  have q := hl i H hi p
  rcases Nat.lt_or_ge i xs.length with hlt | hge
  · refine .inr ⟨⟨xs, xs[i], q, by simp [hlt]⟩, Pv (i + 1), fun H' p' => ⟨xs.length - (i + 1), by omega, rfl, hlt, p'⟩, ?_⟩
    rintro x H' ⟨rfl, y⟩
    exact hs i x _ (y xs q) p
  · obtain rfl : i = xs.length := Nat.le_antisymm hi hge
    exact .inl ⟨⟨xs, q, Nat.le_refl _⟩, hd H p⟩
/-- a dict comprehension over the list or the tuple in slot i, which stays -/
theorem tDc_or {K : PySem.W.Frag} {a : Addr} {xs : List V} {i : Nat} {g : TG} {tt : TT} {tk tv : TE} {vs : List Nat} {σ : St} {H : Hp} {Q : VK} (hi : σ[i]? = some (some (V.ref a))) (hx : H a = some (.lst xs) ∨ H a = some (.tup xs)) (Pv : Addr → Nat → Hp → Prop)
    (h0 : ∀ D, H D = none → Pv D 0 (upd H D (.dK []))) (hl : ∀ D, H D = none → ∀ j H', Pv D j H' → ∀ u, H a = some u → H' a = some u)
    (hs : ∀ D, H D = none → ∀ j x H', xs[j]? = some x → Pv D j H' → g x (wipe σ vs) H' fun σ2 H2 => wipe σ2 vs = wipe σ vs ∧ tt σ2 H2 fun b H3 =>
      if b = true then tk σ2 H3 fun y H4 => tv σ2 H4 fun z H5 => ∃ kvs k, y = kV k ∧ H5 D = some (.dK kvs) ∧ kvs.length < sizeLine ∧ Pv D (j + 1) (upd H5 D (.dK (putK kvs k z))) else Pv D (j + 1) H3)
    (hd : ∀ D, H D = none → ∀ H', Pv D xs.length H' → Q (.ref D) H') : tDc (fun σ H R => iList K (tVar i) σ H R ∨ iTup K (tVar i) σ H R) g tt tk tv vs σ H Q := by
  rcases hx with hx | hx
  · exact .inl ⟨_, hi, a, rfl, ⟨_, SqL.of hx⟩, fun D hD => dc_list (K := K) (a := a) (xs := xs) (Pv D) (h0 D hD) (fun j H' _ p => SqL.of (hl D hD j H' p _ hx)) (hs D hD) (hd D hD)⟩
  · exact .inr ⟨_, hi, a, rfl, ⟨_, SqT.of hx⟩, fun D hD => dc_tup (K := K) (a := a) (xs := xs) (Pv D) (h0 D hD) (fun j H' _ p => SqT.of (hl D hD j H' p _ hx)) (hs D hD) (hd D hD)⟩
/-- a loop over the list or the tuple in slot i, which stays -/
theorem tFor_or {K : PySem.W.Frag} {a : Addr} {xs : List V} {i : Nat} {g : TG} {tb : TS} {D : Ends} {σ : St} {H : Hp} (hi : σ[i]? = some (some (V.ref a))) (hx : H a = some (.lst xs) ∨ H a = some (.tup xs)) (Pv : Nat → St → Hp → Prop)
    (h0 : Pv 0 σ H) (hl : ∀ j σ' H', Pv j σ' H' → ∀ u, H a = some u → H' a = some u)
    (hs : ∀ j x σ' H', xs[j]? = some x → Pv j σ' H' → g x σ' H' fun σ2 H2 => tb { D with nx := Pv (j + 1), ct := Pv (j + 1), bk := D.nx } σ2 H2)
    (hd : ∀ σ' H', Pv xs.length σ' H' → D.nx σ' H') : tFor (fun σ H R => iList K (tVar i) σ H R ∨ iTup K (tVar i) σ H R) g tb D σ H := by
  rcases hx with hx | hx
  · exact .inl ⟨_, hi, a, rfl, ⟨_, SqL.of hx⟩, for_list (K := K) (a := a) (xs := xs) Pv h0 (fun j σ' H' _ p => SqL.of (hl j σ' H' p _ hx)) hs hd⟩
  · exact .inr ⟨_, hi, a, rfl, ⟨_, SqT.of hx⟩, for_tup (K := K) (a := a) (xs := xs) Pv h0 (fun j σ' H' _ p => SqT.of (hl j σ' H' p _ hx)) hs hd⟩
/-- a comprehension over the list or the tuple in slot i, which stays -/
theorem tLc_or {K : PySem.W.Frag} {a : Addr} {xs : List V} {i : Nat} {g : TG} {tt : TT} {te : TE} {vs : List Nat} {σ : St} {H : Hp} {Q : VK} (hi : σ[i]? = some (some (V.ref a))) (hx : H a = some (.lst xs) ∨ H a = some (.tup xs)) (Pv : Addr → Nat → Hp → Prop)
    (h0 : ∀ D, H D = none → Pv D 0 (upd H D (.lst []))) (hl : ∀ D, H D = none → ∀ j H', Pv D j H' → ∀ u, H a = some u → H' a = some u)
    (hs : ∀ D, H D = none → ∀ j x H', xs[j]? = some x → Pv D j H' → g x (wipe σ vs) H' fun σ2 H2 => wipe σ2 vs = wipe σ vs ∧ tt σ2 H2 fun b H3 =>
      if b = true then te σ2 H3 fun y H4 => ∃ acc, H4 D = some (.lst acc) ∧ acc.length < sizeLine ∧ Pv D (j + 1) (upd H4 D (.lst (acc ++ [y]))) else Pv D (j + 1) H3)
    (hd : ∀ D, H D = none → ∀ H', Pv D xs.length H' → Q (.ref D) H') : tLc (fun σ H R => iList K (tVar i) σ H R ∨ iTup K (tVar i) σ H R) g tt te vs σ H Q := by
  rcases hx with hx | hx
  · exact .inl ⟨_, hi, a, rfl, ⟨_, SqL.of hx⟩, fun D hD => lc_list (K := K) (a := a) (xs := xs) (Pv D) (h0 D hD) (fun j H' _ p => SqL.of (hl D hD j H' p _ hx)) (hs D hD) (hd D hD)⟩
  · exact .inr ⟨_, hi, a, rfl, ⟨_, SqT.of hx⟩, fun D hD => lc_tup (K := K) (a := a) (xs := xs) (Pv D) (h0 D hD) (fun j H' _ p => SqT.of (hl D hD j H' p _ hx)) (hs D hD) (hd D hD)⟩
end L2
/-! Own errors: made, raised, caught, asked of; defs that raise; defs that are called in a suite. All over the errors whose context is None. -/
namespace EX
open PySem PySem.Spec PyProof.Rows L2
/-- a def that may raise, by its body -/
theorem okR {P : Program} {w : World} {K : PySem.W.Frag} {mg : Str → Option Value} {base : Heap} {x qual : Str} {st : Stmt} {f : Addr} {fd : FuncData} {N ps : List Str} {k : Nat} {sp : Sp} (F : Fun K x qual st f fd) (S : FnScope N ps (defScope st))
    (len : ∀ vs H Q E, sp vs H Q E → vs.length = ps.length)
    (body : ∀ (cdv : Value) (A : Around) (outer : List Env) (s : Shared) (H : Hp) (vs : List V) (Q : VK) (E : XK), Room k (A.deeper (envOfC qual (defScope st) s.heap.objs.size f cdv)) → sp vs H Q E →
      ∃ t, PSs (cxOf (L2N.CX P w) P w K mg base N qual (defScope st) f cdv A outer s H E) (defBody st) t ∧ t { nx := fun _ H' => Q .non H', rt := Q } (start N vs) H) :
    FnOk P w K mg base (L2N.CX P w) (k + 1) f fd ps sp := by
  obtain ⟨oc, od, kV, doc, pm, an, cdv, ct, osl, rfl, lk, hcd⟩ := F.ex
  exact fn_of lk hcd S len fun A outer s H vs Q E hr hsp => body cdv A outer s H vs Q E hr hsp
/-- a def that does not raise, called while an error is handled, by its body -/
theorem okH {P : Program} {w : World} {K : PySem.W.Frag} {mg : Str → Option Value} {base : Heap} {x qual : Str} {st : Stmt} {f : Addr} {fd : FuncData} {N ps : List Str} {k : Nat} {sp : Sp} (F : Fun K x qual st f fd) (S : FnScope N ps (defScope st))
    (len : ∀ vs H Q E, sp vs H Q E → vs.length = ps.length)
    (body : ∀ (cdv : Value) (A : Around) (outer : List Env) (s : Shared) (H : Hp) (vs : List V) (Q : VK) (E : XK) (p : Addr × Obj), L2H.RoomH k (A.deeper (envOfC qual (defScope st) s.heap.objs.size f cdv)) → L2H.Hot1 A p → sp vs H Q E →
      ∃ t, PSs (L2H.cxH CX0 P w K mg base N qual (defScope st) f cdv A outer s H E p).nox (defBody st) t ∧ t { nx := fun _ H' => Q .non H', rt := Q } (start N vs) H) :
    L2H.FnH P w K mg base CX0 (k + 1) f fd ps sp := by
  obtain ⟨oc, od, kV, doc, pm, an, cdv, ct, osl, rfl, lk, hcd⟩ := F.ex
  refine L2H.fn_ofH lk hcd S len fun A outer s H vs Q E p hot hr hsp => ?_
  obtain ⟨t, h, q⟩ := body cdv A outer s H vs Q E p hr hot hsp
  exact ⟨t, h.nox, q⟩
/-- defs as their callers see them: one that may raise; one that is called in a suite -/
def CalX (P : Program) (w : World) (K : PySem.W.Frag) (mg : Str → Option Value) (base : Heap) (k : Nat) (x : Str) (ps : List Str) (sp : Sp) : Prop :=
  ∃ (f : Addr) (fd : FuncData), FnOk P w K mg base (L2N.CX P w) k f fd ps sp ∧ mg x = some (.ref f) ∧ PySem.W.keepIn K (.ref f) = true ∧ Binds K fd ps []
def CalH (P : Program) (w : World) (K : PySem.W.Frag) (mg : Str → Option Value) (base : Heap) (k : Nat) (x : Str) (ps : List Str) (sp : Sp) : Prop :=
  ∃ (f : Addr) (fd : FuncData), L2H.FnH P w K mg base CX0 k f fd ps sp ∧ mg x = some (.ref f) ∧ PySem.W.keepIn K (.ref f) = true ∧ Binds K fd ps []
section
variable {X : Cx} {k : Nat} {x : Str} {ps : List Str} {sp : Sp} {p pos : Pos} {e : Expr} {es : List Expr} {t : TA} {W : WX}
/-- f(..) that may raise; W: what is wished of what is raised -/
theorem pe_calX (C : CalX X.prog X.w X.K X.mg X.base k x ps sp) (hr : Room k X.A) (hg : Gl X x) (tk : L2N.Takes X W) (ha : PA X (e :: es) t)
    (hdb : (x == ("__debug__" : Str)) = false := by decide) (he : starEach (e :: es) X.env = (false, eval e X.env) :: starEach es X.env := by rfl) (hpl : (backTo pos (starEach es X.env)).any (·.1) = false := by rfl) :
    PE X (.Call (.Name x p) (e :: es) [] pos) (tCallS sp (WE W) t) := by
  obtain ⟨f, fd, G, m, kp, b⟩ := C
  exact pe_callS G hr hg m kp b (L2N.passAt tk) ha hdb he hpl
theorem passH {X : Cx} {σ : L2.St} : PassesAt CX0 X σ E0 := fun _ _ _ _ _ _ h => h.elim
/-- f(..) in a suite -/
theorem pe_calH (C : CalH X.prog X.w X.K X.mg X.base k x ps sp) (hr : L2H.RoomH k X.A) (hc : L2H.HotC X) (hg : Gl X x) (ha : PA X (e :: es) t)
    (hdb : (x == ("__debug__" : Str)) = false := by decide) (he : starEach (e :: es) X.env = (false, eval e X.env) :: starEach es X.env := by rfl) (hpl : (backTo pos (starEach es X.env)).any (·.1) = false := by rfl) :
    PE X (.Call (.Name x p) (e :: es) [] pos) (tCallS sp (fun _ => E0) t) := by
  obtain ⟨f, fd, G, m, kp, b⟩ := C
  exact L2H.pe_callH G hr hc hg m kp b (fun _ => passH) ha hdb he hpl
/-- the suite of an error whose context is None bears it -/
theorem hot_of {X : Cx} {a : Addr} {oe : Obj} {cls : Value} {d : Option Addr} {pn : List (Addr × Obj)} (hz : L2N.Zn cls d oe) (hf : ∃ vs, oe.data = .fields vs) : L2H.HotC (X.suite a ((a, oe) :: pn)) := by
  obtain ⟨vs, e⟩ := hf
  exact ⟨(a, oe), ⟨rfl, vs, e, hz.2.2 vs e⟩, List.mem_cons_self⟩
theorem roomS {X : Cx} {k : Nat} {a : Addr} {pn : List (Addr × Obj)} (hr : Room k X.A) : L2H.RoomH k (X.suite a pn).A := ⟨hr.dp, hr.un⟩
/-- nothing is let out -/
theorem takesN {X : Cx} : L2N.Takes X (fun _ _ _ _ => False) := fun _ _ h => by
  obtain ⟨_, _, _, _, _, _, _, _, _, _, _, _, _, _, _, _, z⟩ := h
  exact z.elim
theorem passN {X : Cx} {E : XK} : Passes CX0 X E := fun _ _ _ _ _ _ _ h => h.elim
end
/-! ### making -/
section
variable {X : Cx} {C : Addr} {bmB : List Value} {B newId initId : String}
/-- X(), an own class without an __init__ -/
theorem pmk0 {x : Str} {p pos : Pos} (F : ExcBaseFacts B newId initId bmB) (q : PySem.W.excIn X.K C bmB newId = true) (gC : X.mg x = some (.ref C)) (kC : PySem.W.keepIn X.K (.ref C) = true) (r : Raises X (.ref C)) (hg : Gl X x)
    (hdb : (x == ("__debug__" : Str)) = false := by decide) : L2N.PMk X (.Call (.Name x p) [] [] pos) (fun _ H Q => Q (.ref C) none H) := by
  intro pins s σ H Q I h
  refine wpAny_Call_Name_kw (ld_glob I hg gC (PySem.W.callWith_K0 I.kIn kC ?_) hdb)
  obtain ⟨bm, N, nm, qn, bs, hdct, sn, sub, ab, col, dd, k0, k1, k2, k3, k5, mN, hC, hN, hni, T⟩ := exc_obj I.kIn q
  exact wpAny_call_exc_subT F T hC hN hni (fun h' e hm => L2N.mk_of I hm r h (I.hok.gone hm.new)) (Nat.zero_le _)
/-- X(..), an own class with an __init__ -/
theorem pmkI {CX : CXT} {x : Str} {fI : Addr} {k : Nat} {fd : FuncData} {ps : List Str} {sp : Sp} {e : Expr} {es : List Expr} {ta : TA} {p pos : Pos} (T : OexC X.K C) (iC : PySem.W.findIn X.K (.ref C) "__init__" = some (some (.ref fI)))
    (tI : PySem.W.typeIn X.K (.ref fI) = some (.type "function")) (F1 : FnOk X.prog X.w X.K X.mg X.base CX k fI fd ps sp) (hr : Room (k + 1) X.A) (hb : Binds X.K fd ps []) (hx : Passes CX X (fun _ _ _ => False)) (hg : Gl X x) (hm : X.mg x = some (.ref C)) (ha : PA X (e :: es) ta)
    (hdb : (x == ("__debug__" : Str)) = false := by decide) (he : starEach (e :: es) X.env = (false, eval e X.env) :: starEach es X.env := by rfl) (hpl : (backTo pos (starEach es X.env)).any (·.1) = false := by rfl) :
    L2N.PMk X (.Call (.Name x p) (e :: es) [] pos) (tMkO C sp [] ta) := by
  intro pins s σ H Q I h
  obtain ⟨nm, q, N, bs, bm, sn, sub, ab, col, dd, k0, k1, k2, k3, k5, hC, hbm⟩ := T.cls
  refine wpAny_Call_Name_kw (ld_glob I hg hm (PySem.W.callWith_K (h₀ := X.base) I.ok.mod.kin T.kC (thn (ha.run pos pins s σ H _ I h) fun us s1 hh => ?_) he hpl) hdb)
  obtain ⟨vs, H1, I1, r1, hz, q1⟩ := hh
  refine ⟨I1.kIn, ?_⟩
  show wpAny _ _ (call (.ref C) us) _ _ _
  obtain ⟨hp, g, dr, tk, os⟩ := s1
  have fresh := I1.hok.fresh (Nat.le_succ hp.objs.size)
  have hq := q1 (hp.objs.size + 1) fresh
  rw [List.append_nil] at hq
  generalize eh : (hp.push (PySem.W.kdv_tup us)).push (PySem.HandSPX.excO C hp.objs.size) = hn
  have kk : ∀ b o, hp.get? b = some o → hn.get? b = some o := fun b o z => by
    rw [← eh]
    exact Heap.get?_push_of_some _ (Heap.get?_push_of_some _ z)
  have hget : hn.get? (hp.objs.size + 1) = some (PySem.HandSPX.excO C hp.objs.size) := by
    rw [← eh]
    heap_get
  have I2 : Inv X pins σ (upd H1 (hp.objs.size + 1) (exo (hp.objs.size + 1) C none)) ⟨hn, g, dr, tk, os⟩ := I1.laid (t' := tk) kk (Nat.le_succ _) (exo_ok hget)
  have r2 : Vals (V.ref (hp.objs.size + 1) :: vs) (Value.ref (hp.objs.size + 1) :: us) := .cons rfl r1
  have hl : (Value.ref (hp.objs.size + 1) :: us).length = ps.length := r2.length.symm.trans (F1.len _ _ _ _ hq)
  have hb' := hb _ (Value.ref (hp.objs.size + 1) :: us) I2.kIn (by rw [List.append_nil]; exact hl)
  rw [List.append_nil] at hb'
  have hus : us.length ≤ sizeLine := by
    rw [← Vals.length r1]
    exact Nat.le_trans hz (by rw [sizeLine_eq]; decide)
  have run := F1.run _ X.stack _ _ ⟨Value.ref (hp.objs.size + 1) :: us, []⟩ _ _ _ (fun _ _ _ => False) (hr.make C us []) (I2.env0.make C us []) hb' r2 hq
  rw [← eh] at run
  refine wpAny_call (PySem.HandSPX.call_own F.excBase_ValueError (fun Y => PySem.HandSPX.refsVE_contains Y bm hbm) (I1.kIn _ _ hC) (PySem.W.looks_findIn I1.kIn iC) (fun self => PySem.W.bind_fn I1.kIn self tI) hus (codeAny_mono run fun r s' hq' => ?_))
  rw [eh] at hq'
  cases r with
  | error er => exact hx pins σ _ _ er s' I2 hq'
  | ok fl =>
    cases fl with
    | next => exact hq'.elim
    | brk => exact hq'.elim
    | cont => exact hq'.elim
    | ret u =>
      obtain ⟨v, H2, os2, bare2, un2, hok2, rv, ev, d, fs, ea, ed, hd1, q2⟩ := hq'
      subst ev
      obtain ⟨h2, g2, d2, t2, os'⟩ := s'
      obtain ⟨t0, G, J, kG, ge, hoe, na⟩ := mk_end0 (d2 := d2) (t2 := t2) I1 (Nat.le_succ _) kk un2 hok2 os2 bare2 ea ed hd1
      exact ⟨rv, hp.objs.size + 1, _, _, ⟨G, g2, d2, t2, os'⟩, _, .ref C, some d, rfl, J, kG, ge, hoe, ⟨rfl, rfl, fun vs z => by cases z; rfl⟩, rfl, rfl, na, rfl, bare2, raises_own T.exC T.tyC, q2⟩
end
/-! ### asking of a caught error -/
/-- what the class at C must say for its instances to be asked of -/
structure XCls (K : PySem.W.Frag) (C : Addr) : Prop where
  cl : (PySem.W.clsIn K C).isSome = true
  ga : PySem.W.findIn K (.ref C) "__getattribute__" = some (some (.builtin "BaseException.__getattribute__"))
  gg : PySem.W.findIn K (.ref C) "__getattr__" = some none
  su : PySem.W.subIn K (.ref C) (.type "BaseException") = some true
  ca : PySem.W.findIn K (.ref C) "__class__" = some (some (.builtin "object.__class__"))
  cn : PySem.W.specialIn K (.builtin "object.__class__") "__get__" = some (some (.builtin "getset_descriptor.__get__"))
  ct : PySem.W.takesIn K (.builtin "object.__class__") = some true
  cm : PySem.W.mroIn K C (.type "object") = some true
  hd : PySem.W.hasDictIn K C = true
  ty : PySem.W.typeIn K (.ref C) = some (.type "type")
  kp : PySem.W.keepIn K (.ref C) = true
def xclsB (K : PySem.W.Frag) (C : Addr) : Bool :=
  (PySem.W.clsIn K C).isSome && decide (PySem.W.findIn K (.ref C) "__getattribute__" = some (some (.builtin "BaseException.__getattribute__"))) && decide (PySem.W.findIn K (.ref C) "__getattr__" = some none) &&
  decide (PySem.W.subIn K (.ref C) (.type "BaseException") = some true) && decide (PySem.W.findIn K (.ref C) "__class__" = some (some (.builtin "object.__class__"))) &&
  decide (PySem.W.specialIn K (.builtin "object.__class__") "__get__" = some (some (.builtin "getset_descriptor.__get__"))) && decide (PySem.W.takesIn K (.builtin "object.__class__") = some true) &&
  decide (PySem.W.mroIn K C (.type "object") = some true) && PySem.W.hasDictIn K C && decide (PySem.W.typeIn K (.ref C) = some (.type "type")) && PySem.W.keepIn K (.ref C)
theorem xcls_of {K : PySem.W.Frag} {C : Addr} (h : xclsB K C = true) : XCls K C := by
  unfold xclsB at h
  simp only [Bool.and_eq_true, decide_eq_true_eq] at h
  obtain ⟨⟨⟨⟨⟨⟨⟨⟨⟨⟨a, b⟩, c⟩, d⟩, e⟩, f⟩, g⟩, h⟩, i⟩, j⟩, k⟩ := h
  exact ⟨a, b, c, d, e, f, g, h, i, j, k⟩
theorem XCls.xf {K : PySem.W.Frag} {C : Addr} (T : XCls K C) : XfC K C := ⟨T.ga, T.gg, T.su, T.hd⟩
theorem XCls.raises {X : Cx} {C : Addr} (T : XCls X.K C) : Raises X (.ref C) := raises_own T.su T.ty
theorem XCls.kit {K : PySem.W.Frag} {C x : Addr} {ox : Obj} {od : Option Obj} (T : XCls K C) : PySem.W.KitX K (.ref x) (.ref C) (fun h => PySem.W.InstAt h x ox C od) := PySem.W.kitx_exc T.cl T.ga T.gg T.su T.ca T.cn T.ct T.cm
/-- the class at C beside the class at D, as isinstance and except see them: b tells whether C is D or stands below it -/
structure Below (K : PySem.W.Frag) (C D : Addr) (b : Bool) : Prop where
  one : PySem.W.kitOne K (.ref C) (.ref D) = some b
  exm : PySem.W.exmOne K (.ref C) (.ref D) = some b
theorem exm_kit {K : PySem.W.Frag} {C D : Addr} {b : Bool} (T : XCls K C) (hs : PySem.W.subIn K (.ref C) (.ref D) = some b) (U : XCls K D) (hne : (Value.ref C == Value.ref D) = true → b = true) : Below K C D b := by
  have h2 : ((PySem.W.clsIn K D).isSome && PySem.W.typeIn K (.ref D) == some (.type "type")) = true := by
    rw [U.cl, U.ty]
    rfl
  have h3 : PySem.W.kitCls K (.ref C) (.ref D) = some b := by
    show (if _ then _ else _) = _
    rw [if_pos h2]
    exact hs
  refine ⟨?_, ?_⟩
  · show (if _ then _ else _) = _
    by_cases e : (Value.ref C == Value.ref D) = true
    · rw [if_pos e, hne e]
    · rw [if_neg e]
      exact h3
  · show (if _ then _ else _) = _
    have e : (PySem.W.subIn K (.ref D) (.type "BaseException") == some true) = true := by rw [U.su]; rfl
    rw [if_pos e]
    exact h3
/-- isinstance and except, from what the written part says of two classes -/
theorem kit_sub {K : PySem.W.Frag} {C D : Addr} {b : Bool} (i : PySem.W.isClsIn K D = true) (t : PySem.W.typeIn K (.ref D) = some (.type "type")) (s : PySem.W.subIn K (.ref C) (.ref D) = some b) (r : PySem.W.subIn K (.ref C) (.ref C) = some true) : PySem.W.kitOne K (.ref C) (.ref D) = some b := by
  have h2 : ((PySem.W.clsIn K D).isSome && PySem.W.typeIn K (.ref D) == some (.type "type")) = true := by
    have i' : (PySem.W.clsIn K D).isSome = true := i
    rw [i', t]
    rfl
  show (if _ then _ else _) = _
  by_cases e : (Value.ref C == Value.ref D) = true
  · rw [if_pos e]
    have e' : Value.ref C = Value.ref D := eq_of_beq e
    rw [← e', r] at s
    exact s
  · rw [if_neg e]
    show (if _ then _ else _) = _
    rw [if_pos h2]
    exact s
theorem kit_blt {K : PySem.W.Frag} {C : Addr} {T : String} {b : Bool} (m : PySem.W.kitMeta T = true) (s : PySem.W.subIn K (.ref C) (.type T) = some b) : PySem.W.kitOne K (.ref C) (.type T) = some b := by
  show (if _ then _ else _) = _
  rw [if_neg (by exact Bool.false_ne_true)]
  show (if _ then _ else _) = _
  rw [if_pos m]
  exact s
theorem exm_sub {K : PySem.W.Frag} {C D : Addr} {b : Bool} (i : PySem.W.isClsIn K D = true) (t : PySem.W.typeIn K (.ref D) = some (.type "type")) (e : PySem.W.subIn K (.ref D) (.type "BaseException") = some true) (s : PySem.W.subIn K (.ref C) (.ref D) = some b) : PySem.W.exmOne K (.ref C) (.ref D) = some b := by
  have h2 : ((PySem.W.clsIn K D).isSome && PySem.W.typeIn K (.ref D) == some (.type "type")) = true := by
    have i' : (PySem.W.clsIn K D).isSome = true := i
    rw [i', t]
    rfl
  have h1 : (PySem.W.subIn K (.ref D) (.type "BaseException") == some true) = true := by
    rw [e]
    rfl
  show (if _ then _ else _) = _
  rw [if_pos h1]
  show (if _ then _ else _) = _
  rw [if_pos h2]
  exact s
/-- where the error's own dict stands -/
def DictAt (H : Hp) (d : Option Addr) : Prop := d = none ∨ ∃ (dd : Addr) (fs : List (Str × V)), d = some dd ∧ H dd = some (.xd fs)
theorem inst_of {X : Cx} {pins : List (Addr × Obj)} {σ : L2.St} {H : Hp} {s : Shared} {a D : Addr} {oe : Obj} {d : Option Addr} {pn : List (Addr × Obj)} (I : Inv (X.suite a ((a, oe) :: pn)) pins σ H s) (hz : Zc (.ref D) d oe) (hf : ∃ vs, oe.data = .fields vs) (hd : DictAt H d) :
    ∃ od, PySem.W.InstAt s.heap a oe D od := by
  obtain ⟨hget, _⟩ := I.pin (a, oe) (List.mem_append_left _ List.mem_cons_self)
  obtain ⟨vs, hv⟩ := hf
  have no : PySem.W.notCls oe = true := by unfold PySem.W.notCls; rw [hv]
  rcases hd with rfl | ⟨dd, fs, rfl, hx⟩
  · exact ⟨none, hget, hz.1, no, by rw [hz.2]; trivial⟩
  · have hx : ObjOk X.prog X.w H s.heap dd (.xd fs) := I.hok dd _ hx
    obtain ⟨mA, hns, _⟩ := hx
    obtain ⟨od, ho, _⟩ := lookIn_ns hns
    exact ⟨some od, hget, hz.1, no, by rw [hz.2]; exact ho⟩
/-- isinstance(e, c) -/
def rIsX (K : PySem.W.Frag) (a : Addr) (cls : Value) (d : Option Addr) : List V → Hp → VK → Prop := fun xs H Q => ∃ (D : Addr) (c : V) (cv : Value) (b : Bool), xs = [.ref a, c] ∧ ClsV c cv ∧ cls = .ref D ∧ XCls K D ∧ DictAt H d ∧ PySem.W.kitOne K (.ref D) cv = some b ∧ Q (.bl b) H
/-- isinstance(e, (c, ..)) -/
def rIsXT (K : PySem.W.Frag) (a : Addr) (cls : Value) (d : Option Addr) : List V → Hp → VK → Prop := fun xs H Q => ∃ (D tp : Addr) (cs : List V) (us : List Value) (b : Bool), xs = [.ref a, .ref tp] ∧ H tp = some (.tup cs) ∧ Paired ClsV cs us ∧ cls = .ref D ∧ XCls K D ∧ DictAt H d ∧
  PySem.W.kitAny K (.ref D) us = some b ∧ Q (.bl b) H
section
variable {X : Cx} {a : Addr} {oe : Obj} {cls : Value} {d : Option Addr} {pn : List (Addr × Obj)}
theorem call_isX {K : PySem.W.Frag} (hK : X.K = K) (hz : Zc cls d oe) (hf : ∃ vs, oe.data = .fields vs) : CallR (X.suite a ((a, oe) :: pn)) (.builtin "isinstance") (rIsX K a cls d) := by
  subst hK
  intro pins s σ H xs us Q I r h
  obtain ⟨D, c, cv, b, rfl, k, rfl, T, hd, e, q⟩ := h
  obtain ⟨u1, u2, rfl, r1, r2⟩ := vals2 r
  cases (show u1 = Value.ref a from r1)
  have e2 := k.eq r2
  subst e2
  obtain ⟨od, J⟩ := inst_of I hz hf hd
  exact PySem.W.kia_one T.kit I.kIn J e (fun z => nomatch z) fun tk => ⟨.bl b, H, I.tok tk, rfl, q⟩
theorem call_isXT {K : PySem.W.Frag} (hK : X.K = K) (hz : Zc cls d oe) (hf : ∃ vs, oe.data = .fields vs) : CallR (X.suite a ((a, oe) :: pn)) (.builtin "isinstance") (rIsXT K a cls d) := by
  subst hK
  intro pins s σ H xs us Q I r h
  obtain ⟨D, tp, cs, ws, b, rfl, hT, k, rfl, T, hd, e, q⟩ := h
  obtain ⟨u1, u2, rfl, r1, r2⟩ := vals2 r
  cases (show u1 = Value.ref a from r1)
  cases (show u2 = Value.ref tp from r2)
  obtain ⟨_, its, rv, o, h1, h2, n, h3⟩ := (show ObjOk X.prog X.w H s.heap tp (.tup cs) from I.hok tp _ hT)
  have e3 := ClsV.all k rv
  subst e3
  obtain ⟨oc, od', dt, sl⟩ := o
  simp only at h2 h3
  subst h2 h3
  obtain ⟨od, J⟩ := inst_of I hz hf hd
  exact PySem.W.kia_tup T.kit I.kIn J h1 e (fun z => nomatch z) fun tk => ⟨.bl b, H, I.tok tk, rfl, q⟩
end
end EX
/-! An exception object as a value; a caught error as an argument. -/
namespace EX
open PySem PySem.Spec PyProof.Rows L2
section
variable {X : Cx} {C : Addr} {bmB : List Value} {B newId initId : String}
/-- X() as a value, an own class without an __init__ -/
theorem pe_exc0 {x : Str} {p pos : Pos} (F : ExcBaseFacts B newId initId bmB) (q : PySem.W.excIn X.K C bmB newId = true) (gC : X.mg x = some (.ref C)) (kC : PySem.W.keepIn X.K (.ref C) = true) (hg : Gl X x) (hdb : (x == ("__debug__" : Str)) = false := by decide) :
    PE X (.Call (.Name x p) [] [] pos) (fun _ H Q => ∀ a, H a = none → Q (.ref a) (upd H a (ExO (.ref C) a))) := by
  refine ⟨fun pins s σ H Q I h => ?_⟩
  refine wpAny_Call_Name_kw (ld_glob I hg gC (PySem.W.callWith_K0 I.kIn kC ?_) hdb)
  obtain ⟨bm, N, nm, qn, bs, hdct, sn, sub, ab, col, dd, k0, k1, k2, k3, k5, mN, hC, hN, hni, T⟩ := exc_obj I.kIn q
  refine wpAny_call_exc_subT F T hC hN hni (fun h' e hm => ?_) (Nat.zero_le _)
  have free : H e = none := I.hok.gone hm.new
  obtain ⟨t, there, _, _⟩ := hm.there
  exact ⟨.ref e, _, I.laidN hm.keeps hm.new free (exO_ok there ⟨rfl, rfl⟩ rfl rfl rfl (show 4 < 6 by decide)), rfl, h e free⟩
end
theorem notCls_of {o : Obj} {vs : Array Value} (h : o.data = .fields vs) : PySem.W.notCls o = true := by
  unfold PySem.W.notCls
  rw [h]
/-- isinstance of an exception object that is a value -/
def rIsO (K : PySem.W.Frag) : List V → Hp → VK → Prop := fun xs H Q => ∃ (a D : Addr) (c : V) (cv : Value) (b : Bool), xs = [.ref a, c] ∧ ClsV c cv ∧ H a = some (ExO (.ref D) a) ∧ XCls K D ∧ PySem.W.kitOne K (.ref D) cv = some b ∧ Q (.bl b) H
def rIsOT (K : PySem.W.Frag) : List V → Hp → VK → Prop := fun xs H Q => ∃ (a D tp : Addr) (cs : List V) (us : List Value) (b : Bool), xs = [.ref a, .ref tp] ∧ H tp = some (.tup cs) ∧ Paired ClsV cs us ∧ H a = some (ExO (.ref D) a) ∧ XCls K D ∧ PySem.W.kitAny K (.ref D) us = some b ∧ Q (.bl b) H
section
variable {X : Cx}
theorem inst_O {pins : List (Addr × Obj)} {σ : L2.St} {H : Hp} {s : Shared} {a D : Addr} (I : Inv X pins σ H s) (h : H a = some (ExO (.ref D) a)) : ∃ oe, PySem.W.InstAt s.heap a oe D none := by
  obtain ⟨⟨oe, vs, hget, hz, hd, _⟩, _⟩ := (show ObjOk X.prog X.w H s.heap a (ExO (.ref D) a) from I.hok a _ h)
  exact ⟨oe, hget, hz.1, notCls_of hd, by rw [hz.2]; trivial⟩
theorem call_isO {K : PySem.W.Frag} (hK : X.K = K) : CallR X (.builtin "isinstance") (rIsO K) := by
  subst hK
  intro pins s σ H xs us Q I r h
  obtain ⟨a, D, c, cv, b, rfl, k, ha, T, e, q⟩ := h
  obtain ⟨u1, u2, rfl, r1, r2⟩ := vals2 r
  cases (show u1 = Value.ref a from r1)
  have e2 := k.eq r2
  subst e2
  obtain ⟨oe, J⟩ := inst_O I ha
  exact PySem.W.kia_one T.kit I.kIn J e (fun z => nomatch z) fun tk => ⟨.bl b, H, I.tok tk, rfl, q⟩
theorem call_isOT {K : PySem.W.Frag} (hK : X.K = K) : CallR X (.builtin "isinstance") (rIsOT K) := by
  subst hK
  intro pins s σ H xs us Q I r h
  obtain ⟨a, D, tp, cs, ws, b, rfl, hT, k, ha, T, e, q⟩ := h
  obtain ⟨u1, u2, rfl, r1, r2⟩ := vals2 r
  cases (show u1 = Value.ref a from r1)
  cases (show u2 = Value.ref tp from r2)
  obtain ⟨_, its, rv, o, h1, h2, n, h3⟩ := (show ObjOk X.prog X.w H s.heap tp (.tup cs) from I.hok tp _ hT)
  have e3 := ClsV.all k rv
  subst e3
  obtain ⟨oc, od', dt, sl⟩ := o
  simp only at h2 h3
  subst h2 h3
  obtain ⟨oe, J⟩ := inst_O I ha
  exact PySem.W.kia_tup T.kit I.kIn J h1 e (fun z => nomatch z) fun tk => ⟨.bl b, H, I.tok tk, rfl, q⟩
end
/-! ### isinstance of a pinned error, in any context that bears it -/
def rIsP (K : PySem.W.Frag) (a : Addr) (D : Addr) : List V → Hp → VK → Prop := fun xs H Q => ∃ (c : V) (cv : Value) (b : Bool), xs = [.ref a, c] ∧ ClsV c cv ∧ XCls K D ∧ PySem.W.kitOne K (.ref D) cv = some b ∧ Q (.bl b) H
def rIsPT (K : PySem.W.Frag) (a : Addr) (D : Addr) : List V → Hp → VK → Prop := fun xs H Q => ∃ (tp : Addr) (cs : List V) (us : List Value) (b : Bool), xs = [.ref a, .ref tp] ∧ H tp = some (.tup cs) ∧ Paired ClsV cs us ∧ XCls K D ∧ PySem.W.kitAny K (.ref D) us = some b ∧ Q (.bl b) H
section
variable {X : Cx} {p : Addr × Obj} {D : Addr}
theorem inst_P {pins : List (Addr × Obj)} {σ : L2.St} {H : Hp} {s : Shared} (I : Inv X pins σ H s) (hm : p ∈ X.pn) (hz : Zc (.ref D) none p.2) (hf : ∃ vs, p.2.data = .fields vs) : PySem.W.InstAt s.heap p.1 p.2 D none := by
  obtain ⟨hget, _⟩ := I.pin p (List.mem_append_left _ hm)
  obtain ⟨vs, hv⟩ := hf
  exact ⟨hget, hz.1, notCls_of hv, by rw [hz.2]; trivial⟩
theorem call_isP {K : PySem.W.Frag} (hK : X.K = K) (hm : p ∈ X.pn) (hz : Zc (.ref D) none p.2) (hf : ∃ vs, p.2.data = .fields vs) : CallR X (.builtin "isinstance") (rIsP K p.1 D) := by
  subst hK
  intro pins s σ H xs us Q I r h
  obtain ⟨c, cv, b, rfl, k, T, e, q⟩ := h
  obtain ⟨u1, u2, rfl, r1, r2⟩ := vals2 r
  cases (show u1 = Value.ref p.1 from r1)
  have e2 := k.eq r2
  subst e2
  exact PySem.W.kia_one T.kit I.kIn (inst_P I hm hz hf) e (fun z => nomatch z) fun tk => ⟨.bl b, H, I.tok tk, rfl, q⟩
theorem call_isPT {K : PySem.W.Frag} (hK : X.K = K) (hm : p ∈ X.pn) (hz : Zc (.ref D) none p.2) (hf : ∃ vs, p.2.data = .fields vs) : CallR X (.builtin "isinstance") (rIsPT K p.1 D) := by
  subst hK
  intro pins s σ H xs us Q I r h
  obtain ⟨tp, cs, ws, b, rfl, hT, k, T, e, q⟩ := h
  obtain ⟨u1, u2, rfl, r1, r2⟩ := vals2 r
  cases (show u1 = Value.ref p.1 from r1)
  cases (show u2 = Value.ref tp from r2)
  obtain ⟨_, its, rv, o, h1, h2, n, h3⟩ := (show ObjOk X.prog X.w H s.heap tp (.tup cs) from I.hok tp _ hT)
  have e3 := ClsV.all k rv
  subst e3
  obtain ⟨oc, od', dt, sl⟩ := o
  simp only at h2 h3
  subst h2 h3
  exact PySem.W.kia_tup T.kit I.kIn (inst_P I hm hz hf) h1 e (fun z => nomatch z) fun tk => ⟨.bl b, H, I.tok tk, rfl, q⟩
end
/-! ### a def whose one argument is the error that is handled -/
structure FnE (P : Program) (w : World) (K : PySem.W.Frag) (mg : Str → Option Value) (base : Heap) (k : Nat) (f : Addr) (fd : FuncData) (x : Str) (D : Addr) (v : V) : Prop where
  run : ∀ (A : Around) (outer : List Env) (s : Shared) (H : Hp) (Q : VK) (p : Addr × Obj), L2H.RoomH k A → L2H.Hot1 A p → Zc (.ref D) none p.2 → L2H.PinOk outer H s p → Env0 P w K mg base A outer s H → BindsTo s fd ⟨[.ref p.1], []⟩ [(x, .ref p.1)] → (∀ H', Same H H' → Q v H') →
    codeAny (model P w) A (.call (.ref f) ⟨[.ref p.1], []⟩) (CR CX0 outer P w H s Q (fun _ _ _ => False)) s
def CalE (P : Program) (w : World) (K : PySem.W.Frag) (mg : Str → Option Value) (base : Heap) (k : Nat) (n x : Str) (D : Addr) (v : V) : Prop :=
  ∃ (f : Addr) (fd : FuncData), FnE P w K mg base k f fd x D v ∧ mg n = some (.ref f) ∧ PySem.W.keepIn K (.ref f) = true ∧ Binds K fd [x] []
section
variable {P : Program} {w : World} {K : PySem.W.Frag} {mg : Str → Option Value} {base : Heap} {x n qual : Str} {st : Stmt} {f D : Addr} {fd : FuncData} {N : List Str} {k : Nat} {v : V}
/-- such a def, by its body -/
theorem okE (F : Fun K n qual st f fd) (S : FnScope N [x] (defScope st))
    (body : ∀ (cdv : Value) (A : Around) (outer : List Env) (s : Shared) (H : Hp) (Q : VK) (p : Addr × Obj), L2H.RoomH k (A.deeper (envOfC qual (defScope st) s.heap.objs.size f cdv)) → Zc (.ref D) none p.2 → (∃ vs, p.2.data = .fields vs) → (∀ H', Same H H' → Q v H') →
      ∃ t, PSs (L2H.cxH CX0 P w K mg base N qual (defScope st) f cdv A outer s H (fun _ _ _ => False) p).nox (defBody st) t ∧ t { nx := fun _ H' => Q .non H', rt := Q } (start N [.ref p.1]) H) : FnE P w K mg base (k + 1) f fd x D v := by
  obtain ⟨oc, od, kV, doc, pm, an, cdv, ct, osl, rfl, lk, hcd⟩ := F.ex
  refine ⟨fun A outer s H Q p hr hot hz pin e0 hb q => ?_⟩
  have there : ∀ b o, base.get? b = some o → s.heap.get? b = some o := fun b o e => (e0.bs b o e).1
  have kin : K.In s.heap := e0.mod.kin.keeps there
  have lims := e0.mod.nolimit.keeps there
  have kinds : ∀ y ∈ [(x, Value.ref p.1)], (defScope st).names.lookup y.1 = some .local ∨
      ((defScope st).names.lookup y.1 = some .cell ∧ ((cellsFrom (s.heap.objs.size + 1) (defScope st).names []).lookup y.1).isSome = true) := fun y hy => by
    rw [List.mem_singleton.mp hy]
    exact (S.par x List.mem_cons_self).imp id fun q => ⟨q, PySem.W.cellsFrom_some _ _ _ (.inl q)⟩
  refine codeAny_call_function hr.depth (kin _ _ lk) rfl S.co S.gen rfl
    (PySem.W.codeRec_of kin hcd) (hb _ _ _ _ ?_)
  refine wpAny_newFunctionEnv_cells S.kind kinds fun env he s1 y => ?_
  subst he
  refine ⟨lims.keeps y.toInCall.keep, codeAny_func ?_⟩
  obtain ⟨t, ht, ht2⟩ := body cdv A outer s H Q p (hr.deeper _) hz (hot.2.elim fun a h => ⟨a, h.1⟩) q
  have I := L2H.inv_startH (CX := CX0) (us := [.ref p.1]) (vs := [V.ref p.1]) (E := fun _ _ _ => False) (cd := cdv) S pin e0 rfl (.cons rfl .nil) y
  refine wpAny_mono (ht.nox.run [] s1 (L2.start N [V.ref p.1]) H _ I ht2)
    (fun fl s' hs => ?_) (fun e s' hs => hs)
  match fl, hs with
  | .ret u, ⟨v, σ', H', J, rv, q⟩ => exact ⟨v, H', J.os, J.bare, J.base, J.hok, rv, q⟩
  | .next, ⟨σ', H', J, q⟩ => exact ⟨V.non, H', J.os, J.bare, J.base, J.hok, rfl, q⟩
  | .brk, ⟨_, _, _, q⟩ => exact q.elim
  | .cont, ⟨_, _, _, q⟩ => exact q.elim
end
/-- f(e), e the error that the suite holds -/
def tCallE (D : Addr) (v : V) (a : Addr) (cls : Value) (d : Option Addr) (te : TE) : TE := fun σ H Q => te σ H fun y H1 => y = .ref a ∧ cls = .ref D ∧ d = none ∧ ∀ H', Same H1 H' → Q v H'
theorem pe_callE {X : Cx} {k : Nat} {a D : Addr} {oe : Obj} {cls : Value} {d : Option Addr} {pn : List (Addr × Obj)} {n x : Str} {v : V} {q pos : Pos} {e : Expr} {te : TE} (C : CalE X.prog X.w X.K X.mg X.base k n x D v) (hr : L2H.RoomH k (X.suite a ((a, oe) :: pn)).A) (hz : L2N.Zn cls d oe) (hf : ∃ vs, oe.data = .fields vs)
    (hg : Gl X n) (ha : PE (X.suite a ((a, oe) :: pn)) e te) (hdb : (n == ("__debug__" : Str)) = false := by decide) (he : starEach [e] X.env = [(false, eval e X.env)] := by rfl) (hpl : (backTo pos (starEach ([] : List Expr) X.env)).any (·.1) = false := by rfl) :
    PE (X.suite a ((a, oe) :: pn)) (.Call (.Name n q) [e] [] pos) (tCallE D v a cls d te) := by
  obtain ⟨f, fd, G, hm, hk, hb⟩ := C
  refine ⟨fun pins s σ H Q I h => ?_⟩
  refine wpAny_Call_Name_kw (ld_glob I hg hm ?_ hdb)
  refine PySem.W.callWith_K (h₀ := X.base) I.ok.mod.kin hk ?_ he hpl
  refine thn ((pa_cons (hs := he) ha pa_nil).run pos pins s σ H (fun ys H1 => match ys with | [y] => y = V.ref a ∧ cls = .ref D ∧ d = none ∧ ∀ H', Same H1 H' → Q v H' | _ => False) I h) fun us s1 hh => ?_
  obtain ⟨ys, H1, I1, r, q⟩ := hh
  refine ⟨I1.kIn, ?_⟩
  match ys, us, r, q with
  | [y], [u], r, q1 =>
    obtain ⟨rfl, rfl, rfl, q2⟩ := q1
    obtain rfl : u = Value.ref a := by
      cases r with
      | cons r0 _ => exact r0
    obtain ⟨z1, z2, z3, z4, z5⟩ := I1.pin (a, oe) (List.mem_append_left _ List.mem_cons_self)
    obtain ⟨vs, ev⟩ := id hf
    have pin : L2H.PinOk X.stack H1 s1 (a, oe) := ⟨z1, z2, fun hmem => (List.mem_cons.mp (I1.stkSub a hmem)).elim z3 z4, z5⟩
    have run := G.run (X.suite a ((a, oe) :: pn)).A X.stack s1 H1 Q (a, oe) hr ⟨rfl, vs, ev, hz.2.2 vs ev⟩ hz.zc pin I1.env0 (hb s1 [.ref a] I1.kIn rfl) q2
    refine wpAny_call (codeAny_mono run fun r s' hq => ?_)
    match r, hq with
    | .ok (.ret u), hq => exact I1.after hq
end EX
set_option maxHeartbeats 2000000
/-! enumerate over a tuple. -/
namespace WE
open PySem PySem.Spec PyProof.Rows L2
/-- enumerate(v): its two new cells -/
theorem meets_enB {v : Value} {o : Obj} {G : Heap → Prop} (B : Begins v o G) :
    Meets (Builtin.«enumerate.__new__» ⟨[.type "enumerate", v], []⟩) (fun _ R s => G s.heap ∧
      R (.ok (.ret (.ref (s.heap.push o).objs.size))) { s with heap := (s.heap.push o).push { cls := .type "enumerate", data := .fields #[.none, .bool false, .ref s.heap.objs.size, rawInt 0, .none, .none] } }) :=
  .of_wp fun prog w A R s h => by
    obtain ⟨hp, g, d, tk, os⟩ := s
    obtain ⟨h1, h⟩ := h
    have hsub := sub_enumerate
    have q1 : ∀ {A' : Around} {E : Value → Shared → Prop} {Q : Value → Shared → Prop}, Q (.ref hp.objs.size) ⟨hp.push o, g, d, tk, os⟩ → wpAny (model prog w) A' (pyIter v) Q E ⟨hp, g, d, tk, os⟩ :=
      fun q => B.iter prog w _ _ ⟨hp, g, d, tk, os⟩ _ h1 q
    wp_walk using q1
    refine wpAny_stack_any fun st => wpAny_pure ?_
    split
    · rename_i c _ _ _ _ _
      cases (c == Value.type "enumerate") <;> (wp_walk using q1; exact ⟨_, rfl, h⟩)
    · wp_walk using q1
      exact ⟨_, rfl, h⟩
theorem enB {prog : Program} {w : World} {A : Around} {E : Value → Shared → Prop} {s : Shared} {v : Value} {o : Obj} {G : Heap → Prop} {Q : Value → Shared → Prop} (B : Begins v o G) (h1 : G s.heap)
    (h : ∀ h', IsEnum h' (s.heap.objs.size + 1) s.heap.objs.size 0 .none → h'.get? s.heap.objs.size = some o → h'.objs.size = s.heap.objs.size + 2 →
      (∀ b o, s.heap.get? b = some o → h'.get? b = some o) → Q (.ref (s.heap.objs.size + 1)) { s with heap := h' }) :
    wpAny (model prog w) A (call (.type "enumerate") [v]) Q E s := by
  refine callType_new F.called_enumerate (by decide) (F.typeCall_enumerate_1 _) (F.newCall_enumerate_1 _) (fun obj => F.args_object_init_2 obj _) F.entry_enumerate_new (meets_enB B) ⟨h1, ?_⟩
  have hz : (s.heap.push o).objs.size = s.heap.objs.size + 1 := Heap.size_push ..
  show _ ∧ _
  rw [hz]
  have he : IsEnum ((s.heap.push o).push { cls := .type "enumerate", data := .fields #[.none, .bool false, .ref s.heap.objs.size, rawInt 0, .none, .none] }) (s.heap.objs.size + 1) s.heap.objs.size 0 .none := by
    have := Heap.get?_push_size (s.heap.push o) (o := { cls := .type "enumerate", data := .fields #[.none, .bool false, .ref s.heap.objs.size, rawInt 0, .none, .none] }) rfl
    rw [hz] at this
    exact this
  exact ⟨⟨_, he, rfl⟩, h _ he (Heap.get?_push_of_some _ (Heap.get?_push_size _ B.free)) (by rw [Heap.size_push, hz]) fun b o x => Heap.get?_push_of_some _ (Heap.get?_push_of_some _ x)⟩
/-- the tuple at a, each item in a new pair with its place -/
def IteT (K : PySem.W.Frag) (a : Addr) : It :=
  ⟨fun i H => ∃ (xs : List V) (x : V), SqT K H a xs ∧ xs[i]? = some x, fun i H v H' => ∃ T x, v = .ref T ∧ H T = none ∧ H' = upd H T (.tup [.int (i : Nat), x]) ∧ ∀ xs, SqT K H a xs → xs[i]? = some x, fun i H => ∃ xs : List V, SqT K H a xs ∧ xs.length ≤ i⟩
theorem turn_enT {P : Program} {w : World} {K : PySem.W.Frag} {elts : List Expr} {kk : Nat} {tpos : Pos} (a e it : Addr) :
    Turn P w K (.Tuple elts kk tpos) (IteT K a) [e, it] e (fun i h => (∃ old, IsEnum h e it ((i : Nat) : Int) old) ∧ h.IsTupleIter it a i ∧ e ≠ it) where
  mem := List.mem_cons_self
  obj := fun i h st b hb => by
    obtain ⟨⟨old, he⟩, ⟨o, ho, hc, hd⟩, _⟩ := st
    rcases List.mem_cons.mp hb with z | z
    · rw [z]
      exact ⟨_, he, fun v q => nomatch q⟩
    · rw [List.mem_singleton.mp z]
      exact ⟨o, ho, fun v q => by rw [hd] at q; cases q⟩
  keep := fun i h h' st k => by
    obtain ⟨⟨old, he⟩, hi, hne⟩ := st
    exact ⟨⟨old, k e (by simp) _ he⟩, hi.at fun o q => k it (by simp) o q, hne⟩
  item := by
    intro X hP hw hK hc i pins s σ H E I hf st hg
    subst hP hw hK
    obtain ⟨⟨old, he⟩, hit, hne⟩ := st
    obtain ⟨xs, x, hq, hx⟩ := hg
    obtain ⟨its, rv, p, hz⟩ := I.tuple hq
    obtain ⟨u, hu, ru⟩ := rv.get hx
    have hel : e < s.heap.objs.size := Heap.lt_size he
    have hil : it < s.heap.objs.size := by
      obtain ⟨_, q, _⟩ := hit
      exact Heap.lt_size q
    have hai : a ≠ it := fun z => by
      obtain ⟨o1, g1, d1, _⟩ := p
      obtain ⟨o2, g2, d2, _⟩ := hit
      rw [z, g2] at g1
      cases g1
      rw [d2] at d1
      injection d1 with d3
      exact absurd d3 (by decide)
    have hae : e ∉ [it, a] := fun z => by
      rcases List.mem_cons.mp z with z | z
      · exact hne z
      · obtain ⟨o1, g1, d1, _⟩ := p
        rw [← List.mem_singleton.mp z, he] at g1
        cases g1
        injection d1 with d3
        exact absurd d3 (by decide)
    have hlt : i < its.toArray.size := by
      rw [List.size_toArray]
      exact (List.getElem?_eq_some_iff.mp hu).1
    refine wpAny_pyNext_enum_itemD (Draws.tuple (prog := X.prog) (w := X.w) (A := X.A.in1) (I.ok.hd hc) it a hai its.toArray) he ⟨hit, p⟩ hlt hne hae fun u' h' tk hP' ho hst hT hsz hk => ?_
    have eu : u' = u := by
      have e1 : its.toArray[i]? = some u := by rw [List.getElem?_toArray]; exact hu
      exact Option.some.inj ((show its.toArray[i]? = some u' from hP').symm.trans e1)
    subst eu
    refine ⟨_, rfl, wpAny_letOwnedTupleGo_enum (s := { s with heap := h', toks := tk + 1 }) ho fun h'' he' sb => ?_⟩
    have hT2 : h''.get? s.heap.objs.size = some { cls := .type "tuple", data := .seq #[.int i tk, u'] } := (sb.2 _ (Nat.ne_of_gt hel)).trans hT
    have new : ObjOk X.prog X.w (upd H s.heap.objs.size (.tup [.int (i : Nat), x])) h'' s.heap.objs.size (.tup [.int (i : Nat), x]) :=
      ⟨by show 2 ≤ sizeLine; decide, [.int i tk, u'], .cons ⟨_, rfl⟩ (.cons ru .nil), ⟨_, hT2, rfl, _, rfl⟩⟩
    have I1 : Inv X pins σ (upd H s.heap.objs.size (.tup [.int (i : Nat), x])) { s with heap := h'', toks := tk + 1 } :=
      I.turnedNew (ch := [e, it]) (fun b ob hb q => (sb.2 b (fun z => hb (by simp [z]))).trans (hk b ob (fun z => hb (by simp [z])) (fun z => hb (by simp [z])) q)) hf (Nat.le_refl _) new
    refine ⟨.ref s.heap.objs.size, _, I1, rfl, ⟨_, x, rfl, I.hok.fresh (Nat.le_refl _), rfl, fun ys hy => by rw [I.tuple_inj hy hq]; exact hx⟩, ⟨⟨u', ?_⟩, hst.1.at fun o q => (sb.2 it (Ne.symm hne)).trans q, hne⟩, fun b hb => ?_⟩
    · have e1 : ((i + 1 : Nat) : Int) = (i : Int) + 1 := by omega
      rw [e1]
      exact he'
    · have hb' : b < s.heap.objs.size := by
        rcases List.mem_cons.mp hb with z | z
        · rw [z]
          exact hel
        · rw [List.mem_singleton.mp z]
          exact hil
      rw [upd_ne (Nat.ne_of_lt hb')]
      exact (hf b hb).1
  done := by
    intro X hP hw hK hc i pins s σ H E I hf st hg
    subst hP hw hK
    obtain ⟨⟨old, he⟩, hit, hne⟩ := st
    obtain ⟨xs, hq, hx⟩ := hg
    obtain ⟨its, rv, p, hz⟩ := I.tuple hq
    obtain ⟨f0, f1, f2, f3, f4, f5⟩ := hf it (by simp)
    have hl := rv.length
    have hT : s.TypeIs (.ref e) "enumerate" := ⟨_, he, rfl⟩
    unfold pyNext
    refine wpAny_bind (wpAny_attempt (wpAny_callSpecial?_slot (name := Str.ofString "__next__") hT F.slot_enumerate_next
      (wpAny_call_entry F.slot_enumerate_next hT F.entry_enumerate_next ?_ (F.args_enumerate_next_1 _))))
    show wpAny _ _ (field (.ref e) 2 >>= _) _ _ _
    refine wpAny_bind (wpAny_field he rfl (x := .ref it) rfl ?_)
    refine wpAny_bind (wpAny_nextOf_tuple_end (I.ok.hd hc) hit p (by simp; omega) fun h' x eb hx' => ?_)
    obtain ⟨o, ho, hcl⟩ := hx'
    refine wpAny_bind (wpAny_isInstance (T := "StopIteration") (b := true) ⟨o, ho, hcl⟩ isSubtype_stop ?_)
    exact wpAny_pure ⟨rfl, I.turned (t' := s.toks) (fun b o hb q => eb b o hb q) f0 f1 f3 f4 f5⟩
  self := fun A i s Q E st h => let ⟨⟨_, he⟩, _⟩ := st; wpAny_pyIter_enum he h
def iEnT (K : PySem.W.Frag) (ta : TA) : TI := fun σ H R => ta σ H fun vs H1 => ∃ a xs, vs = [.ref a] ∧ SqT K H1 a xs ∧ R (IteT K a) H1
theorem pi_enT {X : Cx} {e : Expr} {ta : TA} {p pos tpos : Pos} {elts : List Expr} {kk : Nat} (hg : Gl X "enumerate") (hm : X.mg "enumerate" = none) (ha : PA X [e] ta) (hs : starEach [e] X.env = [(false, eval e X.env)] := by rfl) :
    PI X (.Tuple elts kk tpos) (.Call (.Name "enumerate" p) [e] [] pos) (iEnT X.K ta) := by
  refine ⟨fun pins s σ H R I h => ?_⟩
  refine Call_ (ld_blt I hg hm boot_enumerate (PyProof.Rows.callWith_type1 (thn (ha.run pos pins s σ H _ I h) fun us s1 ⟨vs, H1, I1, r1, q1⟩ => ?_) hs rfl))
  obtain ⟨a, xs, ex, hq, q⟩ := q1
  subst ex
  obtain ⟨u, rfl, ru⟩ := vals1 r1
  cases ru
  obtain ⟨its, rv, p', hz⟩ := I1.tuple hq
  refine enB (begins_tuple a its.toArray) p' fun h' he hit hsz hk => wpAny_pyIter_enum he ?_
  have I2 : Inv X pins σ H1 { s1 with heap := h' } := I1.kept (t' := s1.toks) hk
  refine ⟨s1.heap.objs.size + 1, [s1.heap.objs.size + 1, s1.heap.objs.size], _, _, H1, rfl, I2, turn_enT a (s1.heap.objs.size + 1) s1.heap.objs.size, ⟨⟨.none, he⟩, ⟨_, hit, rfl, rfl⟩, Nat.succ_ne_self _⟩, fun b hb => ?_, q⟩
  have hle : s1.heap.objs.size ≤ b := by
    rcases List.mem_cons.mp hb with z | z
    · rw [z]
      exact Nat.le_add_right _ _
    · rw [List.mem_singleton.mp z]
      exact Nat.le_refl _
  exact I1.fpOk hle (I1.hok.fresh hle)
theorem walk_enT {K : PySem.W.Frag} {a : Addr} {xs : List V} : Walk (IteT K a) xs.length (fun H => SqT K H a xs) (YPair (fun i => some (.int (i : Nat))) (fun i => xs[i]?)) := by
  refine ⟨fun i _ hi q => ⟨xs, xs[i], q, by simp [hi]⟩, fun _ q => ⟨xs, q, Nat.le_refl _⟩, fun i H v H' _ q y => ?_⟩
  obtain ⟨T, x, h1, h2, h3, h4⟩ := y
  exact ⟨T, .int (i : Nat), x, h1, h2, h3, rfl, h4 xs q⟩
end WE
set_option maxHeartbeats 2000000
/-! Nests of ints: lists and tuples of any depth, and the same as tuples alone; comprehensions by what each turn gives; a comprehension in a comprehension. -/
namespace WK
open PySem PySem.Spec PyProof.Rows L2
inductive Td where
  | int (i : Int)
  | tup (ts : List Td)
mutual
def Td.dep : Td → Nat
  | .int _ => 0
  | .tup ts => Td.deps ts + 1
def Td.deps : List Td → Nat
  | [] => 0
  | t :: ts => max t.dep (Td.deps ts)
end
mutual
def Td.sm : Td → Prop
  | .int _ => True
  | .tup ts => ts.length ≤ 100000 ∧ Td.sms ts
def Td.sms : List Td → Prop
  | [] => True
  | t :: ts => t.sm ∧ Td.sms ts
end
mutual
def Td.py : Td → PyData
  | .int i => .int i
  | .tup ts => .tuple (Td.pys ts)
def Td.pys : List Td → List PyData
  | [] => []
  | t :: ts => t.py :: Td.pys ts
end
theorem deps_le {ts : List Td} {t : Td} {n : Nat} (h : Td.deps ts ≤ n) (m : t ∈ ts) : t.dep ≤ n := by
  induction ts with
  | nil => cases m
  | cons x ts ih =>
    simp only [Td.deps] at h
    rcases List.mem_cons.mp m with z | z
    · rw [z]; omega
    · exact ih (by omega) z
theorem sms_of {ts : List Td} {t : Td} (h : Td.sms ts) (m : t ∈ ts) : t.sm := by
  induction ts with
  | nil => cases m
  | cons x ts ih =>
    simp only [Td.sms] at h
    rcases List.mem_cons.mp m with z | z
    · rw [z]; exact h.1
    · exact ih h.2 z
theorem sms_all {ts : List Td} (h : ∀ t ∈ ts, t.sm) : Td.sms ts := by
  induction ts with
  | nil => trivial
  | cons x ts ih => exact ⟨h x List.mem_cons_self, ih fun t m => h t (List.mem_cons_of_mem _ m)⟩
theorem deps_all {ts : List Td} {n : Nat} (h : ∀ t ∈ ts, t.dep ≤ n) : Td.deps ts ≤ n := by
  induction ts with
  | nil => exact Nat.zero_le _
  | cons x ts ih =>
    have h1 := h x List.mem_cons_self
    have h2 := ih fun t m => h t (List.mem_cons_of_mem _ m)
    simp only [Td.deps]
    omega
mutual
inductive Sn (K : PySem.W.Frag) (H : Hp) : V → Td → Prop
  | int (i : Int) : Sn K H (.int i) (.int i)
  | lst {a : Addr} {vs : List V} {ts : List Td} : H a = some (.lst vs) → SnAll K H vs ts → Sn K H (.ref a) (.tup ts)
  | tup {a : Addr} {vs : List V} {ts : List Td} : SqT K H a vs → SnAll K H vs ts → Sn K H (.ref a) (.tup ts)
inductive SnAll (K : PySem.W.Frag) (H : Hp) : List V → List Td → Prop
  | nil : SnAll K H [] []
  | cons {v : V} {vs : List V} {t : Td} {ts : List Td} : Sn K H v t → SnAll K H vs ts → SnAll K H (v :: vs) (t :: ts)
end
mutual
inductive Fz (K : PySem.W.Frag) (H : Hp) : V → Td → Prop
  | int (i : Int) : Fz K H (.int i) (.int i)
  | tup {a : Addr} {vs : List V} {ts : List Td} : SqT K H a vs → FzAll K H vs ts → Fz K H (.ref a) (.tup ts)
inductive FzAll (K : PySem.W.Frag) (H : Hp) : List V → List Td → Prop
  | nil : FzAll K H [] []
  | cons {v : V} {vs : List V} {t : Td} {ts : List Td} : Fz K H v t → FzAll K H vs ts → FzAll K H (v :: vs) (t :: ts)
end
/-- tuples stay -/
def Tk (K : PySem.W.Frag) (H H' : Hp) : Prop := ∀ a xs, SqT K H a xs → SqT K H' a xs
theorem Same_seqT {K : PySem.W.Frag} {H H' : Hp} {a : Addr} {xs : List V} (e : Same H H') (h : SqT K H a xs) : SqT K H' a xs := by
  rcases h with (h | ⟨o, h⟩) | h
  · exact .inl (.inl (e _ _ h))
  · exact .inl (.inr ⟨o, e _ _ h⟩)
  · exact .inr h
theorem Same.tk {K : PySem.W.Frag} {H H' : Hp} (e : Same H H') : Tk K H H' := fun _ _ h => Same_seqT e h
theorem tk_at {K : PySem.W.Frag} {H H' : Hp} {D : Addr} {o : HO} (hD : H D = some o) (no : ∀ xs, o ≠ .tup xs) (nf : ∀ b xs, o ≠ .frz b (.tup xs)) (e : ∀ b o, b ≠ D → H b = some o → H' b = some o) : Tk K H H' := by
  intro a xs h
  rcases h with (h | ⟨b, h⟩) | h
  · exact .inl (.inl (e _ _ (fun z => by rw [z, hD] at h; cases h; exact no _ rfl) h))
  · exact .inl (.inr ⟨b, e _ _ (fun z => by rw [z, hD] at h; cases h; exact nf _ _ rfl) h⟩)
  · exact .inr h
theorem tk_lst {K : PySem.W.Frag} {H H' : Hp} {D : Addr} {l : List V} (hD : H D = some (.lst l)) (e : ∀ b o, b ≠ D → H b = some o → H' b = some o) : Tk K H H' := tk_at hD (fun _ z => by cases z) (fun _ _ z => by cases z) e
theorem tk_ins {K : PySem.W.Frag} {H H' : Hp} {D C : Addr} {dx : Addr} {l : List (Str × V)} (hD : H D = some (.ins C dx l)) (e : ∀ b o, b ≠ D → H b = some o → H' b = some o) : Tk K H H' := tk_at hD (fun _ z => by cases z) (fun _ _ z => by cases z) e
mutual
theorem Sn.same {K : PySem.W.Frag} {H H' : Hp} (e : Same H H') : ∀ {v : V} {t : Td}, Sn K H v t → Sn K H' v t
  | _, _, .int i => .int i
  | _, _, .lst h a => .lst (e _ _ h) (SnAll.same e a)
  | _, _, .tup h a => .tup (Same_seqT e h) (SnAll.same e a)
theorem SnAll.same {K : PySem.W.Frag} {H H' : Hp} (e : Same H H') : ∀ {vs : List V} {ts : List Td}, SnAll K H vs ts → SnAll K H' vs ts
  | _, _, .nil => .nil
  | _, _, .cons h t => .cons (Sn.same e h) (SnAll.same e t)
end
mutual
theorem Fz.tk {K : PySem.W.Frag} {H H' : Hp} (e : Tk K H H') : ∀ {v : V} {t : Td}, Fz K H v t → Fz K H' v t
  | _, _, .int i => .int i
  | _, _, .tup h a => .tup (e _ _ h) (FzAll.tk e a)
theorem FzAll.tk {K : PySem.W.Frag} {H H' : Hp} (e : Tk K H H') : ∀ {vs : List V} {ts : List Td}, FzAll K H vs ts → FzAll K H' vs ts
  | _, _, .nil => .nil
  | _, _, .cons h t => .cons (Fz.tk e h) (FzAll.tk e t)
end
mutual
theorem Fz.sn {K : PySem.W.Frag} {H : Hp} : ∀ {v : V} {t : Td}, Fz K H v t → Sn K H v t
  | _, _, .int i => .int i
  | _, _, .tup h a => .tup h (FzAll.sn a)
theorem FzAll.sn {K : PySem.W.Frag} {H : Hp} : ∀ {vs : List V} {ts : List Td}, FzAll K H vs ts → SnAll K H vs ts
  | _, _, .nil => .nil
  | _, _, .cons h t => .cons (Fz.sn h) (FzAll.sn t)
end
mutual
theorem Fz.dp {K : PySem.W.Frag} {H : Hp} : ∀ {v : V} {t : Td}, Fz K H v t → Dp K H v t.py
  | _, _, .int i => by simp only [Td.py]; exact .int i
  | _, _, .tup h a => by simp only [Td.py]; exact .tup h (FzAll.dp a)
theorem FzAll.dp {K : PySem.W.Frag} {H : Hp} : ∀ {vs : List V} {ts : List Td}, FzAll K H vs ts → DpAll K H vs (Td.pys ts)
  | _, _, .nil => by simp only [Td.pys]; exact .nil
  | _, _, .cons h t => by simp only [Td.pys]; exact .cons (Fz.dp h) (FzAll.dp t)
end
theorem SnAll.len {K : PySem.W.Frag} {H : Hp} {vs : List V} {ts : List Td} (h : SnAll K H vs ts) : vs.length = ts.length := by
  induction vs generalizing ts with
  | nil => cases h; rfl
  | cons v vs ih => cases h with | cons h t => simp only [List.length_cons, ih t]
theorem FzAll.len {K : PySem.W.Frag} {H : Hp} {vs : List V} {ts : List Td} (h : FzAll K H vs ts) : vs.length = ts.length := h.sn.len
theorem SnAll.get {K : PySem.W.Frag} {H : Hp} {vs : List V} {ts : List Td} (h : SnAll K H vs ts) {i : Nat} {v : V} (e : vs[i]? = some v) : ∃ t, ts[i]? = some t ∧ Sn K H v t := by
  induction vs generalizing ts i with
  | nil => simp at e
  | cons x vs ih =>
    cases h with
    | cons h t =>
      cases i with
      | zero => cases e; exact ⟨_, rfl, h⟩
      | succ i => exact ih t e
theorem FzAll.get {K : PySem.W.Frag} {H : Hp} {vs : List V} {ts : List Td} (h : FzAll K H vs ts) {i : Nat} {v : V} (e : vs[i]? = some v) : ∃ t, ts[i]? = some t ∧ Fz K H v t := by
  induction vs generalizing ts i with
  | nil => simp at e
  | cons x vs ih =>
    cases h with
    | cons h t =>
      cases i with
      | zero => cases e; exact ⟨_, rfl, h⟩
      | succ i => exact ih t e
theorem FzAll.ints {K : PySem.W.Frag} {H : Hp} : ∀ {ns : List Int} {vs : List V}, FzAll K H vs (ns.map Td.int) → vs = ns.map V.int
  | [], _, .nil => rfl
  | n :: ns, _, .cons (.int _) t => by rw [FzAll.ints t]; rfl
theorem SnAll.ints {K : PySem.W.Frag} {H : Hp} : ∀ {ns : List Int} {vs : List V}, SnAll K H vs (ns.map Td.int) → vs = ns.map V.int
  | [], _, .nil => rfl
  | n :: ns, _, .cons (.int _) t => by rw [SnAll.ints t]; rfl
theorem FzAll.of_ints {K : PySem.W.Frag} {H : Hp} : ∀ (ns : List Int), FzAll K H (ns.map V.int) (ns.map Td.int)
  | [] => .nil
  | n :: ns => .cons (.int n) (FzAll.of_ints ns)
theorem SnAll.zero {K : PySem.W.Frag} {H : Hp} : ∀ {vs : List V} {ts : List Td}, SnAll K H vs ts → Td.deps ts ≤ 0 → FzAll K H vs ts
  | _, _, .nil, _ => .nil
  | _, _, .cons (.int i) t, h => .cons (.int i) (SnAll.zero t (by simp only [Td.deps] at h; omega))
  | _, _, .cons (.lst _ _) t, h => by simp only [Td.deps, Td.dep] at h; omega
  | _, _, .cons (.tup _ _) t, h => by simp only [Td.deps, Td.dep] at h; omega
/-- lists of things, item by item -/
def Rs {α : Type} (R : Hp → V → α → Prop) (H : Hp) (vs : List V) (zs : List α) : Prop := vs.length = zs.length ∧ ∀ (i : Nat) (v : V) (z : α), vs[i]? = some v → zs[i]? = some z → R H v z
def Stb {α : Type} (K : PySem.W.Frag) (R : Hp → V → α → Prop) : Prop := ∀ H H' v z, Tk K H H' → R H v z → R H' v z
theorem Rs.tk {α : Type} {K : PySem.W.Frag} {R : Hp → V → α → Prop} (s : Stb K R) {H H' : Hp} {vs : List V} {zs : List α} (h : Rs R H vs zs) (e : Tk K H H') : Rs R H' vs zs := ⟨h.1, fun i v z a b => s _ _ _ _ e (h.2 i v z a b)⟩
theorem Rs.nil {α : Type} {R : Hp → V → α → Prop} {H : Hp} : Rs R H [] [] := ⟨rfl, fun i v z h => by simp at h⟩
theorem Rs.snoc {α : Type} {R : Hp → V → α → Prop} {H : Hp} {vs : List V} {zs : List α} {v : V} {z : α} (h : Rs R H vs zs) (r : R H v z) : Rs R H (vs ++ [v]) (zs ++ [z]) := by
  refine ⟨by rw [List.length_append, List.length_append, h.1]; rfl, fun i u y hu hy => ?_⟩
  have hl := h.1
  by_cases hi : i < vs.length
  · rw [List.getElem?_append_left hi] at hu
    rw [List.getElem?_append_left (by omega)] at hy
    exact h.2 i u y hu hy
  · rw [List.getElem?_append_right (by omega)] at hu
    rw [List.getElem?_append_right (by omega)] at hy
    have e1 : i - vs.length = 0 := by
      rcases Nat.eq_zero_or_pos (i - vs.length) with z | z
      · exact z
      · rw [List.getElem?_eq_none (by simp only [List.length_cons, List.length_nil]; omega)] at hu; cases hu
    have e2 : i - zs.length = 0 := by omega
    rw [e1] at hu
    rw [e2] at hy
    cases hu
    cases hy
    exact r
def RI : Hp → V → Int → Prop := fun _ v z => v = .int z
def RB : Hp → V → Bool → Prop := fun _ v z => v = .bl z
theorem stb_RI {K : PySem.W.Frag} : Stb K RI := fun _ _ _ _ _ h => h
theorem stb_RB {K : PySem.W.Frag} : Stb K RB := fun _ _ _ _ _ h => h
theorem stb_Fz {K : PySem.W.Frag} : Stb K (Fz K) := fun _ _ _ _ e h => h.tk e
theorem Rs.maps {α : Type} {R : Hp → V → α → Prop} {f : α → V} (hf : ∀ H v z, R H v z → v = f z) {H : Hp} : ∀ {vs : List V} {zs : List α}, Rs R H vs zs → vs = zs.map f := fun {vs zs} h => by
  refine List.ext_getElem? fun i => ?_
  rw [List.getElem?_map]
  have hl := h.1
  by_cases hi : i < vs.length
  · have hv := List.getElem?_eq_getElem hi
    have hz : zs[i]? = some zs[i] := List.getElem?_eq_getElem (by omega)
    rw [hv, hz, hf _ _ _ (h.2 i _ _ hv hz)]
    rfl
  · rw [List.getElem?_eq_none (by omega), List.getElem?_eq_none (by omega)]
    rfl
theorem Rs.ints {H : Hp} {vs : List V} {zs : List Int} (h : Rs RI H vs zs) : vs = zs.map V.int := h.maps fun _ _ _ e => e
theorem Rs.bls {H : Hp} {vs : List V} {zs : List Bool} (h : Rs RB H vs zs) : vs = zs.map V.bl := h.maps fun _ _ _ e => e
theorem Rs.fz {K : PySem.W.Frag} {H : Hp} : ∀ {vs : List V} {ts : List Td}, Rs (Fz K) H vs ts → FzAll K H vs ts
  | [], [], _ => .nil
  | [], _ :: _, h => by have := h.1; simp at this
  | _ :: _, [], h => by have := h.1; simp at this
  | v :: vs, t :: ts, h => .cons (h.2 0 v t rfl rfl) (Rs.fz ⟨by have := h.1; simp at this; exact this, fun i u z hu hz => h.2 (i + 1) u z hu hz⟩)
theorem new_same {H : Hp} {p : Addr} (h : H p = none) (o : HO) : Same H (upd H p o) := fun b u q => by rw [upd_ne (ne_of_none q h)]; exact q
theorem ys_at {xs : List V} {i : Nat} {H H' : Hp} {x : V} (y : YAt xs i H x H') : Same H H' := by rw [y.1]; exact fun _ _ h => h
theorem ys_fn {f : Nat → V} {i : Nat} {H H' : Hp} {x : V} (y : YFn f i H x H') : Same H H' := by rw [y.1]; exact fun _ _ h => h
theorem ys_pair {xs ys : Nat → Option V} {i : Nat} {H H' : Hp} {x : V} (y : YPair xs ys i H x H') : Same H H' := by
  obtain ⟨T, _, _, _, h1, h2, _⟩ := y
  rw [h2]
  exact new_same h1 _
theorem walk_zT {K : PySem.W.Frag} {a b : Addr} {xs ys : List V} {n : Nat} (hn : n = min xs.length ys.length) : Walk (RZ.ItzT K a b) n (fun H => SqT K H a xs ∧ SqT K H b ys) (YPair (fun i => xs[i]?) (fun i => ys[i]?)) := by
  subst hn
  refine ⟨fun i _ hi q => ?_, fun _ q => ⟨xs, ys, q.1, q.2, by omega⟩, fun i H v H' _ q y => ?_⟩
  · have h1 : i < xs.length := by omega
    have h2 : i < ys.length := by omega
    exact ⟨xs, ys, xs[i], ys[i], q.1, q.2, by simp [h1], by simp [h2]⟩
  · obtain ⟨T, x, z, h1, h2, h3, h4, h5⟩ := y
    exact ⟨T, x, z, h1, h2, h3, h4 xs q.1, h5 ys q.2⟩
theorem sizes {n : Nat} (h : n ≤ 100000) : n < sizeLine := Nat.lt_of_le_of_lt h (by rw [sizeLine_eq]; decide)
/-- what stays while the list at D grows -/
def StbD {α : Type} (D : Addr) (R : Hp → V → α → Prop) : Prop := ∀ H H' v z, (∃ l, H D = some (.lst l)) → (∀ b o, b ≠ D → H b = some o → H' b = some o) → R H v z → R H' v z
theorem Stb.at {α : Type} {K : PySem.W.Frag} {R : Hp → V → α → Prop} (s : Stb K R) (D : Addr) : StbD D R := fun _ _ _ _ ⟨_, hl⟩ e r => s _ _ _ _ (tk_lst hl e) r
theorem Rs.tkD {α : Type} {D : Addr} {R : Hp → V → α → Prop} (s : StbD D R) {H H' : Hp} {vs : List V} {zs : List α} (h : Rs R H vs zs) (hD : ∃ l, H D = some (.lst l)) (e : ∀ b o, b ≠ D → H b = some o → H' b = some o) : Rs R H' vs zs := ⟨h.1, fun i v z a b => s _ _ _ _ hD e (h.2 i v z a b)⟩
/-- a list of ints apart from D -/
def RL (D : Addr) : Hp → V → List Int → Prop := fun H v r => ∃ p, v = .ref p ∧ p ≠ D ∧ H p = some (.lst (r.map V.int))
theorem stb_RL {D : Addr} : StbD D (RL D) := fun _ _ _ _ _ e ⟨p, h1, h2, h3⟩ => ⟨p, h1, h2, e _ _ h2 h3⟩
/-- a comprehension: each turn gives one thing, or nothing -/
theorem lc_g {α β : Type} {J : It} {n : Nat} {G : Hp → Prop} {Y : Nat → Hp → V → Hp → Prop} (w : Walk J n G Y) {g : TG} {tt : TT} {te : TE} {vs : List Nat} {σ : L2.St} {H1 : Hp} {D : Addr} {Qd : Hp → Prop}
    (R : Hp → V → α → Prop) (st : StbD D R) (xs : List β) (hn : n = xs.length) (hl : xs.length ≤ 100000) (hD : H1 D = none) (hG : ∀ H, Same H1 H → G H) (hY : ∀ i H x H', Y i H x H' → Same H H') (f : β → Option α)
    (hs : ∀ i b x H H', xs[i]? = some b → Same H1 H → Same H1 H' → Y i H x H' → (∃ l, H' D = some (.lst l)) → ∀ (A : V → Hp → Prop) (B : Hp → Prop), (∀ y z H4, f b = some z → Same H' H4 → R H4 y z → A y H4) → (f b = none → ∀ H4, Same H' H4 → B H4) →
      g x (wipe σ vs) H' fun σ2 H2 => wipe σ2 vs = wipe σ vs ∧ tt σ2 H2 fun b H3 => if b = true then te σ2 H3 A else B H3)
    (hd : ∀ H l, Same H1 H → H D = some (.lst l) → Rs R H l (xs.filterMap f) → Qd H) :
    ∃ W : Nat → Nat → Hp → Prop, (∃ m, W 0 m (upd H1 D (.lst []))) ∧ ∀ i m H, W i m H →
      (J.stop i H ∧ Qd H) ∨ (J.go i H ∧ ∃ Nx : Hp → Prop, (∀ H', Nx H' → ∃ m', m' < m ∧ W (i + 1) m' H') ∧ ∀ x H', J.yld i H x H' → g x (wipe σ vs) H' fun σ2 H2 => wipe σ2 vs = wipe σ vs ∧ tt σ2 H2 fun b H3 =>
        if b = true then te σ2 H3 fun y H4 => ∃ acc, H4 D = some (.lst acc) ∧ acc.length < sizeLine ∧ Nx (upd H4 D (.lst (acc ++ [y]))) else Nx H3) := by
  subst hn
  refine lc_it w (fun i H => Same H1 H ∧ ∃ l, H D = some (.lst l) ∧ Rs R H l ((xs.take i).filterMap f) ∧ l.length ≤ i) ⟨new_same hD _, [], upd_same, by rw [List.take_zero]; exact Rs.nil, Nat.le_refl _⟩ (fun i H _ p => hG H p.1) ?_ ?_
  · rintro i x H H' hi ⟨sm, l, hl1, rs, hlen⟩ y
    have hb : xs[i]? = some xs[i] := List.getElem?_eq_getElem hi
    have sy := hY i H x H' y
    have et : xs.take (i + 1) = xs.take i ++ [xs[i]] := by rw [List.take_add_one, hb]; rfl
    refine hs i _ x H H' hb sm (sm.trans sy) y ⟨l, sy _ _ hl1⟩ _ _ (fun v z H4 hz s4 r => ?_) (fun hz H4 s4 => ?_)
    · have h4 : H4 D = some (.lst l) := s4 _ _ (sy _ _ hl1)
      refine ⟨l, h4, sizes (by omega), fun b o e => ?_, l ++ [v], upd_same, ?_, by rw [List.length_append]; simp only [List.length_cons, List.length_nil]; omega⟩
      · rw [upd_ne (ne_of_none e hD)]
        exact s4 _ _ (sy _ _ (sm _ _ e))
      · rw [et, List.filterMap_append]
        have e1 : [xs[i]].filterMap f = [z] := by rw [List.filterMap_cons, hz]; rfl
        rw [e1]
        refine Rs.snoc (rs.tkD st ⟨l, hl1⟩ fun b o hb e => ?_) (st _ _ _ _ ⟨l, h4⟩ (fun b o hb e => ?_) r)
        · rw [upd_ne hb]
          exact s4 _ _ (sy _ _ e)
        · rw [upd_ne hb]
          exact e
    · refine ⟨sm.trans (sy.trans s4), l, s4 _ _ (sy _ _ hl1), ?_, by omega⟩
      rw [et, List.filterMap_append]
      have e1 : [xs[i]].filterMap f = [] := by rw [List.filterMap_cons, hz]; rfl
      rw [e1, List.append_nil]
      exact rs.tkD st ⟨l, hl1⟩ fun b o _ e => s4 _ _ (sy _ _ e)
  · rintro H ⟨sm, l, hl1, rs, _⟩
    rw [List.take_length] at rs
    exact hd H l sm hl1 rs
/-- the same for what stays while tuples stay -/
theorem lc_f {α β : Type} {K : PySem.W.Frag} {J : It} {n : Nat} {G : Hp → Prop} {Y : Nat → Hp → V → Hp → Prop} (w : Walk J n G Y) {g : TG} {tt : TT} {te : TE} {vs : List Nat} {σ : L2.St} {H1 : Hp} {D : Addr} {Qd : Hp → Prop}
    (R : Hp → V → α → Prop) (st : Stb K R) (xs : List β) (hn : n = xs.length) (hl : xs.length ≤ 100000) (hD : H1 D = none) (hG : ∀ H, Same H1 H → G H) (hY : ∀ i H x H', Y i H x H' → Same H H') (f : β → Option α)
    (hs : ∀ i b x H H', xs[i]? = some b → Same H1 H → Same H1 H' → Y i H x H' → ∀ (A : V → Hp → Prop) (B : Hp → Prop), (∀ y z H4, f b = some z → Same H' H4 → R H4 y z → A y H4) → (f b = none → ∀ H4, Same H' H4 → B H4) →
      g x (wipe σ vs) H' fun σ2 H2 => wipe σ2 vs = wipe σ vs ∧ tt σ2 H2 fun b H3 => if b = true then te σ2 H3 A else B H3)
    (hd : ∀ H l, Same H1 H → H D = some (.lst l) → Rs R H l (xs.filterMap f) → Qd H) :
    ∃ W : Nat → Nat → Hp → Prop, (∃ m, W 0 m (upd H1 D (.lst []))) ∧ ∀ i m H, W i m H →
      (J.stop i H ∧ Qd H) ∨ (J.go i H ∧ ∃ Nx : Hp → Prop, (∀ H', Nx H' → ∃ m', m' < m ∧ W (i + 1) m' H') ∧ ∀ x H', J.yld i H x H' → g x (wipe σ vs) H' fun σ2 H2 => wipe σ2 vs = wipe σ vs ∧ tt σ2 H2 fun b H3 =>
        if b = true then te σ2 H3 fun y H4 => ∃ acc, H4 D = some (.lst acc) ∧ acc.length < sizeLine ∧ Nx (upd H4 D (.lst (acc ++ [y]))) else Nx H3) := lc_g w R (st.at D) xs hn hl hD hG hY f (fun i b x H H' h1 h2 h3 h4 _ => hs i b x H H' h1 h2 h3 h4) hd
/-- each turn gives one thing -/
theorem lc_m {α β : Type} {K : PySem.W.Frag} {J : It} {n : Nat} {G : Hp → Prop} {Y : Nat → Hp → V → Hp → Prop} (w : Walk J n G Y) {g : TG} {tt : TT} {te : TE} {vs : List Nat} {σ : L2.St} {H1 : Hp} {D : Addr} {Qd : Hp → Prop}
    (R : Hp → V → α → Prop) (st : Stb K R) (xs : List β) (hn : n = xs.length) (hl : xs.length ≤ 100000) (hD : H1 D = none) (hG : ∀ H, Same H1 H → G H) (hY : ∀ i H x H', Y i H x H' → Same H H') (f : β → α)
    (hs : ∀ i b x H H', xs[i]? = some b → Same H1 H → Same H1 H' → Y i H x H' → ∀ (A : V → Hp → Prop) (B : Hp → Prop), (∀ y H4, Same H' H4 → R H4 y (f b) → A y H4) →
      g x (wipe σ vs) H' fun σ2 H2 => wipe σ2 vs = wipe σ vs ∧ tt σ2 H2 fun b H3 => if b = true then te σ2 H3 A else B H3)
    (hd : ∀ H l, Same H1 H → H D = some (.lst l) → Rs R H l (xs.map f) → Qd H) :
    ∃ W : Nat → Nat → Hp → Prop, (∃ m, W 0 m (upd H1 D (.lst []))) ∧ ∀ i m H, W i m H →
      (J.stop i H ∧ Qd H) ∨ (J.go i H ∧ ∃ Nx : Hp → Prop, (∀ H', Nx H' → ∃ m', m' < m ∧ W (i + 1) m' H') ∧ ∀ x H', J.yld i H x H' → g x (wipe σ vs) H' fun σ2 H2 => wipe σ2 vs = wipe σ vs ∧ tt σ2 H2 fun b H3 =>
        if b = true then te σ2 H3 fun y H4 => ∃ acc, H4 D = some (.lst acc) ∧ acc.length < sizeLine ∧ Nx (upd H4 D (.lst (acc ++ [y]))) else Nx H3) := by
  refine lc_f w R st xs hn hl hD hG hY (fun b => some (f b)) (fun i b x H H' hb s1 s2 y A B ha _ => hs i b x H H' hb s1 s2 y A B fun v H4 s4 r => ha v _ H4 rfl s4 r) fun H l s1 hl1 rs => hd H l s1 hl1 ?_
  rw [show (fun b => some (f b)) = some ∘ f from rfl, List.filterMap_eq_map] at rs
  exact rs
theorem lc_gm {α β : Type} {J : It} {n : Nat} {G : Hp → Prop} {Y : Nat → Hp → V → Hp → Prop} (w : Walk J n G Y) {g : TG} {tt : TT} {te : TE} {vs : List Nat} {σ : L2.St} {H1 : Hp} {D : Addr} {Qd : Hp → Prop}
    (R : Hp → V → α → Prop) (st : StbD D R) (xs : List β) (hn : n = xs.length) (hl : xs.length ≤ 100000) (hD : H1 D = none) (hG : ∀ H, Same H1 H → G H) (hY : ∀ i H x H', Y i H x H' → Same H H') (f : β → α)
    (hs : ∀ i b x H H', xs[i]? = some b → Same H1 H → Same H1 H' → Y i H x H' → (∃ l, H' D = some (.lst l)) → ∀ (A : V → Hp → Prop) (B : Hp → Prop), (∀ y H4, Same H' H4 → R H4 y (f b) → A y H4) →
      g x (wipe σ vs) H' fun σ2 H2 => wipe σ2 vs = wipe σ vs ∧ tt σ2 H2 fun b H3 => if b = true then te σ2 H3 A else B H3)
    (hd : ∀ H l, Same H1 H → H D = some (.lst l) → Rs R H l (xs.map f) → Qd H) :
    ∃ W : Nat → Nat → Hp → Prop, (∃ m, W 0 m (upd H1 D (.lst []))) ∧ ∀ i m H, W i m H →
      (J.stop i H ∧ Qd H) ∨ (J.go i H ∧ ∃ Nx : Hp → Prop, (∀ H', Nx H' → ∃ m', m' < m ∧ W (i + 1) m' H') ∧ ∀ x H', J.yld i H x H' → g x (wipe σ vs) H' fun σ2 H2 => wipe σ2 vs = wipe σ vs ∧ tt σ2 H2 fun b H3 =>
        if b = true then te σ2 H3 fun y H4 => ∃ acc, H4 D = some (.lst acc) ∧ acc.length < sizeLine ∧ Nx (upd H4 D (.lst (acc ++ [y]))) else Nx H3) := by
  refine lc_g w R st xs hn hl hD hG hY (fun b => some (f b)) (fun i b x H H' hb s1 s2 y hd2 A B ha _ => hs i b x H H' hb s1 s2 y hd2 A B fun v H4 s4 r => ha v _ H4 rfl s4 r) fun H l s1 hl1 rs => hd H l s1 hl1 ?_
  rw [show (fun b => some (f b)) = some ∘ f from rfl, List.filterMap_eq_map] at rs
  exact rs
/-- a comprehension in a comprehension -/
def rl (scope sc : Scope) : Scope := { scope with names := scope.names.map fun (n, k) => if (k == .free && sc.kind == .function && sc.names.lookup n == some .cell) then (n, .cell) else (n, k) }
theorem blk_nest {N : List Str} {scope inner sc0 : Scope} {own : List (Str × Nat)} {cl : List (Str × Addr)} {C : Addr} {env : Env} (e : env.scope = sc0) (h : blkC N (rl scope sc0) inner own = true) : BlkOk N (compEnvC scope cl C env).scope inner own := by
  subst e
  exact blkOk_by h
theorem pi_tupK {X : Cx} {K : PySem.W.Frag} {tg e : Expr} {te : TE} (hK : X.K = K) (h : PE X e te) : PI X tg e (iTup K te) := by
  subst hK
  exact pi_tup h
theorem sl_tupAK {X : Cx} {K : PySem.W.Frag} (hK : X.K = K) : SlR X (rSlA K) := by
  subst hK
  exact sl_tupA
theorem pe_fldK {X : Cx} {K : PySem.W.Frag} {e : Expr} {ta : TE} {f : Str} {p : Pos} (hK : X.K = K) (h : PE X e ta) (hb : attributeBase e f X.env (eval e X.env) = eval e X.env) : PE X (.Attribute e f p) (tFld K ta f) := by
  subst hK
  exact pe_fld h hb
theorem pi_listK {X : Cx} {K : PySem.W.Frag} {tg e : Expr} {te : TE} (hK : X.K = K) (h : PE X e te) : PI X tg e (iList K te) := by
  subst hK
  exact pi_list h
end WK
set_option maxHeartbeats 2000000
/-! zip of two sequences, each of them a list or a tuple. -/
namespace WZ
open PySem PySem.Spec PyProof.Rows L2
/-- a list (true) or a tuple (false) -/
def Sq (k : Bool) (K : PySem.W.Frag) (H : Hp) (a : Addr) (xs : List V) : Prop := if k = true then SqL K H a xs else SqT K H a xs
def Ob (k : Bool) (h : Heap) (a : Addr) (its : Array Value) : Prop := if k = true then h.IsList a its else h.IsTuple a its
def Ir (k : Bool) (h : Heap) (it a : Addr) (i : Nat) : Prop := if k = true then h.IsListIter it a i else h.IsTupleIter it a i
def itO (k : Bool) (a : Addr) : Obj := if k = true then { cls := .type "list_iterator", data := .fields #[.ref a, .int 0 0] } else { cls := .type "tuple_iterator", data := .fields #[.ref a, .int 0 0] }
theorem Ir.at {k : Bool} {h h' : Heap} {it a : Addr} {i : Nat} (x : Ir k h it a i) (e : ∀ o, h.get? it = some o → h'.get? it = some o) : Ir k h' it a i := by
  cases k with
  | true => exact (show h.IsListIter it a i from x).at e
  | false => exact (show h.IsTupleIter it a i from x).at e
theorem Ir.obj {k : Bool} {h : Heap} {it a : Addr} {i : Nat} (x : Ir k h it a i) : ∃ o, h.get? it = some o ∧ ∀ v, o.data ≠ .cell v := by
  cases k with
  | true =>
    obtain ⟨o, e, _, d⟩ := (show h.IsListIter it a i from x)
    exact ⟨o, e, fun v q => by rw [d] at q; cases q⟩
  | false =>
    obtain ⟨o, e, _, d⟩ := (show h.IsTupleIter it a i from x)
    exact ⟨o, e, fun v q => by rw [d] at q; cases q⟩
theorem Ob.lt {k : Bool} {h : Heap} {a : Addr} {its : Array Value} (x : Ob k h a its) : a < h.objs.size := by
  cases k with
  | true =>
    obtain ⟨o, e, _⟩ := (show h.IsList a its from x)
    exact Heap.lt_size e
  | false =>
    obtain ⟨o, e, _⟩ := (show h.IsTuple a its from x)
    exact Heap.lt_size e
theorem draw {prog : Program} {w : World} {A : Around} (hh : A.handled = none) (k : Bool) (it a : Addr) (hne : a ≠ it) (items : Array Value) :
    Draws prog w A it [it, a] items.size (fun i v => items[i]? = some v) (fun i h => Ir k h it a i ∧ Ob k h a items) := by
  cases k with
  | true => exact Draws.list hh it a hne items
  | false => exact Draws.tuple hh it a hne items
theorem begin {k : Bool} (a : Addr) (items : Array Value) : Begins (.ref a) (itO k a) fun h => Ob k h a items := by
  cases k with
  | true => exact begins_list a items
  | false => exact begins_tuple a items
theorem obj_of {X : Cx} {pins : List (Addr × Obj)} {σ : L2.St} {H : Hp} {s : Shared} {k : Bool} {a : Addr} {xs : List V} (I : Inv X pins σ H s) (h : Sq k X.K H a xs) : ∃ its : List Value, Vals xs its ∧ Ob k s.heap a its.toArray := by
  cases k with
  | true =>
    obtain ⟨its, rv, p, _⟩ := I.list (show SqL X.K H a xs from h)
    exact ⟨its, rv, p.isList⟩
  | false =>
    obtain ⟨its, rv, p, _⟩ := I.tuple (show SqT X.K H a xs from h)
    exact ⟨its, rv, p⟩
theorem inj {X : Cx} {pins : List (Addr × Obj)} {σ : L2.St} {H : Hp} {s : Shared} {k : Bool} {a : Addr} {xs ys : List V} (I : Inv X pins σ H s) (h : Sq k X.K H a xs) (h' : Sq k X.K H a ys) : xs = ys := by
  cases k with
  | true => exact I.list_inj h h'
  | false => exact I.tuple_inj h h'
/-- the sequences at a and b as they stand at each turn, the items in new pairs -/
def ItzA (K : PySem.W.Frag) (k l : Bool) (a b : Addr) : It :=
  ⟨fun i H => ∃ (xs ys : List V) (x y : V), Sq k K H a xs ∧ Sq l K H b ys ∧ xs[i]? = some x ∧ ys[i]? = some y,
    fun i H v H' => ∃ T x y, v = .ref T ∧ H T = none ∧ H' = upd H T (.tup [x, y]) ∧ (∀ xs, Sq k K H a xs → xs[i]? = some x) ∧ ∀ ys, Sq l K H b ys → ys[i]? = some y,
    fun i H => ∃ xs ys : List V, Sq k K H a xs ∧ Sq l K H b ys ∧ i ≤ xs.length ∧ i ≤ ys.length ∧ (i = xs.length ∨ i = ys.length)⟩
theorem turn_zipA {P : Program} {w : World} {K : PySem.W.Frag} {k l : Bool} {elts : List Expr} {kk : Nat} {tpos : Pos} {a b z TI TO i1 i2 : Addr} (D : ZipSep2 z TI TO i1 i2 [i1, a] [i2, b]) :
    Turn P w K (.Tuple elts kk tpos) (ItzA K k l a b) [z, TI, TO, i1, i2] z (fun i h => IsZip h z TI TO .none ∧ IsTupOf2 h TI (.ref i1) (.ref i2) ∧ (∃ x y, IsTupOf2 h TO x y) ∧ Ir k h i1 a i ∧ Ir l h i2 b i) where
  mem := by simp
  obj := fun i h st c hc => by
    obtain ⟨hz, hTI, ⟨x, y, hTO⟩, h1, h2⟩ := st
    have e' : c = z ∨ c = TI ∨ c = TO ∨ c = i1 ∨ c = i2 := by simpa using hc
    rcases e' with q | q | q | q | q
    · rw [q]; exact ⟨_, hz, fun v q => nomatch q⟩
    · rw [q]; exact ⟨_, hTI, fun v q => nomatch q⟩
    · rw [q]; exact ⟨_, hTO, fun v q => nomatch q⟩
    · rw [q]; exact h1.obj
    · rw [q]; exact h2.obj
  keep := fun i h h' st k => by
    obtain ⟨hz, hTI, ⟨x, y, hTO⟩, h1, h2⟩ := st
    exact ⟨k z (by simp) _ hz, k TI (by simp) _ hTI, ⟨x, y, k TO (by simp) _ hTO⟩, h1.at fun o q => k i1 (by simp) o q, h2.at fun o q => k i2 (by simp) o q⟩
  item := by
    intro X hP hw hK hc i pins s σ H E I hf st hg
    subst hP hw hK
    obtain ⟨hz, hTI, ⟨x0, y0, hTO⟩, h1, h2⟩ := st
    obtain ⟨xs, ys, x, y, hqx, hqy, hx, hy⟩ := hg
    obtain ⟨its, rv, p⟩ := obj_of I hqx
    obtain ⟨its2, rv2, p2⟩ := obj_of I hqy
    obtain ⟨u, hu, ru⟩ := rv.get hx
    obtain ⟨u2, hu2, ru2⟩ := rv2.get hy
    have hzl : z < s.heap.objs.size := Heap.lt_size hz
    have l1 : i < its.toArray.size := by
      rw [List.size_toArray]
      exact (List.getElem?_eq_some_iff.mp hu).1
    have l2 : i < its2.toArray.size := by
      rw [List.size_toArray]
      exact (List.getElem?_eq_some_iff.mp hu2).1
    have n1 : a ≠ i1 := fun e => by
      have := D.sep1_2
      obtain ⟨o, ho, _⟩ := h1.obj
      cases k with
      | true =>
        obtain ⟨o1, g1, c1, d1⟩ := (show s.heap.IsListIter i1 a i from h1)
        obtain ⟨o2, g2, c2, _⟩ := (show s.heap.IsList a its.toArray from p)
        rw [e, g1] at g2
        cases g2
        rw [c1] at c2
        injection c2 with c3
        exact absurd c3 (by decide)
      | false =>
        obtain ⟨o1, g1, c1, d1⟩ := (show s.heap.IsTupleIter i1 a i from h1)
        obtain ⟨o2, g2, c2, _⟩ := (show s.heap.IsTuple a its.toArray from p)
        rw [e, g1] at g2
        cases g2
        rw [c1] at c2
        injection c2 with c3
        exact absurd c3 (by decide)
    have n2 : b ≠ i2 := fun e => by
      cases l with
      | true =>
        obtain ⟨o1, g1, c1, d1⟩ := (show s.heap.IsListIter i2 b i from h2)
        obtain ⟨o2, g2, c2, _⟩ := (show s.heap.IsList b its2.toArray from p2)
        rw [e, g1] at g2
        cases g2
        rw [c1] at c2
        injection c2 with c3
        exact absurd c3 (by decide)
      | false =>
        obtain ⟨o1, g1, c1, d1⟩ := (show s.heap.IsTupleIter i2 b i from h2)
        obtain ⟨o2, g2, c2, _⟩ := (show s.heap.IsTuple b its2.toArray from p2)
        rw [e, g1] at g2
        cases g2
        rw [c1] at c2
        injection c2 with c3
        exact absurd c3 (by decide)
    refine wpAny_pyNext_zipD2_item D (draw (prog := X.prog) (w := X.w) (A := X.A.in1) (I.ok.hd hc) k i1 a n1 its.toArray) (draw (prog := X.prog) (w := X.w) (A := X.A.in1) (I.ok.hd hc) l i2 b n2 its2.toArray) hz hTI hTO ⟨h1, p⟩ ⟨h2, p2⟩ l1 l2 fun x1 x2 h' tk hx1 hx2 z' TO' h1' h2' hT hsz hk => ?_
    have eu : x1 = u := by
      have e1 : its.toArray[i]? = some u := by rw [List.getElem?_toArray]; exact hu
      exact Option.some.inj ((show its.toArray[i]? = some x1 from hx1).symm.trans e1)
    have eu2 : x2 = u2 := by
      have e1 : its2.toArray[i]? = some u2 := by rw [List.getElem?_toArray]; exact hu2
      exact Option.some.inj ((show its2.toArray[i]? = some x2 from hx2).symm.trans e1)
    subst eu eu2
    refine ⟨_, rfl, wpAny_letOwnedTupleGo_zip (s := { s with heap := h', toks := tk }) z' fun h'' z'' sb => ?_⟩
    have hT2 : h''.get? s.heap.objs.size = some { cls := .type "tuple", data := .seq #[x1, x2] } := (sb.2 _ (Nat.ne_of_gt hzl)).trans hT
    have new : ObjOk X.prog X.w (upd H s.heap.objs.size (.tup [x, y])) h'' s.heap.objs.size (.tup [x, y]) :=
      ⟨by show 2 ≤ sizeLine; decide, [x1, x2], .cons ru (.cons ru2 .nil), ⟨_, hT2, rfl, _, rfl⟩⟩
    have I1 : Inv X pins σ (upd H s.heap.objs.size (.tup [x, y])) { s with heap := h'', toks := tk } :=
      I.turnedNew (t' := tk) (ch := [z, TI, TO, i1, i2]) (fun c o hb q => (sb.2 c (fun q' => hb (by simp [q']))).trans (hk c o (fun q' => hb (by simp [q'])) (fun q' => hb (by simp [q'])) (fun q' => hb (by simp [q'])) (fun q' => hb (by simp [q'])) q)) hf (Nat.le_refl _) new
    refine ⟨.ref s.heap.objs.size, _, I1, rfl, ⟨_, x, y, rfl, I.hok.fresh (Nat.le_refl _), rfl, fun l hl => by rw [inj I hl hqx]; exact hx, fun l hl => by rw [inj I hl hqy]; exact hy⟩, ⟨z'', ?_, ⟨x1, x2, ?_⟩, ?_, ?_⟩, fun c hcm => ?_⟩
    · exact (sb.2 _ D.TIz).trans (hk _ _ D.TIz D.TITO D.TIi1 D.TIi2 hTI)
    · exact (sb.2 _ D.TOz).trans TO'
    · exact h1'.1.at fun o q => (sb.2 _ (Ne.symm D.zi1)).trans q
    · exact h2'.1.at fun o q => (sb.2 _ (Ne.symm D.zi2)).trans q
    · have hlt : c < s.heap.objs.size := by
        have e' : c = z ∨ c = TI ∨ c = TO ∨ c = i1 ∨ c = i2 := by simpa using hcm
        rcases e' with q | q | q | q | q
        · rw [q]; exact hzl
        · rw [q]; exact Heap.lt_size hTI
        · rw [q]; exact Heap.lt_size hTO
        · rw [q]; obtain ⟨_, e1, _⟩ := h1.obj; exact Heap.lt_size e1
        · rw [q]; obtain ⟨_, e2, _⟩ := h2.obj; exact Heap.lt_size e2
      rw [upd_ne (Nat.ne_of_lt hlt)]
      exact (hf c hcm).1
  done := by
    intro X hP hw hK hc i pins s σ H E I hf st hg
    subst hP hw hK
    obtain ⟨hz, hTI, ⟨x0, y0, hTO⟩, h1, h2⟩ := st
    obtain ⟨xs, ys, hqx, hqy, g1, g2, hend⟩ := hg
    obtain ⟨its, rv, p⟩ := obj_of I hqx
    obtain ⟨its2, rv2, p2⟩ := obj_of I hqy
    have l1 := rv.length
    have l2 := rv2.length
    have n1 : a ≠ i1 := fun e => by
      cases k with
      | true =>
        obtain ⟨o1, g1, c1, d1⟩ := (show s.heap.IsListIter i1 a i from h1)
        obtain ⟨o2, g2, c2, _⟩ := (show s.heap.IsList a its.toArray from p)
        rw [e, g1] at g2
        cases g2
        rw [c1] at c2
        injection c2 with c3
        exact absurd c3 (by decide)
      | false =>
        obtain ⟨o1, g1, c1, d1⟩ := (show s.heap.IsTupleIter i1 a i from h1)
        obtain ⟨o2, g2, c2, _⟩ := (show s.heap.IsTuple a its.toArray from p)
        rw [e, g1] at g2
        cases g2
        rw [c1] at c2
        injection c2 with c3
        exact absurd c3 (by decide)
    have n2 : b ≠ i2 := fun e => by
      cases l with
      | true =>
        obtain ⟨o1, g1, c1, d1⟩ := (show s.heap.IsListIter i2 b i from h2)
        obtain ⟨o2, g2, c2, _⟩ := (show s.heap.IsList b its2.toArray from p2)
        rw [e, g1] at g2
        cases g2
        rw [c1] at c2
        injection c2 with c3
        exact absurd c3 (by decide)
      | false =>
        obtain ⟨o1, g1, c1, d1⟩ := (show s.heap.IsTupleIter i2 b i from h2)
        obtain ⟨o2, g2, c2, _⟩ := (show s.heap.IsTuple b its2.toArray from p2)
        rw [e, g1] at g2
        cases g2
        rw [c1] at c2
        injection c2 with c3
        exact absurd c3 (by decide)
    refine wpAny_pyNext_zipD2_end D (draw (prog := X.prog) (w := X.w) (A := X.A.in1) (I.ok.hd hc) k i1 a n1 its.toArray) (draw (prog := X.prog) (w := X.w) (A := X.A.in1) (I.ok.hd hc) l i2 b n2 its2.toArray) hz hTI hTO ⟨h1, p⟩ ⟨h2, p2⟩ (by rw [List.size_toArray]; omega) (by rw [List.size_toArray]; omega) (by rw [List.size_toArray, List.size_toArray]; omega) fun h' tk hk => ⟨rfl, I.turnedL (t' := tk) (ch := [z, TI, TO, i1, i2]) (fun c o hb q =>
      hk c o (fun q' => hb (by simp [q'])) (fun q' => hb (by simp [q'])) (fun q' => hb (by simp [q'])) (fun q' => hb (by simp [q'])) q) hf⟩
  self := fun A i s Q E st h => wpAny_pyIter_zip st.1 h
theorem sep {n a b : Nat} (la : a < n) (lb : b < n) : ZipSep2 (n + 4) (n + 2) (n + 3) n (n + 1) [n, a] [n + 1, b] := by
  constructor
  all_goals
    try simp only [List.mem_cons, List.not_mem_nil, or_false, not_or, ne_eq, true_or]
    try simp only [Nat.add_right_inj, Nat.reduceEqDiff, not_false_eq_true]
    try first | (refine ⟨True.intro, fun (h : n + 4 = b) => by omega⟩) | (refine ⟨True.intro, fun (h : n + 3 = b) => by omega⟩) | exact fun (h : n = n + 1) => by omega | (refine ⟨fun (h : n + 4 = n) => by omega, fun (h : n + 4 = a) => by omega⟩) | (refine ⟨fun (h : n + 3 = n) => by omega, fun (h : n + 3 = a) => by omega⟩) | (refine ⟨fun (h : n + 4 = n + 1) => by omega, fun (h : n + 4 = b) => by omega⟩) | (refine ⟨fun (h : n + 3 = n + 1) => by omega, fun (h : n + 3 = b) => by omega⟩) | (refine ⟨fun (h : n = n + 1) => by omega, fun (h : n = b) => by omega⟩) | (refine ⟨fun (h : n + 1 = n) => by omega, fun (h : n + 1 = a) => by omega⟩) | exact fun (h : n + 2 = n) => by omega | exact fun (h : n + 2 = n + 1) => by omega | exact fun (h : n + 2 = n + 4) => by omega | exact fun (h : n + 3 = n + 4) => by omega | exact fun (h : n + 2 = n + 3) => by omega
theorem walk_zA {K : PySem.W.Frag} {k l : Bool} {a b : Addr} {xs ys : List V} {n : Nat} (hx : n = xs.length) (hy : n = ys.length) : Walk (ItzA K k l a b) n (fun H => Sq k K H a xs ∧ Sq l K H b ys) (YPair (fun i => xs[i]?) (fun i => ys[i]?)) := by
  subst hx
  refine ⟨fun i _ hi q => ?_, fun _ q => ⟨xs, ys, q.1, q.2, Nat.le_refl _, by omega, .inl rfl⟩, fun i H v H' _ q y => ?_⟩
  · have h1 : i < xs.length := by omega
    have h2 : i < ys.length := by omega
    exact ⟨xs, ys, xs[i], ys[i], q.1, q.2, by simp [h1], by simp [h2]⟩
  · obtain ⟨T, x, z, h1, h2, h3, h4, h5⟩ := y
    exact ⟨T, x, z, h1, h2, h3, h4 xs q.1, h5 ys q.2⟩
def iZipB (K : PySem.W.Frag) (ta : TA) : TI := fun σ H R => ta σ H fun vs H1 => ∃ (k l : Bool) (a b : Addr) (xs ys : List V), vs = [.ref a, .ref b] ∧ Sq k K H1 a xs ∧ Sq l K H1 b ys ∧ R (ItzA K k l a b) H1
theorem pi_zipB {X : Cx} {e e2 : Expr} {ta : TA} {p pos tpos : Pos} {elts : List Expr} {kk : Nat} (hg : Gl X "zip") (hm : X.mg "zip" = none) (ha : PA X [e, e2] ta)
    (hs : starEach [e, e2] X.env = (false, eval e X.env) :: starEach [e2] X.env := by rfl) (hpl : (backTo pos (starEach [e2] X.env)).any (·.1) = false := by rfl) :
    PI X (.Tuple elts kk tpos) (.Call (.Name "zip" p) [e, e2] [] pos) (iZipB X.K ta) := by
  refine ⟨fun pins s σ H R I h => ?_⟩
  refine Call_ (ld_blt I hg hm PyProof.Rows.boot_zip (PyProof.Rows.callWith_type1 (thn (ha.run pos pins s σ H _ I h) fun us s1 ⟨vs, H1, I1, r1, q1⟩ => ?_) hs hpl))
  obtain ⟨k, l, a, b, xs, ys, ex, hqx, hqy, q⟩ := q1
  subst ex
  cases r1 with
  | cons r rr =>
    cases rr with
    | cons r' rr =>
      cases rr
      cases r
      cases r'
      obtain ⟨its, rv, p1⟩ := obj_of I1 hqx
      obtain ⟨its2, rv2, p2⟩ := obj_of I1 hqy
      have la := p1.lt
      have lb := p2.lt
      refine zip_begins2 (begin (k := k) a its.toArray) (begin (k := l) b its2.toArray) p1 p2 fun h' hz hTI hTO h1 h2 hsz hk => wpAny_pyIter_zip hz ?_
      have I2 : Inv X pins σ H1 { s1 with heap := h' } := I1.kept (t' := s1.toks) hk
      have D : ZipSep2 (s1.heap.objs.size + 4) (s1.heap.objs.size + 2) (s1.heap.objs.size + 3) s1.heap.objs.size (s1.heap.objs.size + 1) [s1.heap.objs.size, a] [s1.heap.objs.size + 1, b] := by
        exact sep la lb
      refine ⟨s1.heap.objs.size + 4, [s1.heap.objs.size + 4, s1.heap.objs.size + 2, s1.heap.objs.size + 3, s1.heap.objs.size, s1.heap.objs.size + 1], _, _, H1, rfl, I2, turn_zipA (k := k) (l := l) D, ⟨hz, hTI, ⟨_, _, hTO⟩, ?_, ?_⟩, fun c hcm => ?_, q⟩
      · cases k with
        | true => exact ⟨_, h1, rfl, rfl⟩
        | false => exact ⟨_, h1, rfl, rfl⟩
      · cases l with
        | true => exact ⟨_, h2, rfl, rfl⟩
        | false => exact ⟨_, h2, rfl, rfl⟩
      · have hle : s1.heap.objs.size ≤ c := by
          have e' : c = s1.heap.objs.size + 4 ∨ c = s1.heap.objs.size + 2 ∨ c = s1.heap.objs.size + 3 ∨ c = s1.heap.objs.size ∨ c = s1.heap.objs.size + 1 := by simpa using hcm
          rcases e' with z | z | z | z | z
          · rw [z]; exact Nat.le_add_right _ _
          · rw [z]; exact Nat.le_add_right _ _
          · rw [z]; exact Nat.le_add_right _ _
          · rw [z]; exact Nat.le_refl _
          · rw [z]; exact Nat.le_add_right _ _
        exact I1.fpOk hle (I1.hok.fresh hle)
end WZ
set_option maxHeartbeats 2000000
/-! An instance of one's own class is called: x(e, ..), where x is a local name. -/
namespace WC
open PySem PySem.Spec PyProof.Rows L2
theorem keeper_inst {M : Model} {h : Heap} {x : Addr} {o : Obj} (ho : h.get? x = some o) (hd : o.data = .plain) : PySem.W.Looks M h (keeperOf (.ref x)) .caller := by
  refine PySem.W.Looks.andThen (PySem.W.Looks.ld (part := none) ho) ?_
  rw [hd]
  exact PySem.W.Looks.now
theorem callWith_inst {M : Model} {A : Around} {E : Value → Shared → Prop} {s : Shared} {env : Env} {pos : Pos} {x : Addr} {o : Obj} {e : Expr} {es : List Expr} {Q : Value → Shared → Prop} (hd : o.data = .plain)
    (h : wpAny M A (spliced (backTo pos (starEach (e :: es) env))) (fun us s1 => s1.heap.get? x = some o ∧ wpAny M A (call (.ref x) us) Q E s1) E s)
    (he : starEach (e :: es) env = (false, eval e env) :: starEach es env) (hpl : (backTo pos (starEach es env)).any (·.1) = false) :
    wpAny M A (callWith pos (.ref x) [] (backTo pos (starEach (e :: es) env)) []) Q E s := by
  rw [he] at h ⊢
  have hs : ((backTo pos ((false, eval e env) :: starEach es env)).any (·.1) || ([] : List (Option Str × Sem Value)).any (·.1.isNone)) = false := by
    show ((false || (backTo pos (starEach es env)).any (·.1)) || false) = false
    rw [hpl]
    rfl
  unfold callWith
  refine wpAny_bind (wpAny_holding (wpAny_mono (PySem.Calls.evalArgs_plain (Q := fun a s1 => s1.heap.get? x = some o ∧ a.kw = [] ∧ wpAny M A (call (.ref x) a.pos) Q E s1) (wpAny_mono h (fun us s1 z => ⟨z.1, rfl, z.2⟩) fun _ _ y => y)) (fun a s1 z => ?_) fun _ _ y => y))
  obtain ⟨z1, z2, z3⟩ := z
  obtain ⟨ap, ak⟩ := a
  dsimp only at z2 z3
  subst z2
  refine wpAny_bind (wpAny_standAt ?_)
  dsimp only
  simp only [hs]
  refine wpAny_bind ((keeper_inst z1 hd).here ?_)
  refine wpAny_bind (wpAny_mono (wpAny_operateT (m := call (.ref x) ([] ++ ap)) z3) (fun r s2 hr => wpAny_bind (wpAny_holding (wpAny_point (wpAny_pure hr)))) fun _ _ y => y)
/-- what a class must have that its instances may be called -/
structure Cl (K : PySem.W.Frag) (C f : Addr) : Prop where
  at_ : PySem.W.findIn K (.ref C) "__call__" = some (some (.ref f))
  fn : PySem.W.isFn K (.ref f) = true
  fi : PySem.W.fnIn K f = true
/-- the i-th slot holds an instance of the class at C -/
def tCallI (i : Nat) (C : Addr) (sp : Sp) (E : XK) (t : TA) : TE := fun σ H Q => ∃ a dx fs, σ[i]? = some (some (.ref a)) ∧ H a = some (.ins C dx fs) ∧ t σ H fun vs H1 => H1 a = some (.ins C dx fs) ∧ sp (.ref a :: vs) H1 Q E
theorem pe_callI {X : Cx} {CX : CXT} {k i : Nat} {f C : Addr} {fd : FuncData} {ps : List Str} {sp : Sp} {E : XK} {x : Str} {p pos : Pos} {e : Expr} {es : List Expr} {t : TA}
    (F : FnOk X.prog X.w X.K X.mg X.base CX k f fd ps sp) (L : Cl X.K C f) (hr : Room k X.A) (hN : X.N[i]? = some x) (hv : Vis X.env.scope x) (hb : Binds X.K fd ps []) (hx : Passes CX X E) (ha : PA X (e :: es) t)
    (hdb : (x == ("__debug__" : Str)) = false := by decide) (hcd : (x == ("__classdict__" : Str)) = false := by decide)
    (he : starEach (e :: es) X.env = (false, eval e X.env) :: starEach es X.env := by rfl) (hpl : (backTo pos (starEach es X.env)).any (·.1) = false := by rfl) :
    PE X (.Call (.Name x p) (e :: es) [] pos) (tCallI i C sp E t) := by
  refine ⟨fun pins s σ H Q I h => ?_⟩
  obtain ⟨a, dx, fs, hs, hi, ht⟩ := h
  refine wpAny_Call_Name_kw (thn ((pe_var (pos := p) hN hv hdb hcd).run pins s σ H (fun v H1 => v = .ref a ∧ H1 = H) I ⟨.ref a, hs, rfl, rfl⟩) fun u s1 ⟨v, H1, I1, r1, q1⟩ => ?_)
  obtain ⟨rfl, rfl⟩ := q1
  cases r1
  refine callWith_inst (o := PySem.W.instObj C dx) rfl (thn (ha.run pos pins s1 σ _ _ I1 ht) fun us s2 ⟨vs, H2, I2, r, q⟩ => ?_) he hpl
  obtain ⟨q1, q2⟩ := q
  obtain ⟨mA, O, _⟩ := ins_get I2.hok q1
  obtain ⟨od, J, _⟩ := O.look
  refine ⟨O.obj, ?_⟩
  have r3 : Vals (.ref a :: vs) (.ref a :: us) := .cons rfl r
  have hl : ((.ref a :: us) ++ ([] : List Value)).length = ps.length := by rw [List.append_nil, ← r3.length]; exact F.len _ _ _ _ q2
  have run := F.run X.A X.stack s2 H2 ⟨.ref a :: us, []⟩ (.ref a :: us) (.ref a :: vs) Q E hr I2.env0 (by have := hb s2 (.ref a :: us) I2.kIn hl; rw [List.append_nil] at this; exact this) r3 q2
  refine wpAny_call (codeAny_mono (PySem.W.kco_code (a := ⟨us, []⟩) I2.kIn J rfl L.at_ L.fn L.fi run) fun r s' hq => ?_)
  cases r with
  | error e => exact hx pins σ H2 s2 e s' I2 hq
  | ok fl =>
    cases fl with
    | ret u => exact I2.after hq
    | next => exact False.elim hq
    | brk => exact False.elim hq
    | cont => exact False.elim hq
/-- a square of a wide int -/
def CSq (i j : Int) : Prop := j = 2 ∧ i.natAbs < 2 ^ 4000
theorem op_sq {X : Cx} : OpR X (binaryOp .Pow) (rI CSq fun i j => .int (i ^ j.toNat)) := opI fun i j _ _ _ _ _ hc q => by
  have hb := PyProof.Rows.intBits_le hc.2
  exact PyProof.Rows.pow_int (by rw [hc.1]; decide) (by rw [hc.1]; omega) q
end WC
/-! Ties of a web, their strengths over the common part, rows, matrices. -/
namespace P12
open PySem L2 WK
def gI (t b : Int) : Int := ((Nat.gcd t.natAbs b.natAbs : Nat) : Int)
theorem gI_pos {t b : Int} (ht : 0 < t) : 0 < gI t b := by
  have : 0 < Nat.gcd t.natAbs b.natAbs := Nat.gcd_pos_of_pos_left _ (by omega)
  unfold gI
  omega
theorem gI_pos' {t b : Int} (hb : 0 < b) : 0 < gI t b := by
  have : 0 < Nat.gcd t.natAbs b.natAbs := Nat.gcd_pos_of_pos_right _ (by omega)
  unfold gI
  omega
theorem gI_le {t b : Int} (ht : 0 < t) : gI t b ≤ t := by
  have : Nat.gcd t.natAbs b.natAbs ≤ t.natAbs := Nat.le_of_dvd (by omega) (Nat.gcd_dvd_left _ _)
  unfold gI
  omega
theorem gI_dvd1 {t b : Int} : gI t b ∣ t := by
  unfold gI
  exact Int.ofNat_dvd_left.mpr (Nat.gcd_dvd_left _ _)
theorem gI_dvd2 {t b : Int} : gI t b ∣ b := by
  unfold gI
  exact Int.ofNat_dvd_left.mpr (Nat.gcd_dvd_right _ _)
/-- the common part of a bottom and some numbers -/
def gf (b : Int) (ns : List Int) : Int := ns.foldl gI b
theorem gf_pos {b : Int} (hb : 0 < b) : ∀ (ns : List Int), 0 < gf b ns := fun ns => by
  induction ns generalizing b with
  | nil => exact hb
  | cons n ns ih => exact ih (gI_pos hb)
theorem gf_le {b : Int} (hb : 0 < b) : ∀ (ns : List Int), gf b ns ≤ b := fun ns => by
  induction ns generalizing b with
  | nil => exact Int.le_refl _
  | cons n ns ih => exact Int.le_trans (ih (gI_pos hb)) (gI_le hb)
theorem gf_dvd {b : Int} : ∀ (ns : List Int), gf b ns ∣ b ∧ ∀ n ∈ ns, gf b ns ∣ n := fun ns => by
  induction ns generalizing b with
  | nil => exact ⟨Int.dvd_refl _, fun n h => by cases h⟩
  | cons n ns ih =>
    have h := ih (b := gI b n)
    refine ⟨Int.dvd_trans h.1 gI_dvd1, fun m hm => ?_⟩
    rcases List.mem_cons.mp hm with e | e
    · rw [e]
      exact Int.dvd_trans h.1 gI_dvd2
    · exact h.2 m e
theorem gf_snoc (b : Int) (ns : List Int) (n : Int) : gf b (ns ++ [n]) = gI (gf b ns) n := by
  unfold gf
  rw [List.foldl_append]
  rfl
abbrev B (n : Nat) (x : Int) : Prop := x.natAbs < 2 ^ n
theorem B.mono {m n : Nat} {x : Int} (h : B m x) (hl : m ≤ n) : B n x := Nat.lt_of_lt_of_le h (Nat.pow_le_pow_right (by decide) hl)
theorem B.mul {m n : Nat} {x y : Int} (hx : B m x) (hy : B n y) : B (m + n) (x * y) := by
  show (x * y).natAbs < 2 ^ (m + n)
  rw [Int.natAbs_mul, Nat.pow_add]
  exact Nat.mul_lt_mul'' hx hy
theorem B.le {n : Nat} {x y : Int} (h0 : 0 ≤ x) (h : x ≤ y) (hy : B n y) : B n x := Nat.lt_of_le_of_lt (by omega) hy
theorem B.div {n : Nat} {x g : Int} (hg : 0 < g) (hx : B n x) : B n (x / g) := by
  show (x / g).natAbs < 2 ^ n
  exact Nat.lt_of_le_of_lt (Int.natAbs_ediv_le_natAbs x g) hx
abbrev T3 := Int × Int × Int
def td3 (t : T3) : Td := .tup [.int t.1, .int t.2.1, .int t.2.2]
def imin (i j : Int) : Int := if j < i then j else i
def imax (i j : Int) : Int := if j > i then j else i
def srt (t : T3) : T3 := (imin t.1 t.2.1, imax t.1 t.2.1, t.2.2)
/-- a tie of a web with pl places -/
structure OkT (pl : Int) (t : T3) : Prop where
  ne : t.1 ≠ t.2.1
  a0 : 0 ≤ t.1
  a1 : t.1 < pl
  b0 : 0 ≤ t.2.1
  b1 : t.2.1 < pl
  s1 : 1 ≤ t.2.2
  s2 : B 400 t.2.2
/-- the ties as a web keeps them, and its bottom -/
def wg (ts : List T3) (b : Int) : Int := gf b (ts.map (·.2.2))
def wt (ts : List T3) (b : Int) : List T3 := ts.map fun t => (imin t.1 t.2.1, imax t.1 t.2.1, t.2.2 / wg ts b)
def wb (ts : List T3) (b : Int) : Int := b / wg ts b
/-- the row of a tie -/
def b2 (p : Bool) : Int := if p then 1 else 0
def trow (pl : Int) (t : T3) : List Int := (List.range pl.toNat).map fun (k : Nat) => b2 (decide (V.int (0 + (k : Int)) = V.int t.1)) - b2 (decide (V.int (0 + (k : Int)) = V.int t.2.1))
abbrev RW := List Int × Int
def tdr (p : RW) : Td := .tup [.tup (p.1.map Td.int), .int p.2]
def wsum (ps : List RW) (i j : Nat) : Int := (ps.map fun p => p.2 * p.1.getD i 0 * p.1.getD j 0).sum
def wmat (n : Nat) (ps : List RW) : List (List Int) := (List.range n).map fun i => (List.range n).map fun j => wsum ps i j
def tdm (m : List (List Int)) : Td := .tup (m.map fun r => .tup (r.map Td.int))
theorem wsum_sym (ps : List RW) (i j : Nat) : wsum ps i j = wsum ps j i := by
  unfold wsum
  congr 1
  refine List.map_congr_left fun p _ => ?_
  rw [Int.mul_assoc, Int.mul_comm (p.1.getD i 0), ← Int.mul_assoc]
end P12
/-! What the walks share. -/
namespace P12
open PySem PySem.Spec PyProof.Rows L2 SX EX WK
def top (i : Nat) : Stmt := PySem.Challenge.pw_wholecables_k12_paired_sums.main.body.getD i (.Pass ⟨0, 0, 0, 0⟩)
def clsBody : Stmt → List Stmt
  | .ClassDef _ _ _ b _ _ _ _ _ _ _ => b
  | _ => []
def mth (i j : Nat) : Stmt := (clsBody (top i)).getD j (.Pass ⟨0, 0, 0, 0⟩)
/-- a def as its callers see it -/
def Cal (P : Program) (w : World) (K : PySem.W.Frag) (mg : Str → Option Value) (base : Heap) (k : Nat) (x : Str) (ps : List Str) (sp : Sp) : Prop :=
  ∃ (f : Addr) (fd : FuncData), FnOk P w K mg base CX0 k f fd ps sp ∧ mg x = some (.ref f) ∧ PySem.W.keepIn K (.ref f) = true ∧ Binds K fd ps []
theorem pe_cal {X : Cx} {k : Nat} {x : Str} {ps : List Str} {sp : Sp} {p pos : Pos} {e : Expr} {es : List Expr} {t : TA} (C : Cal X.prog X.w X.K X.mg X.base k x ps sp) (hr : Room k X.A) (hg : Gl X x) (ha : PA X (e :: es) t)
    (hdb : (x == ("__debug__" : Str)) = false := by decide) (he : starEach (e :: es) X.env = (false, eval e X.env) :: starEach es X.env := by rfl) (hpl : (backTo pos (starEach es X.env)).any (·.1) = false := by rfl) :
    PE X (.Call (.Name x p) (e :: es) [] pos) (tCall sp [] E0 t) := by
  obtain ⟨f, fd, G, m, kp, b⟩ := C
  exact pe_call G hr hg m kp b .nil pass0 ha hdb he hpl
/-- a class as its makers see it: n values and keywords ks -/
def CalK (P : Program) (w : World) (K : PySem.W.Frag) (mg : Str → Option Value) (base : Heap) (k : Nat) (x : Str) (C : Addr) (n : Nat) (ks : List Str) (sp : Sp) : Prop :=
  ∃ (f : Addr) (fd : FuncData) (ps : List Str) (g : List Value → List Value → List Value), Mk K C f ∧ FnOk P w K mg base CX0 k f fd ps sp ∧ mg x = some (.ref C) ∧ KBn K fd ps (n + 1) ks g (fun vs zs => vs ++ zs)
theorem pe_calK {X : Cx} {k n : Nat} {C : Addr} {x : Str} {ks : List Str} {sp : Sp} {p pos : Pos} {e : Expr} {es : List Expr} {kws : List Keyword} {t tk : TA} (M : CalK X.prog X.w X.K X.mg X.base k x C n ks sp) (hr : Room (k + 1) X.A) (hg : Gl X x) (ha : PA X (e :: es) t) (hkw : PK X kws tk)
    (hall : (backToKw pos (keywordEach kws X.env)).all (·.1.isSome) = true := by rfl) (hks : (backToKw pos (keywordEach kws X.env)).filterMap (·.1) = ks := by rfl) (hdb : (x == ("__debug__" : Str)) = false := by decide)
    (he : starEach (e :: es) X.env = (false, eval e X.env) :: starEach es X.env := by rfl) (hpl : ((backTo pos (starEach (e :: es) X.env)).any (·.1) || (backToKw pos (keywordEach kws X.env)).any (·.1.isNone)) = false := by rfl) :
    PE X (.Call (.Name x p) (e :: es) kws pos) (tMakeK C n ks.length sp (fun vs zs => vs ++ zs) E0 t tk) := by
  obtain ⟨f, fd, ps, g, M, F, hm, hb⟩ := M
  exact pe_makeK M F hr hg hm hb pass0 ha hkw hall hks hdb he hpl
/-- a method as its callers see it -/
def CalM (P : Program) (w : World) (K : PySem.W.Frag) (mg : Str → Option Value) (base : Heap) (k : Nat) (C : Addr) (m : Str) (ps : List Str) (sp : Sp) : Prop :=
  ∃ (f : Addr) (fd : FuncData), FnOk P w K mg base CX0 k f fd ps sp ∧ Meth K C m f ∧ Binds K fd ps []
theorem pe_calM {X : Cx} {k : Nat} {C : Addr} {m : Str} {ps : List Str} {sp : Sp} {apos pos : Pos} {o e : Expr} {es : List Expr} {ta : TE} {t : TA} {pl : Sem Bool} (c : Cls X.K C) (M : CalM X.prog X.w X.K X.mg X.base k C m ps sp) (hr : Room k X.A) (he : PE X o ta) (ha : PA X (e :: es) t)
    (hst : starEach (e :: es) X.env = (false, eval e X.env) :: starEach es X.env := by rfl) (hpl : (backTo pos (starEach es X.env)).any (·.1) = false := by rfl)
    (ht : eval (.Call (.Attribute o m apos) (e :: es) [] pos) X.env = (do
      let ov ← eval o X.env
      standAt apos.atName
      let (f, first) ← holding [ov] (getMethod ov m pl)
      callWith pos f first (backTo pos (starEach (e :: es) X.env)) (backToKw pos (keywordEach [] X.env))) := by rfl) :
    PE X (.Call (.Attribute o m apos) (e :: es) [] pos) (tMeth C m sp [] E0 ta t) := by
  obtain ⟨f, fd, F, hm, hb⟩ := M
  exact pe_meth he c hm F hr hb .nil pass0 ha hst hpl ht
/-- an instance of the class at C as its callers see it -/
def CalI (P : Program) (w : World) (K : PySem.W.Frag) (mg : Str → Option Value) (base : Heap) (k : Nat) (C : Addr) (ps : List Str) (sp : Sp) : Prop :=
  ∃ (f : Addr) (fd : FuncData), FnOk P w K mg base CX0 k f fd ps sp ∧ WC.Cl K C f ∧ Binds K fd ps []
theorem pe_calI {X : Cx} {k i : Nat} {C : Addr} {x : Str} {ps : List Str} {sp : Sp} {p pos : Pos} {e : Expr} {es : List Expr} {t : TA} (M : CalI X.prog X.w X.K X.mg X.base k C ps sp) (hr : Room k X.A) (hN : X.N[i]? = some x) (hv : Vis X.env.scope x) (ha : PA X (e :: es) t)
    (hdb : (x == ("__debug__" : Str)) = false := by decide) (hcd : (x == ("__classdict__" : Str)) = false := by decide)
    (he : starEach (e :: es) X.env = (false, eval e X.env) :: starEach es X.env := by rfl) (hpl : (backTo pos (starEach es X.env)).any (·.1) = false := by rfl) :
    PE X (.Call (.Name x p) (e :: es) [] pos) (WC.tCallI i C sp E0 t) := by
  obtain ⟨f, fd, F, hm, hb⟩ := M
  exact WC.pe_callI F hm hr hN hv hb pass0 ha hdb hcd he hpl
/-- the built-in names that the text asks for are the built-in ones -/
structure Txt (mg : Str → Option Value) : Prop where
  b_len : mg "len" = none
  b_int : mg "int" = none
  b_bool : mg "bool" = none
  b_tuple : mg "tuple" = none
  b_list : mg "list" = none
  b_isinstance : mg "isinstance" = none
  b_range : mg "range" = none
  b_enumerate : mg "enumerate" = none
  b_zip : mg "zip" = none
  b_sum : mg "sum" = none
  b_min : mg "min" = none
  b_abs : mg "abs" = none
  b_all : mg "all" = none
  b_ValueError : mg "ValueError" = none
  g_gcd : mg "gcd" = some (.builtin "math.gcd")
/-- the classes of the text -/
structure Obs (K : PySem.W.Frag) (cF cR : Addr) : Prop where
  clF : Cls K cF
  F_size : NoAttr K cF "size"
  F_entries : NoAttr K cF "entries"
  F_bottom : NoAttr K cF "bottom"
  clR : Cls K cR
  R_size : NoAttr K cR "size"
  R_pairs : NoAttr K cR "pairs"
  R_bottom : NoAttr K cR "bottom"
  R_form : NoAttr K cR "form"
theorem line_ge {n : Nat} (h : n ≤ 100000) : n ≤ sizeLine := Nat.le_trans h (by rw [sizeLine_eq]; decide)
theorem two_line : 2 ≤ sizeLine := line_ge (by omega)
theorem three_line : 3 ≤ sizeLine := line_ge (by omega)
theorem at_pos {α : Type} {xs : List α} {z : Int} {v : α} (h0 : 0 ≤ z) (h : xs[z.toNat]? = some v) : atI xs z = some v := by
  have e : z = ((z.toNat : Nat) : Int) := by omega
  rw [e]
  exact atI_nat h
theorem same_new {H : Hp} {p : Addr} (h : H p = none) (o : HO) : Same H (upd H p o) := new_same h o
theorem lc_yes {σ : L2.St} {H : Hp} {A B : Hp → Prop} (h : A H) : tYes σ H (fun b H3 => if b = true then A H3 else B H3) := by
  show (if true = true then A H else B H)
  exact iteT h
theorem ifT {c : Bool} {A B : Prop} (hc : c = true) (h : A) : if c = true then A else B := by rw [if_pos hc]; exact h
theorem ifF {c : Bool} {A B : Prop} (hc : c = false) (h : B) : if c = true then A else B := by rw [hc, if_neg Bool.false_ne_true]; exact h
theorem dec_ne {a b : V} (h : a ≠ b) : decide (a = b) = false := decide_eq_false h
theorem int_ne {a b : Int} (h : a ≠ b) : decide (V.int a = V.int b) = false := decide_eq_false fun e => h (V.int.inj e)
theorem int_eq {a b : Int} (h : a = b) : decide (V.int a = V.int b) = true := decide_eq_true (by rw [h])
theorem same_at {H H' : Hp} {D : Addr} {o : HO} (e : Same H H') (h : H D = none) : Same H (upd H' D o) := fun b u q => by
  have hne : b ≠ D := fun z => by
    rw [z, h] at q
    cases q
  rw [upd_ne hne]
  exact e _ _ q
theorem dec_lt {a b : Int} (h : decide (a < b) = true) : a < b := of_decide_eq_true h
theorem not_lt {a b : Int} (h : ¬ decide (a < b) = true) : ¬ a < b := of_decide_eq_false (Bool.eq_false_iff.mpr h)
theorem kitLT {K : PySem.W.Frag} : PySem.W.kitOne K (.type "list") (.type "list") = some true := kit_ty (by decide +kernel)
theorem wmul {m n : Nat} {x y : Int} (hx : B m x) (hy : B n y) (h0 : 0 < m) (h1 : 0 < n) (h : m + n ≤ 1000000) : CMulW x y := wide_mul hx hy h0 h1 h
theorem wdiv {n : Nat} {x g : Int} (hg : 0 < g) (h : B n g) (h0 : 0 < n) (h9 : n ≤ 9000) : CDivW x g := wide_div hg h h0 h9
theorem lk_hit {n : Str} {v : V} {l : List (Str × V)} : ((n, v) :: l).lookup n = some v := by rw [List.lookup_cons, beq_self_eq_true]
theorem lk_skip {n m : Str} {v : V} {l : List (Str × V)} (h : ¬ m = n) : ((n, v) :: l).lookup m = l.lookup m := by
  rw [List.lookup_cons]
  have : (m == n) = false := beq_eq_false_iff_ne.mpr h
  rw [this]
/-- a pair of ints -/
def FrAt (H : Hp) (a : Addr) (t b : Int) : Prop := H a = some (.tup [.int t, .int b])
theorem FrAt.same {H H' : Hp} {a : Addr} {t b : Int} (e : Same H H') (h : FrAt H a t b) : FrAt H' a t b := e _ _ h
end P12
namespace P12
open PySem PySem.Spec PyProof.Rows L2 SX EX WK
theorem kLT {K : PySem.W.Frag} : PySem.W.kitAny K (.type "list") [.type "list", .type "tuple"] = some true := by
  unfold PySem.W.kitAny
  rw [show PySem.W.kitOne K (.type "list") (.type "list") = some true from kit_ty (by decide +kernel)]
theorem kTT {K : PySem.W.Frag} : PySem.W.kitAny K (.type "tuple") [.type "list", .type "tuple"] = some true := by
  unfold PySem.W.kitAny
  rw [show PySem.W.kitOne K (.type "tuple") (.type "list") = some false from kit_ty (by decide +kernel)]
  unfold PySem.W.kitAny
  rw [show PySem.W.kitOne K (.type "tuple") (.type "tuple") = some true from kit_ty (by decide +kernel)]
theorem kIT {K : PySem.W.Frag} : PySem.W.kitAny K (.type "int") [.type "list", .type "tuple"] = some false := by
  unfold PySem.W.kitAny
  rw [show PySem.W.kitOne K (.type "int") (.type "list") = some false from kit_ty (by decide +kernel)]
  unfold PySem.W.kitAny
  rw [show PySem.W.kitOne K (.type "int") (.type "tuple") = some false from kit_ty (by decide +kernel)]
  rfl
theorem ty_tup {K : PySem.W.Frag} {H : Hp} {a : Addr} {xs : List V} (h : SqT K H a xs) : TyX K H (.ref a) (.type "tuple") := by
  rcases h with (h | ⟨o, h⟩) | ⟨o, its, n, h, c, _⟩
  · exact .base (.tup h)
  · exact .fTuple h
  · exact .kTuple h c
def spFz (K : PySem.W.Frag) (n : Nat) : Sp := fun vs H Q _ => ∃ (v : V) (t : Td), vs = [v] ∧ Sn K H v t ∧ t.dep ≤ n ∧ t.sm ∧ ∀ v' H', Same H H' → Fz K H' v' t → Q v' H'
theorem pairLT : Paired ClsV [V.ty "list", V.ty "tuple"] [.type "list", .type "tuple"] := .cons (.ty _) (.cons (.ty _) .nil)
section
variable {P : Program} {w : World} {K : PySem.W.Frag} {mg : Str → Option Value} {base : Heap} {f : Addr} {fd : FuncData}
abbrev s_frozen_numbers : Stmt := top 14
abbrev N_frozen_numbers : List Str := ["value"]
theorem sc_frozen_numbers : FnScope N_frozen_numbers ["value"] (defScope s_frozen_numbers) := ⟨rfl, rfl, rfl, by decide +kernel, rfl, by decide +kernel, by decide +kernel⟩
theorem ok_frozen_numbers (F : Fun K "frozen_numbers" "frozen_numbers" s_frozen_numbers f fd) (T : Txt mg) : FnOk P w K mg base CX0 1 f fd ["value"] (spFz K 1) := by
  refine F.ok sc_frozen_numbers (fun vs H Q E h => ?_) (fun cdv A outer s H vs Q E hr h => ?_)
  · obtain ⟨v, t, rfl, _⟩ := h
    rfl
  obtain ⟨v, t, rfl, hs, hd, hm, q⟩ := h
  refine ⟨_, (pss_cons (ps_if (pt_val (pe_callB call_isiT (by rfl) T.b_isinstance (by decide +kernel) (pa_cons (pv 0) (pa_cons (pe_tup (pa_cons (pe_bltn (v := .ty "list") (by rfl) T.b_list (by decide +kernel) rfl) (pa_cons (pe_bltn (v := .ty "tuple") (by rfl) T.b_tuple (by decide +kernel) rfl) pa_nil))) pa_nil)))) (pss_one (ps_ret (pe_callTy call_tuple_of (by rfl) T.b_tuple (by decide +kernel) (pa_cons (pv 0) pa_nil)))) pss_nil)
  (pss_one (ps_ret (pv 0)))), ?_⟩
  refine ⟨_, rfl, two_line, fun tp htp => ?_⟩
  have g := same_new htp (.tup [V.ty "list", V.ty "tuple"])
  have hs' := hs.same g
  cases hs' with
  | int i => exact ⟨_, tp, _, _, _, _, rfl, upd_same, pairLT, .base (.int i), kIT, _, rfl, ifF rfl ⟨_, rfl, q _ _ g (.int i)⟩⟩
  | @lst a vs ts ha hall =>
    simp only [Td.dep] at hd
    refine ⟨_, tp, _, _, _, _, rfl, upd_same, pairLT, .base (.lst ha), kLT, _, rfl, ifT rfl ⟨_, rfl, a, _, rfl, .inl ⟨SqL.of ha, fun l hl => ?_⟩⟩⟩
    have g2 := same_new hl (.tup vs)
    exact q _ _ (g.trans g2) (.tup (SqT.of upd_same) ((hall.zero (by omega)).tk (WK.Same.tk g2)))
  | @tup a vs ts ha hall =>
    simp only [Td.dep] at hd
    exact ⟨_, tp, _, _, _, _, rfl, upd_same, pairLT, ty_tup ha, kTT, _, rfl, ifT rfl ⟨_, rfl, a, _, rfl, .inr ⟨ha, q _ _ g (.tup ha (hall.zero (by omega)))⟩⟩⟩
abbrev s_frozen_part : Stmt := top 15
abbrev N_frozen_part : List Str := ["value", "part"]
theorem sc_frozen_part : FnScope N_frozen_part ["value"] (defScope s_frozen_part) := ⟨rfl, rfl, rfl, by decide +kernel, rfl, by decide +kernel, by decide +kernel⟩
theorem ok_frozen_part (F : Fun K "frozen_part" "frozen_part" s_frozen_part f fd) (T : Txt mg) (C_frozen_numbers : Cal P w K mg base 1 "frozen_numbers" ["value"] (spFz K 1)) : FnOk P w K mg base CX0 2 f fd ["value"] (spFz K 2) := by
  refine F.ok sc_frozen_part (fun vs H Q E h => ?_) (fun cdv A outer s H vs Q E hr h => ?_)
  · obtain ⟨v, t, rfl, _⟩ := h
    rfl
  obtain ⟨v, t, rfl, hs, hd, hm, q⟩ := h
  refine ⟨_, (pss_cons (ps_if (pt_val (pe_callB call_isiT (by rfl) T.b_isinstance (by decide +kernel) (pa_cons (pv 0) (pa_cons (pe_tup (pa_cons (pe_bltn (v := .ty "list") (by rfl) T.b_list (by decide +kernel) rfl) (pa_cons (pe_bltn (v := .ty "tuple") (by rfl) T.b_tuple (by decide +kernel) rfl) pa_nil))) pa_nil)))) (pss_one (ps_ret (pe_callTy call_tuple_of (by rfl) T.b_tuple (by decide +kernel) (pa_cons (pe_lc (own := [("part", 1)]) (g := gName 1) (tt := tYes) (by rfl) sc_frozen_part.nd (pi_or (pi_list (pv 0)) (pi_tup (pv 0))) (blkOk_by (N := N_frozen_part) (sc := defScope s_frozen_part) (by decide +kernel)) (fun _ _ _ _ _ => (pg_name (i := 1) sc_frozen_part.nd rfl (Or.inl rfl))) (fun _ _ _ _ _ => pts_nil) (fun _ _ _ _ _ => (pe_cal C_frozen_numbers (hr.mono (by omega)) rfl (pa_cons (pv 1) pa_nil)))) pa_nil)))) pss_nil)
  (pss_one (ps_ret (pv 0)))), ?_⟩
  refine ⟨_, rfl, two_line, fun tp htp => ?_⟩
  have g := same_new htp (.tup [V.ty "list", V.ty "tuple"])
  have hs' := hs.same g
  cases hs' with
  | int i => exact ⟨_, tp, _, _, _, _, rfl, upd_same, pairLT, .base (.int i), kIT, _, rfl, ifF rfl ⟨_, rfl, q _ _ g (.int i)⟩⟩
  | @lst a vs ts ha hall =>
    simp only [Td.dep] at hd
    simp only [Td.sm] at hm
    have hl := hall.len
    refine ⟨_, tp, _, _, _, _, rfl, upd_same, pairLT, .base (.lst ha), kLT, _, rfl, ifT rfl (.inl ⟨_, rfl, a, rfl, ⟨_, SqL.of ha⟩, fun D hD => ?_⟩)⟩
    refine lc_m (walk_list (K := K) (a := a) (xs := vs)) (Fz K) stb_Fz ts hl hm.1 hD (fun H' s => s.seq (SqL.of ha)) (fun _ _ _ _ => ys_at) id (fun i b x H1 H2 hb s1 s2 y A B hA => ?_) (fun H' l s1 hl1 rs => ?_)
    · obtain ⟨t1, ht1, hx⟩ := hall.get y.2
      rw [hb] at ht1
      cases ht1
      have mb := List.mem_of_getElem? hb
      exact ⟨rfl, lc_yes ⟨_, rfl, _, b, rfl, hx.same s2, Nat.le_trans (deps_le (n := 1) (by omega) mb) (Nat.le_refl _), sms_of hm.2 mb, fun v' H' s h => hA _ _ s h⟩⟩
    · rw [List.map_id] at rs
      refine ⟨D, l, rfl, .inl ⟨SqL.of hl1, fun l2 hl2 => ?_⟩⟩
      have g2 := same_new hl2 (.tup l)
      exact q _ _ (g.trans (s1.trans g2)) (.tup (SqT.of upd_same) (rs.fz.tk (WK.Same.tk g2)))
  | @tup a vs ts ha hall =>
    simp only [Td.dep] at hd
    simp only [Td.sm] at hm
    have hl := hall.len
    refine ⟨_, tp, _, _, _, _, rfl, upd_same, pairLT, ty_tup ha, kTT, _, rfl, ifT rfl (.inr ⟨_, rfl, a, rfl, ⟨_, ha⟩, fun D hD => ?_⟩)⟩
    refine lc_m (walk_tup (K := K) (a := a) (xs := vs)) (Fz K) stb_Fz ts hl hm.1 hD (fun H' s => Same_seqT s ha) (fun _ _ _ _ => ys_at) id (fun i b x H1 H2 hb s1 s2 y A B hA => ?_) (fun H' l s1 hl1 rs => ?_)
    · obtain ⟨t1, ht1, hx⟩ := hall.get y.2
      rw [hb] at ht1
      cases ht1
      have mb := List.mem_of_getElem? hb
      exact ⟨rfl, lc_yes ⟨_, rfl, _, b, rfl, hx.same s2, Nat.le_trans (deps_le (n := 1) (by omega) mb) (Nat.le_refl _), sms_of hm.2 mb, fun v' H' s h => hA _ _ s h⟩⟩
    · rw [List.map_id] at rs
      refine ⟨D, l, rfl, .inl ⟨SqL.of hl1, fun l2 hl2 => ?_⟩⟩
      have g2 := same_new hl2 (.tup l)
      exact q _ _ (g.trans (s1.trans g2)) (.tup (SqT.of upd_same) (rs.fz.tk (WK.Same.tk g2)))
abbrev s_frozen : Stmt := top 16
abbrev N_frozen : List Str := ["value", "part"]
theorem sc_frozen : FnScope N_frozen ["value"] (defScope s_frozen) := ⟨rfl, rfl, rfl, by decide +kernel, rfl, by decide +kernel, by decide +kernel⟩
theorem ok_frozen (F : Fun K "frozen" "frozen" s_frozen f fd) (T : Txt mg) (C_frozen_part : Cal P w K mg base 2 "frozen_part" ["value"] (spFz K 2)) : FnOk P w K mg base CX0 3 f fd ["value"] (spFz K 3) := by
  refine F.ok sc_frozen (fun vs H Q E h => ?_) (fun cdv A outer s H vs Q E hr h => ?_)
  · obtain ⟨v, t, rfl, _⟩ := h
    rfl
  obtain ⟨v, t, rfl, hs, hd, hm, q⟩ := h
  refine ⟨_, (pss_cons (ps_if (pt_val (pe_callB call_isiT (by rfl) T.b_isinstance (by decide +kernel) (pa_cons (pv 0) (pa_cons (pe_tup (pa_cons (pe_bltn (v := .ty "list") (by rfl) T.b_list (by decide +kernel) rfl) (pa_cons (pe_bltn (v := .ty "tuple") (by rfl) T.b_tuple (by decide +kernel) rfl) pa_nil))) pa_nil)))) (pss_one (ps_ret (pe_callTy call_tuple_of (by rfl) T.b_tuple (by decide +kernel) (pa_cons (pe_lc (own := [("part", 1)]) (g := gName 1) (tt := tYes) (by rfl) sc_frozen.nd (pi_or (pi_list (pv 0)) (pi_tup (pv 0))) (blkOk_by (N := N_frozen) (sc := defScope s_frozen) (by decide +kernel)) (fun _ _ _ _ _ => (pg_name (i := 1) sc_frozen.nd rfl (Or.inl rfl))) (fun _ _ _ _ _ => pts_nil) (fun _ _ _ _ _ => (pe_cal C_frozen_part (hr.mono (by omega)) rfl (pa_cons (pv 1) pa_nil)))) pa_nil)))) pss_nil)
  (pss_one (ps_ret (pv 0)))), ?_⟩
  refine ⟨_, rfl, two_line, fun tp htp => ?_⟩
  have g := same_new htp (.tup [V.ty "list", V.ty "tuple"])
  have hs' := hs.same g
  cases hs' with
  | int i => exact ⟨_, tp, _, _, _, _, rfl, upd_same, pairLT, .base (.int i), kIT, _, rfl, ifF rfl ⟨_, rfl, q _ _ g (.int i)⟩⟩
  | @lst a vs ts ha hall =>
    simp only [Td.dep] at hd
    simp only [Td.sm] at hm
    have hl := hall.len
    refine ⟨_, tp, _, _, _, _, rfl, upd_same, pairLT, .base (.lst ha), kLT, _, rfl, ifT rfl (.inl ⟨_, rfl, a, rfl, ⟨_, SqL.of ha⟩, fun D hD => ?_⟩)⟩
    refine lc_m (walk_list (K := K) (a := a) (xs := vs)) (Fz K) stb_Fz ts hl hm.1 hD (fun H' s => s.seq (SqL.of ha)) (fun _ _ _ _ => ys_at) id (fun i b x H1 H2 hb s1 s2 y A B hA => ?_) (fun H' l s1 hl1 rs => ?_)
    · obtain ⟨t1, ht1, hx⟩ := hall.get y.2
      rw [hb] at ht1
      cases ht1
      have mb := List.mem_of_getElem? hb
      exact ⟨rfl, lc_yes ⟨_, rfl, _, b, rfl, hx.same s2, Nat.le_trans (deps_le (n := 2) (by omega) mb) (Nat.le_refl _), sms_of hm.2 mb, fun v' H' s h => hA _ _ s h⟩⟩
    · rw [List.map_id] at rs
      refine ⟨D, l, rfl, .inl ⟨SqL.of hl1, fun l2 hl2 => ?_⟩⟩
      have g2 := same_new hl2 (.tup l)
      exact q _ _ (g.trans (s1.trans g2)) (.tup (SqT.of upd_same) (rs.fz.tk (WK.Same.tk g2)))
  | @tup a vs ts ha hall =>
    simp only [Td.dep] at hd
    simp only [Td.sm] at hm
    have hl := hall.len
    refine ⟨_, tp, _, _, _, _, rfl, upd_same, pairLT, ty_tup ha, kTT, _, rfl, ifT rfl (.inr ⟨_, rfl, a, rfl, ⟨_, ha⟩, fun D hD => ?_⟩)⟩
    refine lc_m (walk_tup (K := K) (a := a) (xs := vs)) (Fz K) stb_Fz ts hl hm.1 hD (fun H' s => Same_seqT s ha) (fun _ _ _ _ => ys_at) id (fun i b x H1 H2 hb s1 s2 y A B hA => ?_) (fun H' l s1 hl1 rs => ?_)
    · obtain ⟨t1, ht1, hx⟩ := hall.get y.2
      rw [hb] at ht1
      cases ht1
      have mb := List.mem_of_getElem? hb
      exact ⟨rfl, lc_yes ⟨_, rfl, _, b, rfl, hx.same s2, Nat.le_trans (deps_le (n := 2) (by omega) mb) (Nat.le_refl _), sms_of hm.2 mb, fun v' H' s h => hA _ _ s h⟩⟩
    · rw [List.map_id] at rs
      refine ⟨D, l, rfl, .inl ⟨SqL.of hl1, fun l2 hl2 => ?_⟩⟩
      have g2 := same_new hl2 (.tup l)
      exact q _ _ (g.trans (s1.trans g2)) (.tup (SqT.of upd_same) (rs.fz.tk (WK.Same.tk g2)))
end
end P12
namespace P12
open PySem PySem.Spec PyProof.Rows L2 SX EX WK
theorem take_one {α : Type} {xs : List α} {i : Nat} {x : α} (h : xs[i]? = some x) : xs.take (i + 1) = xs.take i ++ [x] := by
  rw [List.take_add_one, h]
  rfl
theorem ints_at {ns : List Int} {i : Nat} {x : V} (h : (ns.map V.int)[i]? = some x) : ∃ n, ns[i]? = some n ∧ x = V.int n := by
  rw [List.getElem?_map] at h
  cases e : ns[i]? with
  | none => rw [e] at h; cases h
  | some n => rw [e] at h; exact ⟨n, rfl, (Option.some.inj h).symm⟩
def spLow : Sp := fun vs H Q _ => ∃ (l : Addr) (ns : List Int) (b : Int), vs = [.ref l, .int b] ∧ H l = some (.lst (ns.map V.int)) ∧ 0 < b ∧ B 9000 b ∧ ns.length ≤ 100000 ∧
  ∀ r t H', Same H H' → H' r = some (.tup [.ref t, .int (b / gf b ns)]) → H' t = some (.tup ((ns.map fun n => n / gf b ns).map V.int)) → Q (.ref r) H'
section
variable {P : Program} {w : World} {K : PySem.W.Frag} {mg : Str → Option Value} {base : Heap} {f : Addr} {fd : FuncData}
abbrev s_lowered : Stmt := top 17
abbrev N_lowered : List Str := ["numbers", "bottom", "shared", "number"]
theorem sc_lowered : FnScope N_lowered ["numbers", "bottom"] (defScope s_lowered) := ⟨rfl, rfl, rfl, by decide +kernel, rfl, by decide +kernel, by decide +kernel⟩
theorem ok_lowered (F : Fun K "lowered" "lowered" s_lowered f fd) (T : Txt mg) : FnOk P w K mg base CX0 1 f fd ["numbers", "bottom"] spLow := by
  refine F.ok sc_lowered (fun vs H Q E h => ?_) (fun cdv A outer s H vs Q E hr h => ?_)
  · obtain ⟨l, ns, b, rfl, _⟩ := h
    rfl
  obtain ⟨l, ns, b, rfl, hl, hb, hB, hn, q⟩ := h
  refine ⟨_, (pss_cons (ps_set (i := 2) sc_lowered.nd rfl (Or.inr rfl) (pv 1))
  (pss_cons (ps_for PassesOwn.never rfl (pi_list (pv 0)) (pg_name (i := 3) sc_lowered.nd rfl (Or.inl rfl)) (pss_one (ps_set (i := 2) sc_lowered.nd rfl (Or.inr rfl) (pe_callBfun cr_gcd rfl T.g_gcd (pa_cons (pv 2) (pa_cons (pv 3) pa_nil))))))
  (pss_one (ps_ret (pe_tup (pa_cons (pe_callTy call_tuple_of (by rfl) T.b_tuple (by decide +kernel) (pa_cons (pe_lc (own := [("number", 3)]) (g := gName 3) (tt := tYes) (by rfl) sc_lowered.nd (pi_list (pv 0)) (blkOk_by (N := N_lowered) (sc := defScope s_lowered) (by decide +kernel)) (fun _ _ _ _ _ => (pg_name (i := 3) sc_lowered.nd rfl (Or.inl rfl))) (fun _ _ _ _ _ => pts_nil) (fun _ _ _ _ _ => (pe_op op_fdivW (pv 3) (pv 2)))) pa_nil)) (pa_cons (pe_op op_fdivW (pv 1) (pv 2)) pa_nil))))))), ?_⟩
  have hg := gf_pos hb ns
  have hgB : B 9000 (gf b ns) := B.le (Int.le_of_lt hg) (gf_le hb ns) hB
  refine ⟨_, rfl, _, rfl, l, rfl, ⟨_, SqL.of hl⟩, for_list (K := K) (a := l) (xs := ns.map V.int) (fun i σ H' => ∃ v : Option V, σ = [some (.ref l), some (.int b), some (.int (gf b (ns.take i))), v] ∧ H' = H)
    ⟨none, rfl, rfl⟩ (fun i σ H' _ ⟨_, _, e⟩ => by rw [e]; exact SqL.of hl) ?_ ?_⟩
  · rintro i x σ H' hi ⟨v, rfl, rfl⟩
    obtain ⟨n, hni, rfl⟩ := ints_at hi
    refine ⟨_, rfl, _, rfl, _, _, rfl, some (V.int n), ?_, rfl⟩
    rw [take_one hni, gf_snoc]
    rfl
  · rintro σ H' ⟨v, rfl, rfl⟩
    rw [List.length_map, List.take_length]
    refine ⟨_, rfl, l, rfl, ⟨_, SqL.of hl⟩, fun D hD => ?_⟩
    refine lc_m (walk_list (K := K) (a := l) (xs := ns.map V.int)) RI (stb_RI (K := K)) ns (List.length_map ..) hn hD (fun H' s => s.seq (SqL.of hl)) (fun _ _ _ _ => ys_at) (fun n => n / gf b ns) (fun i n x H1 H2 hb s1 s2 y A B hA => ?_) (fun H2 l1 s1 hl1 rs => ?_)
    · obtain ⟨n', hn', rfl⟩ := ints_at y.2
      rw [hb] at hn'
      cases hn'
      exact ⟨rfl, lc_yes ⟨_, rfl, _, rfl, _, _, rfl, rfl, wdiv hg hgB (by decide) (by decide), hA _ _ (fun _ _ h => h) rfl⟩⟩
    · refine ⟨D, l1, rfl, .inl ⟨SqL.of hl1, fun t ht => ?_⟩⟩
      refine ⟨_, rfl, _, rfl, _, _, rfl, rfl, wdiv hg hgB (by decide) (by decide), two_line, fun r hr' => ?_⟩
      refine q r t _ (s1.trans ((same_new ht _).trans (same_new hr' _))) upd_same ?_
      rw [upd_ne (ne_of_none (upd_same (H := H2) (a := t)) hr'), upd_same, rs.ints]
/-! ### fractions -/
def spFraction : Sp := fun vs H Q _ => ∃ t b : Int, vs = [.int t, .int b] ∧ 0 < b ∧ B 9000 b ∧ ∀ r H', Same H H' → FrAt H' r (t / gI t b) (b / gI t b) → Q (.ref r) H'
abbrev s_fraction : Stmt := top 18
abbrev N_fraction : List Str := ["top", "bottom", "shared"]
theorem sc_fraction : FnScope N_fraction ["top", "bottom"] (defScope s_fraction) := ⟨rfl, rfl, rfl, by decide +kernel, rfl, by decide +kernel, by decide +kernel⟩
theorem ok_fraction (F : Fun K "fraction" "fraction" s_fraction f fd) (T : Txt mg) : FnOk P w K mg base CX0 1 f fd ["top", "bottom"] spFraction := by
  refine F.ok sc_fraction (fun vs H Q E h => ?_) (fun cdv A outer s H vs Q E hr h => ?_)
  · obtain ⟨t, b, rfl, _⟩ := h
    rfl
  obtain ⟨t, b, rfl, hb, hB, q⟩ := h
  refine ⟨_, (pss_cons (ps_if (pt_cmpR op_eq (pv 1) pe_int (nomark _)) (pss_one ps_never) pss_nil)
  (pss_cons (ps_set (i := 2) sc_fraction.nd rfl (Or.inl rfl) (pe_callBfun cr_gcd rfl T.g_gcd (pa_cons (pv 0) (pa_cons (pv 1) pa_nil))))
  (pss_cons (ps_if (pt_cmpR op_lt (pv 1) pe_int (nomark _)) (pss_one (ps_set (i := 2) sc_fraction.nd rfl (Or.inl rfl) (pe_un un_neg (pv 2)))) pss_nil)
  (pss_one (ps_ret (pe_tup (pa_cons (pe_op op_fdivW (pv 0) (pv 2)) (pa_cons (pe_op op_fdivW (pv 1) (pv 2)) pa_nil)))))))), ?_⟩
  refine ⟨_, rfl, rfl, _, rfl, ifF (int_ne (by omega)) ?_⟩
  refine ⟨_, rfl, _, rfl, t, b, rfl, ?_⟩
  refine ⟨_, rfl, _, _, rfl, rfl, _, rfl, ifF (decide_eq_false (by omega)) ?_⟩
  have g := gI_pos' (t := t) hb
  have gB : B 9000 (gI t b) := B.le (Int.le_of_lt g) (by
    have : Nat.gcd t.natAbs b.natAbs ≤ b.natAbs := Nat.le_of_dvd (by omega) (Nat.gcd_dvd_right _ _)
    unfold gI
    omega) hB
  refine ⟨_, rfl, _, rfl, _, _, rfl, rfl, wdiv g gB (by decide) (by decide), _, rfl, _, rfl, _, _, rfl, rfl, wdiv g gB (by decide) (by decide), two_line, fun r hr' => q r _ (same_new hr' _) upd_same⟩
end
end P12
namespace P12
open PySem PySem.Spec PyProof.Rows L2 SX EX WK
theorem inV_ints (x : Int) (ns : List Int) : inV (.int x) (ns.map V.int) = decide (x ∈ ns) := by
  unfold inV
  rw [Bool.eq_iff_iff, List.any_eq_true, decide_eq_true_iff]
  constructor
  · rintro ⟨v, hv, e⟩
    obtain ⟨n, hn, rfl⟩ := List.mem_map.mp hv
    have e1 : (n == x) = true := e
    rw [← eq_of_beq e1]
    exact hn
  · intro h
    exact ⟨.int x, List.mem_map.mpr ⟨x, h, rfl⟩, by show (x == x) = true; exact beq_self_eq_true x⟩
theorem flat_ints (ns : List Int) : (ns.map V.int).all flatV = true := by
  rw [List.all_eq_true]
  intro v hv
  obtain ⟨n, _, rfl⟩ := List.mem_map.mp hv
  rfl
/-- the matrix at v -/
theorem fz_mat {K : PySem.W.Frag} {H : Hp} {v : V} {m : List (List Int)} (h : Fz K H v (tdm m)) : ∃ (a : Addr) (vs : List V), v = .ref a ∧ SqT K H a vs ∧ vs.length = m.length ∧ ∀ (i : Nat) (r : List Int), m[i]? = some r → ∃ p : Addr, vs[i]? = some (.ref p) ∧ SqT K H p (r.map V.int) := by
  cases h with
  | @tup a vs ts ha hall =>
    have hl : vs.length = m.length := by rw [hall.len, List.length_map]
    refine ⟨a, vs, rfl, ha, hl, fun i r hr => ?_⟩
    have hi : i < vs.length := by
      have := (List.getElem?_eq_some_iff.mp hr).1
      omega
    obtain ⟨t, ht, hz⟩ := hall.get (List.getElem?_eq_getElem hi)
    rw [List.getElem?_map, hr] at ht
    cases ht
    generalize hv : vs[i] = u at hz
    cases hz with
    | @tup p us ts hp hq =>
      refine ⟨p, by rw [List.getElem?_eq_getElem hi, hv], ?_⟩
      rw [← hq.ints]
      exact hp
/-- the pairs at v -/
theorem fz_prs {K : PySem.W.Frag} {H : Hp} {v : V} {ps : List RW} (h : Fz K H v (.tup (ps.map tdr))) : ∃ (a : Addr) (vs : List V), v = .ref a ∧ SqT K H a vs ∧ vs.length = ps.length ∧ ∀ (i : Nat) (p : RW), ps[i]? = some p → ∃ q r : Addr, vs[i]? = some (.ref q) ∧ SqT K H q [.ref r, .int p.2] ∧ SqT K H r (p.1.map V.int) := by
  cases h with
  | @tup a vs ts ha hall =>
    have hl : vs.length = ps.length := by rw [hall.len, List.length_map]
    refine ⟨a, vs, rfl, ha, hl, fun i p hp => ?_⟩
    have hi : i < vs.length := by
      have := (List.getElem?_eq_some_iff.mp hp).1
      omega
    obtain ⟨t, ht, hz⟩ := hall.get (List.getElem?_eq_getElem hi)
    rw [List.getElem?_map, hp] at ht
    cases ht
    generalize hv : vs[i] = u at hz
    cases hz with
    | @tup q us ts hq hal =>
      cases hal with
      | cons h1 h2 =>
        cases h2 with
        | cons h3 h4 =>
          cases h4
          cases h3
          cases h1 with
          | @tup r rs ts hr hrs =>
            refine ⟨q, r, by rw [List.getElem?_eq_getElem hi, hv], hq, ?_⟩
            rw [← hrs.ints]
            exact hr
/-- three ints at v -/
theorem fz_tie {K : PySem.W.Frag} {H : Hp} {v : V} {t : T3} (h : Fz K H v (td3 t)) : ∃ a, v = .ref a ∧ SqT K H a [.int t.1, .int t.2.1, .int t.2.2] := by
  cases h with
  | @tup a vs ts ha hall =>
    cases hall with
    | cons h1 h2 =>
      cases h2 with
      | cons h3 h4 =>
        cases h4 with
        | cons h5 h6 =>
          cases h6
          cases h1
          cases h3
          cases h5
          exact ⟨a, rfl, ha⟩
theorem fz_ints {K : PySem.W.Frag} {H : Hp} {v : V} {ns : List Int} (h : Fz K H v (.tup (ns.map Td.int))) : ∃ a, v = .ref a ∧ SqT K H a (ns.map V.int) := by
  cases h with
  | @tup a vs ts ha hall =>
    rw [← hall.ints]
    exact ⟨a, rfl, ha⟩
def Sqr (m : List (List Int)) : Prop := ∀ r ∈ m, r.length = m.length
def ent (m : List (List Int)) (i j : Nat) : Int := (m.getD i []).getD j 0
def Sym (m : List (List Int)) : Prop := ∀ i j, ent m i j = ent m j i
section
variable {P : Program} {w : World} {K : PySem.W.Frag} {mg : Str → Option Value} {base : Heap} {f : Addr} {fd : FuncData}
def spSquare (K : PySem.W.Frag) : Sp := fun vs H Q _ => ∃ (v : V) (m : List (List Int)), vs = [v] ∧ Fz K H v (tdm m) ∧ Sqr m ∧ ∀ H', Same H H' → Q .non H'
abbrev s_check_square : Stmt := top 22
abbrev N_check_square : List Str := ["lines", "row", "line"]
theorem sc_check_square : FnScope N_check_square ["lines"] (defScope s_check_square) := ⟨rfl, rfl, rfl, by decide +kernel, rfl, by decide +kernel, by decide +kernel⟩
theorem ok_check_square (F : Fun K "check_square" "check_square" s_check_square f fd) (T : Txt mg) : FnOk P w K mg base CX0 1 f fd ["lines"] (spSquare K) := by
  refine F.ok sc_check_square (fun vs H Q E h => ?_) (fun cdv A outer s H vs Q E hr h => ?_)
  · obtain ⟨v, m, rfl, _⟩ := h
    rfl
  obtain ⟨v, m, rfl, hz, hs, q⟩ := h
  obtain ⟨a, vs, rfl, ha, hl, hrow⟩ := fz_mat hz
  refine ⟨_, (pss_one (ps_for PassesOwn.never rfl (WE.pi_enT (by rfl) T.b_enumerate (pa_cons (pv 0) pa_nil)) (pg_tup rfl (pgs_cons (pg_name (i := 1) sc_check_square.nd rfl (Or.inl rfl)) (pgs_cons (pg_name (i := 2) sc_check_square.nd rfl (Or.inl rfl)) pgs_nil))) (pss_one (ps_if (pt_cmpR op_ne (pe_callB call_len_seq (by rfl) T.b_len PySem.boot_len (pa_cons (pv 2) pa_nil)) (pe_callB call_len_seq (by rfl) T.b_len PySem.boot_len (pa_cons (pv 0) pa_nil)) (nomark _)) (pss_one ps_never) pss_nil)))), ?_⟩
  refine ⟨_, rfl, a, vs, rfl, ha, for_it (WE.walk_enT (K := K) (a := a) (xs := vs)) (fun i σ H' => ∃ v1 v2 : Option V, σ = [some (.ref a), v1, v2] ∧ Same H H') ⟨none, none, rfl, fun _ _ h => h⟩ (fun i σ H' _ ⟨_, _, _, s⟩ => Same_seqT s ha) ?_ ?_⟩
  · rintro i x σ H1 H2 hi ⟨v1, v2, rfl, s1⟩ y
    have s2 := ys_pair y
    obtain ⟨Tp, x1, x2, rfl, hT, rfl, e1, e2⟩ := y
    cases e1
    obtain ⟨r, hr1⟩ : ∃ r, m[i]? = some r := ⟨_, List.getElem?_eq_getElem (by omega)⟩
    obtain ⟨p, hp, hpr⟩ := hrow i r hr1
    rw [show vs[i]? = some x2 from e2] at hp
    cases hp
    have s3 := s1.trans s2
    refine ⟨_, _, rfl, SqT.of upd_same, rfl, _, _, rfl, _, _, rfl, rfl, ?_⟩
    refine ⟨_, rfl, _, _, rfl, .inr (Same_seqT s3 hpr), _, rfl, _, _, rfl, .inr (Same_seqT s3 ha), rfl, _, rfl, ifF ?_ ⟨_, _, rfl, s3⟩⟩
    have e : (((r.map V.int).length : Nat) : Int) = ((vs.length : Nat) : Int) := by rw [List.length_map, hl, hs r (List.mem_of_getElem? hr1)]
    rw [e]
    simp
  · rintro σ H' ⟨_, _, rfl, s1⟩
    exact q H' s1
def spSymm (K : PySem.W.Frag) : Sp := fun vs H Q _ => ∃ (v : V) (m : List (List Int)), vs = [v] ∧ Fz K H v (tdm m) ∧ Sqr m ∧ Sym m ∧ m.length ≤ 1000 ∧ Q .non H
theorem ent_at {m : List (List Int)} {i j : Nat} {r : List Int} (h : m[i]? = some r) (hj : j < r.length) : r[j]? = some (ent m i j) := by
  unfold ent
  rw [show m.getD i [] = r from by rw [List.getD_eq_getElem?_getD, h]; rfl, List.getD_eq_getElem?_getD, List.getElem?_eq_getElem hj]
  rfl
theorem at_int {ns : List Int} {j : Nat} {x : Int} (h : ns[j]? = some x) : (ns.map V.int)[j]? = some (.int x) := by
  rw [List.getElem?_map, h]
  rfl
abbrev s_check_symmetric : Stmt := top 23
abbrev N_check_symmetric : List Str := ["lines", "row", "column"]
theorem sc_check_symmetric : FnScope N_check_symmetric ["lines"] (defScope s_check_symmetric) := ⟨rfl, rfl, rfl, by decide +kernel, rfl, by decide +kernel, by decide +kernel⟩
theorem ok_check_symmetric (F : Fun K "check_symmetric" "check_symmetric" s_check_symmetric f fd) (T : Txt mg) : FnOk P w K mg base CX0 1 f fd ["lines"] (spSymm K) := by
  refine F.ok sc_check_symmetric (fun vs H Q E h => ?_) (fun cdv A outer s H vs Q E hr h => ?_)
  · obtain ⟨v, m, rfl, _⟩ := h
    rfl
  obtain ⟨v, m, rfl, hz, hs, hsy, h1000, q⟩ := h
  obtain ⟨a, vs, rfl, ha, hl, hrow⟩ := fz_mat hz
  refine ⟨_, (pss_one (ps_for PassesOwn.never rfl (pi_range1 (by rfl) T.b_range (pa_cons (pe_callB call_len_seq (by rfl) T.b_len PySem.boot_len (pa_cons (pv 0) pa_nil)) pa_nil)) (pg_name (i := 1) sc_check_symmetric.nd rfl (Or.inl rfl)) (pss_one (ps_for PassesOwn.never rfl (pi_range2 (by rfl) T.b_range (pa_cons (pe_op op_add (pv 1) pe_int) (pa_cons (pe_callB call_len_seq (by rfl) T.b_len PySem.boot_len (pa_cons (pv 0) pa_nil)) pa_nil))) (pg_name (i := 2) sc_check_symmetric.nd rfl (Or.inl rfl)) (pss_one (ps_if (pt_cmpR op_ne (pe_ix ix_tup (pe_ix ix_tup (pv 0) (pv 1) (fun _ _ => rfl)) (pv 2) (fun _ _ => rfl)) (pe_ix ix_tup (pe_ix ix_tup (pv 0) (pv 2) (fun _ _ => rfl)) (pv 1) (fun _ _ => rfl)) (nomark _)) (pss_one ps_never) pss_nil)))))), ?_⟩
  have row : ∀ i, i < m.length → ∃ (p : Addr) (r : List Int), vs[i]? = some (.ref p) ∧ SqT K H p (r.map V.int) ∧ ∀ j, j < m.length → r[j]? = some (ent m i j) := fun i hi => by
    have e := List.getElem?_eq_getElem hi
    obtain ⟨p, h1, h2⟩ := hrow i _ e
    exact ⟨p, _, h1, h2, fun j hj => ent_at e (by rw [hs _ (List.mem_of_getElem? e)]; exact hj)⟩
  refine ⟨_, rfl, _, _, rfl, .inr ha, (m.length : Int), by rw [hl], by omega, by omega, for_range (lo := 0) (n := m.length) (fun i σ H' => ∃ v1 v2 : Option V, σ = [some (.ref a), v1, v2] ∧ H' = H) ⟨none, none, rfl, rfl⟩ ?_ ?_⟩
  · rintro i σ H' hi ⟨v1, v2, rfl, rfl⟩
    obtain ⟨p, r, hp, hpr, hent⟩ := row i hi
    refine ⟨_, rfl, _, _, rfl, rfl, _, rfl, _, _, rfl, .inr ha, 0 + (i : Int) + 1, (m.length : Int), by rw [hl], ⟨by omega, by omega, by omega, by omega⟩, ?_⟩
    refine for_range (lo := 0 + (i : Int) + 1) (n := ((m.length : Int) - (0 + (i : Int) + 1)).toNat) (fun j σ H1 => ∃ v2 : Option V, σ = [some (.ref a), some (.int (0 + (i : Int))), v2] ∧ H1 = H') ⟨v2, rfl, rfl⟩ ?_ ?_
    · rintro j σ H1 hj ⟨v2, rfl, rfl⟩
      have hk : i + 1 + j < m.length := by omega
      obtain ⟨p2, r2, hp2, hpr2, hent2⟩ := row (i + 1 + j) hk
      have ei : (0 + (i : Int)).toNat = i := by omega
      have ej : (0 + (i : Int) + 1 + (j : Int)).toNat = i + 1 + j := by omega
      refine ⟨_, rfl, _, rfl, a, _, _, _, rfl, rfl, ha, at_pos (by omega) (by rw [ei]; exact hp), _, rfl, p, _, _, _, rfl, rfl, hpr, at_pos (by omega) (by rw [ej]; exact at_int (hent _ hk)), ?_⟩
      refine ⟨_, rfl, _, rfl, a, _, _, _, rfl, rfl, ha, at_pos (by omega) (by rw [ej]; exact hp2), _, rfl, p2, _, _, _, rfl, rfl, hpr2, at_pos (by omega) (by rw [ei]; exact at_int (hent2 _ hi)), ?_⟩
      refine ⟨rfl, _, rfl, ifF ?_ ⟨_, rfl, rfl⟩⟩
      rw [hsy i (i + 1 + j)]
      simp
    · rintro σ H1 ⟨v2, rfl, rfl⟩
      exact ⟨_, _, rfl, rfl⟩
  · rintro σ H' ⟨_, _, rfl, rfl⟩
    exact q
def spPairs (K : PySem.W.Frag) : Sp := fun vs H Q _ => ∃ (n : Nat) (v : V) (ps : List RW), vs = [.int n, v] ∧ Fz K H v (.tup (ps.map tdr)) ∧ (∀ p ∈ ps, p.1.length = n ∧ 1 ≤ p.2) ∧ ∀ H', Same H H' → Q .non H'
abbrev s_check_pairs : Stmt := top 34
abbrev N_check_pairs : List Str := ["size", "pairs", "index", "row", "weight"]
theorem sc_check_pairs : FnScope N_check_pairs ["size", "pairs"] (defScope s_check_pairs) := ⟨rfl, rfl, rfl, by decide +kernel, rfl, by decide +kernel, by decide +kernel⟩
theorem ok_check_pairs (F : Fun K "check_pairs" "check_pairs" s_check_pairs f fd) (T : Txt mg) : FnOk P w K mg base CX0 1 f fd ["size", "pairs"] (spPairs K) := by
  refine F.ok sc_check_pairs (fun vs H Q E h => ?_) (fun cdv A outer s H vs Q E hr h => ?_)
  · obtain ⟨n, v, ps, rfl, _⟩ := h
    rfl
  obtain ⟨n, v, ps, rfl, hz, hs, q⟩ := h
  obtain ⟨a, vs, rfl, ha, hl, hrow⟩ := fz_prs hz
  refine ⟨_, (pss_one (ps_for PassesOwn.never rfl (WE.pi_enT (by rfl) T.b_enumerate (pa_cons (pv 1) pa_nil)) (pg_tup rfl (pgs_cons (pg_name (i := 2) sc_check_pairs.nd rfl (Or.inl rfl)) (pgs_cons (pg_tup rfl (pgs_cons (pg_name (i := 3) sc_check_pairs.nd rfl (Or.inl rfl)) (pgs_cons (pg_name (i := 4) sc_check_pairs.nd rfl (Or.inl rfl)) pgs_nil))) pgs_nil))) (pss_cons (ps_if (pt_cmpR op_ne (pe_callB call_len_seq (by rfl) T.b_len PySem.boot_len (pa_cons (pv 3) pa_nil)) (pv 0) (nomark _)) (pss_one ps_never) pss_nil)
  (pss_one (ps_if (pt_cmpR op_lt (pv 4) pe_int (nomark _)) (pss_one ps_never) pss_nil))))), ?_⟩
  refine ⟨_, rfl, a, vs, rfl, ha, for_it (WE.walk_enT (K := K) (a := a) (xs := vs)) (fun i σ H' => ∃ v1 v2 v3 : Option V, σ = [some (.int n), some (.ref a), v1, v2, v3] ∧ Same H H') ⟨none, none, none, rfl, fun _ _ h => h⟩ (fun i σ H' _ ⟨_, _, _, _, s⟩ => Same_seqT s ha) ?_ ?_⟩
  · rintro i x σ H1 H2 hi ⟨v1, v2, v3, rfl, s1⟩ y
    have s2 := ys_pair y
    obtain ⟨Tp, x1, x2, rfl, hT, rfl, e1, e2⟩ := y
    cases e1
    obtain ⟨p, hp⟩ : ∃ p, ps[i]? = some p := ⟨_, List.getElem?_eq_getElem (by omega)⟩
    obtain ⟨q1, r1, hq1, hq2, hq3⟩ := hrow i p hp
    rw [show vs[i]? = some x2 from e2] at hq1
    cases hq1
    have s3 := s1.trans s2
    obtain ⟨h1, h2⟩ := hs p (List.mem_of_getElem? hp)
    refine ⟨_, _, rfl, SqT.of upd_same, rfl, _, _, rfl, _, _, rfl, ⟨_, _, rfl, Same_seqT s3 hq2, rfl, _, _, rfl, _, _, rfl, rfl, rfl, ?_⟩⟩
    refine ⟨_, rfl, _, _, rfl, .inr (Same_seqT s3 hq3), _, rfl, rfl, _, rfl, ifF ?_ ?_⟩
    · rw [List.length_map, h1]
      simp
    · exact ⟨_, rfl, _, _, rfl, rfl, _, rfl, ifF (decide_eq_false (by omega)) ⟨_, _, _, rfl, s3⟩⟩
  · rintro σ H' ⟨_, _, _, rfl, s1⟩
    exact q H' s1
end
end P12
namespace P12
open PySem PySem.Spec PyProof.Rows L2 SX EX WK
theorem getD_at {ns : List Int} {j : Nat} (h : j < ns.length) : (ns.map V.int)[j]? = some (.int (ns.getD j 0)) := by
  rw [List.getElem?_map, List.getD_eq_getElem?_getD, List.getElem?_eq_getElem h]
  rfl
/-- rows of n small numbers, weights from 1 on -/
def Prs (n : Nat) (ps : List RW) : Prop := ps.length ≤ 1000 ∧ ∀ p ∈ ps, p.1.length = n ∧ 1 ≤ p.2 ∧ B 400 p.2 ∧ ∀ x ∈ p.1, B 100 x
theorem Prs.get {n : Nat} {ps : List RW} (h : Prs n ps) {p : RW} (m : p ∈ ps) {j : Nat} (hj : j < n) : B 100 (p.1.getD j 0) := by
  obtain ⟨h1, _, _, h4⟩ := h.2 p m
  have hl : j < p.1.length := by omega
  rw [List.getD_eq_getElem?_getD, List.getElem?_eq_getElem hl]
  exact h4 _ (List.getElem_mem hl)
section
variable {P : Program} {w : World} {K : PySem.W.Frag} {mg : Str → Option Value} {base : Heap} {f : Addr} {fd : FuncData}
def spWsum (K : PySem.W.Frag) : Sp := fun vs H Q _ => ∃ (v : V) (n i j : Nat) (ps : List RW), vs = [v, .int i, .int j] ∧ Fz K H v (.tup (ps.map tdr)) ∧ Prs n ps ∧ i < n ∧ j < n ∧ ∀ H', Same H H' → Q (.int (wsum ps i j)) H'
abbrev s_weighted_sum : Stmt := top 35
abbrev N_weighted_sum : List Str := ["pairs", "one", "two", "row", "weight"]
theorem sc_weighted_sum : FnScope N_weighted_sum ["pairs", "one", "two"] (defScope s_weighted_sum) := ⟨rfl, rfl, rfl, by decide +kernel, rfl, by decide +kernel, by decide +kernel⟩
theorem ok_weighted_sum (F : Fun K "weighted_sum" "weighted_sum" s_weighted_sum f fd) (T : Txt mg) : FnOk P w K mg base CX0 1 f fd ["pairs", "one", "two"] (spWsum K) := by
  refine F.ok sc_weighted_sum (fun vs H Q E h => ?_) (fun cdv A outer s H vs Q E hr h => ?_)
  · obtain ⟨v, n, i, j, ps, rfl, _⟩ := h
    rfl
  obtain ⟨v, n, i, j, ps, rfl, hz, hp, hi, hj, q⟩ := h
  obtain ⟨a, vs, rfl, ha, hl, hrow⟩ := fz_prs hz
  refine ⟨_, (pss_one (ps_ret (pe_callB (cr_sum rfl) (by rfl) T.b_sum (by decide +kernel) (pa_cons (pe_lc (own := [("row", 3), ("weight", 4)]) (tt := tYes) (by rfl) sc_weighted_sum.nd (pi_tup (pv 0)) (blkOk_by (N := N_weighted_sum) (sc := defScope s_weighted_sum) (by decide +kernel)) (fun _ _ _ _ _ => (pg_tupK (K := K) (n := 2) rfl rfl (pgs_cons (pg_name (i := 3) sc_weighted_sum.nd rfl (Or.inl rfl)) (pgs_cons (pg_name (i := 4) sc_weighted_sum.nd rfl (Or.inl rfl)) pgs_nil)))) (fun _ _ _ _ _ => pts_nil) (fun _ _ _ _ _ => (pe_op op_mulW (pe_op op_mulW (pv 4) (pe_ix (ix_tupK (K := K) rfl) (pv 3) (pv 1) (fun _ _ => rfl))) (pe_ix (ix_tupK (K := K) rfl) (pv 3) (pv 2) (fun _ _ => rfl))))) pa_nil)))), ?_⟩
  refine ⟨_, rfl, a, rfl, ⟨_, ha⟩, fun D hD => ?_⟩
  refine lc_m (walk_tup (K := K) (a := a) (xs := vs)) RI (stb_RI (K := K)) ps hl (by have := hp.1; omega) hD (fun H' s => Same_seqT s ha) (fun _ _ _ _ => ys_at) (fun p => p.2 * p.1.getD i 0 * p.1.getD j 0) (fun k p x H1 H2 hb s1 s2 y A B hA => ?_) (fun H' l s1 hl1 rs => ?_)
  · obtain ⟨q1, r1, hq1, hq2, hq3⟩ := hrow k p hb
    rw [y.2] at hq1
    cases hq1
    have m := List.mem_of_getElem? hb
    obtain ⟨h1, h2, h3, h4⟩ := hp.2 p m
    refine ⟨_, _, rfl, Same_seqT s2 hq2, rfl, _, _, rfl, _, _, rfl, rfl, rfl, lc_yes ?_⟩
    refine ⟨_, rfl, _, rfl, _, rfl, r1, _, _, _, rfl, rfl, Same_seqT s2 hq3, at_pos (by omega) (by rw [Int.toNat_natCast]; exact getD_at (by omega)), _, _, rfl, rfl, wmul h3 (hp.get m hi) (by decide) (by decide) (by decide), ?_⟩
    refine ⟨_, rfl, _, rfl, r1, _, _, _, rfl, rfl, Same_seqT s2 hq3, at_pos (by omega) (by rw [Int.toNat_natCast]; exact getD_at (by omega)), _, _, rfl, rfl, wmul (h3.mul (hp.get m hi)) (hp.get m hj) (by decide) (by decide) (by decide), hA _ _ (fun _ _ h => h) rfl⟩
  · exact ⟨D, _, rfl, SqL.of (by rw [hl1, rs.ints]), q H' s1⟩
def spWmat (K : PySem.W.Frag) : Sp := fun vs H Q _ => ∃ (v : V) (n : Nat) (ps : List RW), vs = [.int n, v] ∧ Fz K H v (.tup (ps.map tdr)) ∧ Prs n ps ∧ n ≤ 1000 ∧ ∀ r H', Same H H' → Sn K H' (.ref r) (tdm (wmat n ps)) → Q (.ref r) H'
theorem rl_sn {K : PySem.W.Frag} {H : Hp} {D : Addr} : ∀ {l : List V} {m : List (List Int)}, Rs (RL D) H l m → SnAll K H l (m.map fun r => .tup (r.map Td.int))
  | [], [], _ => .nil
  | [], _ :: _, h => by have := h.1; simp at this
  | _ :: _, [], h => by have := h.1; simp at this
  | v :: vs, r :: m, h => by
    obtain ⟨p, e, _, hp⟩ := h.2 0 v r rfl rfl
    refine .cons ?_ (rl_sn ⟨by have := h.1; simp at this; exact this, fun i u z hu hz => h.2 (i + 1) u z hu hz⟩)
    rw [e]
    exact .lst hp (FzAll.of_ints r).sn
abbrev s_weighted_matrix : Stmt := top 36
abbrev N_weighted_matrix : List Str := ["size", "pairs", "line", "column"]
theorem sc_weighted_matrix : FnScope N_weighted_matrix ["size", "pairs"] (defScope s_weighted_matrix) := ⟨rfl, rfl, rfl, by decide +kernel, rfl, by decide +kernel, by decide +kernel⟩
theorem ok_weighted_matrix (F : Fun K "weighted_matrix" "weighted_matrix" s_weighted_matrix f fd) (T : Txt mg) (C_weighted_sum : Cal P w K mg base 1 "weighted_sum" ["pairs", "one", "two"] (spWsum K)) : FnOk P w K mg base CX0 2 f fd ["size", "pairs"] (spWmat K) := by
  refine F.ok sc_weighted_matrix (fun vs H Q E h => ?_) (fun cdv A outer s H vs Q E hr h => ?_)
  · obtain ⟨v, n, ps, rfl, _⟩ := h
    rfl
  obtain ⟨v, n, ps, rfl, hz, hp, hn, q⟩ := h
  refine ⟨_, (pss_one (ps_ret (pe_lc (own := [("line", 2)]) (g := gName 2) (tt := tYes) (by rfl) sc_weighted_matrix.nd (pi_range1 (by rfl) T.b_range (pa_cons (pv 0) pa_nil)) (blkOk_by (N := N_weighted_matrix) (sc := defScope s_weighted_matrix) (by decide +kernel)) (fun _ _ _ _ _ => (pg_name (i := 2) sc_weighted_matrix.nd rfl (Or.inr rfl))) (fun _ _ _ _ _ => pts_nil) (fun _ _ _ _ _ => (pe_lc (own := [("column", 3)]) (g := gName 3) (tt := tYes) (by rfl) sc_weighted_matrix.nd (pi_range1 (by rfl) T.b_range (pa_cons (pv 0) pa_nil)) (blk_nest (N := N_weighted_matrix) (sc0 := defScope s_weighted_matrix) rfl (by decide +kernel)) (fun _ _ _ _ _ => (pg_name (i := 3) sc_weighted_matrix.nd rfl (Or.inl rfl))) (fun _ _ _ _ _ => pts_nil) (fun _ _ _ _ _ => (pe_cal C_weighted_sum (hr.mono (by omega)) rfl (pa_cons (pv 1) (pa_cons (pv 2) (pa_cons (pv 3) pa_nil)))))))))), ?_⟩
  refine ⟨_, rfl, n, rfl, by omega, by omega, fun D hD => ?_⟩
  refine lc_gm (walk_range (lo := 0) (n := n)) (RL D) stb_RL (List.range n) (by rw [List.length_range]) (by rw [List.length_range]; omega) hD (fun _ _ => trivial) (fun _ _ _ _ => ys_fn) (fun i => (List.range n).map fun j => wsum ps i j) (fun k i x H1 H2 hb s1 s2 y hdl A B hA => ?_) (fun H' l s1 hl1 rs => ?_)
  · have ek : k < n ∧ i = k := by
      have h1 := (List.getElem?_eq_some_iff.mp hb).1
      rw [List.length_range] at h1
      rw [List.getElem?_range h1] at hb
      exact ⟨h1, (Option.some.inj hb).symm⟩
    obtain ⟨hk, rfl⟩ := ek
    rw [y.2]
    refine ⟨rfl, lc_yes ⟨_, rfl, n, rfl, by omega, by omega, fun D2 hD2 => ?_⟩⟩
    refine lc_m (walk_range (lo := 0) (n := n)) RI (stb_RI (K := K)) (List.range n) (by rw [List.length_range]) (by rw [List.length_range]; omega) hD2 (fun _ _ => trivial) (fun _ _ _ _ => ys_fn) (fun j => wsum ps i j) (fun k2 j x2 H3 H4 hb2 s3 s4 y2 A2 B2 hA2 => ?_) (fun H' l s3 hl1 rs => ?_)
    · have ek : k2 < n ∧ j = k2 := by
        have h1 := (List.getElem?_eq_some_iff.mp hb2).1
        rw [List.length_range] at h1
        rw [List.getElem?_range h1] at hb2
        exact ⟨h1, (Option.some.inj hb2).symm⟩
      obtain ⟨hk2, rfl⟩ := ek
      rw [y2.2]
      refine ⟨rfl, lc_yes ⟨_, rfl, _, rfl, _, rfl, v, n, i, j, ps, ?_, hz.tk (WK.Same.tk (s2.trans s4)), hp, hk, hk2, fun H' s => hA2 _ _ s rfl⟩⟩
      show [v, V.int (0 + (i : Int)), V.int (0 + (j : Int))] = _
      rw [Int.zero_add, Int.zero_add]
    · refine hA _ _ s3 ⟨D2, rfl, fun z => ?_, by rw [hl1, rs.ints]⟩
      obtain ⟨l0, h0⟩ := hdl
      rw [← z, hD2] at h0
      cases h0
  · refine q D H' s1 (.lst hl1 ?_)
    have e : (wmat n ps) = (List.range n).map fun i => (List.range n).map fun j => wsum ps i j := rfl
    rw [e]
    exact rl_sn rs
end
end P12
namespace P12
open PySem PySem.Spec PyProof.Rows L2 SX EX WK
theorem putF_ne {f g : Str} {x v : V} {r : List (Str × V)} (h : ¬ g = f) : putF f v ((g, x) :: r) = (g, x) :: putF f v r := if_neg h
theorem flF (n e b : V) : putF "bottom" b (putF "entries" e (putF "size" n [])) = ([("size", n), ("entries", e), ("bottom", b)] : List (Str × V)) := by
  show putF "bottom" b (putF "entries" e [("size", n)]) = _
  rw [putF_ne (by decide +kernel)]
  show putF "bottom" b [("size", n), ("entries", e)] = _
  rw [putF_ne (by decide +kernel), putF_ne (by decide +kernel)]
  rfl
theorem dep_tdm {m : List (List Int)} : (tdm m).dep ≤ 2 := by
  simp only [tdm, Td.dep]
  have : Td.deps (m.map fun r => .tup (r.map Td.int)) ≤ 1 := deps_all fun t h => by
    obtain ⟨r, _, rfl⟩ := List.mem_map.mp h
    simp only [Td.dep]
    have : Td.deps (r.map Td.int) ≤ 0 := deps_all fun t h => by
      obtain ⟨n, _, rfl⟩ := List.mem_map.mp h
      exact Nat.le_refl _
    omega
  omega
theorem sm_ints {ns : List Int} (h : ns.length ≤ 100000) : (Td.tup (ns.map Td.int)).sm := by
  simp only [Td.sm]
  refine ⟨by rw [List.length_map]; exact h, sms_all fun t h => ?_⟩
  obtain ⟨n, _, rfl⟩ := List.mem_map.mp h
  simp only [Td.sm]
theorem sm_tdm {m : List (List Int)} (h : m.length ≤ 100000) (hr : ∀ r ∈ m, r.length ≤ 100000) : (tdm m).sm := by
  simp only [tdm, Td.sm]
  refine ⟨by rw [List.length_map]; exact h, sms_all fun t h => ?_⟩
  obtain ⟨r, hm, rfl⟩ := List.mem_map.mp h
  exact sm_ints (hr r hm)
theorem flat_len {n : Nat} : ∀ {m : List (List Int)}, (∀ r ∈ m, r.length = n) → m.flatten.length = m.length * n
  | [], _ => by simp
  | r :: m, h => by
    rw [List.flatten_cons, List.length_append, flat_len fun x hx => h x (List.mem_cons_of_mem _ hx), h r List.mem_cons_self, List.length_cons, Nat.succ_mul]
    omega
theorem flat_row {n : Nat} : ∀ {m : List (List Int)} {i : Nat} {r : List Int}, (∀ r ∈ m, r.length = n) → m[i]? = some r → (m.flatten.drop (i * n)).take n = r
  | [], i, r, _, h => by simp at h
  | x :: m, 0, r, hl, h => by
    cases h
    rw [Nat.zero_mul, List.drop_zero, List.flatten_cons, List.take_left' (hl x List.mem_cons_self)]
  | x :: m, i + 1, r, hl, h => by
    have hx := hl x List.mem_cons_self
    rw [List.flatten_cons, Nat.succ_mul, Nat.add_comm, List.drop_append, List.drop_of_length_le (by omega), List.nil_append]
    have e : n + i * n - x.length = i * n := by omega
    rw [e]
    exact flat_row (fun y hy => hl y (List.mem_cons_of_mem _ hy)) (by simpa using h)
theorem flat_take {m : List (List Int)} {i : Nat} {r : List Int} (h : m[i]? = some r) : (m.take (i + 1)).flatten = (m.take i).flatten ++ r := by
  rw [take_one h, List.flatten_append]
  simp
/-- a form -/
def FormAt (K : PySem.W.Frag) (H : Hp) (C p : Addr) (n : Nat) (m : List (List Int)) (b : Int) : Prop := ∃ dx e, H p = some (.ins C dx [("size", .int n), ("entries", .ref e), ("bottom", .int b)]) ∧ Fz K H (.ref e) (tdm m)
/-- all but the thing at a stays -/
def But (a : Addr) (H H' : Hp) : Prop := ∀ c o, H c = some o → c ≠ a → H' c = some o
theorem But.of {a : Addr} {H H' : Hp} (s : Same H H') : But a H H' := fun c o e _ => s c o e
theorem But.put {a : Addr} {H H' : Hp} (s : But a H H') (o : HO) : But a H (upd H' a o) := fun c u e h => by rw [upd_ne h]; exact s c u e h
theorem But.then {a : Addr} {H H' H2 : Hp} (s : But a H H') (t : Same H' H2) : But a H H2 := fun c u e h => t c u (s c u e h)
def dm (m : List (List Int)) (g : Int) : List (List Int) := m.map fun r => r.map fun x => x / g
theorem sIx_of {n d : Nat} {z : Int} {k : Nat} (e : z = (k : Int)) (h : k ≤ n) : HT.sIx n d (some z) = k := by
  rw [e, HT.sIx_nat]
  omega
def spForm (K : PySem.W.Frag) (C : Addr) : Sp := fun vs H Q _ => ∃ (a dx : Addr) (v : V) (m : List (List Int)) (b : Int), vs = [.ref a, v, .int b] ∧ H a = some (.ins C dx []) ∧ Sn K H v (tdm m) ∧ Sqr m ∧ Sym m ∧ m.length ≤ 300 ∧ 0 < b ∧ B 9000 b ∧
  ∀ H', FormAt K H' C a m.length (dm m (gf b m.flatten)) (b / gf b m.flatten) → But a H H' → Q .non H'
section
variable {P : Program} {w : World} {K : PySem.W.Frag} {mg : Str → Option Value} {base : Heap} {f : Addr} {fd : FuncData} {cF cR : Addr}
abbrev s_iForm : Stmt := mth 27 0
abbrev N_iForm : List Str := ["self", "entries", "bottom", "lines", "size", "numbers", "least_bottom", "line", "number", "row"]
theorem sc_iForm : FnScope N_iForm ["self", "entries", "bottom"] (defScope s_iForm) := ⟨rfl, rfl, rfl, by decide +kernel, rfl, by decide +kernel, by decide +kernel⟩
theorem ok_iForm {kws : List (Str × V)} (F : FunD K "__init__" "Form.__init__" (defArgs s_iForm) (defBody s_iForm) (defScope s_iForm) [] kws f fd) (T : Txt mg) (O : Obs K cF cR) (C_frozen : Cal P w K mg base 3 "frozen" ["value"] (spFz K 3)) (C_check_square : Cal P w K mg base 1 "check_square" ["lines"] (spSquare K))
    (C_check_symmetric : Cal P w K mg base 1 "check_symmetric" ["lines"] (spSymm K)) (C_lowered : Cal P w K mg base 1 "lowered" ["numbers", "bottom"] spLow) : FnOk P w K mg base CX0 4 f fd ["self", "entries", "bottom"] (spForm K cF) := by
  refine F.ok sc_iForm (fun vs H Q E h => ?_) (fun cdv A outer s H vs Q E hr h => ?_)
  · obtain ⟨a, dx, v, m, b, rfl, _⟩ := h
    rfl
  obtain ⟨a, dx, v, m, b, rfl, hself, hv, hsq, hsy, hn, hb, hB, q⟩ := h
  refine ⟨_, (pss_cons (ps_set (i := 3) sc_iForm.nd rfl (Or.inl rfl) (pe_cal C_frozen (hr.mono (by omega)) rfl (pa_cons (pv 1) pa_nil)))
  (pss_cons (ps_expr (pe_cal C_check_square (hr.mono (by omega)) rfl (pa_cons (pv 3) pa_nil)))
  (pss_cons (ps_expr (pe_cal C_check_symmetric (hr.mono (by omega)) rfl (pa_cons (pv 3) pa_nil)))
  (pss_cons (ps_set (i := 4) sc_iForm.nd rfl (Or.inr rfl) (pe_callB call_len_seq (by rfl) T.b_len PySem.boot_len (pa_cons (pv 3) pa_nil)))
  (pss_cons (ps_asg (pe_cal C_lowered (hr.mono (by omega)) rfl (pa_cons (pe_lc2 (own := [("line", 7), ("number", 8)]) (vs1 := [8]) (g := gName 7) (tt := tYes) (g1 := gName 8) (tt1 := tYes) (by rfl) sc_iForm.nd (pi_tup (pv 3)) (blkOk_by (N := N_iForm) (sc := defScope s_iForm) (by decide +kernel)) (by decide) (fun _ _ _ _ _ => (pg_name (i := 7) sc_iForm.nd rfl (Or.inl rfl))) (fun _ _ _ _ _ => pts_nil) (fun _ _ _ _ _ => (pi_tupK (K := K) rfl (pv 7))) (fun _ _ _ _ _ => (pg_name (i := 8) sc_iForm.nd rfl (Or.inl rfl))) (fun _ _ _ _ _ => pts_nil) (fun _ _ _ _ _ => (pv 8))) (pa_cons (pv 2) pa_nil))) (pg_tup rfl (pgs_cons (pg_name (i := 5) sc_iForm.nd rfl (Or.inr rfl)) (pgs_cons (pg_name (i := 6) sc_iForm.nd rfl (Or.inl rfl)) pgs_nil))))
  (pss_cons (ps_fld (pv 0) (pv 4) rfl)
  (pss_cons (ps_fld (pv 0) (pe_callTy call_tuple_of (by rfl) T.b_tuple (by decide +kernel) (pa_cons (pe_lc (own := [("row", 9)]) (g := gName 9) (tt := tYes) (by rfl) sc_iForm.nd (pi_range1 (by rfl) T.b_range (pa_cons (pv 4) pa_nil)) (blkOk_by (N := N_iForm) (sc := defScope s_iForm) (by decide +kernel)) (fun _ _ _ _ _ => (pg_name (i := 9) sc_iForm.nd rfl (Or.inl rfl))) (fun _ _ _ _ _ => pts_nil) (fun _ _ _ _ _ => (pe_slice (sl_tupAK (K := K) rfl) (pv 5) (po_some (pe_op op_mulW (pv 9) (pv 4))) (po_some (pe_op op_add (pe_op op_mulW (pv 9) (pv 4)) (pv 4)))))) pa_nil)) rfl)
  (pss_one (ps_fld (pv 0) (pv 6) rfl))))))))), ?_⟩
  have hrl : ∀ r ∈ m, r.length ≤ 100000 := fun r hr => by rw [hsq r hr]; omega
  refine ⟨_, rfl, _, tdm m, rfl, hv, Nat.le_trans dep_tdm (by omega), sm_tdm (by omega) hrl, fun v1 H1 s1 hz1 => ?_⟩
  refine ⟨_, rfl, _, m, rfl, hz1, hsq, fun H2 s2 => ?_⟩
  have hz2 := hz1.tk (WK.Same.tk s2)
  refine ⟨_, rfl, _, m, rfl, hz2, hsq, hsy, by omega, ?_⟩
  obtain ⟨e, vs, rfl, he, hl, hrow⟩ := fz_mat hz2
  refine ⟨_, rfl, _, _, rfl, .inr he, ?_⟩
  have hfl := flat_len hsq
  have hfn : m.flatten.length ≤ 100000 := by
    rw [hfl]
    exact Nat.le_trans (Nat.mul_le_mul hn hn) (by decide)
  refine ⟨_, rfl, e, rfl, ⟨_, he⟩, fun D hD => ?_⟩
  refine ⟨fun i k H3 => k = m.length - i ∧ i ≤ m.length ∧ Same H2 H3 ∧ H3 D = some (.lst (((m.take i).flatten).map V.int)), ⟨_, rfl, Nat.zero_le _, same_new hD _, by rw [upd_same, List.take_zero]; rfl⟩, ?_⟩
  rintro i k H3 ⟨rfl, hi, s3, h3⟩
  by_cases hlt : i < m.length
  · obtain ⟨r, hr1⟩ : ∃ r, m[i]? = some r := ⟨_, List.getElem?_eq_getElem hlt⟩
    obtain ⟨p, hp, hpr⟩ := hrow i r hr1
    have hrn := hsq r (List.mem_of_getElem? hr1)
    refine .inr ⟨⟨vs, _, Same_seqT s3 he, hp⟩, fun H4 => Same H2 H4 ∧ H4 D = some (.lst (((m.take (i + 1)).flatten).map V.int)), fun H4 h4 => ⟨_, by omega, rfl, hlt, h4.1, h4.2⟩, ?_⟩
    rintro x H4 ⟨rfl, hx⟩
    have hx2 := hx vs (Same_seqT s3 he)
    rw [hp] at hx2
    cases hx2
    refine ⟨rfl, lc_yes ⟨_, rfl, p, rfl, ⟨_, Same_seqT s3 hpr⟩, ?_⟩⟩
    refine ⟨fun j k H5 => k = r.length - j ∧ j ≤ r.length ∧ Same H2 H5 ∧ H5 D = some (.lst (((m.take i).flatten ++ r.take j).map V.int)), ⟨_, rfl, Nat.zero_le _, s3, by rw [List.take_zero, List.append_nil]; exact h3⟩, ?_⟩
    rintro j k H5 ⟨rfl, hj, s5, h5⟩
    by_cases hjlt : j < r.length
    · have hy : r[j]? = some r[j] := List.getElem?_eq_getElem hjlt
      refine .inr ⟨⟨r.map V.int, .int r[j], Same_seqT s5 hpr, at_int hy⟩, fun H6 => Same H2 H6 ∧ H6 D = some (.lst (((m.take i).flatten ++ r.take (j + 1)).map V.int)), fun H6 h6 => ⟨_, by omega, rfl, hjlt, h6.1, h6.2⟩, ?_⟩
      rintro x H6 ⟨rfl, hx⟩
      have hx2 := hx _ (Same_seqT s5 hpr)
      rw [at_int hy] at hx2
      cases hx2
      refine ⟨rfl, lc_yes ⟨_, rfl, _, h5, ?_, same_at s5 hD, ?_⟩⟩
      · refine sizes (Nat.le_trans ?_ hfn)
        rw [List.length_map, List.length_append, List.length_take, flat_len (n := m.length) (fun x hx => hsq x (List.mem_of_mem_take hx)), List.length_take, hfl]
        have h1 : (min i m.length + 1) * m.length ≤ m.length * m.length := Nat.mul_le_mul_right _ (by omega)
        rw [Nat.add_mul, Nat.one_mul] at h1
        omega
      · rw [upd_same, take_one hy, ← List.append_assoc, List.map_append (l₂ := [r[j]])]
        rfl
    · have ej : j = r.length := by omega
      refine .inl ⟨⟨_, Same_seqT s5 hpr, by rw [List.length_map, ej]; exact Nat.le_refl _⟩, s5, ?_⟩
      rw [h5, ej, List.take_length, flat_take hr1]
  · have ei : i = m.length := by omega
    refine .inl ⟨⟨vs, Same_seqT s3 he, by omega⟩, ?_⟩
    rw [ei, List.take_length] at h3
    clear hlt hi
    refine ⟨_, rfl, D, m.flatten, b, rfl, h3, hb, hB, hfn, fun r t H5 s5 hr5 ht5 => ?_⟩
    have hg := gf_pos hb m.flatten
    refine ⟨_, _, rfl, SqT.of hr5, rfl, _, _, rfl, _, _, rfl, rfl, ?_⟩
    have sA : Same H H5 := s1.trans (s2.trans (s3.trans s5))
    refine ⟨_, rfl, _, rfl, a, cF, dx, _, rfl, sA _ _ hself, O.clF, O.F_size, (by show 0 < 1000; decide), ?_⟩
    generalize hH6 : upd H5 a _ = H6
    have hs6 : H6 a = some (.ins cF dx (putF "size" (.int (vs.length : Nat)) [])) := by rw [← hH6, upd_same]
    have b6 : But a H H6 := by rw [← hH6]; exact (But.of sA).put _
    have ht6 : SqT K H6 t ((m.flatten.map fun n => n / gf b m.flatten).map V.int) := by
      refine .inl (.inl ?_)
      rw [← hH6, upd_ne (ne_of ht5 (sA _ _ hself) (by intro z; cases z))]
      exact ht5
    refine ⟨_, rfl, _, rfl, by omega, by omega, fun D2 hD2 => ?_⟩
    refine lc_m (walk_range (lo := 0) (n := (vs.length : Int).toNat)) (Fz K) stb_Fz (List.range m.length) (by rw [List.length_range]; omega) (by rw [List.length_range]; omega) hD2 (fun _ _ => trivial) (fun _ _ _ _ => ys_fn) (fun i => .tup (((dm m (gf b m.flatten)).getD i []).map Td.int)) (fun k i x H7 H8 hb2 s7 s8 y A2 B2 hA => ?_) (fun H7 l s7 hl7 rs => ?_)
    · have ek : k < m.length ∧ i = k := by
        have h1 := (List.getElem?_eq_some_iff.mp hb2).1
        rw [List.length_range] at h1
        rw [List.getElem?_range h1] at hb2
        exact ⟨h1, (Option.some.inj hb2).symm⟩
      obtain ⟨hk, rfl⟩ := ek
      rw [y.2]
      have cm : CMulW (0 + (i : Int)) ((vs.length : Nat) : Int) := wmul (m := 20) (n := 20) (by show (0 + (i : Int)).natAbs < 2 ^ 20; omega) (by show ((vs.length : Nat) : Int).natAbs < 2 ^ 20; omega) (by decide) (by decide) (by decide)
      refine ⟨rfl, lc_yes ⟨_, rfl, _, rfl, _, rfl, _, _, rfl, rfl, cm, _, rfl, _, rfl, _, rfl, _, _, rfl, rfl, cm, _, rfl, _, _, rfl, rfl, _, rfl, ?_⟩⟩
      have hdr : (dm m (gf b m.flatten))[i]? = some (((m[i]).map fun x => x / gf b m.flatten)) := by
        unfold dm
        rw [List.getElem?_map, List.getElem?_eq_getElem hk]
        rfl
      have hdl : ∀ r ∈ dm m (gf b m.flatten), r.length = m.length := fun r hr => by
        obtain ⟨r0, h0, rfl⟩ := List.mem_map.mp hr
        rw [List.length_map]
        exact hsq r0 h0
      have hfr := flat_row hdl hdr
      have hff : (dm m (gf b m.flatten)).flatten = m.flatten.map fun n => n / gf b m.flatten := by
        unfold dm
        rw [List.map_flatten]
      rw [hff] at hfr
      have hgd : (dm m (gf b m.flatten)).getD i [] = (m[i]).map fun x => x / gf b m.flatten := by
        rw [List.getD_eq_getElem?_getD, hdr]
        rfl
      have hN : ((m.flatten.map fun n => n / gf b m.flatten).map V.int).length = m.length * m.length := by rw [List.length_map, List.length_map, hfl]
      have hmul : i * m.length + m.length ≤ m.length * m.length := by
        have h1 : (i + 1) * m.length ≤ m.length * m.length := Nat.mul_le_mul_right _ hk
        rw [Nat.add_mul, Nat.one_mul] at h1
        exact h1
      have e1 : HT.sIx ((m.flatten.map fun n => n / gf b m.flatten).map V.int).length 0 (some ((0 + (i : Int)) * ((vs.length : Nat) : Int))) = i * m.length := sIx_of (by rw [hl, Int.zero_add]; exact (Int.natCast_mul _ _).symm) (by rw [hN]; omega)
      have e2 : HT.sIx ((m.flatten.map fun n => n / gf b m.flatten).map V.int).length ((m.flatten.map fun n => n / gf b m.flatten).map V.int).length (some ((0 + (i : Int)) * ((vs.length : Nat) : Int) + ((vs.length : Nat) : Int))) = i * m.length + m.length := sIx_of (by rw [hl, Int.zero_add, ← Int.natCast_mul, ← Int.natCast_add]) (by rw [hN]; exact hmul)
      have hcut : cutV ((m.flatten.map fun n => n / gf b m.flatten).map V.int) (some ((0 + (i : Int)) * ((vs.length : Nat) : Int))) (some ((0 + (i : Int)) * ((vs.length : Nat) : Int) + ((vs.length : Nat) : Int))) = ((m[i]).map fun x => x / gf b m.flatten).map V.int := by
        unfold cutV
        rw [e1, e2, Nat.add_sub_cancel_left, ← List.map_drop, ← List.map_take, hfr]
      have hfz : ∀ {H9 : Hp} {p : Addr}, SqT K H9 p (((m[i]).map fun x => x / gf b m.flatten).map V.int) → Fz K H9 (.ref p) (.tup (((dm m (gf b m.flatten)).getD i []).map Td.int)) := fun h => by
        rw [hgd]
        exact .tup h (FzAll.of_ints _)
      refine ⟨t, _, rfl, Same_seqT s8 ht6, fun hw => ?_, fun _ p hp => ?_⟩
      · refine hA _ _ (fun _ _ h => h) (hfz ?_)
        rw [e1, e2] at hw
        rw [← hcut]
        unfold cutV
        rw [e1, e2, hw.2, hw.1, List.drop_zero, Nat.sub_zero, List.take_length]
        exact Same_seqT s8 ht6
      · refine hA _ _ (same_new hp _) (hfz (SqT.of ?_))
        rw [upd_same, hcut]
    · refine ⟨D2, l, rfl, .inl ⟨SqL.of hl7, fun t2 ht2 => ?_⟩⟩
      have sB : Same H6 (upd H7 t2 (.tup l)) := s7.trans (same_new ht2 _)
      refine ⟨_, rfl, a, cF, dx, _, rfl, sB _ _ hs6, O.clF, O.F_entries, (by show 1 < 1000; decide), ?_⟩
      refine ⟨_, rfl, _, rfl, a, cF, dx, _, rfl, upd_same, O.clF, O.F_bottom, (by show 2 < 1000; decide), ?_⟩
      have hfz : FzAll K H7 l ((dm m (gf b m.flatten)).map fun r => .tup (r.map Td.int)) := by
        have e : ((List.range m.length).map fun i => Td.tup (((dm m (gf b m.flatten)).getD i []).map Td.int)) = (dm m (gf b m.flatten)).map fun r => .tup (r.map Td.int) := by
          refine List.ext_getElem? fun i => ?_
          rw [List.getElem?_map, List.getElem?_map]
          have hdl : (dm m (gf b m.flatten)).length = m.length := by unfold dm; rw [List.length_map]
          by_cases hi : i < m.length
          · rw [List.getElem?_range hi, List.getElem?_eq_getElem (by omega : i < (dm m (gf b m.flatten)).length)]
            show some (Td.tup (((dm m (gf b m.flatten)).getD i []).map Td.int)) = _
            rw [List.getD_eq_getElem?_getD, List.getElem?_eq_getElem (by omega : i < (dm m (gf b m.flatten)).length)]
            rfl
          · rw [List.getElem?_eq_none (by rw [List.length_range]; omega), List.getElem?_eq_none (by omega)]
            rfl
        rw [← e]
        exact rs.fz
      have tkB : Tk K H7 (upd (upd (upd H7 t2 (.tup l)) a (.ins cF dx (putF "entries" (.ref t2) (putF "size" (.int (vs.length : Nat)) [])))) a (.ins cF dx (putF "bottom" (.int (b / gf b m.flatten)) (putF "entries" (.ref t2) (putF "size" (.int (vs.length : Nat)) []))))) := fun x ys h => by
        have h1 := Same_seqT (same_new ht2 (.tup l)) h
        have h2 : (upd H7 t2 (.tup l)) a = some (.ins cF dx (putF "size" (.int (vs.length : Nat)) [])) := sB _ _ hs6
        have h3 := tk_ins (K := K) h2 (H' := upd (upd H7 t2 (.tup l)) a (.ins cF dx (putF "entries" (.ref t2) (putF "size" (.int (vs.length : Nat)) [])))) (fun c o hc e => by rw [upd_ne hc]; exact e) _ _ h1
        exact tk_ins (K := K) (upd_same (H := upd H7 t2 (.tup l)) (a := a)) (fun c o hc e => by rw [upd_ne hc]; exact e) _ _ h3
      refine q _ ⟨dx, t2, ?_, .tup ?_ (hfz.tk tkB)⟩ (((b6.then sB).put _).put _)
      · rw [upd_same, hl, flF]
      · have h1 : SqT K (upd H7 t2 (.tup l)) t2 l := SqT.of upd_same
        have h2 : (upd H7 t2 (.tup l)) a = some (.ins cF dx (putF "size" (.int (vs.length : Nat)) [])) := sB _ _ hs6
        have h3 := tk_ins (K := K) h2 (H' := upd (upd H7 t2 (.tup l)) a (.ins cF dx (putF "entries" (.ref t2) (putF "size" (.int (vs.length : Nat)) [])))) (fun c o hc e => by rw [upd_ne hc]; exact e) _ _ h1
        exact tk_ins (K := K) (upd_same (H := upd H7 t2 (.tup l)) (a := a)) (fun c o hc e => by rw [upd_ne hc]; exact e) _ _ h3
end
end P12
namespace P12
open PySem PySem.Spec PyProof.Rows L2 SX EX WK
theorem flR (n e b F : V) : putF "form" F (putF "bottom" b (putF "pairs" e (putF "size" n []))) = ([("size", n), ("pairs", e), ("bottom", b), ("form", F)] : List (Str × V)) := by
  show putF "form" F (putF "bottom" b (putF "pairs" e [("size", n)])) = _
  rw [putF_ne (by decide +kernel)]
  show putF "form" F (putF "bottom" b [("size", n), ("pairs", e)]) = _
  rw [putF_ne (by decide +kernel), putF_ne (by decide +kernel)]
  show putF "form" F [("size", n), ("pairs", e), ("bottom", b)] = _
  rw [putF_ne (by decide +kernel), putF_ne (by decide +kernel), putF_ne (by decide +kernel)]
  rfl
def dp (ps : List RW) (g : Int) : List RW := ps.map fun p => (p.1, p.2 / g)
def ws (ps : List RW) : List Int := ps.map (·.2)
theorem quot_pos {x g : Int} (hg : 0 < g) (hd : g ∣ x) (hx : 1 ≤ x) : 1 ≤ x / g := by
  obtain ⟨k, rfl⟩ := hd
  rw [Int.mul_ediv_cancel_left _ (by omega)]
  rcases Int.lt_or_le k 1 with h | h
  · have : g * k ≤ 0 := Int.mul_nonpos_of_nonneg_of_nonpos (by omega) (by omega)
    omega
  · exact h
theorem prs_dp {n : Nat} {ps : List RW} {b : Int} (h : Prs n ps) (hb : 0 < b) : Prs n (dp ps (gf b (ws ps))) := by
  refine ⟨by unfold dp; rw [List.length_map]; exact h.1, fun p hp => ?_⟩
  obtain ⟨p0, h0, rfl⟩ := List.mem_map.mp hp
  obtain ⟨h1, h2, h3, h4⟩ := h.2 p0 h0
  exact ⟨h1, quot_pos (gf_pos hb _) ((gf_dvd _).2 _ (List.mem_map.mpr ⟨p0, h0, rfl⟩)) h2, B.div (gf_pos hb _) h3, h4⟩
theorem dep_prs {ps : List RW} : (Td.tup (ps.map tdr)).dep ≤ 3 := by
  simp only [Td.dep]
  have : Td.deps (ps.map tdr) ≤ 2 := deps_all fun t h => by
    obtain ⟨p, _, rfl⟩ := List.mem_map.mp h
    simp only [tdr, Td.dep, Td.deps]
    have : Td.deps (p.1.map Td.int) ≤ 0 := deps_all fun t h => by
      obtain ⟨n, _, rfl⟩ := List.mem_map.mp h
      exact Nat.le_refl _
    omega
  omega
theorem sm_prs {ps : List RW} (h : ps.length ≤ 100000) (hr : ∀ p ∈ ps, p.1.length ≤ 100000) : (Td.tup (ps.map tdr)).sm := by
  simp only [Td.sm]
  refine ⟨by rw [List.length_map]; exact h, sms_all fun t h => ?_⟩
  obtain ⟨p, hm, rfl⟩ := List.mem_map.mp h
  show (Td.tup [.tup (p.1.map Td.int), .int p.2]).sm
  simp only [Td.sm, Td.sms]
  have := sm_ints (hr p hm)
  simp only [Td.sm] at this
  exact ⟨by simp, this, trivial, trivial⟩
/-- the form of a row list -/
def fmat (n : Nat) (ps : List RW) (b : Int) : List (List Int) := dm (wmat n ps) (gf b (wmat n ps).flatten)
def fbot (n : Nat) (ps : List RW) (b : Int) : Int := b / gf b (wmat n ps).flatten
theorem wmat_len {n : Nat} {ps : List RW} : (wmat n ps).length = n := by unfold wmat; rw [List.length_map, List.length_range]
theorem wmat_sqr {n : Nat} {ps : List RW} : Sqr (wmat n ps) := fun r hr => by
  rw [wmat_len]
  obtain ⟨i, _, rfl⟩ := List.mem_map.mp hr
  rw [List.length_map, List.length_range]
theorem wmat_ent {n : Nat} {ps : List RW} {i j : Nat} : ent (wmat n ps) i j = if i < n ∧ j < n then wsum ps i j else 0 := by
  unfold ent wmat
  by_cases hi : i < n
  · have e : ((List.range n).map fun i => (List.range n).map fun j => wsum ps i j).getD i [] = (List.range n).map fun j => wsum ps i j := by
      rw [List.getD_eq_getElem?_getD, List.getElem?_map, List.getElem?_range hi]
      rfl
    rw [e]
    by_cases hj : j < n
    · rw [List.getD_eq_getElem?_getD, List.getElem?_map, List.getElem?_range hj, if_pos ⟨hi, hj⟩]
      rfl
    · rw [List.getD_eq_getElem?_getD, List.getElem?_eq_none (by rw [List.length_map, List.length_range]; omega), if_neg (fun h => hj h.2)]
      rfl
  · rw [if_neg (fun h => hi h.1), show ((List.range n).map fun i => (List.range n).map fun j => wsum ps i j).getD i [] = [] from by
      rw [List.getD_eq_getElem?_getD, List.getElem?_eq_none (by rw [List.length_map, List.length_range]; omega)]
      rfl]
    rfl
theorem wmat_sym {n : Nat} {ps : List RW} : Sym (wmat n ps) := fun i j => by
  rw [wmat_ent, wmat_ent, wsum_sym]
  by_cases h : i < n ∧ j < n
  · rw [if_pos h, if_pos ⟨h.2, h.1⟩]
  · rw [if_neg h, if_neg fun g => h ⟨g.2, g.1⟩]
/-- a row list -/
def RowsAt (K : PySem.W.Frag) (H : Hp) (cF cR p : Addr) (n : Nat) (ps : List RW) (b : Int) : Prop := ∃ dx q F, H p = some (.ins cR dx [("size", .int n), ("pairs", .ref q), ("bottom", .int b), ("form", .ref F)]) ∧ Fz K H (.ref q) (.tup (ps.map tdr)) ∧ FormAt K H cF F n (fmat n ps b) (fbot n ps b)
theorem But.tk {K : PySem.W.Frag} {a C dx : Addr} {l : List (Str × V)} {H H' : Hp} (h : H a = some (.ins C dx l)) (e : But a H H') : Tk K H H' := tk_ins h fun b o hb eo => e b o eo hb
theorem But.trans {a : Addr} {H H' H2 : Hp} (s : But a H H') (t : But a H' H2) : But a H H2 := fun c u e h => t c u (s c u e h) h
theorem FormAt.at {K : PySem.W.Frag} {H H' : Hp} {C p : Addr} {n : Nat} {m : List (List Int)} {b : Int} (h : FormAt K H C p n m b) (e : ∀ o, H p = some o → H' p = some o) (t : Tk K H H') : FormAt K H' C p n m b := by
  obtain ⟨dx, q, h1, h2⟩ := h
  exact ⟨dx, q, e _ h1, h2.tk t⟩
theorem RowsAt.at {K : PySem.W.Frag} {H H' : Hp} {cF cR p : Addr} {n : Nat} {ps : List RW} {b : Int} (h : RowsAt K H cF cR p n ps b) (e : Same H H') : RowsAt K H' cF cR p n ps b := by
  obtain ⟨dx, q, F, h1, h2, h3⟩ := h
  exact ⟨dx, q, F, e _ _ h1, h2.tk (WK.Same.tk e), h3.at (fun o => e _ _) (WK.Same.tk e)⟩
/-- a new thing is made and filled -/
theorem made_same {H H' : Hp} {x dx : Addr} {u o : HO} (hx : H x = none) (hd : H dx = none) (e : But x (upd (upd H dx u) x o) H') : Same H H' := fun c v h => by
  have h1 := ne_of_none h hx
  refine e c v ?_ h1
  rw [upd_ne h1, upd_ne (ne_of_none h hd)]
  exact h
theorem new_two {H : Hp} {x dx : Addr} {u o : HO} (hx : H x = none) (hd : H dx = none) : Same H (upd (upd H dx u) x o) := fun c v h => by
  rw [upd_ne (ne_of_none h hx), upd_ne (ne_of_none h hd)]
  exact h
def spRows (K : PySem.W.Frag) (cF cR : Addr) : Sp := fun vs H Q _ => ∃ (a dx : Addr) (v : V) (n : Nat) (ps : List RW) (b : Int), vs = [.ref a, .int n, v, .int b] ∧ H a = some (.ins cR dx []) ∧ Sn K H v (.tup (ps.map tdr)) ∧ Prs n ps ∧ n ≤ 300 ∧ 0 < b ∧ B 9000 b ∧
  ∀ H', RowsAt K H' cF cR a n (dp ps (gf b (ws ps))) (b / gf b (ws ps)) → But a H H' → Q .non H'
section
variable {P : Program} {w : World} {K : PySem.W.Frag} {mg : Str → Option Value} {base : Heap} {f : Addr} {fd : FuncData} {cF cR : Addr}
abbrev s_iRowList : Stmt := mth 37 0
abbrev N_iRowList : List Str := ["self", "size", "pairs", "bottom", "passed", "weights", "least_bottom", "pair", "weight"]
theorem sc_iRowList : FnScope N_iRowList ["self", "size", "pairs", "bottom"] (defScope s_iRowList) := ⟨rfl, rfl, rfl, by decide +kernel, rfl, by decide +kernel, by decide +kernel⟩
theorem ok_iRowList {kws : List (Str × V)} (F : FunD K "__init__" "RowList.__init__" (defArgs s_iRowList) (defBody s_iRowList) (defScope s_iRowList) [] kws f fd) (T : Txt mg) (O : Obs K cF cR) (C_frozen : Cal P w K mg base 3 "frozen" ["value"] (spFz K 3)) (C_check_pairs : Cal P w K mg base 1 "check_pairs" ["size", "pairs"] (spPairs K))
    (C_lowered : Cal P w K mg base 1 "lowered" ["numbers", "bottom"] spLow) (C_weighted_matrix : Cal P w K mg base 2 "weighted_matrix" ["size", "pairs"] (spWmat K)) (C_Form : CalK P w K mg base 4 "Form" cF 1 ["bottom"] (spForm K cF)) : FnOk P w K mg base CX0 6 f fd ["self", "size", "pairs", "bottom"] (spRows K cF cR) := by
  refine F.ok sc_iRowList (fun vs H Q E h => ?_) (fun cdv A outer s H vs Q E hr h => ?_)
  · obtain ⟨a, dx, v, n, ps, b, rfl, _⟩ := h
    rfl
  obtain ⟨a, dx, v, n, ps, b, rfl, hself, hv, hps, hn, hb, hB, q⟩ := h
  refine ⟨_, (pss_cons (ps_set (i := 4) sc_iRowList.nd rfl (Or.inl rfl) (pe_cal C_frozen (hr.mono (by omega)) rfl (pa_cons (pv 2) pa_nil)))
  (pss_cons (ps_expr (pe_cal C_check_pairs (hr.mono (by omega)) rfl (pa_cons (pv 1) (pa_cons (pv 4) pa_nil))))
  (pss_cons (ps_asg (pe_cal C_lowered (hr.mono (by omega)) rfl (pa_cons (pe_lc (own := [("pair", 7)]) (g := gName 7) (tt := tYes) (by rfl) sc_iRowList.nd (pi_tup (pv 4)) (blkOk_by (N := N_iRowList) (sc := defScope s_iRowList) (by decide +kernel)) (fun _ _ _ _ _ => (pg_name (i := 7) sc_iRowList.nd rfl (Or.inl rfl))) (fun _ _ _ _ _ => pts_nil) (fun _ _ _ _ _ => (pe_ix (ix_tupK (K := K) rfl) (pv 7) pe_int (fun _ _ => rfl)))) (pa_cons (pv 3) pa_nil))) (pg_tup rfl (pgs_cons (pg_name (i := 5) sc_iRowList.nd rfl (Or.inl rfl)) (pgs_cons (pg_name (i := 6) sc_iRowList.nd rfl (Or.inl rfl)) pgs_nil))))
  (pss_cons (ps_fld (pv 0) (pv 1) rfl)
  (pss_cons (ps_fld (pv 0) (pe_callTy call_tuple_of (by rfl) T.b_tuple (by decide +kernel) (pa_cons (pe_lc (own := [("pair", 7), ("weight", 8)]) (tt := tYes) (by rfl) sc_iRowList.nd (RZ.pi_zipA (by rfl) T.b_zip (pa_cons (pv 4) (pa_cons (pv 5) pa_nil))) (blkOk_by (N := N_iRowList) (sc := defScope s_iRowList) (by decide +kernel)) (fun _ _ _ _ _ => (pg_tupK (K := K) (n := 2) rfl rfl (pgs_cons (pg_name (i := 7) sc_iRowList.nd rfl (Or.inl rfl)) (pgs_cons (pg_name (i := 8) sc_iRowList.nd rfl (Or.inl rfl)) pgs_nil)))) (fun _ _ _ _ _ => pts_nil) (fun _ _ _ _ _ => (pe_tup (pa_cons (pe_ix (ix_tupK (K := K) rfl) (pv 7) pe_int (fun _ _ => rfl)) (pa_cons (pv 8) pa_nil))))) pa_nil)) rfl)
  (pss_cons (ps_fld (pv 0) (pv 6) rfl)
  (pss_one (ps_fld (pv 0) (pe_calK C_Form (hr.mono (by omega)) rfl (pa_cons (pe_cal C_weighted_matrix (hr.mono (by omega)) rfl (pa_cons (pv 1) (pa_cons (pe_fld (pv 0) rfl) pa_nil))) pa_nil) (pk_cons (pv 6) pk_nil)) rfl)))))))), ?_⟩
  have hpl := hps.1
  refine ⟨_, rfl, _, _, rfl, hv, dep_prs, sm_prs (by omega) (fun p hp => by rw [(hps.2 p hp).1]; omega), fun v1 H1 s1 hz1 => ?_⟩
  refine ⟨_, rfl, _, rfl, n, _, ps, rfl, hz1, fun p hp => ⟨(hps.2 p hp).1, (hps.2 p hp).2.1⟩, fun H2 s2 => ?_⟩
  have hz2 := hz1.tk (WK.Same.tk s2)
  obtain ⟨e, vs, rfl, he, hl, hrow⟩ := fz_prs hz2
  refine ⟨_, rfl, e, rfl, ⟨_, he⟩, fun D hD => ?_⟩
  refine lc_m (walk_tup (K := K) (a := e) (xs := vs)) RI (stb_RI (K := K)) ps hl (by omega) hD (fun H' s => Same_seqT s he) (fun _ _ _ _ => ys_at) (·.2) (fun k p x H3 H4 hb1 s3 s4 y A B hA => ?_) (fun H3 l s3 hl3 rs => ?_)
  · obtain ⟨q1, r1, hq1, hq2, hq3⟩ := hrow k p hb1
    rw [y.2] at hq1
    cases hq1
    exact ⟨rfl, lc_yes ⟨_, rfl, q1, _, 1, _, rfl, rfl, Same_seqT s4 hq2, at_pos (by decide) rfl, hA _ _ (fun _ _ h => h) rfl⟩⟩
  refine ⟨_, rfl, D, ws ps, b, rfl, by rw [hl3, rs.ints]; rfl, hb, hB, by unfold ws; rw [List.length_map]; omega, fun r t H5 s5 hr5 ht5 => ?_⟩
  have hg := gf_pos hb (ws ps)
  refine ⟨_, _, rfl, SqT.of hr5, rfl, _, _, rfl, _, _, rfl, rfl, ?_⟩
  have sA : Same H H5 := s1.trans (s2.trans (s3.trans s5))
  refine ⟨_, rfl, _, rfl, a, cR, dx, _, rfl, sA _ _ hself, O.clR, O.R_size, (by show 0 < 1000; decide), ?_⟩
  generalize hH6 : upd H5 a _ = H6
  have hs6 : H6 a = some (.ins cR dx (putF "size" (.int n) [])) := by rw [← hH6, upd_same]
  have b6 : But a H H6 := by rw [← hH6]; exact (But.of sA).put _
  have t56 : Tk K H5 H6 := But.tk (sA _ _ hself) (by rw [← hH6]; exact (But.of fun _ _ h => h).put _)
  have ht6 : SqT K H6 t (((ws ps).map fun n => n / gf b (ws ps)).map V.int) := t56 _ _ (SqT.of ht5)
  have tk26 : Tk K H2 H6 := fun x ys h => t56 _ _ (Same_seqT (s3.trans s5) h)
  have he6 : SqT K H6 e vs := tk26 _ _ he
  refine ⟨_, rfl, _, rfl, e, t, vs, _, rfl, .inr ⟨he6, ht6, fun D2 hD2 => ?_⟩⟩
  have hwl : (((ws ps).map fun n => n / gf b (ws ps)).map V.int).length = ps.length := by unfold ws; rw [List.length_map, List.length_map, List.length_map]
  refine lc_m (walk_zT (K := K) (a := e) (b := t) (xs := vs) (ys := ((ws ps).map fun n => n / gf b (ws ps)).map V.int) (n := ps.length) (by rw [hwl, hl]; omega)) (Fz K) stb_Fz ps rfl (by omega) hD2 (fun H' s => ⟨Same_seqT s he6, Same_seqT s ht6⟩) (fun _ _ _ _ => ys_pair) (fun p => tdr (p.1, p.2 / gf b (ws ps))) (fun k p x H7 H8 hb2 s7 s8 y A2 B2 hA => ?_) (fun H7 l s7 hl7 rs2 => ?_)
  · obtain ⟨q1, r1, hq1, hq2, hq3⟩ := hrow k p hb2
    obtain ⟨Tp, x1, x2, rfl, hT, rfl, e1, e2⟩ := y
    rw [show vs[k]? = some x1 from e1] at hq1
    cases hq1
    have e3 : (((ws ps).map fun n => n / gf b (ws ps)).map V.int)[k]? = some (.int (p.2 / gf b (ws ps))) := by
      unfold ws
      rw [List.getElem?_map, List.getElem?_map, List.getElem?_map, hb2]
      rfl
    rw [show (((ws ps).map fun n => n / gf b (ws ps)).map V.int)[k]? = some x2 from e2] at e3
    cases e3
    have tk8 : Tk K H2 (upd H7 Tp (.tup [.ref q1, .int (p.2 / gf b (ws ps))])) := fun x ys h => Same_seqT s8 (tk26 _ _ h)
    refine ⟨_, _, rfl, SqT.of upd_same, rfl, _, _, rfl, _, _, rfl, rfl, rfl, lc_yes ?_⟩
    refine ⟨_, rfl, q1, _, 0, _, rfl, rfl, tk8 _ _ hq2, at_pos (by decide) rfl, _, rfl, two_line, fun z hz => hA _ _ (same_new hz _) ?_⟩
    refine .tup (SqT.of upd_same) (.cons (.tup (Same_seqT (same_new hz _) (tk8 _ _ hq3)) (FzAll.of_ints _)) (.cons (.int _) .nil))
  refine ⟨D2, l, rfl, .inl ⟨SqL.of hl7, fun t2 ht2 => ?_⟩⟩
  have sB : Same H6 (upd H7 t2 (.tup l)) := s7.trans (same_new ht2 _)
  have hps8 : FzAll K H7 l ((dp ps (gf b (ws ps))).map tdr) := by
    have := rs2.fz
    unfold dp
    rw [List.map_map]
    exact this
  have hp8 : Fz K (upd H7 t2 (.tup l)) (.ref t2) (.tup ((dp ps (gf b (ws ps))).map tdr)) := .tup (SqT.of upd_same) (hps8.tk (WK.Same.tk (same_new ht2 _)))
  refine ⟨_, rfl, a, cR, dx, _, rfl, sB _ _ hs6, O.clR, O.R_pairs, (by show 1 < 1000; decide), ?_⟩
  generalize hH9 : upd (upd H7 t2 (.tup l)) a _ = H9
  have b9 : But a (upd H7 t2 (.tup l)) H9 := by rw [← hH9]; exact (But.of fun _ _ h => h).put _
  have hs9 : H9 a = some (.ins cR dx (putF "pairs" (.ref t2) (putF "size" (.int n) []))) := by rw [← hH9, upd_same]
  have hp9 := hp8.tk (But.tk (sB _ _ hs6) b9)
  refine ⟨_, rfl, _, rfl, a, cR, dx, _, rfl, hs9, O.clR, O.R_bottom, (by show 2 < 1000; decide), ?_⟩
  generalize hH10 : upd H9 a _ = H10
  have b10 : But a H9 H10 := by rw [← hH10]; exact (But.of fun _ _ h => h).put _
  have hs10 : H10 a = some (.ins cR dx (putF "bottom" (.int (b / gf b (ws ps))) (putF "pairs" (.ref t2) (putF "size" (.int n) [])))) := by rw [← hH10, upd_same]
  have hp10 := hp9.tk (But.tk hs9 b10)
  have bb : But a H H10 := ((b6.then sB).trans b9).trans b10
  have hlk : (putF "bottom" (.int (b / gf b (ws ps))) (putF "pairs" (.ref t2) (putF "size" (.int n) []))).lookup ("pairs" : Str) = some (.ref t2) := by
    rw [lookup_putF, if_neg (by decide +kernel), lookup_putF, if_pos rfl]
  have hpd := prs_dp hps hb
  refine ⟨_, rfl, _, rfl, a, cR, dx, _, _, rfl, hs10, O.clR, O.R_pairs, hlk, _, n, _, rfl, hp10, hpd, by omega, fun r2 H11 s11 hsn => ?_⟩
  refine ⟨_, rfl, rfl, rfl, fun x dx2 hx hdx hne => ?_⟩
  have hb2 : 0 < b / gf b (ws ps) := quot_pos hg (gf_dvd _).1 (by omega)
  refine ⟨x, dx2, _, wmat n (dp ps (gf b (ws ps))), b / gf b (ws ps), rfl, upd_same, hsn.same (new_two hx hdx), wmat_sqr, wmat_sym, by rw [wmat_len]; exact hn, hb2, B.div hg hB, fun H12 hF hbut => ⟨rfl, ?_⟩⟩
  have s12 : Same H11 H12 := made_same hx hdx hbut
  have s1012 := s11.trans s12
  refine ⟨_, rfl, a, cR, dx, _, rfl, s1012 _ _ hs10, O.clR, O.R_form, (by show 3 < 1000; decide), ?_⟩
  have b13 : But a H12 (upd H12 a (.ins cR dx (putF "form" (.ref x) (putF "bottom" (.int (b / gf b (ws ps))) (putF "pairs" (.ref t2) (putF "size" (.int n) [])))))) := (But.of fun _ _ h => h).put _
  have t13 := But.tk (K := K) (s1012 _ _ hs10) b13
  have hxa : x ≠ a := fun z => by rw [z, s11 _ _ hs10] at hx; cases hx
  rw [wmat_len] at hF
  refine q _ ⟨dx, t2, x, by rw [upd_same, flR], (hp10.tk (WK.Same.tk s1012)).tk t13, hF.at (fun o e => b13 _ _ e hxa) t13⟩ ((bb.then s1012).trans b13)
end
end P12
/-! Sums, square tables as functions, lowest terms. -/
namespace P12
open PySem PySem.Spec PyProof.Rows L2 SX EX WK
def Ls {α : Type} (l : List α) (f : α → Int) : Int := (l.map f).sum
theorem Ls_nil {α : Type} (f : α → Int) : Ls [] f = 0 := rfl
theorem Ls_cons {α : Type} (a : α) (l : List α) (f : α → Int) : Ls (a :: l) f = f a + Ls l f := by
  unfold Ls
  rw [List.map_cons, List.sum_cons]
theorem Ls_snoc {α : Type} (l : List α) (a : α) (f : α → Int) : Ls (l ++ [a]) f = Ls l f + f a := by
  unfold Ls
  rw [List.map_append, List.sum_append]
  simp
theorem Ls_congr {α : Type} {l : List α} {f g : α → Int} (h : ∀ a ∈ l, f a = g a) : Ls l f = Ls l g := by
  unfold Ls
  rw [List.map_congr_left h]
theorem Ls_zero {α : Type} (l : List α) : Ls l (fun _ => 0) = 0 := by
  induction l with
  | nil => rfl
  | cons a l ih => rw [Ls_cons, ih]; rfl
theorem Ls_add {α : Type} (l : List α) (f g : α → Int) : Ls l (fun a => f a + g a) = Ls l f + Ls l g := by
  induction l with
  | nil => rfl
  | cons a l ih => rw [Ls_cons, Ls_cons, Ls_cons, ih]; omega
theorem Ls_mul {α : Type} (c : Int) (l : List α) (f : α → Int) : Ls l (fun a => c * f a) = c * Ls l f := by
  induction l with
  | nil => simp [Ls_nil]
  | cons a l ih => rw [Ls_cons, Ls_cons, ih, Int.mul_add]
theorem Ls_mulr {α : Type} (c : Int) (l : List α) (f : α → Int) : Ls l (fun a => f a * c) = Ls l f * c := by
  rw [Int.mul_comm, ← Ls_mul]
  exact Ls_congr fun a _ => Int.mul_comm _ _
theorem Ls_swap {α β : Type} (l : List α) (m : List β) (f : α → β → Int) : Ls l (fun a => Ls m (f a)) = Ls m fun b => Ls l fun a => f a b := by
  induction l with
  | nil =>
    rw [Ls_nil]
    exact (Ls_zero m).symm
  | cons a l ih =>
    rw [Ls_cons, ih, ← Ls_add]
    exact Ls_congr fun b _ => (Ls_cons a l fun a => f a b).symm
abbrev S (n : Nat) (f : Nat → Int) : Int := Ls (List.range n) f
theorem S_congr {n : Nat} {f g : Nat → Int} (h : ∀ i, i < n → f i = g i) : S n f = S n g := Ls_congr fun i hi => h i (List.mem_range.mp hi)
theorem S_congr2 {n m : Nat} {f g : Nat → Nat → Int} (h : ∀ i j, i < n → j < m → f i j = g i j) : S n (fun i => S m (f i)) = S n (fun i => S m (g i)) := S_congr fun i hi => S_congr fun j hj => h i j hi hj
theorem S_succ (n : Nat) (f : Nat → Int) : S (n + 1) f = S n f + f n := by
  show Ls (List.range (n + 1)) f = _
  rw [List.range_succ, Ls_snoc]
theorem BS {k c n : Nat} {f : Nat → Int} (h : ∀ i, i < n → B k (f i)) (hn : n ≤ 2 ^ c) : B (k + c) (S n f) := by
  have e : ∀ m, m ≤ n → (S m f).natAbs + m ≤ m * 2 ^ k := fun m hm => by
    induction m with
    | zero =>
      rw [show S 0 f = 0 from rfl]
      simp
    | succ m ih =>
      rw [S_succ, Nat.succ_mul]
      have h1 := ih (by omega)
      have h2 : (f m).natAbs < 2 ^ k := h m (by omega)
      have h3 := Int.natAbs_add_le (S m f) (f m)
      omega
  have h0 := e n (Nat.le_refl _)
  show (S n f).natAbs < 2 ^ (k + c)
  have p : 0 < 2 ^ k := Nat.two_pow_pos k
  rw [Nat.pow_add]
  have h1 : n * 2 ^ k ≤ 2 ^ k * 2 ^ c := by
    rw [Nat.mul_comm]
    exact Nat.mul_le_mul_left _ hn
  have p2 : 0 < 2 ^ k * 2 ^ c := Nat.mul_pos p (Nat.two_pow_pos c)
  rcases Nat.eq_zero_or_pos n with z | z
  · subst z
    show (Ls [] f).natAbs < _
    rw [Ls_nil]
    exact p2
  · omega
theorem BLs {α : Type} {k c : Nat} {l : List α} {f : α → Int} (h : ∀ a ∈ l, B k (f a)) (hn : l.length ≤ 2 ^ c) : B (k + c) (Ls l f) := by
  have e : ∀ m : List α, (∀ a ∈ m, a ∈ l) → (Ls m f).natAbs + m.length ≤ m.length * 2 ^ k := fun m hm => by
    induction m with
    | nil => simp [Ls_nil]
    | cons a m ih =>
      rw [Ls_cons, List.length_cons, Nat.succ_mul]
      have h1 := ih (fun a ha => hm a (List.mem_cons_of_mem _ ha))
      have h2 : (f a).natAbs < 2 ^ k := h a (hm a List.mem_cons_self)
      have h3 := Int.natAbs_add_le (f a) (Ls m f)
      omega
  have h0 := e l fun _ h => h
  show (Ls l f).natAbs < 2 ^ (k + c)
  have p : 0 < 2 ^ k := Nat.two_pow_pos k
  rw [Nat.pow_add]
  have h1 : l.length * 2 ^ k ≤ 2 ^ k * 2 ^ c := by
    rw [Nat.mul_comm]
    exact Nat.mul_le_mul_left _ hn
  have p2 : 0 < 2 ^ k * 2 ^ c := Nat.mul_pos p (Nat.two_pow_pos c)
  cases l with
  | nil =>
    rw [Ls_nil]
    exact p2
  | cons a l =>
    rw [List.length_cons] at h0 h1
    omega
/-! ### vectors, tables -/
def vec (n : Nat) (x : Nat → Int) : List Int := (List.range n).map x
def mat (n : Nat) (f : Nat → Nat → Int) : List (List Int) := (List.range n).map fun i => vec n (f i)
theorem vec_len {n : Nat} {x : Nat → Int} : (vec n x).length = n := by unfold vec; rw [List.length_map, List.length_range]
theorem mat_len {n : Nat} {f : Nat → Nat → Int} : (mat n f).length = n := by unfold mat; rw [List.length_map, List.length_range]
theorem vec_at {n i : Nat} {x : Nat → Int} (h : i < n) : (vec n x)[i]? = some (x i) := by
  unfold vec
  rw [List.getElem?_map, List.getElem?_range h]
  rfl
theorem vecV_at {n i : Nat} {x : Nat → Int} (h : i < n) : ((vec n x).map V.int)[i]? = some (.int (x i)) := by
  rw [List.getElem?_map, vec_at h]
  rfl
theorem mat_at {n i : Nat} {f : Nat → Nat → Int} (h : i < n) : (mat n f)[i]? = some (vec n (f i)) := by
  unfold mat
  rw [List.getElem?_map, List.getElem?_range h]
  rfl
theorem vec_congr {n : Nat} {x y : Nat → Int} (h : ∀ i, i < n → x i = y i) : vec n x = vec n y := List.map_congr_left fun i hi => h i (List.mem_range.mp hi)
theorem mat_congr {n : Nat} {f g : Nat → Nat → Int} (h : ∀ i j, i < n → j < n → f i j = g i j) : mat n f = mat n g := List.map_congr_left fun i hi => vec_congr fun j hj => h i j (List.mem_range.mp hi) hj
theorem vec_of {n : Nat} {ns : List Int} (h : ns.length = n) : ns = vec n fun i => ns.getD i 0 := by
  refine List.ext_getElem? fun i => ?_
  by_cases hi : i < n
  · rw [vec_at hi, List.getD_eq_getElem?_getD, List.getElem?_eq_getElem (by omega)]
    rfl
  · rw [List.getElem?_eq_none (by omega), List.getElem?_eq_none (by rw [vec_len]; omega)]
theorem mat_sqr {n : Nat} {f : Nat → Nat → Int} : Sqr (mat n f) := fun r hr => by
  rw [mat_len]
  obtain ⟨i, _, rfl⟩ := List.mem_map.mp hr
  exact vec_len
theorem mat_ent {n : Nat} {f : Nat → Nat → Int} {i j : Nat} : ent (mat n f) i j = if i < n ∧ j < n then f i j else 0 := by
  unfold ent
  by_cases hi : i < n
  · rw [show (mat n f).getD i [] = vec n (f i) from by rw [List.getD_eq_getElem?_getD, mat_at hi]; rfl]
    by_cases hj : j < n
    · rw [List.getD_eq_getElem?_getD, vec_at hj, if_pos ⟨hi, hj⟩]
      rfl
    · rw [List.getD_eq_getElem?_getD, List.getElem?_eq_none (by rw [vec_len]; omega), if_neg (fun h => hj h.2)]
      rfl
  · rw [if_neg (fun h => hi h.1), show (mat n f).getD i [] = [] from by
      rw [List.getD_eq_getElem?_getD, List.getElem?_eq_none (by rw [mat_len]; omega)]
      rfl]
    rfl
theorem mat_sym {n : Nat} {f : Nat → Nat → Int} (h : ∀ i j, i < n → j < n → f i j = f j i) : Sym (mat n f) := fun i j => by
  rw [mat_ent, mat_ent]
  by_cases c : i < n ∧ j < n
  · rw [if_pos c, if_pos ⟨c.2, c.1⟩, h i j c.1 c.2]
  · rw [if_neg c, if_neg fun g => c ⟨g.2, g.1⟩]
theorem mat_mem {n : Nat} {f : Nat → Nat → Int} {i j : Nat} (hi : i < n) (hj : j < n) : f i j ∈ (mat n f).flatten :=
  List.mem_flatten.mpr ⟨_, List.mem_of_getElem? (mat_at hi), List.mem_of_getElem? (vec_at hj)⟩
theorem dm_mat {n : Nat} {f : Nat → Nat → Int} {g : Int} : dm (mat n f) g = mat n fun i j => f i j / g := by
  unfold dm mat vec
  rw [List.map_map]
  refine List.map_congr_left fun i _ => ?_
  show ((List.range n).map (f i)).map _ = _
  rw [List.map_map]
  rfl
/-! ### lowest terms -/
theorem gI_one {t b : Int} (hb : 0 < b) : gI (t / gI t b) (b / gI t b) = 1 := by
  have g := gI_pos' (t := t) hb
  have g2 : 0 < Nat.gcd t.natAbs b.natAbs := Nat.gcd_pos_of_pos_right _ (by omega)
  have e1 : (t / gI t b).natAbs = t.natAbs / Nat.gcd t.natAbs b.natAbs := by
    unfold gI
    obtain ⟨k, hk⟩ := (gI_dvd1 : gI t b ∣ t)
    unfold gI at hk
    generalize Nat.gcd t.natAbs b.natAbs = d at *
    subst hk
    rw [Int.mul_ediv_cancel_left _ (by omega), Int.natAbs_mul, Int.natAbs_natCast, Nat.mul_div_cancel_left _ g2]
  have e2 : (b / gI t b).natAbs = b.natAbs / Nat.gcd t.natAbs b.natAbs := by
    unfold gI
    obtain ⟨k, hk⟩ := (gI_dvd2 : gI t b ∣ b)
    unfold gI at hk
    generalize Nat.gcd t.natAbs b.natAbs = d at *
    subst hk
    rw [Int.mul_ediv_cancel_left _ (by omega), Int.natAbs_mul, Int.natAbs_natCast, Nat.mul_div_cancel_left _ g2]
  show ((Nat.gcd (t / gI t b).natAbs (b / gI t b).natAbs : Nat) : Int) = 1
  rw [e1, e2, Nat.gcd_div_gcd_div_gcd_of_pos_right (by omega)]
  rfl
theorem cross {t b g : Int} (hg : 0 < g) (h1 : g ∣ t) (h2 : g ∣ b) : t / g * b = t * (b / g) := by
  obtain ⟨k, rfl⟩ := h1
  obtain ⟨l, rfl⟩ := h2
  rw [Int.mul_ediv_cancel_left _ (by omega), Int.mul_ediv_cancel_left _ (by omega), Int.mul_comm g k, Int.mul_assoc]
/-- two quotients of the same number -/
theorem cross2 {t b g u v : Int} (hg : 0 < g) (h1 : g ∣ t) (h2 : g ∣ b) (h : t * v = u * b) : t / g * v = u * (b / g) := by
  obtain ⟨k, rfl⟩ := h1
  obtain ⟨l, rfl⟩ := h2
  rw [Int.mul_ediv_cancel_left _ (by omega), Int.mul_ediv_cancel_left _ (by omega)]
  have e : g * (k * v) = g * (u * l) := by
    rw [← Int.mul_assoc, h, Int.mul_left_comm]
  exact Int.eq_of_mul_eq_mul_left (by omega) e
theorem gI_scale {t b g : Int} (hg : 0 < g) (h1 : g ∣ t) (h2 : g ∣ b) : gI t b = g * gI (t / g) (b / g) := by
  obtain ⟨k, rfl⟩ := h1
  obtain ⟨l, rfl⟩ := h2
  rw [Int.mul_ediv_cancel_left _ (by omega), Int.mul_ediv_cancel_left _ (by omega)]
  unfold gI
  rw [Int.natAbs_mul, Int.natAbs_mul, Nat.gcd_mul_left]
  have : ((g.natAbs : Nat) : Int) = g := by omega
  rw [Int.natCast_mul, this]
theorem gf_scale {g : Int} (hg : 0 < g) : ∀ {ns : List Int} {b : Int}, g ∣ b → (∀ n ∈ ns, g ∣ n) → gf b ns = g * gf (b / g) (ns.map (· / g))
  | [], b, h, _ => by
    obtain ⟨k, rfl⟩ := h
    show g * k = g * (g * k / g)
    rw [Int.mul_ediv_cancel_left _ (by omega)]
  | n :: ns, b, h, hn => by
    have h1 := hn n List.mem_cons_self
    have e := gI_scale hg h h1
    have hd : g ∣ gI b n := ⟨_, e⟩
    show gf (gI b n) ns = g * gf (gI (b / g) (n / g)) (ns.map (· / g))
    rw [gf_scale hg hd fun m hm => hn m (List.mem_cons_of_mem _ hm)]
    congr 2
    rw [e, Int.mul_ediv_cancel_left _ (by omega)]
theorem gf_one {b : Int} (hb : 0 < b) (ns : List Int) : gf (b / gf b ns) (ns.map (· / gf b ns)) = 1 := by
  have hg := gf_pos hb ns
  have h := gf_scale hg (ns := ns) (b := b) (gf_dvd ns).1 (gf_dvd ns).2
  have e : gf b ns * 1 = gf b ns * gf (b / gf b ns) (ns.map (· / gf b ns)) := by rw [Int.mul_one]; exact h
  exact (Int.eq_of_mul_eq_mul_left (by omega) e).symm
theorem flat_mat {n : Nat} {f : Nat → Nat → Int} {g : Int} : (mat n fun i j => f i j / g).flatten = (mat n f).flatten.map (· / g) := by
  rw [← dm_mat]
  unfold dm
  rw [List.map_flatten]
/-- a form in lowest terms, of T over U -/
structure Red (n : Nat) (f : Nat → Nat → Int) (b : Int) (k : Nat) : Prop where
  pos : 0 < b
  bb : B k b
  fb : ∀ i j, i < n → j < n → B k (f i j)
  sym : ∀ i j, i < n → j < n → f i j = f j i
  one : gf b (mat n f).flatten = 1
def Is (n : Nat) (f : Nat → Nat → Int) (b : Int) (T : Nat → Nat → Int) (U : Int) : Prop := ∀ i j, i < n → j < n → f i j * U = T i j * b
theorem red_of {n k : Nat} {T : Nat → Nat → Int} {U : Int} (hU : 0 < U) (hB : B k U) (hT : ∀ i j, i < n → j < n → B k (T i j)) (hs : ∀ i j, i < n → j < n → T i j = T j i) :
    Red n (fun i j => T i j / gf U (mat n T).flatten) (U / gf U (mat n T).flatten) k ∧ Is n (fun i j => T i j / gf U (mat n T).flatten) (U / gf U (mat n T).flatten) T U := by
  have hg := gf_pos hU (mat n T).flatten
  have hd := gf_dvd (b := U) (mat n T).flatten
  refine ⟨⟨quot_pos hg hd.1 (by omega), B.div hg hB, fun i j hi hj => B.div hg (hT i j hi hj), fun i j hi hj => by rw [hs i j hi hj], ?_⟩, fun i j hi hj => cross hg (hd.2 _ (mat_mem hi hj)) hd.1⟩
  rw [flat_mat]
  exact gf_one hU _
/-- the same form by other terms -/
theorem Is.of {n : Nat} {f T T' : Nat → Nat → Int} {b U U' : Int} (h : Is n f b T U) (hU : 0 < U) (e : ∀ i j, i < n → j < n → T i j * U' = T' i j * U) : Is n f b T' U' := fun i j hi hj => by
  have h1 := h i j hi hj
  have h2 := e i j hi hj
  have e1 : U * (f i j * U') = U * (T' i j * b) := by
    have a1 : U * (f i j * U') = f i j * U * U' := by rw [Int.mul_left_comm, Int.mul_assoc]
    have a2 : U * (T' i j * b) = T' i j * U * b := by rw [Int.mul_left_comm, Int.mul_assoc]
    rw [a1, a2, h1, ← h2, Int.mul_assoc, Int.mul_assoc, Int.mul_comm b]
  exact Int.eq_of_mul_eq_mul_left (by omega) e1
end P12
namespace P12
open PySem PySem.Spec PyProof.Rows L2 SX EX WK
/-- a vector, a table: lists or tuples -/
abbrev tv (n : Nat) (x : Nat → Int) : Td := .tup ((vec n x).map Td.int)
abbrev tm (n : Nat) (f : Nat → Nat → Int) : Td := tdm (mat n f)
theorem sq_same {K : PySem.W.Frag} {H H' : Hp} {k : Bool} {a : Addr} {xs : List V} (s : Same H H') (h : WZ.Sq k K H a xs) : WZ.Sq k K H' a xs := by
  cases k with
  | true => exact s.seq h
  | false => exact Same_seqT s h
theorem sq_or {K : PySem.W.Frag} {H : Hp} {k : Bool} {a : Addr} {xs : List V} (h : WZ.Sq k K H a xs) : SqL K H a xs ∨ SqT K H a xs := by
  cases k with
  | true => exact .inl h
  | false => exact .inr h
theorem sn_ints {K : PySem.W.Frag} {H : Hp} {v : V} {ns : List Int} (h : Sn K H v (.tup (ns.map Td.int))) : ∃ (k : Bool) (a : Addr), v = .ref a ∧ WZ.Sq k K H a (ns.map V.int) := by
  cases h with
  | @lst a vs ts ha hall =>
    rw [hall.ints] at ha
    exact ⟨true, a, rfl, SqL.of ha⟩
  | @tup a vs ts ha hall =>
    rw [hall.ints] at ha
    exact ⟨false, a, rfl, ha⟩
theorem sn_mat {K : PySem.W.Frag} {H : Hp} {v : V} {n : Nat} {f : Nat → Nat → Int} (h : Sn K H v (tm n f)) : ∃ (k : Bool) (a : Addr) (vs : List V), v = .ref a ∧ WZ.Sq k K H a vs ∧ vs.length = n ∧ ∀ i, i < n → ∃ u, vs[i]? = some u ∧ Sn K H u (tv n (f i)) := by
  have row : ∀ {vs : List V}, SnAll K H vs ((mat n f).map fun r => .tup (r.map Td.int)) → vs.length = n ∧ ∀ i, i < n → ∃ u, vs[i]? = some u ∧ Sn K H u (tv n (f i)) := fun {vs} hall => by
    have hl : vs.length = n := by rw [hall.len, List.length_map, mat_len]
    refine ⟨hl, fun i hi => ?_⟩
    have e := List.getElem?_eq_getElem (l := vs) (i := i) (by omega)
    obtain ⟨t, ht, hz⟩ := hall.get e
    rw [List.getElem?_map, mat_at hi] at ht
    cases ht
    exact ⟨_, e, hz⟩
  cases h with
  | @lst a vs ts ha hall => exact ⟨true, a, vs, rfl, SqL.of ha, row hall⟩
  | @tup a vs ts ha hall => exact ⟨false, a, vs, rfl, ha, row hall⟩
theorem in_range {n c i : Nat} (h : (List.range n)[c]? = some i) : c < n ∧ i = c := by
  have h1 := (List.getElem?_eq_some_iff.mp h).1
  rw [List.length_range] at h1
  rw [List.getElem?_range h1] at h
  exact ⟨h1, (Option.some.inj h).symm⟩
theorem vec_lenV {n : Nat} {x : Nat → Int} : ((vec n x).map V.int).length = n := by rw [List.length_map, vec_len]
section
variable {P : Program} {w : World} {K : PySem.W.Frag} {mg : Str → Option Value} {base : Heap} {f : Addr} {fd : FuncData} {cF cR : Addr}
abbrev s_vector : Stmt := top 19
abbrev N_vector : List Str := ["numbers", "bottom", "number"]
theorem sc_vector : FnScope N_vector ["numbers", "bottom"] (defScope s_vector) := ⟨rfl, rfl, rfl, by decide +kernel, rfl, by decide +kernel, by decide +kernel⟩
theorem ok_vector (F : Fun K "vector" "vector" s_vector f fd) (T : Txt mg) (C_lowered : Cal P w K mg base 1 "lowered" ["numbers", "bottom"] spLow) : FnOk P w K mg base CX0 2 f fd ["numbers", "bottom"] spLow := by
  refine F.ok sc_vector (fun vs H Q E h => ?_) (fun cdv A outer s H vs Q E hr h => ?_)
  · obtain ⟨l, ns, b, rfl, _⟩ := h
    rfl
  obtain ⟨l, ns, b, rfl, hl, hb, hB, hn, q⟩ := h
  refine ⟨_, (pss_cons (ps_if (pt_cmpR op_eq (pv 1) pe_int (nomark _)) (pss_one ps_never) pss_nil)
  (pss_cons (ps_if (pt_cmpR op_lt (pv 1) pe_int (nomark _)) (pss_one (ps_ret (pe_cal C_lowered (hr.mono (by omega)) rfl (pa_cons (pe_lc (own := [("number", 2)]) (g := gName 2) (tt := tYes) (by rfl) sc_vector.nd (pi_list (pv 0)) (blkOk_by (N := N_vector) (sc := defScope s_vector) (by decide +kernel)) (fun _ _ _ _ _ => (pg_name (i := 2) sc_vector.nd rfl (Or.inl rfl))) (fun _ _ _ _ _ => pts_nil) (fun _ _ _ _ _ => (pe_un un_neg (pv 2)))) (pa_cons (pe_un un_neg (pv 1)) pa_nil))))) pss_nil)
  (pss_one (ps_ret (pe_cal C_lowered (hr.mono (by omega)) rfl (pa_cons (pv 0) (pa_cons (pv 1) pa_nil))))))), ?_⟩
  refine ⟨_, rfl, rfl, _, rfl, ifF (int_ne (by omega)) ?_⟩
  refine ⟨_, rfl, _, _, rfl, rfl, _, rfl, ifF (decide_eq_false (by omega)) ?_⟩
  exact ⟨_, rfl, _, rfl, l, ns, b, rfl, hl, hb, hB, hn, q⟩
def spDot (K : PySem.W.Frag) : Sp := fun vs H Q _ => ∃ (v1 v2 : V) (n k1 k2 : Nat) (x y : Nat → Int), vs = [v1, v2] ∧ Sn K H v1 (tv n x) ∧ Sn K H v2 (tv n y) ∧ n ≤ 1000 ∧ (∀ i, i < n → B k1 (x i)) ∧ (∀ i, i < n → B k2 (y i)) ∧ 0 < k1 ∧ 0 < k2 ∧ k1 + k2 ≤ 100000 ∧
  ∀ H', Same H H' → Q (.int (S n fun i => x i * y i)) H'
abbrev s_dot : Stmt := top 20
abbrev N_dot : List Str := ["one", "two", "first", "second"]
theorem sc_dot : FnScope N_dot ["one", "two"] (defScope s_dot) := ⟨rfl, rfl, rfl, by decide +kernel, rfl, by decide +kernel, by decide +kernel⟩
theorem ok_dot (F : Fun K "dot" "dot" s_dot f fd) (T : Txt mg) : FnOk P w K mg base CX0 1 f fd ["one", "two"] (spDot K) := by
  refine F.ok sc_dot (fun vs H Q E h => ?_) (fun cdv A outer s H vs Q E hr h => ?_)
  · obtain ⟨v1, v2, n, k1, k2, x, y, rfl, _⟩ := h
    rfl
  obtain ⟨v1, v2, n, k1, k2, x, y, rfl, h1, h2, hn, hx, hy, p1, p2, hk, q⟩ := h
  refine ⟨_, (pss_one (ps_ret (pe_callB (cr_sum rfl) (by rfl) T.b_sum (by decide +kernel) (pa_cons (pe_lc (own := [("first", 2), ("second", 3)]) (tt := tYes) (by rfl) sc_dot.nd (WZ.pi_zipB (by rfl) T.b_zip (pa_cons (pv 0) (pa_cons (pv 1) pa_nil))) (blkOk_by (N := N_dot) (sc := defScope s_dot) (by decide +kernel)) (fun _ _ _ _ _ => (pg_tupK (K := K) (n := 2) rfl rfl (pgs_cons (pg_name (i := 2) sc_dot.nd rfl (Or.inl rfl)) (pgs_cons (pg_name (i := 3) sc_dot.nd rfl (Or.inl rfl)) pgs_nil)))) (fun _ _ _ _ _ => pts_nil) (fun _ _ _ _ _ => (pe_op op_mulW (pv 2) (pv 3)))) pa_nil)))), ?_⟩
  obtain ⟨k, a, rfl, ha⟩ := sn_ints h1
  obtain ⟨l, b, rfl, hb⟩ := sn_ints h2
  refine ⟨_, rfl, _, rfl, k, l, a, b, _, _, rfl, ha, hb, fun D hD => ?_⟩
  refine lc_m (WZ.walk_zA (K := K) (k := k) (l := l) (a := a) (b := b) (xs := (vec n x).map V.int) (ys := (vec n y).map V.int) (n := n) vec_lenV.symm vec_lenV.symm) RI (stb_RI (K := K)) (List.range n) (by rw [List.length_range]) (by rw [List.length_range]; omega) hD (fun H' s => ⟨sq_same s ha, sq_same s hb⟩) (fun _ _ _ _ => ys_pair) (fun i => x i * y i) (fun c i v H1 H2 hc s1 s2 yl A B hA => ?_) (fun H' l1 s1 hl1 rs => ?_)
  · obtain ⟨hc1, rfl⟩ := in_range hc
    obtain ⟨Tp, x1, x2, rfl, hT, rfl, e1, e2⟩ := yl
    have e3 := (show ((vec n x).map V.int)[i]? = some x1 from e1).symm.trans (vecV_at hc1)
    have e4 := (show ((vec n y).map V.int)[i]? = some x2 from e2).symm.trans (vecV_at hc1)
    cases e3
    cases e4
    exact ⟨_, _, rfl, SqT.of upd_same, rfl, _, _, rfl, _, _, rfl, rfl, rfl, lc_yes ⟨_, rfl, _, rfl, _, _, rfl, rfl, wmul (hx i hc1) (hy i hc1) p1 p2 (by omega), hA _ _ (fun _ _ h => h) rfl⟩⟩
  · exact ⟨D, _, rfl, SqL.of (by rw [hl1, rs.ints]), q H' s1⟩
theorem lkFs (n e b : V) : ([("size", n), ("entries", e), ("bottom", b)] : List (Str × V)).lookup ("size" : Str) = some n := by rw [lk_hit]
theorem lkFe (n e b : V) : ([("size", n), ("entries", e), ("bottom", b)] : List (Str × V)).lookup ("entries" : Str) = some e := by rw [lk_skip (by decide +kernel), lk_hit]
theorem lkFb (n e b : V) : ([("size", n), ("entries", e), ("bottom", b)] : List (Str × V)).lookup ("bottom" : Str) = some b := by rw [lk_skip (by decide +kernel), lk_skip (by decide +kernel), lk_hit]
theorem lkFx {x : Str} (n e b : V) (h1 : ¬ x = ("size" : Str)) (h2 : ¬ x = ("entries" : Str)) (h3 : ¬ x = ("bottom" : Str)) : ([("size", n), ("entries", e), ("bottom", b)] : List (Str × V)).lookup x = none := by
  rw [lk_skip h1, lk_skip h2, lk_skip h3]
  rfl
def spPoint (K : PySem.W.Frag) (cF : Addr) : Sp := fun vs H Q _ => ∃ (p : Addr) (v : V) (n : Nat) (m : List (List Int)) (b : Int) (ns : List Int), vs = [.ref p, v] ∧ FormAt K H cF p n m b ∧ Sn K H v (.tup (ns.map Td.int)) ∧ ns.length = n ∧ Q .non H
abbrev s_check_point : Stmt := top 25
abbrev N_check_point : List Str := ["form", "point"]
theorem sc_check_point : FnScope N_check_point ["form", "point"] (defScope s_check_point) := ⟨rfl, rfl, rfl, by decide +kernel, rfl, by decide +kernel, by decide +kernel⟩
theorem ok_check_point (F : Fun K "check_point" "check_point" s_check_point f fd) (T : Txt mg) (O : Obs K cF cR) : FnOk P w K mg base CX0 1 f fd ["form", "point"] (spPoint K cF) := by
  refine F.ok sc_check_point (fun vs H Q E h => ?_) (fun cdv A outer s H vs Q E hr h => ?_)
  · obtain ⟨p, v, n, m, b, ns, rfl, _⟩ := h
    rfl
  obtain ⟨p, v, n, m, b, ns, rfl, hp, hv, hn, q⟩ := h
  refine ⟨_, (pss_one (ps_if (pt_cmpR op_ne (pe_callB call_len_seq (by rfl) T.b_len PySem.boot_len (pa_cons (pv 1) pa_nil)) (pe_fld (pv 0) rfl) (nomark _)) (pss_one ps_never) pss_nil)), ?_⟩
  obtain ⟨k, a, rfl, ha⟩ := sn_ints hv
  obtain ⟨dx, e, h1, h2⟩ := hp
  refine ⟨_, rfl, _, _, rfl, sq_or ha, _, rfl, p, cF, dx, _, _, rfl, h1, O.clF, O.F_size, lkFs _ _ _, rfl, _, rfl, ifF ?_ q⟩
  rw [List.length_map, hn]
  simp
/-- the value between two points -/
def bil (n : Nat) (f : Nat → Nat → Int) (x y : Nat → Int) : Int := S n fun i => x i * S n fun j => f i j * y j
def spBetw (K : PySem.W.Frag) (cF : Addr) : Sp := fun vs H Q _ => ∃ (p : Addr) (v1 v2 : V) (n : Nat) (g : Nat → Nat → Int) (b : Int) (x y : Nat → Int), vs = [.ref p, v1, v2] ∧ FormAt K H cF p n (mat n g) b ∧ Sn K H v1 (tv n x) ∧ Sn K H v2 (tv n y) ∧ n ≤ 16 ∧ 0 < b ∧ B 9000 b ∧
  (∀ i, i < n → B 8000 (x i)) ∧ (∀ i, i < n → B 8000 (y i)) ∧ (∀ i j, i < n → j < n → B 8000 (g i j)) ∧ ∀ r H', Same H H' → FrAt H' r (bil n g x y / gI (bil n g x y) b) (b / gI (bil n g x y) b) → Q (.ref r) H'
abbrev s_mbetween : Stmt := mth 27 7
abbrev N_mbetween : List Str := ["self", "one", "two", "line"]
theorem sc_mbetween : FnScope N_mbetween ["self", "one", "two"] (defScope s_mbetween) := ⟨rfl, rfl, rfl, by decide +kernel, rfl, by decide +kernel, by decide +kernel⟩
theorem ok_mbetween (F : Fun K "between" "Form.between" s_mbetween f fd) (T : Txt mg) (O : Obs K cF cR) (C_check_point : Cal P w K mg base 1 "check_point" ["form", "point"] (spPoint K cF)) (C_fraction : Cal P w K mg base 1 "fraction" ["top", "bottom"] spFraction) (C_dot : Cal P w K mg base 1 "dot" ["one", "two"] (spDot K)) :
    FnOk P w K mg base CX0 2 f fd ["self", "one", "two"] (spBetw K cF) := by
  refine F.ok sc_mbetween (fun vs H Q E h => ?_) (fun cdv A outer s H vs Q E hr h => ?_)
  · obtain ⟨p, v1, v2, n, g, b, x, y, rfl, _⟩ := h
    rfl
  obtain ⟨p, v1, v2, n, g, b, x, y, rfl, hp, h1, h2, hn, hb, hB, bx, by_, bg, q⟩ := h
  refine ⟨_, (pss_cons (ps_expr (pe_cal C_check_point (hr.mono (by omega)) rfl (pa_cons (pv 0) (pa_cons (pv 1) pa_nil))))
  (pss_cons (ps_expr (pe_cal C_check_point (hr.mono (by omega)) rfl (pa_cons (pv 0) (pa_cons (pv 2) pa_nil))))
  (pss_one (ps_ret (pe_cal C_fraction (hr.mono (by omega)) rfl (pa_cons (pe_cal C_dot (hr.mono (by omega)) rfl (pa_cons (pv 1) (pa_cons (pe_lc (own := [("line", 3)]) (g := gName 3) (tt := tYes) (by rfl) sc_mbetween.nd (pi_tup (pe_fld (pv 0) rfl)) (blkOk_by (N := N_mbetween) (sc := defScope s_mbetween) (by decide +kernel)) (fun _ _ _ _ _ => (pg_name (i := 3) sc_mbetween.nd rfl (Or.inl rfl))) (fun _ _ _ _ _ => pts_nil) (fun _ _ _ _ _ => (pe_cal C_dot (hr.mono (by omega)) rfl (pa_cons (pv 3) (pa_cons (pv 2) pa_nil))))) pa_nil))) (pa_cons (pe_fld (pv 0) rfl) pa_nil))))))), ?_⟩
  refine ⟨_, rfl, _, rfl, p, v1, n, _, b, _, rfl, hp, h1, vec_len, ?_⟩
  refine ⟨_, rfl, _, rfl, p, v2, n, _, b, _, rfl, hp, h2, vec_len, ?_⟩
  obtain ⟨dx, e, hi, hz⟩ := hp
  obtain ⟨a, vs, ea, he, hl, hrow⟩ := fz_mat hz
  cases ea
  rw [mat_len] at hl
  refine ⟨_, rfl, _, rfl, p, cF, dx, _, _, rfl, hi, O.clF, O.F_entries, lkFe _ _ _, e, rfl, ⟨_, he⟩, fun D hD => ?_⟩
  refine lc_m (walk_tup (K := K) (a := e) (xs := vs)) RI (stb_RI (K := K)) (List.range n) (by rw [hl, List.length_range]) (by rw [List.length_range]; omega) hD (fun H' s => Same_seqT s he) (fun _ _ _ _ => ys_at) (fun i => S n fun j => g i j * y j) (fun c i v H1 H2 hc s1 s2 yl A B hA => ?_) (fun H3 l1 s3 hl1 rs => ?_)
  · obtain ⟨hc1, rfl⟩ := in_range hc
    obtain ⟨p1, hp1, hp2⟩ := hrow i _ (mat_at hc1)
    rw [yl.2] at hp1
    cases hp1
    exact ⟨rfl, lc_yes ⟨_, rfl, _, rfl, _, _, n, 8000, 8000, g i, y, rfl, .tup (Same_seqT s2 hp2) (FzAll.of_ints _).sn, h2.same s2, by omega, fun j hj => bg i j hc1 hj, by_, by decide, by decide, by decide, fun H' s => hA _ _ s rfl⟩⟩
  · have hD2 : H3 D = some (.lst ((vec n fun i => S n fun j => g i j * y j).map V.int)) := by rw [hl1, rs.ints]; rfl
    refine ⟨_, _, n, 8000, 16004, x, _, rfl, h1.same s3, .lst hD2 (FzAll.of_ints _).sn, by omega, bx, fun i hi => ?_, by decide, by decide, by decide, fun H4 s4 => ?_⟩
    · exact BS (k := 16000) (c := 4) (fun j hj => B.mul (m := 8000) (n := 8000) (bg i j hi hj) (by_ j hj)) hn
    · refine ⟨_, rfl, p, cF, dx, _, _, rfl, s4 _ _ (s3 _ _ hi), O.clF, O.F_bottom, lkFb _ _ _, _, _, rfl, hb, hB, fun r H5 s5 hr => q r H5 (s3.trans (s4.trans s5)) hr⟩
end
end P12
namespace P12
open PySem PySem.Spec PyProof.Rows L2 SX EX WK
/-- the sandwich of two tables -/
def half (n : Nat) (f g : Nat → Nat → Int) : Nat → Nat → Int := fun i j => S n fun k => f i k * g j k
section
variable {P : Program} {w : World} {K : PySem.W.Frag} {mg : Str → Option Value} {base : Heap} {f : Addr} {fd : FuncData} {cF cR : Addr}
def spCall (K : PySem.W.Frag) (cF : Addr) : Sp := fun vs H Q _ => ∃ (p : Addr) (v1 : V) (n : Nat) (g : Nat → Nat → Int) (b : Int) (x : Nat → Int), vs = [.ref p, v1] ∧ FormAt K H cF p n (mat n g) b ∧ Sn K H v1 (tv n x) ∧ n ≤ 16 ∧ 0 < b ∧ B 9000 b ∧
  (∀ i, i < n → B 8000 (x i)) ∧ (∀ i j, i < n → j < n → B 8000 (g i j)) ∧ ∀ r H', Same H H' → FrAt H' r (bil n g x x / gI (bil n g x x) b) (b / gI (bil n g x x) b) → Q (.ref r) H'
abbrev s_mcall : Stmt := mth 27 6
abbrev N_mcall : List Str := ["self", "point"]
theorem sc_mcall : FnScope N_mcall ["self", "point"] (defScope s_mcall) := ⟨rfl, rfl, rfl, by decide +kernel, rfl, by decide +kernel, by decide +kernel⟩
theorem ok_mcall (F : Fun K "__call__" "Form.__call__" s_mcall f fd) (T : Txt mg) (O : Obs K cF cR) (C_mbetween : CalM P w K mg base 2 cF "between" ["self", "one", "two"] (spBetw K cF)) : FnOk P w K mg base CX0 3 f fd ["self", "point"] (spCall K cF) := by
  refine F.ok sc_mcall (fun vs H Q E h => ?_) (fun cdv A outer s H vs Q E hr h => ?_)
  · obtain ⟨p, v1, n, g, b, x, rfl, _⟩ := h
    rfl
  obtain ⟨p, v1, n, g, b, x, rfl, hp, h1, hn, hb, hB, bx, bg, q⟩ := h
  refine ⟨_, (pss_one (ps_ret (pe_calM O.clF C_mbetween (hr.mono (by omega)) (pv 0) (pa_cons (pv 1) (pa_cons (pv 1) pa_nil))))), ?_⟩
  obtain ⟨dx, e, hi, hz⟩ := id hp
  exact ⟨_, rfl, p, dx, _, rfl, hi, lkFx _ _ _ (by decide +kernel) (by decide +kernel) (by decide +kernel), _, rfl, _, rfl, p, v1, v1, n, g, b, x, x, rfl, hp, h1, h1, hn, hb, hB, bx, bx, bg, q⟩
/-- at: the numbers over a divisor -/
def spAt (K : PySem.W.Frag) (cF : Addr) : Sp := fun vs H Q _ => ∃ (p t : Addr) (v1 : V) (d : Int) (n : Nat) (g : Nat → Nat → Int) (b : Int) (x : Nat → Int), vs = [.ref p, .ref t] ∧ H t = some (.tup [v1, .int d]) ∧ FormAt K H cF p n (mat n g) b ∧ Sn K H v1 (tv n x) ∧ n ≤ 16 ∧ 0 < b ∧ B 1000 b ∧ 0 < d ∧ B 2000 d ∧
  (∀ i, i < n → B 3000 (x i)) ∧ (∀ i j, i < n → j < n → B 1000 (g i j)) ∧ ∀ r H' u v, Same H H' → 0 < v → u * (b * d * d) = bil n g x x * v → gI u v = 1 → B 5000 v → B 7008 u → FrAt H' r u v → Q (.ref r) H'
abbrev s_mat : Stmt := mth 27 8
abbrev N_mat : List Str := ["self", "passed", "numbers", "divisor", "top", "bottom"]
theorem sc_mat : FnScope N_mat ["self", "passed"] (defScope s_mat) := ⟨rfl, rfl, rfl, by decide +kernel, rfl, by decide +kernel, by decide +kernel⟩
theorem ok_mat (F : Fun K "at" "Form.at" s_mat f fd) (T : Txt mg) (O : Obs K cF cR) (C_fraction : Cal P w K mg base 1 "fraction" ["top", "bottom"] spFraction) (C_mbetween : CalM P w K mg base 2 cF "between" ["self", "one", "two"] (spBetw K cF)) : FnOk P w K mg base CX0 3 f fd ["self", "passed"] (spAt K cF) := by
  refine F.ok sc_mat (fun vs H Q E h => ?_) (fun cdv A outer s H vs Q E hr h => ?_)
  · obtain ⟨p, t, v1, d, n, g, b, x, rfl, _⟩ := h
    rfl
  obtain ⟨p, t, v1, d, n, g, b, x, rfl, ht, hp, h1, hn, hb, hB, hd, hdB, bx, bg, q⟩ := h
  refine ⟨_, (pss_cons (ps_asg (pv 1) (pg_tup rfl (pgs_cons (pg_name (i := 2) sc_mat.nd rfl (Or.inl rfl)) (pgs_cons (pg_name (i := 3) sc_mat.nd rfl (Or.inl rfl)) pgs_nil))))
  (pss_cons (ps_asg (pe_calM O.clF C_mbetween (hr.mono (by omega)) (pv 0) (pa_cons (pv 2) (pa_cons (pv 2) pa_nil))) (pg_tup rfl (pgs_cons (pg_name (i := 4) sc_mat.nd rfl (Or.inl rfl)) (pgs_cons (pg_name (i := 5) sc_mat.nd rfl (Or.inl rfl)) pgs_nil))))
  (pss_one (ps_ret (pe_cal C_fraction (hr.mono (by omega)) rfl (pa_cons (pv 4) (pa_cons (pe_op op_mulW (pe_op op_mulW (pv 5) (pv 3)) (pv 3)) pa_nil))))))), ?_⟩
  obtain ⟨dx, e, hi, hz⟩ := id hp
  refine ⟨_, rfl, _, _, rfl, SqT.of ht, rfl, _, _, rfl, _, _, rfl, rfl, ?_⟩
  refine ⟨_, rfl, p, dx, _, rfl, hi, lkFx _ _ _ (by decide +kernel) (by decide +kernel) (by decide +kernel), _, rfl, _, rfl, p, v1, v1, n, g, b, x, x, rfl, hp, h1, h1, hn, hb, hB.mono (by decide), fun i hi => (bx i hi).mono (by decide), fun i hi => (bx i hi).mono (by decide), fun i j hi hj => (bg i j hi hj).mono (by decide), fun r H1 s1 hr1 => ?_⟩
  have g1 := gI_pos' (t := bil n g x x) hb
  have db := gI_dvd2 (t := bil n g x x) (b := b)
  have dt := gI_dvd1 (t := bil n g x x) (b := b)
  generalize gI (bil n g x x) b = c at g1 db dt hr1
  have h0 := quot_pos g1 db (by omega)
  have hbc : B 1000 (b / c) := B.div g1 hB
  refine ⟨_, _, rfl, SqT.of hr1, rfl, _, _, rfl, _, _, rfl, rfl, ?_⟩
  refine ⟨_, rfl, _, rfl, _, rfl, _, _, rfl, rfl, wmul hbc hdB (by decide) (by decide) (by decide), _, rfl, _, _, rfl, rfl, wmul (m := 3000) (B.mul (m := 1000) (n := 2000) hbc hdB) hdB (by decide) (by decide) (by decide), ?_⟩
  have hbot : 0 < b / c * d * d := Int.mul_pos (Int.mul_pos (by omega) hd) hd
  have hbB : B 5000 (b / c * d * d) := B.mul (m := 3000) (n := 2000) (B.mul (m := 1000) (n := 2000) hbc hdB) hdB
  have hbil : B 7008 (bil n g x x) := BS (k := 7004) (c := 4) (fun i hi => B.mul (m := 3000) (n := 4004) (bx i hi) (BS (k := 4000) (c := 4) (fun j hj => B.mul (m := 1000) (n := 3000) (bg i j hi hj) (bx j hj)) hn)) hn
  refine ⟨_, _, rfl, hbot, hbB.mono (by decide), fun r2 H2 s2 hr2 => ?_⟩
  have g2 := gI_pos' (t := bil n g x x / c) hbot
  have h2 := quot_pos g2 (gI_dvd2 (t := bil n g x x / c) (b := b / c * d * d)) (by omega)
  refine q r2 H2 _ _ (s1.trans s2) (by omega) ?_ (gI_one hbot) (B.div g2 hbB) (B.div g2 (B.div g1 hbil)) hr2
  refine cross2 g2 gI_dvd1 gI_dvd2 ?_
  have e1 := cross g1 dt db
  have e2 : bil n g x x / c * (b * d * d) = bil n g x x / c * b * d * d := by simp only [Int.mul_assoc]
  rw [e2, e1]
  simp only [Int.mul_assoc]
/-- applied: in lowest terms -/
def spAppl (K : PySem.W.Frag) (cF : Addr) : Sp := fun vs H Q _ => ∃ (p t : Addr) (v1 : V) (d : Int) (n : Nat) (g : Nat → Nat → Int) (b : Int) (x : Nat → Int), vs = [.ref p, .ref t] ∧ H t = some (.tup [v1, .int d]) ∧ FormAt K H cF p n (mat n g) b ∧ Sn K H v1 (tv n x) ∧ n ≤ 16 ∧ 0 < b ∧ B 1000 b ∧ 0 < d ∧ B 1000 d ∧
  (∀ i, i < n → B 1000 (x i)) ∧ (∀ i j, i < n → j < n → B 1000 (g i j)) ∧ ∀ r u e H' y, Same H H' → H' r = some (.tup [.ref u, .int e]) → H' u = some (.tup ((vec n y).map V.int)) → 0 < e → B 2000 e → (∀ i, i < n → B 2004 (y i)) → (∀ i, i < n → y i * (b * d) = (S n fun j => g i j * x j) * e) → Q (.ref r) H'
abbrev s_mapplied : Stmt := mth 27 9
abbrev N_mapplied : List Str := ["self", "passed", "numbers", "divisor", "line"]
theorem sc_mapplied : FnScope N_mapplied ["self", "passed"] (defScope s_mapplied) := ⟨rfl, rfl, rfl, by decide +kernel, rfl, by decide +kernel, by decide +kernel⟩
theorem ok_mapplied (F : Fun K "applied" "Form.applied" s_mapplied f fd) (T : Txt mg) (O : Obs K cF cR) (C_dot : Cal P w K mg base 1 "dot" ["one", "two"] (spDot K)) (C_vector : Cal P w K mg base 2 "vector" ["numbers", "bottom"] spLow) : FnOk P w K mg base CX0 3 f fd ["self", "passed"] (spAppl K cF) := by
  refine F.ok sc_mapplied (fun vs H Q E h => ?_) (fun cdv A outer s H vs Q E hr h => ?_)
  · obtain ⟨p, t, v1, d, n, g, b, x, rfl, _⟩ := h
    rfl
  obtain ⟨p, t, v1, d, n, g, b, x, rfl, ht, hp, h1, hn, hb, hB, hd, hdB, bx, bg, q⟩ := h
  refine ⟨_, (pss_cons (ps_asg (pv 1) (pg_tup rfl (pgs_cons (pg_name (i := 2) sc_mapplied.nd rfl (Or.inr rfl)) (pgs_cons (pg_name (i := 3) sc_mapplied.nd rfl (Or.inl rfl)) pgs_nil))))
  (pss_one (ps_ret (pe_cal C_vector (hr.mono (by omega)) rfl (pa_cons (pe_lc (own := [("line", 4)]) (g := gName 4) (tt := tYes) (by rfl) sc_mapplied.nd (pi_tup (pe_fld (pv 0) rfl)) (blkOk_by (N := N_mapplied) (sc := defScope s_mapplied) (by decide +kernel)) (fun _ _ _ _ _ => (pg_name (i := 4) sc_mapplied.nd rfl (Or.inl rfl))) (fun _ _ _ _ _ => pts_nil) (fun _ _ _ _ _ => (pe_cal C_dot (hr.mono (by omega)) rfl (pa_cons (pv 4) (pa_cons (pv 2) pa_nil))))) (pa_cons (pe_op op_mulW (pe_fld (pv 0) rfl) (pv 3)) pa_nil)))))), ?_⟩
  obtain ⟨dx, e, hi, hz⟩ := id hp
  obtain ⟨a, vs, ea, he, hl, hrow⟩ := fz_mat hz
  cases ea
  rw [mat_len] at hl
  refine ⟨_, rfl, _, _, rfl, SqT.of ht, rfl, _, _, rfl, _, _, rfl, rfl, ?_⟩
  refine ⟨_, rfl, p, cF, dx, _, _, rfl, hi, O.clF, O.F_entries, lkFe _ _ _, e, rfl, ⟨_, he⟩, fun D hD => ?_⟩
  refine lc_m (walk_tup (K := K) (a := e) (xs := vs)) RI (stb_RI (K := K)) (List.range n) (by rw [hl, List.length_range]) (by rw [List.length_range]; omega) hD (fun H' s => Same_seqT s he) (fun _ _ _ _ => ys_at) (fun i => S n fun j => g i j * x j) (fun c i v H1 H2 hc s1 s2 yl A B hA => ?_) (fun H3 l1 s3 hl1 rs => ?_)
  · obtain ⟨hc1, rfl⟩ := in_range hc
    obtain ⟨p1, hp1, hp2⟩ := hrow i _ (mat_at hc1)
    rw [yl.2] at hp1
    cases hp1
    exact ⟨rfl, lc_yes ⟨_, rfl, _, rfl, _, _, n, 1000, 1000, g i, x, rfl, .tup (Same_seqT s2 hp2) (FzAll.of_ints _).sn, h1.same s2, by omega, fun j hj => bg i j hc1 hj, bx, by decide, by decide, by decide, fun H' s => hA _ _ s rfl⟩⟩
  have hD2 : H3 D = some (.lst ((vec n fun i => S n fun j => g i j * x j).map V.int)) := by rw [hl1, rs.ints]; rfl
  refine ⟨_, rfl, p, cF, dx, _, _, rfl, s3 _ _ hi, O.clF, O.F_bottom, lkFb _ _ _, _, rfl, _, _, rfl, rfl, wmul hB hdB (by decide) (by decide) (by decide), ?_⟩
  have hbd : 0 < b * d := Int.mul_pos hb hd
  have hbB : B 2000 (b * d) := B.mul (m := 1000) (n := 1000) hB hdB
  refine ⟨D, _, b * d, rfl, hD2, hbd, hbB.mono (by decide), by rw [vec_len]; omega, fun r u H4 s4 hr4 hu4 => ?_⟩
  have hg := gf_pos hbd (vec n fun i => S n fun j => g i j * x j)
  have hdv := gf_dvd (b := b * d) (vec n fun i => S n fun j => g i j * x j)
  have h0 := quot_pos hg hdv.1 (by omega)
  generalize gf (b * d) (vec n fun i => S n fun j => g i j * x j) = c at hg hdv h0 hr4 hu4
  refine q r u _ H4 (fun i => (S n fun j => g i j * x j) / c) (s3.trans s4) hr4 (by rw [hu4]; unfold vec; simp only [List.map_map]; rfl) (by omega) (B.div hg hbB) (fun i hi => B.div hg (BS (k := 2000) (c := 4) (fun j hj => B.mul (m := 1000) (n := 1000) (bg i j hi hj) (bx j hj)) hn)) fun i hi => ?_
  exact cross hg (hdv.2 _ (List.mem_of_getElem? (vec_at hi))) hdv.1
def spSize (K : PySem.W.Frag) (cF : Addr) : Sp := fun vs H Q _ => ∃ (p q : Addr) (n : Nat) (m1 m2 : List (List Int)) (b1 b2 : Int), vs = [.ref p, .ref q] ∧ FormAt K H cF p n m1 b1 ∧ FormAt K H cF q n m2 b2 ∧ Q .non H
abbrev s_same_size : Stmt := top 29
abbrev N_same_size : List Str := ["one", "two"]
theorem sc_same_size : FnScope N_same_size ["one", "two"] (defScope s_same_size) := ⟨rfl, rfl, rfl, by decide +kernel, rfl, by decide +kernel, by decide +kernel⟩
theorem ok_same_size (F : Fun K "same_size" "same_size" s_same_size f fd) (T : Txt mg) (O : Obs K cF cR) : FnOk P w K mg base CX0 1 f fd ["one", "two"] (spSize K cF) := by
  refine F.ok sc_same_size (fun vs H Q E h => ?_) (fun cdv A outer s H vs Q E hr h => ?_)
  · obtain ⟨p, r, n, m1, m2, b1, b2, rfl, _⟩ := h
    rfl
  obtain ⟨p, r, n, m1, m2, b1, b2, rfl, hp, hq, q⟩ := h
  refine ⟨_, (pss_one (ps_if (pt_cmpR op_ne (pe_fld (pv 0) rfl) (pe_fld (pv 1) rfl) (nomark _)) (pss_one ps_never) pss_nil)), ?_⟩
  obtain ⟨dx, e, h1, h2⟩ := hp
  obtain ⟨dx2, e2, h3, h4⟩ := hq
  refine ⟨_, rfl, p, cF, dx, _, _, rfl, h1, O.clF, O.F_size, lkFs _ _ _, _, rfl, r, cF, dx2, _, _, rfl, h3, O.clF, O.F_size, lkFs _ _ _, rfl, _, rfl, ifF ?_ q⟩
  simp
/-- the sum of products, entry by entry -/
def prd (n : Nat) (f g : Nat → Nat → Int) : Int := S n fun i => S n fun j => f i j * g i j
def spPair (K : PySem.W.Frag) (cF : Addr) : Sp := fun vs H Q _ => ∃ (p q : Addr) (n : Nat) (g1 g2 : Nat → Nat → Int) (b1 b2 : Int), vs = [.ref p, .ref q] ∧ FormAt K H cF p n (mat n g1) b1 ∧ FormAt K H cF q n (mat n g2) b2 ∧ n ≤ 16 ∧ 0 < b1 ∧ B 3000 b1 ∧ 0 < b2 ∧ B 3000 b2 ∧
  (∀ i j, i < n → j < n → B 3000 (g1 i j)) ∧ (∀ i j, i < n → j < n → B 3000 (g2 i j)) ∧ ∀ r H', Same H H' → FrAt H' r (prd n g1 g2 / gI (prd n g1 g2) (b1 * b2)) (b1 * b2 / gI (prd n g1 g2) (b1 * b2)) → Q (.ref r) H'
abbrev s_paired : Stmt := top 30
abbrev N_paired : List Str := ["one", "two", "total", "line", "other"]
theorem sc_paired : FnScope N_paired ["one", "two"] (defScope s_paired) := ⟨rfl, rfl, rfl, by decide +kernel, rfl, by decide +kernel, by decide +kernel⟩
theorem ok_paired (F : Fun K "paired" "paired" s_paired f fd) (T : Txt mg) (O : Obs K cF cR) (C_same_size : Cal P w K mg base 1 "same_size" ["one", "two"] (spSize K cF)) (C_fraction : Cal P w K mg base 1 "fraction" ["top", "bottom"] spFraction) (C_dot : Cal P w K mg base 1 "dot" ["one", "two"] (spDot K)) :
    FnOk P w K mg base CX0 2 f fd ["one", "two"] (spPair K cF) := by
  refine F.ok sc_paired (fun vs H Q E h => ?_) (fun cdv A outer s H vs Q E hr h => ?_)
  · obtain ⟨p, r, n, g1, g2, b1, b2, rfl, _⟩ := h
    rfl
  obtain ⟨p, r, n, g1, g2, b1, b2, rfl, hp, hq, hn, hb1, hB1, hb2, hB2, bg1, bg2, q⟩ := h
  refine ⟨_, (pss_cons (ps_expr (pe_cal C_same_size (hr.mono (by omega)) rfl (pa_cons (pv 0) (pa_cons (pv 1) pa_nil))))
  (pss_cons (ps_set (i := 2) sc_paired.nd rfl (Or.inl rfl) (pe_callB (cr_sum rfl) (by rfl) T.b_sum (by decide +kernel) (pa_cons (pe_lc (own := [("line", 3), ("other", 4)]) (tt := tYes) (by rfl) sc_paired.nd (RZ.pi_zipA (by rfl) T.b_zip (pa_cons (pe_fld (pv 0) rfl) (pa_cons (pe_fld (pv 1) rfl) pa_nil))) (blkOk_by (N := N_paired) (sc := defScope s_paired) (by decide +kernel)) (fun _ _ _ _ _ => (pg_tupK (K := K) (n := 2) rfl rfl (pgs_cons (pg_name (i := 3) sc_paired.nd rfl (Or.inl rfl)) (pgs_cons (pg_name (i := 4) sc_paired.nd rfl (Or.inl rfl)) pgs_nil)))) (fun _ _ _ _ _ => pts_nil) (fun _ _ _ _ _ => (pe_cal C_dot (hr.mono (by omega)) rfl (pa_cons (pv 3) (pa_cons (pv 4) pa_nil))))) pa_nil)))
  (pss_one (ps_ret (pe_cal C_fraction (hr.mono (by omega)) rfl (pa_cons (pv 2) (pa_cons (pe_op op_mulW (pe_fld (pv 0) rfl) (pe_fld (pv 1) rfl)) pa_nil))))))), ?_⟩
  refine ⟨_, rfl, _, rfl, p, r, n, _, _, b1, b2, rfl, hp, hq, ?_⟩
  obtain ⟨dx, e, hi, hz⟩ := hp
  obtain ⟨a, vs, ea, he, hl, hrow⟩ := fz_mat hz
  cases ea
  rw [mat_len] at hl
  obtain ⟨dx2, e2, hi2, hz2⟩ := hq
  obtain ⟨a2, vs2, ea2, he2, hl2, hrow2⟩ := fz_mat hz2
  cases ea2
  rw [mat_len] at hl2
  refine ⟨_, rfl, p, cF, dx, _, _, rfl, hi, O.clF, O.F_entries, lkFe _ _ _, _, rfl, r, cF, dx2, _, _, rfl, hi2, O.clF, O.F_entries, lkFe _ _ _, e, e2, vs, vs2, rfl, .inr ⟨he, he2, fun D hD => ?_⟩⟩
  refine lc_m (walk_zT (K := K) (a := e) (b := e2) (xs := vs) (ys := vs2) (n := n) (by rw [hl, hl2]; omega)) RI (stb_RI (K := K)) (List.range n) (by rw [List.length_range]) (by rw [List.length_range]; omega) hD (fun H' s => ⟨Same_seqT s he, Same_seqT s he2⟩) (fun _ _ _ _ => ys_pair) (fun i => S n fun j => g1 i j * g2 i j) (fun c i v H1 H2 hc s1 s2 yl A B hA => ?_) (fun H3 l1 s3 hl1 rs => ?_)
  · obtain ⟨hc1, rfl⟩ := in_range hc
    obtain ⟨p1, hp1, hp2⟩ := hrow i _ (mat_at hc1)
    obtain ⟨p3, hp3, hp4⟩ := hrow2 i _ (mat_at hc1)
    obtain ⟨Tp, x1, x2, rfl, hT, rfl, e1, e2⟩ := yl
    have e3 := (show vs[i]? = some x1 from e1).symm.trans hp1
    have e4 := (show vs2[i]? = some x2 from e2).symm.trans hp3
    cases e3
    cases e4
    exact ⟨_, _, rfl, SqT.of upd_same, rfl, _, _, rfl, _, _, rfl, rfl, rfl, lc_yes ⟨_, rfl, _, rfl, _, _, n, 3000, 3000, g1 i, g2 i, rfl, .tup (Same_seqT s2 hp2) (FzAll.of_ints _).sn, .tup (Same_seqT s2 hp4) (FzAll.of_ints _).sn, by omega, fun j hj => bg1 i j hc1 hj, fun j hj => bg2 i j hc1 hj, by decide, by decide, by decide, fun H' s => hA _ _ s rfl⟩⟩
  refine ⟨D, _, rfl, SqL.of (by rw [hl1, rs.ints]), ?_⟩
  refine ⟨_, rfl, _, rfl, p, cF, dx, _, _, rfl, s3 _ _ hi, O.clF, O.F_bottom, lkFb _ _ _, _, rfl, r, cF, dx2, _, _, rfl, s3 _ _ hi2, O.clF, O.F_bottom, lkFb _ _ _, _, _, rfl, rfl, wmul hB1 hB2 (by decide) (by decide) (by decide), ?_⟩
  exact ⟨_, _, rfl, Int.mul_pos hb1 hb2, (B.mul (m := 3000) (n := 3000) hB1 hB2).mono (by decide), fun z H4 s4 hz4 => q z H4 (s3.trans s4) hz4⟩
def spTimes (K : PySem.W.Frag) : Sp := fun vs H Q _ => ∃ (v1 v2 : V) (n k1 k2 : Nat) (g1 g2 : Nat → Nat → Int), vs = [v1, v2] ∧ Sn K H v1 (tm n g1) ∧ Fz K H v2 (tm n g2) ∧ n ≤ 16 ∧ (∀ i j, i < n → j < n → B k1 (g1 i j)) ∧ (∀ i j, i < n → j < n → B k2 (g2 i j)) ∧ 0 < k1 ∧ 0 < k2 ∧ k1 + k2 ≤ 100000 ∧
  ∀ r H', Same H H' → Sn K H' (.ref r) (tm n (half n g1 g2)) → Q (.ref r) H'
abbrev s_times_symmetric : Stmt := top 31
abbrev N_times_symmetric : List Str := ["one", "two", "line", "column"]
theorem sc_times_symmetric : FnScope N_times_symmetric ["one", "two"] (defScope s_times_symmetric) := ⟨rfl, rfl, rfl, by decide +kernel, rfl, by decide +kernel, by decide +kernel⟩
theorem ok_times_symmetric (F : Fun K "times_symmetric" "times_symmetric" s_times_symmetric f fd) (T : Txt mg) (C_dot : Cal P w K mg base 1 "dot" ["one", "two"] (spDot K)) : FnOk P w K mg base CX0 2 f fd ["one", "two"] (spTimes K) := by
  refine F.ok sc_times_symmetric (fun vs H Q E h => ?_) (fun cdv A outer s H vs Q E hr h => ?_)
  · obtain ⟨v1, v2, n, k1, k2, g1, g2, rfl, _⟩ := h
    rfl
  obtain ⟨v1, v2, n, k1, k2, g1, g2, rfl, h1, h2, hn, bg1, bg2, p1, p2, hk, q⟩ := h
  refine ⟨_, (pss_one (ps_ret (pe_lc (own := [("line", 2)]) (g := gName 2) (tt := tYes) (by rfl) sc_times_symmetric.nd (pi_or (pi_list (pv 0)) (pi_tup (pv 0))) (blkOk_by (N := N_times_symmetric) (sc := defScope s_times_symmetric) (by decide +kernel)) (fun _ _ _ _ _ => (pg_name (i := 2) sc_times_symmetric.nd rfl (Or.inr rfl))) (fun _ _ _ _ _ => pts_nil) (fun _ _ _ _ _ => (pe_lc (own := [("column", 3)]) (g := gName 3) (tt := tYes) (by rfl) sc_times_symmetric.nd (pi_tupK (K := K) rfl (pv 1)) (blk_nest (N := N_times_symmetric) (sc0 := defScope s_times_symmetric) rfl (by decide +kernel)) (fun _ _ _ _ _ => (pg_name (i := 3) sc_times_symmetric.nd rfl (Or.inl rfl))) (fun _ _ _ _ _ => pts_nil) (fun _ _ _ _ _ => (pe_cal C_dot (hr.mono (by omega)) rfl (pa_cons (pv 2) (pa_cons (pv 3) pa_nil))))))))), ?_⟩
  obtain ⟨k, a, vs, rfl, ha, hl, hrow⟩ := sn_mat h1
  obtain ⟨a2, vs2, rfl, he2, hl2, hrow2⟩ := fz_mat h2
  rw [mat_len] at hl2
  cases k with
  | true =>
    have ha : SqL K H a vs := ha
    refine .inl ⟨_, rfl, a, rfl, ⟨_, ha⟩, fun D hD => ?_⟩
    refine lc_gm (walk_list (K := K) (a := a) (xs := vs)) (RL D) stb_RL (List.range n) (by rw [List.length_range]; exact hl) (by rw [List.length_range]; omega) hD (fun H' s => s.seq ha) (fun _ _ _ _ => ys_at) (fun i => vec n (half n g1 g2 i)) (fun c i x H1 H2 hc s1 s2 y hdl A B hA => ?_) (fun H' l s1 hl1 rs => ?_)
    · obtain ⟨hc1, rfl⟩ := in_range hc
      obtain ⟨u, hu, hsu⟩ := hrow i hc1
      rw [y.2] at hu
      cases hu
      refine ⟨rfl, lc_yes ⟨_, rfl, a2, rfl, ⟨_, Same_seqT s2 he2⟩, fun D2 hD2 => ?_⟩⟩
      refine lc_m (walk_tup (K := K) (a := a2) (xs := vs2)) RI (stb_RI (K := K)) (List.range n) (by rw [List.length_range]; exact hl2) (by rw [List.length_range]; omega) hD2 (fun H' s => Same_seqT (s2.trans s) he2) (fun _ _ _ _ => ys_at) (fun j => half n g1 g2 i j) (fun c2 j x2 H3 H4 hc2 s3 s4 y2 A2 B2 hA2 => ?_) (fun H' l s3 hl1 rs => ?_)
      · obtain ⟨hc3, rfl⟩ := in_range hc2
        obtain ⟨pc, hp1, hp2⟩ := hrow2 j _ (mat_at hc3)
        rw [y2.2] at hp1
        cases hp1
        exact ⟨rfl, lc_yes ⟨_, rfl, _, rfl, _, _, n, k1, k2, g1 i, g2 j, rfl, hsu.same (s2.trans s4), .tup (Same_seqT (s2.trans s4) hp2) (FzAll.of_ints _).sn, by omega, fun m hm => bg1 i m hc1 hm, fun m hm => bg2 j m hc3 hm, p1, p2, hk, fun H' s => hA2 _ _ s rfl⟩⟩
      · refine hA _ _ s3 ⟨D2, rfl, fun z => ?_, by rw [hl1, rs.ints]; rfl⟩
        obtain ⟨l0, h0⟩ := hdl
        rw [← z, hD2] at h0
        cases h0
    · exact q D H' s1 (.lst hl1 (rl_sn rs))
  | false =>
    have ha : SqT K H a vs := ha
    refine .inr ⟨_, rfl, a, rfl, ⟨_, ha⟩, fun D hD => ?_⟩
    refine lc_gm (walk_tup (K := K) (a := a) (xs := vs)) (RL D) stb_RL (List.range n) (by rw [List.length_range]; exact hl) (by rw [List.length_range]; omega) hD (fun H' s => Same_seqT s ha) (fun _ _ _ _ => ys_at) (fun i => vec n (half n g1 g2 i)) (fun c i x H1 H2 hc s1 s2 y hdl A B hA => ?_) (fun H' l s1 hl1 rs => ?_)
    · obtain ⟨hc1, rfl⟩ := in_range hc
      obtain ⟨u, hu, hsu⟩ := hrow i hc1
      rw [y.2] at hu
      cases hu
      refine ⟨rfl, lc_yes ⟨_, rfl, a2, rfl, ⟨_, Same_seqT s2 he2⟩, fun D2 hD2 => ?_⟩⟩
      refine lc_m (walk_tup (K := K) (a := a2) (xs := vs2)) RI (stb_RI (K := K)) (List.range n) (by rw [List.length_range]; exact hl2) (by rw [List.length_range]; omega) hD2 (fun H' s => Same_seqT (s2.trans s) he2) (fun _ _ _ _ => ys_at) (fun j => half n g1 g2 i j) (fun c2 j x2 H3 H4 hc2 s3 s4 y2 A2 B2 hA2 => ?_) (fun H' l s3 hl1 rs => ?_)
      · obtain ⟨hc3, rfl⟩ := in_range hc2
        obtain ⟨pc, hp1, hp2⟩ := hrow2 j _ (mat_at hc3)
        rw [y2.2] at hp1
        cases hp1
        exact ⟨rfl, lc_yes ⟨_, rfl, _, rfl, _, _, n, k1, k2, g1 i, g2 j, rfl, hsu.same (s2.trans s4), .tup (Same_seqT (s2.trans s4) hp2) (FzAll.of_ints _).sn, by omega, fun m hm => bg1 i m hc1 hm, fun m hm => bg2 j m hc3 hm, p1, p2, hk, fun H' s => hA2 _ _ s rfl⟩⟩
      · refine hA _ _ s3 ⟨D2, rfl, fun z => ?_, by rw [hl1, rs.ints]; rfl⟩
        obtain ⟨l0, h0⟩ := hdl
        rw [← z, hD2] at h0
        cases h0
    · exact q D H' s1 (.lst hl1 (rl_sn rs))
/-- a form is made of two others -/
def sand (n : Nat) (g1 g2 : Nat → Nat → Int) : Nat → Nat → Int := half n (half n g1 g2) g1
def spSand (K : PySem.W.Frag) (cF : Addr) : Sp := fun vs H Q _ => ∃ (p q : Addr) (n : Nat) (g1 g2 : Nat → Nat → Int) (b1 b2 : Int), vs = [.ref p, .ref q] ∧ FormAt K H cF p n (mat n g1) b1 ∧ FormAt K H cF q n (mat n g2) b2 ∧ n ≤ 16 ∧ 0 < b1 ∧ B 1000 b1 ∧ 0 < b2 ∧ B 1000 b2 ∧
  (∀ i j, i < n → j < n → B 1000 (g1 i j)) ∧ (∀ i j, i < n → j < n → B 1000 (g2 i j)) ∧ (∀ i j, i < n → j < n → g2 i j = g2 j i) ∧ ∀ r H', Same H H' → FormAt K H' cF r n (mat n fun i j => sand n g1 g2 i j / gf (b1 * b1 * b2) (mat n (sand n g1 g2)).flatten) (b1 * b1 * b2 / gf (b1 * b1 * b2) (mat n (sand n g1 g2)).flatten) → Q (.ref r) H'
theorem sand_sym {n : Nat} {g1 g2 : Nat → Nat → Int} (h : ∀ i j, i < n → j < n → g2 i j = g2 j i) (i j : Nat) : sand n g1 g2 i j = sand n g1 g2 j i := by
  have e : ∀ i j, sand n g1 g2 i j = S n fun k => S n fun l => g1 i l * g2 k l * g1 j k := fun i j => by
    refine S_congr fun k _ => ?_
    exact (Ls_mulr (g1 j k) (List.range n) fun l => g1 i l * g2 k l).symm
  rw [e, e]
  refine (Ls_swap (List.range n) (List.range n) fun k l => g1 i l * g2 k l * g1 j k).trans (S_congr2 fun a b ha hb => ?_)
  rw [h b a hb ha, Int.mul_right_comm, Int.mul_comm (g1 i a), Int.mul_right_comm]
theorem half_B {n k1 k2 : Nat} {g1 g2 : Nat → Nat → Int} (hn : n ≤ 16) (h1 : ∀ i j, i < n → j < n → B k1 (g1 i j)) (h2 : ∀ i j, i < n → j < n → B k2 (g2 i j)) {i j : Nat} (hi : i < n) (hj : j < n) : B (k1 + k2 + 4) (half n g1 g2 i j) :=
  BS (c := 4) (fun k hk => B.mul (h1 i k hi hk) (h2 j k hj hk)) hn
abbrev s_sandwich : Stmt := top 32
abbrev N_sandwich : List Str := ["outer", "inner", "half"]
theorem sc_sandwich : FnScope N_sandwich ["outer", "inner"] (defScope s_sandwich) := ⟨rfl, rfl, rfl, by decide +kernel, rfl, by decide +kernel, by decide +kernel⟩
theorem ok_sandwich (F : Fun K "sandwich" "sandwich" s_sandwich f fd) (T : Txt mg) (O : Obs K cF cR) (C_same_size : Cal P w K mg base 1 "same_size" ["one", "two"] (spSize K cF)) (C_times_symmetric : Cal P w K mg base 2 "times_symmetric" ["one", "two"] (spTimes K)) (C_Form : CalK P w K mg base 4 "Form" cF 1 ["bottom"] (spForm K cF)) :
    FnOk P w K mg base CX0 6 f fd ["outer", "inner"] (spSand K cF) := by
  refine F.ok sc_sandwich (fun vs H Q E h => ?_) (fun cdv A outer s H vs Q E hr h => ?_)
  · obtain ⟨p, r, n, g1, g2, b1, b2, rfl, _⟩ := h
    rfl
  obtain ⟨p, r, n, g1, g2, b1, b2, rfl, hp, hq, hn, hb1, hB1, hb2, hB2, bg1, bg2, hsy, q⟩ := h
  refine ⟨_, (pss_cons (ps_expr (pe_cal C_same_size (hr.mono (by omega)) rfl (pa_cons (pv 0) (pa_cons (pv 1) pa_nil))))
  (pss_cons (ps_set (i := 2) sc_sandwich.nd rfl (Or.inl rfl) (pe_cal C_times_symmetric (hr.mono (by omega)) rfl (pa_cons (pe_fld (pv 0) rfl) (pa_cons (pe_fld (pv 1) rfl) pa_nil))))
  (pss_one (ps_ret (pe_calK C_Form (hr.mono (by omega)) rfl (pa_cons (pe_cal C_times_symmetric (hr.mono (by omega)) rfl (pa_cons (pv 2) (pa_cons (pe_fld (pv 0) rfl) pa_nil))) pa_nil) (pk_cons (pe_op op_mulW (pe_op op_mulW (pe_fld (pv 0) rfl) (pe_fld (pv 0) rfl)) (pe_fld (pv 1) rfl)) pk_nil)))))), ?_⟩
  refine ⟨_, rfl, _, rfl, p, r, n, _, _, b1, b2, rfl, hp, hq, ?_⟩
  obtain ⟨dx, e, hi, hz⟩ := hp
  obtain ⟨dx2, e2, hi2, hz2⟩ := hq
  refine ⟨_, rfl, p, cF, dx, _, _, rfl, hi, O.clF, O.F_entries, lkFe _ _ _, _, rfl, r, cF, dx2, _, _, rfl, hi2, O.clF, O.F_entries, lkFe _ _ _, _, _, n, 1000, 1000, g1, g2, rfl, hz.sn, hz2, hn, bg1, bg2, by decide, by decide, by decide, fun u H1 s1 hu => ?_⟩
  have hz1 := hz.tk (WK.Same.tk s1)
  refine ⟨_, rfl, _, rfl, p, cF, dx, _, _, rfl, s1 _ _ hi, O.clF, O.F_entries, lkFe _ _ _, _, _, n, 2004, 1000, half n g1 g2, g1, rfl, hu, hz1, hn, fun i j hi hj => half_B hn bg1 bg2 hi hj, bg1, by decide, by decide, by decide, fun v H2 s2 hv => ?_⟩
  have s12 := s1.trans s2
  refine ⟨_, rfl, p, cF, dx, _, _, rfl, s12 _ _ hi, O.clF, O.F_bottom, lkFb _ _ _, _, rfl, p, cF, dx, _, _, rfl, s12 _ _ hi, O.clF, O.F_bottom, lkFb _ _ _, _, _, rfl, rfl, wmul hB1 hB1 (by decide) (by decide) (by decide), ?_⟩
  have hB11 : B 2000 (b1 * b1) := B.mul (m := 1000) (n := 1000) hB1 hB1
  refine ⟨_, rfl, r, cF, dx2, _, _, rfl, s12 _ _ hi2, O.clF, O.F_bottom, lkFb _ _ _, _, _, rfl, rfl, wmul hB11 hB2 (by decide) (by decide) (by decide), ?_⟩
  refine ⟨rfl, rfl, fun x dx3 hx hdx hne => ?_⟩
  have hpos : 0 < b1 * b1 * b2 := Int.mul_pos (Int.mul_pos hb1 hb1) hb2
  have hBB : B 3000 (b1 * b1 * b2) := B.mul (m := 2000) (n := 1000) hB11 hB2
  refine ⟨x, dx3, _, mat n (sand n g1 g2), b1 * b1 * b2, rfl, upd_same, hv.same (new_two hx hdx), mat_sqr, mat_sym (fun i j _ _ => sand_sym hsy i j), by rw [mat_len]; omega, hpos, hBB.mono (by decide), fun H3 hF hbut => ⟨rfl, ?_⟩⟩
  rw [mat_len, dm_mat] at hF
  exact q x H3 (s12.trans (made_same hx hdx hbut)) hF
end
end P12
namespace P12
open PySem PySem.Spec PyProof.Rows L2 SX EX WK
/-! ### the steps of the greatest common divisor -/
/-- behind i steps from (a0, b0): (a, b) -/
def Eu (a0 b0 : Nat) (i a b : Nat) : Prop := Nat.gcd a b = Nat.gcd a0 b0 ∧ ((i = 0 ∧ a = a0 ∧ b = b0) ∨ (1 ≤ i ∧ b < a ∧ a * b * 2 ^ (i - 1) ≤ 2 ^ 13000))
theorem eu_start {a0 b0 : Nat} : Eu a0 b0 0 a0 b0 := ⟨rfl, .inl ⟨rfl, rfl, rfl⟩⟩
theorem eu_step {a0 b0 i a b : Nat} (hb0 : b0 < 2 ^ 6500) (h : Eu a0 b0 i a b) (hb : b ≠ 0) : Eu a0 b0 (i + 1) b (a % b) := by
  obtain ⟨g, h⟩ := h
  have hlt : a % b < b := Nat.mod_lt _ (by omega)
  refine ⟨by rw [← g, Nat.gcd_comm b, ← Nat.gcd_rec b a, Nat.gcd_comm], .inr ⟨by omega, hlt, ?_⟩⟩
  rw [show i + 1 - 1 = i by omega]
  rcases h with ⟨rfl, rfl, rfl⟩ | ⟨hi, hab, hm⟩
  · have h1 : b * (a % b) ≤ b * b := Nat.mul_le_mul_left b (by omega)
    have h2 : b * b ≤ 2 ^ 6500 * 2 ^ 6500 := Nat.mul_le_mul (by omega) (by omega)
    rw [← Nat.pow_add] at h2
    rw [Nat.pow_zero, Nat.mul_one]
    exact Nat.le_trans h1 h2
  · have h1 : 2 * (a % b) ≤ a := by
      have e := Nat.div_add_mod a b
      have q : 1 ≤ a / b := Nat.div_pos (by omega) (by omega)
      have := Nat.mul_le_mul_left b q
      omega
    have h2 : b * (a % b) * 2 ≤ a * b := by
      rw [Nat.mul_assoc, Nat.mul_comm a b, Nat.mul_comm (a % b) 2]
      exact Nat.mul_le_mul_left b h1
    have e : 2 ^ i = 2 * 2 ^ (i - 1) := by
      rw [← Nat.pow_succ', Nat.succ_eq_add_one, show i - 1 + 1 = i by omega]
    rw [e, ← Nat.mul_assoc]
    exact Nat.le_trans (Nat.mul_le_mul_right _ h2) hm
theorem eu_end {a0 b0 a b : Nat} (h : Eu a0 b0 100000 a b) : b = 0 := by
  obtain ⟨_, h⟩ := h
  rcases h with ⟨h, _⟩ | ⟨_, hab, hm⟩
  · exact absurd h (by decide)
  · rcases Nat.eq_zero_or_pos b with h | h
    · exact h
    · exfalso
      have h1 : 1 ≤ a * b := Nat.mul_pos (by omega) h
      have h2 : 2 ^ (100000 - 1) ≤ a * b * 2 ^ (100000 - 1) := Nat.le_mul_of_pos_left _ h1
      have h3 : (2 : Nat) ^ 13000 < 2 ^ (100000 - 1) := Nat.pow_lt_pow_right (by decide) (by decide)
      omega
theorem eu_gcd {a0 b0 i a : Nat} (h : Eu a0 b0 i a 0) : a = Nat.gcd a0 b0 := by
  rw [← h.1, Nat.gcd_zero_right]
theorem gI_leb {t b : Int} (hb : 0 < b) : gI t b ≤ b := by
  have : Nat.gcd t.natAbs b.natAbs ≤ b.natAbs := Nat.le_of_dvd (by omega) (Nat.gcd_dvd_right _ _)
  unfold gI
  omega
theorem seq_asg {te : TE} {i : Nat} {u : TS} {D : Ends} {σ : L2.St} {H : Hp} (h : te σ H fun x H1 => u D (σ.set i (some x)) H1) : tSeq (tAsg te (gName i)) u D σ H := h
theorem kit1 {K : PySem.W.Frag} : PySem.W.kitOne K (.type "int") (.type "int") = some true := kit_ty (by decide +kernel)
theorem kit2 {K : PySem.W.Frag} : PySem.W.kitOne K (.type "int") (.type "bool") = some false := kit_ty (by decide +kernel)
theorem kit6 {K : PySem.W.Frag} : PySem.W.kitOne K (.type "tuple") (.type "tuple") = some true := kit_ty (by decide +kernel)
/-! ### _law_cell: some int -/
def spCell (K : PySem.W.Frag) : Sp := fun vs H Q _ => ∃ (a : Addr) (ns : List Int) (k : Int), vs = [.ref a, .int k] ∧ SqL K H a (ns.map V.int) ∧ 0 ≤ k ∧ k ≤ 1000 ∧ ∀ i : Int, Q (.int i) H
abbrev s__law_cell : Stmt := top 40
abbrev N__law_cell : List Str := ["script", "k", "seed", "cell"]
theorem sc__law_cell : FnScope N__law_cell ["script", "k"] (defScope s__law_cell) := ⟨rfl, rfl, rfl, by decide +kernel, rfl, by decide +kernel, by decide +kernel⟩
/-- digits: each is below its size -/
abbrev Dig (ns zs : List Int) : Prop := Paired (fun n z => 0 ≤ n ∧ n < z) ns zs
theorem Dig.snoc : ∀ {ns zs : List Int} {n z : Int}, Dig ns zs → 0 ≤ n → n < z → Dig (ns ++ [n]) (zs ++ [z])
  | _, _, _, _, .nil, h1, h2 => .cons ⟨h1, h2⟩ .nil
  | _, _, _, _, .cons r t, h1, h2 => .cons r (Dig.snoc t h1 h2)
theorem Dig.get : ∀ {ns zs : List Int} {i : Nat} {z : Int}, Dig ns zs → zs[i]? = some z → ∃ n, ns[i]? = some n ∧ 0 ≤ n ∧ n < z
  | _, _, _, _, .nil, e => by simp at e
  | _, _, 0, _, .cons r _, e => by cases e; exact ⟨_, rfl, r.1, r.2⟩
  | _, _, i + 1, z, .cons _ t, e => by
    obtain ⟨n, h1, h2⟩ := Dig.get (i := i) (z := z) t (by simpa using e)
    exact ⟨n, by simpa using h1, h2⟩
theorem Dig.len {ns zs : List Int} (d : Dig ns zs) : ns.length = zs.length := Paired.length d
theorem take_snoc {α : Type} {l : List α} {i : Nat} {x : α} (h : l[i]? = some x) : l.take (i + 1) = l.take i ++ [x] := by
  rw [List.take_add_one, h]
  rfl
theorem map_int {ns : List Int} {i : Nat} {x : V} (h : (ns.map V.int)[i]? = some x) : ∃ z, ns[i]? = some z ∧ x = .int z := by
  rw [List.getElem?_map] at h
  cases e : ns[i]? with
  | none => rw [e] at h; cases h
  | some z => rw [e] at h; exact ⟨z, rfl, (Option.some.inj h).symm⟩
theorem int_at {ns : List Int} {i : Nat} {z : Int} (h : ns[i]? = some z) : (ns.map V.int)[i]? = some (.int z) := by
  rw [List.getElem?_map, h]
  rfl
theorem snoc_int (ns : List Int) (n : Int) : ns.map V.int ++ [V.int n] = (ns ++ [n]).map V.int := by
  rw [List.map_append]
  rfl
/-! ### _law_digits: one digit for each size -/
def spDigits (K : PySem.W.Frag) : Sp := fun vs H Q _ => ∃ (c : Int) (a : Addr) (zs : List Int), vs = [.int c, .ref a] ∧ SqL K H a (zs.map V.int) ∧ zs.length ≤ 1000 ∧ (∀ z ∈ zs, 0 < z ∧ z.natAbs < 2 ^ 2000) ∧
  ∀ p ns, H p = none → Dig ns zs → Q (.ref p) (upd H p (.lst (ns.map V.int)))
abbrev s__law_digits : Stmt := top 41
abbrev N__law_digits : List Str := ["cell", "sizes", "row", "rest", "size", "seed", "k", "twice"]
theorem sc__law_digits : FnScope N__law_digits ["cell", "sizes"] (defScope s__law_digits) := ⟨rfl, rfl, rfl, by decide +kernel, rfl, by decide +kernel, by decide +kernel⟩
section
variable {P : Program} {w : World} {K : PySem.W.Frag} {mg : Str → Option Value} {base : Heap} {f : Addr} {fd : FuncData}
theorem ok__law_cell (F : Fun K "_law_cell" "_law_cell" s__law_cell f fd) (T : Txt mg) : FnOk P w K mg base CX0 1 f fd ["script", "k"] (spCell K) := by
  refine F.ok sc__law_cell (fun vs H Q E h => ?_) (fun cdv A outer s H vs Q E hr h => ?_)
  · obtain ⟨a, ns, k, rfl, _⟩ := h
    rfl
  obtain ⟨a, ns, k, rfl, hs, h0, h1, q⟩ := h
  refine ⟨_, (pss_cons (ps_if (pt_cmpR op_lt (pv 1) (pe_callB call_len_seq (by rfl) T.b_len PySem.boot_len (pa_cons (pv 0) pa_nil)) (nomark _)) (pss_one (ps_ret (pe_ix ix_list (pv 0) (pv 1) (fun _ _ => rfl)))) pss_nil)
  (pss_cons (ps_set (i := 2) sc__law_cell.nd rfl (Or.inl rfl) pe_int)
  (pss_cons (ps_for PassesOwn.never rfl (pi_list (pv 0)) (pg_name (i := 3) sc__law_cell.nd rfl (Or.inl rfl)) (pss_one (ps_set (i := 2) sc__law_cell.nd rfl (Or.inl rfl) (pe_op op_mod (pe_callTy call_int1 (by rfl) T.b_int (by decide +kernel) (pa_cons (pe_op op_add (pe_op op_mul (pv 2) pe_int) (pe_op op_mod (pe_callTy call_int1 (by rfl) T.b_int (by decide +kernel) (pa_cons (pv 3) pa_nil)) pe_int)) pa_nil)) pe_int))))
  (pss_one (ps_ret (pe_op op_mod (pe_callTy call_int1 (by rfl) T.b_int (by decide +kernel) (pa_cons (pe_op op_mul (pe_op op_mul (pe_op op_add (pv 2) pe_int) (pe_op op_add (pv 1) pe_int)) pe_int) pa_nil)) pe_int)))))), ?_⟩
  refine ⟨_, rfl, _, rfl, a, _, rfl, .inl hs, _, _, rfl, rfl, _, rfl, ?_⟩
  refine ite2 (fun c => ?_) (fun c => ?_)
  · have c' : k < (((ns.map V.int).length : Nat) : Int) := of_decide_eq_true c
    rw [List.length_map] at c'
    obtain ⟨z, hz⟩ : ∃ z, ns[k.toNat]? = some z := ⟨ns[k.toNat]'(by omega), List.getElem?_eq_getElem (by omega)⟩
    exact ⟨_, rfl, _, rfl, a, _, k, _, rfl, rfl, hs, at_pos h0 (int_at hz), q z⟩
  · refine ⟨_, rfl, a, rfl, ⟨_, hs⟩, for_list (K := K) (a := a) (xs := ns.map V.int) (fun i σ H' => ∃ (z : Int) (v : Option V), σ = [some (.ref a), some (.int k), some (.int z), v] ∧ H' = H)
      ⟨17, none, rfl, rfl⟩ (fun i σ H' _ ⟨_, _, _, e⟩ => by rw [e]; exact hs) ?_ ?_⟩
    · rintro i y σ H' hi ⟨z, v, rfl, rfl⟩
      obtain ⟨x, hx, rfl⟩ := map_int hi
      refine ⟨_, rfl, _, _, rfl, rfl, .inr (by decide), _, rfl, .inl ⟨_, rfl, _, _, rfl, rfl, (by show (0 : Int) < 1000003; decide), _, _, rfl, rfl, .inl ⟨_, rfl, _, _, rfl, rfl, (by show (0 : Int) < 1000003; decide), ?_⟩⟩⟩
      exact ⟨_, _, rfl, rfl⟩
    · rintro σ H' ⟨z, v, rfl, rfl⟩
      refine ⟨_, rfl, _, _, rfl, rfl, _, rfl, _, _, rfl, rfl, _, _, rfl, rfl, .inr (by omega), _, _, rfl, rfl, .inr (by decide), .inl ⟨_, rfl, _, _, rfl, rfl, (by show (0 : Int) < 2147483647; decide), ?_⟩⟩
      exact q _
theorem ok__law_digits (F : Fun K "_law_digits" "_law_digits" s__law_digits f fd) (T : Txt mg) : FnOk P w K mg base CX0 1 f fd ["cell", "sizes"] (spDigits K) := by
  refine F.ok sc__law_digits (fun vs H Q E h => ?_) (fun cdv A outer s H vs Q E hr h => ?_)
  · obtain ⟨c, a, zs, rfl, _⟩ := h
    rfl
  obtain ⟨c, a, zs, rfl, hs, hz9, hz, q⟩ := h
  refine ⟨_, (pss_cons (ps_set (i := 2) sc__law_digits.nd rfl (Or.inl rfl) (pe_lst pa_nil))
  (pss_cons (ps_set (i := 3) sc__law_digits.nd rfl (Or.inl rfl) (pe_callTy call_int1 (by rfl) T.b_int (by decide +kernel) (pa_cons (pv 0) pa_nil)))
  (pss_cons (ps_if (pt_cmpR op_ge (pv 3) (pe_op op_pow pe_int pe_int) (nomark _)) (pss_cons (ps_set (i := 3) sc__law_digits.nd rfl (Or.inl rfl) (pe_op op_sub (pv 3) (pe_op op_pow pe_int pe_int)))
  (pss_cons (ps_for PassesOwn.never rfl (pi_list (pv 1)) (pg_name (i := 4) sc__law_digits.nd rfl (Or.inl rfl)) (pss_cons (ps_expr (pe_bm PySem.F.plainAttrs_list PySem.F.slot_list_append PySem.F.type_list_append mt_append (pv 2) (pa_cons (pe_op op_mod (pe_callTy call_int1 (by rfl) T.b_int (by decide +kernel) (pa_cons (pv 3) pa_nil)) (pv 4)) pa_nil)))
  (pss_one (ps_set (i := 3) sc__law_digits.nd rfl (Or.inl rfl) (pe_op op_fdivW (pe_callTy call_int1 (by rfl) T.b_int (by decide +kernel) (pa_cons (pv 3) pa_nil)) (pv 4))))))
  (pss_one (ps_ret (pv 2))))) pss_nil)
  (pss_cons (ps_set (i := 5) sc__law_digits.nd rfl (Or.inl rfl) (pe_op op_mod (pe_callTy call_int1 (by rfl) T.b_int (by decide +kernel) (pa_cons (pv 3) pa_nil)) pe_int))
  (pss_cons (ps_for PassesOwn.never rfl (pi_range1 (by rfl) T.b_range (pa_cons (pe_callB call_len_seq (by rfl) T.b_len PySem.boot_len (pa_cons (pv 1) pa_nil)) pa_nil)) (pg_name (i := 6) sc__law_digits.nd rfl (Or.inl rfl)) (pss_cons (ps_set (i := 5) sc__law_digits.nd rfl (Or.inl rfl) (pe_op op_mod (pe_callTy call_int1 (by rfl) T.b_int (by decide +kernel) (pa_cons (pe_op op_add (pe_op op_add (pe_op op_mul (pv 5) pe_int) (pe_op op_mul pe_int (pv 6))) pe_int) pa_nil)) pe_int))
  (pss_cons (ps_set (i := 7) sc__law_digits.nd rfl (Or.inl rfl) (pe_op op_mod (pe_callTy call_int1 (by rfl) T.b_int (by decide +kernel) (pa_cons (pe_op op_mul (pv 5) (pe_op op_add (pe_op op_fdiv (pv 5) pe_int) pe_int)) pa_nil)) pe_int))
  (pss_one (ps_expr (pe_bm PySem.F.plainAttrs_list PySem.F.slot_list_append PySem.F.type_list_append mt_append (pv 2) (pa_cons (pe_op op_mod (pe_op op_fdiv (pv 7) pe_int) (pe_ix ix_list (pv 1) (pv 6) (fun _ _ => rfl))) pa_nil)))))))
  (pss_one (ps_ret (pv 2)))))))), ?_⟩
  have keep : ∀ {p : Addr} {o : HO}, H p = none → SqL K (upd H p o) a (zs.map V.int) := fun hp => (same_new hp _).seq hs
  refine ⟨(by show 0 ≤ sizeLine; exact Nat.zero_le _), fun p hp => ?_⟩
  refine ⟨_, rfl, .inl ⟨_, rfl, ?_⟩⟩
  refine ⟨_, rfl, _, _, rfl, rfl, ⟨by decide, by decide, by decide⟩, _, _, rfl, rfl, _, rfl, ?_⟩
  refine ite2 (fun _ => ?_) (fun _ => ?_)
  · refine ⟨_, rfl, _, _, rfl, rfl, ⟨by decide, by decide, by decide⟩, _, _, rfl, rfl, ?_⟩
    refine ⟨_, rfl, a, rfl, ⟨_, keep hp⟩, for_list (K := K) (a := a) (xs := zs.map V.int) (fun i σ H' => ∃ (z : Int) (v : Option V) (ns : List Int), σ = [some (.int c), some (.ref a), some (.ref p), some (.int z), v, none, none, none] ∧ H' = upd H p (.lst (ns.map V.int)) ∧ Dig ns (zs.take i))
      ⟨_, none, [], rfl, rfl, .nil⟩ (fun i σ H' _ ⟨_, _, _, _, e, _⟩ => by rw [e]; exact keep hp) ?_ ?_⟩
    · rintro i y σ H' hi ⟨z, v, ns, rfl, rfl, hd⟩
      obtain ⟨x, hx, rfl⟩ := map_int hi
      have hx2 := hz x (List.mem_of_getElem? hx)
      have hlen : ns.length ≤ 1000 := by
        have := hd.len
        rw [List.length_take] at this
        omega
      refine ⟨_, rfl, .inl ⟨rfl, _, SqL.of upd_same⟩, _, rfl, .inl ⟨_, rfl, _, rfl, _, _, rfl, rfl, hx2.1, p, _, _, rfl, rfl, upd_same, by rw [List.length_map]; exact small1000 hlen, ?_⟩⟩
      refine ⟨_, rfl, .inl ⟨_, rfl, _, rfl, _, _, rfl, rfl, wide_div hx2.1 hx2.2 (by decide) (by decide), ?_⟩⟩
      exact ⟨_, _, ns ++ [z % x], rfl, by rw [upd_upd, snoc_int], by rw [take_snoc hx]; exact hd.snoc (Int.emod_nonneg _ (by omega)) (Int.emod_lt_of_pos _ hx2.1)⟩
    · rintro σ H' ⟨z, v, ns, rfl, rfl, hd⟩
      rw [List.length_map, List.take_length] at hd
      exact ⟨_, rfl, q p ns hp hd⟩
  · refine ⟨_, rfl, .inl ⟨_, rfl, _, _, rfl, rfl, (by show (0 : Int) < 2147483629; decide), ?_⟩⟩
    refine ⟨_, rfl, a, _, rfl, .inl (keep hp), _, rfl, by rw [List.length_map]; omega, by rw [List.length_map]; omega, for_range (lo := 0) (n := (((zs.map V.int).length : Nat) : Int).toNat)
      (fun i σ H' => ∃ (sd : Int) (v6 v7 : Option V) (r : Int) (ns : List Int), σ = [some (.int c), some (.ref a), some (.ref p), some (.int r), none, some (.int sd), v6, v7] ∧ 0 ≤ sd ∧ sd < 2147483648 ∧ H' = upd H p (.lst (ns.map V.int)) ∧ Dig ns (zs.take i))
      ⟨_, none, none, _, [], rfl, Int.emod_nonneg _ (by decide), Int.lt_trans (Int.emod_lt_of_pos _ (by decide)) (by decide), rfl, .nil⟩ ?_ ?_⟩
    · rintro i σ H' hi ⟨sd, v6, v7, r, ns, rfl, hs0, hs1, rfl, hd⟩
      rw [Int.toNat_natCast, List.length_map] at hi
      obtain ⟨x, hx⟩ : ∃ x, zs[i]? = some x := ⟨zs[i], List.getElem?_eq_getElem hi⟩
      have hx2 := hz x (List.mem_of_getElem? hx)
      have hlen : ns.length ≤ 1000 := by
        have := hd.len
        rw [List.length_take] at this
        omega
      refine ⟨_, rfl, _, _, rfl, rfl, .inr (by decide), _, rfl, _, _, rfl, rfl, .inl (by decide), _, _, rfl, rfl, _, _, rfl, rfl, .inl ⟨_, rfl, _, _, rfl, rfl, (by show (0 : Int) < 2147483647; decide), ?_⟩⟩
      have b0 : 0 ≤ (sd * 48271 + 974711 * (0 + (i : Int)) + 12345) % 2147483647 := Int.emod_nonneg _ (by decide)
      have b1 : (sd * 48271 + 974711 * (0 + (i : Int)) + 12345) % 2147483647 < 2147483648 := Int.lt_trans (Int.emod_lt_of_pos _ (by decide)) (by decide)
      refine ⟨_, rfl, _, rfl, _, _, rfl, rfl, ⟨by decide, by decide⟩, _, _, rfl, rfl, _, _, rfl, rfl, .inl ⟨Int.lt_of_lt_of_le (by decide) b0, Int.lt_trans b1 (by decide)⟩, .inl ⟨_, rfl, _, _, rfl, rfl, (by show (0 : Int) < 2147483629; decide), ?_⟩⟩
      refine ⟨_, rfl, .inl ⟨rfl, _, SqL.of upd_same⟩, _, rfl, _, _, rfl, rfl, ⟨by decide, by decide⟩, _, rfl, _, rfl, a, _, _, _, rfl, rfl, keep hp, at_pos (by omega) (int_at (by rw [show ((0 : Int) + (i : Nat)).toNat = i by omega]; exact hx)), _, _, rfl, rfl, hx2.1, p, _, _, rfl, rfl, upd_same, by rw [List.length_map]; exact small1000 hlen, ?_⟩
      exact ⟨_, _, _, r, _, rfl, b0, b1, by rw [upd_upd, snoc_int], by rw [take_snoc hx]; exact hd.snoc (Int.emod_nonneg _ (by omega)) (Int.emod_lt_of_pos _ hx2.1)⟩
    · rintro σ H' ⟨sd, v6, v7, r, ns, rfl, hs0, hs1, rfl, hd⟩
      rw [Int.toNat_natCast, List.length_map, List.take_length] at hd
      exact ⟨_, rfl, q p ns hp hd⟩
end
section
variable {P : Program} {w : World} {K : PySem.W.Frag} {mg : Str → Option Value} {base : Heap} {f : Addr} {fd : FuncData}
def spLaw_whole : Sp := fun vs H Q _ => ∃ i : Int, vs = [.int i] ∧ Q (.bl true) H
abbrev s__law_whole : Stmt := top 39
abbrev N__law_whole : List Str := ["value"]
theorem sc__law_whole : FnScope N__law_whole ["value"] (defScope s__law_whole) := ⟨rfl, rfl, rfl, by decide +kernel, rfl, by decide +kernel, by decide +kernel⟩
theorem ok__law_whole (F : Fun K "_law_whole" "_law_whole" s__law_whole f fd) (T : Txt mg) : FnOk P w K mg base CX0 1 f fd ["value"] spLaw_whole := by
  refine F.ok sc__law_whole (fun vs H Q E h => ?_) (fun cdv A outer s H vs Q E hr h => ?_)
  · obtain ⟨i, rfl, _⟩ := h
    rfl
  obtain ⟨i, rfl, q⟩ := h
  refine ⟨_, (pss_one (ps_ret (pe_and (pe_callB call_isi (by rfl) T.b_isinstance (by decide +kernel) (pa_cons (pv 0) (pa_cons (pe_bltn (v := .ty "int") (by rfl) T.b_int (by decide +kernel) rfl) pa_nil))) (pe_one (pe_not (pe_callB call_isi (by rfl) T.b_isinstance (by decide +kernel) (pa_cons (pv 0) (pa_cons (pe_bltn (v := .ty "bool") (by rfl) T.b_bool (by decide +kernel) rfl) pa_nil)))))))), ?_⟩
  refine ⟨_, rfl, _, _, _, _, true, rfl, .ty _, .base (.int i), kit1, true, rfl, ifT rfl ?_⟩
  exact ⟨_, rfl, _, _, _, _, false, rfl, .ty _, .base (.int i), kit2, false, rfl, q⟩
theorem okH__law_whole (F : Fun K "_law_whole" "_law_whole" s__law_whole f fd) (T : Txt mg) : L2H.FnH P w K mg base CX0 1 f fd ["value"] spLaw_whole := by
  refine okH F sc__law_whole (fun vs H Q E h => ?_) (fun cdv A outer s H vs Q E p hr hot h => ?_)
  · obtain ⟨i, rfl, _⟩ := h
    rfl
  obtain ⟨i, rfl, q⟩ := h
  refine ⟨_, (pss_one (ps_ret (pe_and (pe_callB call_isi (by rfl) T.b_isinstance (by decide +kernel) (pa_cons (pv 0) (pa_cons (pe_bltn (v := .ty "int") (by rfl) T.b_int (by decide +kernel) rfl) pa_nil))) (pe_one (pe_not (pe_callB call_isi (by rfl) T.b_isinstance (by decide +kernel) (pa_cons (pv 0) (pa_cons (pe_bltn (v := .ty "bool") (by rfl) T.b_bool (by decide +kernel) rfl) pa_nil)))))))), ?_⟩
  refine ⟨_, rfl, _, _, _, _, true, rfl, .ty _, .base (.int i), kit1, true, rfl, ifT rfl ?_⟩
  exact ⟨_, rfl, _, _, _, _, false, rfl, .ty _, .base (.int i), kit2, false, rfl, q⟩
def spGcd : Sp := fun vs H Q _ => ∃ a b : Int, vs = [.int a, .int b] ∧ B 6500 b ∧ Q (.int (gI a b)) H
abbrev s__law_gcd : Stmt := top 42
abbrev N__law_gcd : List Str := ["one", "two", "turn", "rest"]
theorem sc__law_gcd : FnScope N__law_gcd ["one", "two"] (defScope s__law_gcd) := ⟨rfl, rfl, rfl, by decide +kernel, rfl, by decide +kernel, by decide +kernel⟩
theorem abs_nat (a : Int) : (if a < 0 then -a else a) = ((a.natAbs : Nat) : Int) := by
  split <;> omega
theorem ok__law_gcd (F : Fun K "_law_gcd" "_law_gcd" s__law_gcd f fd) (T : Txt mg) : FnOk P w K mg base CX0 1 f fd ["one", "two"] spGcd := by
  refine F.ok sc__law_gcd (fun vs H Q E h => ?_) (fun cdv A outer s H vs Q E hr h => ?_)
  · obtain ⟨a, b, rfl, _⟩ := h
    rfl
  obtain ⟨a, b, rfl, hB, q⟩ := h
  refine ⟨_, (pss_cons (ps_set (i := 0) sc__law_gcd.nd rfl (Or.inl rfl) (pe_callB call_abs (by rfl) T.b_abs (by decide +kernel) (pa_cons (pv 0) pa_nil)))
  (pss_cons (ps_set (i := 1) sc__law_gcd.nd rfl (Or.inl rfl) (pe_callB call_abs (by rfl) T.b_abs (by decide +kernel) (pa_cons (pv 1) pa_nil)))
  (pss_cons (ps_for PassesOwn.never rfl (pi_range1 (by rfl) T.b_range (pa_cons pe_int pa_nil)) (pg_name (i := 2) sc__law_gcd.nd rfl (Or.inl rfl)) (pss_cons (ps_if (pt_cmpR op_eq (pv 1) pe_int (nomark _)) (pss_one ps_break) pss_nil)
  (pss_cons (ps_set (i := 3) sc__law_gcd.nd rfl (Or.inl rfl) (pe_op op_mod (pe_callTy call_int1 (by rfl) T.b_int (by decide +kernel) (pa_cons (pv 0) pa_nil)) (pv 1)))
  (pss_cons (ps_set (i := 0) sc__law_gcd.nd rfl (Or.inl rfl) (pv 1))
  (pss_one (ps_set (i := 1) sc__law_gcd.nd rfl (Or.inl rfl) (pv 3)))))))
  (pss_one (ps_ret (pv 0)))))), ?_⟩
  refine seq_asg ⟨_, rfl, _, rfl, ?_⟩
  rw [abs_nat a]
  refine seq_asg ⟨_, rfl, _, rfl, ?_⟩
  rw [abs_nat b]
  refine ⟨100000, rfl, by decide, by decide, for_range (lo := 0) (n := (100000 : Int).toNat) (fun i σ H' => ∃ (x y : Nat) (v2 v3 : Option V), σ = [some (.int (x : Nat)), some (.int (y : Nat)), v2, v3] ∧ H' = H ∧ Eu a.natAbs b.natAbs i x y) ⟨a.natAbs, b.natAbs, none, none, rfl, rfl, eu_start⟩ ?_ ?_⟩
  · rintro i σ H' hi ⟨x, y, v2, v3, rfl, rfl, e⟩
    refine ⟨_, rfl, rfl, _, rfl, ?_⟩
    refine ite2 (fun c => ?_) (fun c => ?_)
    · have hy : y = 0 := by
        have := V.int.inj (of_decide_eq_true c)
        omega
      subst hy
      refine ⟨_, rfl, ?_⟩
      rw [eu_gcd e]
      exact q
    · have hy : y ≠ 0 := fun z => c (by subst z; exact decide_eq_true rfl)
      refine ⟨_, rfl, .inl ⟨_, rfl, _, rfl, _, _, rfl, rfl, by omega, ?_⟩⟩
      refine ⟨_, rfl, _, rfl, ?_⟩
      exact ⟨y, x % y, _, _, rfl, rfl, eu_step hB e hy⟩
  · rintro σ H' ⟨x, y, v2, v3, rfl, rfl, e⟩
    have hy := eu_end e
    subst hy
    refine ⟨_, rfl, ?_⟩
    rw [eu_gcd e]
    exact q
/-! ### _law_is_fraction -/
def spFrac : Sp := fun vs H Q _ => ∃ (p : Addr) (t b : Int), vs = [.ref p] ∧ FrAt H p t b ∧ 1 ≤ b ∧ B 6500 b ∧ gI t b = 1 ∧ Q (.bl true) H
abbrev s__law_is_fraction : Stmt := top 43
abbrev N__law_is_fraction : List Str := ["value"]
theorem sc__law_is_fraction : FnScope N__law_is_fraction ["value"] (defScope s__law_is_fraction) := ⟨rfl, rfl, rfl, by decide +kernel, rfl, by decide +kernel, by decide +kernel⟩
theorem ok__law_is_fraction (F : Fun K "_law_is_fraction" "_law_is_fraction" s__law_is_fraction f fd) (T : Txt mg) (C__law_whole : Cal P w K mg base 1 "_law_whole" ["value"] spLaw_whole) (C__law_gcd : Cal P w K mg base 1 "_law_gcd" ["one", "two"] spGcd) : FnOk P w K mg base CX0 2 f fd ["value"] spFrac := by
  refine F.ok sc__law_is_fraction (fun vs H Q E h => ?_) (fun cdv A outer s H vs Q E hr h => ?_)
  · obtain ⟨p, t, b, rfl, _⟩ := h
    rfl
  obtain ⟨p, t, b, rfl, hp, hb, hB, hg, q⟩ := h
  refine ⟨_, (pss_cons (ps_if (PW.pt (pw_or (pt_not (pt_val (pe_callB call_isi (by rfl) T.b_isinstance (by decide +kernel) (pa_cons (pv 0) (pa_cons (pe_bltn (v := .ty "tuple") (by rfl) T.b_tuple (by decide +kernel) rfl) pa_nil))))) (pw_or (pt_cmpR op_ne (pe_callB call_len_seq (by rfl) T.b_len PySem.boot_len (pa_cons (pv 0) pa_nil)) pe_int (nomark _)) (pw_or (pt_not (pt_val (pe_cal C__law_whole (hr.mono (by omega)) rfl (pa_cons (pe_ix ix_tup (pv 0) pe_int (fun _ _ => rfl)) pa_nil)))) (pw_or1 (pt_not (pt_val (pe_cal C__law_whole (hr.mono (by omega)) rfl (pa_cons (pe_ix ix_tup (pv 0) pe_int (fun _ _ => rfl)) pa_nil))))))))) (pss_one (ps_ret pe_bl)) pss_nil)
  (pss_one (ps_ret (pe_and (pe_cmpR op_ge (pe_ix ix_tup (pv 0) pe_int (fun _ _ => rfl)) pe_int (nomark _)) (pe_one (pe_cmpR op_eq (pe_cal C__law_gcd (hr.mono (by omega)) rfl (pa_cons (pe_ix ix_tup (pv 0) pe_int (fun _ _ => rfl)) (pa_cons (pe_ix ix_tup (pv 0) pe_int (fun _ _ => rfl)) pa_nil))) pe_int (nomark _))))))), ?_⟩
  refine ⟨_, rfl, _, _, _, _, true, rfl, .ty _, .base (.tup hp), kit6, true, rfl, ifF rfl ?_⟩
  refine ⟨_, rfl, p, _, rfl, .inr (SqT.of hp), rfl, _, rfl, ifF (by simp) ?_⟩
  refine ⟨_, rfl, p, _, 0, _, rfl, rfl, SqT.of hp, at_pos (by decide) rfl, t, rfl, true, rfl, ifF rfl ?_⟩
  refine ⟨_, rfl, p, _, 1, _, rfl, rfl, SqT.of hp, at_pos (by decide) rfl, b, rfl, true, rfl, ifF rfl ?_⟩
  refine ⟨_, rfl, p, _, 1, _, rfl, rfl, SqT.of hp, at_pos (by decide) rfl, _, _, rfl, rfl, _, rfl, ifT (decide_eq_true hb) ?_⟩
  refine ⟨_, rfl, p, _, 0, _, rfl, rfl, SqT.of hp, at_pos (by decide) rfl, _, rfl, p, _, 1, _, rfl, rfl, SqT.of hp, at_pos (by decide) rfl, t, b, rfl, hB, rfl, ?_⟩
  rw [hg]
  exact q
end
end P12
namespace P12
open PySem PySem.Spec PyProof.Rows L2 SX EX WK
/-- what the text must know of the class Form -/
structure Frm (K : PySem.W.Frag) (mg : Str → Option Value) (cF : Addr) : Prop where
  g_Form : mg "Form" = some (.ref cF)
  kF : PySem.W.kitOne K (.ref cF) (.ref cF) = some true
  c1 : PySem.W.findIn K (.ref cF) "__class__" = some (some (.builtin "object.__class__"))
  c2 : PySem.W.specialIn K (.builtin "object.__class__") "__get__" = some (some (.builtin "getset_descriptor.__get__"))
  c3 : PySem.W.takesIn K (.builtin "object.__class__") = some true
  c4 : PySem.W.mroIn K cF (.type "object") = some true
/-- a list of lists -/
def LTab (H : Hp) (a : Addr) (n : Nat) (f : Nat → Nat → Int) : Prop := ∃ rs : List Addr, H a = some (.lst (rs.map V.ref)) ∧ rs.length = n ∧ ∀ i, i < n → ∃ p, rs[i]? = some p ∧ H p = some (.lst ((vec n (f i)).map V.int))
theorem LTab.same {H H' : Hp} {a : Addr} {n : Nat} {f : Nat → Nat → Int} (e : Same H H') (h : LTab H a n f) : LTab H' a n f := by
  obtain ⟨rs, h1, h2, h3⟩ := h
  refine ⟨rs, e _ _ h1, h2, fun i hi => ?_⟩
  obtain ⟨p, h4, h5⟩ := h3 i hi
  exact ⟨p, h4, e _ _ h5⟩
theorem LTab.at {H : Hp} {a : Addr} {n : Nat} {f : Nat → Nat → Int} (h : LTab H a n f) : ∃ vs : List V, H a = some (.lst vs) ∧ vs.length = n ∧ ∀ i, i < n → ∃ p, vs[i]? = some (.ref p) ∧ H p = some (.lst ((vec n (f i)).map V.int)) := by
  obtain ⟨rs, h1, h2, h3⟩ := h
  refine ⟨_, h1, by rw [List.length_map]; exact h2, fun i hi => ?_⟩
  obtain ⟨p, h4, h5⟩ := h3 i hi
  exact ⟨p, by rw [List.getElem?_map, h4]; rfl, h5⟩
theorem snall_of {K : PySem.W.Frag} {H : Hp} : ∀ {vs : List V} {ts : List Td}, vs.length = ts.length → (∀ (i : Nat) (v : V) (t : Td), vs[i]? = some v → ts[i]? = some t → Sn K H v t) → SnAll K H vs ts
  | [], [], _, _ => .nil
  | [], _ :: _, h, _ => by simp at h
  | _ :: _, [], h, _ => by simp at h
  | v :: vs, t :: ts, h, g => .cons (g 0 v t rfl rfl) (snall_of (by simpa using h) fun i v t a b => g (i + 1) v t a b)
theorem LTab.sn {K : PySem.W.Frag} {H : Hp} {a : Addr} {n : Nat} {f : Nat → Nat → Int} (h : LTab H a n f) : Sn K H (.ref a) (tm n f) := by
  obtain ⟨vs, h1, h2, h3⟩ := h.at
  refine .lst h1 (snall_of (by rw [List.length_map, mat_len]; exact h2) fun i v t hv ht => ?_)
  have hi : i < n := by
    have := (List.getElem?_eq_some_iff.mp hv).1
    omega
  obtain ⟨p, h4, h5⟩ := h3 i hi
  rw [hv] at h4
  cases h4
  rw [List.getElem?_map, mat_at hi] at ht
  cases ht
  exact .lst h5 (FzAll.of_ints _).sn
def adr : V → Addr
  | .ref p => p
  | _ => 0
theorem LTab.of {H : Hp} {D : Addr} {l : List V} {n : Nat} {f : Nat → Nat → Int} (h : H D = some (.lst l)) (r : Rs (RL D) H l ((List.range n).map fun i => vec n (f i))) : LTab H D n f := by
  have hl : l.length = n := by rw [r.1, List.length_map, List.length_range]
  have at_ : ∀ i, i < n → ∃ p, l[i]? = some (.ref p) ∧ H p = some (.lst ((vec n (f i)).map V.int)) := fun i hi => by
    have e := List.getElem?_eq_getElem (l := l) (i := i) (by omega)
    obtain ⟨p, h1, _, h2⟩ := r.2 i _ (vec n (f i)) e (by rw [List.getElem?_map, List.getElem?_range hi]; rfl)
    exact ⟨p, by rw [e, h1], h2⟩
  refine ⟨l.map adr, ?_, by rw [List.length_map]; exact hl, fun i hi => ?_⟩
  · rw [h]
    congr 2
    refine List.ext_getElem? fun i => ?_
    rw [List.getElem?_map, List.getElem?_map]
    by_cases hi : i < n
    · obtain ⟨p, h1, _⟩ := at_ i hi
      rw [h1]
      rfl
    · rw [List.getElem?_eq_none (by omega)]
      rfl
  · obtain ⟨p, h1, h2⟩ := at_ i hi
    exact ⟨p, by rw [List.getElem?_map, h1]; rfl, h2⟩
theorem ix_any {K : PySem.W.Frag} {H : Hp} {k : Bool} {a : Addr} {xs : List V} {z : Int} {v : V} {Q : VK} (h : WZ.Sq k K H a xs) (e : atI xs z = some v) (q : Q v H) : rIxL K (.ref a) (.int z) H Q ∨ rIxT K (.ref a) (.int z) H Q := by
  cases k with
  | true => exact .inl ⟨a, xs, z, v, rfl, rfl, h, e, q⟩
  | false => exact .inr ⟨a, xs, z, v, rfl, rfl, h, e, q⟩
theorem ne_T {a b : Int} (h : a ≠ b) : (!decide (V.int a = V.int b)) = true := by rw [int_ne h]; rfl
theorem ne_F {a b : Int} (h : a = b) : (!decide (V.int a = V.int b)) = false := by rw [int_eq h]; rfl
theorem gI_unit (x : Int) : gI 1 x = 1 := by
  unfold gI
  rw [show (1 : Int).natAbs = 1 from rfl, Nat.gcd_one_left]
  rfl
theorem ixv {n i : Nat} {x : Nat → Int} (hi : i < n) : atI ((vec n x).map V.int) (0 + (i : Int)) = some (.int (x i)) := at_pos (by omega) (by rw [show (0 + (i : Int)).toNat = i by omega]; exact vecV_at hi)
section
variable {P : Program} {w : World} {K : PySem.W.Frag} {mg : Str → Option Value} {base : Heap} {f : Addr} {fd : FuncData} {cF cR : Addr}
def spStands : Sp := fun vs H Q _ => ∃ (p : Addr) (x y t u : Int), vs = [.ref p, .int t, .int u] ∧ FrAt H p x y ∧ 1 ≤ y ∧ B 6500 y ∧ gI x y = 1 ∧ B 20000 x ∧ B 20000 t ∧ B 20000 u ∧ x * u = t * y ∧ Q (.bl true) H
abbrev s__law_stands : Stmt := top 44
abbrev N__law_stands : List Str := ["value", "top", "under"]
theorem sc__law_stands : FnScope N__law_stands ["value", "top", "under"] (defScope s__law_stands) := ⟨rfl, rfl, rfl, by decide +kernel, rfl, by decide +kernel, by decide +kernel⟩
theorem ok__law_stands (F : Fun K "_law_stands" "_law_stands" s__law_stands f fd) (T : Txt mg) (C__law_is_fraction : Cal P w K mg base 2 "_law_is_fraction" ["value"] spFrac) : FnOk P w K mg base CX0 3 f fd ["value", "top", "under"] spStands := by
  refine F.ok sc__law_stands (fun vs H Q E h => ?_) (fun cdv A outer s H vs Q E hr h => ?_)
  · obtain ⟨p, x, y, t, u, rfl, _⟩ := h
    rfl
  obtain ⟨p, x, y, t, u, rfl, hp, hy, hyB, hg, hxB, htB, huB, he, q⟩ := h
  refine ⟨_, (pss_one (ps_ret (pe_and (pe_cal C__law_is_fraction (hr.mono (by omega)) rfl (pa_cons (pv 0) pa_nil)) (pe_one (pe_cmpR op_eq (pe_op op_mulW (pe_ix ix_tup (pv 0) pe_int (fun _ _ => rfl)) (pv 2)) (pe_op op_mulW (pv 1) (pe_ix ix_tup (pv 0) pe_int (fun _ _ => rfl))) (nomark _)))))), ?_⟩
  refine ⟨_, rfl, p, x, y, rfl, hp, hy, hyB, hg, _, rfl, ifT rfl ?_⟩
  refine ⟨_, rfl, p, _, 0, _, rfl, rfl, SqT.of hp, at_pos (by decide) rfl, _, rfl, _, _, rfl, rfl, wmul hxB huB (by decide) (by decide) (by decide), ?_⟩
  refine ⟨_, rfl, _, rfl, p, _, 1, _, rfl, rfl, SqT.of hp, at_pos (by decide) rfl, _, _, rfl, rfl, wmul htB (hyB.mono (n := 20000) (by decide)) (by decide) (by decide) (by decide), rfl, ?_⟩
  rw [int_eq he]
  exact q
def spIsPoint (K : PySem.W.Frag) : Sp := fun vs H Q _ => ∃ (a : Addr) (n : Nat) (x : Nat → Int), vs = [.ref a, .int n] ∧ SqT K H a ((vec n x).map V.int) ∧ n ≤ 1000 ∧ ∀ H', Same H H' → Q (.bl true) H'
abbrev s__law_is_point : Stmt := top 45
abbrev N__law_is_point : List Str := ["value", "size", "number"]
theorem sc__law_is_point : FnScope N__law_is_point ["value", "size"] (defScope s__law_is_point) := ⟨rfl, rfl, rfl, by decide +kernel, rfl, by decide +kernel, by decide +kernel⟩
theorem ok__law_is_point (F : Fun K "_law_is_point" "_law_is_point" s__law_is_point f fd) (T : Txt mg) (C__law_whole : Cal P w K mg base 1 "_law_whole" ["value"] spLaw_whole) : FnOk P w K mg base CX0 2 f fd ["value", "size"] (spIsPoint K) := by
  refine F.ok sc__law_is_point (fun vs H Q E h => ?_) (fun cdv A outer s H vs Q E hr h => ?_)
  · obtain ⟨a, n, x, rfl, _⟩ := h
    rfl
  obtain ⟨a, n, x, rfl, ha, hn, q⟩ := h
  refine ⟨_, (pss_one (ps_ret (pe_and (pe_callB call_isi (by rfl) T.b_isinstance (by decide +kernel) (pa_cons (pv 0) (pa_cons (pe_bltn (v := .ty "tuple") (by rfl) T.b_tuple (by decide +kernel) rfl) pa_nil))) (pe_and (pe_cmpR op_eq (pe_callB call_len_seq (by rfl) T.b_len PySem.boot_len (pa_cons (pv 0) pa_nil)) (pv 1) (nomark _)) (pe_one (pe_callB (cr_all rfl) (by rfl) T.b_all (by decide +kernel) (pa_cons (pe_lc (own := [("number", 2)]) (g := gName 2) (tt := tYes) (by rfl) sc__law_is_point.nd (pi_tup (pv 0)) (blkOk_by (N := N__law_is_point) (sc := defScope s__law_is_point) (by decide +kernel)) (fun _ _ _ _ _ => (pg_name (i := 2) sc__law_is_point.nd rfl (Or.inl rfl))) (fun _ _ _ _ _ => pts_nil) (fun _ _ _ _ _ => (pe_cal C__law_whole (hr.mono (by omega)) rfl (pa_cons (pv 2) pa_nil)))) pa_nil))))))), ?_⟩
  refine ⟨_, rfl, _, _, _, _, true, rfl, .ty _, ty_tup ha, kit6, true, rfl, ifT rfl ?_⟩
  refine ⟨_, rfl, a, _, rfl, .inr ha, _, rfl, rfl, _, rfl, ifT (by rw [vec_lenV]; exact int_eq rfl) ?_⟩
  refine ⟨_, rfl, a, rfl, ⟨_, ha⟩, fun D hD => ?_⟩
  refine lc_m (walk_tup (K := K) (a := a) (xs := (vec n x).map V.int)) RB (stb_RB (K := K)) (List.range n) (by rw [vec_lenV, List.length_range]) (by rw [List.length_range]; omega) hD (fun H' s => Same_seqT s ha) (fun _ _ _ _ => ys_at) (fun _ => true) (fun c i v H1 H2 hc s1 s2 y A B hA => ?_) (fun H' l s1 hl1 rs => ?_)
  · obtain ⟨hc1, rfl⟩ := in_range hc
    have e := y.2
    rw [vecV_at hc1] at e
    cases e
    exact ⟨rfl, lc_yes ⟨_, rfl, x i, rfl, hA _ _ (fun _ _ h => h) rfl⟩⟩
  · refine ⟨D, _, rfl, SqL.of (by rw [hl1, rs.bls]), ?_⟩
    have e : (((List.range n).map fun _ => true).all id) = true := by
      rw [List.all_map]
      exact List.all_eq_true.mpr fun _ _ => rfl
    rw [e]
    exact q H' s1
abbrev s__law_dot : Stmt := top 46
abbrev N__law_dot : List Str := ["one", "two", "k"]
theorem sc__law_dot : FnScope N__law_dot ["one", "two"] (defScope s__law_dot) := ⟨rfl, rfl, rfl, by decide +kernel, rfl, by decide +kernel, by decide +kernel⟩
theorem ok__law_dot (F : Fun K "_law_dot" "_law_dot" s__law_dot f fd) (T : Txt mg) : FnOk P w K mg base CX0 1 f fd ["one", "two"] (spDot K) := by
  refine F.ok sc__law_dot (fun vs H Q E h => ?_) (fun cdv A outer s H vs Q E hr h => ?_)
  · obtain ⟨v1, v2, n, k1, k2, x, y, rfl, _⟩ := h
    rfl
  obtain ⟨v1, v2, n, k1, k2, x, y, rfl, h1, h2, hn, hx, hy, p1, p2, hk, q⟩ := h
  refine ⟨_, (pss_one (ps_ret (pe_callB (cr_sum rfl) (by rfl) T.b_sum (by decide +kernel) (pa_cons (pe_lc (own := [("k", 2)]) (g := gName 2) (tt := tYes) (by rfl) sc__law_dot.nd (pi_range1 (by rfl) T.b_range (pa_cons (pe_callB call_len_seq (by rfl) T.b_len PySem.boot_len (pa_cons (pv 0) pa_nil)) pa_nil)) (blkOk_by (N := N__law_dot) (sc := defScope s__law_dot) (by decide +kernel)) (fun _ _ _ _ _ => (pg_name (i := 2) sc__law_dot.nd rfl (Or.inl rfl))) (fun _ _ _ _ _ => pts_nil) (fun _ _ _ _ _ => (pe_op op_mulW (pe_ix (ix_orK (K := K) rfl) (pv 0) (pv 2) (fun _ _ => rfl)) (pe_ix (ix_orK (K := K) rfl) (pv 1) (pv 2) (fun _ _ => rfl))))) pa_nil)))), ?_⟩
  obtain ⟨k, a, rfl, ha⟩ := sn_ints h1
  obtain ⟨l, b, rfl, hb⟩ := sn_ints h2
  refine ⟨_, rfl, _, _, rfl, sq_or ha, (n : Int), by rw [vec_lenV], by omega, by omega, fun D hD => ?_⟩
  refine lc_m (walk_range (lo := 0) (n := n)) RI (stb_RI (K := K)) (List.range n) (by rw [List.length_range]) (by rw [List.length_range]; omega) hD (fun _ _ => trivial) (fun _ _ _ _ => ys_fn) (fun i => x i * y i) (fun c i v H1 H2 hc s1 s2 yl A B hA => ?_) (fun H' l1 s1 hl1 rs => ?_)
  · obtain ⟨hc1, rfl⟩ := in_range hc
    rw [yl.2]
    exact ⟨rfl, lc_yes ⟨_, rfl, _, rfl, ix_any (sq_same s2 ha) (ixv hc1) ⟨_, rfl, _, rfl, ix_any (sq_same s2 hb) (ixv hc1) ⟨_, _, rfl, rfl, wmul (hx i hc1) (hy i hc1) p1 p2 (by omega), hA _ _ (fun _ _ h => h) rfl⟩⟩⟩⟩
  · exact ⟨D, _, rfl, SqL.of (by rw [hl1, rs.ints]), q H' s1⟩
def spValue (K : PySem.W.Frag) : Sp := fun vs H Q _ => ∃ (a : Addr) (v1 v2 : V) (n k1 k2 k3 : Nat) (g : Nat → Nat → Int) (x y : Nat → Int), vs = [.ref a, v1, v2] ∧ LTab H a n g ∧ Sn K H v1 (tv n x) ∧ Sn K H v2 (tv n y) ∧ n ≤ 16 ∧ (∀ i j, i < n → j < n → B k1 (g i j)) ∧ (∀ i, i < n → B k2 (x i)) ∧ (∀ i, i < n → B k3 (y i)) ∧ 0 < k1 ∧ 0 < k2 ∧ 0 < k3 ∧ k1 + k2 + k3 ≤ 90000 ∧
  ∀ H', Same H H' → Q (.int (bil n g x y)) H'
abbrev s__law_value : Stmt := top 48
abbrev N__law_value : List Str := ["table", "one", "two", "total", "i"]
theorem sc__law_value : FnScope N__law_value ["table", "one", "two"] (defScope s__law_value) := ⟨rfl, rfl, rfl, by decide +kernel, rfl, by decide +kernel, by decide +kernel⟩
theorem ok__law_value (F : Fun K "_law_value" "_law_value" s__law_value f fd) (T : Txt mg) (C__law_dot : Cal P w K mg base 1 "_law_dot" ["one", "two"] (spDot K)) : FnOk P w K mg base CX0 2 f fd ["table", "one", "two"] (spValue K) := by
  refine F.ok sc__law_value (fun vs H Q E h => ?_) (fun cdv A outer s H vs Q E hr h => ?_)
  · obtain ⟨a, v1, v2, n, k1, k2, k3, g, x, y, rfl, _⟩ := h
    rfl
  obtain ⟨a, v1, v2, n, k1, k2, k3, g, x, y, rfl, ht, h1, h2, hn, bg, bx, by_, p1, p2, p3, hk, q⟩ := h
  refine ⟨_, (pss_cons (ps_set (i := 3) sc__law_value.nd rfl (Or.inl rfl) pe_int)
  (pss_cons (ps_for PassesOwn.never rfl (pi_range1 (by rfl) T.b_range (pa_cons (pe_callB call_len_seq (by rfl) T.b_len PySem.boot_len (pa_cons (pv 0) pa_nil)) pa_nil)) (pg_name (i := 4) sc__law_value.nd rfl (Or.inl rfl)) (pss_one (ps_if (pt_cmpR op_ne (pe_ix ix_or (pv 1) (pv 4) (fun _ _ => rfl)) pe_int (nomark _)) (pss_one (ps_set (i := 3) sc__law_value.nd rfl (Or.inl rfl) (pe_op op_add (pv 3) (pe_op op_mulW (pe_ix ix_or (pv 1) (pv 4) (fun _ _ => rfl)) (pe_cal C__law_dot (hr.mono (by omega)) rfl (pa_cons (pe_ix ix_list (pv 0) (pv 4) (fun _ _ => rfl)) (pa_cons (pv 2) pa_nil))))))) pss_nil)))
  (pss_one (ps_ret (pv 3))))), ?_⟩
  obtain ⟨vs, ha, hl, hrow⟩ := ht.at
  obtain ⟨k, b, rfl, hb⟩ := sn_ints h1
  refine ⟨_, rfl, _, _, rfl, .inl (SqL.of ha), (n : Int), by rw [hl], by omega, by omega, for_range (lo := 0) (n := n) (fun i σ H' => ∃ v : Option V, σ = [some (.ref a), some (.ref b), some v2, some (.int (S i fun i => x i * S n fun j => g i j * y j)), v] ∧ Same H H') ⟨none, rfl, fun _ _ h => h⟩ ?_ ?_⟩
  · rintro i σ H' hi ⟨v, rfl, s1⟩
    obtain ⟨p, hp, hpr⟩ := hrow i hi
    refine ⟨_, rfl, _, rfl, ix_any (sq_same s1 hb) (ixv hi) ⟨rfl, _, rfl, ?_⟩⟩
    by_cases h0 : x i = 0
    · refine ifF (ne_F h0) ⟨some (.int (0 + (i : Int))), ?_, s1⟩
      rw [S_succ, h0, Int.zero_mul, Int.add_zero]
      rfl
    · refine ifT (ne_T h0) ⟨_, rfl, _, rfl, _, rfl, ix_any (sq_same s1 hb) (ixv hi) ⟨_, rfl, _, rfl, a, _, _, _, rfl, rfl, SqL.of (s1 _ _ ha), at_pos (by omega) (by rw [show (0 + (i : Int)).toNat = i by omega]; exact hp), _, rfl, ?_⟩⟩
      refine ⟨_, _, n, k1, k3, g i, y, rfl, .lst (s1 _ _ hpr) (FzAll.of_ints _).sn, h2.same s1, by omega, fun j hj => bg i j hi hj, by_, p1, p3, by omega, fun H2 s2 => ?_⟩
      refine ⟨_, _, rfl, rfl, wmul (m := k2) (n := k1 + k3 + 4) (bx i hi) (BS (c := 4) (fun j hj => B.mul (bg i j hi hj) (by_ j hj)) hn) p2 (by omega) (by omega), _, _, rfl, rfl, some (.int (0 + (i : Int))), ?_, s1.trans s2⟩
      rw [S_succ]
      rfl
  · rintro σ H' ⟨v, rfl, s1⟩
    exact ⟨_, rfl, q H' s1⟩
def spLSand (K : PySem.W.Frag) : Sp := fun vs H Q _ => ∃ (a b : Addr) (n k1 k2 : Nat) (g1 g2 : Nat → Nat → Int), vs = [.ref a, .ref b] ∧ LTab H a n g1 ∧ LTab H b n g2 ∧ n ≤ 16 ∧ (∀ i j, i < n → j < n → B k1 (g1 i j)) ∧ (∀ i j, i < n → j < n → B k2 (g2 i j)) ∧ 0 < k1 ∧ 0 < k2 ∧ k1 + k2 + k1 ≤ 90000 ∧
  ∀ r H', Same H H' → LTab H' r n (sand n g1 g2) → Q (.ref r) H'
abbrev s__law_sandwich : Stmt := top 49
abbrev N__law_sandwich : List Str := ["outer", "inner", "size", "half", "i", "j"]
theorem sc__law_sandwich : FnScope N__law_sandwich ["outer", "inner"] (defScope s__law_sandwich) := ⟨rfl, rfl, rfl, by decide +kernel, rfl, by decide +kernel, by decide +kernel⟩
theorem ok__law_sandwich (F : Fun K "_law_sandwich" "_law_sandwich" s__law_sandwich f fd) (T : Txt mg) (C__law_dot : Cal P w K mg base 1 "_law_dot" ["one", "two"] (spDot K)) : FnOk P w K mg base CX0 2 f fd ["outer", "inner"] (spLSand K) := by
  refine F.ok sc__law_sandwich (fun vs H Q E h => ?_) (fun cdv A outer s H vs Q E hr h => ?_)
  · obtain ⟨a, b, n, k1, k2, g1, g2, rfl, _⟩ := h
    rfl
  obtain ⟨a, b, n, k1, k2, g1, g2, rfl, ha, hb, hn, bg1, bg2, p1, p2, hk, q⟩ := h
  refine ⟨_, (pss_cons (ps_set (i := 2) sc__law_sandwich.nd rfl (Or.inr rfl) (pe_callB call_len_seq (by rfl) T.b_len PySem.boot_len (pa_cons (pv 0) pa_nil)))
  (pss_cons (ps_set (i := 3) sc__law_sandwich.nd rfl (Or.inr rfl) (pe_lc (own := [("i", 4)]) (g := gName 4) (tt := tYes) (by rfl) sc__law_sandwich.nd (pi_range1 (by rfl) T.b_range (pa_cons (pv 2) pa_nil)) (blkOk_by (N := N__law_sandwich) (sc := defScope s__law_sandwich) (by decide +kernel)) (fun _ _ _ _ _ => (pg_name (i := 4) sc__law_sandwich.nd rfl (Or.inr rfl))) (fun _ _ _ _ _ => pts_nil) (fun _ _ _ _ _ => (pe_lc (own := [("j", 5)]) (g := gName 5) (tt := tYes) (by rfl) sc__law_sandwich.nd (pi_range1 (by rfl) T.b_range (pa_cons (pv 2) pa_nil)) (blk_nest (N := N__law_sandwich) (sc0 := defScope s__law_sandwich) rfl (by decide +kernel)) (fun _ _ _ _ _ => (pg_name (i := 5) sc__law_sandwich.nd rfl (Or.inl rfl))) (fun _ _ _ _ _ => pts_nil) (fun _ _ _ _ _ => (pe_cal C__law_dot (hr.mono (by omega)) rfl (pa_cons (pe_ix (ix_listK (K := K) rfl) (pv 0) (pv 4) (fun _ _ => rfl)) (pa_cons (pe_ix (ix_listK (K := K) rfl) (pv 1) (pv 5) (fun _ _ => rfl)) pa_nil))))))))
  (pss_one (ps_ret (pe_lc (own := [("i", 4)]) (g := gName 4) (tt := tYes) (by rfl) sc__law_sandwich.nd (pi_range1 (by rfl) T.b_range (pa_cons (pv 2) pa_nil)) (blkOk_by (N := N__law_sandwich) (sc := defScope s__law_sandwich) (by decide +kernel)) (fun _ _ _ _ _ => (pg_name (i := 4) sc__law_sandwich.nd rfl (Or.inr rfl))) (fun _ _ _ _ _ => pts_nil) (fun _ _ _ _ _ => (pe_lc (own := [("j", 5)]) (g := gName 5) (tt := tYes) (by rfl) sc__law_sandwich.nd (pi_range1 (by rfl) T.b_range (pa_cons (pv 2) pa_nil)) (blk_nest (N := N__law_sandwich) (sc0 := defScope s__law_sandwich) rfl (by decide +kernel)) (fun _ _ _ _ _ => (pg_name (i := 5) sc__law_sandwich.nd rfl (Or.inl rfl))) (fun _ _ _ _ _ => pts_nil) (fun _ _ _ _ _ => (pe_cal C__law_dot (hr.mono (by omega)) rfl (pa_cons (pe_ix (ix_listK (K := K) rfl) (pv 3) (pv 4) (fun _ _ => rfl)) (pa_cons (pe_ix (ix_listK (K := K) rfl) (pv 0) (pv 5) (fun _ _ => rfl)) pa_nil))))))))))), ?_⟩
  obtain ⟨vs, ha1, hl, hrow⟩ := ha.at
  obtain ⟨vs2, hb1, hl2, hrow2⟩ := hb.at
  refine ⟨_, rfl, _, _, rfl, .inl (SqL.of ha1), ?_⟩
  refine ⟨_, rfl, (n : Int), by rw [hl], by omega, by omega, fun D hD => ?_⟩
  refine lc_gm (walk_range (lo := 0) (n := n)) (RL D) stb_RL (List.range n) (by rw [List.length_range]) (by rw [List.length_range]; omega) hD (fun _ _ => trivial) (fun _ _ _ _ => ys_fn) (fun i => vec n (half n g1 g2 i)) (fun c i x H1 H2 hc s1 s2 y hdl A B hA => ?_) (fun H3 l s3 hl3 rs3 => ?_)
  · obtain ⟨hc1, rfl⟩ := in_range hc
    obtain ⟨u, hu, hsu⟩ := hrow i hc1
    rw [y.2]
    refine ⟨rfl, lc_yes ⟨_, rfl, (n : Int), by rw [hl], by omega, by omega, fun D2 hD2 => ?_⟩⟩
    refine lc_m (walk_range (lo := 0) (n := n)) RI (stb_RI (K := K)) (List.range n) (by rw [List.length_range]) (by rw [List.length_range]; omega) hD2 (fun _ _ => trivial) (fun _ _ _ _ => ys_fn) (fun j => half n g1 g2 i j) (fun c2 j x2 H3 H4 hc2 s3 s4 y2 A2 B2 hA2 => ?_) (fun H' l s3 hl1 rs => ?_)
    · obtain ⟨hc3, rfl⟩ := in_range hc2
      obtain ⟨pc, hp1, hp2⟩ := hrow2 j hc3
      have s24 := s2.trans s4
      rw [y2.2]
      exact ⟨rfl, lc_yes ⟨_, rfl, _, rfl, a, _, _, _, rfl, rfl, SqL.of (s24 _ _ ha1), at_pos (by omega) (by rw [show (0 + (i : Int)).toNat = i by omega]; exact hu), _, rfl, _, rfl, b, _, _, _, rfl, rfl, SqL.of (s24 _ _ hb1), at_pos (by omega) (by rw [show (0 + (j : Int)).toNat = j by omega]; exact hp1), _, _, n, k1, k2, g1 i, g2 j, rfl, .lst (s24 _ _ hsu) (FzAll.of_ints _).sn, .lst (s24 _ _ hp2) (FzAll.of_ints _).sn, by omega, fun m hm => bg1 i m hc1 hm, fun m hm => bg2 j m hc3 hm, p1, p2, by omega, fun H' s => hA2 _ _ s rfl⟩⟩
    · refine hA _ _ s3 ⟨D2, rfl, fun z => ?_, by rw [hl1, rs.ints]; rfl⟩
      obtain ⟨l0, h0⟩ := hdl
      rw [← z, hD2] at h0
      cases h0
  have hh : LTab H3 D n (half n g1 g2) := LTab.of hl3 rs3
  obtain ⟨vs3, hh1, hlh, hrow3⟩ := hh.at
  refine ⟨_, rfl, (n : Int), by rw [hl], by omega, by omega, fun D3 hD3 => ?_⟩
  refine lc_gm (walk_range (lo := 0) (n := n)) (RL D3) stb_RL (List.range n) (by rw [List.length_range]) (by rw [List.length_range]; omega) hD3 (fun _ _ => trivial) (fun _ _ _ _ => ys_fn) (fun i => vec n (sand n g1 g2 i)) (fun c i x H1 H2 hc s1 s2 y hdl A B hA => ?_) (fun H4 l s4 hl4 rs4 => ?_)
  · obtain ⟨hc1, rfl⟩ := in_range hc
    obtain ⟨u, hu, hsu⟩ := hrow3 i hc1
    rw [y.2]
    refine ⟨rfl, lc_yes ⟨_, rfl, (n : Int), by rw [hl], by omega, by omega, fun D2 hD2 => ?_⟩⟩
    refine lc_m (walk_range (lo := 0) (n := n)) RI (stb_RI (K := K)) (List.range n) (by rw [List.length_range]) (by rw [List.length_range]; omega) hD2 (fun _ _ => trivial) (fun _ _ _ _ => ys_fn) (fun j => sand n g1 g2 i j) (fun c2 j x2 H5 H6 hc2 s5 s6 y2 A2 B2 hA2 => ?_) (fun H' l s5 hl1 rs => ?_)
    · obtain ⟨hc3, rfl⟩ := in_range hc2
      obtain ⟨pc, hp1, hp2⟩ := hrow j hc3
      have s26 := s2.trans s6
      have s36 := s3.trans s26
      rw [y2.2]
      exact ⟨rfl, lc_yes ⟨_, rfl, _, rfl, D, _, _, _, rfl, rfl, SqL.of (s26 _ _ hh1), at_pos (by omega) (by rw [show (0 + (i : Int)).toNat = i by omega]; exact hu), _, rfl, _, rfl, a, _, _, _, rfl, rfl, SqL.of (s36 _ _ ha1), at_pos (by omega) (by rw [show (0 + (j : Int)).toNat = j by omega]; exact hp1), _, _, n, k1 + k2 + 4, k1, half n g1 g2 i, g1 j, rfl, .lst (s26 _ _ hsu) (FzAll.of_ints _).sn, .lst (s36 _ _ hp2) (FzAll.of_ints _).sn, by omega, fun m hm => half_B hn bg1 bg2 hc1 hm, fun m hm => bg1 j m hc3 hm, by omega, p1, by omega, fun H' s => hA2 _ _ s rfl⟩⟩
    · refine hA _ _ s5 ⟨D2, rfl, fun z => ?_, by rw [hl1, rs.ints]; rfl⟩
      obtain ⟨l0, h0⟩ := hdl
      rw [← z, hD2] at h0
      cases h0
  exact q D3 H4 (s3.trans s4) (LTab.of hl4 rs4)
end
end P12
namespace P12
open PySem PySem.Spec PyProof.Rows L2 SX EX WK
theorem isForm {K : PySem.W.Frag} {mg : Str → Option Value} {cF : Addr} (U : Frm K mg cF) (cl : Cls K cF) {H : Hp} {p n : Nat} {m : List (List Int)} {b : Int} (h : FormAt K H cF p n m b) : TyX K H (.ref p) (.ref cF) := by
  obtain ⟨dx, e, h1, _⟩ := h
  exact .base (.ins h1 cl U.c1 U.c2 U.c3 U.c4)
theorem flat_at {n i : Nat} {g : Nat → Nat → Int} (hi : i < n) : ((mat n g).take (i + 1)).flatten = ((mat n g).take i).flatten ++ vec n (g i) := flat_take (mat_at hi)
/-- pairs of a row and a weight, as the law draws them -/
def PRow (n : Nat) (H : Hp) (v : V) (p : RW) : Prop := ∃ q r : Addr, v = .ref q ∧ H q = some (.tup [.ref r, .int p.2]) ∧ H r = some (.tup (p.1.map V.int)) ∧ p.1.length = n
def PrsAt (H : Hp) (a : Addr) (n : Nat) (ps : List RW) : Prop := ∃ vs, H a = some (.lst vs) ∧ Rs (PRow n) H vs ps
theorem PRow.same {H H' : Hp} {n : Nat} {v : V} {p : RW} (e : Same H H') (h : PRow n H v p) : PRow n H' v p := by
  obtain ⟨q, r, h1, h2, h3, h4⟩ := h
  exact ⟨q, r, h1, e _ _ h2, e _ _ h3, h4⟩
theorem PrsAt.same {H H' : Hp} {a : Addr} {n : Nat} {ps : List RW} (e : Same H H') (h : PrsAt H a n ps) : PrsAt H' a n ps := by
  obtain ⟨vs, h1, h2, h3⟩ := h
  exact ⟨vs, e _ _ h1, h2, fun i v z a b => (h3 i v z a b).same e⟩
theorem PrsAt.at {H : Hp} {a : Addr} {n : Nat} {ps : List RW} (h : PrsAt H a n ps) : ∃ vs, H a = some (.lst vs) ∧ vs.length = ps.length ∧ ∀ (i : Nat) (p : RW), ps[i]? = some p → ∃ q r : Addr, vs[i]? = some (.ref q) ∧ H q = some (.tup [.ref r, .int p.2]) ∧ H r = some (.tup ((vec n fun j => p.1.getD j 0).map V.int)) := by
  obtain ⟨vs, h1, h2, h3⟩ := h
  refine ⟨vs, h1, h2, fun i p hp => ?_⟩
  have hi : i < vs.length := by
    have := (List.getElem?_eq_some_iff.mp hp).1
    omega
  have e := List.getElem?_eq_getElem hi
  obtain ⟨q, r, g1, g2, g3, g4⟩ := h3 i _ p e hp
  exact ⟨q, r, by rw [e, g1], g2, by rw [← vec_of g4]; exact g3⟩
/-- rows and weights within bounds -/
def PB (ps : List RW) : Prop := ps.length ≤ 64 ∧ ∀ p ∈ ps, 1 ≤ p.2 ∧ B 100 p.2 ∧ ∀ x ∈ p.1, B 100 x
theorem PB.row {ps : List RW} (h : PB ps) {p : RW} (m : p ∈ ps) (j : Nat) : B 100 (p.1.getD j 0) := by
  rw [List.getD_eq_getElem?_getD]
  cases e : p.1[j]? with
  | none => exact (by decide : (0 : Int).natAbs < 2 ^ 100)
  | some x => exact (h.2 p m).2.2 x (List.mem_of_getElem? e)
section
variable {P : Program} {w : World} {K : PySem.W.Frag} {mg : Str → Option Value} {base : Heap} {f : Addr} {fd : FuncData} {cF cR : Addr}
def spIsForm (K : PySem.W.Frag) (cF : Addr) : Sp := fun vs H Q _ => ∃ (p : Addr) (n : Nat) (g : Nat → Nat → Int) (b : Int), vs = [.ref p, .int n] ∧ FormAt K H cF p n (mat n g) b ∧ n ≤ 1000 ∧ 1 ≤ b ∧ (∀ i j, i < n → j < n → B 6500 (g i j)) ∧ gf b (mat n g).flatten = 1 ∧ ∀ H', Same H H' → Q (.bl true) H'
abbrev s__law_is_form : Stmt := top 59
abbrev N__law_is_form : List Str := ["found", "size", "shared", "line", "number"]
theorem sc__law_is_form : FnScope N__law_is_form ["found", "size"] (defScope s__law_is_form) := ⟨rfl, rfl, rfl, by decide +kernel, rfl, by decide +kernel, by decide +kernel⟩
theorem ok__law_is_form (F : Fun K "_law_is_form" "_law_is_form" s__law_is_form f fd) (T : Txt mg) (O : Obs K cF cR) (U : Frm K mg cF) (C__law_whole : Cal P w K mg base 1 "_law_whole" ["value"] spLaw_whole) (C__law_is_point : Cal P w K mg base 2 "_law_is_point" ["value", "size"] (spIsPoint K))
    (C__law_gcd : Cal P w K mg base 1 "_law_gcd" ["one", "two"] spGcd) : FnOk P w K mg base CX0 3 f fd ["found", "size"] (spIsForm K cF) := by
  refine F.ok sc__law_is_form (fun vs H Q E h => ?_) (fun cdv A outer s H vs Q E hr h => ?_)
  · obtain ⟨p, n, g, b, rfl, _⟩ := h
    rfl
  obtain ⟨p, n, g, b, rfl, hp, hn, hb, bg, h1, q⟩ := h
  refine ⟨_, (pss_cons (ps_if (PW.pt (pw_or (pt_not (pt_val (pe_callB call_isi (by rfl) T.b_isinstance (by decide +kernel) (pa_cons (pv 0) (pa_cons (pe_glob (v := .ref _) rfl U.g_Form rfl) pa_nil))))) (pw_or (pt_not (pt_val (pe_cal C__law_whole (hr.mono (by omega)) rfl (pa_cons (pe_fld (pv 0) rfl) pa_nil)))) (pw_or1 (pt_cmpR op_ne (pe_fld (pv 0) rfl) (pv 1) (nomark _)))))) (pss_one (ps_ret pe_bl)) pss_nil)
  (pss_cons (ps_if (PW.pt (pw_or (pt_not (pt_val (pe_cal C__law_whole (hr.mono (by omega)) rfl (pa_cons (pe_fld (pv 0) rfl) pa_nil)))) (pw_or1 (pt_cmpR op_lt (pe_fld (pv 0) rfl) pe_int (nomark _))))) (pss_one (ps_ret pe_bl)) pss_nil)
  (pss_cons (ps_if (PW.pt (pw_or (pt_not (pt_val (pe_callB call_isi (by rfl) T.b_isinstance (by decide +kernel) (pa_cons (pe_fld (pv 0) rfl) (pa_cons (pe_bltn (v := .ty "tuple") (by rfl) T.b_tuple (by decide +kernel) rfl) pa_nil))))) (pw_or1 (pt_cmpR op_ne (pe_callB call_len_seq (by rfl) T.b_len PySem.boot_len (pa_cons (pe_fld (pv 0) rfl) pa_nil)) (pv 1) (nomark _))))) (pss_one (ps_ret pe_bl)) pss_nil)
  (pss_cons (ps_set (i := 2) sc__law_is_form.nd rfl (Or.inl rfl) (pe_fld (pv 0) rfl))
  (pss_cons (ps_for PassesOwn.never rfl (pi_tup (pe_fld (pv 0) rfl)) (pg_name (i := 3) sc__law_is_form.nd rfl (Or.inl rfl)) (pss_cons (ps_if (pt_not (pt_val (pe_cal C__law_is_point (hr.mono (by omega)) rfl (pa_cons (pv 3) (pa_cons (pv 1) pa_nil))))) (pss_one (ps_ret pe_bl)) pss_nil)
  (pss_one (ps_for PassesOwn.never rfl (pi_tup (pv 3)) (pg_name (i := 4) sc__law_is_form.nd rfl (Or.inl rfl)) (pss_one (ps_if (pt_cmpR op_ne (pv 2) pe_int (nomark _)) (pss_one (ps_set (i := 2) sc__law_is_form.nd rfl (Or.inl rfl) (pe_cal C__law_gcd (hr.mono (by omega)) rfl (pa_cons (pv 2) (pa_cons (pv 4) pa_nil))))) pss_nil))))))
  (pss_one (ps_ret (pe_cmpR op_eq (pv 2) pe_int (nomark _))))))))), ?_⟩
  have ty := isForm U O.clF hp
  obtain ⟨dx, e, hi, hz⟩ := hp
  obtain ⟨a, vs, ea, he, hl, hrow⟩ := fz_mat hz
  cases ea
  rw [mat_len] at hl
  refine ⟨_, rfl, _, _, _, _, true, rfl, .own _, ty, U.kF, true, rfl, ifF rfl ?_⟩
  refine ⟨_, rfl, p, cF, dx, _, _, rfl, hi, O.clF, O.F_size, lkFs _ _ _, _, rfl, true, rfl, ifF rfl ?_⟩
  refine ⟨_, rfl, p, cF, dx, _, _, rfl, hi, O.clF, O.F_size, lkFs _ _ _, _, rfl, rfl, _, rfl, ifF (ne_F rfl) ?_⟩
  refine ⟨_, rfl, p, cF, dx, _, _, rfl, hi, O.clF, O.F_bottom, lkFb _ _ _, _, rfl, true, rfl, ifF rfl ?_⟩
  refine ⟨_, rfl, p, cF, dx, _, _, rfl, hi, O.clF, O.F_bottom, lkFb _ _ _, _, _, rfl, rfl, _, rfl, ifF (decide_eq_false (by omega)) ?_⟩
  refine ⟨_, rfl, p, cF, dx, _, _, rfl, hi, O.clF, O.F_entries, lkFe _ _ _, _, _, _, _, true, rfl, .ty _, ty_tup he, kit6, true, rfl, ifF rfl ?_⟩
  refine ⟨_, rfl, p, cF, dx, _, _, rfl, hi, O.clF, O.F_entries, lkFe _ _ _, e, vs, rfl, .inr he, _, rfl, rfl, _, rfl, ifF (ne_F (by rw [hl])) ?_⟩
  refine ⟨_, rfl, p, cF, dx, _, _, rfl, hi, O.clF, O.F_bottom, lkFb _ _ _, ?_⟩
  refine ⟨_, rfl, p, cF, dx, _, _, rfl, hi, O.clF, O.F_entries, lkFe _ _ _, e, rfl, ⟨_, he⟩, for_tup (K := K) (a := e) (xs := vs) (fun i σ H' => ∃ v3 v4 : Option V, σ = [some (.ref p), some (.int n), some (.int (gf b ((mat n g).take i).flatten)), v3, v4] ∧ Same H H') ⟨none, none, rfl, fun _ _ h => h⟩ (fun i σ H' _ ⟨_, _, _, s⟩ => Same_seqT s he) ?_ ?_⟩
  · rintro i x σ H1 hx ⟨v3, v4, rfl, s1⟩
    have hi1 : i < n := by
      have := (List.getElem?_eq_some_iff.mp hx).1
      omega
    obtain ⟨r, hr1, hr2⟩ := hrow i _ (mat_at hi1)
    rw [hx] at hr1
    cases hr1
    refine ⟨_, rfl, _, rfl, r, n, g i, rfl, Same_seqT s1 hr2, hn, fun H2 s2 => ⟨true, rfl, ifF rfl ?_⟩⟩
    have s12 := s1.trans s2
    refine ⟨_, rfl, r, rfl, ⟨_, Same_seqT s12 hr2⟩, for_tup (K := K) (a := r) (xs := (vec n (g i)).map V.int) (fun j σ H' => ∃ v4 : Option V, σ = [some (.ref p), some (.int n), some (.int (gf b (((mat n g).take i).flatten ++ (vec n (g i)).take j))), some (.ref r), v4] ∧ Same H H') ⟨v4, by rw [List.take_zero, List.append_nil]; rfl, s12⟩ (fun j σ H' _ ⟨_, _, s⟩ => Same_seqT s hr2) ?_ ?_⟩
    · rintro j x σ H3 hx3 ⟨v4, rfl, s3⟩
      have hj1 : j < n := by
        have := (List.getElem?_eq_some_iff.mp hx3).1
        rw [vec_lenV] at this
        exact this
      rw [vecV_at hj1] at hx3
      cases hx3
      have e1 : gf b (((mat n g).take i).flatten ++ (vec n (g i)).take (j + 1)) = gI (gf b (((mat n g).take i).flatten ++ (vec n (g i)).take j)) (g i j) := by
        rw [take_one (vec_at hj1), ← List.append_assoc, gf_snoc]
      refine ⟨_, rfl, rfl, _, rfl, ?_⟩
      by_cases h0 : gf b (((mat n g).take i).flatten ++ (vec n (g i)).take j) = 1
      · refine ifF (ne_F h0) ⟨some (.int (g i j)), ?_, s3⟩
        rw [e1, h0, gI_unit]
        rfl
      · refine ifT (ne_T h0) ⟨_, rfl, _, rfl, _, _, rfl, bg i j hi1 hj1, some (.int (g i j)), ?_, s3⟩
        rw [e1]
        rfl
    · rintro σ H3 ⟨v4, rfl, s3⟩
      refine ⟨some (.ref r), v4, ?_, s3⟩
      have ev : (vec n (g i)).take n = vec n (g i) := List.take_of_length_le (by rw [vec_len]; exact Nat.le_refl _)
      rw [vec_lenV, ev, flat_at hi1]
  · rintro σ H1 ⟨v3, v4, rfl, s1⟩
    refine ⟨_, rfl, rfl, ?_⟩
    rw [hl, List.take_of_length_le (by rw [mat_len]; exact Nat.le_refl _), h1]
    exact q H1 s1
def spFormIs (K : PySem.W.Frag) (cF : Addr) : Sp := fun vs H Q _ => ∃ (p a : Addr) (n : Nat) (g T : Nat → Nat → Int) (b u : Int), vs = [.ref p, .ref a, .int u] ∧ FormAt K H cF p n (mat n g) b ∧ LTab H a n T ∧ n ≤ 1000 ∧ Red n g b 6500 ∧ Is n g b T u ∧ B 6500 u ∧ (∀ i j, i < n → j < n → B 6500 (T i j)) ∧ ∀ H', Same H H' → Q (.bl true) H'
abbrev s__law_form_is : Stmt := top 60
abbrev N__law_form_is : List Str := ["found", "table", "under", "size", "i", "j"]
theorem sc__law_form_is : FnScope N__law_form_is ["found", "table", "under"] (defScope s__law_form_is) := ⟨rfl, rfl, rfl, by decide +kernel, rfl, by decide +kernel, by decide +kernel⟩
theorem ok__law_form_is (F : Fun K "_law_form_is" "_law_form_is" s__law_form_is f fd) (T : Txt mg) (O : Obs K cF cR) (C__law_is_form : Cal P w K mg base 3 "_law_is_form" ["found", "size"] (spIsForm K cF)) : FnOk P w K mg base CX0 4 f fd ["found", "table", "under"] (spFormIs K cF) := by
  refine F.ok sc__law_form_is (fun vs H Q E h => ?_) (fun cdv A outer s H vs Q E hr h => ?_)
  · obtain ⟨p, a, n, g, M, b, u, rfl, _⟩ := h
    rfl
  obtain ⟨p, a, n, g, M, b, u, rfl, hp, ht, hn, hred, his, hu, bT, q⟩ := h
  refine ⟨_, (pss_cons (ps_set (i := 3) sc__law_form_is.nd rfl (Or.inl rfl) (pe_callB call_len_seq (by rfl) T.b_len PySem.boot_len (pa_cons (pv 1) pa_nil)))
  (pss_cons (ps_if (pt_not (pt_val (pe_cal C__law_is_form (hr.mono (by omega)) rfl (pa_cons (pv 0) (pa_cons (pv 3) pa_nil))))) (pss_one (ps_ret pe_bl)) pss_nil)
  (pss_cons (ps_for PassesOwn.never rfl (pi_range1 (by rfl) T.b_range (pa_cons (pv 3) pa_nil)) (pg_name (i := 4) sc__law_form_is.nd rfl (Or.inl rfl)) (pss_one (ps_for PassesOwn.never rfl (pi_range1 (by rfl) T.b_range (pa_cons (pv 3) pa_nil)) (pg_name (i := 5) sc__law_form_is.nd rfl (Or.inl rfl)) (pss_one (ps_if (pt_cmpR op_ne (pe_op op_mulW (pe_ix ix_tup (pe_ix ix_tup (pe_fld (pv 0) rfl) (pv 4) (fun _ _ => rfl)) (pv 5) (fun _ _ => rfl)) (pv 2)) (pe_op op_mulW (pe_ix ix_list (pe_ix ix_list (pv 1) (pv 4) (fun _ _ => rfl)) (pv 5) (fun _ _ => rfl)) (pe_fld (pv 0) rfl)) (nomark _)) (pss_one (ps_ret pe_bl)) pss_nil)))))
  (pss_one (ps_ret pe_bl))))), ?_⟩
  obtain ⟨ws, ha, hla, hrowa⟩ := ht.at
  refine ⟨_, rfl, _, _, rfl, .inl (SqL.of ha), ?_⟩
  rw [hla]
  refine ⟨_, rfl, _, rfl, p, n, g, b, rfl, hp, hn, by have := hred.pos; omega, hred.fb, hred.one, fun H1 s1 => ⟨true, rfl, ifF rfl ?_⟩⟩
  obtain ⟨dx, e, hi, hz⟩ := hp
  obtain ⟨a2, vs, ea, he, hl, hrow⟩ := fz_mat hz
  cases ea
  refine ⟨_, rfl, (n : Int), rfl, by omega, by omega, for_range (lo := 0) (n := n) (fun i σ H' => ∃ v4 v5 : Option V, σ = [some (.ref p), some (.ref a), some (.int u), some (.int n), v4, v5] ∧ Same H H') ⟨none, none, rfl, s1⟩ ?_ ?_⟩
  · rintro i σ H2 hi1 ⟨v4, v5, rfl, s2⟩
    refine ⟨_, rfl, (n : Int), rfl, by omega, by omega, for_range (lo := 0) (n := n) (fun j σ H' => ∃ v5 : Option V, σ = [some (.ref p), some (.ref a), some (.int u), some (.int n), some (.int (0 + (i : Int))), v5] ∧ Same H H') ⟨v5, rfl, s2⟩ ?_ ?_⟩
    · rintro j σ H3 hj1 ⟨v5, rfl, s3⟩
      obtain ⟨r, hr1, hr2⟩ := hrow i _ (mat_at hi1)
      obtain ⟨r3, hr3, hr4⟩ := hrowa i hi1
      have ei : (0 + (i : Int)).toNat = i := by omega
      refine ⟨_, rfl, p, cF, dx, _, _, rfl, s3 _ _ hi, O.clF, O.F_entries, lkFe _ _ _, _, rfl, e, _, _, _, rfl, rfl, Same_seqT s3 he, at_pos (by omega) (by rw [ei]; exact hr1), _, rfl, r, _, _, _, rfl, rfl, Same_seqT s3 hr2, ixv hj1, _, rfl, _, _, rfl, rfl, wmul (hred.fb i j hi1 hj1) hu (by decide) (by decide) (by decide), ?_⟩
      refine ⟨_, rfl, _, rfl, a, _, _, _, rfl, rfl, SqL.of (s3 _ _ ha), at_pos (by omega) (by rw [ei]; exact hr3), _, rfl, r3, _, _, _, rfl, rfl, SqL.of (s3 _ _ hr4), ixv hj1, _, rfl, p, cF, dx, _, _, rfl, s3 _ _ hi, O.clF, O.F_bottom, lkFb _ _ _, _, _, rfl, rfl, wmul (bT i j hi1 hj1) hred.bb (by decide) (by decide) (by decide), rfl, _, rfl, ifF (ne_F (his i j hi1 hj1)) ⟨some (.int (0 + (j : Int))), rfl, s3⟩⟩
    · rintro σ H3 ⟨v5, rfl, s3⟩
      exact ⟨some (.int (0 + (i : Int))), v5, rfl, s3⟩
  · rintro σ H2 ⟨v4, v5, rfl, s2⟩
    exact q H2 s2
/-- the sum of weights times values -/
def wtd (n : Nat) (T : Nat → Nat → Int) (ps : List RW) : Int := Ls ps fun p => p.2 * bil n T (fun i => p.1.getD i 0) (fun i => p.1.getD i 0)
def spWtd (K : PySem.W.Frag) : Sp := fun vs H Q _ => ∃ (a t : Addr) (n : Nat) (ps : List RW) (T : Nat → Nat → Int), vs = [.ref a, .ref t] ∧ PrsAt H a n ps ∧ PB ps ∧ LTab H t n T ∧ n ≤ 16 ∧ (∀ i j, i < n → j < n → B 100 (T i j)) ∧ ∀ H', Same H H' → Q (.int (wtd n T ps)) H'
theorem bil_B {n k1 k2 k3 : Nat} {g : Nat → Nat → Int} {x y : Nat → Int} (hn : n ≤ 16) (bg : ∀ i j, i < n → j < n → B k1 (g i j)) (bx : ∀ i, i < n → B k2 (x i)) (by_ : ∀ i, i < n → B k3 (y i)) : B (k2 + (k1 + k3 + 4) + 4) (bil n g x y) :=
  BS (c := 4) (fun i hi => B.mul (bx i hi) (BS (c := 4) (fun j hj => B.mul (bg i j hi hj) (by_ j hj)) hn)) hn
abbrev s__law_weighted : Stmt := top 61
abbrev N__law_weighted : List Str := ["pairs", "table", "pair"]
theorem sc__law_weighted : FnScope N__law_weighted ["pairs", "table"] (defScope s__law_weighted) := ⟨rfl, rfl, rfl, by decide +kernel, rfl, by decide +kernel, by decide +kernel⟩
theorem ok__law_weighted (F : Fun K "_law_weighted" "_law_weighted" s__law_weighted f fd) (T : Txt mg) (C__law_value : Cal P w K mg base 2 "_law_value" ["table", "one", "two"] (spValue K)) : FnOk P w K mg base CX0 3 f fd ["pairs", "table"] (spWtd K) := by
  refine F.ok sc__law_weighted (fun vs H Q E h => ?_) (fun cdv A outer s H vs Q E hr h => ?_)
  · obtain ⟨a, t, n, ps, M, rfl, _⟩ := h
    rfl
  obtain ⟨a, t, n, ps, M, rfl, hps, hpb, ht, hn, bT, q⟩ := h
  refine ⟨_, (pss_one (ps_ret (pe_callB (cr_sum rfl) (by rfl) T.b_sum (by decide +kernel) (pa_cons (pe_lc (own := [("pair", 2)]) (g := gName 2) (tt := tYes) (by rfl) sc__law_weighted.nd (pi_list (pv 0)) (blkOk_by (N := N__law_weighted) (sc := defScope s__law_weighted) (by decide +kernel)) (fun _ _ _ _ _ => (pg_name (i := 2) sc__law_weighted.nd rfl (Or.inl rfl))) (fun _ _ _ _ _ => pts_nil) (fun _ _ _ _ _ => (pe_op op_mulW (pe_ix (ix_tupK (K := K) rfl) (pv 2) pe_int (fun _ _ => rfl)) (pe_cal C__law_value (hr.mono (by omega)) rfl (pa_cons (pv 1) (pa_cons (pe_ix (ix_tupK (K := K) rfl) (pv 2) pe_int (fun _ _ => rfl)) (pa_cons (pe_ix (ix_tupK (K := K) rfl) (pv 2) pe_int (fun _ _ => rfl)) pa_nil))))))) pa_nil)))), ?_⟩
  obtain ⟨vs, ha, hl, hrow⟩ := hps.at
  refine ⟨_, rfl, a, rfl, ⟨_, SqL.of ha⟩, fun D hD => ?_⟩
  refine lc_m (walk_list (K := K) (a := a) (xs := vs)) RI (stb_RI (K := K)) ps hl (by have := hpb.1; omega) hD (fun H' s => s.seq (SqL.of ha)) (fun _ _ _ _ => ys_at) (fun p => p.2 * bil n M (fun i => p.1.getD i 0) (fun i => p.1.getD i 0)) (fun c p x H1 H2 hc s1 s2 y A B hA => ?_) (fun H' l s1 hl1 rs => ?_)
  · obtain ⟨r1, r2, hr1, hr2, hr3⟩ := hrow c p hc
    rw [y.2] at hr1
    cases hr1
    have m := List.mem_of_getElem? hc
    have sn : Sn K H2 (.ref r2) (tv n fun j => p.1.getD j 0) := .tup (SqT.of (s2 _ _ hr3)) (FzAll.of_ints _).sn
    refine ⟨rfl, lc_yes ⟨_, rfl, r1, _, 1, _, rfl, rfl, SqT.of (s2 _ _ hr2), at_pos (by decide) rfl, _, rfl, _, rfl, r1, _, 0, _, rfl, rfl, SqT.of (s2 _ _ hr2), at_pos (by decide) rfl, _, rfl, r1, _, 0, _, rfl, rfl, SqT.of (s2 _ _ hr2), at_pos (by decide) rfl, ?_⟩⟩
    refine ⟨t, _, _, n, 100, 100, 100, M, _, _, rfl, ht.same s2, sn, sn, hn, bT, fun j _ => hpb.row m j, fun j _ => hpb.row m j, by decide, by decide, by decide, by decide, fun H3 s3 => ⟨_, _, rfl, rfl, wmul (m := 100) (n := 308) (hpb.2 p m).2.1 (bil_B (k1 := 100) (k2 := 100) (k3 := 100) hn bT (fun j _ => hpb.row m j) (fun j _ => hpb.row m j)) (by decide) (by decide) (by decide), hA _ _ s3 rfl⟩⟩
  · exact ⟨D, _, rfl, SqL.of (by rw [hl1, rs.ints]), q H' s1⟩
def crs (n : Nat) (ps os : List RW) : Int := Ls ps fun p => p.2 * Ls os fun o => o.2 * (S n fun i => p.1.getD i 0 * o.1.getD i 0) ^ 2
def spCrs (K : PySem.W.Frag) : Sp := fun vs H Q _ => ∃ (a b : Addr) (n : Nat) (ps os : List RW), vs = [.ref a, .ref b] ∧ PrsAt H a n ps ∧ PB ps ∧ PrsAt H b n os ∧ PB os ∧ n ≤ 16 ∧ ∀ H', Same H H' → Q (.int (crs n ps os)) H'
theorem B_sq {k : Nat} {x : Int} (h : B k x) : B (k + k) (x ^ 2) := by
  rw [show x ^ 2 = x * x from Int.pow_succ x 1 ▸ by rw [Int.pow_succ, Int.pow_zero, Int.one_mul]]
  exact B.mul h h
abbrev s__law_crossed : Stmt := top 62
abbrev N__law_crossed : List Str := ["pairs", "others", "total", "pair", "other"]
theorem sc__law_crossed : FnScope N__law_crossed ["pairs", "others"] (defScope s__law_crossed) := ⟨rfl, rfl, rfl, by decide +kernel, rfl, by decide +kernel, by decide +kernel⟩
theorem ok__law_crossed (F : Fun K "_law_crossed" "_law_crossed" s__law_crossed f fd) (T : Txt mg) (C__law_dot : Cal P w K mg base 1 "_law_dot" ["one", "two"] (spDot K)) : FnOk P w K mg base CX0 2 f fd ["pairs", "others"] (spCrs K) := by
  refine F.ok sc__law_crossed (fun vs H Q E h => ?_) (fun cdv A outer s H vs Q E hr h => ?_)
  · obtain ⟨a, b, n, ps, os, rfl, _⟩ := h
    rfl
  obtain ⟨a, b, n, ps, os, rfl, hps, hpb, hos, hob, hn, q⟩ := h
  refine ⟨_, (pss_cons (ps_set (i := 2) sc__law_crossed.nd rfl (Or.inl rfl) pe_int)
  (pss_cons (ps_for PassesOwn.never rfl (pi_list (pv 0)) (pg_name (i := 3) sc__law_crossed.nd rfl (Or.inr rfl)) (pss_one (ps_set (i := 2) sc__law_crossed.nd rfl (Or.inl rfl) (pe_op op_add (pv 2) (pe_op op_mulW (pe_ix ix_tup (pv 3) pe_int (fun _ _ => rfl)) (pe_callB (cr_sum rfl) (by rfl) T.b_sum (by decide +kernel) (pa_cons (pe_lc (own := [("other", 4)]) (g := gName 4) (tt := tYes) (by rfl) sc__law_crossed.nd (pi_list (pv 1)) (blkOk_by (N := N__law_crossed) (sc := defScope s__law_crossed) (by decide +kernel)) (fun _ _ _ _ _ => (pg_name (i := 4) sc__law_crossed.nd rfl (Or.inl rfl))) (fun _ _ _ _ _ => pts_nil) (fun _ _ _ _ _ => (pe_op op_mulW (pe_ix (ix_tupK (K := K) rfl) (pv 4) pe_int (fun _ _ => rfl)) (pe_op WC.op_sq (pe_cal C__law_dot (hr.mono (by omega)) rfl (pa_cons (pe_ix (ix_tupK (K := K) rfl) (pv 3) pe_int (fun _ _ => rfl)) (pa_cons (pe_ix (ix_tupK (K := K) rfl) (pv 4) pe_int (fun _ _ => rfl)) pa_nil))) pe_int)))) pa_nil)))))))
  (pss_one (ps_ret (pv 2))))), ?_⟩
  obtain ⟨vs, ha, hl, hrow⟩ := hps.at
  obtain ⟨ws, hb, hl2, hrow2⟩ := hos.at
  refine ⟨_, rfl, a, rfl, ⟨_, SqL.of ha⟩, for_list (K := K) (a := a) (xs := vs) (fun i σ H' => ∃ v : Option V, σ = [some (.ref a), some (.ref b), some (.int (crs n (ps.take i) os)), v, none] ∧ Same H H') ⟨none, rfl, fun _ _ h => h⟩ (fun i σ H' _ ⟨_, _, s⟩ => s.seq (SqL.of ha)) ?_ ?_⟩
  · rintro i x σ H1 hx ⟨v, rfl, s1⟩
    obtain ⟨p, hp⟩ : ∃ p, ps[i]? = some p := ⟨_, List.getElem?_eq_getElem (by have := (List.getElem?_eq_some_iff.mp hx).1; omega)⟩
    obtain ⟨r1, r2, hr1, hr2, hr3⟩ := hrow i p hp
    rw [hx] at hr1
    cases hr1
    have m := List.mem_of_getElem? hp
    refine ⟨_, rfl, _, rfl, r1, _, 1, _, rfl, rfl, SqT.of (s1 _ _ hr2), at_pos (by decide) rfl, ?_⟩
    refine ⟨_, rfl, b, rfl, ⟨_, SqL.of (s1 _ _ hb)⟩, fun D hD => ?_⟩
    refine lc_m (walk_list (K := K) (a := b) (xs := ws)) RI (stb_RI (K := K)) os hl2 (by have := hob.1; omega) hD (fun H' s => s.seq (SqL.of (s1 _ _ hb))) (fun _ _ _ _ => ys_at) (fun o => o.2 * (S n fun i => p.1.getD i 0 * o.1.getD i 0) ^ 2) (fun c o x H2 H3 hc s2 s3 y A B hA => ?_) (fun H3 l s3 hl1 rs => ?_)
    · obtain ⟨q1, q2, hq1, hq2, hq3⟩ := hrow2 c o hc
      rw [y.2] at hq1
      cases hq1
      have m2 := List.mem_of_getElem? hc
      have s13 := s1.trans s3
      have bd : P12.B 204 (S n fun i => p.1.getD i 0 * o.1.getD i 0) := BS (k := 200) (c := 4) (fun j _ => P12.B.mul (m := 100) (n := 100) (hpb.row m j) (hob.row m2 j)) hn
      refine ⟨rfl, lc_yes ⟨_, rfl, q1, _, 1, _, rfl, rfl, SqT.of (s13 _ _ hq2), at_pos (by decide) rfl, _, rfl, r1, _, 0, _, rfl, rfl, SqT.of (s13 _ _ hr2), at_pos (by decide) rfl, _, rfl, q1, _, 0, _, rfl, rfl, SqT.of (s13 _ _ hq2), at_pos (by decide) rfl, ?_⟩⟩
      refine ⟨_, _, n, 100, 100, _, _, rfl, .tup (SqT.of (s13 _ _ hr3)) (FzAll.of_ints _).sn, .tup (SqT.of (s13 _ _ hq3)) (FzAll.of_ints _).sn, by omega, fun j _ => hpb.row m j, fun j _ => hob.row m2 j, by decide, by decide, by decide, fun H4 s4 => ?_⟩
      refine ⟨_, _, rfl, rfl, ⟨rfl, bd.mono (by decide)⟩, _, _, rfl, rfl, wmul (m := 100) (n := 408) (hob.2 o m2).2.1 (B_sq (k := 204) bd) (by decide) (by decide) (by decide), hA _ _ s4 rfl⟩
    · have bo : P12.B 514 (Ls os fun o => o.2 * (S n fun i => p.1.getD i 0 * o.1.getD i 0) ^ 2) := BLs (k := 508) (c := 6) (fun o m2 => P12.B.mul (m := 100) (n := 408) (hob.2 o m2).2.1 (B_sq (k := 204) (BS (k := 200) (c := 4) (fun j _ => P12.B.mul (m := 100) (n := 100) (hpb.row m j) (hob.row m2 j)) hn))) hob.1
      refine ⟨D, _, rfl, SqL.of (by rw [hl1, rs.ints]), _, _, rfl, rfl, wmul (m := 100) (n := 514) (hpb.2 p m).2.1 bo (by decide) (by decide) (by decide), _, _, rfl, rfl, some (.ref r1), ?_, s1.trans s3⟩
      unfold crs
      rw [take_one hp, Ls_snoc]
      rfl
  · rintro σ H1 ⟨v, rfl, s1⟩
    rw [hl, List.take_length]
    exact ⟨_, rfl, q H1 s1⟩
end
end P12
namespace P12
open PySem PySem.Spec PyProof.Rows L2 SX EX WK
/-- a table under work: all that stood at H0 stands -/
structure MT (H0 H : Hp) (a : Addr) (rs : List Addr) (n : Nat) (f : Nat → Nat → Int) : Prop where
  same : Same H0 H
  at_ : H a = some (.lst (rs.map V.ref))
  len : rs.length = n
  nd : rs.Nodup
  na : a ∉ rs
  fr : ∀ r ∈ rs, H0 r = none
  row : ∀ (i : Nat), i < n → ∃ p, rs[i]? = some p ∧ H p = some (.lst ((vec n (f i)).map V.int))
theorem MT.ltab {H0 H : Hp} {a : Addr} {rs : List Addr} {n : Nat} {f : Nat → Nat → Int} (h : MT H0 H a rs n f) : LTab H a n f := ⟨rs, h.at_, h.len, h.row⟩
theorem MT.keep {H0 H H' : Hp} {a : Addr} {rs : List Addr} {n : Nat} {f : Nat → Nat → Int} (h : MT H0 H a rs n f) (s : Same H H') : MT H0 H' a rs n f := by
  refine ⟨h.same.trans s, s _ _ h.at_, h.len, h.nd, h.na, h.fr, fun i hi => ?_⟩
  obtain ⟨p, h1, h2⟩ := h.row i hi
  exact ⟨p, h1, s _ _ h2⟩
theorem MT.congr {H0 H : Hp} {a : Addr} {rs : List Addr} {n : Nat} {f g : Nat → Nat → Int} (h : MT H0 H a rs n f) (e : ∀ i j, i < n → j < n → f i j = g i j) : MT H0 H a rs n g := by
  refine ⟨h.same, h.at_, h.len, h.nd, h.na, h.fr, fun i hi => ?_⟩
  obtain ⟨p, h1, h2⟩ := h.row i hi
  exact ⟨p, h1, by rw [← vec_congr fun j hj => e i j hi hj]; exact h2⟩
def put (f : Nat → Nat → Int) (i j : Nat) (v : Int) : Nat → Nat → Int := fun a b => if a = i ∧ b = j then v else f a b
theorem vec_set {n j : Nat} {x : Nat → Int} {v : Int} (hj : j < n) : ((vec n x).map V.int).set j (.int v) = ((vec n fun b => if b = j then v else x b).map V.int) := by
  refine List.ext_getElem? fun b => ?_
  by_cases hb : b < n
  · rw [vecV_at hb, List.getElem?_set]
    by_cases e : j = b
    · subst e
      rw [if_pos rfl, if_pos rfl, if_pos (by rw [vec_lenV]; exact hb)]
    · rw [if_neg e, vecV_at hb, if_neg (Ne.symm e)]
  · rw [List.getElem?_eq_none (by rw [List.length_set, vec_lenV]; omega), List.getElem?_eq_none (by rw [vec_lenV]; omega)]
theorem MT.set {H0 H : Hp} {a p : Addr} {rs : List Addr} {n i j : Nat} {f : Nat → Nat → Int} {v : Int} (h : MT H0 H a rs n f) (hi : i < n) (hj : j < n) (hp : rs[i]? = some p) : MT H0 (upd H p (.lst (((vec n (f i)).map V.int).set j (.int v)))) a rs n (put f i j v) := by
  have mp := List.mem_of_getElem? hp
  refine ⟨same_at h.same (h.fr p mp), ?_, h.len, h.nd, h.na, h.fr, fun b hb => ?_⟩
  · rw [upd_ne (fun z => h.na (by rw [z]; exact mp))]
    exact h.at_
  · obtain ⟨r, h1, h2⟩ := h.row b hb
    refine ⟨r, h1, ?_⟩
    by_cases e : b = i
    · subst e
      rw [hp] at h1
      cases h1
      rw [upd_same, vec_set hj]
      congr 3
      refine vec_congr fun c hc => ?_
      unfold put
      by_cases ec : c = j
      · rw [if_pos ec, if_pos ⟨rfl, ec⟩]
      · rw [if_neg ec, if_neg fun z => ec z.2]
    · have hr : r ≠ p := fun z => by
        have hib : i < rs.length := (List.getElem?_eq_some_iff.mp hp).1
        have e1 := (List.getElem?_inj hib h.nd).mp (hp.trans (by rw [h1, z]))
        exact e e1.symm
      rw [upd_ne hr, h2]
      congr 3
      refine vec_congr fun c hc => ?_
      unfold put
      rw [if_neg fun z => e z.1]
theorem MT.start {H0 : Hp} {D : Addr} (h : H0 D = none) : MT H0 (upd H0 D (.lst [])) D [] 0 (fun _ _ => 0) := ⟨new_same h _, upd_same, rfl, List.nodup_nil, by simp, by simp, fun i hi => by omega⟩
theorem zero_vec {m n : Nat} {l : List V} {H : Hp} (h : Rs RI H l ((List.range n).map fun _ => (0 : Int))) : l = (vec n fun _ => 0).map V.int := h.ints
section
variable {P : Program} {w : World} {K : PySem.W.Frag} {mg : Str → Option Value} {base : Heap} {f : Addr} {fd : FuncData} {cF cR : Addr}
/-- rows of zeros, so far i of them -/
structure ZT (H0 H : Hp) (a : Addr) (rs : List Addr) (n i : Nat) : Prop where
  same : Same H0 H
  at_ : H a = some (.lst (rs.map V.ref))
  len : rs.length = i
  nd : rs.Nodup
  na : a ∉ rs
  fr : ∀ r ∈ rs, H0 r = none
  row : ∀ r ∈ rs, H r = some (.lst ((vec n fun _ => 0).map V.int))
theorem ZT.mt {H0 H : Hp} {a : Addr} {rs : List Addr} {n : Nat} (h : ZT H0 H a rs n n) : MT H0 H a rs n (fun _ _ => 0) :=
  ⟨h.same, h.at_, h.len, h.nd, h.na, h.fr, fun i hi => ⟨rs[i]'(by rw [h.len]; exact hi), List.getElem?_eq_getElem _, h.row _ (List.getElem_mem _)⟩⟩
theorem ZT.snoc {H0 H H' : Hp} {a p : Addr} {rs : List Addr} {n i : Nat} (h : ZT H0 H a rs n i) (h0 : H0 a = none) (s : Same H H') (hp : H p = none) (hr : H' p = some (.lst ((vec n fun _ => 0).map V.int))) : ZT H0 (upd H' a (.lst (rs.map V.ref ++ [.ref p]))) a (rs ++ [p]) n (i + 1) := by
  have hpa : p ≠ a := fun z => by rw [z, h.at_] at hp; cases hp
  refine ⟨same_at (h.same.trans s) h0, ?_, by rw [List.length_append, h.len]; rfl, ?_, ?_, fun r hr' => ?_, fun r hr' => ?_⟩
  · rw [upd_same, List.map_append]
    rfl
  · refine List.nodup_append.mpr ⟨h.nd, by simp, fun x hx y hy z => ?_⟩
    rw [List.mem_singleton] at hy
    subst hy
    subst z
    rw [h.row _ hx] at hp
    cases hp
  · intro hm
    rcases List.mem_append.mp hm with m | m
    · exact h.na m
    · exact hpa (List.mem_singleton.mp m).symm
  · rcases List.mem_append.mp hr' with m | m
    · exact h.fr r m
    · rw [List.mem_singleton.mp m]
      cases e : H0 p with
      | none => rfl
      | some u => rw [h.same _ _ e] at hp; cases hp
  · rcases List.mem_append.mp hr' with m | m
    · rw [upd_ne (fun z => h.na (by rw [← z]; exact m))]
      exact s _ _ (h.row r m)
    · rw [List.mem_singleton.mp m, upd_ne hpa]
      exact hr
def spTab (K : PySem.W.Frag) : Sp := fun vs H Q _ => ∃ (a : Addr) (n : Nat) (ps : List RW), vs = [.int n, .ref a] ∧ PrsAt H a n ps ∧ PB ps ∧ n ≤ 16 ∧ ∀ r H', Same H H' → LTab H' r n (wsum ps) → Q (.ref r) H'
theorem wsum_snoc {ps : List RW} {k : Nat} {p : RW} (h : ps[k]? = some p) (i j : Nat) : wsum (ps.take (k + 1)) i j = wsum (ps.take k) i j + p.2 * p.1.getD i 0 * p.1.getD j 0 := by
  unfold wsum
  rw [take_one h, List.map_append, List.sum_append]
  simp
/-- between two states: the rows below i are done, of the row i the first j -/
def mix (f g : Nat → Nat → Int) (i j : Nat) : Nat → Nat → Int := fun a b => if a < i ∨ (a = i ∧ b < j) then g a b else f a b
theorem mix_put (f g : Nat → Nat → Int) (i j : Nat) : ∀ a b, put (mix f g i j) i j (g i j) a b = mix f g i (j + 1) a b := fun a b => by
  unfold put mix
  by_cases h : a = i ∧ b = j
  · rw [if_pos h, if_pos (.inr ⟨h.1, by omega⟩), h.1, h.2]
  · rw [if_neg h]
    by_cases h2 : a < i ∨ (a = i ∧ b < j)
    · rw [if_pos h2, if_pos (by omega)]
    · rw [if_neg h2, if_neg (by omega)]
theorem mix_at (f g : Nat → Nat → Int) (i j : Nat) : mix f g i j i j = f i j := by
  unfold mix
  rw [if_neg (by omega)]
theorem mix_row (f g : Nat → Nat → Int) (n i : Nat) : ∀ a b, a < n → b < n → mix f g i n a b = mix f g (i + 1) 0 a b := fun a b ha hb => by
  unfold mix
  by_cases h : a < i + 1
  · rw [if_pos (by omega), if_pos (by omega)]
  · rw [if_neg (by omega), if_neg (by omega)]
abbrev s__law_table : Stmt := top 47
abbrev N__law_table : List Str := ["size", "pairs", "i", "j", "table", "pair"]
theorem sc__law_table : FnScope N__law_table ["size", "pairs"] (defScope s__law_table) := ⟨rfl, rfl, rfl, by decide +kernel, rfl, by decide +kernel, by decide +kernel⟩
theorem ok__law_table (F : Fun K "_law_table" "_law_table" s__law_table f fd) (T : Txt mg) : FnOk P w K mg base CX0 1 f fd ["size", "pairs"] (spTab K) := by
  refine F.ok sc__law_table (fun vs H Q E h => ?_) (fun cdv A outer s H vs Q E hr h => ?_)
  · obtain ⟨a, n, ps, rfl, _⟩ := h
    rfl
  obtain ⟨a, n, ps, rfl, hps, hpb, hn, q⟩ := h
  refine ⟨_, (pss_cons (ps_setLc (i := 4) (own := [("i", 2)]) (g := gName 2) (tt := tYes) (by rfl) sc__law_table.nd rfl rfl (sw_true rfl rfl rfl (by decide +kernel)) (pi_range1 (by rfl) T.b_range (pa_cons (pv 0) pa_nil)) (blkOk_by (N := N__law_table) (sc := defScope s__law_table) (by decide +kernel)) (fun _ _ _ _ _ => (pg_name (i := 2) sc__law_table.nd rfl (Or.inl rfl))) (fun _ _ _ _ _ => pts_nil) (fun _ _ _ _ _ => (pe_lc (own := [("j", 3)]) (g := gName 3) (tt := tYes) (by rfl) sc__law_table.nd (pi_range1 (by rfl) T.b_range (pa_cons (pv 0) pa_nil)) (blk_nest (N := N__law_table) (sc0 := defScope s__law_table) rfl (by decide +kernel)) (fun _ _ _ _ _ => (pg_name (i := 3) sc__law_table.nd rfl (Or.inl rfl))) (fun _ _ _ _ _ => pts_nil) (fun _ _ _ _ _ => pe_int))))
  (pss_cons (ps_for PassesOwn.never rfl (pi_list (pv 1)) (pg_name (i := 5) sc__law_table.nd rfl (Or.inl rfl)) (pss_one (ps_for PassesOwn.never rfl (pi_range1 (by rfl) T.b_range (pa_cons (pv 0) pa_nil)) (pg_name (i := 2) sc__law_table.nd rfl (Or.inl rfl)) (pss_one (ps_for PassesOwn.never rfl (pi_range1 (by rfl) T.b_range (pa_cons (pv 0) pa_nil)) (pg_name (i := 3) sc__law_table.nd rfl (Or.inl rfl)) (pss_one (ps_asg (pe_op op_add (pe_ix ix_list (pe_ix ix_list (pv 4) (pv 2) (fun _ _ => rfl)) (pv 3) (fun _ _ => rfl)) (pe_op op_mulW (pe_op op_mulW (pe_ix ix_tup (pv 5) pe_int (fun _ _ => rfl)) (pe_ix ix_tup (pe_ix ix_tup (pv 5) pe_int (fun _ _ => rfl)) (pv 2) (fun _ _ => rfl))) (pe_ix ix_tup (pe_ix ix_tup (pv 5) pe_int (fun _ _ => rfl)) (pv 3) (fun _ _ => rfl)))) (pg_sub (pe_ix ix_list (pv 4) (pv 2) (fun _ _ => rfl)) (pv 3) set_list))))))))
  (pss_one (ps_ret (pv 4))))), ?_⟩
  obtain ⟨vs, ha, hl, hrow⟩ := hps.at
  refine ⟨_, rfl, (n : Int), rfl, by omega, by omega, fun D hD => ?_⟩
  refine ⟨fun i m H' => m = n - i ∧ i ≤ n ∧ ∃ rs, ZT H H' D rs n i, ⟨_, rfl, Nat.zero_le _, [], new_same hD _, upd_same, rfl, List.nodup_nil, by simp, by simp, by simp⟩, ?_⟩
  rintro i m H1 ⟨rfl, hi, rs, z⟩
  by_cases hlt : i < n
  · refine .inr ⟨by show i < (n : Int).toNat; omega, fun H' => ∃ rs, ZT H H' D rs n (i + 1), fun H' h' => ⟨_, by omega, rfl, hlt, h'⟩, ?_⟩
    rintro x H2 ⟨rfl, rfl⟩
    refine ⟨rfl, lc_yes ⟨_, rfl, (n : Int), rfl, by omega, by omega, fun D2 hD2 => ?_⟩⟩
    refine lc_m (walk_range (lo := 0) (n := n)) RI (stb_RI (K := K)) (List.range n) (by rw [List.length_range]) (by rw [List.length_range]; omega) hD2 (fun _ _ => trivial) (fun _ _ _ _ => ys_fn) (fun _ => (0 : Int)) (fun c j x2 H3 H4 hc s3 s4 y A B hA => ?_) (fun H3 l s3 hl3 rs3 => ?_)
    · rw [y.2]
      exact ⟨rfl, lc_yes (hA _ _ (fun _ _ h => h) rfl)⟩
    · have hz := zero_vec (m := n) rs3
      refine ⟨rs.map V.ref, s3 _ _ z.at_, sizes (by rw [List.length_map, z.len]; omega), rs ++ [D2], ?_⟩
      exact z.snoc hD s3 hD2 (by rw [hl3, hz])
  · have ei : i = n := by omega
    subst ei
    refine .inl ⟨by show (i : Int).toNat ≤ i; omega, ?_⟩
    clear hlt
    have mt := z.mt
    refine ⟨_, rfl, a, rfl, ⟨_, SqL.of (mt.same _ _ ha)⟩, for_list (K := K) (a := a) (xs := vs) (fun k σ H' => ∃ v2 v3 v5 : Option V, σ = [some (.int i), some (.ref a), v2, v3, some (.ref D), v5] ∧ MT H H' D rs i (wsum (ps.take k))) ⟨none, none, none, rfl, mt⟩ (fun k σ H' _ ⟨_, _, _, _, s⟩ => SqL.of (s.same _ _ ha)) ?_ ?_⟩
    · rintro k x σ H2 hx ⟨v2, v3, v5, rfl, mt2⟩
      obtain ⟨p, hp⟩ : ∃ p, ps[k]? = some p := ⟨_, List.getElem?_eq_getElem (by have := (List.getElem?_eq_some_iff.mp hx).1; omega)⟩
      obtain ⟨r1, r2, hr1, hr2, hr3⟩ := hrow k p hp
      rw [hx] at hr1
      cases hr1
      have m := List.mem_of_getElem? hp
      refine ⟨_, rfl, (i : Int), rfl, by omega, by omega, for_range (lo := 0) (n := i) (fun r σ H' => ∃ v2 v3 : Option V, σ = [some (.int i), some (.ref a), v2, v3, some (.ref D), some (.ref r1)] ∧ MT H H' D rs i (mix (wsum (ps.take k)) (wsum (ps.take (k + 1))) r 0)) ⟨v2, v3, rfl, mt2.congr fun a b _ _ => by unfold mix; rw [if_neg (by omega)]⟩ ?_ ?_⟩
      · rintro r σ H3 hr ⟨v2, v3, rfl, mt3⟩
        refine ⟨_, rfl, (i : Int), rfl, by omega, by omega, for_range (lo := 0) (n := i) (fun c σ H' => ∃ v3 : Option V, σ = [some (.int i), some (.ref a), some (.int (0 + (r : Int))), v3, some (.ref D), some (.ref r1)] ∧ MT H H' D rs i (mix (wsum (ps.take k)) (wsum (ps.take (k + 1))) r c)) ⟨v3, rfl, mt3⟩ ?_ ?_⟩
        · rintro c σ H4 hc ⟨v3, rfl, mt4⟩
          have hri : r < i := by omega
          have hci : c < i := by omega
          obtain ⟨pr, hpr1, hpr2⟩ := mt4.row r hri
          have er : (0 + (r : Int)).toNat = r := by omega
          have ix : atI (rs.map V.ref) (0 + (r : Int)) = some (.ref pr) := at_pos (by omega) (by rw [er, List.getElem?_map, hpr1]; rfl)
          have t1 := SqT.of (K := K) (mt4.same _ _ hr2)
          have t2 := SqT.of (K := K) (mt4.same _ _ hr3)
          have b1 := (hpb.2 p m).2.1
          refine ⟨_, rfl, _, rfl, D, _, _, _, rfl, rfl, SqL.of mt4.at_, ix, _, rfl, pr, _, _, _, rfl, rfl, SqL.of hpr2, ixv hci, ?_⟩
          refine ⟨_, rfl, r1, _, 1, _, rfl, rfl, t1, at_pos (by decide) rfl, _, rfl, r1, _, 0, _, rfl, rfl, t1, at_pos (by decide) rfl, _, rfl, r2, _, _, _, rfl, rfl, t2, ixv hri, _, _, rfl, rfl, wmul (m := 100) (n := 100) b1 (hpb.row m r) (by decide) (by decide) (by decide), ?_⟩
          refine ⟨_, rfl, r1, _, 0, _, rfl, rfl, t1, at_pos (by decide) rfl, _, rfl, r2, _, _, _, rfl, rfl, t2, ixv hci, _, _, rfl, rfl, wmul (m := 200) (n := 100) (B.mul (m := 100) (n := 100) b1 (hpb.row m r)) (hpb.row m c) (by decide) (by decide) (by decide), _, _, rfl, rfl, ?_⟩
          refine ⟨_, rfl, _, rfl, D, _, _, _, rfl, rfl, SqL.of mt4.at_, ix, _, rfl, pr, _, _, c, rfl, rfl, hpr2, by rw [vec_lenV]; unfold ixN; rw [if_pos (by omega), if_pos (by omega)]; congr 1; omega, some (.int (0 + (c : Int))), rfl, ?_⟩
          have st := mt4.set (v := mix (wsum (ps.take k)) (wsum (ps.take (k + 1))) r c r c + p.2 * p.1.getD r 0 * p.1.getD c 0) hri hci hpr1
          refine st.congr fun x y _ _ => ?_
          rw [mix_at, ← wsum_snoc hp]
          exact mix_put _ _ _ _ _ _
        · rintro σ H4 ⟨v3, rfl, mt4⟩
          exact ⟨some (.int (0 + (r : Int))), v3, rfl, mt4.congr (mix_row _ _ _ _)⟩
      · rintro σ H3 ⟨v2, v3, rfl, mt3⟩
        refine ⟨v2, v3, some (.ref r1), rfl, mt3.congr fun x y hx hy => ?_⟩
        unfold mix
        rw [if_pos (by omega)]
    · rintro σ H2 ⟨v2, v3, v5, rfl, mt2⟩
      rw [hl, List.take_length] at mt2
      exact ⟨_, rfl, q D H2 mt2.same mt2.ltab⟩
end
end P12
namespace P12
open PySem PySem.Spec PyProof.Rows L2 SX EX WK
/-- a drawn line -/
def Ln (H : Hp) (p : Addr) (m : Nat) (y : Nat → Int) : Prop := H p = some (.lst ((vec m y).map V.int)) ∧ ∀ i, i < m → 0 ≤ y i ∧ y i < 1000000000
theorem Ln.same {H H' : Hp} {p : Addr} {m : Nat} {y : Nat → Int} (h : Ln H p m y) (e : Same H H') : Ln H' p m y := ⟨e _ _ h.1, h.2⟩
theorem ixa {m k : Nat} {x : Nat → Int} {z : Int} (h0 : 0 ≤ z) (e : z.toNat = k) (hk : k < m) : atI ((vec m x).map V.int) z = some (.int (x k)) := at_pos h0 (by rw [e]; exact vecV_at hk)
theorem p108 : (10 : Int) ^ (8 : Int).toNat = 100000000 := by decide
theorem B60 {x : Int} (h : -1000000000000000000 < x ∧ x < 1000000000000000000) : B 60 x := by
  show x.natAbs < 2 ^ 60
  omega
def fW (y : Nat → Int) (k : Nat) : Int := (y (2 * k) - 10000) * 10 ^ (8 : Int).toNat + y (2 * k + 1)
theorem md {x m : Int} (hm : 0 < m) : 0 ≤ x % m ∧ x % m < m := ⟨Int.emod_nonneg _ (by omega), Int.emod_lt_of_pos _ hm⟩
theorem cut_tail {m a b : Nat} {y : Nat → Int} (h : m = a + b) : cutV ((vec m y).map V.int) (some (a : Int)) none = (vec b fun i => y (a + i)).map V.int := by
  subst h
  unfold cutV
  rw [vec_lenV, sIx_of rfl (by omega)]
  have e : HT.sIx (a + b) (a + b) none = a + b := rfl
  rw [e]
  refine List.ext_getElem? fun i => ?_
  by_cases hi : i < b
  · rw [vecV_at hi, List.getElem?_take, if_pos (by omega), List.getElem?_drop, vecV_at (by omega)]
  · rw [List.getElem?_eq_none (by rw [List.length_take, List.length_drop, vec_lenV]; omega), List.getElem?_eq_none (by rw [vec_lenV]; omega)]
theorem cut_head {m a : Nat} {y : Nat → Int} {z : Int} (e : z = (a : Int)) (h : a ≤ m) : cutV ((vec m y).map V.int) none (some z) = (vec a y).map V.int := by
  unfold cutV
  rw [vec_lenV, sIx_of e h]
  have e0 : HT.sIx m 0 none = 0 := rfl
  rw [e0]
  refine List.ext_getElem? fun i => ?_
  by_cases hi : i < a
  · rw [vecV_at hi, List.getElem?_take, if_pos (by omega), List.drop_zero, vecV_at (by omega)]
  · rw [List.getElem?_eq_none (by rw [List.length_take, List.length_drop, vec_lenV]; omega), List.getElem?_eq_none (by rw [vec_lenV]; omega)]
theorem vec_cat {a b : Nat} {x y : Nat → Int} : (vec a x).map V.int ++ (vec b y).map V.int = (vec (a + b) fun i => if i < a then x i else y (i - a)).map V.int := by
  refine List.ext_getElem? fun i => ?_
  by_cases hi : i < a
  · rw [List.getElem?_append_left (by rw [vec_lenV]; exact hi), vecV_at hi, vecV_at (by omega), if_pos hi]
  · rw [List.getElem?_append_right (by rw [vec_lenV]; omega), vec_lenV]
    by_cases h2 : i < a + b
    · rw [vecV_at (by omega), vecV_at h2, if_neg hi]
    · rw [List.getElem?_eq_none (by rw [vec_lenV]; omega), List.getElem?_eq_none (by rw [vec_lenV]; omega)]
section
variable {P : Program} {w : World} {K : PySem.W.Frag} {mg : Str → Option Value} {base : Heap} {f : Addr} {fd : FuncData} {cF cR : Addr}
def spWide : Sp := fun vs H Q _ => ∃ (p : Addr) (n : Nat) (y : Nat → Int), vs = [.int n, .ref p] ∧ Ln H p 23 y ∧ n ≤ 10 ∧ ∀ r H' x, H r = none → Same H H' → H' r = some (.lst ((vec n x).map V.int)) → (∀ i, i < n → B 60 (x i)) → Q (.ref r) H'
abbrev s__law_wide : Stmt := top 54
abbrev N__law_wide : List Str := ["size", "line", "k"]
theorem sc__law_wide : FnScope N__law_wide ["size", "line"] (defScope s__law_wide) := ⟨rfl, rfl, rfl, by decide +kernel, rfl, by decide +kernel, by decide +kernel⟩
theorem ok__law_wide (F : Fun K "_law_wide" "_law_wide" s__law_wide f fd) (T : Txt mg) : FnOk P w K mg base CX0 1 f fd ["size", "line"] spWide := by
  refine F.ok sc__law_wide (fun vs H Q E h => ?_) (fun cdv A outer s H vs Q E hr h => ?_)
  · obtain ⟨p, n, y, rfl, _⟩ := h
    rfl
  obtain ⟨p, n, y, rfl, hp, hn, q⟩ := h
  refine ⟨_, (pss_one (ps_ret (pe_lc (own := [("k", 2)]) (g := gName 2) (tt := tYes) (by rfl) sc__law_wide.nd (pi_range1 (by rfl) T.b_range (pa_cons (pv 0) pa_nil)) (blkOk_by (N := N__law_wide) (sc := defScope s__law_wide) (by decide +kernel)) (fun _ _ _ _ _ => (pg_name (i := 2) sc__law_wide.nd rfl (Or.inl rfl))) (fun _ _ _ _ _ => pts_nil) (fun _ _ _ _ _ => (pe_op op_add (pe_op op_mul (pe_op op_sub (pe_ix (ix_listK (K := K) rfl) (pv 1) (pe_op op_mul pe_int (pv 2)) (fun _ _ => rfl)) pe_int) (pe_op op_pow pe_int pe_int)) (pe_ix (ix_listK (K := K) rfl) (pv 1) (pe_op op_add (pe_op op_mul pe_int (pv 2)) pe_int) (fun _ _ => rfl))))))), ?_⟩
  refine ⟨_, rfl, (n : Int), rfl, by omega, by omega, fun D hD => ?_⟩
  refine lc_m (walk_range (lo := 0) (n := n)) RI (stb_RI (K := K)) (List.range n) (by rw [List.length_range]) (by rw [List.length_range]; omega) hD (fun _ _ => trivial) (fun _ _ _ _ => ys_fn) (fun k => fW y k) (fun c i x H1 H2 hc s1 s2 yl A B hA => ?_) (fun H' l s1 hl1 rs => ?_)
  · obtain ⟨hc1, rfl⟩ := in_range hc
    rw [yl.2]
    have b1 := hp.2 (2 * i) (by omega)
    have p2 := s2 _ _ hp.1
    refine ⟨rfl, lc_yes ⟨_, rfl, _, rfl, _, _, rfl, rfl, .inl (by decide), p, _, _, _, rfl, rfl, SqL.of p2, ixa (k := 2 * i) (by omega) (by omega) (by omega), _, _, rfl, rfl, _, _, rfl, rfl, ⟨by decide, by decide, by decide⟩, _, _, rfl, rfl, .inl ⟨by omega, by omega⟩, ?_⟩⟩
    exact ⟨_, rfl, _, rfl, _, _, rfl, rfl, .inl (by decide), _, _, rfl, rfl, p, _, _, _, rfl, rfl, SqL.of p2, ixa (k := 2 * i + 1) (by omega) (by omega) (by omega), _, _, rfl, rfl, hA _ _ (fun _ _ h => h) rfl⟩
  · refine q D H' _ hD s1 (by rw [hl1, rs.ints]; rfl) fun i hi => B60 ?_
    have b1 := hp.2 (2 * i) (by omega)
    have b2 := hp.2 (2 * i + 1) (by omega)
    unfold fW
    rw [p108]
    omega
def fS (y : Nat → Int) (i : Nat) : Int := if i < 10 then y (2 * i) % 7 else y (20 + (i - 10))
def spSeven : Sp := fun vs H Q _ => ∃ (p : Addr) (y : Nat → Int), vs = [.ref p] ∧ Ln H p 23 y ∧ ∀ r H', Same H H' → Ln H' r 13 (fS y) → Q (.ref r) H'
abbrev s__law_seven : Stmt := top 53
abbrev N__law_seven : List Str := ["line", "k"]
theorem sc__law_seven : FnScope N__law_seven ["line"] (defScope s__law_seven) := ⟨rfl, rfl, rfl, by decide +kernel, rfl, by decide +kernel, by decide +kernel⟩
theorem ok__law_seven (F : Fun K "_law_seven" "_law_seven" s__law_seven f fd) (T : Txt mg) : FnOk P w K mg base CX0 1 f fd ["line"] spSeven := by
  refine F.ok sc__law_seven (fun vs H Q E h => ?_) (fun cdv A outer s H vs Q E hr h => ?_)
  · obtain ⟨p, y, rfl, _⟩ := h
    rfl
  obtain ⟨p, y, rfl, hp, q⟩ := h
  refine ⟨_, (pss_one (ps_ret (pe_op op_cat (pe_lc (own := [("k", 1)]) (g := gName 1) (tt := tYes) (by rfl) sc__law_seven.nd (pi_range1 (by rfl) T.b_range (pa_cons pe_int pa_nil)) (blkOk_by (N := N__law_seven) (sc := defScope s__law_seven) (by decide +kernel)) (fun _ _ _ _ _ => (pg_name (i := 1) sc__law_seven.nd rfl (Or.inl rfl))) (fun _ _ _ _ _ => pts_nil) (fun _ _ _ _ _ => (pe_op op_mod (pe_callTy call_int1 (by rfl) T.b_int (by decide +kernel) (pa_cons (pe_ix (ix_listK (K := K) rfl) (pv 0) (pe_op op_mul pe_int (pv 1)) (fun _ _ => rfl)) pa_nil)) pe_int))) (pe_slice sl_list (pv 0) (po_some pe_int) po_none)))), ?_⟩
  refine ⟨10, rfl, by decide, by decide, fun D hD => ?_⟩
  refine lc_m (walk_range (lo := 0) (n := 10)) RI (stb_RI (K := K)) (List.range 10) (by rw [List.length_range]) (by rw [List.length_range]; omega) hD (fun _ _ => trivial) (fun _ _ _ _ => ys_fn) (fun k => y (2 * k) % 7) (fun c i x H1 H2 hc s1 s2 yl A B hA => ?_) (fun H' l s1 hl1 rs => ?_)
  · obtain ⟨hc1, rfl⟩ := in_range hc
    rw [yl.2]
    exact ⟨rfl, lc_yes ⟨_, rfl, _, rfl, _, _, rfl, rfl, .inl (by decide), p, _, _, _, rfl, rfl, SqL.of (s2 _ _ hp.1), ixa (k := 2 * i) (by omega) (by omega) (by omega), .inl ⟨_, rfl, _, _, rfl, rfl, (by show (0 : Int) < 7; decide), hA _ _ (fun _ _ h => h) rfl⟩⟩⟩
  have e1 : H' D = some (.lst ((vec 10 fun k => y (2 * k) % 7).map V.int)) := by rw [hl1, rs.ints]; rfl
  refine ⟨_, rfl, _, rfl, p, _, rfl, SqL.of (s1 _ _ hp.1), fun l2 hl2 => ?_⟩
  have s2 := same_new (H := H') hl2 (.lst (cutV ((vec 23 y).map V.int) (some 20) none))
  refine ⟨D, l2, _, _, rfl, rfl, s2 _ _ e1, upd_same, ?_, fun r hr' => ?_⟩
  · rw [show (some (20 : Int)) = some ((20 : Nat) : Int) from rfl, cut_tail (a := 20) (b := 3) rfl, vec_lenV, vec_lenV]
    exact line_ge (by decide)
  · refine q r _ (s1.trans (s2.trans (same_new hr' _))) ⟨?_, fun i hi => ?_⟩
    · rw [upd_same, show (some (20 : Int)) = some ((20 : Nat) : Int) from rfl, cut_tail (a := 20) (b := 3) rfl, vec_cat]
      rfl
    · unfold fS
      split
      · have := md (x := y (2 * i)) (m := 7) (by decide)
        omega
      · exact hp.2 _ (by omega)
def spDrow : Sp := fun vs H Q _ => ∃ (p : Addr) (n : Nat) (k : Int) (z : Nat → Int), vs = [.int n, .int k, .ref p] ∧ Ln H p 13 z ∧ n ≤ 10 ∧ ∀ r H' x, Same H H' → H' r = some (.lst ((vec n x).map V.int)) → (∀ i, i < n → B 60 (x i)) → Q (.ref r) H'
theorem b2_le (p : Bool) : 0 ≤ b2 p ∧ b2 p ≤ 1 := by cases p <;> decide
theorem b2_01 (p : Bool) : b2 p = 0 ∨ b2 p = 1 := by cases p <;> simp [b2]
theorem bi_le (p : Bool) : 0 ≤ (if p = true then (1 : Int) else 0) ∧ (if p = true then (1 : Int) else 0) ≤ 1 := by cases p <;> decide
theorem mulb {x b : Int} (hx : -1000000000000 < x ∧ x < 1000000000000) (hb : b = 0 ∨ b = 1) : -1000000000000 < x * b ∧ x * b < 1000000000000 := by
  rcases hb with h | h
  · rw [h, Int.mul_zero]
    omega
  · rw [h, Int.mul_one]
    exact hx
theorem bi01 (p : Bool) : (if p = true then (1 : Int) else 0) = 0 ∨ (if p = true then (1 : Int) else 0) = 1 := by cases p <;> simp
abbrev s__law_draw_row : Stmt := top 50
abbrev N__law_draw_row : List Str := ["size", "kind", "row", "small", "one", "two", "k"]
theorem sc__law_draw_row : FnScope N__law_draw_row ["size", "kind", "row"] (defScope s__law_draw_row) := ⟨rfl, rfl, rfl, by decide +kernel, rfl, by decide +kernel, by decide +kernel⟩
theorem ok__law_draw_row (F : Fun K "_law_draw_row" "_law_draw_row" s__law_draw_row f fd) (T : Txt mg) : FnOk P w K mg base CX0 1 f fd ["size", "kind", "row"] spDrow := by
  refine F.ok sc__law_draw_row (fun vs H Q E h => ?_) (fun cdv A outer s H vs Q E hr h => ?_)
  · obtain ⟨p, n, k, z, rfl, _⟩ := h
    rfl
  obtain ⟨p, n, k, z, rfl, hp, hn, q⟩ := h
  refine ⟨_, (pss_cons (ps_setLc (i := 3) (own := [("k", 6)]) (g := gName 6) (tt := tYes) (by rfl) sc__law_draw_row.nd rfl rfl (sw_true rfl rfl rfl (by decide +kernel)) (pi_range1 (by rfl) T.b_range (pa_cons (pv 0) pa_nil)) (blkOk_by (N := N__law_draw_row) (sc := defScope s__law_draw_row) (by decide +kernel)) (fun _ _ _ _ _ => (pg_name (i := 6) sc__law_draw_row.nd rfl (Or.inl rfl))) (fun _ _ _ _ _ => pts_nil) (fun _ _ _ _ _ => (pe_op op_sub (pe_ix (ix_listK (K := K) rfl) (pv 2) (pv 6) (fun _ _ => rfl)) pe_int)))
  (C8.pss_cut (ps_if (PW.pt (pw_and (pt_cmpR op_gt (pv 0) pe_int (nomark _)) (pw_and1 (pt_cmpR op_eq (pv 1) pe_int (nomark _))))) (pss_cons (ps_set (i := 4) sc__law_draw_row.nd rfl (Or.inr rfl) (pe_op op_mod (pe_callTy call_int1 (by rfl) T.b_int (by decide +kernel) (pa_cons (pe_ix ix_list (pv 2) pe_int (fun _ _ => rfl)) pa_nil)) (pv 0)))
  (pss_cons (ps_set (i := 5) sc__law_draw_row.nd rfl (Or.inr rfl) (pe_op op_mod (pe_callTy call_int1 (by rfl) T.b_int (by decide +kernel) (pa_cons (pe_op op_add (pe_op op_add (pv 4) pe_int) (pe_op op_mod (pe_callTy call_int1 (by rfl) T.b_int (by decide +kernel) (pa_cons (pe_ix ix_list (pv 2) pe_int (fun _ _ => rfl)) pa_nil)) (pe_op op_sub (pv 0) pe_int))) pa_nil)) (pv 0)))
  (pss_one (ps_ret (pe_lc (own := [("k", 6)]) (g := gName 6) (tt := tYes) (by rfl) sc__law_draw_row.nd (pi_range1 (by rfl) T.b_range (pa_cons (pv 0) pa_nil)) (blkOk_by (N := N__law_draw_row) (sc := defScope s__law_draw_row) (by decide +kernel)) (fun _ _ _ _ _ => (pg_name (i := 6) sc__law_draw_row.nd rfl (Or.inl rfl))) (fun _ _ _ _ _ => pts_nil) (fun _ _ _ _ _ => (pe_op op_sub (pe_callTy call_int1 (by rfl) T.b_int (by decide +kernel) (pa_cons (pe_cmpR op_eq (pv 6) (pv 4) (nomark _)) pa_nil)) (pe_callTy call_int1 (by rfl) T.b_int (by decide +kernel) (pa_cons (pe_cmpR op_eq (pv 6) (pv 5) (nomark _)) pa_nil))))))))) pss_nil)
  (C8.pss_cut (ps_if (PW.pt (pw_and (pt_cmpR op_gt (pv 0) pe_int (nomark _)) (pw_and1 (pt_cmpR op_eq (pv 1) pe_int (nomark _))))) (pss_one (ps_ret (pe_op op_cat (pe_slice sl_list (pv 3) po_none (po_some (pe_op op_sub (pv 0) pe_int))) (pe_lst (pa_cons (pe_ix ix_list (pv 3) pe_int (fun _ _ => rfl)) pa_nil))))) pss_nil)
  (pss_cons (ps_if (pt_cmpR op_eq (pv 1) pe_int (nomark _)) (pss_one (ps_ret (pe_ifExp (pt_cmpR op_lt (pv 0) pe_int (nomark _)) (pe_lc (own := [("k", 6)]) (g := gName 6) (tt := tYes) (by rfl) sc__law_draw_row.nd (pi_range1 (by rfl) T.b_range (pa_cons (pv 0) pa_nil)) (blkOk_by (N := N__law_draw_row) (sc := defScope s__law_draw_row) (by decide +kernel)) (fun _ _ _ _ _ => (pg_name (i := 6) sc__law_draw_row.nd rfl (Or.inl rfl))) (fun _ _ _ _ _ => pts_nil) (fun _ _ _ _ _ => (pe_op op_add (pe_op op_mul (pe_op op_sub (pe_ix (ix_listK (K := K) rfl) (pv 2) (pv 6) (fun _ _ => rfl)) pe_int) pe_int) (pe_ix (ix_listK (K := K) rfl) (pv 2) (pe_op op_add (pv 6) pe_int) (fun _ _ => rfl))))) (pv 3)))) pss_nil)
  (pss_cons (ps_if (pt_cmpR op_eq (pv 1) pe_int (nomark _)) (pss_one (ps_ret (pe_lc (own := [("k", 6)]) (g := gName 6) (tt := tYes) (by rfl) sc__law_draw_row.nd (pi_range1 (by rfl) T.b_range (pa_cons (pv 0) pa_nil)) (blkOk_by (N := N__law_draw_row) (sc := defScope s__law_draw_row) (by decide +kernel)) (fun _ _ _ _ _ => (pg_name (i := 6) sc__law_draw_row.nd rfl (Or.inl rfl))) (fun _ _ _ _ _ => pts_nil) (fun _ _ _ _ _ => (pe_op op_mul (pe_op op_sub (pe_ix (ix_listK (K := K) rfl) (pv 2) (pv 6) (fun _ _ => rfl)) pe_int) (pe_callTy call_int1 (by rfl) T.b_int (by decide +kernel) (pa_cons (pe_cmpR op_ge (pe_ix (ix_listK (K := K) rfl) (pv 2) (pv 6) (fun _ _ => rfl)) pe_int (nomark _)) pa_nil))))))) pss_nil)
  (C8.pss_cut (ps_if (PW.pt (pw_and (pt_cmpR op_gt (pv 0) pe_int (nomark _)) (pw_and1 (pt_cmpR op_eq (pv 1) pe_int (nomark _))))) (pss_one (ps_ret (pe_lc (own := [("k", 6)]) (g := gName 6) (tt := tYes) (by rfl) sc__law_draw_row.nd (pi_range1 (by rfl) T.b_range (pa_cons (pv 0) pa_nil)) (blkOk_by (N := N__law_draw_row) (sc := defScope s__law_draw_row) (by decide +kernel)) (fun _ _ _ _ _ => (pg_name (i := 6) sc__law_draw_row.nd rfl (Or.inl rfl))) (fun _ _ _ _ _ => pts_nil) (fun _ _ _ _ _ => (pe_op op_mul (pe_callTy call_int1 (by rfl) T.b_int (by decide +kernel) (pa_cons (pe_cmpR op_eq (pv 6) (pe_op op_mod (pe_callTy call_int1 (by rfl) T.b_int (by decide +kernel) (pa_cons (pe_ix (ix_listK (K := K) rfl) (pv 2) pe_int (fun _ _ => rfl)) pa_nil)) (pv 0)) (nomark _)) pa_nil)) (pe_op op_add pe_int (pe_op op_mod (pe_callTy call_int1 (by rfl) T.b_int (by decide +kernel) (pa_cons (pe_ix (ix_listK (K := K) rfl) (pv 2) pe_int (fun _ _ => rfl)) pa_nil)) pe_int))))))) pss_nil)
  (C8.pss_cut (ps_if (PW.pt (pw_and (pt_cmpR op_eq (pv 1) pe_int (nomark _)) (pw_and1 (pt_cmpR op_eq (pe_ix ix_list (pv 2) pe_int (fun _ _ => rfl)) pe_int (nomark _))))) (pss_one (ps_ret (pe_lc (own := [("k", 6)]) (g := gName 6) (tt := tYes) (by rfl) sc__law_draw_row.nd (pi_range1 (by rfl) T.b_range (pa_cons (pv 0) pa_nil)) (blkOk_by (N := N__law_draw_row) (sc := defScope s__law_draw_row) (by decide +kernel)) (fun _ _ _ _ _ => (pg_name (i := 6) sc__law_draw_row.nd rfl (Or.inl rfl))) (fun _ _ _ _ _ => pts_nil) (fun _ _ _ _ _ => pe_int)))) pss_nil)
  (pss_one (ps_ret (pv 3)))))))))), ?_⟩
  refine ⟨_, rfl, (n : Int), rfl, by omega, by omega, fun D hD => ?_⟩
  refine lc_m (walk_range (lo := 0) (n := n)) RI (stb_RI (K := K)) (List.range n) (by rw [List.length_range]) (by rw [List.length_range]; omega) hD (fun _ _ => trivial) (fun _ _ _ _ => ys_fn) (fun k => z k - 3) (fun c i x H1 H2 hc s1 s2 yl A B hA => ?_) (fun H1 l s1 hl1 rs => ?_)
  · obtain ⟨hc1, rfl⟩ := in_range hc
    rw [yl.2]
    exact ⟨rfl, lc_yes ⟨_, rfl, _, rfl, p, _, _, _, rfl, rfl, SqL.of (s2 _ _ hp.1), ixv (by omega), _, _, rfl, rfl, hA _ _ (fun _ _ h => h) rfl⟩⟩
  have hs : H1 D = some (.lst ((vec n fun k => z k - 3).map V.int)) := by rw [hl1, rs.ints]; rfl
  have bs : ∀ i, i < n → B 60 (z i - 3) := fun i hi => B60 (by have := hp.2 i (by omega); omega)
  have hp1 := s1 _ _ hp.1
  have pst : ∀ i, i < 13 → -1000 < z i ∧ z i < 1000000000 := fun i hi => by have := hp.2 i hi; omega
  have rg : (-(2 ^ 62) : Int) ≤ (n : Int) ∧ (n : Int) < 2 ^ 62 := ⟨by omega, by omega⟩
  -- 4
  refine ⟨fun σ' H' => σ' = [some (.int n), some (.int k), some (.ref p), some (.ref D), none, none, none] ∧ H' = H1, ?_, ?_⟩
  · refine ⟨_, rfl, _, _, rfl, rfl, _, rfl, ite2 (fun c1 => ?_) (fun _ => ⟨rfl, rfl⟩)⟩
    have hn1 : 1 < (n : Int) := of_decide_eq_true c1
    refine ⟨_, rfl, rfl, _, rfl, ite2 (fun _ => ?_) (fun _ => ⟨rfl, rfl⟩)⟩
    refine ⟨_, rfl, p, _, 0, _, rfl, rfl, SqL.of hp1, ixa (k := 0) (by decide) rfl (by decide), .inl ⟨_, rfl, _, rfl, _, _, rfl, rfl, (by show (0 : Int) < n; omega), ?_⟩⟩
    refine ⟨_, rfl, _, _, rfl, rfl, _, rfl, p, _, 1, _, rfl, rfl, SqL.of hp1, ixa (k := 1) (by decide) rfl (by decide), .inl ⟨_, rfl, _, rfl, _, _, rfl, rfl, _, _, rfl, rfl, (by show (0 : Int) < (n : Int) - 1; omega), _, _, rfl, rfl, .inl ⟨_, rfl, _, rfl, _, _, rfl, rfl, (by show (0 : Int) < n; omega), ?_⟩⟩⟩
    refine ⟨_, rfl, (n : Int), rfl, rg.1, rg.2, fun D2 hD2 => ?_⟩
    refine lc_m (walk_range (lo := 0) (n := n)) RI (stb_RI (K := K)) (List.range n) (by rw [List.length_range]) (by rw [List.length_range]; omega) hD2 (fun _ _ => trivial) (fun _ _ _ _ => ys_fn) (fun (i : Nat) => b2 (decide (V.int (0 + (i : Int)) = V.int (z 0 % (n : Int)))) - b2 (decide (V.int (0 + (i : Int)) = V.int ((z 0 % (n : Int) + 1 + z 1 % ((n : Int) - 1)) % (n : Int))))) (fun c i x H3 H4 hc s3 s4 yl A B hA => ?_) (fun H3 l s3 hl3 rs => ?_)
    · obtain ⟨hc1, rfl⟩ := in_range hc
      rw [yl.2]
      exact ⟨rfl, lc_yes ⟨_, rfl, _, rfl, rfl, .inr ⟨_, rfl, _, rfl, _, rfl, rfl, .inr ⟨_, rfl, _, _, rfl, rfl, hA _ _ (fun _ _ h => h) rfl⟩⟩⟩⟩
    · refine q D2 H3 _ (s1.trans s3) (by rw [hl3, rs.ints]; rfl) fun i hi => B60 ?_
      have h1 := b2_le (decide (V.int (0 + (i : Int)) = V.int (z 0 % (n : Int))))
      have h2 := b2_le (decide (V.int (0 + (i : Int)) = V.int ((z 0 % (n : Int) + 1 + z 1 % ((n : Int) - 1)) % (n : Int))))
      omega
  rintro σ H' ⟨rfl, rfl⟩
  -- 5
  refine ⟨fun σ' H2 => σ' = [some (.int n), some (.int k), some (.ref p), some (.ref D), none, none, none] ∧ H2 = H', ?_, ?_⟩
  · refine ⟨_, rfl, _, _, rfl, rfl, _, rfl, ite2 (fun c1 => ?_) (fun _ => ⟨rfl, rfl⟩)⟩
    have hn1 : 1 < (n : Int) := of_decide_eq_true c1
    refine ⟨_, rfl, rfl, _, rfl, ite2 (fun _ => ?_) (fun _ => ⟨rfl, rfl⟩)⟩
    refine ⟨_, rfl, _, rfl, _, _, rfl, rfl, _, rfl, D, _, rfl, SqL.of hs, fun l2 hl2 => ?_⟩
    have s2 := same_new (H := H') hl2 (.lst (cutV ((vec n fun k => z k - 3).map V.int) none (some ((n : Int) - 1))))
    refine ⟨_, rfl, D, _, 0, _, rfl, rfl, SqL.of (s2 _ _ hs), ixa (k := 0) (by decide) rfl (by omega), line_ge (by show 1 ≤ 100000; decide), fun l3 hl3 => ?_⟩
    have s3 := same_new hl3 (.lst [V.int (z 0 - 3)])
    have hc := cut_head (m := n) (y := fun k => z k - 3) (a := n - 1) (z := (n : Int) - 1) (by omega) (by omega)
    refine ⟨l2, l3, _, _, rfl, rfl, s3 _ _ upd_same, upd_same, ?_, fun r hr' => ?_⟩
    · rw [hc, vec_lenV]
      exact line_ge (by show n - 1 + 1 ≤ 100000; omega)
    · refine q r _ (fun i => if i < n - 1 then z i - 3 else z 0 - 3) (s1.trans (s2.trans (s3.trans (same_new hr' _)))) ?_ fun i hi => ?_
      · rw [upd_same, hc, show [V.int (z 0 - 3)] = (vec 1 fun _ => z 0 - 3).map V.int from rfl, vec_cat, show n - 1 + 1 = n by omega]
      · show B 60 (if i < n - 1 then z i - 3 else z 0 - 3)
        split
        · exact bs i hi
        · exact bs 0 (by omega)
  rintro σ H2 ⟨rfl, rfl⟩
  -- 6
  refine ⟨_, rfl, rfl, _, rfl, ite2 (fun _ => ?_) (fun _ => ?_)⟩
  · refine ⟨_, rfl, _, _, rfl, rfl, _, rfl, ite2 (fun c => ?_) (fun _ => ⟨_, rfl, q D H2 _ s1 hs bs⟩)⟩
    have hn9 : (n : Int) < 10 := of_decide_eq_true c
    refine ⟨_, rfl, (n : Int), rfl, rg.1, rg.2, fun D2 hD2 => ?_⟩
    refine lc_m (walk_range (lo := 0) (n := n)) RI (stb_RI (K := K)) (List.range n) (by rw [List.length_range]) (by rw [List.length_range]; omega) hD2 (fun _ _ => trivial) (fun _ _ _ _ => ys_fn) (fun i => (z i - 3) * 37 + z (i + 1)) (fun c i x H3 H4 hc s3 s4 yl A B hA => ?_) (fun H3 l s3 hl3 rs => ?_)
    · obtain ⟨hc1, rfl⟩ := in_range hc
      rw [yl.2]
      have b1 := pst i (by omega)
      exact ⟨rfl, lc_yes ⟨_, rfl, _, rfl, p, _, _, _, rfl, rfl, SqL.of (s4 _ _ hp1), ixv (by omega), _, _, rfl, rfl, _, _, rfl, rfl, .inr (by decide), _, rfl, _, rfl, _, _, rfl, rfl, p, _, _, _, rfl, rfl, SqL.of (s4 _ _ hp1), ixa (k := i + 1) (by omega) (by omega) (by omega), _, _, rfl, rfl, hA _ _ (fun _ _ h => h) rfl⟩⟩
    · refine q D2 H3 _ (s1.trans s3) (by rw [hl3, rs.ints]; rfl) fun i hi => B60 ?_
      have b1 := pst i (by omega)
      have b2 := pst (i + 1) (by omega)
      omega
  -- 7
  refine ⟨_, rfl, rfl, _, rfl, ite2 (fun _ => ?_) (fun _ => ?_)⟩
  · refine ⟨_, rfl, (n : Int), rfl, rg.1, rg.2, fun D2 hD2 => ?_⟩
    refine lc_m (walk_range (lo := 0) (n := n)) RI (stb_RI (K := K)) (List.range n) (by rw [List.length_range]) (by rw [List.length_range]; omega) hD2 (fun _ _ => trivial) (fun _ _ _ _ => ys_fn) (fun i => (z i - 3) * b2 (decide (z i ≥ 4))) (fun c i x H3 H4 hc s3 s4 yl A B hA => ?_) (fun H3 l s3 hl3 rs => ?_)
    · obtain ⟨hc1, rfl⟩ := in_range hc
      rw [yl.2]
      have b1 := pst i (by omega)
      exact ⟨rfl, lc_yes ⟨_, rfl, _, rfl, p, _, _, _, rfl, rfl, SqL.of (s4 _ _ hp1), ixv (by omega), _, _, rfl, rfl, _, rfl, _, rfl, p, _, _, _, rfl, rfl, SqL.of (s4 _ _ hp1), ixv (by omega), _, _, rfl, rfl, .inr ⟨_, rfl, _, _, rfl, rfl, .inl ⟨by omega, by omega⟩, hA _ _ (fun _ _ h => h) rfl⟩⟩⟩
    · refine q D2 H3 _ (s1.trans s3) (by rw [hl3, rs.ints]; rfl) fun i hi => B60 ?_
      have b1 := pst i (by omega)
      have := mulb (x := z i - 3) (by omega) (b2_01 (decide (z i ≥ 4)))
      omega
  -- 8
  refine ⟨fun σ' H3 => σ' = [some (.int n), some (.int k), some (.ref p), some (.ref D), none, none, none] ∧ H3 = H2, ?_, ?_⟩
  · refine ⟨_, rfl, _, _, rfl, rfl, _, rfl, ite2 (fun c1 => ?_) (fun _ => ⟨rfl, rfl⟩)⟩
    have hn1 : 0 < (n : Int) := of_decide_eq_true c1
    refine ⟨_, rfl, rfl, _, rfl, ite2 (fun _ => ?_) (fun _ => ⟨rfl, rfl⟩)⟩
    refine ⟨_, rfl, (n : Int), rfl, rg.1, rg.2, fun D2 hD2 => ?_⟩
    refine lc_m (walk_range (lo := 0) (n := n)) RI (stb_RI (K := K)) (List.range n) (by rw [List.length_range]) (by rw [List.length_range]; omega) hD2 (fun _ _ => trivial) (fun _ _ _ _ => ys_fn) (fun (i : Nat) => b2 (decide (V.int (0 + (i : Int)) = V.int (z 0 % (n : Int)))) * (1 + z 1 % 3)) (fun c i x H3 H4 hc s3 s4 yl A B hA => ?_) (fun H3 l s3 hl3 rs => ?_)
    · obtain ⟨hc1, rfl⟩ := in_range hc
      rw [yl.2]
      have h1 := b2_le (decide (V.int (0 + (i : Int)) = V.int (z 0 % (n : Int))))
      refine ⟨rfl, lc_yes ⟨_, rfl, _, rfl, p, _, 0, _, rfl, rfl, SqL.of (s4 _ _ hp1), ixa (k := 0) (by decide) rfl (by decide), .inl ⟨_, rfl, _, rfl, _, _, rfl, rfl, hn1, rfl, .inr ⟨_, rfl, ?_⟩⟩⟩⟩
      exact ⟨_, rfl, p, _, 1, _, rfl, rfl, SqL.of (s4 _ _ hp1), ixa (k := 1) (by decide) rfl (by decide), .inl ⟨_, rfl, _, _, rfl, rfl, (by show (0 : Int) < 3; decide), _, _, rfl, rfl, _, _, rfl, rfl, .inl (by have h2 : (if decide (V.int (0 + (i : Int)) = V.int (z 0 % (n : Int))) = true then (1 : Int) else 0) = b2 (decide (V.int (0 + (i : Int)) = V.int (z 0 % (n : Int)))) := rfl; first | (constructor <;> omega) | (rw [h2]; constructor <;> omega)), hA _ _ (fun _ _ h => h) rfl⟩⟩
    · refine q D2 H3 _ (s1.trans s3) (by rw [hl3, rs.ints]; rfl) fun i hi => B60 ?_
      have h0 := md (x := z 1) (m := 3) (by decide)
      rw [Int.mul_comm]
      have := mulb (x := 1 + z 1 % 3) (by omega) (b2_01 (decide (V.int (0 + (i : Int)) = V.int (z 0 % (n : Int)))))
      omega
  rintro σ H3 ⟨rfl, rfl⟩
  -- 9
  refine ⟨fun σ' H4 => σ' = [some (.int n), some (.int k), some (.ref p), some (.ref D), none, none, none] ∧ H4 = H3, ?_, ?_⟩
  · refine ⟨_, rfl, rfl, _, rfl, ite2 (fun _ => ?_) (fun _ => ⟨rfl, rfl⟩)⟩
    refine ⟨_, rfl, p, _, 0, _, rfl, rfl, SqL.of hp1, ixa (k := 0) (by decide) rfl (by decide), rfl, _, rfl, ite2 (fun _ => ?_) (fun _ => ⟨rfl, rfl⟩)⟩
    refine ⟨_, rfl, (n : Int), rfl, rg.1, rg.2, fun D2 hD2 => ?_⟩
    refine lc_m (walk_range (lo := 0) (n := n)) RI (stb_RI (K := K)) (List.range n) (by rw [List.length_range]) (by rw [List.length_range]; omega) hD2 (fun _ _ => trivial) (fun _ _ _ _ => ys_fn) (fun _ => (0 : Int)) (fun c i x H5 H4 hc s3 s4 yl A B hA => ?_) (fun H4 l s3 hl3 rs => ?_)
    · rw [yl.2]
      exact ⟨rfl, lc_yes (hA _ _ (fun _ _ h => h) rfl)⟩
    · exact q D2 H4 _ (s1.trans s3) (by rw [hl3, rs.ints]; rfl) fun i hi => B60 (by decide)
  rintro σ H4 ⟨rfl, rfl⟩
  exact ⟨_, rfl, q D H4 _ s1 hs bs⟩
end
end P12
namespace P12
open PySem PySem.Spec PyProof.Rows L2 SX EX WK
theorem szs {zs : List Int} (h : ∀ z ∈ zs, 0 < z ∧ z < 9223372036854775808) : ∀ z ∈ zs, 0 < z ∧ z.natAbs < 2 ^ 2000 := fun z hz => by
  have h1 := h z hz
  refine ⟨h1.1, ?_⟩
  have h2 : z.natAbs < 2 ^ 63 := by omega
  exact Nat.lt_of_lt_of_le h2 (Nat.pow_le_pow_right (by decide) (by decide))
theorem pick {cs : List Int} {d : Int} (h0 : 0 ≤ d) (h1 : d < (cs.length : Nat)) : ∃ x, x ∈ cs ∧ (cs.map V.int)[d.toNat]? = some (.int x) := by
  have hl : d.toNat < cs.length := by omega
  exact ⟨cs[d.toNat], List.getElem_mem hl, at_int (List.getElem?_eq_getElem hl)⟩
/-- the lines of a script -/
def LLn (H : Hp) (a : Addr) (m : Nat) : Prop := ∃ vs : List V, H a = some (.lst vs) ∧ vs.length = m ∧ ∀ (i : Nat), i < m → ∃ p y, vs[i]? = some (.ref p) ∧ Ln H p 23 y
theorem LLn.same {H H' : Hp} {a : Addr} {m : Nat} (h : LLn H a m) (e : Same H H') : LLn H' a m := by
  obtain ⟨vs, h1, h2, h3⟩ := h
  refine ⟨vs, e _ _ h1, h2, fun i hi => ?_⟩
  obtain ⟨p, y, h4, h5⟩ := h3 i hi
  exact ⟨p, y, h4, h5.same e⟩
theorem put_sym {n i j : Nat} {f : Nat → Nat → Int} {v : Int} (h : ∀ a b, a < n → b < n → f a b = f b a) : ∀ a b, a < n → b < n → put (put f i j v) j i v a b = put (put f i j v) j i v b a := fun a b ha hb => by
  unfold put
  by_cases c1 : a = i ∧ b = j
  · by_cases c2 : a = j ∧ b = i
    · rw [if_pos c2, if_pos (by omega)]
    · rw [if_neg c2, if_pos c1, if_pos (by omega)]
  · by_cases c2 : a = j ∧ b = i
    · rw [if_pos c2]
      by_cases c3 : b = j ∧ a = i
      · omega
      · rw [if_neg c3, if_pos (by omega)]
    · rw [if_neg c2, if_neg c1, if_neg (by omega), if_neg (by omega)]
      exact h a b ha hb
theorem put_B {n i j k : Nat} {f : Nat → Nat → Int} {v : Int} (h : ∀ a b, a < n → b < n → B k (f a b)) (hv : B k v) : ∀ a b, a < n → b < n → B k (put f i j v a b) := fun a b ha hb => by
  unfold put
  split
  · exact hv
  · exact h a b ha hb
theorem B80 {x : Int} (h : -1000000000000000000000 < x ∧ x < 1000000000000000000000) : B 80 x := by
  show x.natAbs < 2 ^ 80
  omega
theorem p1012 : (10 : Int) ^ (12 : Int).toNat = 1000000000000 := by decide
section
variable {P : Program} {w : World} {K : PySem.W.Frag} {mg : Str → Option Value} {base : Heap} {f : Addr} {fd : FuncData} {cF cR : Addr}
def spAny : Sp := fun vs H Q _ => ∃ (a : Addr) (n : Nat) (k : Int), vs = [.int n, .int k, .ref a] ∧ LLn H a 10 ∧ n ≤ 10 ∧ ∀ r H' g, Same H H' → LTab H' r n g → (∀ i j, i < n → j < n → g i j = g j i) → (∀ i j, i < n → j < n → B 80 (g i j)) → Q (.ref r) H'
abbrev s__law_any_table : Stmt := top 58
abbrev N__law_any_table : List Str := ["size", "kind", "lines", "i", "j", "table", "wide", "number"]
theorem sc__law_any_table : FnScope N__law_any_table ["size", "kind", "lines"] (defScope s__law_any_table) := ⟨rfl, rfl, rfl, by decide +kernel, rfl, by decide +kernel, by decide +kernel⟩
theorem ok__law_any_table (F : Fun K "_law_any_table" "_law_any_table" s__law_any_table f fd) (T : Txt mg) (C__law_wide : Cal P w K mg base 1 "_law_wide" ["size", "line"] spWide) : FnOk P w K mg base CX0 2 f fd ["size", "kind", "lines"] spAny := by
  refine F.ok sc__law_any_table (fun vs H Q E h => ?_) (fun cdv A outer s H vs Q E hr h => ?_)
  · obtain ⟨a, n, k, rfl, _⟩ := h
    rfl
  obtain ⟨a, n, kd, rfl, hll, hn, q⟩ := h
  refine ⟨_, (pss_cons (ps_setLc (i := 5) (own := [("i", 3)]) (g := gName 3) (tt := tYes) (by rfl) sc__law_any_table.nd rfl rfl (sw_true rfl rfl rfl (by decide +kernel)) (pi_range1 (by rfl) T.b_range (pa_cons (pv 0) pa_nil)) (blkOk_by (N := N__law_any_table) (sc := defScope s__law_any_table) (by decide +kernel)) (fun _ _ _ _ _ => (pg_name (i := 3) sc__law_any_table.nd rfl (Or.inl rfl))) (fun _ _ _ _ _ => pts_nil) (fun _ _ _ _ _ => (pe_lc (own := [("j", 4)]) (g := gName 4) (tt := tYes) (by rfl) sc__law_any_table.nd (pi_range1 (by rfl) T.b_range (pa_cons (pv 0) pa_nil)) (blk_nest (N := N__law_any_table) (sc0 := defScope s__law_any_table) rfl (by decide +kernel)) (fun _ _ _ _ _ => (pg_name (i := 4) sc__law_any_table.nd rfl (Or.inl rfl))) (fun _ _ _ _ _ => pts_nil) (fun _ _ _ _ _ => pe_int))))
  (pss_cons (ps_for PassesOwn.never rfl (pi_range1 (by rfl) T.b_range (pa_cons (pv 0) pa_nil)) (pg_name (i := 3) sc__law_any_table.nd rfl (Or.inl rfl)) (pss_cons (ps_set (i := 6) sc__law_any_table.nd rfl (Or.inl rfl) (pe_cal C__law_wide (hr.mono (by omega)) rfl (pa_cons (pv 0) (pa_cons (pe_ix ix_list (pv 2) (pv 3) (fun _ _ => rfl)) pa_nil))))
  (pss_one (ps_for PassesOwn.never rfl (pi_range2 (by rfl) T.b_range (pa_cons (pv 3) (pa_cons (pv 0) pa_nil))) (pg_name (i := 4) sc__law_any_table.nd rfl (Or.inl rfl)) (pss_cons (ps_set (i := 7) sc__law_any_table.nd rfl (Or.inl rfl) (pe_op op_sub (pe_op op_mod (pe_callTy call_int1 (by rfl) T.b_int (by decide +kernel) (pa_cons (pe_ix ix_list (pe_ix ix_list (pv 2) (pv 3) (fun _ _ => rfl)) (pe_op op_mul pe_int (pv 4)) (fun _ _ => rfl)) pa_nil)) pe_int) pe_int))
  (C8.pss_cut (ps_if (PW.pt (pw_or (pt_cmpR op_eq (pv 1) pe_int (nomark _)) (pw_or1 (pt_cmpR op_eq (pv 1) pe_int (nomark _))))) (pss_one (ps_set (i := 7) sc__law_any_table.nd rfl (Or.inl rfl) (pe_ix ix_list (pv 6) (pv 4) (fun _ _ => rfl)))) pss_nil)
  (C8.pss_cut (ps_if (pt_cmpR op_eq (pv 1) pe_int (nomark _)) (pss_one (ps_set (i := 7) sc__law_any_table.nd rfl (Or.inl rfl) (pe_ix ix_list (pe_lst (pa_cons pe_int (pa_cons pe_int (pa_cons pe_int (pa_cons pe_int (pa_cons (pe_un un_neg pe_int) (pa_cons pe_int pa_nil))))))) (pe_op op_mod (pe_callTy call_int1 (by rfl) T.b_int (by decide +kernel) (pa_cons (pe_ix ix_list (pe_ix ix_list (pv 2) (pv 3) (fun _ _ => rfl)) (pe_op op_mul pe_int (pv 4)) (fun _ _ => rfl)) pa_nil)) pe_int) (fun _ _ => rfl)))) pss_nil)
  (C8.pss_cut (ps_if (PW.pt (pw_and (pt_cmpR op_eq (pv 3) (pv 4) (nomark _)) (pw_and1 (pt_cmpR op_eq (pv 1) pe_int (nomark _))))) (pss_one (ps_set (i := 7) sc__law_any_table.nd rfl (Or.inl rfl) (pe_op op_add (pv 7) (pe_op op_mul pe_int (pv 0))))) pss_nil)
  (C8.pss_cut (ps_if (PW.pt (pw_and (pt_cmpR op_eq (pv 3) (pv 4) (nomark _)) (pw_and1 (pt_cmpR op_eq (pv 1) pe_int (nomark _))))) (pss_one (ps_set (i := 7) sc__law_any_table.nd rfl (Or.inl rfl) (pe_op op_add (pv 7) (pe_op op_mul (pe_op op_pow pe_int pe_int) (pv 0))))) pss_nil)
  (pss_cons (ps_asg (pv 7) (pg_sub (pe_ix ix_list (pv 5) (pv 3) (fun _ _ => rfl)) (pv 4) set_list))
  (pss_one (ps_asg (pv 7) (pg_sub (pe_ix ix_list (pv 5) (pv 4) (fun _ _ => rfl)) (pv 3) set_list)))))))))))))
  (pss_one (ps_ret (pv 5))))), ?_⟩
  obtain ⟨vs, ha, hl, hrow⟩ := hll
  refine ⟨_, rfl, (n : Int), rfl, by omega, by omega, fun D hD => ?_⟩
  refine ⟨fun i m H' => m = n - i ∧ i ≤ n ∧ ∃ rs, ZT H H' D rs n i, ⟨_, rfl, Nat.zero_le _, [], new_same hD _, upd_same, rfl, List.nodup_nil, by simp, by simp, by simp⟩, ?_⟩
  rintro i m H1 ⟨rfl, hi, rs, z⟩
  by_cases hlt : i < n
  · refine .inr ⟨by show i < (n : Int).toNat; omega, fun H' => ∃ rs, ZT H H' D rs n (i + 1), fun H' h' => ⟨_, by omega, rfl, hlt, h'⟩, ?_⟩
    rintro x H2 ⟨rfl, rfl⟩
    refine ⟨rfl, lc_yes ⟨_, rfl, (n : Int), rfl, by omega, by omega, fun D2 hD2 => ?_⟩⟩
    refine lc_m (walk_range (lo := 0) (n := n)) RI (stb_RI (K := K)) (List.range n) (by rw [List.length_range]) (by rw [List.length_range]; omega) hD2 (fun _ _ => trivial) (fun _ _ _ _ => ys_fn) (fun _ => (0 : Int)) (fun c j x2 H3 H4 hc s3 s4 y A B hA => ?_) (fun H3 l s3 hl3 rs3 => ?_)
    · rw [y.2]
      exact ⟨rfl, lc_yes (hA _ _ (fun _ _ h => h) rfl)⟩
    · have hz := zero_vec (m := n) rs3
      refine ⟨rs.map V.ref, s3 _ _ z.at_, sizes (by rw [List.length_map, z.len]; omega), rs ++ [D2], ?_⟩
      exact z.snoc hD s3 hD2 (by rw [hl3, hz])
  · have ei : i = n := by omega
    subst ei
    refine .inl ⟨by show (i : Int).toNat ≤ i; omega, ?_⟩
    clear hlt
    have mt := z.mt
    refine ⟨_, rfl, (i : Int), rfl, by omega, by omega, for_range (lo := 0) (n := i) (fun r σ H' => ∃ (v3 v4 v6 v7 : Option V) (g : Nat → Nat → Int), σ = [some (.int i), some (.int kd), some (.ref a), v3, v4, some (.ref D), v6, v7] ∧ MT H H' D rs i g ∧ (∀ a b, a < i → b < i → g a b = g b a) ∧ (∀ a b, a < i → b < i → B 80 (g a b))) ⟨none, none, none, none, _, rfl, mt, fun _ _ _ _ => rfl, fun _ _ _ _ => by decide⟩ ?_ ?_⟩
    · rintro r σ H2 hr ⟨v3, v4, v6, v7, g, rfl, mt2, sy, bd⟩
      obtain ⟨pl, y, hpl, hln⟩ := hrow r (by omega)
      have er : (0 + (r : Int)).toNat = r := by omega
      refine ⟨_, rfl, _, rfl, _, rfl, a, _, _, _, rfl, rfl, SqL.of (mt2.same _ _ ha), at_pos (by omega) (by rw [er]; exact hpl), pl, i, y, rfl, hln.same mt2.same, hn, fun wd H3 x hwf s3 hwd hwb => ?_⟩
      have mt3 := mt2.keep s3
      have hln3 := hln.same mt3.same
      refine ⟨_, rfl, _, rfl, 0 + (r : Int), (i : Int), rfl, ⟨by omega, by omega, by omega, by omega⟩, ?_⟩
      refine for_range (lo := 0 + (r : Int)) (n := ((i : Int) - (0 + (r : Int))).toNat) (fun c σ H' => ∃ (v4 v7 : Option V) (g : Nat → Nat → Int), σ = [some (.int i), some (.int kd), some (.ref a), some (.int (0 + (r : Int))), v4, some (.ref D), some (.ref wd), v7] ∧ H' wd = some (.lst ((vec i x).map V.int)) ∧ MT H H' D rs i g ∧ (∀ a b, a < i → b < i → g a b = g b a) ∧ (∀ a b, a < i → b < i → B 80 (g a b))) ⟨v4, v7, g, rfl, hwd, mt3, sy, bd⟩ ?_ ?_
      · rintro c σ H4 hc ⟨v4, v7, g, rfl, s4, mt4, sy, bd⟩
        have hri : r < i := by omega
        have hj : r + c < i := by omega
        have ej : (0 + (r : Int) + (c : Int)).toNat = r + c := by omega
        have ha4 := SqL.of (K := K) (mt4.same _ _ ha)
        have hl4 := SqL.of (K := K) (hln.same mt4.same).1
        have by4 := hln.2 (2 * (r + c)) (by omega)
        have ixl : atI ((vec 23 y).map V.int) (2 * (0 + (r : Int) + (c : Int))) = some (.int (y (2 * (r + c)))) := ixa (by omega) (by omega) (by omega)
        have ixj : ∀ x : Nat → Int, atI ((vec i x).map V.int) (0 + (r : Int) + (c : Int)) = some (.int (x (r + c))) := fun x => ixa (by omega) ej hj
        refine ⟨_, rfl, _, rfl, a, _, _, _, rfl, rfl, ha4, at_pos (by omega) (by rw [er]; exact hpl), _, rfl, _, _, rfl, rfl, .inl (by decide), pl, _, _, _, rfl, rfl, hl4, ixl, .inl ⟨_, rfl, _, _, rfl, rfl, (by show (0 : Int) < 19; decide), _, _, rfl, rfl, ?_⟩⟩
        have b0 := md (x := y (2 * (r + c))) (m := 19) (by decide)
        refine ⟨fun σ' H' => ∃ nb : Int, σ' = [some (.int i), some (.int kd), some (.ref a), some (.int (0 + (r : Int))), some (.int (0 + (r : Int) + (c : Int))), some (.ref D), some (.ref wd), some (.int nb)] ∧ Same H4 H' ∧ -2000000000000000000 < nb ∧ nb < 2000000000000000000, ?_, ?_⟩
        · have body : (x (r + c)).natAbs < 2 ^ 60 := hwb _ hj
          have b1 : -2000000000000000000 < x (r + c) ∧ x (r + c) < 2000000000000000000 := by omega
          refine ⟨_, rfl, rfl, _, rfl, ite2 (fun _ => ?_) (fun _ => ⟨_, rfl, rfl, _, rfl, ite2 (fun _ => ?_) (fun _ => ⟨_, rfl, fun _ _ h => h, by omega, by omega⟩)⟩)⟩
          · exact ⟨_, rfl, _, rfl, wd, _, _, _, rfl, rfl, SqL.of s4, ixj x, _, rfl, fun _ _ h => h, b1.1, b1.2⟩
          · exact ⟨_, rfl, _, rfl, wd, _, _, _, rfl, rfl, SqL.of s4, ixj x, _, rfl, fun _ _ h => h, b1.1, b1.2⟩
        rintro σ H5 ⟨nb, rfl, s5, n1, n2⟩
        refine ⟨fun σ' H' => ∃ nb : Int, σ' = [some (.int i), some (.int kd), some (.ref a), some (.int (0 + (r : Int))), some (.int (0 + (r : Int) + (c : Int))), some (.ref D), some (.ref wd), some (.int nb)] ∧ Same H4 H' ∧ -2000000000000000000 < nb ∧ nb < 2000000000000000000, ?_, ?_⟩
        · refine ⟨_, rfl, rfl, _, rfl, ite2 (fun _ => ?_) (fun _ => ⟨nb, rfl, s5, n1, n2⟩)⟩
          refine ⟨_, rfl, line_ge (by show 6 ≤ 100000; decide), fun l hl6 => ?_⟩
          have s6 := same_new hl6 (.lst [V.int 0, V.int 0, V.int 0, V.int 1, V.int (-1), V.int 2])
          have g0 := md (x := y (2 * (r + c))) (m := 6) (by decide)
          obtain ⟨u, hu, hp⟩ := pick (cs := [0, 0, 0, 1, -1, 2]) g0.1 g0.2
          have hb : ∀ x ∈ ([0, 0, 0, 1, -1, 2] : List Int), -2 < x ∧ x < 3 := by decide
          have hub := hb u hu
          refine ⟨_, rfl, _, rfl, a, _, _, _, rfl, rfl, (s5.trans s6).seq ha4, at_pos (by omega) (by rw [er]; exact hpl), _, rfl, _, _, rfl, rfl, .inl (by decide), pl, _, _, _, rfl, rfl, (s5.trans s6).seq hl4, ixl, .inl ⟨_, rfl, _, _, rfl, rfl, (by show (0 : Int) < 6; decide), l, _, _, _, rfl, rfl, SqL.of upd_same, at_pos g0.1 hp, u, rfl, s5.trans s6, by omega, by omega⟩⟩
        rintro σ H6 ⟨nb, rfl, s6, n1, n2⟩
        refine ⟨fun σ' H' => ∃ nb : Int, σ' = [some (.int i), some (.int kd), some (.ref a), some (.int (0 + (r : Int))), some (.int (0 + (r : Int) + (c : Int))), some (.ref D), some (.ref wd), some (.int nb)] ∧ Same H4 H' ∧ -3000000000000000000 < nb ∧ nb < 3000000000000000000, ?_, ?_⟩
        · refine ⟨_, rfl, _, rfl, rfl, _, rfl, ite2 (fun _ => ?_) (fun _ => ⟨nb, rfl, s6, by omega, by omega⟩)⟩
          refine ⟨_, rfl, rfl, _, rfl, ite2 (fun _ => ?_) (fun _ => ⟨nb, rfl, s6, by omega, by omega⟩)⟩
          exact ⟨_, rfl, _, rfl, _, _, rfl, rfl, .inl (by decide), _, _, rfl, rfl, nb + 4 * (i : Int), rfl, s6, by omega, by omega⟩
        rintro σ H7 ⟨nb, rfl, s7, n1, n2⟩
        refine ⟨fun σ' H' => ∃ nb : Int, σ' = [some (.int i), some (.int kd), some (.ref a), some (.int (0 + (r : Int))), some (.int (0 + (r : Int) + (c : Int))), some (.ref D), some (.ref wd), some (.int nb)] ∧ Same H4 H' ∧ -4000000000000000000 < nb ∧ nb < 4000000000000000000, ?_, ?_⟩
        · refine ⟨_, rfl, _, rfl, rfl, _, rfl, ite2 (fun _ => ?_) (fun _ => ⟨nb, rfl, s7, by omega, by omega⟩)⟩
          refine ⟨_, rfl, rfl, _, rfl, ite2 (fun _ => ?_) (fun _ => ⟨nb, rfl, s7, by omega, by omega⟩)⟩
          refine ⟨_, rfl, _, _, rfl, rfl, ⟨by decide, by decide, by decide⟩, _, rfl, _, _, rfl, rfl, .inl (by decide), _, _, rfl, rfl, nb + 10 ^ (12 : Int).toNat * (i : Int), rfl, s7, ?_, ?_⟩
          · rw [p1012]
            omega
          · rw [p1012]
            omega
        rintro σ H8 ⟨nb, rfl, s8, n1, n2⟩
        have hb : B 80 nb := B80 (by omega)
        have mt8 := mt4.keep s8
        obtain ⟨pr, hpr1, hpr2⟩ := mt8.row r hri
        have ix : atI (rs.map V.ref) (0 + (r : Int)) = some (.ref pr) := at_pos (by omega) (by rw [er, List.getElem?_map, hpr1]; rfl)
        refine ⟨_, rfl, _, rfl, _, rfl, D, _, _, _, rfl, rfl, SqL.of mt8.at_, ix, _, rfl, pr, _, _, r + c, rfl, rfl, hpr2, by rw [vec_lenV]; unfold ixN; rw [if_pos (by omega), if_pos (by omega)]; congr 1, ?_⟩
        have st := mt8.set (v := nb) hri hj hpr1
        obtain ⟨pq, hpq1, hpq2⟩ := st.row (r + c) hj
        have ix2 : atI (rs.map V.ref) (0 + (r : Int) + (c : Int)) = some (.ref pq) := at_pos (by omega) (by rw [ej, List.getElem?_map, hpq1]; rfl)
        refine ⟨_, rfl, _, rfl, _, rfl, D, _, _, _, rfl, rfl, SqL.of st.at_, ix2, _, rfl, pq, _, _, r, rfl, rfl, hpq2, by rw [vec_lenV]; unfold ixN; rw [if_pos (by omega), if_pos (by omega)]; congr 1, ?_⟩
        have st2 := st.set (v := nb) hj hri hpq1
        have hw8 := s8 _ _ s4
        have wne : ∀ p0 ∈ rs, wd ≠ p0 := fun p0 m0 z => by
          obtain ⟨ii, hii, e⟩ := List.getElem_of_mem m0
          obtain ⟨p1, h1, h2⟩ := mt2.row ii (by have := mt2.len; omega)
          rw [List.getElem?_eq_getElem hii, e] at h1
          cases h1
          rw [← z, hwf] at h2
          cases h2
        have hw9 : upd (upd H8 pr (.lst (((vec i (g r)).map V.int).set (r + c) (.int nb)))) pq (.lst (((vec i (put g r (r + c) nb (r + c))).map V.int).set r (.int nb))) wd = some (.lst ((vec i x).map V.int)) := by
          rw [upd_ne (wne pq (List.mem_of_getElem? hpq1)), upd_ne (wne pr (List.mem_of_getElem? hpr1))]
          exact hw8
        exact ⟨some (.int (0 + (r : Int) + (c : Int))), some (.int nb), _, rfl, hw9, st2, put_sym sy, put_B (put_B bd hb) hb⟩
      · rintro σ H4 ⟨v4, v7, g, rfl, s4, mt4, sy, bd⟩
        exact ⟨some (.int (0 + (r : Int))), v4, some (.ref wd), v7, g, rfl, mt4, sy, bd⟩
    · rintro σ H2 ⟨v3, v4, v6, v7, g, rfl, mt2, sy, bd⟩
      exact ⟨_, rfl, q D H2 g mt2.same mt2.ltab sy bd⟩
end
end P12
namespace P12
open PySem PySem.Spec PyProof.Rows L2 SX EX WK
theorem dg {ns zs : List Int} {i : Nat} {z : Int} (d : Dig ns zs) (e : zs[i]? = some z) : ∃ n, (ns.map V.int)[i]? = some (.int n) ∧ 0 ≤ n ∧ n < z := by
  obtain ⟨n, h1, h2, h3⟩ := d.get e
  exact ⟨n, at_int h1, h2, h3⟩
theorem Dig.mem {ns zs : List Int} (d : Dig ns zs) {m : Int} (h : ∀ z ∈ zs, z ≤ m) : ∀ n ∈ ns, 0 ≤ n ∧ n < m := fun n hn => by
  obtain ⟨i, hi⟩ := List.mem_iff_getElem?.mp hn
  have hl : i < zs.length := by
    have := (List.getElem?_eq_some_iff.mp hi).1
    have := d.len
    omega
  obtain ⟨n', h1, h2, h3⟩ := d.get (List.getElem?_eq_getElem hl)
  rw [hi] at h1
  cases h1
  have := h _ (List.getElem_mem hl)
  omega
theorem prow_st {n : Nat} {D : Addr} : StbD D (PRow n) := fun H H' v z ⟨l, hl⟩ e ⟨q, r, h1, h2, h3, h4⟩ =>
  ⟨q, r, h1, e _ _ (fun z => by rw [z, hl] at h2; cases h2) h2, e _ _ (fun z => by rw [z, hl] at h3; cases h3) h3, h4⟩
/-- a list that grows -/
structure Gr {α : Type} (R : Hp → V → α → Prop) (H0 : Hp) (D : Addr) (zs : List α) (H : Hp) : Prop where
  same : Same H0 H
  at_ : ∃ vs, H D = some (.lst vs) ∧ Rs R H vs zs
theorem Gr.start {α : Type} {R : Hp → V → α → Prop} {H : Hp} {D : Addr} (h : H D = none) : Gr R H D [] (upd H D (.lst [])) := ⟨new_same h _, [], upd_same, Rs.nil⟩
theorem Gr.keep {α : Type} {R : Hp → V → α → Prop} {H0 H H' : Hp} {D : Addr} {zs : List α} (st : StbD D R) (g : Gr R H0 D zs H) (e : Same H H') : Gr R H0 D zs H' := by
  obtain ⟨s, vs, h1, h2⟩ := g
  exact ⟨s.trans e, vs, e _ _ h1, h2.tkD st ⟨vs, h1⟩ fun b o _ h => e _ _ h⟩
theorem Gr.push {α : Type} {R : Hp → V → α → Prop} {H0 H : Hp} {D : Addr} {zs : List α} {vs : List V} {v : V} {z : α} (st : StbD D R) (s : Same H0 H) (hD : H0 D = none) (h1 : H D = some (.lst vs)) (h2 : Rs R H vs zs) (r : R H v z) : Gr R H0 D (zs ++ [z]) (upd H D (.lst (vs ++ [v]))) := by
  refine ⟨same_at s hD, _, upd_same, Rs.snoc (h2.tkD st ⟨vs, h1⟩ fun b o hb h => ?_) (st _ _ _ _ ⟨vs, h1⟩ (fun b o hb h => ?_) r)⟩
  all_goals
    rw [upd_ne hb]
    exact h
theorem B100 {x : Int} (h : -1000000000000000000 < x ∧ x < 1000000000000000000) : B 100 x := (B60 h).mono (by decide)
theorem PB.snoc {ps : List RW} {p : RW} {k : Nat} (h : ∀ p ∈ ps, 1 ≤ p.2 ∧ B 100 p.2 ∧ ∀ x ∈ p.1, B 100 x) (h1 : 1 ≤ p.2) (h2 : B 100 p.2) (h3 : ∀ x ∈ p.1, B 100 x) : ∀ q ∈ ps ++ [p], 1 ≤ q.2 ∧ B 100 q.2 ∧ ∀ x ∈ q.1, B 100 x := fun q hq => by
  rcases List.mem_append.mp hq with m | m
  · exact h q m
  · rw [List.mem_singleton.mp m]
    exact ⟨h1, h2, h3⟩
theorem vec_mem {n : Nat} {x : Nat → Int} {k : Nat} (h : ∀ i, i < n → B k (x i)) : ∀ y ∈ vec n x, B k y := fun y hy => by
  obtain ⟨i, hi, rfl⟩ := List.mem_map.mp hy
  exact h i (List.mem_range.mp hi)
section
variable {P : Program} {w : World} {K : PySem.W.Frag} {mg : Str → Option Value} {base : Heap} {f : Addr} {fd : FuncData} {cF cR : Addr}
def spWt : Sp := fun vs H Q _ => ∃ (k : Int) (p : Addr) (z : Nat → Int), vs = [.int k, .ref p] ∧ Ln H p 13 z ∧ ∀ s H', Same H H' → 1 ≤ s → B 100 s → Q (.int s) H'
abbrev s__law_draw_weight : Stmt := top 51
abbrev N__law_draw_weight : List Str := ["kind", "row"]
theorem sc__law_draw_weight : FnScope N__law_draw_weight ["kind", "row"] (defScope s__law_draw_weight) := ⟨rfl, rfl, rfl, by decide +kernel, rfl, by decide +kernel, by decide +kernel⟩
theorem ok__law_draw_weight (F : Fun K "_law_draw_weight" "_law_draw_weight" s__law_draw_weight f fd) (T : Txt mg) : FnOk P w K mg base CX0 1 f fd ["kind", "row"] spWt := by
  refine F.ok sc__law_draw_weight (fun vs H Q E h => ?_) (fun cdv A outer s H vs Q E hr h => ?_)
  · obtain ⟨k, p, z, rfl, _⟩ := h
    rfl
  obtain ⟨k, a, z, rfl, hp, q⟩ := h
  refine ⟨_, (pss_cons (ps_if (pt_cmpR op_eq (pv 0) pe_int (nomark _)) (pss_one (ps_ret pe_int)) pss_nil)
  (pss_cons (ps_if (pt_cmpR op_eq (pv 0) pe_int (nomark _)) (pss_one (ps_ret (pe_op op_add (pe_op op_add pe_int (pe_ix ix_list (pv 1) pe_int (fun _ _ => rfl))) (pe_op op_mul pe_int (pe_ix ix_list (pv 1) pe_int (fun _ _ => rfl)))))) pss_nil)
  (pss_cons (ps_if (pt_cmpR op_eq (pv 0) pe_int (nomark _)) (pss_one (ps_ret (pe_op op_add pe_int (pe_ix ix_list (pv 1) pe_int (fun _ _ => rfl))))) pss_nil)
  (pss_cons (ps_if (pt_cmpR op_eq (pv 0) pe_int (nomark _)) (pss_one (ps_ret (pe_ix ix_list (pe_lst (pa_cons pe_int (pa_cons pe_int pa_nil))) (pe_op op_mod (pe_callTy call_int1 (by rfl) T.b_int (by decide +kernel) (pa_cons (pe_ix ix_list (pv 1) pe_int (fun _ _ => rfl)) pa_nil)) pe_int) (fun _ _ => rfl)))) pss_nil)
  (pss_cons (ps_if (pt_cmpR op_eq (pv 0) pe_int (nomark _)) (pss_one (ps_ret (pe_op op_add pe_int (pe_op op_mul (pe_ix ix_list (pv 1) pe_int (fun _ _ => rfl)) pe_int)))) pss_nil)
  (pss_one (ps_ret (pe_op op_add pe_int (pe_ix ix_list (pv 1) pe_int (fun _ _ => rfl)))))))))), ?_⟩
  have sm : Same H H := fun _ _ h => h
  have ha := SqL.of (K := K) hp.1
  have b0 := hp.2 10 (by decide)
  have b1 := hp.2 11 (by decide)
  have b2 := hp.2 12 (by decide)
  have i0 : atI ((vec 13 z).map V.int) 10 = some (.int (z 10)) := ixa (k := 10) (by decide) rfl (by decide)
  have i1 : atI ((vec 13 z).map V.int) 11 = some (.int (z 11)) := ixa (k := 11) (by decide) rfl (by decide)
  have i2 : atI ((vec 13 z).map V.int) 12 = some (.int (z 12)) := ixa (k := 12) (by decide) rfl (by decide)
  refine ⟨_, rfl, rfl, _, rfl, ite2 (fun _ => q 1 H sm (by decide) (B100 (by decide))) (fun _ => ?_)⟩
  refine ⟨_, rfl, rfl, _, rfl, ite2 (fun _ => ?_) (fun _ => ?_)⟩
  · exact ⟨_, rfl, a, _, 11, _, rfl, rfl, ha, i1, _, _, rfl, rfl, _, rfl, a, _, 12, _, rfl, rfl, ha, i2, _, _, rfl, rfl, .inl (by decide), _, _, rfl, rfl, q _ H sm (by omega) (B100 (by omega))⟩
  refine ⟨_, rfl, rfl, _, rfl, ite2 (fun _ => ?_) (fun _ => ?_)⟩
  · exact ⟨_, rfl, a, _, 11, _, rfl, rfl, ha, i1, _, _, rfl, rfl, q _ H sm (by omega) (B100 (by omega))⟩
  refine ⟨_, rfl, rfl, _, rfl, ite2 (fun _ => ?_) (fun _ => ?_)⟩
  · refine ⟨two_line, fun l hl => ⟨_, rfl, a, _, 11, _, rfl, rfl, (same_new hl _).seq ha, i1, .inl ⟨_, rfl, _, _, rfl, rfl, (by show (0 : Int) < 2; decide), ?_⟩⟩⟩
    have g := md (x := z 11) (m := 2) (by decide)
    obtain ⟨x, hx, hp⟩ := pick (cs := [1, 1000000]) g.1 g.2
    have hb : ∀ x ∈ ([1, 1000000] : List Int), 1 ≤ x ∧ x ≤ 1000000 := by decide
    exact ⟨l, _, _, _, rfl, rfl, SqL.of upd_same, at_pos g.1 hp, q _ _ (same_new hl _) (hb x hx).1 (B100 (by have := hb x hx; omega))⟩
  refine ⟨_, rfl, rfl, _, rfl, ite2 (fun _ => ?_) (fun _ => ?_)⟩
  · exact ⟨_, rfl, a, _, 11, _, rfl, rfl, ha, i1, _, _, rfl, rfl, .inr (by decide), _, _, rfl, rfl, q _ H sm (by omega) (B100 (by omega))⟩
  exact ⟨_, rfl, a, _, 10, _, rfl, rfl, ha, i0, _, _, rfl, rfl, q _ H sm (by omega) (B100 (by omega))⟩
def spLine : Sp := fun vs H Q _ => ∃ c : Int, vs = [.int c] ∧ ∀ r H' y, H r = none → Same H H' → Ln H' r 23 y → Q (.ref r) H'
def zsL : List Int := [20000, 100000000, 20000, 100000000, 20000, 100000000, 20000, 100000000, 20000, 100000000, 20000, 100000000, 20000, 100000000, 20000, 100000000, 20000, 100000000, 20000, 100000000, 9, 1000, 100000000]
abbrev s__law_line : Stmt := top 52
abbrev N__law_line : List Str := ["cell"]
theorem sc__law_line : FnScope N__law_line ["cell"] (defScope s__law_line) := ⟨rfl, rfl, rfl, by decide +kernel, rfl, by decide +kernel, by decide +kernel⟩
theorem ok__law_line (F : Fun K "_law_line" "_law_line" s__law_line f fd) (T : Txt mg) (C__law_digits : Cal P w K mg base 1 "_law_digits" ["cell", "sizes"] (spDigits K)) : FnOk P w K mg base CX0 2 f fd ["cell"] spLine := by
  refine F.ok sc__law_line (fun vs H Q E h => ?_) (fun cdv A outer s H vs Q E hr h => ?_)
  · obtain ⟨c, rfl, _⟩ := h
    rfl
  obtain ⟨c, rfl, q⟩ := h
  refine ⟨_, (pss_one (ps_ret (pe_cal C__law_digits (hr.mono (by omega)) rfl (pa_cons (pv 0) (pa_cons (pe_op op_cat (pe_op op_rep (pe_lst (pa_cons pe_int (pa_cons (pe_op op_pow pe_int pe_int) pa_nil))) pe_int) (pe_lst (pa_cons pe_int (pa_cons pe_int (pa_cons (pe_op op_pow pe_int pe_int) pa_nil))))) pa_nil))))), ?_⟩
  refine ⟨_, rfl, _, _, rfl, rfl, ⟨by decide, by decide, by decide⟩, two_line, fun l1 hl1 => ⟨l1, 10, _, rfl, rfl, upd_same, by decide, by decide, line_ge (by decide), fun l2 hl2 => ?_⟩⟩
  refine ⟨_, _, rfl, rfl, ⟨by decide, by decide, by decide⟩, three_line, fun l3 hl3 => ?_⟩
  refine ⟨l2, l3, _, _, rfl, rfl, same_new hl3 _ _ _ upd_same, upd_same, line_ge (by decide), fun l4 hl4 => ?_⟩
  have s4 := fun o => (same_new hl1 _).trans ((same_new hl2 _).trans ((same_new hl3 _).trans (same_new hl4 o)))
  refine ⟨c, l4, zsL, rfl, SqL.of (by rw [upd_same]; rfl), by decide, szs (by decide), fun p ns hp hd => ?_⟩
  have hl : ns.length = 23 := hd.len
  refine q p _ (fun i => ns.getD i 0) ?_ ((s4 _).trans (same_new hp _)) ⟨by rw [upd_same, ← vec_of hl], fun i hi => ?_⟩
  · cases e : H p with
    | none => rfl
    | some u => rw [s4 _ _ _ e] at hp; cases hp
  · have hi2 : i < ns.length := by omega
    have e : ns.getD i 0 = ns[i] := by rw [List.getD_eq_getElem?_getD, List.getElem?_eq_getElem hi2]; rfl
    show 0 ≤ ns.getD i 0 ∧ ns.getD i 0 < 1000000000
    rw [e]
    have := hd.mem (m := 1000000000) (by decide) _ (List.getElem_mem hi2)
    exact this
def spRowD : Sp := fun vs H Q _ => ∃ (p : Addr) (n : Nat) (k : Int) (y : Nat → Int), vs = [.int n, .int k, .ref p] ∧ Ln H p 23 y ∧ n ≤ 10 ∧ ∀ r H' x, Same H H' → H' r = some (.lst ((vec n x).map V.int)) → (∀ i, i < n → B 60 (x i)) → Q (.ref r) H'
abbrev s__law_row : Stmt := top 55
abbrev N__law_row : List Str := ["size", "kind", "line"]
theorem sc__law_row : FnScope N__law_row ["size", "kind", "line"] (defScope s__law_row) := ⟨rfl, rfl, rfl, by decide +kernel, rfl, by decide +kernel, by decide +kernel⟩
theorem ok__law_row (F : Fun K "_law_row" "_law_row" s__law_row f fd) (T : Txt mg) (C__law_wide : Cal P w K mg base 1 "_law_wide" ["size", "line"] spWide) (C__law_seven : Cal P w K mg base 1 "_law_seven" ["line"] spSeven) (C__law_draw_row : Cal P w K mg base 1 "_law_draw_row" ["size", "kind", "row"] spDrow) : FnOk P w K mg base CX0 2 f fd ["size", "kind", "line"] spRowD := by
  refine F.ok sc__law_row (fun vs H Q E h => ?_) (fun cdv A outer s H vs Q E hr h => ?_)
  · obtain ⟨p, n, k, y, rfl, _⟩ := h
    rfl
  obtain ⟨p, n, k, y, rfl, hp, hn, q⟩ := h
  refine ⟨_, (pss_cons (ps_if (pt_cmpR op_ge (pv 1) pe_int (nomark _)) (pss_one (ps_ret (pe_cal C__law_wide (hr.mono (by omega)) rfl (pa_cons (pv 0) (pa_cons (pv 2) pa_nil))))) pss_nil)
  (pss_one (ps_ret (pe_cal C__law_draw_row (hr.mono (by omega)) rfl (pa_cons (pv 0) (pa_cons (pv 1) (pa_cons (pe_cal C__law_seven (hr.mono (by omega)) rfl (pa_cons (pv 2) pa_nil)) pa_nil))))))), ?_⟩
  refine ⟨_, rfl, _, _, rfl, rfl, _, rfl, ite2 (fun _ => ?_) (fun _ => ?_)⟩
  · exact ⟨_, rfl, _, rfl, p, n, y, rfl, hp, hn, fun r H' x _ s h1 h2 => q r H' x s h1 h2⟩
  · refine ⟨_, rfl, _, rfl, _, rfl, p, y, rfl, hp, fun r H' s hr' => ?_⟩
    exact ⟨r, n, k, _, rfl, hr', hn, fun r2 H2 x s2 h1 h2 => q r2 H2 x (s.trans s2) h1 h2⟩
def spDps (K : PySem.W.Frag) : Sp := fun vs H Q _ => ∃ (a : Addr) (ns : List Int) (at_ m st wt tw : Int) (n : Nat), vs = [.ref a, .int at_, .int n, .int m, .int st, .int wt, .int tw] ∧ SqL K H a (ns.map V.int) ∧ 0 ≤ at_ ∧ at_ ≤ 100 ∧ m ≤ 60 ∧ -100 ≤ m ∧ n ≤ 10 ∧ ∀ r H' ps, Same H H' → PrsAt H' r n ps → PB ps → Q (.ref r) H'
abbrev s__law_draw_pairs : Stmt := top 56
abbrev N__law_draw_pairs : List Str := ["script", "at", "size", "many", "style", "weights", "twin", "pairs", "k", "line", "row", "number"]
theorem sc__law_draw_pairs : FnScope N__law_draw_pairs ["script", "at", "size", "many", "style", "weights", "twin"] (defScope s__law_draw_pairs) := ⟨rfl, rfl, rfl, by decide +kernel, rfl, by decide +kernel, by decide +kernel⟩
theorem ok__law_draw_pairs (F : Fun K "_law_draw_pairs" "_law_draw_pairs" s__law_draw_pairs f fd) (T : Txt mg) (C__law_cell : Cal P w K mg base 1 "_law_cell" ["script", "k"] (spCell K)) (C__law_line : Cal P w K mg base 2 "_law_line" ["cell"] spLine) (C__law_row : Cal P w K mg base 2 "_law_row" ["size", "kind", "line"] spRowD)
    (C__law_draw_weight : Cal P w K mg base 1 "_law_draw_weight" ["kind", "row"] spWt) (C__law_seven : Cal P w K mg base 1 "_law_seven" ["line"] spSeven) : FnOk P w K mg base CX0 3 f fd ["script", "at", "size", "many", "style", "weights", "twin"] (spDps K) := by
  refine F.ok sc__law_draw_pairs (fun vs H Q E h => ?_) (fun cdv A outer s H vs Q E hr h => ?_)
  · obtain ⟨a, ns, at_, m, st, wt, tw, n, rfl, _⟩ := h
    rfl
  obtain ⟨a, ns, at_, m, st, wt, tw, n, rfl, ha, ha0, ha1, hm, hm0, hn, q⟩ := h
  refine ⟨_, (pss_cons (ps_set (i := 7) sc__law_draw_pairs.nd rfl (Or.inl rfl) (pe_lst pa_nil))
  (pss_cons (ps_for PassesOwn.never rfl (pi_range1 (by rfl) T.b_range (pa_cons (pv 3) pa_nil)) (pg_name (i := 8) sc__law_draw_pairs.nd rfl (Or.inl rfl)) (pss_cons (ps_set (i := 9) sc__law_draw_pairs.nd rfl (Or.inl rfl) (pe_cal C__law_line (hr.mono (by omega)) rfl (pa_cons (pe_cal C__law_cell (hr.mono (by omega)) rfl (pa_cons (pv 0) (pa_cons (pe_op op_add (pv 1) (pv 8)) pa_nil))) pa_nil)))
  (pss_cons (ps_set (i := 10) sc__law_draw_pairs.nd rfl (Or.inl rfl) (pe_cal C__law_row (hr.mono (by omega)) rfl (pa_cons (pv 2) (pa_cons (pv 4) (pa_cons (pv 9) pa_nil)))))
  (C8.pss_cut (ps_if (PW.pt (pw_and (pt_cmpR op_eq (pv 8) pe_int (nomark _)) (pw_and1 (pt_cmpR op_eq (pv 6) pe_int (nomark _))))) (pss_one (ps_set (i := 10) sc__law_draw_pairs.nd rfl (Or.inl rfl) (pe_callTy call_list_of (by rfl) T.b_list (by decide +kernel) (pa_cons (pe_ix ix_tup (pe_ix ix_list (pv 7) pe_int (fun _ _ => rfl)) pe_int (fun _ _ => rfl)) pa_nil)))) pss_nil)
  (C8.pss_cut (ps_if (PW.pt (pw_and (pt_cmpR op_eq (pv 8) pe_int (nomark _)) (pw_and1 (pt_cmpR op_eq (pv 6) pe_int (nomark _))))) (pss_one (ps_setLc (i := 10) (own := [("number", 11)]) (g := gName 11) (tt := tYes) (by rfl) sc__law_draw_pairs.nd rfl rfl (sw_true rfl rfl rfl (by decide +kernel)) (pi_tup (pe_ix ix_tup (pe_ix ix_list (pv 7) pe_int (fun _ _ => rfl)) pe_int (fun _ _ => rfl))) (blkOk_by (N := N__law_draw_pairs) (sc := defScope s__law_draw_pairs) (by decide +kernel)) (fun _ _ _ _ _ => (pg_name (i := 11) sc__law_draw_pairs.nd rfl (Or.inl rfl))) (fun _ _ _ _ _ => pts_nil) (fun _ _ _ _ _ => (pe_un un_neg (pv 11))))) pss_nil)
  (pss_one (ps_expr (pe_bm PySem.F.plainAttrs_list PySem.F.slot_list_append PySem.F.type_list_append mt_append (pv 7) (pa_cons (pe_tup (pa_cons (pe_callTy call_tuple_of (by rfl) T.b_tuple (by decide +kernel) (pa_cons (pv 10) pa_nil)) (pa_cons (pe_cal C__law_draw_weight (hr.mono (by omega)) rfl (pa_cons (pv 5) (pa_cons (pe_cal C__law_seven (hr.mono (by omega)) rfl (pa_cons (pv 9) pa_nil)) pa_nil))) pa_nil))) pa_nil)))))))))
  (pss_one (ps_ret (pv 7))))), ?_⟩
  refine ⟨line_ge (by decide), fun D hD => ?_⟩
  refine ⟨_, rfl, m, rfl, by omega, by omega, for_range (lo := 0) (n := m.toNat) (fun k σ H' => ∃ (v8 v9 v10 : Option V) (ps : List RW), σ = [some (.ref a), some (.int at_), some (.int n), some (.int m), some (.int st), some (.int wt), some (.int tw), some (.ref D), v8, v9, v10, none] ∧ Gr (PRow n) H D ps H' ∧ ps.length = k ∧ ∀ p ∈ ps, 1 ≤ p.2 ∧ B 100 p.2 ∧ ∀ x ∈ p.1, B 100 x) ⟨none, none, none, [], rfl, Gr.start hD, rfl, by simp⟩ ?_ ?_⟩
  · rintro k σ H1 hk ⟨v8, v9, v10, ps, rfl, gr, hlen, hpb⟩
    refine ⟨_, rfl, _, rfl, _, rfl, _, _, rfl, rfl, a, ns, at_ + (0 + (k : Int)), rfl, gr.same.seq ha, by omega, by omega, fun c => ⟨c, rfl, fun ln H2 y hlf s2 hln => ?_⟩⟩
    have gr2 := gr.keep prow_st s2
    refine ⟨_, rfl, _, rfl, _, rfl, ln, n, st, y, rfl, hln, hn, fun rw_ H3 x s3 hrw hxb => ?_⟩
    have gr3 := gr2.keep prow_st s3
    have hln3 := hln.same s3
    -- the first cut
    refine ⟨fun σ' H' => ∃ (rl : Addr) (x : Nat → Int), σ' = [some (.ref a), some (.int at_), some (.int n), some (.int m), some (.int st), some (.int wt), some (.int tw), some (.ref D), some (.int (0 + (k : Int))), some (.ref ln), some (.ref rl), none] ∧ Same H3 H' ∧ H' rl = some (.lst ((vec n x).map V.int)) ∧ ∀ i, i < n → B 100 (x i), ?_, ?_⟩
    · refine ⟨_, rfl, rfl, _, rfl, ite2 (fun c1 => ?_) (fun _ => ⟨rw_, x, rfl, fun _ _ h => h, hrw, fun i hi => (hxb i hi).mono (by decide)⟩)⟩
      refine ⟨_, rfl, rfl, _, rfl, ite2 (fun _ => ?_) (fun _ => ⟨rw_, x, rfl, fun _ _ h => h, hrw, fun i hi => (hxb i hi).mono (by decide)⟩)⟩
      have hk1 : (0 + (k : Int)) = 1 := V.int.inj (of_decide_eq_true c1)
      obtain ⟨_, vs, hvs, hrs⟩ := gr3
      have hl0 : 0 < ps.length := by omega
      have hvl := hrs.1
      have e := List.getElem?_eq_getElem (l := vs) (i := 0) (by omega)
      have e2 := List.getElem?_eq_getElem (l := ps) (i := 0) hl0
      obtain ⟨q1, q2, h1, h2, h3, h4⟩ := hrs.2 0 _ _ e e2
      rw [h1] at e
      refine ⟨_, rfl, D, _, 0, _, rfl, rfl, SqL.of hvs, at_pos (by decide) e, q1, _, 0, _, rfl, rfl, SqT.of h2, at_pos (by decide) rfl, q2, _, rfl, .inr (SqT.of h3), fun l hl => ?_⟩
      refine ⟨l, fun i => (ps[0]).1.getD i 0, rfl, same_new hl _, by rw [upd_same, ← vec_of h4], fun i hi => ?_⟩
      have hx := (hpb _ (List.getElem_mem hl0)).2.2
      have hi2 : i < (ps[0]).1.length := by omega
      show B 100 ((ps[0]).1.getD i 0)
      rw [List.getD_eq_getElem?_getD, List.getElem?_eq_getElem hi2]
      exact hx _ (List.getElem_mem hi2)
    rintro σ H4 ⟨rl, x1, rfl, s4, hrl, hxb1⟩
    have gr4 := gr3.keep prow_st s4
    refine ⟨fun σ' H' => ∃ (rl : Addr) (x : Nat → Int), σ' = [some (.ref a), some (.int at_), some (.int n), some (.int m), some (.int st), some (.int wt), some (.int tw), some (.ref D), some (.int (0 + (k : Int))), some (.ref ln), some (.ref rl), none] ∧ Same H4 H' ∧ H' rl = some (.lst ((vec n x).map V.int)) ∧ ∀ i, i < n → B 100 (x i), ?_, ?_⟩
    · refine ⟨_, rfl, rfl, _, rfl, ite2 (fun c1 => ?_) (fun _ => ⟨rl, x1, rfl, fun _ _ h => h, hrl, hxb1⟩)⟩
      refine ⟨_, rfl, rfl, _, rfl, ite2 (fun _ => ?_) (fun _ => ⟨rl, x1, rfl, fun _ _ h => h, hrl, hxb1⟩)⟩
      have hk1 : (0 + (k : Int)) = 1 := V.int.inj (of_decide_eq_true c1)
      obtain ⟨_, vs, hvs, hrs⟩ := gr4
      have hl0 : 0 < ps.length := by omega
      have hvl := hrs.1
      have e := List.getElem?_eq_getElem (l := vs) (i := 0) (by omega)
      have e2 := List.getElem?_eq_getElem (l := ps) (i := 0) hl0
      obtain ⟨q1, q2, h1, h2, h3, h4⟩ := hrs.2 0 _ _ e e2
      rw [h1] at e
      rw [vec_of h4] at h3
      have hx := (hpb _ (List.getElem_mem hl0)).2.2
      refine ⟨_, rfl, D, _, 0, _, rfl, rfl, SqL.of hvs, at_pos (by decide) e, q1, _, 0, _, rfl, rfl, SqT.of h2, at_pos (by decide) rfl, q2, rfl, ⟨_, SqT.of h3⟩, fun D2 hD2 => ?_⟩
      refine lc_m (walk_tup (K := K) (a := q2) (xs := (vec n fun i => (ps[0]).1.getD i 0).map V.int)) RI (stb_RI (K := K)) (List.range n) (by rw [vec_lenV, List.length_range]) (by rw [List.length_range]; omega) hD2 (fun H' s => SqT.of (s _ _ h3)) (fun _ _ _ _ => ys_at) (fun i => -((ps[0]).1.getD i 0)) (fun c i x H5 H6 hc s5 s6 yl A B hA => ?_) (fun H5 l s5 hl5 rs => ?_)
      · obtain ⟨hc1, rfl⟩ := in_range hc
        have e3 := yl.2
        rw [vecV_at hc1] at e3
        cases e3
        exact ⟨rfl, lc_yes ⟨_, rfl, _, rfl, hA _ _ (fun _ _ h => h) rfl⟩⟩
      · refine ⟨D2, fun i => -((ps[0]).1.getD i 0), rfl, s5, by rw [hl5, rs.ints]; rfl, fun i hi => ?_⟩
        have hi2 : i < (ps[0]).1.length := by omega
        show (-((ps[0]).1.getD i 0)).natAbs < 2 ^ 100
        rw [Int.natAbs_neg, List.getD_eq_getElem?_getD, List.getElem?_eq_getElem hi2]
        exact hx _ (List.getElem_mem hi2)
    rintro σ H5 ⟨rl2, x2, rfl, s5, hrl2, hxb2⟩
    have gr5 := gr4.keep prow_st s5
    have hln5 := (hln3.same s4).same s5
    refine ⟨_, rfl, .inl ⟨rfl, _, SqL.of gr5.at_.choose_spec.1⟩, _, rfl, rl2, _, rfl, .inl ⟨SqL.of hrl2, fun t ht => ?_⟩⟩
    have s6 := same_new ht (.tup ((vec n x2).map V.int))
    refine ⟨_, rfl, _, rfl, ln, y, rfl, hln5.same s6, fun sv H7 s7 hsv => ?_⟩
    refine ⟨wt, sv, _, rfl, hsv, fun wgt H8 s8 hw1 hwB => ⟨two_line, fun tp htp => ?_⟩⟩
    have s58 := s6.trans (s7.trans s8)
    have gr8 := gr5.keep prow_st (s58.trans (same_new htp (.tup [.ref t, .int wgt])))
    obtain ⟨ss, vs, hvs, hrs⟩ := gr8
    refine ⟨D, _, _, rfl, rfl, hvs, sizes (by have := hrs.1; omega), ?_⟩
    refine ⟨some (.int (0 + (k : Int))), some (.ref ln), some (.ref rl2), ps ++ [(vec n x2, wgt)], rfl, Gr.push prow_st ss hD hvs hrs ⟨tp, t, rfl, upd_same, same_new htp _ _ _ ((s7.trans s8) _ _ upd_same), vec_len⟩, by rw [List.length_append, hlen]; rfl, PB.snoc (k := 0) hpb hw1 hwB (vec_mem hxb2)⟩
  · rintro σ H1 ⟨v8, v9, v10, ps, rfl, gr, hlen, hpb⟩
    obtain ⟨ss, vs, hvs, hrs⟩ := gr
    exact ⟨_, rfl, q D H1 ps ss ⟨vs, hvs, hrs⟩ ⟨by omega, hpb⟩⟩
end
end P12
namespace P12
open PySem PySem.Spec PyProof.Rows L2 SX EX WK
theorem B110 {x : Int} (h : -1000000000000000000000000000000000 < x ∧ x < 1000000000000000000000000000000000) : B 110 x := by
  show x.natAbs < 2 ^ 110
  omega
theorem p1030 : (10 : Int) ^ (30 : Int).toNat = 1000000000000000000000000000000 := by decide
section
variable {P : Program} {w : World} {K : PySem.W.Frag} {mg : Str → Option Value} {base : Heap} {f : Addr} {fd : FuncData} {cF cR : Addr}
def spDl (K : PySem.W.Frag) : Sp := fun vs H Q _ => ∃ (a : Addr) (ns : List Int), vs = [.ref a, .int 0, .int 30] ∧ SqL K H a (ns.map V.int) ∧ ∀ (r pl : Addr) (n : Nat) (ps : List RW) (b st wt : Int) H', Same H H' → H' r = some (.lst [.int n, .ref pl, .int b]) → PrsAt H' pl n ps → PB ps → n ≤ 10 → 1 ≤ b → B 110 b → Q (.ref r) H'
abbrev s__law_draw_list : Stmt := top 57
abbrev N__law_draw_list : List Str := ["script", "at", "most", "shape", "size", "many", "pairs"]
theorem sc__law_draw_list : FnScope N__law_draw_list ["script", "at", "most"] (defScope s__law_draw_list) := ⟨rfl, rfl, rfl, by decide +kernel, rfl, by decide +kernel, by decide +kernel⟩
theorem ok__law_draw_list (F : Fun K "_law_draw_list" "_law_draw_list" s__law_draw_list f fd) (T : Txt mg) (C__law_cell : Cal P w K mg base 1 "_law_cell" ["script", "k"] (spCell K)) (C__law_digits : Cal P w K mg base 1 "_law_digits" ["cell", "sizes"] (spDigits K)) (C__law_draw_pairs : Cal P w K mg base 3 "_law_draw_pairs" ["script", "at", "size", "many", "style", "weights", "twin"] (spDps K)) : FnOk P w K mg base CX0 4 f fd ["script", "at", "most"] (spDl K) := by
  refine F.ok sc__law_draw_list (fun vs H Q E h => ?_) (fun cdv A outer s H vs Q E hr h => ?_)
  · obtain ⟨a, ns, rfl, _⟩ := h
    rfl
  obtain ⟨a, ns, rfl, ha, q⟩ := h
  refine ⟨_, (pss_cons (ps_set (i := 3) sc__law_draw_list.nd rfl (Or.inl rfl) (pe_cal C__law_digits (hr.mono (by omega)) rfl (pa_cons (pe_cal C__law_cell (hr.mono (by omega)) rfl (pa_cons (pv 0) (pa_cons (pv 1) pa_nil))) (pa_cons (pe_lst (pa_cons pe_int (pa_cons pe_int (pa_cons pe_int (pa_cons pe_int (pa_cons pe_int (pa_cons pe_int (pa_cons (pe_op op_pow pe_int pe_int) pa_nil)))))))) pa_nil))))
  (pss_cons (ps_set (i := 4) sc__law_draw_list.nd rfl (Or.inl rfl) (pe_ix ix_list (pe_lst (pa_cons pe_int (pa_cons pe_int (pa_cons pe_int (pa_cons pe_int (pa_cons pe_int (pa_cons pe_int (pa_cons pe_int (pa_cons pe_int (pa_cons pe_int (pa_cons pe_int (pa_cons pe_int (pa_cons pe_int (pa_cons pe_int (pa_cons pe_int (pa_cons pe_int (pa_cons pe_int (pa_cons pe_int (pa_cons pe_int (pa_cons pe_int (pa_cons pe_int (pa_cons pe_int (pa_cons pe_int (pa_cons pe_int (pa_cons pe_int pa_nil))))))))))))))))))))))))) (pe_ix ix_list (pv 3) pe_int (fun _ _ => rfl)) (fun _ _ => rfl)))
  (pss_cons (ps_set (i := 5) sc__law_draw_list.nd rfl (Or.inl rfl) (pe_ix ix_list (pe_lst (pa_cons pe_int (pa_cons pe_int (pa_cons pe_int (pa_cons pe_int (pa_cons pe_int (pa_cons pe_int (pa_cons pe_int (pa_cons pe_int (pa_cons pe_int (pa_cons pe_int (pa_cons pe_int (pa_cons pe_int (pa_cons pe_int (pa_cons pe_int (pa_cons pe_int (pa_cons pe_int pa_nil))))))))))))))))) (pe_ix ix_list (pv 3) pe_int (fun _ _ => rfl)) (fun _ _ => rfl)))
  (pss_cons (ps_set (i := 6) sc__law_draw_list.nd rfl (Or.inl rfl) (pe_cal C__law_draw_pairs (hr.mono (by omega)) rfl (pa_cons (pv 0) (pa_cons (pe_op op_add (pv 1) pe_int) (pa_cons (pv 4) (pa_cons (pe_callB (call_min2 rfl) (by rfl) T.b_min (by decide +kernel) (pa_cons (pv 5) (pa_cons (pv 2) pa_nil))) (pa_cons (pe_ix ix_list (pv 3) pe_int (fun _ _ => rfl)) (pa_cons (pe_ix ix_list (pv 3) pe_int (fun _ _ => rfl)) (pa_cons (pe_ix ix_list (pv 3) pe_int (fun _ _ => rfl)) pa_nil)))))))))
  (pss_one (ps_ret (pe_lst (pa_cons (pv 4) (pa_cons (pv 6) (pa_cons (pe_ix ix_list (pe_lst (pa_cons pe_int (pa_cons pe_int (pa_cons pe_int (pa_cons pe_int (pa_cons pe_int (pa_cons pe_int (pa_cons pe_int (pa_cons pe_int (pa_cons (pe_op op_add pe_int (pe_ix ix_list (pv 3) pe_int (fun _ _ => rfl))) (pa_cons (pe_op op_add (pe_op op_pow pe_int pe_int) pe_int) pa_nil))))))))))) (pe_ix ix_list (pv 3) pe_int (fun _ _ => rfl)) (fun _ _ => rfl)) pa_nil)))))))))), ?_⟩
  refine ⟨_, rfl, _, rfl, a, ns, 0, rfl, ha, by decide, by decide, fun c => ⟨_, _, rfl, rfl, ⟨by decide, by decide, by decide⟩, line_ge (by show 7 ≤ 100000; decide), fun l0 hl0 => ?_⟩⟩
  refine ⟨c, l0, [24, 16, 12, 8, 10, 6, 100000000], rfl, SqL.of (by rw [upd_same]; rfl), by decide, szs (by decide), fun p ds hp hd => ?_⟩
  obtain ⟨d0, e0, a0, b0⟩ := dg (i := 0) hd rfl
  obtain ⟨d1, e1, a1, b1⟩ := dg (i := 1) hd rfl
  obtain ⟨d2, e2, a2, b2⟩ := dg (i := 2) hd rfl
  obtain ⟨d3, e3, a3, b3⟩ := dg (i := 3) hd rfl
  obtain ⟨d4, e4, a4, b4⟩ := dg (i := 4) hd rfl
  obtain ⟨d5, e5, a5, b5⟩ := dg (i := 5) hd rfl
  obtain ⟨d6, e6, a6, b6⟩ := dg (i := 6) hd rfl
  show tSeq _ _ _ _ (upd (upd H l0 (.lst [V.int 24, V.int 16, V.int 12, V.int 8, V.int 10, V.int 6, V.int 100000000])) p (.lst (ds.map V.int)))
  have h1 : (upd (upd H l0 (.lst [V.int 24, V.int 16, V.int 12, V.int 8, V.int 10, V.int 6, V.int 100000000])) p (.lst (ds.map V.int))) p = some (.lst (ds.map V.int)) := upd_same
  have s1 := (same_new hl0 (.lst [V.int 24, V.int 16, V.int 12, V.int 8, V.int 10, V.int 6, V.int 100000000])).trans (same_new (show (upd H l0 (.lst [V.int 24, V.int 16, V.int 12, V.int 8, V.int 10, V.int 6, V.int 100000000])) p = none from hp) (.lst (ds.map V.int)))
  generalize upd (upd H l0 (.lst [V.int 24, V.int 16, V.int 12, V.int 8, V.int 10, V.int 6, V.int 100000000])) p (.lst (ds.map V.int)) = H1 at h1 s1
  -- size
  refine ⟨line_ge (by show 24 ≤ 100000; decide), fun l1 hl1 => ⟨_, rfl, p, _, 0, _, rfl, rfl, SqL.of (same_new hl1 _ _ _ h1), at_pos (by decide) e0, ?_⟩⟩
  obtain ⟨y1, m1, k1⟩ := pick (cs := [2, 3, 2, 3, 1, 2, 3, 4, 2, 3, 1, 4, 3, 2, 5, 0, 2, 3, 4, 8, 6, 7, 9, 10]) a0 b0
  have hb1 : ∀ x ∈ ([2, 3, 2, 3, 1, 2, 3, 4, 2, 3, 1, 4, 3, 2, 5, 0, 2, 3, 4, 8, 6, 7, 9, 10] : List Int), 0 ≤ x ∧ x ≤ 10 := by decide
  have hy1 := hb1 y1 m1
  obtain ⟨n, hn⟩ : ∃ n : Nat, y1 = (n : Int) := ⟨y1.toNat, by omega⟩
  subst hn
  refine ⟨l1, _, _, _, rfl, rfl, SqL.of upd_same, at_pos a0 k1, ?_⟩
  have s2 := s1.trans (same_new hl1 (.lst ([2, 3, 2, 3, 1, 2, 3, 4, 2, 3, 1, 4, 3, 2, 5, 0, 2, 3, 4, 8, 6, 7, 9, 10].map V.int)))
  have h2 : (upd H1 l1 (.lst ([2, 3, 2, 3, 1, 2, 3, 4, 2, 3, 1, 4, 3, 2, 5, 0, 2, 3, 4, 8, 6, 7, 9, 10].map V.int))) p = _ := same_new hl1 _ _ _ h1
  show tSeq _ _ _ _ (upd H1 l1 (.lst ([2, 3, 2, 3, 1, 2, 3, 4, 2, 3, 1, 4, 3, 2, 5, 0, 2, 3, 4, 8, 6, 7, 9, 10].map V.int)))
  generalize upd H1 l1 (.lst ([2, 3, 2, 3, 1, 2, 3, 4, 2, 3, 1, 4, 3, 2, 5, 0, 2, 3, 4, 8, 6, 7, 9, 10].map V.int)) = H2 at s2 h2
  -- many
  refine ⟨line_ge (by show 16 ≤ 100000; decide), fun l2 hl2 => ⟨_, rfl, p, _, 1, _, rfl, rfl, SqL.of (same_new hl2 _ _ _ h2), at_pos (by decide) e1, ?_⟩⟩
  obtain ⟨y2, m2, k2⟩ := pick (cs := [3, 4, 5, 6, 2, 8, 10, 1, 4, 7, 5, 0, 9, 3, 16, 60]) a1 b1
  have hb2 : ∀ x ∈ ([3, 4, 5, 6, 2, 8, 10, 1, 4, 7, 5, 0, 9, 3, 16, 60] : List Int), 0 ≤ x ∧ x ≤ 60 := by decide
  have hy2 := hb2 y2 m2
  refine ⟨l2, _, _, _, rfl, rfl, SqL.of upd_same, at_pos a1 k2, ?_⟩
  have s3 := s2.trans (same_new hl2 (.lst ([3, 4, 5, 6, 2, 8, 10, 1, 4, 7, 5, 0, 9, 3, 16, 60].map V.int)))
  have h3 : (upd H2 l2 (.lst ([3, 4, 5, 6, 2, 8, 10, 1, 4, 7, 5, 0, 9, 3, 16, 60].map V.int))) p = _ := same_new hl2 _ _ _ h2
  show tSeq _ _ _ _ (upd H2 l2 (.lst ([3, 4, 5, 6, 2, 8, 10, 1, 4, 7, 5, 0, 9, 3, 16, 60].map V.int)))
  generalize upd H2 l2 (.lst ([3, 4, 5, 6, 2, 8, 10, 1, 4, 7, 5, 0, 9, 3, 16, 60].map V.int)) = H3 at s3 h3
  -- pairs
  have hp3 := SqL.of (K := K) h3
  refine ⟨_, rfl, _, rfl, _, _, rfl, rfl, _, rfl, _, rfl, _, rfl, _, _, rfl, _, rfl, p, _, 2, _, rfl, rfl, hp3, at_pos (by decide) e2, _, rfl, p, _, 3, _, rfl, rfl, hp3, at_pos (by decide) e3, _, rfl, p, _, 5, _, rfl, rfl, hp3, at_pos (by decide) e5, ?_⟩
  refine ⟨a, ns, _, _, _, _, _, n, rfl, s3.seq ha, by decide, by decide, by split <;> omega, by split <;> omega, by omega, fun pl H4 ps s4 hps hpb => ?_⟩
  have h4 := s4 _ _ h3
  have hp4 := SqL.of (K := K) h4
  refine ⟨_, rfl, _, rfl, _, rfl, p, _, 6, _, rfl, rfl, hp4, at_pos (by decide) e6, _, _, rfl, rfl, _, _, rfl, rfl, ⟨by decide, by decide, by decide⟩, _, _, rfl, rfl, line_ge (by show 10 ≤ 100000; decide), fun l5 hl5 => ?_⟩
  obtain ⟨b, hb, kb⟩ := pick (cs := [1, 1, 2, 3, 6, 12, 7, 1000, 1 + d6, 10 ^ (30 : Int).toNat + 57]) a4 b4
  have hbb : 1 ≤ b ∧ B 110 b := by
    rw [p1030] at hb
    simp only [List.mem_cons, List.not_mem_nil, or_false] at hb
    rcases hb with rfl | rfl | rfl | rfl | rfl | rfl | rfl | rfl | rfl | rfl <;> exact ⟨by omega, B110 (by omega)⟩
  have s5 := fun o => same_new (H := H4) hl5 o
  refine ⟨_, rfl, p, _, 4, _, rfl, rfl, SqL.of (s5 _ _ _ h4), at_pos (by decide) e4, l5, _, _, _, rfl, rfl, SqL.of upd_same, at_pos a4 kb, three_line, fun r hr' => ?_⟩
  exact q r pl n ps b d2 d3 _ (s3.trans (s4.trans ((s5 _).trans (same_new hr' _)))) upd_same (hps.same ((s5 _).trans (same_new hr' _))) hpb (by omega) hbb.1 hbb.2
end
end P12
namespace P12
open PySem PySem.Spec PyProof.Rows L2 SX EX WK
/-- the errors of the text -/
structure Err (K : PySem.W.Frag) (mg : Str → Option Value) (cS cC fS c1 c2 c3 : Addr) : Prop where
  g_SizesDiffer : mg "SizesDiffer" = some (.ref cS)
  g_CableError : mg "CableError" = some (.ref cC)
  g_BelowZero : mg "BelowZero" = some (.ref c1)
  g_CountsDiffer : mg "CountsDiffer" = some (.ref c2)
  g_NoSolution : mg "NoSolution" = some (.ref c3)
  o_SizesDiffer : OexC K cS
  i_SizesDiffer : PySem.W.findIn K (.ref cS) "__init__" = some (some (.ref fS))
  t_SizesDiffer : PySem.W.typeIn K (.ref fS) = some (.type "function")
  x : XCls K cS
  no_SizesDiffer_one : PySem.W.findIn K (.ref cS) "one" = some none
  no_SizesDiffer_two : PySem.W.findIn K (.ref cS) "two" = some none
  eC : PySem.W.exmOne K (.ref cS) (.ref cC) = some true
  kS : PySem.W.kitOne K (.ref cS) (.ref cS) = some true
  kV : PySem.W.kitOne K (.ref cS) (.type "ValueError") = some true
  k1 : PySem.W.kitOne K (.ref cS) (.ref c1) = some false
  k2 : PySem.W.kitOne K (.ref cS) (.ref c2) = some false
  k3 : PySem.W.kitOne K (.ref cS) (.ref c3) = some false
theorem Err.x_SizesDiffer {K : PySem.W.Frag} {mg : Str → Option Value} {cS cC fS c1 c2 c3 : Addr} (U : Err K mg cS cC fS c1 c2 c3) : XfC K cS := U.x.xf
/-- the error of two sizes, and what stands behind it -/
def Shd (cS : Addr) (m n : Int) (H : Hp) (E : XK) : Prop := ∀ d H', Same H H' → H' d = some (.xd [("two", .int n), ("one", .int m)]) → E (.ref cS) (some d) H'
section
variable {P : Program} {w : World} {K : PySem.W.Frag} {mg : Str → Option Value} {base : Heap} {f : Addr} {fd : FuncData} {cF cR cS cC fS c1 c2 c3 : Addr} {fdS : FuncData}
def spInit (C : Addr) : Sp := fun vs H Q _ => ∃ (a : Addr) (v u : V), vs = [.ref a, v, u] ∧ H a = some (exo a C none) ∧ ∀ dx, H dx = none → dx ≠ a → Q .non (upd (upd (upd H dx (exd dx [("one", v)])) a (exo a C (some dx))) dx (exd dx [("two", u), ("one", v)]))
abbrev s_iSD : Stmt := mth 7 0
abbrev N_iSD : List Str := ["self", "one", "two"]
theorem sc_iSD : FnScope N_iSD ["self", "one", "two"] (defScope s_iSD) := ⟨rfl, rfl, rfl, by decide +kernel, rfl, by decide +kernel, by decide +kernel⟩
theorem ok_iSD (F : Fun K "__init__" "SizesDiffer.__init__" s_iSD f fd) (U : Err K mg cS cC fS c1 c2 c3) : FnOk P w K mg base CX0 1 f fd ["self", "one", "two"] (spInit cS) := by
  refine F.ok sc_iSD (fun vs H Q E h => ?_) (fun cdv A outer s H vs Q E hr h => ?_)
  · obtain ⟨a, v, u, rfl, _⟩ := h
    rfl
  obtain ⟨a, v, u, rfl, ha, q⟩ := h
  refine ⟨_, (pss_cons (ps_ost (pv 0) (pv 1)) (pss_one (ps_ost (pv 0) (pv 2)))), ?_⟩
  exact ⟨_, rfl, _, rfl, a, cS, rfl, U.o_SizesDiffer, U.no_SizesDiffer_one, .inl ⟨ha, fun dx hdx hne => ⟨_, rfl, _, rfl, a, cS, rfl, U.o_SizesDiffer, U.no_SizesDiffer_two, .inr ⟨dx, _, upd_same, by rw [upd_ne hne, upd_same], (by show 1 ≤ 900; decide), q dx hdx hne⟩⟩⟩⟩
/-- two forms of two sizes -/
def spSizeX (K : PySem.W.Frag) (cF cS : Addr) : Sp := fun vs H Q E => ∃ (p q : Addr) (n1 n2 : Nat) (m1 m2 : List (List Int)) (b1 b2 : Int), vs = [.ref p, .ref q] ∧ FormAt K H cF p n1 m1 b1 ∧ FormAt K H cF q n2 m2 b2 ∧ n1 ≠ n2 ∧ Shd cS n1 n2 H E
theorem okx_same_size (F : Fun K "same_size" "same_size" s_same_size f fd) (T : Txt mg) (O : Obs K cF cR) (U : Err K mg cS cC fS c1 c2 c3) (IN_SizesDiffer : FnOk P w K mg base CX0 1 fS fdS ["self", "one", "two"] (spInit cS)) (B_SizesDiffer : Binds K fdS ["self", "one", "two"] []) : FnOk P w K mg base (L2N.CX P w) 4 f fd ["one", "two"] (spSizeX K cF cS) := by
  refine okR F sc_same_size (fun vs H Q E h => ?_) (fun cdv A outer s H vs Q E hr h => ?_)
  · obtain ⟨p, r, n1, n2, m1, m2, b1, b2, rfl, _⟩ := h
    rfl
  obtain ⟨p, r, n1, n2, m1, m2, b1, b2, rfl, hp, hq, hne, q⟩ := h
  refine ⟨_, (pss_one (ps_if (pt_cmpR op_ne (pe_fld (pv 0) rfl) (pe_fld (pv 1) rfl) (nomark _)) (pss_one (L2N.ps_raise rfl (L2N.takes_of rfl rfl rfl rfl) (pmkI U.o_SizesDiffer U.i_SizesDiffer U.t_SizesDiffer IN_SizesDiffer (hr.mono (by omega)) B_SizesDiffer passN rfl U.g_SizesDiffer (pa_cons (pe_fld (pv 0) rfl) (pa_cons (pe_fld (pv 1) rfl) pa_nil))))) pss_nil)), ?_⟩
  obtain ⟨dx, e, h1, h2⟩ := hp
  obtain ⟨dx2, e2, h3, h4⟩ := hq
  refine ⟨_, rfl, p, cF, dx, _, _, rfl, h1, O.clF, O.F_size, lkFs _ _ _, _, rfl, r, cF, dx2, _, _, rfl, h3, O.clF, O.F_size, lkFs _ _ _, rfl, _, rfl, ifT (ne_T fun e => hne (Int.ofNat_inj.mp e)) ?_⟩
  refine ⟨_, rfl, p, cF, dx, _, _, rfl, h1, O.clF, O.F_size, lkFs _ _ _, _, rfl, r, cF, dx2, _, _, rfl, h3, O.clF, O.F_size, lkFs _ _ _, ?_⟩
  refine ⟨by show 2 ≤ 1000; decide, fun a ha => ?_⟩
  refine ⟨a, .int n1, .int n2, rfl, upd_same, fun d hd hda => ⟨rfl, d, [("two", .int n2), ("one", .int n1)], ?_, upd_same, ?_, ?_⟩⟩
  · rw [upd_ne (Ne.symm hda), upd_same]
  · have := hd
    rw [upd_ne hda] at this
    exact this
  · refine q d _ (fun b o e => ?_) upd_same
    have h1 : b ≠ a := fun z => by rw [z, ha] at e; cases e
    have h2 : b ≠ d := fun z => by
      have := hd
      rw [upd_ne hda] at this
      rw [z, this] at e
      cases e
    rw [upd_ne h2, del_ne h1, upd_ne h2, upd_ne h1, upd_ne h2, upd_ne h1]
    exact e
theorem okx_paired (F : Fun K "paired" "paired" s_paired f fd) (T : Txt mg) (C_same_size : CalX P w K mg base 4 "same_size" ["one", "two"] (spSizeX K cF cS)) (C_fraction : Cal P w K mg base 1 "fraction" ["top", "bottom"] spFraction) (C_dot : Cal P w K mg base 1 "dot" ["one", "two"] (spDot K)) :
    FnOk P w K mg base (L2N.CX P w) 5 f fd ["one", "two"] (spSizeX K cF cS) := by
  refine okR F sc_paired (fun vs H Q E h => ?_) (fun cdv A outer s H vs Q E hr h => ?_)
  · obtain ⟨p, r, n1, n2, m1, m2, b1, b2, rfl, _⟩ := h
    rfl
  obtain ⟨p, r, n1, n2, m1, m2, b1, b2, rfl, h⟩ := h
  refine ⟨_, (pss_cons (ps_expr (pe_calX C_same_size (hr.mono (by omega)) rfl (L2N.takes_of rfl rfl rfl rfl) (pa_cons (pv 0) (pa_cons (pv 1) pa_nil))))
  (pss_cons (ps_set (i := 2) sc_paired.nd rfl (Or.inl rfl) (pe_callB (cr_sum rfl) (by rfl) T.b_sum (by decide +kernel) (pa_cons (pe_lc (own := [("line", 3), ("other", 4)]) (tt := tYes) (by rfl) sc_paired.nd (RZ.pi_zipA (by rfl) T.b_zip (pa_cons (pe_fld (pv 0) rfl) (pa_cons (pe_fld (pv 1) rfl) pa_nil))) (blkOk_by (N := N_paired) (sc := defScope s_paired) (by decide +kernel)) (fun _ _ _ _ _ => (pg_tupK (K := K) (n := 2) rfl rfl (pgs_cons (pg_name (i := 3) sc_paired.nd rfl (Or.inl rfl)) (pgs_cons (pg_name (i := 4) sc_paired.nd rfl (Or.inl rfl)) pgs_nil)))) (fun _ _ _ _ _ => pts_nil) (fun _ _ _ _ _ => (pe_cal C_dot (hr.mono (by omega)) rfl (pa_cons (pv 3) (pa_cons (pv 4) pa_nil))))) pa_nil)))
  (pss_one (ps_ret (pe_cal C_fraction (hr.mono (by omega)) rfl (pa_cons (pv 2) (pa_cons (pe_op op_mulW (pe_fld (pv 0) rfl) (pe_fld (pv 1) rfl)) pa_nil))))))), ?_⟩
  exact ⟨_, rfl, _, rfl, p, r, n1, n2, m1, m2, b1, b2, rfl, h⟩
theorem okx_sandwich (F : Fun K "sandwich" "sandwich" s_sandwich f fd) (T : Txt mg) (C_same_size : CalX P w K mg base 4 "same_size" ["one", "two"] (spSizeX K cF cS)) (C_times_symmetric : Cal P w K mg base 2 "times_symmetric" ["one", "two"] (spTimes K)) (C_Form : CalK P w K mg base 4 "Form" cF 1 ["bottom"] (spForm K cF)) :
    FnOk P w K mg base (L2N.CX P w) 6 f fd ["outer", "inner"] (spSizeX K cF cS) := by
  refine okR F sc_sandwich (fun vs H Q E h => ?_) (fun cdv A outer s H vs Q E hr h => ?_)
  · obtain ⟨p, r, n1, n2, m1, m2, b1, b2, rfl, _⟩ := h
    rfl
  obtain ⟨p, r, n1, n2, m1, m2, b1, b2, rfl, h⟩ := h
  refine ⟨_, (pss_cons (ps_expr (pe_calX C_same_size (hr.mono (by omega)) rfl (L2N.takes_of rfl rfl rfl rfl) (pa_cons (pv 0) (pa_cons (pv 1) pa_nil))))
  (pss_cons (ps_set (i := 2) sc_sandwich.nd rfl (Or.inl rfl) (pe_cal C_times_symmetric (hr.mono (by omega)) rfl (pa_cons (pe_fld (pv 0) rfl) (pa_cons (pe_fld (pv 1) rfl) pa_nil))))
  (pss_one (ps_ret (pe_calK C_Form (hr.mono (by omega)) rfl (pa_cons (pe_cal C_times_symmetric (hr.mono (by omega)) rfl (pa_cons (pv 2) (pa_cons (pe_fld (pv 0) rfl) pa_nil))) pa_nil) (pk_cons (pe_op op_mulW (pe_op op_mulW (pe_fld (pv 0) rfl) (pe_fld (pv 0) rfl)) (pe_fld (pv 1) rfl)) pk_nil)))))), ?_⟩
  exact ⟨_, rfl, _, rfl, p, r, n1, n2, m1, m2, b1, b2, rfl, h⟩
def spRef (K : PySem.W.Frag) (cF : Addr) : Sp := fun vs H Q _ => ∃ (p q : Addr) (n1 n2 : Nat) (m1 m2 : List (List Int)) (b1 b2 : Int), vs = [.ref p, .ref q, .int n1, .int n2] ∧ FormAt K H cF p n1 m1 b1 ∧ FormAt K H cF q n2 m2 b2 ∧ n1 ≠ n2 ∧ ∀ H', Same H H' → Q (.bl true) H'
abbrev s__law_refused : Stmt := top 63
abbrev N__law_refused : List Str := ["one", "two", "first", "second", "turn", "refused", "e"]
theorem sc__law_refused : FnScope N__law_refused ["one", "two", "first", "second"] (defScope s__law_refused) := ⟨rfl, rfl, rfl, by decide +kernel, rfl, by decide +kernel, by decide +kernel⟩
theorem ok__law_refused (F : Fun K "_law_refused" "_law_refused" s__law_refused f fd) (T : Txt mg) (U : Err K mg cS cC fS c1 c2 c3) (C_paired : CalX P w K mg base 5 "paired" ["one", "two"] (spSizeX K cF cS)) (C_sandwich : CalX P w K mg base 6 "sandwich" ["outer", "inner"] (spSizeX K cF cS)) (CH__law_whole : CalH P w K mg base 1 "_law_whole" ["value"] spLaw_whole) :
    FnOk P w K mg base CX0 8 f fd ["one", "two", "first", "second"] (spRef K cF) := by
  refine F.ok sc__law_refused (fun vs H Q E h => ?_) (fun cdv A outer s H vs Q E hr h => ?_)
  · obtain ⟨p, r, n1, n2, m1, m2, b1, b2, rfl, _⟩ := h
    rfl
  obtain ⟨p, r, n1, n2, m1, m2, b1, b2, rfl, hp, hq, hne, q⟩ := h
  refine ⟨_, (pss_cons (ps_for PassesOwn.never rfl (pi_range1 (by rfl) T.b_range (pa_cons pe_int pa_nil)) (pg_name (i := 4) sc__law_refused.nd rfl (Or.inl rfl)) (pss_cons (ps_set (i := 5) sc__law_refused.nd rfl (Or.inl rfl) pe_bl)
  (pss_cons (L2N.ps_try_as (i := 6) rfl rfl sc__law_refused.nd rfl rfl ⟨rfl, by decide, Or.inl U.g_CableError⟩ takesN (fun W pn xe tk _ => (pss_one (ps_if (pt_cmpR op_eq (pv 4) pe_int (nomark _)) (pss_one (ps_expr (pe_calX C_paired (hr.mono (by omega)) rfl tk (pa_cons (pv 0) (pa_cons (pv 1) pa_nil))))) (pss_one (ps_expr (pe_calX C_sandwich (hr.mono (by omega)) rfl tk (pa_cons (pv 0) (pa_cons (pv 1) pa_nil)))))))) (fun a oe cls d pn hz hf => (pss_cons (ps_if (PW.pt (pw_or (pt_not (pt_val (pe_callB (call_isX (K := K) rfl hz.zc hf) (by rfl) T.b_isinstance (by decide +kernel) (pa_cons (pv 6) (pa_cons (pe_glob (v := .ref _) rfl U.g_SizesDiffer rfl) pa_nil))))) (pw_or (pt_not (pt_val (pe_callB (call_isX (K := K) rfl hz.zc hf) (by rfl) T.b_isinstance (by decide +kernel) (pa_cons (pv 6) (pa_cons (pe_bltn (v := .ty "ValueError") (by rfl) T.b_ValueError (by decide +kernel) rfl) pa_nil))))) (pw_or1 (pt_val (pe_callB (call_isX (K := K) rfl hz.zc hf) (by rfl) T.b_isinstance (by decide +kernel) (pa_cons (pv 6) (pa_cons (pe_glob (v := .ref _) rfl U.g_BelowZero rfl) pa_nil)))))))) (pss_one (ps_ret pe_bl)) pss_nil)
  (pss_cons (ps_if (PW.pt (pw_or (pt_val (pe_callB (call_isX (K := K) rfl hz.zc hf) (by rfl) T.b_isinstance (by decide +kernel) (pa_cons (pv 6) (pa_cons (pe_glob (v := .ref _) rfl U.g_CountsDiffer rfl) pa_nil)))) (pw_or1 (pt_val (pe_callB (call_isX (K := K) rfl hz.zc hf) (by rfl) T.b_isinstance (by decide +kernel) (pa_cons (pv 6) (pa_cons (pe_glob (v := .ref _) rfl U.g_NoSolution rfl) pa_nil))))))) (pss_one (ps_ret pe_bl)) pss_nil)
  (pss_cons (ps_if (PW.pt (pw_or (pt_not (pt_val (pe_calH CH__law_whole ((roomS hr).mono (by omega)) (hot_of hz hf) rfl (pa_cons (pe_xf U.x_SizesDiffer U.no_SizesDiffer_one hz.zc hf (pv 6)) pa_nil)))) (pw_or1 (pt_not (pt_val (pe_calH CH__law_whole ((roomS hr).mono (by omega)) (hot_of hz hf) rfl (pa_cons (pe_xf U.x_SizesDiffer U.no_SizesDiffer_two hz.zc hf (pv 6)) pa_nil))))))) (pss_one (ps_ret pe_bl)) pss_nil)
  (pss_one (ps_set (i := 5) sc__law_refused.nd rfl (Or.inl rfl) (pe_and (pe_cmpR op_eq (pe_xf U.x_SizesDiffer U.no_SizesDiffer_one hz.zc hf (pv 6)) (pv 2) (nomark _)) (pe_one (pe_cmpR op_eq (pe_xf U.x_SizesDiffer U.no_SizesDiffer_two hz.zc hf (pv 6)) (pv 3) (nomark _)))))))))))
  (pss_one (ps_if (pt_not (pt_val (pv 5))) (pss_one (ps_ret pe_bl)) pss_nil)))))
  (pss_one (ps_ret pe_bl))), ?_⟩
  refine ⟨2, rfl, by decide, by decide, for_range (lo := 0) (n := 2) (fun i σ H' => ∃ v4 v5 : Option V, σ = [some (.ref p), some (.ref r), some (.int n1), some (.int n2), v4, v5, none] ∧ Same H H') ⟨none, none, rfl, fun _ _ h => h⟩ ?_ ?_⟩
  · rintro i σ H1 hi ⟨v4, v5, rfl, s1⟩
    have fm : ∀ {p n m b}, FormAt K H cF p n m b → FormAt K H1 cF p n m b := fun h => h.at (fun o => s1 _ _) (WK.Same.tk s1)
    have suite : True := trivial
    refine ⟨_, rfl, rfl, _, rfl, ite2 (fun _ => ?_) (fun _ => ?_)⟩
    all_goals
      refine ⟨_, rfl, _, rfl, p, r, n1, n2, m1, m2, b1, b2, rfl, fm hp, fm hq, hne, fun d H4 g4 hd4 => ?_⟩
      refine ⟨true, U.eC, fun _ e _ => ?_, fun z => Bool.noConfusion z⟩
      refine ⟨_, rfl, cS, _, _, true, rfl, .own _, rfl, U.x, .inr ⟨d, _, rfl, hd4⟩, U.kS, _, rfl, ifF rfl ?_⟩
      refine ⟨_, rfl, cS, _, _, true, rfl, .ty _, rfl, U.x, .inr ⟨d, _, rfl, hd4⟩, U.kV, _, rfl, ifF rfl ?_⟩
      refine ⟨_, rfl, cS, _, _, false, rfl, .own _, rfl, U.x, .inr ⟨d, _, rfl, hd4⟩, U.k1, _, rfl, ifF rfl ?_⟩
      refine ⟨_, rfl, cS, _, _, false, rfl, .own _, rfl, U.x, .inr ⟨d, _, rfl, hd4⟩, U.k2, _, rfl, ifF rfl ?_⟩
      refine ⟨_, rfl, cS, _, _, false, rfl, .own _, rfl, U.x, .inr ⟨d, _, rfl, hd4⟩, U.k3, _, rfl, ifF rfl ?_⟩
      refine ⟨_, rfl, rfl, rfl, d, _, .int n1, rfl, hd4, by rw [lk_skip (by decide +kernel), lk_hit], (n1 : Int), rfl, true, rfl, ifF rfl ?_⟩
      refine ⟨_, rfl, rfl, rfl, d, _, .int n2, rfl, hd4, lk_hit, (n2 : Int), rfl, true, rfl, ifF rfl ?_⟩
      refine ⟨_, rfl, rfl, rfl, d, _, .int n1, rfl, hd4, by rw [lk_skip (by decide +kernel), lk_hit], _, rfl, rfl, _, rfl, ifT (int_eq rfl) ?_⟩
      refine ⟨_, rfl, rfl, rfl, d, _, .int n2, rfl, hd4, lk_hit, _, rfl, rfl, ?_⟩
      refine ⟨_, rfl, _, rfl, ifF (by rw [int_eq rfl]; rfl) ?_⟩
      exact ⟨_, _, rfl, s1.trans g4⟩
  · rintro σ H1 ⟨v4, v5, rfl, s1⟩
    exact q H1 s1
end
end P12
/-! The identities of paired sums. -/
namespace P12
open PySem PySem.Spec PyProof.Rows L2 SX EX WK
theorem m4 (a b c d : Int) : a * b * (c * d) = a * c * (b * d) := by rw [Int.mul_assoc, Int.mul_left_comm b c d, ← Int.mul_assoc]
theorem S_mul (c : Int) (n : Nat) (f : Nat → Int) : S n (fun i => c * f i) = c * S n f := Ls_mul c _ f
theorem S_mulr (c : Int) (n : Nat) (f : Nat → Int) : S n (fun i => f i * c) = S n f * c := Ls_mulr c _ f
theorem prd_is {n : Nat} {f g T M : Nat → Nat → Int} {b c U D : Int} (h1 : Is n f b T U) (h2 : Is n g c M D) : prd n f g * (U * D) = prd n T M * (b * c) := by
  unfold prd
  rw [← S_mulr, ← S_mulr]
  refine S_congr fun i hi => ?_
  show S n (fun j => f i j * g i j) * (U * D) = S n (fun j => T i j * M i j) * (b * c)
  rw [← S_mulr, ← S_mulr]
  refine S_congr fun j hj => ?_
  show f i j * g i j * (U * D) = T i j * M i j * (b * c)
  rw [m4, m4 (T i j), h1 i j hi hj, h2 i j hi hj]
theorem prd_comm (n : Nat) (f g : Nat → Nat → Int) : prd n f g = prd n g f := S_congr2 fun i j _ _ => Int.mul_comm _ _
theorem prd_wtd (n : Nat) (ps : List RW) (T : Nat → Nat → Int) : prd n (wsum ps) T = wtd n T ps := by
  have e1 : prd n (wsum ps) T = S n fun i => S n fun j => Ls ps fun p => p.2 * p.1.getD i 0 * p.1.getD j 0 * T i j := by
    refine S_congr2 fun i j _ _ => ?_
    exact (Ls_mulr (T i j) ps fun p => p.2 * p.1.getD i 0 * p.1.getD j 0).symm
  have e2 : (S n fun i => S n fun j => Ls ps fun p => p.2 * p.1.getD i 0 * p.1.getD j 0 * T i j) = S n fun i => Ls ps fun p => S n fun j => p.2 * p.1.getD i 0 * p.1.getD j 0 * T i j :=
    S_congr fun i _ => Ls_swap (List.range n) ps fun j p => p.2 * p.1.getD i 0 * p.1.getD j 0 * T i j
  rw [e1, e2]
  refine (Ls_swap (List.range n) ps fun i p => S n fun j => p.2 * p.1.getD i 0 * p.1.getD j 0 * T i j).trans (Ls_congr fun p _ => ?_)
  show (S n fun i => S n fun j => p.2 * p.1.getD i 0 * p.1.getD j 0 * T i j) = p.2 * bil n T (fun i => p.1.getD i 0) (fun i => p.1.getD i 0)
  unfold bil
  rw [← S_mul]
  refine S_congr fun i _ => ?_
  show (S n fun j => p.2 * p.1.getD i 0 * p.1.getD j 0 * T i j) = p.2 * (p.1.getD i 0 * S n fun j => T i j * p.1.getD j 0)
  rw [← Int.mul_assoc, ← S_mul]
  refine S_congr fun j _ => ?_
  rw [Int.mul_assoc _ (p.1.getD j 0), Int.mul_comm (p.1.getD j 0)]
theorem prd_crs (n : Nat) (ps os : List RW) : prd n (wsum ps) (wsum os) = crs n ps os := by
  rw [prd_wtd]
  refine Ls_congr fun p _ => ?_
  show p.2 * bil n (wsum os) (fun i => p.1.getD i 0) (fun i => p.1.getD i 0) = p.2 * Ls os fun o => o.2 * (S n fun i => p.1.getD i 0 * o.1.getD i 0) ^ 2
  congr 1
  have e1 : bil n (wsum os) (fun i => p.1.getD i 0) (fun i => p.1.getD i 0) = prd n (wsum os) fun i j => p.1.getD i 0 * p.1.getD j 0 := by
    refine S_congr fun i _ => ?_
    show p.1.getD i 0 * S n (fun j => wsum os i j * p.1.getD j 0) = S n fun j => wsum os i j * (p.1.getD i 0 * p.1.getD j 0)
    rw [← S_mul]
    exact S_congr fun j _ => Int.mul_left_comm _ _ _
  rw [e1, prd_wtd]
  refine Ls_congr fun o _ => ?_
  show o.2 * bil n (fun i j => p.1.getD i 0 * p.1.getD j 0) (fun i => o.1.getD i 0) (fun i => o.1.getD i 0) = o.2 * _
  congr 1
  have e2 : bil n (fun i j => p.1.getD i 0 * p.1.getD j 0) (fun i => o.1.getD i 0) (fun i => o.1.getD i 0) = S n fun i => p.1.getD i 0 * o.1.getD i 0 * S n fun j => p.1.getD j 0 * o.1.getD j 0 := by
    refine S_congr fun i _ => ?_
    show o.1.getD i 0 * S n (fun j => p.1.getD i 0 * p.1.getD j 0 * o.1.getD j 0) = _
    have e3 : S n (fun j => p.1.getD i 0 * p.1.getD j 0 * o.1.getD j 0) = p.1.getD i 0 * S n fun j => p.1.getD j 0 * o.1.getD j 0 := by
      rw [← S_mul]
      exact S_congr fun j _ => Int.mul_assoc _ _ _
    rw [e3, ← Int.mul_assoc, Int.mul_comm (o.1.getD i 0)]
  rw [e2, S_mulr, show (2 : Nat) = 1 + 1 from rfl, Int.pow_succ, Int.pow_succ, Int.pow_zero, Int.one_mul]
theorem sq_nn (x : Int) : 0 ≤ x ^ 2 := by
  rw [show (2 : Nat) = 1 + 1 from rfl, Int.pow_succ, Int.pow_succ, Int.pow_zero, Int.one_mul]
  rcases Int.le_total 0 x with h | h
  · exact Int.mul_nonneg h h
  · exact Int.mul_nonneg_of_nonpos_of_nonpos h h
theorem Ls_nn {α : Type} {l : List α} {f : α → Int} (h : ∀ a ∈ l, 0 ≤ f a) : 0 ≤ Ls l f := by
  induction l with
  | nil => exact Int.le_refl _
  | cons a l ih =>
    rw [Ls_cons]
    have h1 := h a List.mem_cons_self
    have h2 := ih fun b hb => h b (List.mem_cons_of_mem _ hb)
    omega
theorem crs_nn {n : Nat} {ps os : List RW} (h1 : ∀ p ∈ ps, 1 ≤ p.2) (h2 : ∀ p ∈ os, 1 ≤ p.2) : 0 ≤ crs n ps os :=
  Ls_nn fun p hp => Int.mul_nonneg (by have := h1 p hp; omega) (Ls_nn fun o ho => Int.mul_nonneg (by have := h2 o ho; omega) (sq_nn _))
theorem half_is {n : Nat} {f g T M : Nat → Nat → Int} {b c U D : Int} (h1 : Is n f b T U) (h2 : Is n g c M D) : Is n (half n f g) (b * c) (half n T M) (U * D) := fun i j hi hj => by
  unfold half
  rw [← S_mulr, ← S_mulr]
  refine S_congr fun k hk => ?_
  show f i k * g j k * (U * D) = T i k * M j k * (b * c)
  rw [m4, m4 (T i k), h1 i k hi hk, h2 j k hj hk]
theorem sand_is {n : Nat} {f g T M : Nat → Nat → Int} {b c U D : Int} (h1 : Is n f b T U) (h2 : Is n g c M D) : ∀ i j, i < n → j < n → sand n f g i j * (U * U * D) = sand n T M i j * (b * b * c) := fun i j hi hj => by
  have h := half_is (half_is h1 h2) h1 i j hi hj
  have e1 : U * D * U = U * U * D := Int.mul_right_comm _ _ _
  have e2 : b * c * b = b * b * c := Int.mul_right_comm _ _ _
  rw [e1, e2] at h
  exact h
theorem bil_is {n : Nat} {f T : Nat → Nat → Int} {b U : Int} (h : Is n f b T U) (x y : Nat → Int) : bil n f x y * U = bil n T x y * b := by
  unfold bil
  rw [← S_mulr, ← S_mulr]
  refine S_congr fun i hi => ?_
  show x i * S n (fun j => f i j * y j) * U = x i * S n (fun j => T i j * y j) * b
  rw [Int.mul_assoc, Int.mul_assoc, ← S_mulr, ← S_mulr]
  congr 1
  refine S_congr fun j hj => ?_
  show f i j * y j * U = T i j * y j * b
  rw [Int.mul_right_comm, h i j hi hj, Int.mul_right_comm]
/-- a table times a point -/
def tur (n : Nat) (T : Nat → Nat → Int) (x : Nat → Int) : Nat → Int := fun k => S n fun j => T k j * x j
theorem bil_sand {n : Nat} {T M : Nat → Nat → Int} {x : Nat → Int} (hs : ∀ i j, i < n → j < n → T i j = T j i) : bil n (sand n T M) x x = bil n M (tur n T x) (tur n T x) := by
  -- all four sums
  have e1 : bil n (sand n T M) x x = S n fun i => S n fun j => S n fun k => S n fun l => x i * T i l * (M k l * (T j k * x j)) := by
    refine S_congr fun i _ => ?_
    show x i * S n (fun j => sand n T M i j * x j) = _
    rw [← S_mul]
    refine S_congr fun j _ => ?_
    show x i * (sand n T M i j * x j) = S n fun k => S n fun l => x i * T i l * (M k l * (T j k * x j))
    unfold sand half
    rw [← S_mulr, ← S_mul]
    refine S_congr fun k _ => ?_
    show x i * (S n (fun l => T i l * M k l) * T j k * x j) = S n fun l => x i * T i l * (M k l * (T j k * x j))
    rw [Int.mul_assoc, ← S_mulr, ← S_mul]
    refine S_congr fun l _ => ?_
    show x i * (T i l * M k l * (T j k * x j)) = x i * T i l * (M k l * (T j k * x j))
    rw [Int.mul_assoc, Int.mul_assoc]
  have e2 : bil n M (tur n T x) (tur n T x) = S n fun k => S n fun l => S n fun j => S n fun i => x i * T i l * (M k l * (T j k * x j)) := by
    refine S_congr fun k hk => ?_
    show tur n T x k * S n (fun l => M k l * tur n T x l) = _
    rw [← S_mul]
    refine S_congr fun l hl => ?_
    show tur n T x k * (M k l * tur n T x l) = S n fun j => S n fun i => x i * T i l * (M k l * (T j k * x j))
    unfold tur
    rw [← S_mulr]
    refine S_congr fun j hj => ?_
    show T k j * x j * (M k l * S n fun j => T l j * x j) = S n fun i => x i * T i l * (M k l * (T j k * x j))
    rw [← Int.mul_assoc, ← S_mul]
    refine S_congr fun i hi => ?_
    show T k j * x j * M k l * (T l i * x i) = x i * T i l * (M k l * (T j k * x j))
    rw [hs k j hk hj, hs l i hl hi, Int.mul_comm (T j k * x j) (M k l), Int.mul_comm, Int.mul_comm (T i l)]
  rw [e1, e2]
  -- i, j, k, l into k, l, j, i
  have a1 : (S n fun i => S n fun j => S n fun k => S n fun l => x i * T i l * (M k l * (T j k * x j))) = S n fun i => S n fun k => S n fun l => S n fun j => x i * T i l * (M k l * (T j k * x j)) := by
    refine S_congr fun i _ => ?_
    refine (Ls_swap (List.range n) (List.range n) fun j k => S n fun l => x i * T i l * (M k l * (T j k * x j))).trans (S_congr fun k _ => ?_)
    exact Ls_swap (List.range n) (List.range n) fun j l => x i * T i l * (M k l * (T j k * x j))
  rw [a1]
  refine (Ls_swap (List.range n) (List.range n) fun i k => S n fun l => S n fun j => x i * T i l * (M k l * (T j k * x j))).trans (S_congr fun k _ => ?_)
  refine (Ls_swap (List.range n) (List.range n) fun i l => S n fun j => x i * T i l * (M k l * (T j k * x j))).trans (S_congr fun l _ => ?_)
  exact Ls_swap (List.range n) (List.range n) fun i j => x i * T i l * (M k l * (T j k * x j))
/-- at and applied -/
theorem at_appl {n : Nat} {g1 g2 T M : Nat → Nat → Int} {b1 b2 U D e u v : Int} {x y : Nat → Int} (h1 : Is n g1 b1 T U) (h2 : Is n g2 b2 M D) (hb1 : 0 < b1) (hb2 : 0 < b2) (he : 0 < e) (hy : ∀ i, i < n → y i * (b1 * 1) = (S n fun j => g1 i j * x j) * e) (hu : u * (b2 * e * e) = bil n g2 y y * v) :
    u * (U * U * D) = bil n M (tur n T x) (tur n T x) * v := by
  have hyU : ∀ i, i < n → y i * U = tur n T x i * e := fun i hi => by
    have h := hy i hi
    rw [Int.mul_one] at h
    have k1 : (S n fun j => g1 i j * x j) * U = tur n T x i * b1 := by
      unfold tur
      rw [← S_mulr, ← S_mulr]
      refine S_congr fun j hj => ?_
      show g1 i j * x j * U = T i j * x j * b1
      rw [Int.mul_right_comm, h1 i j hi hj, Int.mul_right_comm]
    have k2 : b1 * (y i * U) = b1 * (tur n T x i * e) := by
      rw [← Int.mul_assoc, Int.mul_comm b1, h, Int.mul_right_comm, k1, Int.mul_comm b1, Int.mul_right_comm]
    exact Int.eq_of_mul_eq_mul_left (by omega) k2
  have kb : bil n g2 y y * (U * U * D) = bil n M (tur n T x) (tur n T x) * (b2 * e * e) := by
    unfold bil
    rw [← S_mulr, ← S_mulr]
    refine S_congr fun i hi => ?_
    show y i * S n (fun j => g2 i j * y j) * (U * U * D) = tur n T x i * S n (fun j => M i j * tur n T x j) * (b2 * e * e)
    have k3 : S n (fun j => g2 i j * y j) * (U * D) = S n (fun j => M i j * tur n T x j) * (b2 * e) := by
      rw [← S_mulr, ← S_mulr]
      refine S_congr fun j hj => ?_
      show g2 i j * y j * (U * D) = M i j * tur n T x j * (b2 * e)
      rw [Int.mul_comm U D, m4, h2 i j hi hj, hyU j hj, m4]
    have k4 : U * U * D = U * (U * D) := Int.mul_assoc _ _ _
    have k5 : b2 * e * e = e * (b2 * e) := Int.mul_comm _ _
    rw [k4, k5, m4, hyU i hi, k3, ← m4]
  have k : b2 * e * e * (u * (U * U * D)) = b2 * e * e * (bil n M (tur n T x) (tur n T x) * v) := by
    rw [← Int.mul_assoc, Int.mul_comm (b2 * e * e) u, hu, Int.mul_right_comm, kb, Int.mul_right_comm, Int.mul_comm (b2 * e * e)]
  have hp : 0 < b2 * e * e := Int.mul_pos (Int.mul_pos hb2 he) he
  exact Int.eq_of_mul_eq_mul_left (by omega) k
theorem Red.mono {n k l : Nat} {f : Nat → Nat → Int} {b : Int} (h : Red n f b k) (hl : k ≤ l) : Red n f b l := ⟨h.pos, h.bb.mono hl, fun i j hi hj => (h.fb i j hi hj).mono hl, h.sym, h.one⟩
/-- the form of a row list -/
theorem rows_form {n : Nat} {ps : List RW} {b : Int} (hb : 0 < b) (hB : B 320 b) (hP : PB ps) : ∃ f c, fmat n (dp ps (gf b (ws ps))) (b / gf b (ws ps)) = mat n f ∧ fbot n (dp ps (gf b (ws ps))) (b / gf b (ws ps)) = c ∧ Red n f c 320 ∧ Is n f c (wsum ps) b := by
  have hg := gf_pos hb (ws ps)
  have hd := gf_dvd (b := b) (ws ps)
  have h0 := quot_pos hg hd.1 (by omega)
  have hw : ∀ i j, wsum ps i j = gf b (ws ps) * wsum (dp ps (gf b (ws ps))) i j := fun i j => by
    show Ls ps (fun p => p.2 * p.1.getD i 0 * p.1.getD j 0) = gf b (ws ps) * ((dp ps (gf b (ws ps))).map fun p => p.2 * p.1.getD i 0 * p.1.getD j 0).sum
    unfold dp
    rw [List.map_map]
    show _ = gf b (ws ps) * Ls ps ((fun p => p.2 * p.1.getD i 0 * p.1.getD j 0) ∘ fun p => (p.1, p.2 / gf b (ws ps)))
    rw [← Ls_mul]
    refine Ls_congr fun p hp => ?_
    show p.2 * p.1.getD i 0 * p.1.getD j 0 = gf b (ws ps) * (p.2 / gf b (ws ps) * p.1.getD i 0 * p.1.getD j 0)
    have e := Int.mul_ediv_cancel' (hd.2 p.2 (List.mem_map.mpr ⟨p, hp, rfl⟩))
    rw [← Int.mul_assoc, ← Int.mul_assoc, e]
  have hBw : ∀ i j, B 320 (wsum (dp ps (gf b (ws ps))) i j) := fun i j => by
    show B 320 (((dp ps (gf b (ws ps))).map fun p => p.2 * p.1.getD i 0 * p.1.getD j 0).sum)
    have := BLs (k := 300) (c := 6) (l := dp ps (gf b (ws ps))) (f := fun p => p.2 * p.1.getD i 0 * p.1.getD j 0) (fun p hp => ?_) (by unfold dp; rw [List.length_map]; exact hP.1)
    · exact B.mono this (by decide)
    · obtain ⟨p0, h1, rfl⟩ := List.mem_map.mp hp
      exact B.mul (m := 200) (n := 100) (B.mul (m := 100) (n := 100) (B.div hg (hP.2 p0 h1).2.1) (hP.row h1 i)) (hP.row h1 j)
  have r := red_of (n := n) (k := 320) (T := wsum (dp ps (gf b (ws ps)))) (U := b / gf b (ws ps)) (by omega) (B.div hg hB) (fun i j _ _ => hBw i j) (fun i j _ _ => wsum_sym _ i j)
  refine ⟨_, _, ?_, rfl, r.1, r.2.of (by omega) fun i j _ _ => ?_⟩
  · exact dm_mat (n := n) (f := wsum (dp ps (gf b (ws ps))))
  · rw [hw i j]
    have e := Int.mul_ediv_cancel' hd.1
    generalize gf b (ws ps) = g at *
    generalize wsum (dp ps g) i j = q
    have e2 : q * b = q * (g * (b / g)) := by rw [e]
    rw [e2, Int.mul_left_comm, Int.mul_assoc]
end P12
namespace P12
open PySem PySem.Spec PyProof.Rows L2 SX EX WK
/-- a form at p, of T over U -/
structure FA (K : PySem.W.Frag) (H : Hp) (cF p : Addr) (n : Nat) (T : Nat → Nat → Int) (U : Int) (g : Nat → Nat → Int) (b : Int) : Prop where
  at_ : FormAt K H cF p n (mat n g) b
  red : Red n g b 320
  is : Is n g b T U
theorem FA.same {K : PySem.W.Frag} {H H' : Hp} {cF p : Addr} {n : Nat} {T g : Nat → Nat → Int} {U b : Int} (h : FA K H cF p n T U g b) (s : Same H H') : FA K H' cF p n T U g b := ⟨h.at_.at (fun o => s _ _) (WK.Same.tk s), h.red, h.is⟩
theorem sand_B {n k : Nat} {g1 g2 : Nat → Nat → Int} (hn : n ≤ 16) (h1 : ∀ i j, i < n → j < n → B k (g1 i j)) (h2 : ∀ i j, i < n → j < n → B k (g2 i j)) {i j : Nat} (hi : i < n) (hj : j < n) : B (k + k + 4 + k + 4) (sand n g1 g2 i j) :=
  half_B hn (fun i j hi hj => half_B hn h1 h2 hi hj) h1 hi hj
/-- what a sandwich is -/
theorem sand_fa {n : Nat} {g1 g2 T M : Nat → Nat → Int} {b1 b2 U D : Int} (hn : n ≤ 16) (r1 : Red n g1 b1 320) (r2 : Red n g2 b2 320) (i1 : Is n g1 b1 T U) (i2 : Is n g2 b2 M D) :
    Red n (fun i j => sand n g1 g2 i j / gf (b1 * b1 * b2) (mat n (sand n g1 g2)).flatten) (b1 * b1 * b2 / gf (b1 * b1 * b2) (mat n (sand n g1 g2)).flatten) 1000 ∧
    Is n (fun i j => sand n g1 g2 i j / gf (b1 * b1 * b2) (mat n (sand n g1 g2)).flatten) (b1 * b1 * b2 / gf (b1 * b1 * b2) (mat n (sand n g1 g2)).flatten) (sand n T M) (U * U * D) := by
  have hpos : 0 < b1 * b1 * b2 := Int.mul_pos (Int.mul_pos r1.pos r1.pos) r2.pos
  have hB : B 1000 (b1 * b1 * b2) := (B.mul (m := 640) (n := 320) (B.mul (m := 320) (n := 320) r1.bb r1.bb) r2.bb).mono (by decide)
  have r := red_of (n := n) (k := 1000) (T := sand n g1 g2) hpos hB (fun i j hi hj => (sand_B (k := 320) hn r1.fb r2.fb hi hj).mono (by decide)) (fun i j _ _ => sand_sym r2.sym i j)
  exact ⟨r.1, r.2.of hpos fun i j hi hj => sand_is i1 i2 i j hi hj⟩
theorem uu_B {U D : Int} (hU : B 320 U) (hD : B 320 D) : B 960 (U * U * D) := B.mul (m := 640) (n := 320) (B.mul (m := 320) (n := 320) hU hU) hD
theorem tur_B {n : Nat} {T : Nat → Nat → Int} {x : Nat → Int} (hn : n ≤ 16) (hT : ∀ i j, i < n → j < n → B 320 (T i j)) (hx : ∀ i, i < n → B 60 (x i)) {i : Nat} (hi : i < n) : B 384 (tur n T x i) := BS (k := 380) (c := 4) (fun j hj => B.mul (m := 320) (n := 60) (hT i j hi hj) (hx j hj)) hn
theorem quo_B {k : Nat} {t d : Int} (hd : 0 < d) (h : B k t) : B k (t / gI t d) := B.div (gI_pos' hd) h
section
variable {P : Program} {w : World} {K : PySem.W.Frag} {mg : Str → Option Value} {base : Heap} {f : Addr} {fd : FuncData} {cF cR : Addr}
def spPress (K : PySem.W.Frag) (cF : Addr) : Sp := fun vs H Q _ => ∃ (p t q m pt : Addr) (U D : Int) (n : Nat) (g1 g2 T M : Nat → Nat → Int) (b1 b2 : Int) (x : Nat → Int), vs = [.ref p, .ref t, .int U, .ref q, .ref m, .int D, .ref pt] ∧ FA K H cF p n T U g1 b1 ∧ LTab H t n T ∧ FA K H cF q n M D g2 b2 ∧ LTab H m n M ∧
  H pt = some (.lst ((vec n x).map V.int)) ∧ (∀ i, i < n → B 60 (x i)) ∧ (∀ i j, i < n → j < n → T i j = T j i) ∧ (∀ i j, i < n → j < n → B 320 (T i j)) ∧ (∀ i j, i < n → j < n → B 320 (M i j)) ∧ B 320 U ∧ B 320 D ∧ n ≤ 10 ∧ ∀ H', Same H H' → Q (.bl true) H'
abbrev s__law_pressed : Stmt := top 64
abbrev N__law_pressed : List Str := ["outer", "table", "under", "inner", "middle", "scale", "point", "size", "found", "turned", "due", "k"]
theorem sc__law_pressed : FnScope N__law_pressed ["outer", "table", "under", "inner", "middle", "scale", "point"] (defScope s__law_pressed) := ⟨rfl, rfl, rfl, by decide +kernel, rfl, by decide +kernel, by decide +kernel⟩
theorem ok__law_pressed (F : Fun K "_law_pressed" "_law_pressed" s__law_pressed f fd) (T : Txt mg) (O : Obs K cF cR) (C_sandwich : Cal P w K mg base 6 "sandwich" ["outer", "inner"] (spSand K cF)) (C__law_value : Cal P w K mg base 2 "_law_value" ["table", "one", "two"] (spValue K)) (C__law_stands : Cal P w K mg base 3 "_law_stands" ["value", "top", "under"] spStands) (C__law_form_is : Cal P w K mg base 4 "_law_form_is" ["found", "table", "under"] (spFormIs K cF))
    (C__law_dot : Cal P w K mg base 1 "_law_dot" ["one", "two"] (spDot K)) (C__law_sandwich : Cal P w K mg base 2 "_law_sandwich" ["outer", "inner"] (spLSand K)) (C_mcall : CalI P w K mg base 3 cF ["self", "point"] (spCall K cF)) (C_mat : CalM P w K mg base 3 cF "at" ["self", "passed"] (spAt K cF)) (C_mapplied : CalM P w K mg base 3 cF "applied" ["self", "passed"] (spAppl K cF)) :
    FnOk P w K mg base CX0 7 f fd ["outer", "table", "under", "inner", "middle", "scale", "point"] (spPress K cF) := by
  refine F.ok sc__law_pressed (fun vs H Q E h => ?_) (fun cdv A outer s H vs Q E hr h => ?_)
  · obtain ⟨p, t, q, m, pt, U, D, n, g1, g2, T, M, b1, b2, x, rfl, _⟩ := h
    rfl
  obtain ⟨p, t, r, m, pt, U, D, n, g1, g2, X, M, b1, b2, x, rfl, hp, ht, hq, hm, hpt, bx, sy, bX, bM, bU, bD, hn, q⟩ := h
  refine ⟨_, (pss_cons (ps_set (i := 7) sc__law_pressed.nd rfl (Or.inl rfl) (pe_callB call_len_seq (by rfl) T.b_len PySem.boot_len (pa_cons (pv 1) pa_nil)))
  (pss_cons (ps_set (i := 8) sc__law_pressed.nd rfl (Or.inl rfl) (pe_cal C_sandwich (hr.mono (by omega)) rfl (pa_cons (pv 0) (pa_cons (pv 3) pa_nil))))
  (pss_cons (ps_if (pt_not (pt_val (pe_cal C__law_form_is (hr.mono (by omega)) rfl (pa_cons (pv 8) (pa_cons (pe_cal C__law_sandwich (hr.mono (by omega)) rfl (pa_cons (pv 1) (pa_cons (pv 4) pa_nil))) (pa_cons (pe_op op_mulW (pe_op op_mulW (pv 2) (pv 2)) (pv 5)) pa_nil)))))) (pss_one (ps_ret pe_bl)) pss_nil)
  (pss_cons (ps_if (pt_not (pt_val (pe_cal C__law_form_is (hr.mono (by omega)) rfl (pa_cons (pe_cal C_sandwich (hr.mono (by omega)) rfl (pa_cons (pv 3) (pa_cons (pv 0) pa_nil))) (pa_cons (pe_cal C__law_sandwich (hr.mono (by omega)) rfl (pa_cons (pv 4) (pa_cons (pv 1) pa_nil))) (pa_cons (pe_op op_mulW (pe_op op_mulW (pv 5) (pv 5)) (pv 2)) pa_nil)))))) (pss_one (ps_ret pe_bl)) pss_nil)
  (pss_cons (ps_setLc (i := 9) (own := [("k", 11)]) (g := gName 11) (tt := tYes) (by rfl) sc__law_pressed.nd rfl rfl (sw_true rfl rfl rfl (by decide +kernel)) (pi_range1 (by rfl) T.b_range (pa_cons (pv 7) pa_nil)) (blkOk_by (N := N__law_pressed) (sc := defScope s__law_pressed) (by decide +kernel)) (fun _ _ _ _ _ => (pg_name (i := 11) sc__law_pressed.nd rfl (Or.inl rfl))) (fun _ _ _ _ _ => pts_nil) (fun _ _ _ _ _ => (pe_cal C__law_dot (hr.mono (by omega)) rfl (pa_cons (pe_ix (ix_listK (K := K) rfl) (pv 1) (pv 11) (fun _ _ => rfl)) (pa_cons (pv 6) pa_nil)))))
  (pss_cons (ps_set (i := 10) sc__law_pressed.nd rfl (Or.inl rfl) (pe_cal C__law_value (hr.mono (by omega)) rfl (pa_cons (pv 4) (pa_cons (pv 9) (pa_cons (pv 9) pa_nil)))))
  (pss_cons (ps_if (pt_not (pt_val (pe_cal C__law_stands (hr.mono (by omega)) rfl (pa_cons (pe_calI C_mcall (i := 8) (hr.mono (by omega)) rfl (Or.inl rfl) (pa_cons (pe_callTy call_tuple_of (by rfl) T.b_tuple (by decide +kernel) (pa_cons (pv 6) pa_nil)) pa_nil)) (pa_cons (pv 10) (pa_cons (pe_op op_mulW (pe_op op_mulW (pv 2) (pv 2)) (pv 5)) pa_nil)))))) (pss_one (ps_ret pe_bl)) pss_nil)
  (pss_one (ps_ret (pe_cal C__law_stands (hr.mono (by omega)) rfl (pa_cons (pe_calM O.clF C_mat (hr.mono (by omega)) (pv 3) (pa_cons (pe_calM O.clF C_mapplied (hr.mono (by omega)) (pv 0) (pa_cons (pe_tup (pa_cons (pe_callTy call_list_of (by rfl) T.b_list (by decide +kernel) (pa_cons (pv 6) pa_nil)) (pa_cons pe_int pa_nil))) pa_nil)) pa_nil)) (pa_cons (pv 10) (pa_cons (pe_op op_mulW (pe_op op_mulW (pv 2) (pv 2)) (pv 5)) pa_nil))))))))))))), ?_⟩
  have hn16 : n ≤ 16 := by omega
  have r1 := hp.red
  have r2 := hq.red
  have sa := sand_fa hn16 r1 r2 hp.is hq.is
  have sb := sand_fa hn16 r2 r1 hq.is hp.is
  have e1 := fun (g : Nat → Nat → Int) (b : Int) (h : Red n g b 320) => (⟨h.bb.mono (n := 1000) (by decide), fun i j hi hj => (h.fb i j hi hj).mono (n := 1000) (by decide)⟩ : B 1000 b ∧ ∀ i j, i < n → j < n → B 1000 (g i j))
  obtain ⟨ws, ht1, htl, htr⟩ := ht.at
  refine ⟨_, rfl, _, _, rfl, .inl (SqL.of ht1), ?_⟩
  rw [htl]
  refine ⟨_, rfl, _, rfl, p, r, n, g1, g2, b1, b2, rfl, hp.at_, hq.at_, hn16, r1.pos, (e1 _ _ r1).1, r2.pos, (e1 _ _ r2).1, (e1 _ _ r1).2, (e1 _ _ r2).2, r2.sym, fun fo H1 s1 hfo => ?_⟩
  generalize hf : (fun i j => sand n g1 g2 i j / gf (b1 * b1 * b2) (mat n (sand n g1 g2)).flatten) = f1 at sa hfo
  generalize hc : b1 * b1 * b2 / gf (b1 * b1 * b2) (mat n (sand n g1 g2)).flatten = c1 at sa hfo
  have hm1 := hm.same s1
  have ht2 := ht.same s1
  -- the first form
  refine ⟨_, rfl, _, rfl, _, rfl, t, m, n, 320, 320, X, M, rfl, ht2, hm1, hn16, bX, bM, by decide, by decide, by decide, fun z H2 s2 hz => ?_⟩
  refine ⟨_, rfl, _, rfl, _, _, rfl, rfl, wmul bU bU (by decide) (by decide) (by decide), _, rfl, _, _, rfl, rfl, wmul (m := 640) (B.mul (m := 320) (n := 320) bU bU) bD (by decide) (by decide) (by decide), ?_⟩
  refine ⟨fo, z, n, f1, sand n X M, c1, U * U * D, rfl, hfo.at (fun o => s2 _ _) (WK.Same.tk s2), hz, by omega, sa.1.mono (by decide), sa.2, (uu_B bU bD).mono (by decide), fun i j hi hj => (sand_B (k := 320) hn16 bX bM hi hj).mono (by decide), fun H3 s3 => ⟨true, rfl, ifF rfl ?_⟩⟩
  have s13 := s1.trans (s2.trans s3)
  -- the second form
  have hp3 := hp.same s13
  have hq3 := hq.same s13
  refine ⟨_, rfl, _, rfl, r, p, n, g2, g1, b2, b1, rfl, hq3.at_, hp3.at_, hn16, r2.pos, (e1 _ _ r2).1, r1.pos, (e1 _ _ r1).1, (e1 _ _ r2).2, (e1 _ _ r1).2, r1.sym, fun fp H4 s4 hfp => ?_⟩
  have s14 := s13.trans s4
  refine ⟨_, rfl, _, rfl, m, t, n, 320, 320, M, X, rfl, hm.same s14, ht.same s14, hn16, bM, bX, by decide, by decide, by decide, fun z2 H5 s5 hz2 => ?_⟩
  refine ⟨_, rfl, _, rfl, _, _, rfl, rfl, wmul bD bD (by decide) (by decide) (by decide), _, rfl, _, _, rfl, rfl, wmul (m := 640) (B.mul (m := 320) (n := 320) bD bD) bU (by decide) (by decide) (by decide), ?_⟩
  refine ⟨fp, z2, n, _, sand n M X, _, D * D * U, rfl, hfp.at (fun o => s5 _ _) (WK.Same.tk s5), hz2, by omega, sb.1.mono (by decide), sb.2, (uu_B bD bU).mono (by decide), fun i j hi hj => (sand_B (k := 320) hn16 bM bX hi hj).mono (by decide), fun H6 s6 => ⟨true, rfl, ifF rfl ?_⟩⟩
  have s16 := s14.trans (s5.trans s6)
  -- turned
  refine ⟨_, rfl, (n : Int), rfl, by omega, by omega, fun Dt hDt => ?_⟩
  refine lc_m (walk_range (lo := 0) (n := n)) RI (stb_RI (K := K)) (List.range n) (by rw [List.length_range]) (by rw [List.length_range]; omega) hDt (fun _ _ => trivial) (fun _ _ _ _ => ys_fn) (fun k => tur n X x k) (fun c i v H7 H8 hc1 s7 s8 yl A B hA => ?_) (fun H7 l s7 hl7 rs => ?_)
  · obtain ⟨hi, rfl⟩ := in_range hc1
    rw [yl.2]
    have s18 := s16.trans s8
    obtain ⟨pr, hpr1, hpr2⟩ := htr i hi
    exact ⟨rfl, lc_yes ⟨_, rfl, _, rfl, t, _, _, _, rfl, rfl, SqL.of (s18 _ _ ht1), at_pos (by omega) (by rw [show (0 + (i : Int)).toNat = i by omega]; exact hpr1), _, rfl, _, _, n, 320, 60, X i, x, rfl, .lst (s18 _ _ hpr2) (FzAll.of_ints _).sn, .lst (s18 _ _ hpt) (FzAll.of_ints _).sn, by omega, fun j hj => bX i j hi hj, bx, by decide, by decide, by decide, fun H' s => hA _ _ s rfl⟩⟩
  have hDt2 : H7 Dt = some (.lst ((vec n (tur n X x)).map V.int)) := by rw [hl7, rs.ints]; rfl
  have s17 := s16.trans s7
  have bt : ∀ i, i < n → B 384 (tur n X x i) := fun i hi => tur_B hn16 bX bx hi
  have sn7 : Sn K H7 (.ref Dt) (tv n (tur n X x)) := .lst hDt2 (FzAll.of_ints _).sn
  refine ⟨_, rfl, _, rfl, _, rfl, m, _, _, n, 320, 384, 384, M, _, _, rfl, hm.same s17, sn7, sn7, hn16, bM, bt, bt, by decide, by decide, by decide, by decide, fun H8 s8 => ?_⟩
  have bdue : B 1096 (bil n M (tur n X x) (tur n X x)) := bil_B (k1 := 320) (k2 := 384) (k3 := 384) hn16 bM bt bt
  have s18 := s17.trans s8
  have hfo8 := hfo.at (H' := H8) (fun o e => s8 _ _ (s7 _ _ ((s5.trans s6) _ _ (s4 _ _ ((s2.trans s3) _ _ e))))) (WK.Same.tk ((s2.trans s3).trans (s4.trans ((s5.trans s6).trans (s7.trans s8)))))
  -- the value at the point
  obtain ⟨dx, ee, hins, hfz⟩ := id hfo8
  refine ⟨fo, dx, _, rfl, hins, _, rfl, pt, _, rfl, .inl ⟨SqL.of (s18 _ _ hpt), fun tp htp => ?_⟩⟩
  have s9 := same_new htp (.tup ((vec n x).map V.int))
  refine ⟨s9 _ _ hins, fo, _, n, f1, c1, x, rfl, hfo8.at (fun o => s9 _ _) (WK.Same.tk s9), .tup (SqT.of upd_same) (FzAll.of_ints _).sn, hn16, sa.1.pos, sa.1.bb.mono (by decide), fun i hi => (bx i hi).mono (by decide), fun i j hi hj => (sa.1.fb i j hi hj).mono (by decide), fun v1 H10 s10 hv1 => ?_⟩
  have bval : B 1128 (bil n f1 x x) := bil_B (k1 := 1000) (k2 := 60) (k3 := 60) hn16 sa.1.fb bx bx
  have kk := bil_is sa.2 x x
  rw [bil_sand sy] at kk
  refine ⟨_, rfl, _, rfl, _, rfl, _, _, rfl, rfl, wmul bU bU (by decide) (by decide) (by decide), _, rfl, _, _, rfl, rfl, wmul (m := 640) (P12.B.mul (m := 320) (n := 320) bU bU) bD (by decide) (by decide) (by decide), ?_⟩
  refine ⟨v1, _, _, _, _, rfl, hv1, quot_pos (gI_pos' sa.1.pos) gI_dvd2 (by have := sa.1.pos; omega), (P12.B.div (gI_pos' sa.1.pos) sa.1.bb).mono (by decide), gI_one sa.1.pos, (quo_B sa.1.pos bval).mono (by decide), bdue.mono (by decide), (uu_B bU bD).mono (by decide), cross2 (gI_pos' sa.1.pos) gI_dvd1 gI_dvd2 kk, true, rfl, ifF rfl ?_⟩
  have s110 := s18.trans (s9.trans s10)
  -- at of applied
  have hq10 := hq.same s110
  have hp10 := hp.same s110
  obtain ⟨dq, eq_, hqi, hqz⟩ := id hq10.at_
  obtain ⟨dp_, ep, hpi, hpz⟩ := id hp10.at_
  refine ⟨_, rfl, r, dq, _, rfl, hqi, lkFx _ _ _ (by decide +kernel) (by decide +kernel) (by decide +kernel), ?_⟩
  refine ⟨_, rfl, p, dp_, _, rfl, hpi, lkFx _ _ _ (by decide +kernel) (by decide +kernel) (by decide +kernel), ?_⟩
  refine ⟨_, rfl, pt, _, rfl, .inl (SqL.of (s110 _ _ hpt)), fun l2 hl2 => ⟨two_line, fun tq htq => ?_⟩⟩
  have s11 := (same_new hl2 (.lst ((vec n x).map V.int))).trans (same_new htq (.tup [.ref l2, .int 1]))
  refine ⟨p, tq, _, 1, n, g1, b1, x, rfl, upd_same, (hp10.same s11).at_, .lst (same_new htq _ _ _ upd_same) (FzAll.of_ints _).sn, hn16, r1.pos, r1.bb.mono (by decide), by decide, by decide, fun i hi => (bx i hi).mono (by decide), fun i j hi hj => (r1.fb i j hi hj).mono (by decide), fun w1 u1 e2 H12 y s12 hw1 hu1 he2 be2 by2 hy => ?_⟩
  have s112 := s110.trans (s11.trans s12)
  refine ⟨r, w1, _, e2, n, g2, b2, y, rfl, hw1, (hq.same s112).at_, .tup (SqT.of hu1) (FzAll.of_ints _).sn, hn16, r2.pos, r2.bb.mono (by decide), he2, be2, fun i hi => (by2 i hi).mono (by decide), fun i j hi hj => (r2.fb i j hi hj).mono (by decide), fun z3 H13 u v s13' hv huv hg1 bv bu hfr => ?_⟩
  refine ⟨_, rfl, _, rfl, _, rfl, _, _, rfl, rfl, wmul bU bU (by decide) (by decide) (by decide), _, rfl, _, _, rfl, rfl, wmul (m := 640) (P12.B.mul (m := 320) (n := 320) bU bU) bD (by decide) (by decide) (by decide), ?_⟩
  exact ⟨z3, u, v, _, _, rfl, hfr, by omega, bv.mono (by decide), hg1, bu.mono (by decide), bdue.mono (by decide), (uu_B bU bD).mono (by decide), at_appl hp.is hq.is r1.pos r2.pos he2 hy huv, q H13 (s112.trans s13')⟩
end
end P12
namespace P12
open PySem PySem.Spec PyProof.Rows L2 SX EX WK
theorem PrsAt.len {H : Hp} {a : Addr} {n : Nat} {ps : List RW} (h : PrsAt H a n ps) : ∀ p ∈ ps, p.1.length = n := fun p hp => by
  obtain ⟨vs, h1, h2, h3⟩ := h
  obtain ⟨i, hi⟩ := List.mem_iff_getElem?.mp hp
  have hl : i < vs.length := by
    have := (List.getElem?_eq_some_iff.mp hi).1
    omega
  obtain ⟨_, _, _, _, _, e⟩ := h3 i _ p (List.getElem?_eq_getElem hl) hi
  exact e
theorem prs_of {H : Hp} {a : Addr} {n : Nat} {ps : List RW} (h : PrsAt H a n ps) (hp : PB ps) : Prs n ps := ⟨by have := hp.1; omega, fun p m => ⟨h.len p m, (hp.2 p m).1, (hp.2 p m).2.1.mono (by decide), (hp.2 p m).2.2⟩⟩
/-- a pair as a list of a list -/
def RPr (D : Addr) : Hp → V → RW → Prop := fun H v p => ∃ z l, v = .ref z ∧ z ≠ D ∧ l ≠ D ∧ H z = some (.lst [.ref l, .int p.2]) ∧ H l = some (.lst (p.1.map V.int))
theorem stb_RPr {D : Addr} : StbD D (RPr D) := fun _ _ _ _ _ e ⟨z, l, h1, h2, h3, h4, h5⟩ => ⟨z, l, h1, h2, h3, e _ _ h2 h4, e _ _ h3 h5⟩
theorem rpr_sn {K : PySem.W.Frag} {H : Hp} {D : Addr} {l : List V} {ps : List RW} (h : Rs (RPr D) H l ps) : SnAll K H l (ps.map tdr) :=
  snall_of (by rw [List.length_map]; exact h.1) fun i v t hv ht => by
    rw [List.getElem?_map] at ht
    cases e : ps[i]? with
    | none => rw [e] at ht; cases ht
    | some p =>
      rw [e] at ht
      cases ht
      obtain ⟨z, l, rfl, _, _, h4, h5⟩ := h.2 i v p hv e
      exact .lst h4 (.cons (.lst h5 (FzAll.of_ints _).sn) (.cons (.int _) .nil))
theorem prow_sn {K : PySem.W.Frag} {H : Hp} {n : Nat} {l : List V} {ps : List RW} (h : Rs (PRow n) H l ps) : SnAll K H l (ps.map tdr) :=
  snall_of (by rw [List.length_map]; exact h.1) fun i v t hv ht => by
    rw [List.getElem?_map] at ht
    cases e : ps[i]? with
    | none => rw [e] at ht; cases ht
    | some p =>
      rw [e] at ht
      cases ht
      obtain ⟨z, l, rfl, h4, h5, _⟩ := h.2 i v p hv e
      exact .tup (SqT.of h4) (.cons (.tup (SqT.of h5) (FzAll.of_ints _).sn) (.cons (.int _) .nil))
def RLn (D : Addr) : Hp → V → Nat → Prop := fun H v _ => ∃ p y, v = .ref p ∧ p ≠ D ∧ Ln H p 23 y
theorem stb_RLn {D : Addr} : StbD D (RLn D) := fun _ _ _ _ _ e ⟨p, y, h1, h2, h3, h4⟩ => ⟨p, y, h1, h2, e _ _ h2 h3, h4⟩
theorem lln_of {H : Hp} {D : Addr} {l : List V} {m : Nat} (h : H D = some (.lst l)) (r : Rs (RLn D) H l (List.range m)) : LLn H D m := by
  have hl : l.length = m := by rw [r.1, List.length_range]
  refine ⟨l, h, hl, fun i hi => ?_⟩
  have e := List.getElem?_eq_getElem (l := l) (i := i) (by omega)
  obtain ⟨p, y, h1, _, h2⟩ := r.2 i _ i e (List.getElem?_range hi)
  exact ⟨p, y, by rw [e, h1], h2⟩
theorem lkRf (n e b F : V) : ([("size", n), ("pairs", e), ("bottom", b), ("form", F)] : List (Str × V)).lookup ("form" : Str) = some F := by rw [lk_skip (by decide +kernel), lk_skip (by decide +kernel), lk_skip (by decide +kernel), lk_hit]
theorem prd_B {n : Nat} {f g : Nat → Nat → Int} (hn : n ≤ 16) (h1 : ∀ i j, i < n → j < n → B 320 (f i j)) (h2 : ∀ i j, i < n → j < n → B 320 (g i j)) : B 648 (prd n f g) :=
  BS (k := 644) (c := 4) (fun i hi => BS (k := 640) (c := 4) (fun j hj => B.mul (m := 320) (n := 320) (h1 i j hi hj) (h2 i j hi hj)) hn) hn
theorem pair_st {n : Nat} {f g X M : Nat → Nat → Int} {b c U D : Int} (hn : n ≤ 16) (r1 : Red n f b 320) (r2 : Red n g c 320) (i1 : Is n f b X U) (i2 : Is n g c M D) :
    1 ≤ b * c / gI (prd n f g) (b * c) ∧ B 6500 (b * c / gI (prd n f g) (b * c)) ∧ gI (prd n f g / gI (prd n f g) (b * c)) (b * c / gI (prd n f g) (b * c)) = 1 ∧ B 20000 (prd n f g / gI (prd n f g) (b * c)) ∧ prd n f g / gI (prd n f g) (b * c) * (U * D) = prd n X M * (b * c / gI (prd n f g) (b * c)) := by
  have hp : 0 < b * c := Int.mul_pos r1.pos r2.pos
  have hg := gI_pos' (t := prd n f g) hp
  exact ⟨quot_pos hg gI_dvd2 (by omega), (B.div hg (B.mul (m := 320) (n := 320) r1.bb r2.bb)).mono (by decide), gI_one hp, (B.div hg (prd_B hn r1.fb r2.fb)).mono (by decide), cross2 hg gI_dvd1 gI_dvd2 (prd_is i1 i2)⟩
theorem wsum_B {ps : List RW} (h : PB ps) (i j : Nat) : B 306 (wsum ps i j) := by
  show B 306 (Ls ps fun p => p.2 * p.1.getD i 0 * p.1.getD j 0)
  exact BLs (k := 300) (c := 6) (fun p m => B.mul (m := 200) (n := 100) (B.mul (m := 100) (n := 100) (h.2 p m).2.1 (h.row m i)) (h.row m j)) h.1
theorem B320 {x : Int} (h : -100000000000000000000000000000000000000000000 < x ∧ x < 100000000000000000000000000000000000000000000) : B 320 x := by
  show x.natAbs < 2 ^ 320
  have : (100000000000000000000000000000000000000000000 : Nat) < 2 ^ 320 := by decide
  omega
theorem p1040 : (10 : Int) ^ (40 : Int).toNat = 10000000000000000000000000000000000000000 := by decide
theorem p109 : (10 : Int) ^ (9 : Int).toNat = 1000000000 := by decide
def spLaw (K : PySem.W.Frag) : Sp := fun vs H Q _ => ∃ (a : Addr) (ns : List Int), vs = [.ref a] ∧ SqL K H a (ns.map V.int) ∧ ns.length ≤ 63 ∧ ∀ H', Q (.bl true) H'
section
variable {P : Program} {w : World} {K : PySem.W.Frag} {mg : Str → Option Value} {base : Heap} {f : Addr} {fd : FuncData} {cF cR : Addr}
abbrev s_law : Stmt := top 65
abbrev N_law : List Str := ["script", "drawn", "size", "turn", "lines", "table", "under", "middle", "others", "share", "rows", "again", "form", "due", "crossed", "point", "wrong", "strange", "k", "pair", "line"]
theorem sc_law : FnScope N_law ["script"] (defScope s_law) := ⟨rfl, rfl, rfl, by decide +kernel, rfl, by decide +kernel, by decide +kernel⟩
theorem ok_law (F : Fun K "law" "law" s_law f fd) (T : Txt mg) (O : Obs K cF cR) (C__law_draw_list : Cal P w K mg base 4 "_law_draw_list" ["script", "at", "most"] (spDl K)) (C__law_digits : Cal P w K mg base 1 "_law_digits" ["cell", "sizes"] (spDigits K)) (C__law_any_table : Cal P w K mg base 2 "_law_any_table" ["size", "kind", "lines"] spAny)
    (C__law_table : Cal P w K mg base 1 "_law_table" ["size", "pairs"] (spTab K)) (C__law_draw_pairs : Cal P w K mg base 3 "_law_draw_pairs" ["script", "at", "size", "many", "style", "weights", "twin"] (spDps K)) (C__law_weighted : Cal P w K mg base 3 "_law_weighted" ["pairs", "table"] (spWtd K)) (C_paired : Cal P w K mg base 2 "paired" ["one", "two"] (spPair K cF))
    (C__law_row : Cal P w K mg base 2 "_law_row" ["size", "kind", "line"] spRowD) (C__law_stands : Cal P w K mg base 3 "_law_stands" ["value", "top", "under"] spStands) (C__law_cell : Cal P w K mg base 1 "_law_cell" ["script", "k"] (spCell K)) (C__law_line : Cal P w K mg base 2 "_law_line" ["cell"] spLine)
    (C__law_form_is : Cal P w K mg base 4 "_law_form_is" ["found", "table", "under"] (spFormIs K cF)) (C__law_pressed : Cal P w K mg base 7 "_law_pressed" ["outer", "table", "under", "inner", "middle", "scale", "point"] (spPress K cF)) (C_sandwich : Cal P w K mg base 6 "sandwich" ["outer", "inner"] (spSand K cF))
    (C__law_sandwich : Cal P w K mg base 2 "_law_sandwich" ["outer", "inner"] (spLSand K)) (C__law_refused : Cal P w K mg base 8 "_law_refused" ["one", "two", "first", "second"] (spRef K cF)) (C__law_crossed : Cal P w K mg base 2 "_law_crossed" ["pairs", "others"] (spCrs K)) (C__law_dot : Cal P w K mg base 1 "_law_dot" ["one", "two"] (spDot K))
    (C_RowList : CalK P w K mg base 6 "RowList" cR 2 ["bottom"] (spRows K cF cR)) (C_Form : CalK P w K mg base 4 "Form" cF 1 ["bottom"] (spForm K cF)) :
    FnOk P w K mg base CX0 10 f fd ["script"] (spLaw K) := by
  refine F.ok sc_law (fun vs H Q E h => ?_) (fun cdv A outer s H vs Q E hr h => ?_)
  · obtain ⟨a, ns, rfl, _⟩ := h
    rfl
  obtain ⟨a, ss, rfl, ha, _, q⟩ := h
  refine ⟨_, (pss_cons (ps_set (i := 1) sc_law.nd rfl (Or.inl rfl) (pe_cal C__law_draw_list (hr.mono (by omega)) rfl (pa_cons (pv 0) (pa_cons pe_int (pa_cons pe_int pa_nil)))))
  (pss_cons (ps_set (i := 2) sc_law.nd rfl (Or.inl rfl) (pe_ix ix_list (pv 1) pe_int (fun _ _ => rfl)))
  (pss_cons (ps_set (i := 3) sc_law.nd rfl (Or.inl rfl) (pe_cal C__law_digits (hr.mono (by omega)) rfl (pa_cons (pe_cal C__law_cell (hr.mono (by omega)) rfl (pa_cons (pv 0) (pa_cons pe_int pa_nil))) (pa_cons (pe_lst (pa_cons pe_int (pa_cons pe_int (pa_cons pe_int (pa_cons pe_int (pa_cons pe_int (pa_cons pe_int (pa_cons pe_int (pa_cons pe_int (pa_cons pe_int pa_nil)))))))))) pa_nil))))
  (pss_cons (ps_setLc (i := 4) (own := [("k", 18)]) (g := gName 18) (tt := tYes) (by rfl) sc_law.nd rfl rfl (sw_true rfl rfl rfl (by decide +kernel)) (pi_range1 (by rfl) T.b_range (pa_cons pe_int pa_nil)) (blkOk_by (N := N_law) (sc := defScope s_law) (by decide +kernel)) (fun _ _ _ _ _ => (pg_name (i := 18) sc_law.nd rfl (Or.inl rfl))) (fun _ _ _ _ _ => pts_nil) (fun _ _ _ _ _ => (pe_cal C__law_line (hr.mono (by omega)) rfl (pa_cons (pe_cal C__law_cell (hr.mono (by omega)) rfl (pa_cons (pv 0) (pa_cons (pe_op op_add pe_int (pv 18)) pa_nil))) pa_nil))))
  (pss_cons (ps_set (i := 5) sc_law.nd rfl (Or.inl rfl) (pe_cal C__law_any_table (hr.mono (by omega)) rfl (pa_cons (pv 2) (pa_cons (pe_ix ix_list (pe_lst (pa_cons pe_int (pa_cons pe_int (pa_cons pe_int (pa_cons pe_int (pa_cons pe_int pa_nil)))))) (pe_ix ix_list (pv 3) pe_int (fun _ _ => rfl)) (fun _ _ => rfl)) (pa_cons (pv 4) pa_nil)))))
  (pss_cons (ps_set (i := 6) sc_law.nd rfl (Or.inl rfl) (pe_ix ix_list (pe_lst (pa_cons pe_int (pa_cons pe_int (pa_cons pe_int (pa_cons pe_int (pa_cons pe_int (pa_cons pe_int (pa_cons (pe_op op_add (pe_op op_pow pe_int pe_int) pe_int) (pa_cons (pe_op op_add (pe_op op_pow pe_int pe_int) pe_int) pa_nil))))))))) (pe_ix ix_list (pv 3) pe_int (fun _ _ => rfl)) (fun _ _ => rfl)))
  (pss_cons (ps_set (i := 7) sc_law.nd rfl (Or.inl rfl) (pe_cal C__law_table (hr.mono (by omega)) rfl (pa_cons (pv 2) (pa_cons (pe_ix ix_list (pv 1) pe_int (fun _ _ => rfl)) pa_nil))))
  (pss_cons (ps_set (i := 8) sc_law.nd rfl (Or.inl rfl) (pe_cal C__law_draw_pairs (hr.mono (by omega)) rfl (pa_cons (pv 0) (pa_cons pe_int (pa_cons (pv 2) (pa_cons (pe_ix ix_list (pv 3) pe_int (fun _ _ => rfl)) (pa_cons (pe_ix ix_list (pv 3) pe_int (fun _ _ => rfl)) (pa_cons (pe_ix ix_list (pv 3) pe_int (fun _ _ => rfl)) (pa_cons (pe_ix ix_list (pv 3) pe_int (fun _ _ => rfl)) pa_nil)))))))))
  (pss_cons (ps_set (i := 9) sc_law.nd rfl (Or.inl rfl) (pe_ix ix_list (pe_lst (pa_cons pe_int (pa_cons pe_int (pa_cons pe_int (pa_cons pe_int (pa_cons pe_int (pa_cons pe_int pa_nil))))))) (pe_ix ix_list (pv 3) pe_int (fun _ _ => rfl)) (fun _ _ => rfl)))
  (pss_cons (ps_set (i := 10) sc_law.nd rfl (Or.inl rfl) (pe_calK C_RowList (hr.mono (by omega)) rfl (pa_cons (pv 2) (pa_cons (pe_lc (own := [("pair", 19)]) (g := gName 19) (tt := tYes) (by rfl) sc_law.nd (pi_list (pe_ix ix_list (pv 1) pe_int (fun _ _ => rfl))) (blkOk_by (N := N_law) (sc := defScope s_law) (by decide +kernel)) (fun _ _ _ _ _ => (pg_name (i := 19) sc_law.nd rfl (Or.inl rfl))) (fun _ _ _ _ _ => pts_nil) (fun _ _ _ _ _ => (pe_lst (pa_cons (pe_callTy (call_list_ofK (K := K) rfl) (by rfl) T.b_list (by decide +kernel) (pa_cons (pe_ix (ix_tupK (K := K) rfl) (pv 19) pe_int (fun _ _ => rfl)) pa_nil)) (pa_cons (pe_ix (ix_tupK (K := K) rfl) (pv 19) pe_int (fun _ _ => rfl)) pa_nil))))) pa_nil)) (pk_cons (pe_ix ix_list (pv 1) pe_int (fun _ _ => rfl)) pk_nil)))
  (pss_cons (ps_set (i := 11) sc_law.nd rfl (Or.inl rfl) (pe_calK C_RowList (hr.mono (by omega)) rfl (pa_cons (pv 2) (pa_cons (pe_callTy call_list_of (by rfl) T.b_list (by decide +kernel) (pa_cons (pv 8) pa_nil)) pa_nil)) (pk_cons (pv 9) pk_nil)))
  (pss_cons (ps_set (i := 12) sc_law.nd rfl (Or.inl rfl) (pe_calK C_Form (hr.mono (by omega)) rfl (pa_cons (pe_lc (own := [("line", 20)]) (g := gName 20) (tt := tYes) (by rfl) sc_law.nd (pi_list (pv 5)) (blkOk_by (N := N_law) (sc := defScope s_law) (by decide +kernel)) (fun _ _ _ _ _ => (pg_name (i := 20) sc_law.nd rfl (Or.inl rfl))) (fun _ _ _ _ _ => pts_nil) (fun _ _ _ _ _ => (pe_callTy (call_list_ofK (K := K) rfl) (by rfl) T.b_list (by decide +kernel) (pa_cons (pv 20) pa_nil)))) pa_nil) (pk_cons (pv 6) pk_nil)))
  (pss_cons (ps_if (PW.pt (pw_or (pt_not (pt_val (pe_cal C__law_form_is (hr.mono (by omega)) rfl (pa_cons (pe_fld (pv 10) rfl) (pa_cons (pv 7) (pa_cons (pe_ix ix_list (pv 1) pe_int (fun _ _ => rfl)) pa_nil)))))) (pw_or1 (pt_not (pt_val (pe_cal C__law_form_is (hr.mono (by omega)) rfl (pa_cons (pv 12) (pa_cons (pv 5) (pa_cons (pv 6) pa_nil))))))))) (pss_one (ps_ret pe_bl)) pss_nil)
  (pss_cons (ps_set (i := 13) sc_law.nd rfl (Or.inl rfl) (pe_cal C__law_weighted (hr.mono (by omega)) rfl (pa_cons (pe_ix ix_list (pv 1) pe_int (fun _ _ => rfl)) (pa_cons (pv 5) pa_nil))))
  (pss_cons (ps_if (pt_not (pt_val (pe_cal C__law_stands (hr.mono (by omega)) rfl (pa_cons (pe_cal C_paired (hr.mono (by omega)) rfl (pa_cons (pe_fld (pv 10) rfl) (pa_cons (pv 12) pa_nil))) (pa_cons (pv 13) (pa_cons (pe_op op_mulW (pe_ix ix_list (pv 1) pe_int (fun _ _ => rfl)) (pv 6)) pa_nil)))))) (pss_one (ps_ret pe_bl)) pss_nil)
  (pss_cons (ps_set (i := 14) sc_law.nd rfl (Or.inl rfl) (pe_cal C_paired (hr.mono (by omega)) rfl (pa_cons (pe_fld (pv 10) rfl) (pa_cons (pe_fld (pv 11) rfl) pa_nil))))
  (pss_cons (ps_if (PW.pt (pw_or (pt_not (pt_val (pe_cal C__law_stands (hr.mono (by omega)) rfl (pa_cons (pv 14) (pa_cons (pe_cal C__law_crossed (hr.mono (by omega)) rfl (pa_cons (pe_ix ix_list (pv 1) pe_int (fun _ _ => rfl)) (pa_cons (pv 8) pa_nil))) (pa_cons (pe_op op_mulW (pe_ix ix_list (pv 1) pe_int (fun _ _ => rfl)) (pv 9)) pa_nil)))))) (pw_or1 (pt_cmpR op_lt (pe_ix ix_tup (pv 14) pe_int (fun _ _ => rfl)) pe_int (nomark _))))) (pss_one (ps_ret pe_bl)) pss_nil)
  (pss_cons (ps_if (pt_not (pt_val (pe_cal C__law_stands (hr.mono (by omega)) rfl (pa_cons (pe_cal C_paired (hr.mono (by omega)) rfl (pa_cons (pv 12) (pa_cons (pe_fld (pv 10) rfl) pa_nil))) (pa_cons (pv 13) (pa_cons (pe_op op_mulW (pe_ix ix_list (pv 1) pe_int (fun _ _ => rfl)) (pv 6)) pa_nil)))))) (pss_one (ps_ret pe_bl)) pss_nil)
  (pss_cons (ps_if (pt_not (pt_val (pe_cal C__law_stands (hr.mono (by omega)) rfl (pa_cons (pe_cal C_paired (hr.mono (by omega)) rfl (pa_cons (pv 12) (pa_cons (pv 12) pa_nil))) (pa_cons (pe_callB (cr_sum rfl) (by rfl) T.b_sum (by decide +kernel) (pa_cons (pe_lc (own := [("line", 20)]) (g := gName 20) (tt := tYes) (by rfl) sc_law.nd (pi_list (pv 5)) (blkOk_by (N := N_law) (sc := defScope s_law) (by decide +kernel)) (fun _ _ _ _ _ => (pg_name (i := 20) sc_law.nd rfl (Or.inl rfl))) (fun _ _ _ _ _ => pts_nil) (fun _ _ _ _ _ => (pe_cal C__law_dot (hr.mono (by omega)) rfl (pa_cons (pv 20) (pa_cons (pv 20) pa_nil))))) pa_nil)) (pa_cons (pe_op op_mulW (pv 6) (pv 6)) pa_nil)))))) (pss_one (ps_ret pe_bl)) pss_nil)
  (pss_cons (ps_if (pt_not (pt_val (pe_cal C__law_form_is (hr.mono (by omega)) rfl (pa_cons (pe_cal C_sandwich (hr.mono (by omega)) rfl (pa_cons (pv 12) (pa_cons (pv 12) pa_nil))) (pa_cons (pe_cal C__law_sandwich (hr.mono (by omega)) rfl (pa_cons (pv 5) (pa_cons (pv 5) pa_nil))) (pa_cons (pe_op op_mulW (pe_op op_mulW (pv 6) (pv 6)) (pv 6)) pa_nil)))))) (pss_one (ps_ret pe_bl)) pss_nil)
  (pss_cons (ps_set (i := 15) sc_law.nd rfl (Or.inl rfl) (pe_cal C__law_row (hr.mono (by omega)) rfl (pa_cons (pv 2) (pa_cons (pe_ix ix_list (pv 3) pe_int (fun _ _ => rfl)) (pa_cons (pe_cal C__law_line (hr.mono (by omega)) rfl (pa_cons (pe_cal C__law_cell (hr.mono (by omega)) rfl (pa_cons (pv 0) (pa_cons pe_int pa_nil))) pa_nil)) pa_nil)))))
  (pss_cons (ps_if (pt_not (pt_val (pe_cal C__law_pressed (hr.mono (by omega)) rfl (pa_cons (pv 12) (pa_cons (pv 5) (pa_cons (pv 6) (pa_cons (pe_fld (pv 10) rfl) (pa_cons (pv 7) (pa_cons (pe_ix ix_list (pv 1) pe_int (fun _ _ => rfl)) (pa_cons (pv 15) pa_nil)))))))))) (pss_one (ps_ret pe_bl)) pss_nil)
  (pss_cons (ps_set (i := 16) sc_law.nd rfl (Or.inl rfl) (pe_op op_add (pv 2) pe_int))
  (C8.pss_cut (ps_if (PW.pt (pw_or (pt_cmpR op_eq (pv 2) pe_int (nomark _)) (pw_or1 (PW.pt (pw_and (pt_cmpR op_eq (pe_ix ix_list (pv 3) pe_int (fun _ _ => rfl)) pe_int (nomark _)) (pw_and1 (pt_cmpR op_gt (pv 2) pe_int (nomark _)))))))) (pss_one (ps_set (i := 16) sc_law.nd rfl (Or.inl rfl) (pe_op op_sub (pv 2) pe_int))) pss_nil)
  (pss_cons (ps_set (i := 17) sc_law.nd rfl (Or.inl rfl) (pe_calK C_Form (hr.mono (by omega)) rfl (pa_cons (pe_cal C__law_any_table (hr.mono (by omega)) rfl (pa_cons (pv 16) (pa_cons pe_int (pa_cons (pv 4) pa_nil)))) pa_nil) (pk_cons (pv 6) pk_nil)))
  (pss_cons (ps_if (PW.pt (pw_or (pt_not (pt_val (pe_cal C__law_refused (hr.mono (by omega)) rfl (pa_cons (pv 12) (pa_cons (pv 17) (pa_cons (pv 2) (pa_cons (pv 16) pa_nil))))))) (pw_or1 (pt_not (pt_val (pe_cal C__law_refused (hr.mono (by omega)) rfl (pa_cons (pv 17) (pa_cons (pv 12) (pa_cons (pv 16) (pa_cons (pv 2) pa_nil)))))))))) (pss_one (ps_ret pe_bl)) pss_nil)
  (pss_one (ps_ret (pe_cal C__law_stands (hr.mono (by omega)) rfl (pa_cons (pe_cal C_paired (hr.mono (by omega)) rfl (pa_cons (pe_fld (pv 10) rfl) (pa_cons (pv 12) pa_nil))) (pa_cons (pv 13) (pa_cons (pe_op op_mulW (pe_ix ix_list (pv 1) pe_int (fun _ _ => rfl)) (pv 6)) pa_nil)))))))))))))))))))))))))))))))), ?_⟩
  refine ⟨_, rfl, a, ss, rfl, ha, fun dr pl n ps b _ _ H1 s1 hdr hps hpb hn hb hbB => ?_⟩
  have hn16 : n ≤ 16 := by omega
  have hb0 : 0 < b := by omega
  have hbB3 : B 320 b := hbB.mono (by decide)
  show tSeq _ _ _ [some (.ref a), some (.ref dr), none, none, none, none, none, none, none, none, none, none, none, none, none, none, none, none, none, none, none] _
  refine ⟨_, rfl, dr, _, 0, _, rfl, rfl, SqL.of hdr, at_pos (by decide) rfl, ?_⟩
  show tSeq _ _ _ [some (.ref a), some (.ref dr), some (.int n), none, none, none, none, none, none, none, none, none, none, none, none, none, none, none, none, none, none] _
  -- turn
  refine ⟨_, rfl, a, ss, 31, rfl, s1.seq ha, by decide, by decide, fun c => ⟨line_ge (by show 9 ≤ 100000; decide), fun l0 hl0 => ?_⟩⟩
  refine ⟨c, l0, [5, 8, 12, 8, 10, 2, 12, 3, 6], rfl, SqL.of upd_same, by decide, szs (by decide), fun tn ds htn hd => ?_⟩
  obtain ⟨d0, e0, a0, b0⟩ := dg (i := 0) hd rfl
  obtain ⟨d1, e1, a1, b1⟩ := dg (i := 1) hd rfl
  obtain ⟨d2, e2, a2, b2⟩ := dg (i := 2) hd rfl
  obtain ⟨d3, e3, a3, b3⟩ := dg (i := 3) hd rfl
  obtain ⟨d4, e4, a4, b4⟩ := dg (i := 4) hd rfl
  obtain ⟨d5, e5, a5, b5⟩ := dg (i := 5) hd rfl
  obtain ⟨d6, e6, a6, b6⟩ := dg (i := 6) hd rfl
  obtain ⟨d7, e7, a7, b7⟩ := dg (i := 7) hd rfl
  obtain ⟨d8, e8, a8, b8⟩ := dg (i := 8) hd rfl
  generalize hH2 : upd (upd H1 l0 _) tn _ = H2
  have s12 : Same H1 H2 := by rw [← hH2]; exact (same_new hl0 _).trans (same_new htn _)
  have ht2 : H2 tn = some (.lst (ds.map V.int)) := by rw [← hH2, upd_same]
  have s2 := s1.trans s12
  have hdr2 := s12 _ _ hdr
  have hps2 := hps.same s12
  clear hH2
  show tSeq _ _ _ [some (.ref a), some (.ref dr), some (.int n), some (.ref tn), none, none, none, none, none, none, none, none, none, none, none, none, none, none, none, none, none] _
  -- lines
  refine ⟨10, rfl, by decide, by decide, fun Dl hDl => ?_⟩
  refine lc_gm (walk_range (lo := 0) (n := 10)) (RLn Dl) stb_RLn (List.range 10) (by rw [List.length_range]) (by rw [List.length_range]; omega) hDl (fun _ _ => trivial) (fun _ _ _ _ => ys_fn) id (fun c i x H3 H4 hc s3 s4 y hdl A B hA => ?_) (fun H3 l s3 hl3 rs => ?_)
  · obtain ⟨hc1, rfl⟩ := in_range hc
    rw [y.2]
    refine ⟨rfl, lc_yes ⟨_, rfl, _, rfl, _, _, rfl, rfl, a, ss, 32 + (0 + (i : Int)), rfl, (s2.trans s4).seq ha, by omega, by omega, fun cc => ⟨cc, rfl, fun r H5 y hrf s5 hln => hA _ _ s5 ⟨r, y, rfl, fun z => ?_, hln⟩⟩⟩⟩
    obtain ⟨l0, h0⟩ := hdl
    rw [← z, hrf] at h0
    cases h0
  rw [List.map_id] at rs
  have hll := lln_of hl3 rs
  have s03 := s2.trans s3
  show tSeq _ _ _ [some (.ref a), some (.ref dr), some (.int n), some (.ref tn), some (.ref Dl), none, none, none, none, none, none, none, none, none, none, none, none, none, none, none, none] _
  -- table
  refine ⟨_, rfl, line_ge (by show 5 ≤ 100000; decide), fun l5 hl5 => ⟨_, rfl, tn, _, 0, _, rfl, rfl, SqL.of (same_new hl5 _ _ _ (s3 _ _ ht2)), at_pos (by decide) e0, ?_⟩⟩
  obtain ⟨kd, _, kk⟩ := pick (cs := [0, 1, 2, 3, 14]) a0 b0
  refine ⟨l5, _, _, _, rfl, rfl, SqL.of upd_same, at_pos a0 kk, _, rfl, Dl, n, kd, rfl, hll.same (same_new hl5 _), hn, fun tb H4 X s4 htb sy bX => ?_⟩
  have bX3 : ∀ i j, i < n → j < n → B 320 (X i j) := fun i j hi hj => (bX i j hi hj).mono (by decide)
  have s34 := (same_new hl5 (.lst [V.int 0, V.int 1, V.int 2, V.int 3, V.int 14])).trans s4
  have ht4 := s34 _ _ (s3 _ _ ht2)
  show tSeq _ _ _ [some (.ref a), some (.ref dr), some (.int n), some (.ref tn), some (.ref Dl), some (.ref tb), none, none, none, none, none, none, none, none, none, none, none, none, none, none, none] _
  -- under
  refine ⟨_, _, rfl, rfl, ⟨by decide, by decide, by decide⟩, _, _, rfl, rfl, _, _, rfl, rfl, ⟨by decide, by decide, by decide⟩, _, _, rfl, rfl, line_ge (by show 8 ≤ 100000; decide), fun l6 hl6 => ⟨_, rfl, tn, _, 1, _, rfl, rfl, SqL.of (same_new hl6 _ _ _ ht4), at_pos (by decide) e1, ?_⟩⟩
  obtain ⟨U, hU, kU⟩ := pick (cs := [1, 2, 3, 12, 7, 1, 10 ^ (9 : Int).toNat + 7, 10 ^ (40 : Int).toNat + 121]) a1 b1
  have hUU : 1 ≤ U ∧ B 320 U := by
    rw [p109, p1040] at hU
    simp only [List.mem_cons, List.not_mem_nil, or_false] at hU
    rcases hU with rfl | rfl | rfl | rfl | rfl | rfl | rfl | rfl <;> exact ⟨by omega, B320 (by omega)⟩
  obtain ⟨hU1, bU⟩ := hUU
  have hU0 : 0 < U := by omega
  refine ⟨l6, _, _, _, rfl, rfl, SqL.of upd_same, at_pos a1 kU, ?_⟩
  have s5' := fun o => same_new (H := H4) hl6 o
  generalize hH5 : upd H4 l6 _ = H5
  have s45 : Same H4 H5 := by rw [← hH5]; exact s5' _
  have s35 := s34.trans s45
  have s05 := s03.trans s35
  have s25 := s3.trans s35
  have ht5 := s45 _ _ ht4
  have hdr5 := s25 _ _ hdr2
  have hps5 := hps2.same s25
  have htb5 := htb.same s45
  have hll5 := hll.same s35
  clear hH5
  show tSeq _ _ _ [some (.ref a), some (.ref dr), some (.int n), some (.ref tn), some (.ref Dl), some (.ref tb), some (.int U), none, none, none, none, none, none, none, none, none, none, none, none, none, none] _
  -- middle
  refine ⟨_, rfl, _, rfl, dr, _, 1, _, rfl, rfl, SqL.of hdr5, at_pos (by decide) rfl, pl, n, ps, rfl, hps5, hpb, hn16, fun md H6 s6 hmd => ?_⟩
  show tSeq _ _ _ [some (.ref a), some (.ref dr), some (.int n), some (.ref tn), some (.ref Dl), some (.ref tb), some (.int U), some (.ref md), none, none, none, none, none, none, none, none, none, none, none, none, none] _
  -- others
  have ht6 := SqL.of (K := K) (s6 _ _ ht5)
  refine ⟨_, rfl, _, rfl, _, rfl, tn, _, 4, _, rfl, rfl, ht6, at_pos (by decide) e4, _, rfl, tn, _, 2, _, rfl, rfl, ht6, at_pos (by decide) e2, _, rfl, tn, _, 3, _, rfl, rfl, ht6, at_pos (by decide) e3, _, rfl, tn, _, 7, _, rfl, rfl, ht6, at_pos (by decide) e7, ?_⟩
  refine ⟨a, ss, 42, d4, d2, d3, d7, n, rfl, (s05.trans s6).seq ha, by decide, by decide, by omega, by omega, hn, fun ol H7 os s7 hos hob => ?_⟩
  have s57 := s6.trans s7
  show tSeq _ _ _ [some (.ref a), some (.ref dr), some (.int n), some (.ref tn), some (.ref Dl), some (.ref tb), some (.int U), some (.ref md), some (.ref ol), none, none, none, none, none, none, none, none, none, none, none, none] _
  -- share
  refine ⟨line_ge (by show 6 ≤ 100000; decide), fun l8 hl8 => ⟨_, rfl, tn, _, 8, _, rfl, rfl, SqL.of (same_new hl8 _ _ _ (s57 _ _ ht5)), at_pos (by decide) e8, ?_⟩⟩
  obtain ⟨sh, hsh, ksh⟩ := pick (cs := [1, 4, 6, 1, 1000, 5]) a8 b8
  have hshb : 1 ≤ sh ∧ sh ≤ 1000 := (by decide : ∀ x ∈ ([1, 4, 6, 1, 1000, 5] : List Int), 1 ≤ x ∧ x ≤ 1000) sh hsh
  have bsh : B 320 sh := B320 (by omega)
  refine ⟨l8, _, _, _, rfl, rfl, SqL.of upd_same, at_pos a8 ksh, ?_⟩
  generalize hH8 : upd H7 l8 _ = H8
  have s78 : Same H7 H8 := by rw [← hH8]; exact same_new hl8 _
  have s58 := s57.trans s78
  have ht8 := s58 _ _ ht5
  have hdr8 := s58 _ _ hdr5
  have hps8 := hps5.same s58
  have htb8 := htb5.same s58
  have hll8 := hll5.same s58
  have hmd8 := hmd.same (s7.trans s78)
  have hos8 := hos.same s78
  have s08 := s05.trans s58
  clear hH8
  show tSeq _ _ _ [some (.ref a), some (.ref dr), some (.int n), some (.ref tn), some (.ref Dl), some (.ref tb), some (.int U), some (.ref md), some (.ref ol), some (.int sh), none, none, none, none, none, none, none, none, none, none, none] _
  -- rows
  obtain ⟨vs, hvs, hrs⟩ := id hps8
  have hpl100 : ps.length ≤ 100000 := by have := hpb.1; omega
  refine ⟨_, rfl, _, rfl, dr, _, 1, _, rfl, rfl, SqL.of hdr8, at_pos (by decide) rfl, pl, rfl, ⟨_, SqL.of hvs⟩, fun D9 hD9 => ?_⟩
  refine lc_gm (walk_list (K := K) (a := pl) (xs := vs)) (RPr D9) stb_RPr ps hrs.1 hpl100 hD9 (fun H' s => SqL.of (s _ _ hvs)) (fun _ _ _ _ => ys_at) id (fun c p x Ha Hb hc sa sb y hdl A B hA => ?_) (fun H9 l9 s9 hl9 rs9 => ?_)
  · obtain ⟨q1, q2, rfl, h2, h3, h4⟩ := hrs.2 c x p y.2 hc
    refine ⟨rfl, lc_yes ⟨_, rfl, q1, _, 0, _, rfl, rfl, SqT.of (sb _ _ h2), at_pos (by decide) rfl, q2, _, rfl, .inr (SqT.of (sb _ _ h3)), fun z hz => ?_⟩⟩
    have s1 := same_new hz (.lst (p.1.map V.int))
    refine ⟨_, rfl, q1, _, 1, _, rfl, rfl, SqT.of (s1 _ _ (sb _ _ h2)), at_pos (by decide) rfl, two_line, fun z2 hz2 => hA _ _ (s1.trans (same_new hz2 _)) ⟨z2, z, rfl, fun e => ?_, fun e => ?_, upd_same, same_new hz2 _ _ _ upd_same⟩⟩
    · obtain ⟨l0, h0⟩ := hdl
      have := s1 _ _ h0
      rw [← e, hz2] at this
      cases this
    · obtain ⟨l0, h0⟩ := hdl
      rw [← e, hz] at h0
      cases h0
  rw [List.map_id] at rs9
  have hprs := prs_of hps8 hpb
  refine ⟨_, rfl, dr, _, 2, _, rfl, rfl, SqL.of (s9 _ _ hdr8), at_pos (by decide) rfl, rfl, rfl, fun rx dx hrx hdx hne => ?_⟩
  refine ⟨rx, dx, _, n, ps, b, rfl, upd_same, (Sn.lst hl9 (rpr_sn rs9)).same (new_two hrx hdx), hprs, by omega, hb0, hbB.mono (by decide), fun H10 hR hbut => ⟨rfl, ?_⟩⟩
  have s910 : Same H9 H10 := made_same hrx hdx hbut
  have s810 := s9.trans s910
  obtain ⟨dxr, qr, Fo, hrow, _, hFo⟩ := hR
  obtain ⟨gr, br, er1, er2, hred, his⟩ := rows_form (n := n) hb0 hbB3 hpb
  rw [er1, er2] at hFo
  have fr : FA K H10 cF Fo n (wsum ps) b gr br := ⟨hFo, hred, his⟩
  show tSeq _ _ _ [some (.ref a), some (.ref dr), some (.int n), some (.ref tn), some (.ref Dl), some (.ref tb), some (.int U), some (.ref md), some (.ref ol), some (.int sh), some (.ref rx), none, none, none, none, none, none, none, none, none, none] _
  -- again
  obtain ⟨ws_, hws, hrw⟩ := id (hos8.same s810)
  refine ⟨_, rfl, _, rfl, ol, _, rfl, .inl (SqL.of hws), fun la hla => ?_⟩
  have s11' := same_new (H := H10) hla (.lst ws_)
  refine ⟨_, rfl, rfl, rfl, fun ax dx2 hax hdx2 hne2 => ?_⟩
  have hprs2 := prs_of hos8 hob
  refine ⟨ax, dx2, _, n, os, sh, rfl, upd_same, (Sn.lst upd_same (prow_sn ⟨hrw.1, fun i v z a b => (hrw.2 i v z a b).same s11'⟩)).same (new_two hax hdx2), hprs2, by omega, by omega, bsh.mono (by decide), fun H11 hR2 hbut2 => ⟨rfl, ?_⟩⟩
  have s1011 : Same H10 H11 := s11'.trans (made_same hax hdx2 hbut2)
  obtain ⟨dxa, qa, Fa, hagain, _, hFa⟩ := hR2
  obtain ⟨ga, ba, ea1, ea2, hreda, hisa⟩ := rows_form (n := n) (b := sh) (by omega) bsh hob
  rw [ea1, ea2] at hFa
  have fa : FA K H11 cF Fa n (wsum os) sh ga ba := ⟨hFa, hreda, hisa⟩
  have s811 := s810.trans s1011
  show tSeq _ _ _ [some (.ref a), some (.ref dr), some (.int n), some (.ref tn), some (.ref Dl), some (.ref tb), some (.int U), some (.ref md), some (.ref ol), some (.int sh), some (.ref rx), some (.ref ax), none, none, none, none, none, none, none, none, none] _
  -- form
  obtain ⟨us, hus, hul, hur⟩ := (htb8.same s811).at
  refine ⟨_, rfl, tb, rfl, ⟨_, SqL.of hus⟩, fun D12 hD12 => ?_⟩
  refine lc_gm (walk_list (K := K) (a := tb) (xs := us)) (RL D12) stb_RL (List.range n) (by rw [hul, List.length_range]) (by rw [List.length_range]; omega) hD12 (fun H' s => SqL.of (s _ _ hus)) (fun _ _ _ _ => ys_at) (fun i => vec n (X i)) (fun c i x Ha Hb hc sa sb y hdl A B hA => ?_) (fun H12 l12 s12' hl12 rs12 => ?_)
  · obtain ⟨hi, rfl⟩ := in_range hc
    obtain ⟨pr, hp1, hp2⟩ := hur i hi
    have e := y.2
    rw [hp1] at e
    cases e
    refine ⟨rfl, lc_yes ⟨_, rfl, pr, _, rfl, .inl (SqL.of (sb _ _ hp2)), fun z hz => hA _ _ (same_new hz _) ⟨z, rfl, fun e => ?_, upd_same⟩⟩⟩
    obtain ⟨l0, h0⟩ := hdl
    rw [← e, hz] at h0
    cases h0
  refine ⟨_, rfl, rfl, rfl, fun fx dx3 hfx hdx3 hne3 => ?_⟩
  refine ⟨fx, dx3, _, mat n X, U, rfl, upd_same, (LTab.of hl12 rs12).sn.same (new_two hfx hdx3), mat_sqr, mat_sym sy, by rw [mat_len]; omega, hU0, bU.mono (by decide), fun H13 hF hbut3 => ⟨rfl, ?_⟩⟩
  rw [mat_len, dm_mat] at hF
  have ro := red_of hU0 bU bX3 sy
  have s1113 : Same H11 H13 := s12'.trans (made_same hfx hdx3 hbut3)
  generalize hgf : (fun i j => X i j / gf U (mat n X).flatten) = gx at hF ro
  generalize hbf : U / gf U (mat n X).flatten = bx at hF ro
  have ff : FA K H13 cF fx n X U gx bx := ⟨hF, ro.1, ro.2⟩
  clear hgf hbf
  have s1013 := s1011.trans s1113
  have s813 := s811.trans s1113
  have fr := fr.same s1013
  have fa := fa.same s1113
  have hrow := s1013 _ _ hrow
  have hagain := s1113 _ _ hagain
  have hdr := s813 _ _ hdr8
  have hps := hps8.same s813
  have htb := htb8.same s813
  have hmd := hmd8.same s813
  have hos := hos8.same s813
  have hll := hll8.same s813
  have htn := s813 _ _ ht8
  have s013 := s08.trans s813
  have bM : ∀ i j, i < n → j < n → B 320 (wsum ps i j) := fun i j _ _ => (wsum_B hpb i j).mono (by decide)
  show tSeq _ _ _ [some (.ref a), some (.ref dr), some (.int n), some (.ref tn), some (.ref Dl), some (.ref tb), some (.int U), some (.ref md), some (.ref ol), some (.int sh), some (.ref rx), some (.ref ax), some (.ref fx), none, none, none, none, none, none, none, none] _
  have dr2 : ∀ {H'}, Same H13 H' → SqL K H' dr [.int n, .ref pl, .int b] := fun s => SqL.of (s _ _ hdr)
  have ro2 : ∀ {H'}, Same H13 H' → H' rx = some (.ins cR dxr [("size", .int n), ("pairs", .ref qr), ("bottom", .int (b / gf b (ws ps))), ("form", .ref Fo)]) := fun s => s _ _ hrow
  -- the two forms
  refine ⟨_, rfl, rx, cR, dxr, _, _, rfl, hrow, O.clR, O.R_form, lkRf _ _ _ _, _, rfl, _, rfl, dr, _, 2, _, rfl, rfl, SqL.of hdr, at_pos (by decide) rfl, ?_⟩
  refine ⟨Fo, md, n, gr, _, br, b, rfl, fr.at_, hmd, by omega, fr.red.mono (by decide), fr.is, hbB.mono (by decide), fun i j hi hj => (bM i j hi hj).mono (by decide), fun H14 s14 => ⟨true, rfl, ifF rfl ?_⟩⟩
  refine ⟨_, rfl, _, rfl, _, rfl, fx, tb, n, gx, X, bx, U, rfl, (ff.same s14).at_, htb.same s14, by omega, ff.red.mono (by decide), ff.is, bU.mono (by decide), fun i j hi hj => (bX i j hi hj).mono (by decide), fun H15 s15 => ⟨true, rfl, ifF rfl ?_⟩⟩
  have t15 := s14.trans s15
  show tSeq _ _ _ [some (.ref a), some (.ref dr), some (.int n), some (.ref tn), some (.ref Dl), some (.ref tb), some (.int U), some (.ref md), some (.ref ol), some (.int sh), some (.ref rx), some (.ref ax), some (.ref fx), none, none, none, none, none, none, none, none] _
  -- due
  refine ⟨_, rfl, dr, _, 1, _, rfl, rfl, dr2 t15, at_pos (by decide) rfl, _, rfl, pl, tb, n, ps, X, rfl, hps.same t15, hpb, htb.same t15, hn16, fun i j hi hj => (bX i j hi hj).mono (by decide), fun H16 s16 => ?_⟩
  have t16 := t15.trans s16
  have hdue : prd n (wsum ps) X = wtd n X ps := prd_wtd n ps X
  have bdue : B 20000 (wtd n X ps) := by
    rw [← hdue]
    exact (prd_B hn16 bM bX3).mono (by decide)
  show tSeq _ _ _ [some (.ref a), some (.ref dr), some (.int n), some (.ref tn), some (.ref Dl), some (.ref tb), some (.int U), some (.ref md), some (.ref ol), some (.int sh), some (.ref rx), some (.ref ax), some (.ref fx), some (.int (wtd n X ps)), none, none, none, none, none, none, none] _
  have mulBU : CMulW b U := wmul hbB3 bU (by decide) (by decide) (by decide)
  have bbU : B 20000 (b * U) := (B.mul (m := 320) (n := 320) hbB3 bU).mono (by decide)
  have up : ∀ {g b}, Red n g b 320 → B 3000 b ∧ ∀ i j, i < n → j < n → B 3000 (g i j) := fun h => ⟨h.bb.mono (by decide), fun i j hi hj => (h.fb i j hi hj).mono (by decide)⟩
  have ur := up fr.red
  have ua := up fa.red
  have uf := up ff.red
  -- paired(rows.form, form)
  have p1 := pair_st hn16 fr.red ff.red fr.is ff.is
  rw [hdue] at p1
  refine ⟨_, rfl, rx, cR, dxr, _, _, rfl, ro2 t16, O.clR, O.R_form, lkRf _ _ _ _, _, rfl, Fo, fx, n, gr, gx, br, bx, rfl, (fr.same t16).at_, (ff.same t16).at_, hn16, fr.red.pos, ur.1, ff.red.pos, uf.1, ur.2, uf.2, fun v1 H17 s17 hv1 => ?_⟩
  have t17 := t16.trans s17
  refine ⟨_, rfl, _, rfl, dr, _, 2, _, rfl, rfl, dr2 t17, at_pos (by decide) rfl, _, rfl, _, _, rfl, rfl, mulBU, ?_⟩
  refine ⟨v1, _, _, _, _, rfl, hv1, p1.1, p1.2.1, p1.2.2.1, p1.2.2.2.1, bdue, bbU, p1.2.2.2.2, true, rfl, ifF rfl ?_⟩
  show tSeq _ _ _ [some (.ref a), some (.ref dr), some (.int n), some (.ref tn), some (.ref Dl), some (.ref tb), some (.int U), some (.ref md), some (.ref ol), some (.int sh), some (.ref rx), some (.ref ax), some (.ref fx), some (.int (wtd n X ps)), none, none, none, none, none, none, none] _
  -- crossed
  have p2 := pair_st hn16 fr.red fa.red fr.is fa.is
  rw [prd_crs] at p2
  refine ⟨_, rfl, rx, cR, dxr, _, _, rfl, ro2 t17, O.clR, O.R_form, lkRf _ _ _ _, _, rfl, ax, cR, dxa, _, _, rfl, t17 _ _ hagain, O.clR, O.R_form, lkRf _ _ _ _, Fo, Fa, n, gr, ga, br, ba, rfl, (fr.same t17).at_, (fa.same t17).at_, hn16, fr.red.pos, ur.1, fa.red.pos, ua.1, ur.2, ua.2, fun v2 H18 s18 hv2 => ?_⟩
  have t18 := t17.trans s18
  show tSeq _ _ _ [some (.ref a), some (.ref dr), some (.int n), some (.ref tn), some (.ref Dl), some (.ref tb), some (.int U), some (.ref md), some (.ref ol), some (.int sh), some (.ref rx), some (.ref ax), some (.ref fx), some (.int (wtd n X ps)), some (.ref v2), none, none, none, none, none, none] _
  have bcr : B 20000 (crs n ps os) := by
    rw [← prd_crs]
    exact (prd_B hn16 bM fun i j _ _ => (wsum_B hob i j).mono (by decide)).mono (by decide)
  refine ⟨_, rfl, _, rfl, dr, _, 1, _, rfl, rfl, dr2 t18, at_pos (by decide) rfl, _, rfl, pl, ol, n, ps, os, rfl, hps.same t18, hpb, hos.same t18, hob, hn16, fun H19 s19 => ?_⟩
  have t19 := t18.trans s19
  refine ⟨_, rfl, dr, _, 2, _, rfl, rfl, dr2 t19, at_pos (by decide) rfl, _, rfl, _, _, rfl, rfl, wmul hbB3 bsh (by decide) (by decide) (by decide), ?_⟩
  refine ⟨v2, _, _, _, _, rfl, hv2.same s19, p2.1, p2.2.1, p2.2.2.1, p2.2.2.2.1, bcr, (B.mul (m := 320) (n := 320) hbB3 bsh).mono (by decide), p2.2.2.2.2, true, rfl, ifF rfl ?_⟩
  have hnn : 0 ≤ prd n gr ga / gI (prd n gr ga) (br * ba) := by
    have e := p2.2.2.2.2
    have h1 := crs_nn (n := n) (fun p m => (hpb.2 p m).1) (fun p m => (hob.2 p m).1)
    have h2 : 0 ≤ crs n ps os * (br * ba / gI (prd n gr ga) (br * ba)) := Int.mul_nonneg h1 (by have := p2.1; omega)
    rw [← e] at h2
    have h3 : 0 < b * sh := Int.mul_pos hb0 (by omega)
    rcases Int.lt_or_le (prd n gr ga / gI (prd n gr ga) (br * ba)) 0 with h | h
    · have := Int.mul_neg_of_neg_of_pos h h3
      omega
    · exact h
  refine ⟨_, rfl, v2, _, 0, _, rfl, rfl, SqT.of (hv2.same s19), at_pos (by decide) rfl, _, _, rfl, rfl, _, rfl, ifF (decide_eq_false (by omega)) ?_⟩
  show tSeq _ _ _ [some (.ref a), some (.ref dr), some (.int n), some (.ref tn), some (.ref Dl), some (.ref tb), some (.int U), some (.ref md), some (.ref ol), some (.int sh), some (.ref rx), some (.ref ax), some (.ref fx), some (.int (wtd n X ps)), some (.ref v2), none, none, none, none, none, none] _
  -- paired(form, rows.form)
  have p3 := pair_st hn16 ff.red fr.red ff.is fr.is
  rw [prd_comm n X, hdue, Int.mul_comm U b] at p3
  refine ⟨_, rfl, _, rfl, rx, cR, dxr, _, _, rfl, ro2 t19, O.clR, O.R_form, lkRf _ _ _ _, fx, Fo, n, gx, gr, bx, br, rfl, (ff.same t19).at_, (fr.same t19).at_, hn16, ff.red.pos, uf.1, fr.red.pos, ur.1, uf.2, ur.2, fun v3 H20 s20 hv3 => ?_⟩
  have t20 := t19.trans s20
  refine ⟨_, rfl, _, rfl, dr, _, 2, _, rfl, rfl, dr2 t20, at_pos (by decide) rfl, _, rfl, _, _, rfl, rfl, mulBU, ?_⟩
  refine ⟨v3, _, _, _, _, rfl, hv3, p3.1, p3.2.1, p3.2.2.1, p3.2.2.2.1, bdue, bbU, p3.2.2.2.2, true, rfl, ifF rfl ?_⟩
  show tSeq _ _ _ [some (.ref a), some (.ref dr), some (.int n), some (.ref tn), some (.ref Dl), some (.ref tb), some (.int U), some (.ref md), some (.ref ol), some (.int sh), some (.ref rx), some (.ref ax), some (.ref fx), some (.int (wtd n X ps)), some (.ref v2), none, none, none, none, none, none] _
  -- paired(form, form)
  have p4 := pair_st hn16 ff.red ff.red ff.is ff.is
  have bff : B 20000 (prd n X X) := (prd_B hn16 bX3 bX3).mono (by decide)
  have bUU : B 20000 (U * U) := (B.mul (m := 320) (n := 320) bU bU).mono (by decide)
  refine ⟨_, rfl, _, rfl, fx, fx, n, gx, gx, bx, bx, rfl, (ff.same t20).at_, (ff.same t20).at_, hn16, ff.red.pos, uf.1, ff.red.pos, uf.1, uf.2, uf.2, fun v4 H21 s21 hv4 => ?_⟩
  have t21 := t20.trans s21
  obtain ⟨us2, hus2, hul2, hur2⟩ := (htb.same t21).at
  refine ⟨_, rfl, tb, rfl, ⟨_, SqL.of hus2⟩, fun D22 hD22 => ?_⟩
  refine lc_m (walk_list (K := K) (a := tb) (xs := us2)) RI (stb_RI (K := K)) (List.range n) (by rw [hul2, List.length_range]) (by rw [List.length_range]; omega) hD22 (fun H' s => SqL.of (s _ _ hus2)) (fun _ _ _ _ => ys_at) (fun i => S n fun j => X i j * X i j) (fun c i x Ha Hb hc sa sb y A B hA => ?_) (fun H22 l22 s22 hl22 rs22 => ?_)
  · obtain ⟨hi, rfl⟩ := in_range hc
    obtain ⟨pr, hp1, hp2⟩ := hur2 i hi
    have e := y.2
    rw [hp1] at e
    cases e
    have sn : Sn K Hb (.ref pr) (tv n (X i)) := .lst (sb _ _ hp2) (FzAll.of_ints _).sn
    exact ⟨rfl, lc_yes ⟨_, rfl, _, rfl, _, _, n, 320, 320, X i, X i, rfl, sn, sn, by omega, fun j hj => bX3 i j hi hj, fun j hj => bX3 i j hi hj, by decide, by decide, by decide, fun H' s => hA _ _ s rfl⟩⟩
  have t22 := t21.trans s22
  refine ⟨D22, _, rfl, SqL.of (by rw [hl22, rs22.ints]), ?_⟩
  refine ⟨_, rfl, _, rfl, _, _, rfl, rfl, wmul bU bU (by decide) (by decide) (by decide), ?_⟩
  refine ⟨v4, _, _, _, _, rfl, hv4.same s22, p4.1, p4.2.1, p4.2.2.1, p4.2.2.2.1, bff, bUU, p4.2.2.2.2, true, rfl, ifF rfl ?_⟩
  show tSeq _ _ _ [some (.ref a), some (.ref dr), some (.int n), some (.ref tn), some (.ref Dl), some (.ref tb), some (.int U), some (.ref md), some (.ref ol), some (.int sh), some (.ref rx), some (.ref ax), some (.ref fx), some (.int (wtd n X ps)), some (.ref v2), none, none, none, none, none, none] _
  -- sandwich(form, form)
  have sf := sand_fa hn16 ff.red ff.red ff.is ff.is
  refine ⟨_, rfl, _, rfl, fx, fx, n, gx, gx, bx, bx, rfl, (ff.same t22).at_, (ff.same t22).at_, hn16, ff.red.pos, ff.red.bb.mono (by decide), ff.red.pos, ff.red.bb.mono (by decide), fun i j hi hj => (ff.red.fb i j hi hj).mono (by decide), fun i j hi hj => (ff.red.fb i j hi hj).mono (by decide), ff.red.sym, fun v5 H23 s23 hv5 => ?_⟩
  have t23 := t22.trans s23
  refine ⟨_, rfl, _, rfl, tb, tb, n, 320, 320, X, X, rfl, htb.same t23, htb.same t23, hn16, bX3, bX3, by decide, by decide, by decide, fun z H24 s24 hz => ?_⟩
  refine ⟨_, rfl, _, rfl, _, _, rfl, rfl, wmul bU bU (by decide) (by decide) (by decide), _, rfl, _, _, rfl, rfl, wmul (m := 640) (B.mul (m := 320) (n := 320) bU bU) bU (by decide) (by decide) (by decide), ?_⟩
  refine ⟨v5, z, n, _, sand n X X, _, U * U * U, rfl, hv5.at (fun o => s24 _ _) (WK.Same.tk s24), hz, by omega, sf.1.mono (by decide), sf.2, (uu_B bU bU).mono (by decide), fun i j hi hj => (sand_B (k := 320) hn16 bX3 bX3 hi hj).mono (by decide), fun H25 s25 => ⟨true, rfl, ifF rfl ?_⟩⟩
  have t25 := t23.trans (s24.trans s25)
  show tSeq _ _ _ [some (.ref a), some (.ref dr), some (.int n), some (.ref tn), some (.ref Dl), some (.ref tb), some (.int U), some (.ref md), some (.ref ol), some (.int sh), some (.ref rx), some (.ref ax), some (.ref fx), some (.int (wtd n X ps)), some (.ref v2), none, none, none, none, none, none] _
  -- point
  refine ⟨_, rfl, _, rfl, tn, _, 6, _, rfl, rfl, SqL.of (t25 _ _ htn), at_pos (by decide) e6, _, rfl, a, ss, 51, rfl, (s013.trans t25).seq ha, by decide, by decide, fun c2 => ⟨c2, rfl, fun ln H26 y26 _ s26 hln => ?_⟩⟩
  refine ⟨ln, n, d6, y26, rfl, hln, hn, fun pt H27 px s27 hpt bpx => ?_⟩
  have t27 := t25.trans (s26.trans s27)
  show tSeq _ _ _ [some (.ref a), some (.ref dr), some (.int n), some (.ref tn), some (.ref Dl), some (.ref tb), some (.int U), some (.ref md), some (.ref ol), some (.int sh), some (.ref rx), some (.ref ax), some (.ref fx), some (.int (wtd n X ps)), some (.ref v2), some (.ref pt), none, none, none, none, none] _
  -- pressed
  refine ⟨_, rfl, _, rfl, _, rfl, _, rfl, rx, cR, dxr, _, _, rfl, ro2 t27, O.clR, O.R_form, lkRf _ _ _ _, _, rfl, _, rfl, dr, _, 2, _, rfl, rfl, dr2 t27, at_pos (by decide) rfl, _, rfl, ?_⟩
  refine ⟨fx, tb, Fo, md, pt, U, b, n, gx, gr, X, wsum ps, bx, br, px, rfl, ff.same t27, htb.same t27, fr.same t27, hmd.same t27, hpt, bpx, sy, bX3, bM, bU, hbB3, hn, fun H28 s28 => ⟨true, rfl, ifF rfl ?_⟩⟩
  have t28 := t27.trans s28
  show tSeq _ _ _ [some (.ref a), some (.ref dr), some (.int n), some (.ref tn), some (.ref Dl), some (.ref tb), some (.int U), some (.ref md), some (.ref ol), some (.int sh), some (.ref rx), some (.ref ax), some (.ref fx), some (.int (wtd n X ps)), some (.ref v2), some (.ref pt), none, none, none, none, none] _
  -- wrong
  refine ⟨_, rfl, _, _, rfl, rfl, ?_⟩
  show tSeq _ _ _ [some (.ref a), some (.ref dr), some (.int n), some (.ref tn), some (.ref Dl), some (.ref tb), some (.int U), some (.ref md), some (.ref ol), some (.int sh), some (.ref rx), some (.ref ax), some (.ref fx), some (.int (wtd n X ps)), some (.ref v2), some (.ref pt), some (.int (n + 1)), none, none, none, none] _
  refine ⟨fun σ' H' => ∃ wn : Int, σ' = [some (.ref a), some (.ref dr), some (.int n), some (.ref tn), some (.ref Dl), some (.ref tb), some (.int U), some (.ref md), some (.ref ol), some (.int sh), some (.ref rx), some (.ref ax), some (.ref fx), some (.int (wtd n X ps)), some (.ref v2), some (.ref pt), some (.int wn), none, none, none, none] ∧ H' = H28 ∧ 0 ≤ wn ∧ wn ≤ 10 ∧ wn ≠ n, ?_, ?_⟩
  · refine ⟨_, rfl, rfl, _, rfl, ite2 (fun c => ?_) (fun c => ?_)⟩
    · have h10 : (n : Int) = 10 := V.int.inj (of_decide_eq_true c)
      exact ⟨_, rfl, _, _, rfl, rfl, (n : Int) - 1, rfl, rfl, by omega, by omega, by omega⟩
    · have h10 : (n : Int) ≠ 10 := fun z => c (int_eq z)
      refine ⟨_, rfl, tn, _, 5, _, rfl, rfl, SqL.of (t28 _ _ htn), at_pos (by decide) e5, rfl, _, rfl, ite2 (fun _ => ?_) (fun _ => ⟨(n : Int) + 1, rfl, rfl, by omega, by omega, by omega⟩)⟩
      refine ⟨_, rfl, _, _, rfl, rfl, _, rfl, ite2 (fun c3 => ?_) (fun _ => ⟨(n : Int) + 1, rfl, rfl, by omega, by omega, by omega⟩)⟩
      have hn0 : 0 < (n : Int) := of_decide_eq_true c3
      exact ⟨_, rfl, _, _, rfl, rfl, (n : Int) - 1, rfl, rfl, by omega, by omega, by omega⟩
  rintro σ H28' ⟨wn, rfl, rfl, w0, w1, w2⟩
  obtain ⟨wk, rfl⟩ : ∃ k : Nat, wn = (k : Int) := ⟨wn.toNat, by omega⟩
  have hwk : wk ≤ 10 := by omega
  have hne : n ≠ wk := fun z => w2 (by rw [z])
  show tSeq _ _ _ [some (.ref a), some (.ref dr), some (.int n), some (.ref tn), some (.ref Dl), some (.ref tb), some (.int U), some (.ref md), some (.ref ol), some (.int sh), some (.ref rx), some (.ref ax), some (.ref fx), some (.int (wtd n X ps)), some (.ref v2), some (.ref pt), some (.int wk), none, none, none, none] _
  -- strange
  refine ⟨_, rfl, _, rfl, Dl, wk, 0, rfl, hll.same t28, hwk, fun tb2 H29 X2 s29 htb2 sy2 bX2 => ?_⟩
  refine ⟨_, rfl, rfl, rfl, fun sx dx4 hsx hdx4 hne4 => ?_⟩
  refine ⟨sx, dx4, _, mat wk X2, U, rfl, upd_same, htb2.sn.same (new_two hsx hdx4), mat_sqr, mat_sym sy2, by rw [mat_len]; omega, hU0, bU.mono (by decide), fun H30 hF2 hbut4 => ⟨rfl, ?_⟩⟩
  rw [mat_len] at hF2
  have t30 := t28.trans (s29.trans (made_same hsx hdx4 hbut4))
  generalize dm (mat wk X2) _ = mm at hF2
  generalize U / gf U (mat wk X2).flatten = bb at hF2
  show tSeq _ _ _ [some (.ref a), some (.ref dr), some (.int n), some (.ref tn), some (.ref Dl), some (.ref tb), some (.int U), some (.ref md), some (.ref ol), some (.int sh), some (.ref rx), some (.ref ax), some (.ref fx), some (.int (wtd n X ps)), some (.ref v2), some (.ref pt), some (.int wk), some (.ref sx), none, none, none] _
  -- refused
  refine ⟨_, rfl, _, rfl, _, rfl, _, rfl, fx, sx, n, wk, _, _, _, _, rfl, (ff.same t30).at_, hF2, hne, fun H31 s31 => ⟨true, rfl, ifF rfl ?_⟩⟩
  have t31 := t30.trans s31
  refine ⟨_, rfl, _, rfl, _, rfl, _, rfl, sx, fx, wk, n, _, _, _, _, rfl, hF2.at (fun o => s31 _ _) (WK.Same.tk s31), (ff.same t31).at_, Ne.symm hne, fun H32 s32 => ⟨true, rfl, ifF rfl ?_⟩⟩
  have t32 := t31.trans s32

  refine ⟨_, rfl, rx, cR, dxr, _, _, rfl, ro2 t32, O.clR, O.R_form, lkRf _ _ _ _, _, rfl, Fo, fx, n, gr, gx, br, bx, rfl, (fr.same t32).at_, (ff.same t32).at_, hn16, fr.red.pos, ur.1, ff.red.pos, uf.1, ur.2, uf.2, fun v9 H33 s33 hv9 => ?_⟩
  have t33 := t32.trans s33
  refine ⟨_, rfl, _, rfl, dr, _, 2, _, rfl, rfl, dr2 t33, at_pos (by decide) rfl, _, rfl, _, _, rfl, rfl, mulBU, ?_⟩
  exact ⟨v9, _, _, _, _, rfl, hv9, p1.1, p1.2.1, p1.2.2.1, p1.2.2.2.1, bdue, bbU, p1.2.2.2.2, q _⟩
end
end P12
/-! What is bound where a class is made with a keyword. -/
namespace P12
open PySem PySem.Spec PyProof.Rows L2 SX EX WK
section
variable {K : PySem.W.Frag} {f : Addr} {fd : FuncData}
theorem kb_Form (F : FunD K "__init__" "Form.__init__" (defArgs s_iForm) (defBody s_iForm) (defScope s_iForm) [] [("bottom", V.int 1)] f fd) : ∃ g, KBn K fd ["self", "entries", "bottom"] 2 ["bottom"] g (fun vs zs => vs ++ zs) := by
  obtain ⟨mv, h⟩ := F.kbinds0 (ps := ["self", "entries", "bottom"]) 2 ["bottom"] [] (fun a _ c => a ++ c) (by simp) (fun q h => nomatch h) (fun r _ t => r.append t) (fun D doc pm an cdv ct us mv ws h1 h2 h3 => match us, mv, ws, h1, h2, h3 with
    | [_, _], [], [_], _, _, _ => rfl)
  exact ⟨_, h⟩
theorem kb_RowList (F : FunD K "__init__" "RowList.__init__" (defArgs s_iRowList) (defBody s_iRowList) (defScope s_iRowList) [] [("bottom", V.int 1)] f fd) : ∃ g, KBn K fd ["self", "size", "pairs", "bottom"] 3 ["bottom"] g (fun vs zs => vs ++ zs) := by
  obtain ⟨mv, h⟩ := F.kbinds0 (ps := ["self", "size", "pairs", "bottom"]) 3 ["bottom"] [] (fun a _ c => a ++ c) (by simp) (fun q h => nomatch h) (fun r _ t => r.append t) (fun D doc pm an cdv ct us mv ws h1 h2 h3 => match us, mv, ws, h1, h2, h3 with
    | [_, _, _], [], [_], _, _, _ => rfl)
  exact ⟨_, h⟩
/-- what stands of such a def -/
theorem funD_of {x qual : Str} {st : Stmt} {D : Addr} {od an : Option Addr} {sl : Array (Option Value)} {oc dc pm cd ct : Value} {tk : Tok} (l : K.lookup f = some ⟨oc, od, .func (PySem.W.fnOf x qual (defArgs st) (defBody st) (defScope st) .none (.ref D) dc pm an cd ct), sl⟩) (c : PySem.W.codeIn K cd qual = true) (k : PySem.W.keepIn K (.ref f) = true)
    (d : PySem.W.nsIn K D "bottom" = some (some (.int 1 tk))) : FunD K x qual (defArgs st) (defBody st) (defScope st) [] [("bottom", V.int 1)] f (PySem.W.fnOf x qual (defArgs st) (defBody st) (defScope st) .none (.ref D) dc pm an cd ct) :=
  ⟨⟨_, _, _, _, _, _, _, _, _, _, rfl, l, c, .inl ⟨rfl, rfl⟩, .inr ⟨D, rfl, fun q hq => by rw [List.mem_singleton.mp hq]; exact ⟨_, d, _, rfl⟩⟩⟩, k⟩
end
end P12
namespace P12
open PySem PySem.Spec PyProof.Rows L2 SX EX WK
theorem all_mk {l : PySem.W.OpenLaw} {w : World} {K : PySem.W.Frag} {h : Heap} {mg : Str → Option Value} {fa f1 f2 f3 f4 f5 f6 f7 f8 f9 f10 f11 f12 f13 f14 f15 f16 f17 f18 f19 f20 f21 f22 f23 f24 f25 f26 f27 f28 f29 f30 f31 f32 f33 f34 f35 f36 f37 f38 f39 f40 f41 f42 f43 f44 c_CableError c_SizesDiffer c_BelowZero c_CountsDiffer c_NoSolution c_Form c_RowList : Addr} (X : K.In h) (G : h.Ns mainGlobals mg) (hfa : mg "law" = some (.ref fa))
    {od1 an1 od2 an2 od3 an3 od4 an4 od5 an5 od6 an6 od7 an7 od8 an8 od9 an9 od10 an10 od11 an11 od12 an12 od13 an13 od14 an14 od15 an15 od16 an16 od17 an17 od18 an18 od19 an19 od20 an20 od21 an21 od22 an22 od23 an23 od24 an24 od25 an25 od26 an26 od27 an27 od28 an28 od29 an29 od30 an30 od31 an31 od32 an32 od33 an33 od34 an34 od35 an35 od36 an36 od37 an37 od38 an38 od39 an39 od40 an40 od41 an41 od42 an42 od43 an43 od44 an44 : Option Addr}
    {sl1 sl2 sl3 sl4 sl5 sl6 sl7 sl8 sl9 sl10 sl11 sl12 sl13 sl14 sl15 sl16 sl17 sl18 sl19 sl20 sl21 sl22 sl23 sl24 sl25 sl26 sl27 sl28 sl29 sl30 sl31 sl32 sl33 sl34 sl35 sl36 sl37 sl38 sl39 sl40 sl41 sl42 sl43 sl44 : Array (Option Value)} {oc1 kV1 dc1 pm1 cd1 ct1 oc2 kV2 dc2 pm2 cd2 ct2 oc3 kV3 dc3 pm3 cd3 ct3 oc4 kV4 dc4 pm4 cd4 ct4 oc5 kV5 dc5 pm5 cd5 ct5 oc6 kV6 dc6 pm6 cd6 ct6 oc7 kV7 dc7 pm7 cd7 ct7 oc8 kV8 dc8 pm8 cd8 ct8 oc9 kV9 dc9 pm9 cd9 ct9 oc10 kV10 dc10 pm10 cd10 ct10 oc11 kV11 dc11 pm11 cd11 ct11 oc12 kV12 dc12 pm12 cd12 ct12 oc13 kV13 dc13 pm13 cd13 ct13 oc14 kV14 dc14 pm14 cd14 ct14 oc15 kV15 dc15 pm15 cd15 ct15 oc16 kV16 dc16 pm16 cd16 ct16 oc17 kV17 dc17 pm17 cd17 ct17 oc18 kV18 dc18 pm18 cd18 ct18 oc19 kV19 dc19 pm19 cd19 ct19 oc20 kV20 dc20 pm20 cd20 ct20 oc21 kV21 dc21 pm21 cd21 ct21 oc22 kV22 dc22 pm22 cd22 ct22 oc23 kV23 dc23 pm23 cd23 ct23 oc24 kV24 dc24 pm24 cd24 ct24 oc25 kV25 dc25 pm25 cd25 ct25 oc26 kV26 dc26 pm26 cd26 ct26 oc27 kV27 dc27 pm27 cd27 ct27 oc28 kV28 dc28 pm28 cd28 ct28 oc29 kV29 dc29 pm29 cd29 ct29 oc30 kV30 dc30 pm30 cd30 ct30 oc31 kV31 dc31 pm31 cd31 ct31 oc32 kV32 dc32 pm32 cd32 ct32 oc33 kV33 dc33 pm33 cd33 ct33 oc34 kV34 dc34 pm34 cd34 ct34 oc35 kV35 dc35 pm35 cd35 ct35 oc36 kV36 dc36 pm36 cd36 ct36 oc37 kV37 dc37 pm37 cd37 ct37 oc38 kV38 dc38 pm38 cd38 ct38 oc39 kV39 dc39 pm39 cd39 ct39 oc40 kV40 dc40 pm40 cd40 ct40 oc41 kV41 dc41 pm41 cd41 ct41 oc42 kV42 dc42 pm42 cd42 ct42 oc43 kV43 dc43 pm43 cd43 ct43 oc44 kV44 dc44 pm44 cd44 ct44 : Value}
    {nm_SizesDiffer q_SizesDiffer : Str} {N_SizesDiffer : Addr} {bs_SizesDiffer sub_SizesDiffer : List Value} {sn_SizesDiffer : List Str} {ab_SizesDiffer : Bool} {col_SizesDiffer : Option Bool} {dd_SizesDiffer : Option Addr} {m0_SizesDiffer m1_SizesDiffer m2_SizesDiffer m3_SizesDiffer m5_SizesDiffer : Option Value}
    {f_SizesDiffer : Addr} {odi_SizesDiffer ani_SizesDiffer : Option Addr} {sli_SizesDiffer : Array (Option Value)} {oci_SizesDiffer kVi_SizesDiffer dci_SizesDiffer pmi_SizesDiffer cdi_SizesDiffer cti_SizesDiffer : Value}
    {f_Form D_Form : Addr} {odi_Form ani_Form : Option Addr} {sli_Form : Array (Option Value)} {oci_Form dci_Form pmi_Form cdi_Form cti_Form : Value} {tki_Form : Tok}
    {f_RowList D_RowList : Addr} {odi_RowList ani_RowList : Option Addr} {sli_RowList : Array (Option Value)} {oci_RowList dci_RowList pmi_RowList cdi_RowList cti_RowList : Value} {tki_RowList : Tok}
    {h_mcall : Addr} {odm_mcall anm_mcall : Option Addr} {slm_mcall : Array (Option Value)} {ocm_mcall kVm_mcall dcm_mcall pmm_mcall cdm_mcall ctm_mcall : Value}
    {h_mbetween : Addr} {odm_mbetween anm_mbetween : Option Addr} {slm_mbetween : Array (Option Value)} {ocm_mbetween kVm_mbetween dcm_mbetween pmm_mbetween cdm_mbetween ctm_mbetween : Value}
    {h_mat : Addr} {odm_mat anm_mat : Option Addr} {slm_mat : Array (Option Value)} {ocm_mat kVm_mat dcm_mat pmm_mat cdm_mat ctm_mat : Value}
    {h_mapplied : Addr} {odm_mapplied anm_mapplied : Option Addr} {slm_mapplied : Array (Option Value)} {ocm_mapplied kVm_mapplied dcm_mapplied pmm_mapplied cdm_mapplied ctm_mapplied : Value}
    (a1 : PySem.W.nsIn K mainGlobals "frozen_numbers" = some (some (.ref f1))) (l1 : K.lookup f1 = some ⟨oc1, od1, .func (PySem.W.fnOf "frozen_numbers" "frozen_numbers" (defArgs s_frozen_numbers) (defBody s_frozen_numbers) (defScope s_frozen_numbers) .none kV1 dc1 pm1 an1 cd1 ct1), sl1⟩) (c1 : PySem.W.codeIn K cd1 "frozen_numbers" = true) (k1 : PySem.W.keepIn K (.ref f1) = true)
    (a2 : PySem.W.nsIn K mainGlobals "frozen_part" = some (some (.ref f2))) (l2 : K.lookup f2 = some ⟨oc2, od2, .func (PySem.W.fnOf "frozen_part" "frozen_part" (defArgs s_frozen_part) (defBody s_frozen_part) (defScope s_frozen_part) .none kV2 dc2 pm2 an2 cd2 ct2), sl2⟩) (c2 : PySem.W.codeIn K cd2 "frozen_part" = true) (k2 : PySem.W.keepIn K (.ref f2) = true)
    (a3 : PySem.W.nsIn K mainGlobals "frozen" = some (some (.ref f3))) (l3 : K.lookup f3 = some ⟨oc3, od3, .func (PySem.W.fnOf "frozen" "frozen" (defArgs s_frozen) (defBody s_frozen) (defScope s_frozen) .none kV3 dc3 pm3 an3 cd3 ct3), sl3⟩) (c3 : PySem.W.codeIn K cd3 "frozen" = true) (k3 : PySem.W.keepIn K (.ref f3) = true)
    (a4 : PySem.W.nsIn K mainGlobals "lowered" = some (some (.ref f4))) (l4 : K.lookup f4 = some ⟨oc4, od4, .func (PySem.W.fnOf "lowered" "lowered" (defArgs s_lowered) (defBody s_lowered) (defScope s_lowered) .none kV4 dc4 pm4 an4 cd4 ct4), sl4⟩) (c4 : PySem.W.codeIn K cd4 "lowered" = true) (k4 : PySem.W.keepIn K (.ref f4) = true)
    (a5 : PySem.W.nsIn K mainGlobals "fraction" = some (some (.ref f5))) (l5 : K.lookup f5 = some ⟨oc5, od5, .func (PySem.W.fnOf "fraction" "fraction" (defArgs s_fraction) (defBody s_fraction) (defScope s_fraction) .none kV5 dc5 pm5 an5 cd5 ct5), sl5⟩) (c5 : PySem.W.codeIn K cd5 "fraction" = true) (k5 : PySem.W.keepIn K (.ref f5) = true)
    (a6 : PySem.W.nsIn K mainGlobals "vector" = some (some (.ref f6))) (l6 : K.lookup f6 = some ⟨oc6, od6, .func (PySem.W.fnOf "vector" "vector" (defArgs s_vector) (defBody s_vector) (defScope s_vector) .none kV6 dc6 pm6 an6 cd6 ct6), sl6⟩) (c6 : PySem.W.codeIn K cd6 "vector" = true) (k6 : PySem.W.keepIn K (.ref f6) = true)
    (a7 : PySem.W.nsIn K mainGlobals "dot" = some (some (.ref f7))) (l7 : K.lookup f7 = some ⟨oc7, od7, .func (PySem.W.fnOf "dot" "dot" (defArgs s_dot) (defBody s_dot) (defScope s_dot) .none kV7 dc7 pm7 an7 cd7 ct7), sl7⟩) (c7 : PySem.W.codeIn K cd7 "dot" = true) (k7 : PySem.W.keepIn K (.ref f7) = true)
    (a8 : PySem.W.nsIn K mainGlobals "check_square" = some (some (.ref f8))) (l8 : K.lookup f8 = some ⟨oc8, od8, .func (PySem.W.fnOf "check_square" "check_square" (defArgs s_check_square) (defBody s_check_square) (defScope s_check_square) .none kV8 dc8 pm8 an8 cd8 ct8), sl8⟩) (c8 : PySem.W.codeIn K cd8 "check_square" = true) (k8 : PySem.W.keepIn K (.ref f8) = true)
    (a9 : PySem.W.nsIn K mainGlobals "check_symmetric" = some (some (.ref f9))) (l9 : K.lookup f9 = some ⟨oc9, od9, .func (PySem.W.fnOf "check_symmetric" "check_symmetric" (defArgs s_check_symmetric) (defBody s_check_symmetric) (defScope s_check_symmetric) .none kV9 dc9 pm9 an9 cd9 ct9), sl9⟩) (c9 : PySem.W.codeIn K cd9 "check_symmetric" = true) (k9 : PySem.W.keepIn K (.ref f9) = true)
    (a10 : PySem.W.nsIn K mainGlobals "check_point" = some (some (.ref f10))) (l10 : K.lookup f10 = some ⟨oc10, od10, .func (PySem.W.fnOf "check_point" "check_point" (defArgs s_check_point) (defBody s_check_point) (defScope s_check_point) .none kV10 dc10 pm10 an10 cd10 ct10), sl10⟩) (c10 : PySem.W.codeIn K cd10 "check_point" = true) (k10 : PySem.W.keepIn K (.ref f10) = true)
    (a11 : PySem.W.nsIn K mainGlobals "same_size" = some (some (.ref f11))) (l11 : K.lookup f11 = some ⟨oc11, od11, .func (PySem.W.fnOf "same_size" "same_size" (defArgs s_same_size) (defBody s_same_size) (defScope s_same_size) .none kV11 dc11 pm11 an11 cd11 ct11), sl11⟩) (c11 : PySem.W.codeIn K cd11 "same_size" = true) (k11 : PySem.W.keepIn K (.ref f11) = true)
    (a12 : PySem.W.nsIn K mainGlobals "paired" = some (some (.ref f12))) (l12 : K.lookup f12 = some ⟨oc12, od12, .func (PySem.W.fnOf "paired" "paired" (defArgs s_paired) (defBody s_paired) (defScope s_paired) .none kV12 dc12 pm12 an12 cd12 ct12), sl12⟩) (c12 : PySem.W.codeIn K cd12 "paired" = true) (k12 : PySem.W.keepIn K (.ref f12) = true)
    (a13 : PySem.W.nsIn K mainGlobals "times_symmetric" = some (some (.ref f13))) (l13 : K.lookup f13 = some ⟨oc13, od13, .func (PySem.W.fnOf "times_symmetric" "times_symmetric" (defArgs s_times_symmetric) (defBody s_times_symmetric) (defScope s_times_symmetric) .none kV13 dc13 pm13 an13 cd13 ct13), sl13⟩) (c13 : PySem.W.codeIn K cd13 "times_symmetric" = true) (k13 : PySem.W.keepIn K (.ref f13) = true)
    (a14 : PySem.W.nsIn K mainGlobals "sandwich" = some (some (.ref f14))) (l14 : K.lookup f14 = some ⟨oc14, od14, .func (PySem.W.fnOf "sandwich" "sandwich" (defArgs s_sandwich) (defBody s_sandwich) (defScope s_sandwich) .none kV14 dc14 pm14 an14 cd14 ct14), sl14⟩) (c14 : PySem.W.codeIn K cd14 "sandwich" = true) (k14 : PySem.W.keepIn K (.ref f14) = true)
    (a15 : PySem.W.nsIn K mainGlobals "check_pairs" = some (some (.ref f15))) (l15 : K.lookup f15 = some ⟨oc15, od15, .func (PySem.W.fnOf "check_pairs" "check_pairs" (defArgs s_check_pairs) (defBody s_check_pairs) (defScope s_check_pairs) .none kV15 dc15 pm15 an15 cd15 ct15), sl15⟩) (c15 : PySem.W.codeIn K cd15 "check_pairs" = true) (k15 : PySem.W.keepIn K (.ref f15) = true)
    (a16 : PySem.W.nsIn K mainGlobals "weighted_sum" = some (some (.ref f16))) (l16 : K.lookup f16 = some ⟨oc16, od16, .func (PySem.W.fnOf "weighted_sum" "weighted_sum" (defArgs s_weighted_sum) (defBody s_weighted_sum) (defScope s_weighted_sum) .none kV16 dc16 pm16 an16 cd16 ct16), sl16⟩) (c16 : PySem.W.codeIn K cd16 "weighted_sum" = true) (k16 : PySem.W.keepIn K (.ref f16) = true)
    (a17 : PySem.W.nsIn K mainGlobals "weighted_matrix" = some (some (.ref f17))) (l17 : K.lookup f17 = some ⟨oc17, od17, .func (PySem.W.fnOf "weighted_matrix" "weighted_matrix" (defArgs s_weighted_matrix) (defBody s_weighted_matrix) (defScope s_weighted_matrix) .none kV17 dc17 pm17 an17 cd17 ct17), sl17⟩) (c17 : PySem.W.codeIn K cd17 "weighted_matrix" = true) (k17 : PySem.W.keepIn K (.ref f17) = true)
    (a18 : PySem.W.nsIn K mainGlobals "_law_whole" = some (some (.ref f18))) (l18 : K.lookup f18 = some ⟨oc18, od18, .func (PySem.W.fnOf "_law_whole" "_law_whole" (defArgs s__law_whole) (defBody s__law_whole) (defScope s__law_whole) .none kV18 dc18 pm18 an18 cd18 ct18), sl18⟩) (c18 : PySem.W.codeIn K cd18 "_law_whole" = true) (k18 : PySem.W.keepIn K (.ref f18) = true)
    (a19 : PySem.W.nsIn K mainGlobals "_law_cell" = some (some (.ref f19))) (l19 : K.lookup f19 = some ⟨oc19, od19, .func (PySem.W.fnOf "_law_cell" "_law_cell" (defArgs s__law_cell) (defBody s__law_cell) (defScope s__law_cell) .none kV19 dc19 pm19 an19 cd19 ct19), sl19⟩) (c19 : PySem.W.codeIn K cd19 "_law_cell" = true) (k19 : PySem.W.keepIn K (.ref f19) = true)
    (a20 : PySem.W.nsIn K mainGlobals "_law_digits" = some (some (.ref f20))) (l20 : K.lookup f20 = some ⟨oc20, od20, .func (PySem.W.fnOf "_law_digits" "_law_digits" (defArgs s__law_digits) (defBody s__law_digits) (defScope s__law_digits) .none kV20 dc20 pm20 an20 cd20 ct20), sl20⟩) (c20 : PySem.W.codeIn K cd20 "_law_digits" = true) (k20 : PySem.W.keepIn K (.ref f20) = true)
    (a21 : PySem.W.nsIn K mainGlobals "_law_gcd" = some (some (.ref f21))) (l21 : K.lookup f21 = some ⟨oc21, od21, .func (PySem.W.fnOf "_law_gcd" "_law_gcd" (defArgs s__law_gcd) (defBody s__law_gcd) (defScope s__law_gcd) .none kV21 dc21 pm21 an21 cd21 ct21), sl21⟩) (c21 : PySem.W.codeIn K cd21 "_law_gcd" = true) (k21 : PySem.W.keepIn K (.ref f21) = true)
    (a22 : PySem.W.nsIn K mainGlobals "_law_is_fraction" = some (some (.ref f22))) (l22 : K.lookup f22 = some ⟨oc22, od22, .func (PySem.W.fnOf "_law_is_fraction" "_law_is_fraction" (defArgs s__law_is_fraction) (defBody s__law_is_fraction) (defScope s__law_is_fraction) .none kV22 dc22 pm22 an22 cd22 ct22), sl22⟩) (c22 : PySem.W.codeIn K cd22 "_law_is_fraction" = true) (k22 : PySem.W.keepIn K (.ref f22) = true)
    (a23 : PySem.W.nsIn K mainGlobals "_law_stands" = some (some (.ref f23))) (l23 : K.lookup f23 = some ⟨oc23, od23, .func (PySem.W.fnOf "_law_stands" "_law_stands" (defArgs s__law_stands) (defBody s__law_stands) (defScope s__law_stands) .none kV23 dc23 pm23 an23 cd23 ct23), sl23⟩) (c23 : PySem.W.codeIn K cd23 "_law_stands" = true) (k23 : PySem.W.keepIn K (.ref f23) = true)
    (a24 : PySem.W.nsIn K mainGlobals "_law_is_point" = some (some (.ref f24))) (l24 : K.lookup f24 = some ⟨oc24, od24, .func (PySem.W.fnOf "_law_is_point" "_law_is_point" (defArgs s__law_is_point) (defBody s__law_is_point) (defScope s__law_is_point) .none kV24 dc24 pm24 an24 cd24 ct24), sl24⟩) (c24 : PySem.W.codeIn K cd24 "_law_is_point" = true) (k24 : PySem.W.keepIn K (.ref f24) = true)
    (a25 : PySem.W.nsIn K mainGlobals "_law_dot" = some (some (.ref f25))) (l25 : K.lookup f25 = some ⟨oc25, od25, .func (PySem.W.fnOf "_law_dot" "_law_dot" (defArgs s__law_dot) (defBody s__law_dot) (defScope s__law_dot) .none kV25 dc25 pm25 an25 cd25 ct25), sl25⟩) (c25 : PySem.W.codeIn K cd25 "_law_dot" = true) (k25 : PySem.W.keepIn K (.ref f25) = true)
    (a26 : PySem.W.nsIn K mainGlobals "_law_table" = some (some (.ref f26))) (l26 : K.lookup f26 = some ⟨oc26, od26, .func (PySem.W.fnOf "_law_table" "_law_table" (defArgs s__law_table) (defBody s__law_table) (defScope s__law_table) .none kV26 dc26 pm26 an26 cd26 ct26), sl26⟩) (c26 : PySem.W.codeIn K cd26 "_law_table" = true) (k26 : PySem.W.keepIn K (.ref f26) = true)
    (a27 : PySem.W.nsIn K mainGlobals "_law_value" = some (some (.ref f27))) (l27 : K.lookup f27 = some ⟨oc27, od27, .func (PySem.W.fnOf "_law_value" "_law_value" (defArgs s__law_value) (defBody s__law_value) (defScope s__law_value) .none kV27 dc27 pm27 an27 cd27 ct27), sl27⟩) (c27 : PySem.W.codeIn K cd27 "_law_value" = true) (k27 : PySem.W.keepIn K (.ref f27) = true)
    (a28 : PySem.W.nsIn K mainGlobals "_law_sandwich" = some (some (.ref f28))) (l28 : K.lookup f28 = some ⟨oc28, od28, .func (PySem.W.fnOf "_law_sandwich" "_law_sandwich" (defArgs s__law_sandwich) (defBody s__law_sandwich) (defScope s__law_sandwich) .none kV28 dc28 pm28 an28 cd28 ct28), sl28⟩) (c28 : PySem.W.codeIn K cd28 "_law_sandwich" = true) (k28 : PySem.W.keepIn K (.ref f28) = true)
    (a29 : PySem.W.nsIn K mainGlobals "_law_draw_row" = some (some (.ref f29))) (l29 : K.lookup f29 = some ⟨oc29, od29, .func (PySem.W.fnOf "_law_draw_row" "_law_draw_row" (defArgs s__law_draw_row) (defBody s__law_draw_row) (defScope s__law_draw_row) .none kV29 dc29 pm29 an29 cd29 ct29), sl29⟩) (c29 : PySem.W.codeIn K cd29 "_law_draw_row" = true) (k29 : PySem.W.keepIn K (.ref f29) = true)
    (a30 : PySem.W.nsIn K mainGlobals "_law_draw_weight" = some (some (.ref f30))) (l30 : K.lookup f30 = some ⟨oc30, od30, .func (PySem.W.fnOf "_law_draw_weight" "_law_draw_weight" (defArgs s__law_draw_weight) (defBody s__law_draw_weight) (defScope s__law_draw_weight) .none kV30 dc30 pm30 an30 cd30 ct30), sl30⟩) (c30 : PySem.W.codeIn K cd30 "_law_draw_weight" = true) (k30 : PySem.W.keepIn K (.ref f30) = true)
    (a31 : PySem.W.nsIn K mainGlobals "_law_line" = some (some (.ref f31))) (l31 : K.lookup f31 = some ⟨oc31, od31, .func (PySem.W.fnOf "_law_line" "_law_line" (defArgs s__law_line) (defBody s__law_line) (defScope s__law_line) .none kV31 dc31 pm31 an31 cd31 ct31), sl31⟩) (c31 : PySem.W.codeIn K cd31 "_law_line" = true) (k31 : PySem.W.keepIn K (.ref f31) = true)
    (a32 : PySem.W.nsIn K mainGlobals "_law_seven" = some (some (.ref f32))) (l32 : K.lookup f32 = some ⟨oc32, od32, .func (PySem.W.fnOf "_law_seven" "_law_seven" (defArgs s__law_seven) (defBody s__law_seven) (defScope s__law_seven) .none kV32 dc32 pm32 an32 cd32 ct32), sl32⟩) (c32 : PySem.W.codeIn K cd32 "_law_seven" = true) (k32 : PySem.W.keepIn K (.ref f32) = true)
    (a33 : PySem.W.nsIn K mainGlobals "_law_wide" = some (some (.ref f33))) (l33 : K.lookup f33 = some ⟨oc33, od33, .func (PySem.W.fnOf "_law_wide" "_law_wide" (defArgs s__law_wide) (defBody s__law_wide) (defScope s__law_wide) .none kV33 dc33 pm33 an33 cd33 ct33), sl33⟩) (c33 : PySem.W.codeIn K cd33 "_law_wide" = true) (k33 : PySem.W.keepIn K (.ref f33) = true)
    (a34 : PySem.W.nsIn K mainGlobals "_law_row" = some (some (.ref f34))) (l34 : K.lookup f34 = some ⟨oc34, od34, .func (PySem.W.fnOf "_law_row" "_law_row" (defArgs s__law_row) (defBody s__law_row) (defScope s__law_row) .none kV34 dc34 pm34 an34 cd34 ct34), sl34⟩) (c34 : PySem.W.codeIn K cd34 "_law_row" = true) (k34 : PySem.W.keepIn K (.ref f34) = true)
    (a35 : PySem.W.nsIn K mainGlobals "_law_draw_pairs" = some (some (.ref f35))) (l35 : K.lookup f35 = some ⟨oc35, od35, .func (PySem.W.fnOf "_law_draw_pairs" "_law_draw_pairs" (defArgs s__law_draw_pairs) (defBody s__law_draw_pairs) (defScope s__law_draw_pairs) .none kV35 dc35 pm35 an35 cd35 ct35), sl35⟩) (c35 : PySem.W.codeIn K cd35 "_law_draw_pairs" = true) (k35 : PySem.W.keepIn K (.ref f35) = true)
    (a36 : PySem.W.nsIn K mainGlobals "_law_draw_list" = some (some (.ref f36))) (l36 : K.lookup f36 = some ⟨oc36, od36, .func (PySem.W.fnOf "_law_draw_list" "_law_draw_list" (defArgs s__law_draw_list) (defBody s__law_draw_list) (defScope s__law_draw_list) .none kV36 dc36 pm36 an36 cd36 ct36), sl36⟩) (c36 : PySem.W.codeIn K cd36 "_law_draw_list" = true) (k36 : PySem.W.keepIn K (.ref f36) = true)
    (a37 : PySem.W.nsIn K mainGlobals "_law_any_table" = some (some (.ref f37))) (l37 : K.lookup f37 = some ⟨oc37, od37, .func (PySem.W.fnOf "_law_any_table" "_law_any_table" (defArgs s__law_any_table) (defBody s__law_any_table) (defScope s__law_any_table) .none kV37 dc37 pm37 an37 cd37 ct37), sl37⟩) (c37 : PySem.W.codeIn K cd37 "_law_any_table" = true) (k37 : PySem.W.keepIn K (.ref f37) = true)
    (a38 : PySem.W.nsIn K mainGlobals "_law_is_form" = some (some (.ref f38))) (l38 : K.lookup f38 = some ⟨oc38, od38, .func (PySem.W.fnOf "_law_is_form" "_law_is_form" (defArgs s__law_is_form) (defBody s__law_is_form) (defScope s__law_is_form) .none kV38 dc38 pm38 an38 cd38 ct38), sl38⟩) (c38 : PySem.W.codeIn K cd38 "_law_is_form" = true) (k38 : PySem.W.keepIn K (.ref f38) = true)
    (a39 : PySem.W.nsIn K mainGlobals "_law_form_is" = some (some (.ref f39))) (l39 : K.lookup f39 = some ⟨oc39, od39, .func (PySem.W.fnOf "_law_form_is" "_law_form_is" (defArgs s__law_form_is) (defBody s__law_form_is) (defScope s__law_form_is) .none kV39 dc39 pm39 an39 cd39 ct39), sl39⟩) (c39 : PySem.W.codeIn K cd39 "_law_form_is" = true) (k39 : PySem.W.keepIn K (.ref f39) = true)
    (a40 : PySem.W.nsIn K mainGlobals "_law_weighted" = some (some (.ref f40))) (l40 : K.lookup f40 = some ⟨oc40, od40, .func (PySem.W.fnOf "_law_weighted" "_law_weighted" (defArgs s__law_weighted) (defBody s__law_weighted) (defScope s__law_weighted) .none kV40 dc40 pm40 an40 cd40 ct40), sl40⟩) (c40 : PySem.W.codeIn K cd40 "_law_weighted" = true) (k40 : PySem.W.keepIn K (.ref f40) = true)
    (a41 : PySem.W.nsIn K mainGlobals "_law_crossed" = some (some (.ref f41))) (l41 : K.lookup f41 = some ⟨oc41, od41, .func (PySem.W.fnOf "_law_crossed" "_law_crossed" (defArgs s__law_crossed) (defBody s__law_crossed) (defScope s__law_crossed) .none kV41 dc41 pm41 an41 cd41 ct41), sl41⟩) (c41 : PySem.W.codeIn K cd41 "_law_crossed" = true) (k41 : PySem.W.keepIn K (.ref f41) = true)
    (a42 : PySem.W.nsIn K mainGlobals "_law_refused" = some (some (.ref f42))) (l42 : K.lookup f42 = some ⟨oc42, od42, .func (PySem.W.fnOf "_law_refused" "_law_refused" (defArgs s__law_refused) (defBody s__law_refused) (defScope s__law_refused) .none kV42 dc42 pm42 an42 cd42 ct42), sl42⟩) (c42 : PySem.W.codeIn K cd42 "_law_refused" = true) (k42 : PySem.W.keepIn K (.ref f42) = true)
    (a43 : PySem.W.nsIn K mainGlobals "_law_pressed" = some (some (.ref f43))) (l43 : K.lookup f43 = some ⟨oc43, od43, .func (PySem.W.fnOf "_law_pressed" "_law_pressed" (defArgs s__law_pressed) (defBody s__law_pressed) (defScope s__law_pressed) .none kV43 dc43 pm43 an43 cd43 ct43), sl43⟩) (c43 : PySem.W.codeIn K cd43 "_law_pressed" = true) (k43 : PySem.W.keepIn K (.ref f43) = true)
    (a44 : PySem.W.nsIn K mainGlobals "law" = some (some (.ref f44))) (l44 : K.lookup f44 = some ⟨oc44, od44, .func (PySem.W.fnOf "law" "law" (defArgs s_law) (defBody s_law) (defScope s_law) .none kV44 dc44 pm44 an44 cd44 ct44), sl44⟩) (c44 : PySem.W.codeIn K cd44 "law" = true) (k44 : PySem.W.keepIn K (.ref f44) = true)
    (z0 : PySem.W.nsIn K mainGlobals "len" = some none)
    (z1 : PySem.W.nsIn K mainGlobals "int" = some none)
    (z2 : PySem.W.nsIn K mainGlobals "bool" = some none)
    (z3 : PySem.W.nsIn K mainGlobals "tuple" = some none)
    (z4 : PySem.W.nsIn K mainGlobals "list" = some none)
    (z5 : PySem.W.nsIn K mainGlobals "isinstance" = some none)
    (z6 : PySem.W.nsIn K mainGlobals "range" = some none)
    (z7 : PySem.W.nsIn K mainGlobals "enumerate" = some none)
    (z8 : PySem.W.nsIn K mainGlobals "zip" = some none)
    (z9 : PySem.W.nsIn K mainGlobals "sum" = some none)
    (z10 : PySem.W.nsIn K mainGlobals "min" = some none)
    (z11 : PySem.W.nsIn K mainGlobals "abs" = some none)
    (z12 : PySem.W.nsIn K mainGlobals "all" = some none)
    (z13 : PySem.W.nsIn K mainGlobals "ValueError" = some none)
    (g_gcd : PySem.W.nsIn K mainGlobals "gcd" = some (some (.builtin "math.gcd")))
    (a_CableError : PySem.W.nsIn K mainGlobals "CableError" = some (some (.ref c_CableError)))
    (a_SizesDiffer : PySem.W.nsIn K mainGlobals "SizesDiffer" = some (some (.ref c_SizesDiffer)))
    (a_BelowZero : PySem.W.nsIn K mainGlobals "BelowZero" = some (some (.ref c_BelowZero)))
    (a_CountsDiffer : PySem.W.nsIn K mainGlobals "CountsDiffer" = some (some (.ref c_CountsDiffer)))
    (a_NoSolution : PySem.W.nsIn K mainGlobals "NoSolution" = some (some (.ref c_NoSolution)))
    (a_Form : PySem.W.nsIn K mainGlobals "Form" = some (some (.ref c_Form)))
    (a_RowList : PySem.W.nsIn K mainGlobals "RowList" = some (some (.ref c_RowList)))
    (i_CableError : PySem.W.isClsIn K c_CableError = true)
    (y_CableError : PySem.W.typeIn K (.ref c_CableError) = some (.type "type"))
    (i_SizesDiffer : PySem.W.isClsIn K c_SizesDiffer = true)
    (y_SizesDiffer : PySem.W.typeIn K (.ref c_SizesDiffer) = some (.type "type"))
    (i_BelowZero : PySem.W.isClsIn K c_BelowZero = true)
    (y_BelowZero : PySem.W.typeIn K (.ref c_BelowZero) = some (.type "type"))
    (i_CountsDiffer : PySem.W.isClsIn K c_CountsDiffer = true)
    (y_CountsDiffer : PySem.W.typeIn K (.ref c_CountsDiffer) = some (.type "type"))
    (i_NoSolution : PySem.W.isClsIn K c_NoSolution = true)
    (y_NoSolution : PySem.W.typeIn K (.ref c_NoSolution) = some (.type "type"))
    (b_CableError : PySem.W.subIn K (.ref c_CableError) (.type "BaseException") = some true)
    (b_SizesDiffer : PySem.W.subIn K (.ref c_SizesDiffer) (.type "BaseException") = some true)
    (xl_SizesDiffer : K.lookup c_SizesDiffer = some (excClassObj nm_SizesDiffer q_SizesDiffer c_SizesDiffer N_SizesDiffer bs_SizesDiffer [.ref c_CableError, .type "ValueError", .type "Exception", .type "BaseException", .type "object"] true sn_SizesDiffer sub_SizesDiffer ab_SizesDiffer col_SizesDiffer dd_SizesDiffer m0_SizesDiffer m1_SizesDiffer m2_SizesDiffer m3_SizesDiffer m5_SizesDiffer "ValueError.__new__"))
    (sa_SizesDiffer : PySem.W.findIn K (.ref c_SizesDiffer) "__setattr__" = some (some (.builtin "object.__setattr__")))
    (ga_SizesDiffer : PySem.W.findIn K (.ref c_SizesDiffer) "__getattribute__" = some (some (.builtin "BaseException.__getattribute__")))
    (gg_SizesDiffer : PySem.W.findIn K (.ref c_SizesDiffer) "__getattr__" = some none)
    (ca_SizesDiffer : PySem.W.findIn K (.ref c_SizesDiffer) "__class__" = some (some (.builtin "object.__class__")))
    (cm_SizesDiffer : PySem.W.mroIn K c_SizesDiffer (.type "object") = some true)
    (hd_SizesDiffer : PySem.W.hasDictIn K c_SizesDiffer = true)
    (kp_SizesDiffer : PySem.W.keepIn K (.ref c_SizesDiffer) = true)
    (no_SizesDiffer_one : PySem.W.findIn K (.ref c_SizesDiffer) "one" = some none)
    (no_SizesDiffer_two : PySem.W.findIn K (.ref c_SizesDiffer) "two" = some none)
    (in_SizesDiffer : PySem.W.findIn K (.ref c_SizesDiffer) "__init__" = some (some (.ref f_SizesDiffer)))
    (tf_SizesDiffer : PySem.W.typeIn K (.ref f_SizesDiffer) = some (.type "function"))
    (lf_SizesDiffer : K.lookup f_SizesDiffer = some ⟨oci_SizesDiffer, odi_SizesDiffer, .func (PySem.W.fnOf "__init__" "SizesDiffer.__init__" (defArgs s_iSD) (defBody s_iSD) (defScope s_iSD) .none kVi_SizesDiffer dci_SizesDiffer pmi_SizesDiffer ani_SizesDiffer cdi_SizesDiffer cti_SizesDiffer), sli_SizesDiffer⟩)
    (cf_SizesDiffer : PySem.W.codeIn K cdi_SizesDiffer "SizesDiffer.__init__" = true)
    (kf_SizesDiffer : PySem.W.keepIn K (.ref f_SizesDiffer) = true)
    (pg_Form : PySem.W.plainGet K c_Form Str.empty = true)
    (hd_Form : PySem.W.hasDictIn K c_Form = true)
    (po_Form : PySem.W.plainOver K c_Form = true)
    (sa_Form : PySem.W.findIn K (.ref c_Form) "__setattr__" = some (some (.builtin "object.__setattr__")))
    (mk_Form : PySem.W.makesIn K c_Form = true)
    (kc_Form : PySem.W.keepIn K (.ref c_Form) = true)
    (na_Form_size : PySem.W.findIn K (.ref c_Form) "size" = some none)
    (na_Form_entries : PySem.W.findIn K (.ref c_Form) "entries" = some none)
    (na_Form_bottom : PySem.W.findIn K (.ref c_Form) "bottom" = some none)
    (in_Form : PySem.W.findIn K (.ref c_Form) "__init__" = some (some (.ref f_Form)))
    (isf_Form : PySem.W.isFn K (.ref f_Form) = true)
    (lf_Form : K.lookup f_Form = some ⟨oci_Form, odi_Form, .func (PySem.W.fnOf "__init__" "Form.__init__" (defArgs s_iForm) (defBody s_iForm) (defScope s_iForm) .none (.ref D_Form) dci_Form pmi_Form ani_Form cdi_Form cti_Form), sli_Form⟩)
    (cf_Form : PySem.W.codeIn K cdi_Form "Form.__init__" = true)
    (kf_Form : PySem.W.keepIn K (.ref f_Form) = true)
    (kd_Form : PySem.W.nsIn K D_Form "bottom" = some (some (.int 1 tki_Form)))
    (pg_RowList : PySem.W.plainGet K c_RowList Str.empty = true)
    (hd_RowList : PySem.W.hasDictIn K c_RowList = true)
    (po_RowList : PySem.W.plainOver K c_RowList = true)
    (sa_RowList : PySem.W.findIn K (.ref c_RowList) "__setattr__" = some (some (.builtin "object.__setattr__")))
    (mk_RowList : PySem.W.makesIn K c_RowList = true)
    (kc_RowList : PySem.W.keepIn K (.ref c_RowList) = true)
    (na_RowList_size : PySem.W.findIn K (.ref c_RowList) "size" = some none)
    (na_RowList_pairs : PySem.W.findIn K (.ref c_RowList) "pairs" = some none)
    (na_RowList_bottom : PySem.W.findIn K (.ref c_RowList) "bottom" = some none)
    (na_RowList_form : PySem.W.findIn K (.ref c_RowList) "form" = some none)
    (in_RowList : PySem.W.findIn K (.ref c_RowList) "__init__" = some (some (.ref f_RowList)))
    (isf_RowList : PySem.W.isFn K (.ref f_RowList) = true)
    (lf_RowList : K.lookup f_RowList = some ⟨oci_RowList, odi_RowList, .func (PySem.W.fnOf "__init__" "RowList.__init__" (defArgs s_iRowList) (defBody s_iRowList) (defScope s_iRowList) .none (.ref D_RowList) dci_RowList pmi_RowList ani_RowList cdi_RowList cti_RowList), sli_RowList⟩)
    (cf_RowList : PySem.W.codeIn K cdi_RowList "RowList.__init__" = true)
    (kf_RowList : PySem.W.keepIn K (.ref f_RowList) = true)
    (kd_RowList : PySem.W.nsIn K D_RowList "bottom" = some (some (.int 1 tki_RowList)))
    (me_mcall : PySem.W.findIn K (.ref c_Form) "__call__" = some (some (.ref h_mcall)))
    (mf_mcall : PySem.W.isFn K (.ref h_mcall) = true)
    (ml_mcall : K.lookup h_mcall = some ⟨ocm_mcall, odm_mcall, .func (PySem.W.fnOf "__call__" "Form.__call__" (defArgs s_mcall) (defBody s_mcall) (defScope s_mcall) .none kVm_mcall dcm_mcall pmm_mcall anm_mcall cdm_mcall ctm_mcall), slm_mcall⟩)
    (mc_mcall : PySem.W.codeIn K cdm_mcall "Form.__call__" = true)
    (mp_mcall : PySem.W.keepIn K (.ref h_mcall) = true)
    (mi_mcall : PySem.W.fnIn K h_mcall = true)
    (me_mbetween : PySem.W.findIn K (.ref c_Form) "between" = some (some (.ref h_mbetween)))
    (mf_mbetween : PySem.W.isFn K (.ref h_mbetween) = true)
    (ml_mbetween : K.lookup h_mbetween = some ⟨ocm_mbetween, odm_mbetween, .func (PySem.W.fnOf "between" "Form.between" (defArgs s_mbetween) (defBody s_mbetween) (defScope s_mbetween) .none kVm_mbetween dcm_mbetween pmm_mbetween anm_mbetween cdm_mbetween ctm_mbetween), slm_mbetween⟩)
    (mc_mbetween : PySem.W.codeIn K cdm_mbetween "Form.between" = true)
    (mp_mbetween : PySem.W.keepIn K (.ref h_mbetween) = true)
    (me_mat : PySem.W.findIn K (.ref c_Form) "at" = some (some (.ref h_mat)))
    (mf_mat : PySem.W.isFn K (.ref h_mat) = true)
    (ml_mat : K.lookup h_mat = some ⟨ocm_mat, odm_mat, .func (PySem.W.fnOf "at" "Form.at" (defArgs s_mat) (defBody s_mat) (defScope s_mat) .none kVm_mat dcm_mat pmm_mat anm_mat cdm_mat ctm_mat), slm_mat⟩)
    (mc_mat : PySem.W.codeIn K cdm_mat "Form.at" = true)
    (mp_mat : PySem.W.keepIn K (.ref h_mat) = true)
    (me_mapplied : PySem.W.findIn K (.ref c_Form) "applied" = some (some (.ref h_mapplied)))
    (mf_mapplied : PySem.W.isFn K (.ref h_mapplied) = true)
    (ml_mapplied : K.lookup h_mapplied = some ⟨ocm_mapplied, odm_mapplied, .func (PySem.W.fnOf "applied" "Form.applied" (defArgs s_mapplied) (defBody s_mapplied) (defScope s_mapplied) .none kVm_mapplied dcm_mapplied pmm_mapplied anm_mapplied cdm_mapplied ctm_mapplied), slm_mapplied⟩)
    (mc_mapplied : PySem.W.codeIn K cdm_mapplied "Form.applied" = true)
    (mp_mapplied : PySem.W.keepIn K (.ref h_mapplied) = true)
    (i_Form : PySem.W.isClsIn K c_Form = true)
    (y_Form : PySem.W.typeIn K (.ref c_Form) = some (.type "type"))
    (oc_Form : PySem.W.findIn K (.ref c_Form) "__class__" = some (some (.builtin "object.__class__")))
    (om_Form : PySem.W.mroIn K c_Form (.type "object") = some true)
    (cn0 : PySem.W.specialIn K (.builtin "object.__class__") "__get__" = some (some (.builtin "getset_descriptor.__get__")))
    (ct0 : PySem.W.takesIn K (.builtin "object.__class__") = some true)
    (s_SizesDiffer_SizesDiffer : PySem.W.subIn K (.ref c_SizesDiffer) (.ref c_SizesDiffer) = some true)
    (s_SizesDiffer_CableError : PySem.W.subIn K (.ref c_SizesDiffer) (.ref c_CableError) = some true)
    (s_SizesDiffer_BelowZero : PySem.W.subIn K (.ref c_SizesDiffer) (.ref c_BelowZero) = some false)
    (s_SizesDiffer_CountsDiffer : PySem.W.subIn K (.ref c_SizesDiffer) (.ref c_CountsDiffer) = some false)
    (s_SizesDiffer_NoSolution : PySem.W.subIn K (.ref c_SizesDiffer) (.ref c_NoSolution) = some false)
    (s_Form_Form : PySem.W.subIn K (.ref c_Form) (.ref c_Form) = some true)
    (sb_SizesDiffer_ValueError : PySem.W.subIn K (.ref c_SizesDiffer) (.type "ValueError") = some true)
    : ∃ fd : FuncData, (∀ (s : Shared) (v : Value), BindsTo s fd ⟨[v], []⟩ [("script", v)]) ∧ ∀ base : Heap, K.In base → base.Ns mainGlobals mg → FnOk l.prog w K mg base CX0 10 fa fd ["script"] (spLaw K) := by
  have e := hfa.symm.trans (PySem.W.mg_of X G a44)
  cases e
  have T : Txt mg := { b_len := PySem.W.mg_none_of X G z0, b_int := PySem.W.mg_none_of X G z1, b_bool := PySem.W.mg_none_of X G z2, b_tuple := PySem.W.mg_none_of X G z3, b_list := PySem.W.mg_none_of X G z4, b_isinstance := PySem.W.mg_none_of X G z5, b_range := PySem.W.mg_none_of X G z6, b_enumerate := PySem.W.mg_none_of X G z7, b_zip := PySem.W.mg_none_of X G z8, b_sum := PySem.W.mg_none_of X G z9, b_min := PySem.W.mg_none_of X G z10, b_abs := PySem.W.mg_none_of X G z11, b_all := PySem.W.mg_none_of X G z12, b_ValueError := PySem.W.mg_none_of X G z13, g_gcd := PySem.W.mg_of X G g_gcd }
  have G_CableError := PySem.W.mg_of X G a_CableError
  have G_SizesDiffer := PySem.W.mg_of X G a_SizesDiffer
  have G_BelowZero := PySem.W.mg_of X G a_BelowZero
  have G_CountsDiffer := PySem.W.mg_of X G a_CountsDiffer
  have G_NoSolution := PySem.W.mg_of X G a_NoSolution
  have G_Form := PySem.W.mg_of X G a_Form
  have G_RowList := PySem.W.mg_of X G a_RowList
  have X_SizesDiffer : EX.XCls K c_SizesDiffer := ⟨i_SizesDiffer, ga_SizesDiffer, gg_SizesDiffer, b_SizesDiffer, ca_SizesDiffer, cn0, ct0, cm_SizesDiffer, hd_SizesDiffer, y_SizesDiffer, kp_SizesDiffer⟩
  have O_SizesDiffer : OexC K c_SizesDiffer := ⟨⟨nm_SizesDiffer, q_SizesDiffer, N_SizesDiffer, bs_SizesDiffer, _, sn_SizesDiffer, sub_SizesDiffer, ab_SizesDiffer, col_SizesDiffer, dd_SizesDiffer, m0_SizesDiffer, m1_SizesDiffer, m2_SizesDiffer, m3_SizesDiffer, m5_SizesDiffer, xl_SizesDiffer, by rfl⟩, sa_SizesDiffer, b_SizesDiffer, y_SizesDiffer, kp_SizesDiffer⟩
  have FI_SizesDiffer := fun_mk (st := s_iSD) lf_SizesDiffer cf_SizesDiffer kf_SizesDiffer
  have BI_SizesDiffer := FI_SizesDiffer.binds (ps := ["self", "one", "two"]) fun _ _ _ _ _ _ us hl => match us, hl with | [_, _, _], _ => rfl
  have FO_Form := funD_of (st := s_iForm) lf_Form cf_Form kf_Form kd_Form
  have MK_Form : Mk K c_Form f_Form := ⟨mk_Form, in_Form, isf_Form, kc_Form⟩
  have CL_Form : Cls K c_Form := ⟨pg_Form, hd_Form, po_Form, sa_Form⟩
  have FO_RowList := funD_of (st := s_iRowList) lf_RowList cf_RowList kf_RowList kd_RowList
  have MK_RowList : Mk K c_RowList f_RowList := ⟨mk_RowList, in_RowList, isf_RowList, kc_RowList⟩
  have CL_RowList : Cls K c_RowList := ⟨pg_RowList, hd_RowList, po_RowList, sa_RowList⟩
  have FM_mcall := fun_mk (st := s_mcall) ml_mcall mc_mcall mp_mcall
  have BM_mcall := FM_mcall.binds (ps := ["self", "point"]) fun _ _ _ _ _ _ us hl => match us, hl with | [_, _], _ => rfl
  have FM_mbetween := fun_mk (st := s_mbetween) ml_mbetween mc_mbetween mp_mbetween
  have BM_mbetween := FM_mbetween.binds (ps := ["self", "one", "two"]) fun _ _ _ _ _ _ us hl => match us, hl with | [_, _, _], _ => rfl
  have FM_mat := fun_mk (st := s_mat) ml_mat mc_mat mp_mat
  have BM_mat := FM_mat.binds (ps := ["self", "passed"]) fun _ _ _ _ _ _ us hl => match us, hl with | [_, _], _ => rfl
  have FM_mapplied := fun_mk (st := s_mapplied) ml_mapplied mc_mapplied mp_mapplied
  have BM_mapplied := FM_mapplied.binds (ps := ["self", "passed"]) fun _ _ _ _ _ _ us hl => match us, hl with | [_, _], _ => rfl
  have F_frozen_numbers := fun_mk (st := s_frozen_numbers) l1 c1 k1
  have m_frozen_numbers := PySem.W.mg_of X G a1
  have b_frozen_numbers := F_frozen_numbers.binds (ps := ["value"]) fun _ _ _ _ _ _ us hl => match us, hl with | [_], _ => rfl
  have F_frozen_part := fun_mk (st := s_frozen_part) l2 c2 k2
  have m_frozen_part := PySem.W.mg_of X G a2
  have b_frozen_part := F_frozen_part.binds (ps := ["value"]) fun _ _ _ _ _ _ us hl => match us, hl with | [_], _ => rfl
  have F_frozen := fun_mk (st := s_frozen) l3 c3 k3
  have m_frozen := PySem.W.mg_of X G a3
  have b_frozen := F_frozen.binds (ps := ["value"]) fun _ _ _ _ _ _ us hl => match us, hl with | [_], _ => rfl
  have F_lowered := fun_mk (st := s_lowered) l4 c4 k4
  have m_lowered := PySem.W.mg_of X G a4
  have b_lowered := F_lowered.binds (ps := ["numbers", "bottom"]) fun _ _ _ _ _ _ us hl => match us, hl with | [_, _], _ => rfl
  have F_fraction := fun_mk (st := s_fraction) l5 c5 k5
  have m_fraction := PySem.W.mg_of X G a5
  have b_fraction := F_fraction.binds (ps := ["top", "bottom"]) fun _ _ _ _ _ _ us hl => match us, hl with | [_, _], _ => rfl
  have F_vector := fun_mk (st := s_vector) l6 c6 k6
  have m_vector := PySem.W.mg_of X G a6
  have b_vector := F_vector.binds (ps := ["numbers", "bottom"]) fun _ _ _ _ _ _ us hl => match us, hl with | [_, _], _ => rfl
  have F_dot := fun_mk (st := s_dot) l7 c7 k7
  have m_dot := PySem.W.mg_of X G a7
  have b_dot := F_dot.binds (ps := ["one", "two"]) fun _ _ _ _ _ _ us hl => match us, hl with | [_, _], _ => rfl
  have F_check_square := fun_mk (st := s_check_square) l8 c8 k8
  have m_check_square := PySem.W.mg_of X G a8
  have b_check_square := F_check_square.binds (ps := ["lines"]) fun _ _ _ _ _ _ us hl => match us, hl with | [_], _ => rfl
  have F_check_symmetric := fun_mk (st := s_check_symmetric) l9 c9 k9
  have m_check_symmetric := PySem.W.mg_of X G a9
  have b_check_symmetric := F_check_symmetric.binds (ps := ["lines"]) fun _ _ _ _ _ _ us hl => match us, hl with | [_], _ => rfl
  have F_check_point := fun_mk (st := s_check_point) l10 c10 k10
  have m_check_point := PySem.W.mg_of X G a10
  have b_check_point := F_check_point.binds (ps := ["form", "point"]) fun _ _ _ _ _ _ us hl => match us, hl with | [_, _], _ => rfl
  have F_same_size := fun_mk (st := s_same_size) l11 c11 k11
  have m_same_size := PySem.W.mg_of X G a11
  have b_same_size := F_same_size.binds (ps := ["one", "two"]) fun _ _ _ _ _ _ us hl => match us, hl with | [_, _], _ => rfl
  have F_paired := fun_mk (st := s_paired) l12 c12 k12
  have m_paired := PySem.W.mg_of X G a12
  have b_paired := F_paired.binds (ps := ["one", "two"]) fun _ _ _ _ _ _ us hl => match us, hl with | [_, _], _ => rfl
  have F_times_symmetric := fun_mk (st := s_times_symmetric) l13 c13 k13
  have m_times_symmetric := PySem.W.mg_of X G a13
  have b_times_symmetric := F_times_symmetric.binds (ps := ["one", "two"]) fun _ _ _ _ _ _ us hl => match us, hl with | [_, _], _ => rfl
  have F_sandwich := fun_mk (st := s_sandwich) l14 c14 k14
  have m_sandwich := PySem.W.mg_of X G a14
  have b_sandwich := F_sandwich.binds (ps := ["outer", "inner"]) fun _ _ _ _ _ _ us hl => match us, hl with | [_, _], _ => rfl
  have F_check_pairs := fun_mk (st := s_check_pairs) l15 c15 k15
  have m_check_pairs := PySem.W.mg_of X G a15
  have b_check_pairs := F_check_pairs.binds (ps := ["size", "pairs"]) fun _ _ _ _ _ _ us hl => match us, hl with | [_, _], _ => rfl
  have F_weighted_sum := fun_mk (st := s_weighted_sum) l16 c16 k16
  have m_weighted_sum := PySem.W.mg_of X G a16
  have b_weighted_sum := F_weighted_sum.binds (ps := ["pairs", "one", "two"]) fun _ _ _ _ _ _ us hl => match us, hl with | [_, _, _], _ => rfl
  have F_weighted_matrix := fun_mk (st := s_weighted_matrix) l17 c17 k17
  have m_weighted_matrix := PySem.W.mg_of X G a17
  have b_weighted_matrix := F_weighted_matrix.binds (ps := ["size", "pairs"]) fun _ _ _ _ _ _ us hl => match us, hl with | [_, _], _ => rfl
  have F__law_whole := fun_mk (st := s__law_whole) l18 c18 k18
  have m__law_whole := PySem.W.mg_of X G a18
  have b__law_whole := F__law_whole.binds (ps := ["value"]) fun _ _ _ _ _ _ us hl => match us, hl with | [_], _ => rfl
  have F__law_cell := fun_mk (st := s__law_cell) l19 c19 k19
  have m__law_cell := PySem.W.mg_of X G a19
  have b__law_cell := F__law_cell.binds (ps := ["script", "k"]) fun _ _ _ _ _ _ us hl => match us, hl with | [_, _], _ => rfl
  have F__law_digits := fun_mk (st := s__law_digits) l20 c20 k20
  have m__law_digits := PySem.W.mg_of X G a20
  have b__law_digits := F__law_digits.binds (ps := ["cell", "sizes"]) fun _ _ _ _ _ _ us hl => match us, hl with | [_, _], _ => rfl
  have F__law_gcd := fun_mk (st := s__law_gcd) l21 c21 k21
  have m__law_gcd := PySem.W.mg_of X G a21
  have b__law_gcd := F__law_gcd.binds (ps := ["one", "two"]) fun _ _ _ _ _ _ us hl => match us, hl with | [_, _], _ => rfl
  have F__law_is_fraction := fun_mk (st := s__law_is_fraction) l22 c22 k22
  have m__law_is_fraction := PySem.W.mg_of X G a22
  have b__law_is_fraction := F__law_is_fraction.binds (ps := ["value"]) fun _ _ _ _ _ _ us hl => match us, hl with | [_], _ => rfl
  have F__law_stands := fun_mk (st := s__law_stands) l23 c23 k23
  have m__law_stands := PySem.W.mg_of X G a23
  have b__law_stands := F__law_stands.binds (ps := ["value", "top", "under"]) fun _ _ _ _ _ _ us hl => match us, hl with | [_, _, _], _ => rfl
  have F__law_is_point := fun_mk (st := s__law_is_point) l24 c24 k24
  have m__law_is_point := PySem.W.mg_of X G a24
  have b__law_is_point := F__law_is_point.binds (ps := ["value", "size"]) fun _ _ _ _ _ _ us hl => match us, hl with | [_, _], _ => rfl
  have F__law_dot := fun_mk (st := s__law_dot) l25 c25 k25
  have m__law_dot := PySem.W.mg_of X G a25
  have b__law_dot := F__law_dot.binds (ps := ["one", "two"]) fun _ _ _ _ _ _ us hl => match us, hl with | [_, _], _ => rfl
  have F__law_table := fun_mk (st := s__law_table) l26 c26 k26
  have m__law_table := PySem.W.mg_of X G a26
  have b__law_table := F__law_table.binds (ps := ["size", "pairs"]) fun _ _ _ _ _ _ us hl => match us, hl with | [_, _], _ => rfl
  have F__law_value := fun_mk (st := s__law_value) l27 c27 k27
  have m__law_value := PySem.W.mg_of X G a27
  have b__law_value := F__law_value.binds (ps := ["table", "one", "two"]) fun _ _ _ _ _ _ us hl => match us, hl with | [_, _, _], _ => rfl
  have F__law_sandwich := fun_mk (st := s__law_sandwich) l28 c28 k28
  have m__law_sandwich := PySem.W.mg_of X G a28
  have b__law_sandwich := F__law_sandwich.binds (ps := ["outer", "inner"]) fun _ _ _ _ _ _ us hl => match us, hl with | [_, _], _ => rfl
  have F__law_draw_row := fun_mk (st := s__law_draw_row) l29 c29 k29
  have m__law_draw_row := PySem.W.mg_of X G a29
  have b__law_draw_row := F__law_draw_row.binds (ps := ["size", "kind", "row"]) fun _ _ _ _ _ _ us hl => match us, hl with | [_, _, _], _ => rfl
  have F__law_draw_weight := fun_mk (st := s__law_draw_weight) l30 c30 k30
  have m__law_draw_weight := PySem.W.mg_of X G a30
  have b__law_draw_weight := F__law_draw_weight.binds (ps := ["kind", "row"]) fun _ _ _ _ _ _ us hl => match us, hl with | [_, _], _ => rfl
  have F__law_line := fun_mk (st := s__law_line) l31 c31 k31
  have m__law_line := PySem.W.mg_of X G a31
  have b__law_line := F__law_line.binds (ps := ["cell"]) fun _ _ _ _ _ _ us hl => match us, hl with | [_], _ => rfl
  have F__law_seven := fun_mk (st := s__law_seven) l32 c32 k32
  have m__law_seven := PySem.W.mg_of X G a32
  have b__law_seven := F__law_seven.binds (ps := ["line"]) fun _ _ _ _ _ _ us hl => match us, hl with | [_], _ => rfl
  have F__law_wide := fun_mk (st := s__law_wide) l33 c33 k33
  have m__law_wide := PySem.W.mg_of X G a33
  have b__law_wide := F__law_wide.binds (ps := ["size", "line"]) fun _ _ _ _ _ _ us hl => match us, hl with | [_, _], _ => rfl
  have F__law_row := fun_mk (st := s__law_row) l34 c34 k34
  have m__law_row := PySem.W.mg_of X G a34
  have b__law_row := F__law_row.binds (ps := ["size", "kind", "line"]) fun _ _ _ _ _ _ us hl => match us, hl with | [_, _, _], _ => rfl
  have F__law_draw_pairs := fun_mk (st := s__law_draw_pairs) l35 c35 k35
  have m__law_draw_pairs := PySem.W.mg_of X G a35
  have b__law_draw_pairs := F__law_draw_pairs.binds (ps := ["script", "at", "size", "many", "style", "weights", "twin"]) fun _ _ _ _ _ _ us hl => match us, hl with | [_, _, _, _, _, _, _], _ => rfl
  have F__law_draw_list := fun_mk (st := s__law_draw_list) l36 c36 k36
  have m__law_draw_list := PySem.W.mg_of X G a36
  have b__law_draw_list := F__law_draw_list.binds (ps := ["script", "at", "most"]) fun _ _ _ _ _ _ us hl => match us, hl with | [_, _, _], _ => rfl
  have F__law_any_table := fun_mk (st := s__law_any_table) l37 c37 k37
  have m__law_any_table := PySem.W.mg_of X G a37
  have b__law_any_table := F__law_any_table.binds (ps := ["size", "kind", "lines"]) fun _ _ _ _ _ _ us hl => match us, hl with | [_, _, _], _ => rfl
  have F__law_is_form := fun_mk (st := s__law_is_form) l38 c38 k38
  have m__law_is_form := PySem.W.mg_of X G a38
  have b__law_is_form := F__law_is_form.binds (ps := ["found", "size"]) fun _ _ _ _ _ _ us hl => match us, hl with | [_, _], _ => rfl
  have F__law_form_is := fun_mk (st := s__law_form_is) l39 c39 k39
  have m__law_form_is := PySem.W.mg_of X G a39
  have b__law_form_is := F__law_form_is.binds (ps := ["found", "table", "under"]) fun _ _ _ _ _ _ us hl => match us, hl with | [_, _, _], _ => rfl
  have F__law_weighted := fun_mk (st := s__law_weighted) l40 c40 k40
  have m__law_weighted := PySem.W.mg_of X G a40
  have b__law_weighted := F__law_weighted.binds (ps := ["pairs", "table"]) fun _ _ _ _ _ _ us hl => match us, hl with | [_, _], _ => rfl
  have F__law_crossed := fun_mk (st := s__law_crossed) l41 c41 k41
  have m__law_crossed := PySem.W.mg_of X G a41
  have b__law_crossed := F__law_crossed.binds (ps := ["pairs", "others"]) fun _ _ _ _ _ _ us hl => match us, hl with | [_, _], _ => rfl
  have F__law_refused := fun_mk (st := s__law_refused) l42 c42 k42
  have m__law_refused := PySem.W.mg_of X G a42
  have b__law_refused := F__law_refused.binds (ps := ["one", "two", "first", "second"]) fun _ _ _ _ _ _ us hl => match us, hl with | [_, _, _, _], _ => rfl
  have F__law_pressed := fun_mk (st := s__law_pressed) l43 c43 k43
  have m__law_pressed := PySem.W.mg_of X G a43
  have b__law_pressed := F__law_pressed.binds (ps := ["outer", "table", "under", "inner", "middle", "scale", "point"]) fun _ _ _ _ _ _ us hl => match us, hl with | [_, _, _, _, _, _, _], _ => rfl
  have F_law := fun_mk (st := s_law) l44 c44 k44
  have m_law := PySem.W.mg_of X G a44
  refine ⟨PySem.W.fnOf "law" "law" (defArgs s_law) (defBody s_law) (defScope s_law) .none kV44 dc44 pm44 an44 cd44 ct44, fun s v => .of_eq rfl, fun base _ _ => ?_⟩
  have U : Err K mg c_SizesDiffer c_CableError f_SizesDiffer c_BelowZero c_CountsDiffer c_NoSolution := { g_SizesDiffer := G_SizesDiffer, g_CableError := G_CableError, g_BelowZero := G_BelowZero, g_CountsDiffer := G_CountsDiffer, g_NoSolution := G_NoSolution, o_SizesDiffer := O_SizesDiffer, i_SizesDiffer := in_SizesDiffer, t_SizesDiffer := tf_SizesDiffer, x := X_SizesDiffer, no_SizesDiffer_one := no_SizesDiffer_one, no_SizesDiffer_two := no_SizesDiffer_two, eC := EX.exm_sub i_CableError y_CableError b_CableError s_SizesDiffer_CableError, kS := EX.kit_sub i_SizesDiffer y_SizesDiffer s_SizesDiffer_SizesDiffer s_SizesDiffer_SizesDiffer, kV := EX.kit_blt (by decide +kernel) sb_SizesDiffer_ValueError, k1 := EX.kit_sub i_BelowZero y_BelowZero s_SizesDiffer_BelowZero s_SizesDiffer_SizesDiffer, k2 := EX.kit_sub i_CountsDiffer y_CountsDiffer s_SizesDiffer_CountsDiffer s_SizesDiffer_SizesDiffer, k3 := EX.kit_sub i_NoSolution y_NoSolution s_SizesDiffer_NoSolution s_SizesDiffer_SizesDiffer }
  have O : Obs K c_Form c_RowList := { clF := CL_Form, F_size := na_Form_size, F_entries := na_Form_entries, F_bottom := na_Form_bottom, clR := CL_RowList, R_size := na_RowList_size, R_pairs := na_RowList_pairs, R_bottom := na_RowList_bottom, R_form := na_RowList_form }
  have UF : Frm K mg c_Form := { g_Form := G_Form, kF := EX.kit_sub i_Form y_Form s_Form_Form s_Form_Form, c1 := oc_Form, c2 := cn0, c3 := ct0, c4 := om_Form }
  have C_frozen_numbers : Cal l.prog w K mg base 1 "frozen_numbers" ["value"] (spFz K 1) := ⟨_, _, ok_frozen_numbers F_frozen_numbers T, m_frozen_numbers, F_frozen_numbers.kp, b_frozen_numbers⟩
  have C_frozen_part : Cal l.prog w K mg base 2 "frozen_part" ["value"] (spFz K 2) := ⟨_, _, ok_frozen_part F_frozen_part T C_frozen_numbers, m_frozen_part, F_frozen_part.kp, b_frozen_part⟩
  have C_frozen : Cal l.prog w K mg base 3 "frozen" ["value"] (spFz K 3) := ⟨_, _, ok_frozen F_frozen T C_frozen_part, m_frozen, F_frozen.kp, b_frozen⟩
  have C_lowered : Cal l.prog w K mg base 1 "lowered" ["numbers", "bottom"] spLow := ⟨_, _, ok_lowered F_lowered T, m_lowered, F_lowered.kp, b_lowered⟩
  have C_fraction : Cal l.prog w K mg base 1 "fraction" ["top", "bottom"] spFraction := ⟨_, _, ok_fraction F_fraction T, m_fraction, F_fraction.kp, b_fraction⟩
  have C_vector : Cal l.prog w K mg base 2 "vector" ["numbers", "bottom"] spLow := ⟨_, _, ok_vector F_vector T C_lowered, m_vector, F_vector.kp, b_vector⟩
  have C_dot : Cal l.prog w K mg base 1 "dot" ["one", "two"] (spDot K) := ⟨_, _, ok_dot F_dot T, m_dot, F_dot.kp, b_dot⟩
  have C_check_square : Cal l.prog w K mg base 1 "check_square" ["lines"] (spSquare K) := ⟨_, _, ok_check_square F_check_square T, m_check_square, F_check_square.kp, b_check_square⟩
  have C_check_symmetric : Cal l.prog w K mg base 1 "check_symmetric" ["lines"] (spSymm K) := ⟨_, _, ok_check_symmetric F_check_symmetric T, m_check_symmetric, F_check_symmetric.kp, b_check_symmetric⟩
  have C_check_point : Cal l.prog w K mg base 1 "check_point" ["form", "point"] (spPoint K c_Form) := ⟨_, _, ok_check_point F_check_point T O, m_check_point, F_check_point.kp, b_check_point⟩
  have C_check_pairs : Cal l.prog w K mg base 1 "check_pairs" ["size", "pairs"] (spPairs K) := ⟨_, _, ok_check_pairs F_check_pairs T, m_check_pairs, F_check_pairs.kp, b_check_pairs⟩
  have C_weighted_sum : Cal l.prog w K mg base 1 "weighted_sum" ["pairs", "one", "two"] (spWsum K) := ⟨_, _, ok_weighted_sum F_weighted_sum T, m_weighted_sum, F_weighted_sum.kp, b_weighted_sum⟩
  have C_weighted_matrix : Cal l.prog w K mg base 2 "weighted_matrix" ["size", "pairs"] (spWmat K) := ⟨_, _, ok_weighted_matrix F_weighted_matrix T C_weighted_sum, m_weighted_matrix, F_weighted_matrix.kp, b_weighted_matrix⟩
  obtain ⟨gF, kbF⟩ := kb_Form FO_Form
  have C_Form : CalK l.prog w K mg base 4 "Form" c_Form 1 ["bottom"] (spForm K c_Form) := ⟨_, _, _, gF, MK_Form, ok_iForm FO_Form T O C_frozen C_check_square C_check_symmetric C_lowered, G_Form, kbF⟩
  obtain ⟨gR, kbR⟩ := kb_RowList FO_RowList
  have C_RowList : CalK l.prog w K mg base 6 "RowList" c_RowList 2 ["bottom"] (spRows K c_Form c_RowList) := ⟨_, _, _, gR, MK_RowList, ok_iRowList FO_RowList T O C_frozen C_check_pairs C_lowered C_weighted_matrix C_Form, G_RowList, kbR⟩
  have C_mbetween : CalM l.prog w K mg base 2 c_Form "between" ["self", "one", "two"] (spBetw K c_Form) := ⟨_, _, ok_mbetween FM_mbetween T O C_check_point C_fraction C_dot, ⟨me_mbetween, mf_mbetween, mp_mbetween⟩, BM_mbetween⟩
  have C_mcall : CalI l.prog w K mg base 3 c_Form ["self", "point"] (spCall K c_Form) := ⟨_, _, ok_mcall FM_mcall T O C_mbetween, ⟨me_mcall, mf_mcall, mi_mcall⟩, BM_mcall⟩
  have C_mat : CalM l.prog w K mg base 3 c_Form "at" ["self", "passed"] (spAt K c_Form) := ⟨_, _, ok_mat FM_mat T O C_fraction C_mbetween, ⟨me_mat, mf_mat, mp_mat⟩, BM_mat⟩
  have C_mapplied : CalM l.prog w K mg base 3 c_Form "applied" ["self", "passed"] (spAppl K c_Form) := ⟨_, _, ok_mapplied FM_mapplied T O C_dot C_vector, ⟨me_mapplied, mf_mapplied, mp_mapplied⟩, BM_mapplied⟩
  have C_same_size : Cal l.prog w K mg base 1 "same_size" ["one", "two"] (spSize K c_Form) := ⟨_, _, ok_same_size F_same_size T O, m_same_size, F_same_size.kp, b_same_size⟩
  have C_paired : Cal l.prog w K mg base 2 "paired" ["one", "two"] (spPair K c_Form) := ⟨_, _, ok_paired F_paired T O C_same_size C_fraction C_dot, m_paired, F_paired.kp, b_paired⟩
  have C_times_symmetric : Cal l.prog w K mg base 2 "times_symmetric" ["one", "two"] (spTimes K) := ⟨_, _, ok_times_symmetric F_times_symmetric T C_dot, m_times_symmetric, F_times_symmetric.kp, b_times_symmetric⟩
  have C_sandwich : Cal l.prog w K mg base 6 "sandwich" ["outer", "inner"] (spSand K c_Form) := ⟨_, _, ok_sandwich F_sandwich T O C_same_size C_times_symmetric C_Form, m_sandwich, F_sandwich.kp, b_sandwich⟩
  have IN := ok_iSD (P := l.prog) (w := w) (base := base) FI_SizesDiffer U
  have CX_same_size : EX.CalX l.prog w K mg base 4 "same_size" ["one", "two"] (spSizeX K c_Form c_SizesDiffer) := ⟨_, _, okx_same_size F_same_size T O U IN BI_SizesDiffer, m_same_size, F_same_size.kp, b_same_size⟩
  have CX_paired : EX.CalX l.prog w K mg base 5 "paired" ["one", "two"] (spSizeX K c_Form c_SizesDiffer) := ⟨_, _, okx_paired F_paired T CX_same_size C_fraction C_dot, m_paired, F_paired.kp, b_paired⟩
  have CX_sandwich : EX.CalX l.prog w K mg base 6 "sandwich" ["outer", "inner"] (spSizeX K c_Form c_SizesDiffer) := ⟨_, _, okx_sandwich F_sandwich T CX_same_size C_times_symmetric C_Form, m_sandwich, F_sandwich.kp, b_sandwich⟩
  have C__law_whole : Cal l.prog w K mg base 1 "_law_whole" ["value"] spLaw_whole := ⟨_, _, ok__law_whole F__law_whole T, m__law_whole, F__law_whole.kp, b__law_whole⟩
  have CH_whole : EX.CalH l.prog w K mg base 1 "_law_whole" ["value"] spLaw_whole := ⟨_, _, okH__law_whole F__law_whole T, m__law_whole, F__law_whole.kp, b__law_whole⟩
  have C__law_cell : Cal l.prog w K mg base 1 "_law_cell" ["script", "k"] (spCell K) := ⟨_, _, ok__law_cell F__law_cell T, m__law_cell, F__law_cell.kp, b__law_cell⟩
  have C__law_digits : Cal l.prog w K mg base 1 "_law_digits" ["cell", "sizes"] (spDigits K) := ⟨_, _, ok__law_digits F__law_digits T, m__law_digits, F__law_digits.kp, b__law_digits⟩
  have C__law_gcd : Cal l.prog w K mg base 1 "_law_gcd" ["one", "two"] spGcd := ⟨_, _, ok__law_gcd F__law_gcd T, m__law_gcd, F__law_gcd.kp, b__law_gcd⟩
  have C__law_is_fraction : Cal l.prog w K mg base 2 "_law_is_fraction" ["value"] spFrac := ⟨_, _, ok__law_is_fraction F__law_is_fraction T C__law_whole C__law_gcd, m__law_is_fraction, F__law_is_fraction.kp, b__law_is_fraction⟩
  have C__law_stands : Cal l.prog w K mg base 3 "_law_stands" ["value", "top", "under"] spStands := ⟨_, _, ok__law_stands F__law_stands T C__law_is_fraction, m__law_stands, F__law_stands.kp, b__law_stands⟩
  have C__law_is_point : Cal l.prog w K mg base 2 "_law_is_point" ["value", "size"] (spIsPoint K) := ⟨_, _, ok__law_is_point F__law_is_point T C__law_whole, m__law_is_point, F__law_is_point.kp, b__law_is_point⟩
  have C__law_dot : Cal l.prog w K mg base 1 "_law_dot" ["one", "two"] (spDot K) := ⟨_, _, ok__law_dot F__law_dot T, m__law_dot, F__law_dot.kp, b__law_dot⟩
  have C__law_table : Cal l.prog w K mg base 1 "_law_table" ["size", "pairs"] (spTab K) := ⟨_, _, ok__law_table F__law_table T, m__law_table, F__law_table.kp, b__law_table⟩
  have C__law_value : Cal l.prog w K mg base 2 "_law_value" ["table", "one", "two"] (spValue K) := ⟨_, _, ok__law_value F__law_value T C__law_dot, m__law_value, F__law_value.kp, b__law_value⟩
  have C__law_sandwich : Cal l.prog w K mg base 2 "_law_sandwich" ["outer", "inner"] (spLSand K) := ⟨_, _, ok__law_sandwich F__law_sandwich T C__law_dot, m__law_sandwich, F__law_sandwich.kp, b__law_sandwich⟩
  have C__law_draw_row : Cal l.prog w K mg base 1 "_law_draw_row" ["size", "kind", "row"] spDrow := ⟨_, _, ok__law_draw_row F__law_draw_row T, m__law_draw_row, F__law_draw_row.kp, b__law_draw_row⟩
  have C__law_draw_weight : Cal l.prog w K mg base 1 "_law_draw_weight" ["kind", "row"] spWt := ⟨_, _, ok__law_draw_weight F__law_draw_weight T, m__law_draw_weight, F__law_draw_weight.kp, b__law_draw_weight⟩
  have C__law_line : Cal l.prog w K mg base 2 "_law_line" ["cell"] spLine := ⟨_, _, ok__law_line F__law_line T C__law_digits, m__law_line, F__law_line.kp, b__law_line⟩
  have C__law_seven : Cal l.prog w K mg base 1 "_law_seven" ["line"] spSeven := ⟨_, _, ok__law_seven F__law_seven T, m__law_seven, F__law_seven.kp, b__law_seven⟩
  have C__law_wide : Cal l.prog w K mg base 1 "_law_wide" ["size", "line"] spWide := ⟨_, _, ok__law_wide F__law_wide T, m__law_wide, F__law_wide.kp, b__law_wide⟩
  have C__law_row : Cal l.prog w K mg base 2 "_law_row" ["size", "kind", "line"] spRowD := ⟨_, _, ok__law_row F__law_row T C__law_wide C__law_seven C__law_draw_row, m__law_row, F__law_row.kp, b__law_row⟩
  have C__law_draw_pairs : Cal l.prog w K mg base 3 "_law_draw_pairs" ["script", "at", "size", "many", "style", "weights", "twin"] (spDps K) := ⟨_, _, ok__law_draw_pairs F__law_draw_pairs T C__law_cell C__law_line C__law_row C__law_draw_weight C__law_seven, m__law_draw_pairs, F__law_draw_pairs.kp, b__law_draw_pairs⟩
  have C__law_draw_list : Cal l.prog w K mg base 4 "_law_draw_list" ["script", "at", "most"] (spDl K) := ⟨_, _, ok__law_draw_list F__law_draw_list T C__law_cell C__law_digits C__law_draw_pairs, m__law_draw_list, F__law_draw_list.kp, b__law_draw_list⟩
  have C__law_any_table : Cal l.prog w K mg base 2 "_law_any_table" ["size", "kind", "lines"] spAny := ⟨_, _, ok__law_any_table F__law_any_table T C__law_wide, m__law_any_table, F__law_any_table.kp, b__law_any_table⟩
  have C__law_is_form : Cal l.prog w K mg base 3 "_law_is_form" ["found", "size"] (spIsForm K c_Form) := ⟨_, _, ok__law_is_form F__law_is_form T O UF C__law_whole C__law_is_point C__law_gcd, m__law_is_form, F__law_is_form.kp, b__law_is_form⟩
  have C__law_form_is : Cal l.prog w K mg base 4 "_law_form_is" ["found", "table", "under"] (spFormIs K c_Form) := ⟨_, _, ok__law_form_is F__law_form_is T O C__law_is_form, m__law_form_is, F__law_form_is.kp, b__law_form_is⟩
  have C__law_weighted : Cal l.prog w K mg base 3 "_law_weighted" ["pairs", "table"] (spWtd K) := ⟨_, _, ok__law_weighted F__law_weighted T C__law_value, m__law_weighted, F__law_weighted.kp, b__law_weighted⟩
  have C__law_crossed : Cal l.prog w K mg base 2 "_law_crossed" ["pairs", "others"] (spCrs K) := ⟨_, _, ok__law_crossed F__law_crossed T C__law_dot, m__law_crossed, F__law_crossed.kp, b__law_crossed⟩
  have C__law_refused : Cal l.prog w K mg base 8 "_law_refused" ["one", "two", "first", "second"] (spRef K c_Form) := ⟨_, _, ok__law_refused F__law_refused T U CX_paired CX_sandwich CH_whole, m__law_refused, F__law_refused.kp, b__law_refused⟩
  have C__law_pressed : Cal l.prog w K mg base 7 "_law_pressed" ["outer", "table", "under", "inner", "middle", "scale", "point"] (spPress K c_Form) := ⟨_, _, ok__law_pressed F__law_pressed T O C_sandwich C__law_value C__law_stands C__law_form_is C__law_dot C__law_sandwich C_mcall C_mat C_mapplied, m__law_pressed, F__law_pressed.kp, b__law_pressed⟩
  exact ok_law F_law T O C__law_draw_list C__law_digits C__law_any_table C__law_table C__law_draw_pairs C__law_weighted C_paired C__law_row C__law_stands C__law_cell C__law_line C__law_form_is C__law_pressed C_sandwich C__law_sandwich C__law_refused C__law_crossed C__law_dot C_RowList C_Form
theorem walk {l : PySem.W.OpenLaw} {q : Program} {loose : List Str} {XP : (Str → Option Value) → Heap → Prop} {YP : World → Heap → Prop} {d : DefRec} {K : Params → PySem.W.Frag} (hn : l.most = some 63) (hdf : d.params.defaults = [])
    (hY : ∀ (w : World) (h : Heap), YP w h → (K w.params).In h)
    (F : ∀ (w : World) (mg : Str → Option Value) (fa : Addr) (h : Heap), (K w.params).In h → h.Ns mainGlobals mg → mg d.name = some (.ref fa) →
      ∃ fd : FuncData, (∀ (s : Shared) (u : Value), BindsTo s fd ⟨[u], []⟩ [("script", u)]) ∧ ∀ base : Heap, (K w.params).In base → base.Ns mainGlobals mg → FnOk l.prog w (K w.params) mg base CX0 10 fa fd ["script"] (spLaw (K w.params))) :
    PySem.W.WalkO q loose XP YP l.row.toRowW d [] (fun f vs => PySem.call f vs) :=
  L2.walk_of (n := 63) (k := 10) (x := "script") (CX := fun _ => CX0) (sp := fun w => spLaw (K w.params)) hn (by decide) hdf ⟨rfl, by decide, by decide⟩ hY F (fun _ _ a ns hl _ hS => ⟨a, ns, rfl, hS, hl, fun _ => rfl⟩) fun _ _ _ _ _ z => z
end P12
open PySem PySem.W PyProof.Rows
set_option maxRecDepth 100000 in
set_option maxHeartbeats 0 in
theorem PySem.Challenge.cw_wholecables_k12_paired_sums_holds : PySem.Challenge.rw_wholecables_k12_paired_sums.Holds := by
  w_on; o_law; k_head; (case hw => w_witness2)
  k_fill
  refine P12.walk (l := PySem.Challenge.rw_wholecables_k12_paired_sums) rfl rfl (fun w h Y => PySem.W.kIn_of Y) ?F
  case F =>
    intro w mg fa h KX G hmg
    refine' P12.all_mk KX G hmg ?a1 ?l1 ?c1 ?k1 ?a2 ?l2 ?c2 ?k2 ?a3 ?l3 ?c3 ?k3 ?a4 ?l4 ?c4 ?k4 ?a5 ?l5 ?c5 ?k5 ?a6 ?l6 ?c6 ?k6 ?a7 ?l7 ?c7 ?k7 ?a8 ?l8 ?c8 ?k8 ?a9 ?l9 ?c9 ?k9 ?a10 ?l10 ?c10 ?k10 ?a11 ?l11 ?c11 ?k11 ?a12 ?l12 ?c12 ?k12 ?a13 ?l13 ?c13 ?k13 ?a14 ?l14 ?c14 ?k14 ?a15 ?l15 ?c15 ?k15 ?a16 ?l16 ?c16 ?k16 ?a17 ?l17 ?c17 ?k17 ?a18 ?l18 ?c18 ?k18 ?a19 ?l19 ?c19 ?k19 ?a20 ?l20 ?c20 ?k20 ?a21 ?l21 ?c21 ?k21 ?a22 ?l22 ?c22 ?k22 ?a23 ?l23 ?c23 ?k23 ?a24 ?l24 ?c24 ?k24 ?a25 ?l25 ?c25 ?k25 ?a26 ?l26 ?c26 ?k26 ?a27 ?l27 ?c27 ?k27 ?a28 ?l28 ?c28 ?k28 ?a29 ?l29 ?c29 ?k29 ?a30 ?l30 ?c30 ?k30 ?a31 ?l31 ?c31 ?k31 ?a32 ?l32 ?c32 ?k32 ?a33 ?l33 ?c33 ?k33 ?a34 ?l34 ?c34 ?k34 ?a35 ?l35 ?c35 ?k35 ?a36 ?l36 ?c36 ?k36 ?a37 ?l37 ?c37 ?k37 ?a38 ?l38 ?c38 ?k38 ?a39 ?l39 ?c39 ?k39 ?a40 ?l40 ?c40 ?k40 ?a41 ?l41 ?c41 ?k41 ?a42 ?l42 ?c42 ?k42 ?a43 ?l43 ?c43 ?k43 ?a44 ?l44 ?c44 ?k44 ?z0 ?z1 ?z2 ?z3 ?z4 ?z5 ?z6 ?z7 ?z8 ?z9 ?z10 ?z11 ?z12 ?z13 ?g_gcd ?a_CableError ?a_SizesDiffer ?a_BelowZero ?a_CountsDiffer ?a_NoSolution ?a_Form ?a_RowList ?i_CableError ?y_CableError ?i_SizesDiffer ?y_SizesDiffer ?i_BelowZero ?y_BelowZero ?i_CountsDiffer ?y_CountsDiffer ?i_NoSolution ?y_NoSolution ?b_CableError ?b_SizesDiffer ?xl_SizesDiffer ?sa_SizesDiffer ?ga_SizesDiffer ?gg_SizesDiffer ?ca_SizesDiffer ?cm_SizesDiffer ?hd_SizesDiffer ?kp_SizesDiffer ?no_SizesDiffer_one ?no_SizesDiffer_two ?in_SizesDiffer ?tf_SizesDiffer ?lf_SizesDiffer ?cf_SizesDiffer ?kf_SizesDiffer ?pg_Form ?hd_Form ?po_Form ?sa_Form ?mk_Form ?kc_Form ?na_Form_size ?na_Form_entries ?na_Form_bottom ?in_Form ?isf_Form ?lf_Form ?cf_Form ?kf_Form ?kd_Form ?pg_RowList ?hd_RowList ?po_RowList ?sa_RowList ?mk_RowList ?kc_RowList ?na_RowList_size ?na_RowList_pairs ?na_RowList_bottom ?na_RowList_form ?in_RowList ?isf_RowList ?lf_RowList ?cf_RowList ?kf_RowList ?kd_RowList ?me_mcall ?mf_mcall ?ml_mcall ?mc_mcall ?mp_mcall ?mi_mcall ?me_mbetween ?mf_mbetween ?ml_mbetween ?mc_mbetween ?mp_mbetween ?me_mat ?mf_mat ?ml_mat ?mc_mat ?mp_mat ?me_mapplied ?mf_mapplied ?ml_mapplied ?mc_mapplied ?mp_mapplied ?i_Form ?y_Form ?oc_Form ?om_Form ?cn0 ?ct0 ?s_SizesDiffer_SizesDiffer ?s_SizesDiffer_CableError ?s_SizesDiffer_BelowZero ?s_SizesDiffer_CountsDiffer ?s_SizesDiffer_NoSolution ?s_Form_Form ?sb_SizesDiffer_ValueError
    (case a1 => k_is)
    (case l1 => k_is)
    (case c1 => k_is)
    (case k1 => k_is)
    (case a2 => k_is)
    (case l2 => k_is)
    (case c2 => k_is)
    (case k2 => k_is)
    (case a3 => k_is)
    (case l3 => k_is)
    (case c3 => k_is)
    (case k3 => k_is)
    (case a4 => k_is)
    (case l4 => k_is)
    (case c4 => k_is)
    (case k4 => k_is)
    (case a5 => k_is)
    (case l5 => k_is)
    (case c5 => k_is)
    (case k5 => k_is)
    (case a6 => k_is)
    (case l6 => k_is)
    (case c6 => k_is)
    (case k6 => k_is)
    (case a7 => k_is)
    (case l7 => k_is)
    (case c7 => k_is)
    (case k7 => k_is)
    (case a8 => k_is)
    (case l8 => k_is)
    (case c8 => k_is)
    (case k8 => k_is)
    (case a9 => k_is)
    (case l9 => k_is)
    (case c9 => k_is)
    (case k9 => k_is)
    (case a10 => k_is)
    (case l10 => k_is)
    (case c10 => k_is)
    (case k10 => k_is)
    (case a11 => k_is)
    (case l11 => k_is)
    (case c11 => k_is)
    (case k11 => k_is)
    (case a12 => k_is)
    (case l12 => k_is)
    (case c12 => k_is)
    (case k12 => k_is)
    (case a13 => k_is)
    (case l13 => k_is)
    (case c13 => k_is)
    (case k13 => k_is)
    (case a14 => k_is)
    (case l14 => k_is)
    (case c14 => k_is)
    (case k14 => k_is)
    (case a15 => k_is)
    (case l15 => k_is)
    (case c15 => k_is)
    (case k15 => k_is)
    (case a16 => k_is)
    (case l16 => k_is)
    (case c16 => k_is)
    (case k16 => k_is)
    (case a17 => k_is)
    (case l17 => k_is)
    (case c17 => k_is)
    (case k17 => k_is)
    (case a18 => k_is)
    (case l18 => k_is)
    (case c18 => k_is)
    (case k18 => k_is)
    (case a19 => k_is)
    (case l19 => k_is)
    (case c19 => k_is)
    (case k19 => k_is)
    (case a20 => k_is)
    (case l20 => k_is)
    (case c20 => k_is)
    (case k20 => k_is)
    (case a21 => k_is)
    (case l21 => k_is)
    (case c21 => k_is)
    (case k21 => k_is)
    (case a22 => k_is)
    (case l22 => k_is)
    (case c22 => k_is)
    (case k22 => k_is)
    (case a23 => k_is)
    (case l23 => k_is)
    (case c23 => k_is)
    (case k23 => k_is)
    (case a24 => k_is)
    (case l24 => k_is)
    (case c24 => k_is)
    (case k24 => k_is)
    (case a25 => k_is)
    (case l25 => k_is)
    (case c25 => k_is)
    (case k25 => k_is)
    (case a26 => k_is)
    (case l26 => k_is)
    (case c26 => k_is)
    (case k26 => k_is)
    (case a27 => k_is)
    (case l27 => k_is)
    (case c27 => k_is)
    (case k27 => k_is)
    (case a28 => k_is)
    (case l28 => k_is)
    (case c28 => k_is)
    (case k28 => k_is)
    (case a29 => k_is)
    (case l29 => k_is)
    (case c29 => k_is)
    (case k29 => k_is)
    (case a30 => k_is)
    (case l30 => k_is)
    (case c30 => k_is)
    (case k30 => k_is)
    (case a31 => k_is)
    (case l31 => k_is)
    (case c31 => k_is)
    (case k31 => k_is)
    (case a32 => k_is)
    (case l32 => k_is)
    (case c32 => k_is)
    (case k32 => k_is)
    (case a33 => k_is)
    (case l33 => k_is)
    (case c33 => k_is)
    (case k33 => k_is)
    (case a34 => k_is)
    (case l34 => k_is)
    (case c34 => k_is)
    (case k34 => k_is)
    (case a35 => k_is)
    (case l35 => k_is)
    (case c35 => k_is)
    (case k35 => k_is)
    (case a36 => k_is)
    (case l36 => k_is)
    (case c36 => k_is)
    (case k36 => k_is)
    (case a37 => k_is)
    (case l37 => k_is)
    (case c37 => k_is)
    (case k37 => k_is)
    (case a38 => k_is)
    (case l38 => k_is)
    (case c38 => k_is)
    (case k38 => k_is)
    (case a39 => k_is)
    (case l39 => k_is)
    (case c39 => k_is)
    (case k39 => k_is)
    (case a40 => k_is)
    (case l40 => k_is)
    (case c40 => k_is)
    (case k40 => k_is)
    (case a41 => k_is)
    (case l41 => k_is)
    (case c41 => k_is)
    (case k41 => k_is)
    (case a42 => k_is)
    (case l42 => k_is)
    (case c42 => k_is)
    (case k42 => k_is)
    (case a43 => k_is)
    (case l43 => k_is)
    (case c43 => k_is)
    (case k43 => k_is)
    (case a44 => k_is)
    (case l44 => k_is)
    (case c44 => k_is)
    (case k44 => k_is)
    (case z0 => k_is)
    (case z1 => k_is)
    (case z2 => k_is)
    (case z3 => k_is)
    (case z4 => k_is)
    (case z5 => k_is)
    (case z6 => k_is)
    (case z7 => k_is)
    (case z8 => k_is)
    (case z9 => k_is)
    (case z10 => k_is)
    (case z11 => k_is)
    (case z12 => k_is)
    (case z13 => k_is)
    (case g_gcd => k_is)
    (case a_CableError => k_is)
    (case a_SizesDiffer => k_is)
    (case a_BelowZero => k_is)
    (case a_CountsDiffer => k_is)
    (case a_NoSolution => k_is)
    (case a_Form => k_is)
    (case a_RowList => k_is)
    (case i_CableError => k_is)
    (case y_CableError => k_is)
    (case i_SizesDiffer => k_is)
    (case y_SizesDiffer => k_is)
    (case i_BelowZero => k_is)
    (case y_BelowZero => k_is)
    (case i_CountsDiffer => k_is)
    (case y_CountsDiffer => k_is)
    (case i_NoSolution => k_is)
    (case y_NoSolution => k_is)
    (case b_CableError => k_is)
    (case b_SizesDiffer => k_is)
    (case xl_SizesDiffer => k_is)
    (case sa_SizesDiffer => k_is)
    (case ga_SizesDiffer => k_is)
    (case gg_SizesDiffer => k_is)
    (case ca_SizesDiffer => k_is)
    (case cm_SizesDiffer => k_is)
    (case hd_SizesDiffer => k_is)
    (case kp_SizesDiffer => k_is)
    (case no_SizesDiffer_one => k_is)
    (case no_SizesDiffer_two => k_is)
    (case in_SizesDiffer => k_is)
    (case tf_SizesDiffer => k_is)
    (case lf_SizesDiffer => k_is)
    (case cf_SizesDiffer => k_is)
    (case kf_SizesDiffer => k_is)
    (case pg_Form => k_is)
    (case hd_Form => k_is)
    (case po_Form => k_is)
    (case sa_Form => k_is)
    (case mk_Form => k_is)
    (case kc_Form => k_is)
    (case na_Form_size => k_is)
    (case na_Form_entries => k_is)
    (case na_Form_bottom => k_is)
    (case in_Form => k_is)
    (case isf_Form => k_is)
    (case lf_Form => k_is)
    (case cf_Form => k_is)
    (case kf_Form => k_is)
    (case kd_Form => k_is)
    (case pg_RowList => k_is)
    (case hd_RowList => k_is)
    (case po_RowList => k_is)
    (case sa_RowList => k_is)
    (case mk_RowList => k_is)
    (case kc_RowList => k_is)
    (case na_RowList_size => k_is)
    (case na_RowList_pairs => k_is)
    (case na_RowList_bottom => k_is)
    (case na_RowList_form => k_is)
    (case in_RowList => k_is)
    (case isf_RowList => k_is)
    (case lf_RowList => k_is)
    (case cf_RowList => k_is)
    (case kf_RowList => k_is)
    (case kd_RowList => k_is)
    (case me_mcall => k_is)
    (case mf_mcall => k_is)
    (case ml_mcall => k_is)
    (case mc_mcall => k_is)
    (case mp_mcall => k_is)
    (case mi_mcall => k_is)
    (case me_mbetween => k_is)
    (case mf_mbetween => k_is)
    (case ml_mbetween => k_is)
    (case mc_mbetween => k_is)
    (case mp_mbetween => k_is)
    (case me_mat => k_is)
    (case mf_mat => k_is)
    (case ml_mat => k_is)
    (case mc_mat => k_is)
    (case mp_mat => k_is)
    (case me_mapplied => k_is)
    (case mf_mapplied => k_is)
    (case ml_mapplied => k_is)
    (case mc_mapplied => k_is)
    (case mp_mapplied => k_is)
    (case i_Form => k_is)
    (case y_Form => k_is)
    (case oc_Form => k_is)
    (case om_Form => k_is)
    (case cn0 => k_is)
    (case ct0 => k_is)
    (case s_SizesDiffer_SizesDiffer => k_is)
    (case s_SizesDiffer_CableError => k_is)
    (case s_SizesDiffer_BelowZero => k_is)
    (case s_SizesDiffer_CountsDiffer => k_is)
    (case s_SizesDiffer_NoSolution => k_is)
    (case s_Form_Form => k_is)
    (case sb_SizesDiffer_ValueError => k_is)
