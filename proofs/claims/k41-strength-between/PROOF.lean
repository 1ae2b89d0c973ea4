import PyProof.Rows.All
import Wide.All
import OpenK.AllK
import Wide.FinOn
import HandS.Base
import HandS.List
import HandS.IsInst
import HandS.Text
import HandS.Call
import HandS.Comp
import HandS.Dict
import HandS.DictComp
import HandS.Flt
import HandS.TryOnly
import HandS.Words
import HandS.Ends
import HandS.Iter
import HandS.WordsList
import HandS.Exc
import HandS.ExcOwn
import HandS.ExcCtx
import HandS.ExcInit
import HandS.ExcField
import HandS.ExcIs
import HandS.HotCalls
import HandS.Codes
import KE.KExcIs
import HandS.ExcValue
import KE.GoesMore
import HandS.Walk
import HandS.Zip
import HandS.TupAny
import PyProof.ListNew
import KE.KRevIter
import HandS.RevTup
import HandS.Rev
import HandS.Gcd
import HandS.Wide
import HandS.MakeKwOnly
import HandS.Defaults
import PySem.Challenge.RW_wholecables_k41_strength_between
set_option Elab.async false
set_option linter.all false
set_option maxRecDepth 100000
set_option maxHeartbeats 4000000
/-! A rule for «match e: case 'a': .. case _: ..» over a text. -/
namespace L2
open PySem PySem.Spec PyProof.Rows
/-- the cases of a match, of a value -/
structure PM (X : Cx) (cs : List MatchCase) (t : V → TS) : Prop where
  run : ∀ (pins : List (Addr × Obj)) (s : Shared) (σ : St) (H : Hp) (D : Ends) (v : V) (u : Value) (first : Bool), Inv X pins σ H s → RelV v u → t v D σ H → wpAny (model X.prog X.w) X.A (matchCases cs X.env u first) (SP X pins D) X.xe s
section
variable {X : Cx}
def tMNil : V → TS := fun _ D σ H => D.nx σ H
def tMStr (x : Str) (tb : TS) (tr : V → TS) : V → TS := fun v D σ H => ∃ y, v = .str y ∧ if decide (y = x) = true then tb D σ H else tr (.str y) D σ H
def tMAny (tb : TS) : V → TS := fun _ D σ H => tb D σ H
theorem pm_nil : PM X [] tMNil := ⟨fun pins s σ H D v u first I r h => wpAny_matchCases_nil ⟨σ, H, I, h⟩⟩
theorem pm_str {x : Str} {j p1 p2} {body : List Stmt} {rest : List MatchCase} {tb : TS} {tr : V → TS} (hb : PSs X body tb) (hr : PM X rest tr) :
    PM X (⟨.MatchValue (.Constant (.str x) j p1) p2, none, body⟩ :: rest) (tMStr x tb tr) := by
  refine ⟨fun pins s σ H D v u first I r h => ?_⟩
  obtain ⟨y, rfl, q⟩ := h
  obtain ⟨t, rfl⟩ := r
  refine wpAny_matchCases_cons (wpAny_matchPattern_Value (Calls.Constant_str ?_))
  refine eq_str ?_
  refine wpAny_truthy_bool ?_
  by_cases e : y = x
  · have e1 : (y == x) = true := by rw [e]; exact beq_self_eq_true x
    rw [if_pos (decide_eq_true e)] at q
    first
      | rw [e1]
      | (rw [decide_eq_true e])
    show wpAny _ X.A (assignInOrder [] []) _ _ _
    exact wpAny_assignInOrder_none (hb.run pins _ σ H D (I.tok _) q)
  · have e1 : (y == x) = false := beq_eq_false_iff_ne.mpr e
    rw [if_neg (by rw [decide_eq_false e]; exact Bool.false_ne_true)] at q
    first
      | rw [e1]
      | (rw [decide_eq_false e])
    exact hr.run pins _ σ H D (.str y) _ false (I.tok _) ⟨t, rfl⟩ q
theorem pm_any {p2} {body : List Stmt} {tb : TS} (hb : PSs X body tb) : PM X [⟨.MatchAs none none p2, none, body⟩] (tMAny tb) := by
  refine ⟨fun pins s σ H D v u first I r h => ?_⟩
  refine wpAny_matchCases_cons (wpAny_matchPattern_Capture ?_)
  show wpAny _ X.A (assignInOrder [] []) _ _ _
  exact wpAny_assignInOrder_none (hb.run pins _ σ H D I h)
def tMatch (te : TE) (t : V → TS) : TS := fun D σ H => te σ H fun v H1 => t v D σ H1
theorem ps_match {e : Expr} {cs : List MatchCase} {pos : Pos} {te : TE} {t : V → TS} (he : PE X e te) (hc : PM X cs t) : PS X (.Match e cs pos) (tMatch te t) := by
  refine ⟨fun pins s σ H D I h => ?_⟩
  refine wpAny_Match (thn (he.run pins s σ H _ I h) fun u s1 ⟨v, H1, I1, r1, q1⟩ => ?_)
  exact hc.run pins s1 σ H1 D v u true I1 r1 q1
/-! the rules that speak of the written part, with K said outright: for a comprehension's block, where the context is bound -/
section
variable {X : Cx}
theorem ix_tupK {K : PySem.W.Frag} (h : X.K = K) : IxR X (rIxT K) := by subst h; exact ix_tup
theorem ix_listK {K : PySem.W.Frag} (h : X.K = K) : IxR X (rIxL K) := by subst h; exact ix_list
theorem sl_listK {K : PySem.W.Frag} (h : X.K = K) : SlR X (rSlL K) := by subst h; exact sl_list
theorem sl_tupK {K : PySem.W.Frag} (h : X.K = K) : SlR X (rSlT K) := by subst h; exact sl_tup
theorem op_in_seqK {K : PySem.W.Frag} (h : X.K = K) : OpR X (compareOp .In) (rIn K false) := by subst h; exact op_in_seq
theorem op_notIn_seqK {K : PySem.W.Frag} (h : X.K = K) : OpR X (compareOp .NotIn) (rIn K true) := by subst h; exact op_notIn_seq
theorem call_len_seqK {K : PySem.W.Frag} (h : X.K = K) : CallR X (.builtin "len") (fun xs H Q => ∃ p ys, xs = [.ref p] ∧ (SqL K H p ys ∨ SqT K H p ys) ∧ Q (.int ys.length) H) := by subst h; exact call_len_seq
theorem call_isiK1 {K : PySem.W.Frag} (h : X.K = K) : CallR X (.builtin "isinstance") (rIsi K) := by subst h; exact call_isi
theorem cr_allK {K : PySem.W.Frag} (h : X.K = K) (hc : X.calm = true) : CallR X (.builtin "all") (rAll K) := by subst h; exact cr_all hc
theorem cr_anyK {K : PySem.W.Frag} (h : X.K = K) (hc : X.calm = true) : CallR X (.builtin "any") (rAny K) := by subst h; exact cr_any hc
theorem cr_sumK {K : PySem.W.Frag} (h : X.K = K) (hc : X.calm = true) : CallR X (.builtin "sum") (rSum K) := by subst h; exact cr_sum hc
end
end
end L2
/-! Rules for «one or the other», max of three ints, the written part's letter said outright. -/
namespace L2
open PySem PySem.Spec PyProof.Rows
section
variable {X : Cx}
theorem pi_or {tg iter : Expr} {w1 w2 : TI} (h1 : PI X tg iter w1) (h2 : PI X tg iter w2) : PI X tg iter (fun σ H R => w1 σ H R ∨ w2 σ H R) :=
  ⟨fun pins s σ H R I h => h.elim (h1.run pins s σ H R I) (h2.run pins s σ H R I)⟩
theorem pg_or {tg : Expr} {g1 g2 : TG} (h1 : PG X tg g1) (h2 : PG X tg g2) : PG X tg (fun v σ H Q => g1 v σ H Q ∨ g2 v σ H Q) :=
  ⟨fun pins s σ H v u Q I r h => h.elim (h1.run pins s σ H v u Q I r) (h2.run pins s σ H v u Q I r)⟩
theorem ix_or : IxR X (fun x y H Q => rIxL X.K x y H Q ∨ rIxT X.K x y H Q) := ix_list.or ix_tup
theorem ix_orK {K : PySem.W.Frag} (h : X.K = K) : IxR X (fun x y H Q => rIxL K x y H Q ∨ rIxT K x y H Q) := by subst h; exact ix_or
theorem call_max3I (hc : X.calm = true) : CallR X (.builtin "max") (fun xs H Q => ∃ i j k : Int, xs = [.int i, .int j, .int k] ∧ Q (.int (if k > (if j > i then j else i) then k else (if j > i then j else i))) H) := by
  intro pins s σ H xs us Q I r h
  obtain ⟨i, j, k, rfl, q⟩ := h
  have e : nuMax3 (.int i) (.int j) (.int k) = some (.int (if k > (if j > i then j else i) then k else (if j > i then j else i))) := by
    have two : ∀ a b : Int, nuMax2 (.int a) (.int b) = some (.int (if b > a then b else a)) := fun a b => by
      show some (if decide (a < b) = true then V.int b else V.int a) = _
      by_cases h : b > a
      · rw [if_pos (decide_eq_true (show a < b from h)), if_pos h]
      · rw [if_neg (by rw [decide_eq_false (show ¬ a < b from h)]; exact Bool.false_ne_true), if_neg h]
    unfold nuMax3
    rw [two i j]
    exact two _ k
  exact call_max3Nu hc pins s σ H _ us Q I r ⟨_, _, _, _, rfl, e, q⟩
theorem call_list_ofK {K : PySem.W.Frag} (h : X.K = K) : CallR X (.type "list") (fun xs H Q => ∃ p ys, xs = [.ref p] ∧ (SqL K H p ys ∨ SqT K H p ys) ∧ ∀ l, H l = none → Q (.ref l) (upd H l (.lst ys))) := by subst h; exact call_list_of
theorem call_tuple_ofK {K : PySem.W.Frag} (h : X.K = K) : CallR X (.type "tuple") (fun xs H Q => ∃ p ys, xs = [.ref p] ∧ ((SqL K H p ys ∧ ∀ l, H l = none → Q (.ref l) (upd H l (.tup ys))) ∨ (SqT K H p ys ∧ Q (.ref p) H))) := by subst h; exact call_tuple_of
theorem pg_tupK {K : PySem.W.Frag} {es : List Expr} {k : Nat} {t : TGs} {n : Nat} {pos : Pos} (hK : X.K = K) (hc : X.calm = true) (h : PGs X es t)
    (hn : (assignEach es X.env).length = n := by rfl) (hst : (assignEach es X.env).findIdx? (·.1) = none := by rfl) : PG X (.Tuple es k pos) (gTup K n t) := by subst hK; exact pg_tup hc h hn hst
theorem pg_lstK {K : PySem.W.Frag} {es : List Expr} {k : Nat} {t : TGs} {n : Nat} {pos : Pos} (hK : X.K = K) (hc : X.calm = true) (h : PGs X es t)
    (hn : (assignEach es X.env).length = n := by rfl) (hst : (assignEach es X.env).findIdx? (·.1) = none := by rfl) : PG X (.Tuple es k pos) (gLst K n t) := by subst hK; exact pg_lst hc h hn hst
end
section
variable {X : Cx}
/-- y = {..}, a dict comprehension stored in its own statement -/
theorem ps_setDc {i : Nat} {y : Str} {py : Pos} {kx vx tg iter : Expr} {ifs : List Expr} {scope : Scope} {own : List (Str × Nat)} {pos spos : Pos} {wi : TI} {g : TG} {tt : TT} {tk tv : TE} (hc : X.calm = true) (hN : X.N.Nodup) (hy : X.N[i]? = some y) (hyl : X.env.scope.names.lookup y = some .local)
    (hsw : swapsWith (.DictComp kx vx [⟨tg, iter, ifs, 0⟩] scope pos) (some (.Name y py)) spos.line X.env = pure true) (hi : PI X tg iter wi) (ok : BlkOk X.N X.env.scope scope own)
    (hg : ∀ (s : Shared) (H : Hp) (C : Addr) (cl : List (Str × Addr)) (fp : List Addr), PG (X.blk s H scope (compEnvC scope cl C X.env) fp) tg g) (ht : ∀ (s : Shared) (H : Hp) (C : Addr) (cl : List (Str × Addr)) (fp : List Addr), PTs (X.blk s H scope (compEnvC scope cl C X.env) fp) ifs tt)
    (hk : ∀ (s : Shared) (H : Hp) (C : Addr) (cl : List (Str × Addr)) (fp : List Addr), PE (X.blk s H scope (compEnvC scope cl C X.env) fp) kx tk)
    (he : ∀ (s : Shared) (H : Hp) (C : Addr) (cl : List (Str × Addr)) (fp : List Addr), PE (X.blk s H scope (compEnvC scope cl C X.env) fp) vx tv) (hs : ∀ x, foldedSetIterable iter X.env x = pure x := by intro _; rfl) :
    PS X (.Assign [.Name y py] (.DictComp kx vx [⟨tg, iter, ifs, 0⟩] scope pos) spos) (tAsg (tDc wi g tt tk tv (own.map (·.2))) (gName i)) := by
  refine ⟨fun pins s σ H D I h => ?_⟩
  rw [exec_Assign_Name_used _ _ _ _ hsw]
  refine wpAny_bind (wpAny_standAt (wpAny_bind ?_))
  show wpAny _ X.A (do let _ ← comprehension (.DictComp kx vx [⟨tg, iter, ifs, 0⟩] scope pos) scope X.env (firstIterPos [⟨tg, iter, ifs, 0⟩] pos) newDict false (eval iter X.env) (some (assign (.Name y py) X.env))) _ _ s
  have h : tDc wi g tt tk tv (own.map (·.2)) σ H (fun x H1 => gName i x σ H1 D.nx) := h
  refine wpAny_bind (thn (dc_core (Qf := fun _ s' => SP X pins D .next s') hc hN I hi ok hg ht hk he hs h fun L C s' m H' I' q hn f => ?_) fun _ s' hq => wpAny_pure (wpAny_pure hq))
  show wpAny _ _ (assign (.Name y py) X.env (.ref L)) _ _ _
  refine wpAny_assign_Name (store_ok2 (v := V.ref L) I' hN hy (.inl hyl) rfl (fun s2 I2 hex => ?_) (.inr hyl))
  obtain ⟨a, sb, ha⟩ := hex
  obtain ⟨f0, f1, f2, f3, f4, f5⟩ := f
  have haC : C ≠ a := ha.elim (fun z => by rw [z]; exact f1) fun z e => f4 y a z e.symm
  exact ⟨m, hn.sameBut sb haC, fun h3 sb3 => ⟨_, H', I2.turned (t' := s2.toks) (fun b o hb e => (sb3.2 b hb).trans e) f0 f1 f3 f4 f5, q⟩⟩
theorem sw_trueD {kx vx : Expr} {gs : List Comprehension} {scope : Scope} {pos py : Pos} {y : Str} {l : Nat} {env : Env} (hk : env.scope.kind = .function) (hy : env.scope.names.lookup y = some .local) (hl : (py.line == pos.line) = true)
    (ha : (scope.names.any fun (n, k) => n == y && (k == .local || k == .cell)) = false) : swapsWith (.DictComp kx vx gs scope pos) (some (.Name y py)) l env = pure true := by
  have ky : env.kindOf y = some .local := hy
  have hb : env.blockKind = .function := by
    unfold Env.blockKind
    rw [hk]
    rfl
  unfold swapsWith
  simp only [hb, ky, ha, Expr.pos, hl]
  rfl
end
/-- a dict comprehension over a list that stays -/
theorem dc_list {K : PySem.W.Frag} {a : Addr} {xs : List V} {g : TG} {tt : TT} {tk tv : TE} {vs : List Nat} {σ : St} {H1 : Hp} {D : Addr} {Qd : Hp → Prop} (Pv : Nat → Hp → Prop) (h0 : Pv 0 (upd H1 D (.dK []))) (hl : ∀ i H, i ≤ xs.length → Pv i H → SqL K H a xs)
    (hs : ∀ i x H, xs[i]? = some x → Pv i H → g x (wipe σ vs) H fun σ2 H2 => wipe σ2 vs = wipe σ vs ∧ tt σ2 H2 fun b H3 =>
      if b = true then tk σ2 H3 fun y H4 => tv σ2 H4 fun z H5 => ∃ kvs k, y = kV k ∧ H5 D = some (.dK kvs) ∧ kvs.length < sizeLine ∧ Pv (i + 1) (upd H5 D (.dK (putK kvs k z))) else Pv (i + 1) H3) (hd : ∀ H, Pv xs.length H → Qd H) :
    ∃ W : Nat → Nat → Hp → Prop, (∃ m, W 0 m (upd H1 D (.dK []))) ∧ ∀ i m H, W i m H →
      ((Itl K a).stop i H ∧ Qd H) ∨ ((Itl K a).go i H ∧ ∃ Nx : Hp → Prop, (∀ H', Nx H' → ∃ m', m' < m ∧ W (i + 1) m' H') ∧ ∀ x H', (Itl K a).yld i H x H' → g x (wipe σ vs) H' fun σ2 H2 => wipe σ2 vs = wipe σ vs ∧ tt σ2 H2 fun b H3 =>
        if b = true then tk σ2 H3 fun y H4 => tv σ2 H4 fun z H5 => ∃ kvs k, y = kV k ∧ H5 D = some (.dK kvs) ∧ kvs.length < sizeLine ∧ Nx (upd H5 D (.dK (putK kvs k z))) else Nx H3) := by
  refine ⟨fun i m H => m = xs.length - i ∧ i ≤ xs.length ∧ Pv i H, ⟨xs.length, by simp, Nat.zero_le _, h0⟩, ?_⟩
  rintro i m H ⟨rfl, hi, p⟩
  have q := hl i H hi p
  rcases Nat.lt_or_ge i xs.length with hlt | hge
  · refine .inr ⟨⟨xs, xs[i], q, by simp [hlt]⟩, Pv (i + 1), fun H' p' => ⟨xs.length - (i + 1), by omega, rfl, hlt, p'⟩, ?_⟩
    rintro x H' ⟨rfl, y⟩
    exact hs i x _ (y xs q) p
  · obtain rfl : i = xs.length := Nat.le_antisymm hi hge
    exact .inl ⟨⟨xs, q, Nat.le_refl _⟩, hd H p⟩
/-- a dict comprehension over the list or the tuple in slot i, which stays -/
theorem tDc_or {K : PySem.W.Frag} {a : Addr} {xs : List V} {i : Nat} {g : TG} {tt : TT} {tk tv : TE} {vs : List Nat} {σ : St} {H : Hp} {Q : VK} (hi : σ[i]? = some (some (V.ref a))) (hx : H a = some (.lst xs) ∨ H a = some (.tup xs)) (Pv : Addr → Nat → Hp → Prop)
    (h0 : ∀ D, H D = none → Pv D 0 (upd H D (.dK []))) (hl : ∀ D, H D = none → ∀ j H', Pv D j H' → ∀ u, H a = some u → H' a = some u)
    (hs : ∀ D, H D = none → ∀ j x H', xs[j]? = some x → Pv D j H' → g x (wipe σ vs) H' fun σ2 H2 => wipe σ2 vs = wipe σ vs ∧ tt σ2 H2 fun b H3 =>
      if b = true then tk σ2 H3 fun y H4 => tv σ2 H4 fun z H5 => ∃ kvs k, y = kV k ∧ H5 D = some (.dK kvs) ∧ kvs.length < sizeLine ∧ Pv D (j + 1) (upd H5 D (.dK (putK kvs k z))) else Pv D (j + 1) H3)
    (hd : ∀ D, H D = none → ∀ H', Pv D xs.length H' → Q (.ref D) H') : tDc (fun σ H R => iList K (tVar i) σ H R ∨ iTup K (tVar i) σ H R) g tt tk tv vs σ H Q := by
  rcases hx with hx | hx
  · exact .inl ⟨_, hi, a, rfl, ⟨_, SqL.of hx⟩, fun D hD => dc_list (K := K) (a := a) (xs := xs) (Pv D) (h0 D hD) (fun j H' _ p => SqL.of (hl D hD j H' p _ hx)) (hs D hD) (hd D hD)⟩
  · exact .inr ⟨_, hi, a, rfl, ⟨_, SqT.of hx⟩, fun D hD => dc_tup (K := K) (a := a) (xs := xs) (Pv D) (h0 D hD) (fun j H' _ p => SqT.of (hl D hD j H' p _ hx)) (hs D hD) (hd D hD)⟩
/-- a loop over the list or the tuple in slot i, which stays -/
theorem tFor_or {K : PySem.W.Frag} {a : Addr} {xs : List V} {i : Nat} {g : TG} {tb : TS} {D : Ends} {σ : St} {H : Hp} (hi : σ[i]? = some (some (V.ref a))) (hx : H a = some (.lst xs) ∨ H a = some (.tup xs)) (Pv : Nat → St → Hp → Prop)
    (h0 : Pv 0 σ H) (hl : ∀ j σ' H', Pv j σ' H' → ∀ u, H a = some u → H' a = some u)
    (hs : ∀ j x σ' H', xs[j]? = some x → Pv j σ' H' → g x σ' H' fun σ2 H2 => tb { D with nx := Pv (j + 1), ct := Pv (j + 1), bk := D.nx } σ2 H2)
    (hd : ∀ σ' H', Pv xs.length σ' H' → D.nx σ' H') : tFor (fun σ H R => iList K (tVar i) σ H R ∨ iTup K (tVar i) σ H R) g tb D σ H := by
  rcases hx with hx | hx
  · exact .inl ⟨_, hi, a, rfl, ⟨_, SqL.of hx⟩, for_list (K := K) (a := a) (xs := xs) Pv h0 (fun j σ' H' _ p => SqL.of (hl j σ' H' p _ hx)) hs hd⟩
  · exact .inr ⟨_, hi, a, rfl, ⟨_, SqT.of hx⟩, for_tup (K := K) (a := a) (xs := xs) Pv h0 (fun j σ' H' _ p => SqT.of (hl j σ' H' p _ hx)) hs hd⟩
/-- a comprehension over the list or the tuple in slot i, which stays -/
theorem tLc_or {K : PySem.W.Frag} {a : Addr} {xs : List V} {i : Nat} {g : TG} {tt : TT} {te : TE} {vs : List Nat} {σ : St} {H : Hp} {Q : VK} (hi : σ[i]? = some (some (V.ref a))) (hx : H a = some (.lst xs) ∨ H a = some (.tup xs)) (Pv : Addr → Nat → Hp → Prop)
    (h0 : ∀ D, H D = none → Pv D 0 (upd H D (.lst []))) (hl : ∀ D, H D = none → ∀ j H', Pv D j H' → ∀ u, H a = some u → H' a = some u)
    (hs : ∀ D, H D = none → ∀ j x H', xs[j]? = some x → Pv D j H' → g x (wipe σ vs) H' fun σ2 H2 => wipe σ2 vs = wipe σ vs ∧ tt σ2 H2 fun b H3 =>
      if b = true then te σ2 H3 fun y H4 => ∃ acc, H4 D = some (.lst acc) ∧ acc.length < sizeLine ∧ Pv D (j + 1) (upd H4 D (.lst (acc ++ [y]))) else Pv D (j + 1) H3)
    (hd : ∀ D, H D = none → ∀ H', Pv D xs.length H' → Q (.ref D) H') : tLc (fun σ H R => iList K (tVar i) σ H R ∨ iTup K (tVar i) σ H R) g tt te vs σ H Q := by
  rcases hx with hx | hx
  · exact .inl ⟨_, hi, a, rfl, ⟨_, SqL.of hx⟩, fun D hD => lc_list (K := K) (a := a) (xs := xs) (Pv D) (h0 D hD) (fun j H' _ p => SqL.of (hl D hD j H' p _ hx)) (hs D hD) (hd D hD)⟩
  · exact .inr ⟨_, hi, a, rfl, ⟨_, SqT.of hx⟩, fun D hD => lc_tup (K := K) (a := a) (xs := xs) (Pv D) (h0 D hD) (fun j H' _ p => SqT.of (hl D hD j H' p _ hx)) (hs D hD) (hd D hD)⟩
end L2
/-! Own errors: made, raised, caught, asked of; defs that raise; defs that are called in a suite. All over the errors whose context is None. -/
namespace EX
open PySem PySem.Spec PyProof.Rows L2
/-- a def that may raise, by its body -/
theorem okR {P : Program} {w : World} {K : PySem.W.Frag} {mg : Str → Option Value} {base : Heap} {x qual : Str} {st : Stmt} {f : Addr} {fd : FuncData} {N ps : List Str} {k : Nat} {sp : Sp} (F : Fun K x qual st f fd) (S : FnScope N ps (defScope st))
    (len : ∀ vs H Q E, sp vs H Q E → vs.length = ps.length)
    (body : ∀ (cdv : Value) (A : Around) (outer : List Env) (s : Shared) (H : Hp) (vs : List V) (Q : VK) (E : XK), Room k (A.deeper (envOfC qual (defScope st) s.heap.objs.size f cdv)) → sp vs H Q E →
      ∃ t, PSs (cxOf (L2N.CX P w) P w K mg base N qual (defScope st) f cdv A outer s H E) (defBody st) t ∧ t { nx := fun _ H' => Q .non H', rt := Q } (start N vs) H) :
    FnOk P w K mg base (L2N.CX P w) (k + 1) f fd ps sp := by
  obtain ⟨oc, od, kV, doc, pm, an, cdv, ct, osl, rfl, lk, hcd⟩ := F.ex
  exact fn_of lk hcd S len fun A outer s H vs Q E hr hsp => body cdv A outer s H vs Q E hr hsp
/-- a def that does not raise, called while an error is handled, by its body -/
theorem okH {P : Program} {w : World} {K : PySem.W.Frag} {mg : Str → Option Value} {base : Heap} {x qual : Str} {st : Stmt} {f : Addr} {fd : FuncData} {N ps : List Str} {k : Nat} {sp : Sp} (F : Fun K x qual st f fd) (S : FnScope N ps (defScope st))
    (len : ∀ vs H Q E, sp vs H Q E → vs.length = ps.length)
    (body : ∀ (cdv : Value) (A : Around) (outer : List Env) (s : Shared) (H : Hp) (vs : List V) (Q : VK) (E : XK) (p : Addr × Obj), L2H.RoomH k (A.deeper (envOfC qual (defScope st) s.heap.objs.size f cdv)) → L2H.Hot1 A p → sp vs H Q E →
      ∃ t, PSs (L2H.cxH CX0 P w K mg base N qual (defScope st) f cdv A outer s H E p).nox (defBody st) t ∧ t { nx := fun _ H' => Q .non H', rt := Q } (start N vs) H) :
    L2H.FnH P w K mg base CX0 (k + 1) f fd ps sp := by
  obtain ⟨oc, od, kV, doc, pm, an, cdv, ct, osl, rfl, lk, hcd⟩ := F.ex
  refine L2H.fn_ofH lk hcd S len fun A outer s H vs Q E p hot hr hsp => ?_
  obtain ⟨t, h, q⟩ := body cdv A outer s H vs Q E p hr hot hsp
  exact ⟨t, h.nox, q⟩
/-- defs as their callers see them: one that may raise; one that is called in a suite -/
def CalX (P : Program) (w : World) (K : PySem.W.Frag) (mg : Str → Option Value) (base : Heap) (k : Nat) (x : Str) (ps : List Str) (sp : Sp) : Prop :=
  ∃ (f : Addr) (fd : FuncData), FnOk P w K mg base (L2N.CX P w) k f fd ps sp ∧ mg x = some (.ref f) ∧ PySem.W.keepIn K (.ref f) = true ∧ Binds K fd ps []
def CalH (P : Program) (w : World) (K : PySem.W.Frag) (mg : Str → Option Value) (base : Heap) (k : Nat) (x : Str) (ps : List Str) (sp : Sp) : Prop :=
  ∃ (f : Addr) (fd : FuncData), L2H.FnH P w K mg base CX0 k f fd ps sp ∧ mg x = some (.ref f) ∧ PySem.W.keepIn K (.ref f) = true ∧ Binds K fd ps []
section
variable {X : Cx} {k : Nat} {x : Str} {ps : List Str} {sp : Sp} {p pos : Pos} {e : Expr} {es : List Expr} {t : TA} {W : WX}
/-- f(..) that may raise; W: what is wished of what is raised -/
theorem pe_calX (C : CalX X.prog X.w X.K X.mg X.base k x ps sp) (hr : Room k X.A) (hg : Gl X x) (tk : L2N.Takes X W) (ha : PA X (e :: es) t)
    (hdb : (x == ("__debug__" : Str)) = false := by decide) (he : starEach (e :: es) X.env = (false, eval e X.env) :: starEach es X.env := by rfl) (hpl : (backTo pos (starEach es X.env)).any (·.1) = false := by rfl) :
    PE X (.Call (.Name x p) (e :: es) [] pos) (tCallS sp (WE W) t) := by
  obtain ⟨f, fd, G, m, kp, b⟩ := C
  exact pe_callS G hr hg m kp b (L2N.passAt tk) ha hdb he hpl
theorem passH {X : Cx} {σ : L2.St} : PassesAt CX0 X σ E0 := fun _ _ _ _ _ _ h => h.elim
/-- f(..) in a suite -/
theorem pe_calH (C : CalH X.prog X.w X.K X.mg X.base k x ps sp) (hr : L2H.RoomH k X.A) (hc : L2H.HotC X) (hg : Gl X x) (ha : PA X (e :: es) t)
    (hdb : (x == ("__debug__" : Str)) = false := by decide) (he : starEach (e :: es) X.env = (false, eval e X.env) :: starEach es X.env := by rfl) (hpl : (backTo pos (starEach es X.env)).any (·.1) = false := by rfl) :
    PE X (.Call (.Name x p) (e :: es) [] pos) (tCallS sp (fun _ => E0) t) := by
  obtain ⟨f, fd, G, m, kp, b⟩ := C
  exact L2H.pe_callH G hr hc hg m kp b (fun _ => passH) ha hdb he hpl
/-- the suite of an error whose context is None bears it -/
theorem hot_of {X : Cx} {a : Addr} {oe : Obj} {cls : Value} {d : Option Addr} {pn : List (Addr × Obj)} (hz : L2N.Zn cls d oe) (hf : ∃ vs, oe.data = .fields vs) : L2H.HotC (X.suite a ((a, oe) :: pn)) := by
  obtain ⟨vs, e⟩ := hf
  exact ⟨(a, oe), ⟨rfl, vs, e, hz.2.2 vs e⟩, List.mem_cons_self⟩
theorem roomS {X : Cx} {k : Nat} {a : Addr} {pn : List (Addr × Obj)} (hr : Room k X.A) : L2H.RoomH k (X.suite a pn).A := ⟨hr.dp, hr.un⟩
/-- nothing is let out -/
theorem takesN {X : Cx} : L2N.Takes X (fun _ _ _ _ => False) := fun _ _ h => by
  obtain ⟨_, _, _, _, _, _, _, _, _, _, _, _, _, _, _, _, z⟩ := h
  exact z.elim
theorem passN {X : Cx} {E : XK} : Passes CX0 X E := fun _ _ _ _ _ _ _ h => h.elim
end
/-! ### making -/
section
variable {X : Cx} {C : Addr} {bmB : List Value} {B newId initId : String}
/-- X(), an own class without an __init__ -/
theorem pmk0 {x : Str} {p pos : Pos} (F : ExcBaseFacts B newId initId bmB) (q : PySem.W.excIn X.K C bmB newId = true) (gC : X.mg x = some (.ref C)) (kC : PySem.W.keepIn X.K (.ref C) = true) (r : Raises X (.ref C)) (hg : Gl X x)
    (hdb : (x == ("__debug__" : Str)) = false := by decide) : L2N.PMk X (.Call (.Name x p) [] [] pos) (fun _ H Q => Q (.ref C) none H) := by
  intro pins s σ H Q I h
  refine wpAny_Call_Name_kw (ld_glob I hg gC (PySem.W.callWith_K0 I.kIn kC ?_) hdb)
  obtain ⟨bm, N, nm, qn, bs, hdct, sn, sub, ab, col, dd, k0, k1, k2, k3, k5, mN, hC, hN, hni, T⟩ := exc_obj I.kIn q
  exact wpAny_call_exc_subT F T hC hN hni (fun h' e hm => L2N.mk_of I hm r h (I.hok.gone hm.new)) (Nat.zero_le _)
/-- X(..), an own class with an __init__ -/
theorem pmkI {CX : CXT} {x : Str} {fI : Addr} {k : Nat} {fd : FuncData} {ps : List Str} {sp : Sp} {e : Expr} {es : List Expr} {ta : TA} {p pos : Pos} (T : OexC X.K C) (iC : PySem.W.findIn X.K (.ref C) "__init__" = some (some (.ref fI)))
    (tI : PySem.W.typeIn X.K (.ref fI) = some (.type "function")) (F1 : FnOk X.prog X.w X.K X.mg X.base CX k fI fd ps sp) (hr : Room (k + 1) X.A) (hb : Binds X.K fd ps []) (hx : Passes CX X (fun _ _ _ => False)) (hg : Gl X x) (hm : X.mg x = some (.ref C)) (ha : PA X (e :: es) ta)
    (hdb : (x == ("__debug__" : Str)) = false := by decide) (he : starEach (e :: es) X.env = (false, eval e X.env) :: starEach es X.env := by rfl) (hpl : (backTo pos (starEach es X.env)).any (·.1) = false := by rfl) :
    L2N.PMk X (.Call (.Name x p) (e :: es) [] pos) (tMkO C sp [] ta) := by
  intro pins s σ H Q I h
  obtain ⟨nm, q, N, bs, bm, sn, sub, ab, col, dd, k0, k1, k2, k3, k5, hC, hbm⟩ := T.cls
  refine wpAny_Call_Name_kw (ld_glob I hg hm (PySem.W.callWith_K (h₀ := X.base) I.ok.mod.kin T.kC (thn (ha.run pos pins s σ H _ I h) fun us s1 hh => ?_) he hpl) hdb)
  obtain ⟨vs, H1, I1, r1, hz, q1⟩ := hh
  refine ⟨I1.kIn, ?_⟩
  show wpAny _ _ (call (.ref C) us) _ _ _
  obtain ⟨hp, g, dr, tk, os⟩ := s1
  have fresh := I1.hok.fresh (Nat.le_succ hp.objs.size)
  have hq := q1 (hp.objs.size + 1) fresh
  rw [List.append_nil] at hq
  generalize eh : (hp.push (PySem.W.kdv_tup us)).push (PySem.HandSPX.excO C hp.objs.size) = hn
  have kk : ∀ b o, hp.get? b = some o → hn.get? b = some o := fun b o z => by
    rw [← eh]
    exact Heap.get?_push_of_some _ (Heap.get?_push_of_some _ z)
  have hget : hn.get? (hp.objs.size + 1) = some (PySem.HandSPX.excO C hp.objs.size) := by
    rw [← eh]
    heap_get
  have I2 : Inv X pins σ (upd H1 (hp.objs.size + 1) (exo (hp.objs.size + 1) C none)) ⟨hn, g, dr, tk, os⟩ := I1.laid (t' := tk) kk (Nat.le_succ _) (exo_ok hget)
  have r2 : Vals (V.ref (hp.objs.size + 1) :: vs) (Value.ref (hp.objs.size + 1) :: us) := .cons rfl r1
  have hl : (Value.ref (hp.objs.size + 1) :: us).length = ps.length := r2.length.symm.trans (F1.len _ _ _ _ hq)
  have hb' := hb _ (Value.ref (hp.objs.size + 1) :: us) I2.kIn (by rw [List.append_nil]; exact hl)
  rw [List.append_nil] at hb'
  have hus : us.length ≤ sizeLine := by
    rw [← Vals.length r1]
    exact Nat.le_trans hz (by rw [sizeLine_eq]; decide)
  have run := F1.run _ X.stack _ _ ⟨Value.ref (hp.objs.size + 1) :: us, []⟩ _ _ _ (fun _ _ _ => False) (hr.make C us []) (I2.env0.make C us []) hb' r2 hq
  rw [← eh] at run
  refine wpAny_call (PySem.HandSPX.call_own F.excBase_ValueError (fun Y => PySem.HandSPX.refsVE_contains Y bm hbm) (I1.kIn _ _ hC) (PySem.W.looks_findIn I1.kIn iC) (fun self => PySem.W.bind_fn I1.kIn self tI) hus (codeAny_mono run fun r s' hq' => ?_))
  rw [eh] at hq'
  cases r with
  | error er => exact hx pins σ _ _ er s' I2 hq'
  | ok fl =>
    cases fl with
    | next => exact hq'.elim
    | brk => exact hq'.elim
    | cont => exact hq'.elim
    | ret u =>
      obtain ⟨v, H2, os2, bare2, un2, hok2, rv, ev, d, fs, ea, ed, hd1, q2⟩ := hq'
      subst ev
      obtain ⟨h2, g2, d2, t2, os'⟩ := s'
      obtain ⟨t0, G, J, kG, ge, hoe, na⟩ := mk_end0 (d2 := d2) (t2 := t2) I1 (Nat.le_succ _) kk un2 hok2 os2 bare2 ea ed hd1
      exact ⟨rv, hp.objs.size + 1, _, _, ⟨G, g2, d2, t2, os'⟩, _, .ref C, some d, rfl, J, kG, ge, hoe, ⟨rfl, rfl, fun vs z => by cases z; rfl⟩, rfl, rfl, na, rfl, bare2, raises_own T.exC T.tyC, q2⟩
end
/-! ### asking of a caught error -/
/-- what the class at C must say for its instances to be asked of -/
structure XCls (K : PySem.W.Frag) (C : Addr) : Prop where
  cl : (PySem.W.clsIn K C).isSome = true
  ga : PySem.W.findIn K (.ref C) "__getattribute__" = some (some (.builtin "BaseException.__getattribute__"))
  gg : PySem.W.findIn K (.ref C) "__getattr__" = some none
  su : PySem.W.subIn K (.ref C) (.type "BaseException") = some true
  ca : PySem.W.findIn K (.ref C) "__class__" = some (some (.builtin "object.__class__"))
  cn : PySem.W.specialIn K (.builtin "object.__class__") "__get__" = some (some (.builtin "getset_descriptor.__get__"))
  ct : PySem.W.takesIn K (.builtin "object.__class__") = some true
  cm : PySem.W.mroIn K C (.type "object") = some true
  hd : PySem.W.hasDictIn K C = true
  ty : PySem.W.typeIn K (.ref C) = some (.type "type")
  kp : PySem.W.keepIn K (.ref C) = true
def xclsB (K : PySem.W.Frag) (C : Addr) : Bool :=
  (PySem.W.clsIn K C).isSome && decide (PySem.W.findIn K (.ref C) "__getattribute__" = some (some (.builtin "BaseException.__getattribute__"))) && decide (PySem.W.findIn K (.ref C) "__getattr__" = some none) &&
  decide (PySem.W.subIn K (.ref C) (.type "BaseException") = some true) && decide (PySem.W.findIn K (.ref C) "__class__" = some (some (.builtin "object.__class__"))) &&
  decide (PySem.W.specialIn K (.builtin "object.__class__") "__get__" = some (some (.builtin "getset_descriptor.__get__"))) && decide (PySem.W.takesIn K (.builtin "object.__class__") = some true) &&
  decide (PySem.W.mroIn K C (.type "object") = some true) && PySem.W.hasDictIn K C && decide (PySem.W.typeIn K (.ref C) = some (.type "type")) && PySem.W.keepIn K (.ref C)
theorem xcls_of {K : PySem.W.Frag} {C : Addr} (h : xclsB K C = true) : XCls K C := by
  unfold xclsB at h
  simp only [Bool.and_eq_true, decide_eq_true_eq] at h
  obtain ⟨⟨⟨⟨⟨⟨⟨⟨⟨⟨a, b⟩, c⟩, d⟩, e⟩, f⟩, g⟩, h⟩, i⟩, j⟩, k⟩ := h
  exact ⟨a, b, c, d, e, f, g, h, i, j, k⟩
theorem XCls.xf {K : PySem.W.Frag} {C : Addr} (T : XCls K C) : XfC K C := ⟨T.ga, T.gg, T.su, T.hd⟩
theorem XCls.raises {X : Cx} {C : Addr} (T : XCls X.K C) : Raises X (.ref C) := raises_own T.su T.ty
theorem XCls.kit {K : PySem.W.Frag} {C x : Addr} {ox : Obj} {od : Option Obj} (T : XCls K C) : PySem.W.KitX K (.ref x) (.ref C) (fun h => PySem.W.InstAt h x ox C od) := PySem.W.kitx_exc T.cl T.ga T.gg T.su T.ca T.cn T.ct T.cm
/-- the class at C beside the class at D, as isinstance and except see them: b tells whether C is D or stands below it -/
structure Below (K : PySem.W.Frag) (C D : Addr) (b : Bool) : Prop where
  one : PySem.W.kitOne K (.ref C) (.ref D) = some b
  exm : PySem.W.exmOne K (.ref C) (.ref D) = some b
theorem exm_kit {K : PySem.W.Frag} {C D : Addr} {b : Bool} (T : XCls K C) (hs : PySem.W.subIn K (.ref C) (.ref D) = some b) (U : XCls K D) (hne : (Value.ref C == Value.ref D) = true → b = true) : Below K C D b := by
  have h2 : ((PySem.W.clsIn K D).isSome && PySem.W.typeIn K (.ref D) == some (.type "type")) = true := by
    rw [U.cl, U.ty]
    rfl
  have h3 : PySem.W.kitCls K (.ref C) (.ref D) = some b := by
    show (if _ then _ else _) = _
    rw [if_pos h2]
    exact hs
  refine ⟨?_, ?_⟩
  · show (if _ then _ else _) = _
    by_cases e : (Value.ref C == Value.ref D) = true
    · rw [if_pos e, hne e]
    · rw [if_neg e]
      exact h3
  · show (if _ then _ else _) = _
    have e : (PySem.W.subIn K (.ref D) (.type "BaseException") == some true) = true := by rw [U.su]; rfl
    rw [if_pos e]
    exact h3
/-- isinstance and except, from what the written part says of two classes -/
theorem kit_sub {K : PySem.W.Frag} {C D : Addr} {b : Bool} (i : PySem.W.isClsIn K D = true) (t : PySem.W.typeIn K (.ref D) = some (.type "type")) (s : PySem.W.subIn K (.ref C) (.ref D) = some b) (r : PySem.W.subIn K (.ref C) (.ref C) = some true) : PySem.W.kitOne K (.ref C) (.ref D) = some b := by
  have h2 : ((PySem.W.clsIn K D).isSome && PySem.W.typeIn K (.ref D) == some (.type "type")) = true := by
    have i' : (PySem.W.clsIn K D).isSome = true := i
    rw [i', t]
    rfl
  show (if _ then _ else _) = _
  by_cases e : (Value.ref C == Value.ref D) = true
  · rw [if_pos e]
    have e' : Value.ref C = Value.ref D := eq_of_beq e
    rw [← e', r] at s
    exact s
  · rw [if_neg e]
    show (if _ then _ else _) = _
    rw [if_pos h2]
    exact s
theorem kit_blt {K : PySem.W.Frag} {C : Addr} {T : String} {b : Bool} (m : PySem.W.kitMeta T = true) (s : PySem.W.subIn K (.ref C) (.type T) = some b) : PySem.W.kitOne K (.ref C) (.type T) = some b := by
  show (if _ then _ else _) = _
  rw [if_neg (by exact Bool.false_ne_true)]
  show (if _ then _ else _) = _
  rw [if_pos m]
  exact s
theorem exm_sub {K : PySem.W.Frag} {C D : Addr} {b : Bool} (i : PySem.W.isClsIn K D = true) (t : PySem.W.typeIn K (.ref D) = some (.type "type")) (e : PySem.W.subIn K (.ref D) (.type "BaseException") = some true) (s : PySem.W.subIn K (.ref C) (.ref D) = some b) : PySem.W.exmOne K (.ref C) (.ref D) = some b := by
  have h2 : ((PySem.W.clsIn K D).isSome && PySem.W.typeIn K (.ref D) == some (.type "type")) = true := by
    have i' : (PySem.W.clsIn K D).isSome = true := i
    rw [i', t]
    rfl
  have h1 : (PySem.W.subIn K (.ref D) (.type "BaseException") == some true) = true := by
    rw [e]
    rfl
  show (if _ then _ else _) = _
  rw [if_pos h1]
  show (if _ then _ else _) = _
  rw [if_pos h2]
  exact s
/-- where the error's own dict stands -/
def DictAt (H : Hp) (d : Option Addr) : Prop := d = none ∨ ∃ (dd : Addr) (fs : List (Str × V)), d = some dd ∧ H dd = some (.xd fs)
theorem inst_of {X : Cx} {pins : List (Addr × Obj)} {σ : L2.St} {H : Hp} {s : Shared} {a D : Addr} {oe : Obj} {d : Option Addr} {pn : List (Addr × Obj)} (I : Inv (X.suite a ((a, oe) :: pn)) pins σ H s) (hz : Zc (.ref D) d oe) (hf : ∃ vs, oe.data = .fields vs) (hd : DictAt H d) :
    ∃ od, PySem.W.InstAt s.heap a oe D od := by
  obtain ⟨hget, _⟩ := I.pin (a, oe) (List.mem_append_left _ List.mem_cons_self)
  obtain ⟨vs, hv⟩ := hf
  have no : PySem.W.notCls oe = true := by unfold PySem.W.notCls; rw [hv]
  rcases hd with rfl | ⟨dd, fs, rfl, hx⟩
  · exact ⟨none, hget, hz.1, no, by rw [hz.2]; trivial⟩
  · have hx : ObjOk X.prog X.w H s.heap dd (.xd fs) := I.hok dd _ hx
    obtain ⟨mA, hns, _⟩ := hx
    obtain ⟨od, ho, _⟩ := lookIn_ns hns
    exact ⟨some od, hget, hz.1, no, by rw [hz.2]; exact ho⟩
/-- isinstance(e, c) -/
def rIsX (K : PySem.W.Frag) (a : Addr) (cls : Value) (d : Option Addr) : List V → Hp → VK → Prop := fun xs H Q => ∃ (D : Addr) (c : V) (cv : Value) (b : Bool), xs = [.ref a, c] ∧ ClsV c cv ∧ cls = .ref D ∧ XCls K D ∧ DictAt H d ∧ PySem.W.kitOne K (.ref D) cv = some b ∧ Q (.bl b) H
/-- isinstance(e, (c, ..)) -/
def rIsXT (K : PySem.W.Frag) (a : Addr) (cls : Value) (d : Option Addr) : List V → Hp → VK → Prop := fun xs H Q => ∃ (D tp : Addr) (cs : List V) (us : List Value) (b : Bool), xs = [.ref a, .ref tp] ∧ H tp = some (.tup cs) ∧ Paired ClsV cs us ∧ cls = .ref D ∧ XCls K D ∧ DictAt H d ∧
  PySem.W.kitAny K (.ref D) us = some b ∧ Q (.bl b) H
section
variable {X : Cx} {a : Addr} {oe : Obj} {cls : Value} {d : Option Addr} {pn : List (Addr × Obj)}
theorem call_isX {K : PySem.W.Frag} (hK : X.K = K) (hz : Zc cls d oe) (hf : ∃ vs, oe.data = .fields vs) : CallR (X.suite a ((a, oe) :: pn)) (.builtin "isinstance") (rIsX K a cls d) := by
  subst hK
  intro pins s σ H xs us Q I r h
  obtain ⟨D, c, cv, b, rfl, k, rfl, T, hd, e, q⟩ := h
  obtain ⟨u1, u2, rfl, r1, r2⟩ := vals2 r
  cases (show u1 = Value.ref a from r1)
  have e2 := k.eq r2
  subst e2
  obtain ⟨od, J⟩ := inst_of I hz hf hd
  exact PySem.W.kia_one T.kit I.kIn J e (fun z => nomatch z) fun tk => ⟨.bl b, H, I.tok tk, rfl, q⟩
theorem call_isXT {K : PySem.W.Frag} (hK : X.K = K) (hz : Zc cls d oe) (hf : ∃ vs, oe.data = .fields vs) : CallR (X.suite a ((a, oe) :: pn)) (.builtin "isinstance") (rIsXT K a cls d) := by
  subst hK
  intro pins s σ H xs us Q I r h
  obtain ⟨D, tp, cs, ws, b, rfl, hT, k, rfl, T, hd, e, q⟩ := h
  obtain ⟨u1, u2, rfl, r1, r2⟩ := vals2 r
  cases (show u1 = Value.ref a from r1)
  cases (show u2 = Value.ref tp from r2)
  obtain ⟨_, its, rv, o, h1, h2, n, h3⟩ := (show ObjOk X.prog X.w H s.heap tp (.tup cs) from I.hok tp _ hT)
  have e3 := ClsV.all k rv
  subst e3
  obtain ⟨oc, od', dt, sl⟩ := o
  simp only at h2 h3
  subst h2 h3
  obtain ⟨od, J⟩ := inst_of I hz hf hd
  exact PySem.W.kia_tup T.kit I.kIn J h1 e (fun z => nomatch z) fun tk => ⟨.bl b, H, I.tok tk, rfl, q⟩
end
end EX
/-! An exception object as a value; a caught error as an argument. -/
namespace EX
open PySem PySem.Spec PyProof.Rows L2
section
variable {X : Cx} {C : Addr} {bmB : List Value} {B newId initId : String}
/-- X() as a value, an own class without an __init__ -/
theorem pe_exc0 {x : Str} {p pos : Pos} (F : ExcBaseFacts B newId initId bmB) (q : PySem.W.excIn X.K C bmB newId = true) (gC : X.mg x = some (.ref C)) (kC : PySem.W.keepIn X.K (.ref C) = true) (hg : Gl X x) (hdb : (x == ("__debug__" : Str)) = false := by decide) :
    PE X (.Call (.Name x p) [] [] pos) (fun _ H Q => ∀ a, H a = none → Q (.ref a) (upd H a (ExO (.ref C) a))) := by
  refine ⟨fun pins s σ H Q I h => ?_⟩
  refine wpAny_Call_Name_kw (ld_glob I hg gC (PySem.W.callWith_K0 I.kIn kC ?_) hdb)
  obtain ⟨bm, N, nm, qn, bs, hdct, sn, sub, ab, col, dd, k0, k1, k2, k3, k5, mN, hC, hN, hni, T⟩ := exc_obj I.kIn q
  refine wpAny_call_exc_subT F T hC hN hni (fun h' e hm => ?_) (Nat.zero_le _)
  have free : H e = none := I.hok.gone hm.new
  obtain ⟨t, there, _, _⟩ := hm.there
  exact ⟨.ref e, _, I.laidN hm.keeps hm.new free (exO_ok there ⟨rfl, rfl⟩ rfl rfl rfl (show 4 < 6 by decide)), rfl, h e free⟩
end
theorem notCls_of {o : Obj} {vs : Array Value} (h : o.data = .fields vs) : PySem.W.notCls o = true := by
  unfold PySem.W.notCls
  rw [h]
/-- isinstance of an exception object that is a value -/
def rIsO (K : PySem.W.Frag) : List V → Hp → VK → Prop := fun xs H Q => ∃ (a D : Addr) (c : V) (cv : Value) (b : Bool), xs = [.ref a, c] ∧ ClsV c cv ∧ H a = some (ExO (.ref D) a) ∧ XCls K D ∧ PySem.W.kitOne K (.ref D) cv = some b ∧ Q (.bl b) H
def rIsOT (K : PySem.W.Frag) : List V → Hp → VK → Prop := fun xs H Q => ∃ (a D tp : Addr) (cs : List V) (us : List Value) (b : Bool), xs = [.ref a, .ref tp] ∧ H tp = some (.tup cs) ∧ Paired ClsV cs us ∧ H a = some (ExO (.ref D) a) ∧ XCls K D ∧ PySem.W.kitAny K (.ref D) us = some b ∧ Q (.bl b) H
section
variable {X : Cx}
theorem inst_O {pins : List (Addr × Obj)} {σ : L2.St} {H : Hp} {s : Shared} {a D : Addr} (I : Inv X pins σ H s) (h : H a = some (ExO (.ref D) a)) : ∃ oe, PySem.W.InstAt s.heap a oe D none := by
  obtain ⟨⟨oe, vs, hget, hz, hd, _⟩, _⟩ := (show ObjOk X.prog X.w H s.heap a (ExO (.ref D) a) from I.hok a _ h)
  exact ⟨oe, hget, hz.1, notCls_of hd, by rw [hz.2]; trivial⟩
theorem call_isO {K : PySem.W.Frag} (hK : X.K = K) : CallR X (.builtin "isinstance") (rIsO K) := by
  subst hK
  intro pins s σ H xs us Q I r h
  obtain ⟨a, D, c, cv, b, rfl, k, ha, T, e, q⟩ := h
  obtain ⟨u1, u2, rfl, r1, r2⟩ := vals2 r
  cases (show u1 = Value.ref a from r1)
  have e2 := k.eq r2
  subst e2
  obtain ⟨oe, J⟩ := inst_O I ha
  exact PySem.W.kia_one T.kit I.kIn J e (fun z => nomatch z) fun tk => ⟨.bl b, H, I.tok tk, rfl, q⟩
theorem call_isOT {K : PySem.W.Frag} (hK : X.K = K) : CallR X (.builtin "isinstance") (rIsOT K) := by
  subst hK
  intro pins s σ H xs us Q I r h
  obtain ⟨a, D, tp, cs, ws, b, rfl, hT, k, ha, T, e, q⟩ := h
  obtain ⟨u1, u2, rfl, r1, r2⟩ := vals2 r
  cases (show u1 = Value.ref a from r1)
  cases (show u2 = Value.ref tp from r2)
  obtain ⟨_, its, rv, o, h1, h2, n, h3⟩ := (show ObjOk X.prog X.w H s.heap tp (.tup cs) from I.hok tp _ hT)
  have e3 := ClsV.all k rv
  subst e3
  obtain ⟨oc, od', dt, sl⟩ := o
  simp only at h2 h3
  subst h2 h3
  obtain ⟨oe, J⟩ := inst_O I ha
  exact PySem.W.kia_tup T.kit I.kIn J h1 e (fun z => nomatch z) fun tk => ⟨.bl b, H, I.tok tk, rfl, q⟩
end
/-! ### isinstance of a pinned error, in any context that bears it -/
def rIsP (K : PySem.W.Frag) (a : Addr) (D : Addr) : List V → Hp → VK → Prop := fun xs H Q => ∃ (c : V) (cv : Value) (b : Bool), xs = [.ref a, c] ∧ ClsV c cv ∧ XCls K D ∧ PySem.W.kitOne K (.ref D) cv = some b ∧ Q (.bl b) H
def rIsPT (K : PySem.W.Frag) (a : Addr) (D : Addr) : List V → Hp → VK → Prop := fun xs H Q => ∃ (tp : Addr) (cs : List V) (us : List Value) (b : Bool), xs = [.ref a, .ref tp] ∧ H tp = some (.tup cs) ∧ Paired ClsV cs us ∧ XCls K D ∧ PySem.W.kitAny K (.ref D) us = some b ∧ Q (.bl b) H
section
variable {X : Cx} {p : Addr × Obj} {D : Addr}
theorem inst_P {pins : List (Addr × Obj)} {σ : L2.St} {H : Hp} {s : Shared} (I : Inv X pins σ H s) (hm : p ∈ X.pn) (hz : Zc (.ref D) none p.2) (hf : ∃ vs, p.2.data = .fields vs) : PySem.W.InstAt s.heap p.1 p.2 D none := by
  obtain ⟨hget, _⟩ := I.pin p (List.mem_append_left _ hm)
  obtain ⟨vs, hv⟩ := hf
  exact ⟨hget, hz.1, notCls_of hv, by rw [hz.2]; trivial⟩
theorem call_isP {K : PySem.W.Frag} (hK : X.K = K) (hm : p ∈ X.pn) (hz : Zc (.ref D) none p.2) (hf : ∃ vs, p.2.data = .fields vs) : CallR X (.builtin "isinstance") (rIsP K p.1 D) := by
  subst hK
  intro pins s σ H xs us Q I r h
  obtain ⟨c, cv, b, rfl, k, T, e, q⟩ := h
  obtain ⟨u1, u2, rfl, r1, r2⟩ := vals2 r
  cases (show u1 = Value.ref p.1 from r1)
  have e2 := k.eq r2
  subst e2
  exact PySem.W.kia_one T.kit I.kIn (inst_P I hm hz hf) e (fun z => nomatch z) fun tk => ⟨.bl b, H, I.tok tk, rfl, q⟩
theorem call_isPT {K : PySem.W.Frag} (hK : X.K = K) (hm : p ∈ X.pn) (hz : Zc (.ref D) none p.2) (hf : ∃ vs, p.2.data = .fields vs) : CallR X (.builtin "isinstance") (rIsPT K p.1 D) := by
  subst hK
  intro pins s σ H xs us Q I r h
  obtain ⟨tp, cs, ws, b, rfl, hT, k, T, e, q⟩ := h
  obtain ⟨u1, u2, rfl, r1, r2⟩ := vals2 r
  cases (show u1 = Value.ref p.1 from r1)
  cases (show u2 = Value.ref tp from r2)
  obtain ⟨_, its, rv, o, h1, h2, n, h3⟩ := (show ObjOk X.prog X.w H s.heap tp (.tup cs) from I.hok tp _ hT)
  have e3 := ClsV.all k rv
  subst e3
  obtain ⟨oc, od', dt, sl⟩ := o
  simp only at h2 h3
  subst h2 h3
  exact PySem.W.kia_tup T.kit I.kIn (inst_P I hm hz hf) h1 e (fun z => nomatch z) fun tk => ⟨.bl b, H, I.tok tk, rfl, q⟩
end
/-! ### a def whose one argument is the error that is handled -/
structure FnE (P : Program) (w : World) (K : PySem.W.Frag) (mg : Str → Option Value) (base : Heap) (k : Nat) (f : Addr) (fd : FuncData) (x : Str) (D : Addr) (v : V) : Prop where
  run : ∀ (A : Around) (outer : List Env) (s : Shared) (H : Hp) (Q : VK) (p : Addr × Obj), L2H.RoomH k A → L2H.Hot1 A p → Zc (.ref D) none p.2 → L2H.PinOk outer H s p → Env0 P w K mg base A outer s H → BindsTo s fd ⟨[.ref p.1], []⟩ [(x, .ref p.1)] → (∀ H', Same H H' → Q v H') →
    codeAny (model P w) A (.call (.ref f) ⟨[.ref p.1], []⟩) (CR CX0 outer P w H s Q (fun _ _ _ => False)) s
def CalE (P : Program) (w : World) (K : PySem.W.Frag) (mg : Str → Option Value) (base : Heap) (k : Nat) (n x : Str) (D : Addr) (v : V) : Prop :=
  ∃ (f : Addr) (fd : FuncData), FnE P w K mg base k f fd x D v ∧ mg n = some (.ref f) ∧ PySem.W.keepIn K (.ref f) = true ∧ Binds K fd [x] []
section
variable {P : Program} {w : World} {K : PySem.W.Frag} {mg : Str → Option Value} {base : Heap} {x n qual : Str} {st : Stmt} {f D : Addr} {fd : FuncData} {N : List Str} {k : Nat} {v : V}
/-- such a def, by its body -/
theorem okE (F : Fun K n qual st f fd) (S : FnScope N [x] (defScope st))
    (body : ∀ (cdv : Value) (A : Around) (outer : List Env) (s : Shared) (H : Hp) (Q : VK) (p : Addr × Obj), L2H.RoomH k (A.deeper (envOfC qual (defScope st) s.heap.objs.size f cdv)) → Zc (.ref D) none p.2 → (∃ vs, p.2.data = .fields vs) → (∀ H', Same H H' → Q v H') →
      ∃ t, PSs (L2H.cxH CX0 P w K mg base N qual (defScope st) f cdv A outer s H (fun _ _ _ => False) p).nox (defBody st) t ∧ t { nx := fun _ H' => Q .non H', rt := Q } (start N [.ref p.1]) H) : FnE P w K mg base (k + 1) f fd x D v := by
  obtain ⟨oc, od, kV, doc, pm, an, cdv, ct, osl, rfl, lk, hcd⟩ := F.ex
  refine ⟨fun A outer s H Q p hr hot hz pin e0 hb q => ?_⟩
  have there : ∀ b o, base.get? b = some o → s.heap.get? b = some o := fun b o e => (e0.bs b o e).1
  have kin : K.In s.heap := e0.mod.kin.keeps there
  have lims := e0.mod.nolimit.keeps there
  have kinds : ∀ y ∈ [(x, Value.ref p.1)], (defScope st).names.lookup y.1 = some .local ∨
      ((defScope st).names.lookup y.1 = some .cell ∧ ((cellsFrom (s.heap.objs.size + 1) (defScope st).names []).lookup y.1).isSome = true) := fun y hy => by
    rw [List.mem_singleton.mp hy]
    exact (S.par x List.mem_cons_self).imp id fun q => ⟨q, PySem.W.cellsFrom_some _ _ _ (.inl q)⟩
  refine codeAny_call_function hr.depth (kin _ _ lk) rfl S.co S.gen rfl
    (PySem.W.codeRec_of kin hcd) (hb _ _ _ _ ?_)
  refine wpAny_newFunctionEnv_cells S.kind kinds fun env he s1 y => ?_
  subst he
  refine ⟨lims.keeps y.toInCall.keep, codeAny_func ?_⟩
  obtain ⟨t, ht, ht2⟩ := body cdv A outer s H Q p (hr.deeper _) hz (hot.2.elim fun a h => ⟨a, h.1⟩) q
  have I := L2H.inv_startH (CX := CX0) (us := [.ref p.1]) (vs := [V.ref p.1]) (E := fun _ _ _ => False) (cd := cdv) S pin e0 rfl (.cons rfl .nil) y
  refine wpAny_mono (ht.nox.run [] s1 (L2.start N [V.ref p.1]) H _ I ht2)
    (fun fl s' hs => ?_) (fun e s' hs => hs)
  match fl, hs with
  | .ret u, ⟨v, σ', H', J, rv, q⟩ => exact ⟨v, H', J.os, J.bare, J.base, J.hok, rv, q⟩
  | .next, ⟨σ', H', J, q⟩ => exact ⟨V.non, H', J.os, J.bare, J.base, J.hok, rfl, q⟩
  | .brk, ⟨_, _, _, q⟩ => exact q.elim
  | .cont, ⟨_, _, _, q⟩ => exact q.elim
end
/-- f(e), e the error that the suite holds -/
def tCallE (D : Addr) (v : V) (a : Addr) (cls : Value) (d : Option Addr) (te : TE) : TE := fun σ H Q => te σ H fun y H1 => y = .ref a ∧ cls = .ref D ∧ d = none ∧ ∀ H', Same H1 H' → Q v H'
theorem pe_callE {X : Cx} {k : Nat} {a D : Addr} {oe : Obj} {cls : Value} {d : Option Addr} {pn : List (Addr × Obj)} {n x : Str} {v : V} {q pos : Pos} {e : Expr} {te : TE} (C : CalE X.prog X.w X.K X.mg X.base k n x D v) (hr : L2H.RoomH k (X.suite a ((a, oe) :: pn)).A) (hz : L2N.Zn cls d oe) (hf : ∃ vs, oe.data = .fields vs)
    (hg : Gl X n) (ha : PE (X.suite a ((a, oe) :: pn)) e te) (hdb : (n == ("__debug__" : Str)) = false := by decide) (he : starEach [e] X.env = [(false, eval e X.env)] := by rfl) (hpl : (backTo pos (starEach ([] : List Expr) X.env)).any (·.1) = false := by rfl) :
    PE (X.suite a ((a, oe) :: pn)) (.Call (.Name n q) [e] [] pos) (tCallE D v a cls d te) := by
  obtain ⟨f, fd, G, hm, hk, hb⟩ := C
  refine ⟨fun pins s σ H Q I h => ?_⟩
  refine wpAny_Call_Name_kw (ld_glob I hg hm ?_ hdb)
  refine PySem.W.callWith_K (h₀ := X.base) I.ok.mod.kin hk ?_ he hpl
  refine thn ((pa_cons (hs := he) ha pa_nil).run pos pins s σ H (fun ys H1 => match ys with | [y] => y = V.ref a ∧ cls = .ref D ∧ d = none ∧ ∀ H', Same H1 H' → Q v H' | _ => False) I h) fun us s1 hh => ?_
  obtain ⟨ys, H1, I1, r, q⟩ := hh
  refine ⟨I1.kIn, ?_⟩
  match ys, us, r, q with
  | [y], [u], r, q1 =>
    obtain ⟨rfl, rfl, rfl, q2⟩ := q1
    obtain rfl : u = Value.ref a := by
      cases r with
      | cons r0 _ => exact r0
    obtain ⟨z1, z2, z3, z4, z5⟩ := I1.pin (a, oe) (List.mem_append_left _ List.mem_cons_self)
    obtain ⟨vs, ev⟩ := id hf
    have pin : L2H.PinOk X.stack H1 s1 (a, oe) := ⟨z1, z2, fun hmem => (List.mem_cons.mp (I1.stkSub a hmem)).elim z3 z4, z5⟩
    have run := G.run (X.suite a ((a, oe) :: pn)).A X.stack s1 H1 Q (a, oe) hr ⟨rfl, vs, ev, hz.2.2 vs ev⟩ hz.zc pin I1.env0 (hb s1 [.ref a] I1.kIn rfl) q2
    refine wpAny_call (codeAny_mono run fun r s' hq => ?_)
    match r, hq with
    | .ok (.ret u), hq => exact I1.after hq
end EX
set_option maxHeartbeats 2000000
/-! enumerate over a tuple. -/
namespace WE
open PySem PySem.Spec PyProof.Rows L2
/-- enumerate(v): its two new cells -/
theorem meets_enB {v : Value} {o : Obj} {G : Heap → Prop} (B : Begins v o G) :
    Meets (Builtin.«enumerate.__new__» ⟨[.type "enumerate", v], []⟩) (fun _ R s => G s.heap ∧
      R (.ok (.ret (.ref (s.heap.push o).objs.size))) { s with heap := (s.heap.push o).push { cls := .type "enumerate", data := .fields #[.none, .bool false, .ref s.heap.objs.size, rawInt 0, .none, .none] } }) :=
  .of_wp fun prog w A R s h => by
    obtain ⟨hp, g, d, tk, os⟩ := s
    obtain ⟨h1, h⟩ := h
    have hsub := sub_enumerate
    have q1 : ∀ {A' : Around} {E : Value → Shared → Prop} {Q : Value → Shared → Prop}, Q (.ref hp.objs.size) ⟨hp.push o, g, d, tk, os⟩ → wpAny (model prog w) A' (pyIter v) Q E ⟨hp, g, d, tk, os⟩ :=
      fun q => B.iter prog w _ _ ⟨hp, g, d, tk, os⟩ _ h1 q
    wp_walk using q1
    refine wpAny_stack_any fun st => wpAny_pure ?_
    split
    · rename_i c _ _ _ _ _
      cases (c == Value.type "enumerate") <;> (wp_walk using q1; exact ⟨_, rfl, h⟩)
    · wp_walk using q1
      exact ⟨_, rfl, h⟩
theorem enB {prog : Program} {w : World} {A : Around} {E : Value → Shared → Prop} {s : Shared} {v : Value} {o : Obj} {G : Heap → Prop} {Q : Value → Shared → Prop} (B : Begins v o G) (h1 : G s.heap)
    (h : ∀ h', IsEnum h' (s.heap.objs.size + 1) s.heap.objs.size 0 .none → h'.get? s.heap.objs.size = some o → h'.objs.size = s.heap.objs.size + 2 →
      (∀ b o, s.heap.get? b = some o → h'.get? b = some o) → Q (.ref (s.heap.objs.size + 1)) { s with heap := h' }) :
    wpAny (model prog w) A (call (.type "enumerate") [v]) Q E s := by
  refine callType_new F.called_enumerate (by decide) (F.typeCall_enumerate_1 _) (F.newCall_enumerate_1 _) (fun obj => F.args_object_init_2 obj _) F.entry_enumerate_new (meets_enB B) ⟨h1, ?_⟩
  have hz : (s.heap.push o).objs.size = s.heap.objs.size + 1 := Heap.size_push ..
  show _ ∧ _
  rw [hz]
  have he : IsEnum ((s.heap.push o).push { cls := .type "enumerate", data := .fields #[.none, .bool false, .ref s.heap.objs.size, rawInt 0, .none, .none] }) (s.heap.objs.size + 1) s.heap.objs.size 0 .none := by
    have := Heap.get?_push_size (s.heap.push o) (o := { cls := .type "enumerate", data := .fields #[.none, .bool false, .ref s.heap.objs.size, rawInt 0, .none, .none] }) rfl
    rw [hz] at this
    exact this
  exact ⟨⟨_, he, rfl⟩, h _ he (Heap.get?_push_of_some _ (Heap.get?_push_size _ B.free)) (by rw [Heap.size_push, hz]) fun b o x => Heap.get?_push_of_some _ (Heap.get?_push_of_some _ x)⟩
/-- the tuple at a, each item in a new pair with its place -/
def IteT (K : PySem.W.Frag) (a : Addr) : It :=
  ⟨fun i H => ∃ (xs : List V) (x : V), SqT K H a xs ∧ xs[i]? = some x, fun i H v H' => ∃ T x, v = .ref T ∧ H T = none ∧ H' = upd H T (.tup [.int (i : Nat), x]) ∧ ∀ xs, SqT K H a xs → xs[i]? = some x, fun i H => ∃ xs : List V, SqT K H a xs ∧ xs.length ≤ i⟩
theorem turn_enT {P : Program} {w : World} {K : PySem.W.Frag} {elts : List Expr} {kk : Nat} {tpos : Pos} (a e it : Addr) :
    Turn P w K (.Tuple elts kk tpos) (IteT K a) [e, it] e (fun i h => (∃ old, IsEnum h e it ((i : Nat) : Int) old) ∧ h.IsTupleIter it a i ∧ e ≠ it) where
  mem := List.mem_cons_self
  obj := fun i h st b hb => by
    obtain ⟨⟨old, he⟩, ⟨o, ho, hc, hd⟩, _⟩ := st
    rcases List.mem_cons.mp hb with z | z
    · rw [z]
      exact ⟨_, he, fun v q => nomatch q⟩
    · rw [List.mem_singleton.mp z]
      exact ⟨o, ho, fun v q => by rw [hd] at q; cases q⟩
  keep := fun i h h' st k => by
    obtain ⟨⟨old, he⟩, hi, hne⟩ := st
    exact ⟨⟨old, k e (by simp) _ he⟩, hi.at fun o q => k it (by simp) o q, hne⟩
  item := by
    intro X hP hw hK hc i pins s σ H E I hf st hg
    subst hP hw hK
    obtain ⟨⟨old, he⟩, hit, hne⟩ := st
    obtain ⟨xs, x, hq, hx⟩ := hg
    obtain ⟨its, rv, p, hz⟩ := I.tuple hq
    obtain ⟨u, hu, ru⟩ := rv.get hx
    have hel : e < s.heap.objs.size := Heap.lt_size he
    have hil : it < s.heap.objs.size := by
      obtain ⟨_, q, _⟩ := hit
      exact Heap.lt_size q
    have hai : a ≠ it := fun z => by
      obtain ⟨o1, g1, d1, _⟩ := p
      obtain ⟨o2, g2, d2, _⟩ := hit
      rw [z, g2] at g1
      cases g1
      rw [d2] at d1
      injection d1 with d3
      exact absurd d3 (by decide)
    have hae : e ∉ [it, a] := fun z => by
      rcases List.mem_cons.mp z with z | z
      · exact hne z
      · obtain ⟨o1, g1, d1, _⟩ := p
        rw [← List.mem_singleton.mp z, he] at g1
        cases g1
        injection d1 with d3
        exact absurd d3 (by decide)
    have hlt : i < its.toArray.size := by
      rw [List.size_toArray]
      exact (List.getElem?_eq_some_iff.mp hu).1
    refine wpAny_pyNext_enum_itemD (Draws.tuple (prog := X.prog) (w := X.w) (A := X.A.in1) (I.ok.hd hc) it a hai its.toArray) he ⟨hit, p⟩ hlt hne hae fun u' h' tk hP' ho hst hT hsz hk => ?_
    have eu : u' = u := by
      have e1 : its.toArray[i]? = some u := by rw [List.getElem?_toArray]; exact hu
      exact Option.some.inj ((show its.toArray[i]? = some u' from hP').symm.trans e1)
    subst eu
    refine ⟨_, rfl, wpAny_letOwnedTupleGo_enum (s := { s with heap := h', toks := tk + 1 }) ho fun h'' he' sb => ?_⟩
    have hT2 : h''.get? s.heap.objs.size = some { cls := .type "tuple", data := .seq #[.int i tk, u'] } := (sb.2 _ (Nat.ne_of_gt hel)).trans hT
    have new : ObjOk X.prog X.w (upd H s.heap.objs.size (.tup [.int (i : Nat), x])) h'' s.heap.objs.size (.tup [.int (i : Nat), x]) :=
      ⟨by show 2 ≤ sizeLine; decide, [.int i tk, u'], .cons ⟨_, rfl⟩ (.cons ru .nil), ⟨_, hT2, rfl, _, rfl⟩⟩
    have I1 : Inv X pins σ (upd H s.heap.objs.size (.tup [.int (i : Nat), x])) { s with heap := h'', toks := tk + 1 } :=
      I.turnedNew (ch := [e, it]) (fun b ob hb q => (sb.2 b (fun z => hb (by simp [z]))).trans (hk b ob (fun z => hb (by simp [z])) (fun z => hb (by simp [z])) q)) hf (Nat.le_refl _) new
    refine ⟨.ref s.heap.objs.size, _, I1, rfl, ⟨_, x, rfl, I.hok.fresh (Nat.le_refl _), rfl, fun ys hy => by rw [I.tuple_inj hy hq]; exact hx⟩, ⟨⟨u', ?_⟩, hst.1.at fun o q => (sb.2 it (Ne.symm hne)).trans q, hne⟩, fun b hb => ?_⟩
    · have e1 : ((i + 1 : Nat) : Int) = (i : Int) + 1 := by omega
      rw [e1]
      exact he'
    · have hb' : b < s.heap.objs.size := by
        rcases List.mem_cons.mp hb with z | z
        · rw [z]
          exact hel
        · rw [List.mem_singleton.mp z]
          exact hil
      rw [upd_ne (Nat.ne_of_lt hb')]
      exact (hf b hb).1
  done := by
    intro X hP hw hK hc i pins s σ H E I hf st hg
    subst hP hw hK
    obtain ⟨⟨old, he⟩, hit, hne⟩ := st
    obtain ⟨xs, hq, hx⟩ := hg
    obtain ⟨its, rv, p, hz⟩ := I.tuple hq
    obtain ⟨f0, f1, f2, f3, f4, f5⟩ := hf it (by simp)
    have hl := rv.length
    have hT : s.TypeIs (.ref e) "enumerate" := ⟨_, he, rfl⟩
    unfold pyNext
    refine wpAny_bind (wpAny_attempt (wpAny_callSpecial?_slot (name := Str.ofString "__next__") hT F.slot_enumerate_next
      (wpAny_call_entry F.slot_enumerate_next hT F.entry_enumerate_next ?_ (F.args_enumerate_next_1 _))))
    show wpAny _ _ (field (.ref e) 2 >>= _) _ _ _
    refine wpAny_bind (wpAny_field he rfl (x := .ref it) rfl ?_)
    refine wpAny_bind (wpAny_nextOf_tuple_end (I.ok.hd hc) hit p (by simp; omega) fun h' x eb hx' => ?_)
    obtain ⟨o, ho, hcl⟩ := hx'
    refine wpAny_bind (wpAny_isInstance (T := "StopIteration") (b := true) ⟨o, ho, hcl⟩ isSubtype_stop ?_)
    exact wpAny_pure ⟨rfl, I.turned (t' := s.toks) (fun b o hb q => eb b o hb q) f0 f1 f3 f4 f5⟩
  self := fun A i s Q E st h => let ⟨⟨_, he⟩, _⟩ := st; wpAny_pyIter_enum he h
def iEnT (K : PySem.W.Frag) (ta : TA) : TI := fun σ H R => ta σ H fun vs H1 => ∃ a xs, vs = [.ref a] ∧ SqT K H1 a xs ∧ R (IteT K a) H1
theorem pi_enT {X : Cx} {e : Expr} {ta : TA} {p pos tpos : Pos} {elts : List Expr} {kk : Nat} (hg : Gl X "enumerate") (hm : X.mg "enumerate" = none) (ha : PA X [e] ta) (hs : starEach [e] X.env = [(false, eval e X.env)] := by rfl) :
    PI X (.Tuple elts kk tpos) (.Call (.Name "enumerate" p) [e] [] pos) (iEnT X.K ta) := by
  refine ⟨fun pins s σ H R I h => ?_⟩
  refine Call_ (ld_blt I hg hm boot_enumerate (PyProof.Rows.callWith_type1 (thn (ha.run pos pins s σ H _ I h) fun us s1 ⟨vs, H1, I1, r1, q1⟩ => ?_) hs rfl))
  obtain ⟨a, xs, ex, hq, q⟩ := q1
  subst ex
  obtain ⟨u, rfl, ru⟩ := vals1 r1
  cases ru
  obtain ⟨its, rv, p', hz⟩ := I1.tuple hq
  refine enB (begins_tuple a its.toArray) p' fun h' he hit hsz hk => wpAny_pyIter_enum he ?_
  have I2 : Inv X pins σ H1 { s1 with heap := h' } := I1.kept (t' := s1.toks) hk
  refine ⟨s1.heap.objs.size + 1, [s1.heap.objs.size + 1, s1.heap.objs.size], _, _, H1, rfl, I2, turn_enT a (s1.heap.objs.size + 1) s1.heap.objs.size, ⟨⟨.none, he⟩, ⟨_, hit, rfl, rfl⟩, Nat.succ_ne_self _⟩, fun b hb => ?_, q⟩
  have hle : s1.heap.objs.size ≤ b := by
    rcases List.mem_cons.mp hb with z | z
    · rw [z]
      exact Nat.le_add_right _ _
    · rw [List.mem_singleton.mp z]
      exact Nat.le_refl _
  exact I1.fpOk hle (I1.hok.fresh hle)
theorem walk_enT {K : PySem.W.Frag} {a : Addr} {xs : List V} : Walk (IteT K a) xs.length (fun H => SqT K H a xs) (YPair (fun i => some (.int (i : Nat))) (fun i => xs[i]?)) := by
  refine ⟨fun i _ hi q => ⟨xs, xs[i], q, by simp [hi]⟩, fun _ q => ⟨xs, q, Nat.le_refl _⟩, fun i H v H' _ q y => ?_⟩
  obtain ⟨T, x, h1, h2, h3, h4⟩ := y
  exact ⟨T, .int (i : Nat), x, h1, h2, h3, rfl, h4 xs q⟩
end WE
set_option maxHeartbeats 2000000
/-! Nests of ints: lists and tuples of any depth, and the same as tuples alone; comprehensions by what each turn gives; a comprehension in a comprehension. -/
namespace WK
open PySem PySem.Spec PyProof.Rows L2
inductive Td where
  | int (i : Int)
  | tup (ts : List Td)
mutual
def Td.dep : Td → Nat
  | .int _ => 0
  | .tup ts => Td.deps ts + 1
def Td.deps : List Td → Nat
  | [] => 0
  | t :: ts => max t.dep (Td.deps ts)
end
mutual
def Td.sm : Td → Prop
  | .int _ => True
  | .tup ts => ts.length ≤ 100000 ∧ Td.sms ts
def Td.sms : List Td → Prop
  | [] => True
  | t :: ts => t.sm ∧ Td.sms ts
end
mutual
def Td.py : Td → PyData
  | .int i => .int i
  | .tup ts => .tuple (Td.pys ts)
def Td.pys : List Td → List PyData
  | [] => []
  | t :: ts => t.py :: Td.pys ts
end
theorem deps_le {ts : List Td} {t : Td} {n : Nat} (h : Td.deps ts ≤ n) (m : t ∈ ts) : t.dep ≤ n := by
  induction ts with
  | nil => cases m
  | cons x ts ih =>
    simp only [Td.deps] at h
    rcases List.mem_cons.mp m with z | z
    · rw [z]; omega
    · exact ih (by omega) z
theorem sms_of {ts : List Td} {t : Td} (h : Td.sms ts) (m : t ∈ ts) : t.sm := by
  induction ts with
  | nil => cases m
  | cons x ts ih =>
    simp only [Td.sms] at h
    rcases List.mem_cons.mp m with z | z
    · rw [z]; exact h.1
    · exact ih h.2 z
theorem sms_all {ts : List Td} (h : ∀ t ∈ ts, t.sm) : Td.sms ts := by
  induction ts with
  | nil => trivial
  | cons x ts ih => exact ⟨h x List.mem_cons_self, ih fun t m => h t (List.mem_cons_of_mem _ m)⟩
theorem deps_all {ts : List Td} {n : Nat} (h : ∀ t ∈ ts, t.dep ≤ n) : Td.deps ts ≤ n := by
  induction ts with
  | nil => exact Nat.zero_le _
  | cons x ts ih =>
    have h1 := h x List.mem_cons_self
    have h2 := ih fun t m => h t (List.mem_cons_of_mem _ m)
    simp only [Td.deps]
    omega
mutual
inductive Sn (K : PySem.W.Frag) (H : Hp) : V → Td → Prop
  | int (i : Int) : Sn K H (.int i) (.int i)
  | lst {a : Addr} {vs : List V} {ts : List Td} : H a = some (.lst vs) → SnAll K H vs ts → Sn K H (.ref a) (.tup ts)
  | tup {a : Addr} {vs : List V} {ts : List Td} : SqT K H a vs → SnAll K H vs ts → Sn K H (.ref a) (.tup ts)
inductive SnAll (K : PySem.W.Frag) (H : Hp) : List V → List Td → Prop
  | nil : SnAll K H [] []
  | cons {v : V} {vs : List V} {t : Td} {ts : List Td} : Sn K H v t → SnAll K H vs ts → SnAll K H (v :: vs) (t :: ts)
end
mutual
inductive Fz (K : PySem.W.Frag) (H : Hp) : V → Td → Prop
  | int (i : Int) : Fz K H (.int i) (.int i)
  | tup {a : Addr} {vs : List V} {ts : List Td} : SqT K H a vs → FzAll K H vs ts → Fz K H (.ref a) (.tup ts)
inductive FzAll (K : PySem.W.Frag) (H : Hp) : List V → List Td → Prop
  | nil : FzAll K H [] []
  | cons {v : V} {vs : List V} {t : Td} {ts : List Td} : Fz K H v t → FzAll K H vs ts → FzAll K H (v :: vs) (t :: ts)
end
/-- tuples stay -/
def Tk (K : PySem.W.Frag) (H H' : Hp) : Prop := ∀ a xs, SqT K H a xs → SqT K H' a xs
theorem Same_seqT {K : PySem.W.Frag} {H H' : Hp} {a : Addr} {xs : List V} (e : Same H H') (h : SqT K H a xs) : SqT K H' a xs := by
  rcases h with (h | ⟨o, h⟩) | h
  · exact .inl (.inl (e _ _ h))
  · exact .inl (.inr ⟨o, e _ _ h⟩)
  · exact .inr h
theorem Same.tk {K : PySem.W.Frag} {H H' : Hp} (e : Same H H') : Tk K H H' := fun _ _ h => Same_seqT e h
theorem tk_at {K : PySem.W.Frag} {H H' : Hp} {D : Addr} {o : HO} (hD : H D = some o) (no : ∀ xs, o ≠ .tup xs) (nf : ∀ b xs, o ≠ .frz b (.tup xs)) (e : ∀ b o, b ≠ D → H b = some o → H' b = some o) : Tk K H H' := by
  intro a xs h
  rcases h with (h | ⟨b, h⟩) | h
  · exact .inl (.inl (e _ _ (fun z => by rw [z, hD] at h; cases h; exact no _ rfl) h))
  · exact .inl (.inr ⟨b, e _ _ (fun z => by rw [z, hD] at h; cases h; exact nf _ _ rfl) h⟩)
  · exact .inr h
theorem tk_lst {K : PySem.W.Frag} {H H' : Hp} {D : Addr} {l : List V} (hD : H D = some (.lst l)) (e : ∀ b o, b ≠ D → H b = some o → H' b = some o) : Tk K H H' := tk_at hD (fun _ z => by cases z) (fun _ _ z => by cases z) e
theorem tk_ins {K : PySem.W.Frag} {H H' : Hp} {D C : Addr} {dx : Addr} {l : List (Str × V)} (hD : H D = some (.ins C dx l)) (e : ∀ b o, b ≠ D → H b = some o → H' b = some o) : Tk K H H' := tk_at hD (fun _ z => by cases z) (fun _ _ z => by cases z) e
mutual
theorem Sn.same {K : PySem.W.Frag} {H H' : Hp} (e : Same H H') : ∀ {v : V} {t : Td}, Sn K H v t → Sn K H' v t
  | _, _, .int i => .int i
  | _, _, .lst h a => .lst (e _ _ h) (SnAll.same e a)
  | _, _, .tup h a => .tup (Same_seqT e h) (SnAll.same e a)
theorem SnAll.same {K : PySem.W.Frag} {H H' : Hp} (e : Same H H') : ∀ {vs : List V} {ts : List Td}, SnAll K H vs ts → SnAll K H' vs ts
  | _, _, .nil => .nil
  | _, _, .cons h t => .cons (Sn.same e h) (SnAll.same e t)
end
mutual
theorem Fz.tk {K : PySem.W.Frag} {H H' : Hp} (e : Tk K H H') : ∀ {v : V} {t : Td}, Fz K H v t → Fz K H' v t
  | _, _, .int i => .int i
  | _, _, .tup h a => .tup (e _ _ h) (FzAll.tk e a)
theorem FzAll.tk {K : PySem.W.Frag} {H H' : Hp} (e : Tk K H H') : ∀ {vs : List V} {ts : List Td}, FzAll K H vs ts → FzAll K H' vs ts
  | _, _, .nil => .nil
  | _, _, .cons h t => .cons (Fz.tk e h) (FzAll.tk e t)
end
mutual
theorem Fz.sn {K : PySem.W.Frag} {H : Hp} : ∀ {v : V} {t : Td}, Fz K H v t → Sn K H v t
  | _, _, .int i => .int i
  | _, _, .tup h a => .tup h (FzAll.sn a)
theorem FzAll.sn {K : PySem.W.Frag} {H : Hp} : ∀ {vs : List V} {ts : List Td}, FzAll K H vs ts → SnAll K H vs ts
  | _, _, .nil => .nil
  | _, _, .cons h t => .cons (Fz.sn h) (FzAll.sn t)
end
mutual
theorem Fz.dp {K : PySem.W.Frag} {H : Hp} : ∀ {v : V} {t : Td}, Fz K H v t → Dp K H v t.py
  | _, _, .int i => by simp only [Td.py]; exact .int i
  | _, _, .tup h a => by simp only [Td.py]; exact .tup h (FzAll.dp a)
theorem FzAll.dp {K : PySem.W.Frag} {H : Hp} : ∀ {vs : List V} {ts : List Td}, FzAll K H vs ts → DpAll K H vs (Td.pys ts)
  | _, _, .nil => by simp only [Td.pys]; exact .nil
  | _, _, .cons h t => by simp only [Td.pys]; exact .cons (Fz.dp h) (FzAll.dp t)
end
theorem SnAll.len {K : PySem.W.Frag} {H : Hp} {vs : List V} {ts : List Td} (h : SnAll K H vs ts) : vs.length = ts.length := by
  induction vs generalizing ts with
  | nil => cases h; rfl
  | cons v vs ih => cases h with | cons h t => simp only [List.length_cons, ih t]
theorem FzAll.len {K : PySem.W.Frag} {H : Hp} {vs : List V} {ts : List Td} (h : FzAll K H vs ts) : vs.length = ts.length := h.sn.len
theorem SnAll.get {K : PySem.W.Frag} {H : Hp} {vs : List V} {ts : List Td} (h : SnAll K H vs ts) {i : Nat} {v : V} (e : vs[i]? = some v) : ∃ t, ts[i]? = some t ∧ Sn K H v t := by
  induction vs generalizing ts i with
  | nil => simp at e
  | cons x vs ih =>
    cases h with
    | cons h t =>
      cases i with
      | zero => cases e; exact ⟨_, rfl, h⟩
      | succ i => exact ih t e
theorem FzAll.get {K : PySem.W.Frag} {H : Hp} {vs : List V} {ts : List Td} (h : FzAll K H vs ts) {i : Nat} {v : V} (e : vs[i]? = some v) : ∃ t, ts[i]? = some t ∧ Fz K H v t := by
  induction vs generalizing ts i with
  | nil => simp at e
  | cons x vs ih =>
    cases h with
    | cons h t =>
      cases i with
      | zero => cases e; exact ⟨_, rfl, h⟩
      | succ i => exact ih t e
theorem FzAll.ints {K : PySem.W.Frag} {H : Hp} : ∀ {ns : List Int} {vs : List V}, FzAll K H vs (ns.map Td.int) → vs = ns.map V.int
  | [], _, .nil => rfl
  | n :: ns, _, .cons (.int _) t => by rw [FzAll.ints t]; rfl
theorem SnAll.ints {K : PySem.W.Frag} {H : Hp} : ∀ {ns : List Int} {vs : List V}, SnAll K H vs (ns.map Td.int) → vs = ns.map V.int
  | [], _, .nil => rfl
  | n :: ns, _, .cons (.int _) t => by rw [SnAll.ints t]; rfl
theorem FzAll.of_ints {K : PySem.W.Frag} {H : Hp} : ∀ (ns : List Int), FzAll K H (ns.map V.int) (ns.map Td.int)
  | [] => .nil
  | n :: ns => .cons (.int n) (FzAll.of_ints ns)
theorem SnAll.zero {K : PySem.W.Frag} {H : Hp} : ∀ {vs : List V} {ts : List Td}, SnAll K H vs ts → Td.deps ts ≤ 0 → FzAll K H vs ts
  | _, _, .nil, _ => .nil
  | _, _, .cons (.int i) t, h => .cons (.int i) (SnAll.zero t (by simp only [Td.deps] at h; omega))
  | _, _, .cons (.lst _ _) t, h => by simp only [Td.deps, Td.dep] at h; omega
  | _, _, .cons (.tup _ _) t, h => by simp only [Td.deps, Td.dep] at h; omega
/-- lists of things, item by item -/
def Rs {α : Type} (R : Hp → V → α → Prop) (H : Hp) (vs : List V) (zs : List α) : Prop := vs.length = zs.length ∧ ∀ (i : Nat) (v : V) (z : α), vs[i]? = some v → zs[i]? = some z → R H v z
def Stb {α : Type} (K : PySem.W.Frag) (R : Hp → V → α → Prop) : Prop := ∀ H H' v z, Tk K H H' → R H v z → R H' v z
theorem Rs.tk {α : Type} {K : PySem.W.Frag} {R : Hp → V → α → Prop} (s : Stb K R) {H H' : Hp} {vs : List V} {zs : List α} (h : Rs R H vs zs) (e : Tk K H H') : Rs R H' vs zs := ⟨h.1, fun i v z a b => s _ _ _ _ e (h.2 i v z a b)⟩
theorem Rs.nil {α : Type} {R : Hp → V → α → Prop} {H : Hp} : Rs R H [] [] := ⟨rfl, fun i v z h => by simp at h⟩
theorem Rs.snoc {α : Type} {R : Hp → V → α → Prop} {H : Hp} {vs : List V} {zs : List α} {v : V} {z : α} (h : Rs R H vs zs) (r : R H v z) : Rs R H (vs ++ [v]) (zs ++ [z]) := by
  refine ⟨by rw [List.length_append, List.length_append, h.1]; rfl, fun i u y hu hy => ?_⟩
  have hl := h.1
  by_cases hi : i < vs.length
  · rw [List.getElem?_append_left hi] at hu
    rw [List.getElem?_append_left (by omega)] at hy
    exact h.2 i u y hu hy
  · rw [List.getElem?_append_right (by omega)] at hu
    rw [List.getElem?_append_right (by omega)] at hy
    have e1 : i - vs.length = 0 := by
      rcases Nat.eq_zero_or_pos (i - vs.length) with z | z
      · exact z
      · rw [List.getElem?_eq_none (by simp only [List.length_cons, List.length_nil]; omega)] at hu; cases hu
    have e2 : i - zs.length = 0 := by omega
    rw [e1] at hu
    rw [e2] at hy
    cases hu
    cases hy
    exact r
def RI : Hp → V → Int → Prop := fun _ v z => v = .int z
def RB : Hp → V → Bool → Prop := fun _ v z => v = .bl z
theorem stb_RI {K : PySem.W.Frag} : Stb K RI := fun _ _ _ _ _ h => h
theorem stb_RB {K : PySem.W.Frag} : Stb K RB := fun _ _ _ _ _ h => h
theorem stb_Fz {K : PySem.W.Frag} : Stb K (Fz K) := fun _ _ _ _ e h => h.tk e
theorem Rs.maps {α : Type} {R : Hp → V → α → Prop} {f : α → V} (hf : ∀ H v z, R H v z → v = f z) {H : Hp} : ∀ {vs : List V} {zs : List α}, Rs R H vs zs → vs = zs.map f := fun {vs zs} h => by
  refine List.ext_getElem? fun i => ?_
  rw [List.getElem?_map]
  have hl := h.1
  by_cases hi : i < vs.length
  · have hv := List.getElem?_eq_getElem hi
    have hz : zs[i]? = some zs[i] := List.getElem?_eq_getElem (by omega)
    rw [hv, hz, hf _ _ _ (h.2 i _ _ hv hz)]
    rfl
  · rw [List.getElem?_eq_none (by omega), List.getElem?_eq_none (by omega)]
    rfl
theorem Rs.ints {H : Hp} {vs : List V} {zs : List Int} (h : Rs RI H vs zs) : vs = zs.map V.int := h.maps fun _ _ _ e => e
theorem Rs.bls {H : Hp} {vs : List V} {zs : List Bool} (h : Rs RB H vs zs) : vs = zs.map V.bl := h.maps fun _ _ _ e => e
theorem Rs.fz {K : PySem.W.Frag} {H : Hp} : ∀ {vs : List V} {ts : List Td}, Rs (Fz K) H vs ts → FzAll K H vs ts
  | [], [], _ => .nil
  | [], _ :: _, h => by have := h.1; simp at this
  | _ :: _, [], h => by have := h.1; simp at this
  | v :: vs, t :: ts, h => .cons (h.2 0 v t rfl rfl) (Rs.fz ⟨by have := h.1; simp at this; exact this, fun i u z hu hz => h.2 (i + 1) u z hu hz⟩)
theorem new_same {H : Hp} {p : Addr} (h : H p = none) (o : HO) : Same H (upd H p o) := fun b u q => by rw [upd_ne (ne_of_none q h)]; exact q
theorem ys_at {xs : List V} {i : Nat} {H H' : Hp} {x : V} (y : YAt xs i H x H') : Same H H' := by rw [y.1]; exact fun _ _ h => h
theorem ys_fn {f : Nat → V} {i : Nat} {H H' : Hp} {x : V} (y : YFn f i H x H') : Same H H' := by rw [y.1]; exact fun _ _ h => h
theorem ys_pair {xs ys : Nat → Option V} {i : Nat} {H H' : Hp} {x : V} (y : YPair xs ys i H x H') : Same H H' := by
  obtain ⟨T, _, _, _, h1, h2, _⟩ := y
  rw [h2]
  exact new_same h1 _
theorem walk_zT {K : PySem.W.Frag} {a b : Addr} {xs ys : List V} {n : Nat} (hn : n = min xs.length ys.length) : Walk (RZ.ItzT K a b) n (fun H => SqT K H a xs ∧ SqT K H b ys) (YPair (fun i => xs[i]?) (fun i => ys[i]?)) := by
  subst hn
  refine ⟨fun i _ hi q => ?_, fun _ q => ⟨xs, ys, q.1, q.2, by omega⟩, fun i H v H' _ q y => ?_⟩
  · have h1 : i < xs.length := by omega
    have h2 : i < ys.length := by omega
    exact ⟨xs, ys, xs[i], ys[i], q.1, q.2, by simp [h1], by simp [h2]⟩
  · obtain ⟨T, x, z, h1, h2, h3, h4, h5⟩ := y
    exact ⟨T, x, z, h1, h2, h3, h4 xs q.1, h5 ys q.2⟩
theorem sizes {n : Nat} (h : n ≤ 100000) : n < sizeLine := Nat.lt_of_le_of_lt h (by rw [sizeLine_eq]; decide)
/-- what stays while the list at D grows -/
def StbD {α : Type} (D : Addr) (R : Hp → V → α → Prop) : Prop := ∀ H H' v z, (∃ l, H D = some (.lst l)) → (∀ b o, b ≠ D → H b = some o → H' b = some o) → R H v z → R H' v z
theorem Stb.at {α : Type} {K : PySem.W.Frag} {R : Hp → V → α → Prop} (s : Stb K R) (D : Addr) : StbD D R := fun _ _ _ _ ⟨_, hl⟩ e r => s _ _ _ _ (tk_lst hl e) r
theorem Rs.tkD {α : Type} {D : Addr} {R : Hp → V → α → Prop} (s : StbD D R) {H H' : Hp} {vs : List V} {zs : List α} (h : Rs R H vs zs) (hD : ∃ l, H D = some (.lst l)) (e : ∀ b o, b ≠ D → H b = some o → H' b = some o) : Rs R H' vs zs := ⟨h.1, fun i v z a b => s _ _ _ _ hD e (h.2 i v z a b)⟩
/-- a list of ints apart from D -/
def RL (D : Addr) : Hp → V → List Int → Prop := fun H v r => ∃ p, v = .ref p ∧ p ≠ D ∧ H p = some (.lst (r.map V.int))
theorem stb_RL {D : Addr} : StbD D (RL D) := fun _ _ _ _ _ e ⟨p, h1, h2, h3⟩ => ⟨p, h1, h2, e _ _ h2 h3⟩
/-- a comprehension: each turn gives one thing, or nothing -/
theorem lc_g {α β : Type} {J : It} {n : Nat} {G : Hp → Prop} {Y : Nat → Hp → V → Hp → Prop} (w : Walk J n G Y) {g : TG} {tt : TT} {te : TE} {vs : List Nat} {σ : L2.St} {H1 : Hp} {D : Addr} {Qd : Hp → Prop}
    (R : Hp → V → α → Prop) (st : StbD D R) (xs : List β) (hn : n = xs.length) (hl : xs.length ≤ 100000) (hD : H1 D = none) (hG : ∀ H, Same H1 H → G H) (hY : ∀ i H x H', Y i H x H' → Same H H') (f : β → Option α)
    (hs : ∀ i b x H H', xs[i]? = some b → Same H1 H → Same H1 H' → Y i H x H' → (∃ l, H' D = some (.lst l)) → ∀ (A : V → Hp → Prop) (B : Hp → Prop), (∀ y z H4, f b = some z → Same H' H4 → R H4 y z → A y H4) → (f b = none → ∀ H4, Same H' H4 → B H4) →
      g x (wipe σ vs) H' fun σ2 H2 => wipe σ2 vs = wipe σ vs ∧ tt σ2 H2 fun b H3 => if b = true then te σ2 H3 A else B H3)
    (hd : ∀ H l, Same H1 H → H D = some (.lst l) → Rs R H l (xs.filterMap f) → Qd H) :
    ∃ W : Nat → Nat → Hp → Prop, (∃ m, W 0 m (upd H1 D (.lst []))) ∧ ∀ i m H, W i m H →
      (J.stop i H ∧ Qd H) ∨ (J.go i H ∧ ∃ Nx : Hp → Prop, (∀ H', Nx H' → ∃ m', m' < m ∧ W (i + 1) m' H') ∧ ∀ x H', J.yld i H x H' → g x (wipe σ vs) H' fun σ2 H2 => wipe σ2 vs = wipe σ vs ∧ tt σ2 H2 fun b H3 =>
        if b = true then te σ2 H3 fun y H4 => ∃ acc, H4 D = some (.lst acc) ∧ acc.length < sizeLine ∧ Nx (upd H4 D (.lst (acc ++ [y]))) else Nx H3) := by
  subst hn
  refine lc_it w (fun i H => Same H1 H ∧ ∃ l, H D = some (.lst l) ∧ Rs R H l ((xs.take i).filterMap f) ∧ l.length ≤ i) ⟨new_same hD _, [], upd_same, by rw [List.take_zero]; exact Rs.nil, Nat.le_refl _⟩ (fun i H _ p => hG H p.1) ?_ ?_
  · rintro i x H H' hi ⟨sm, l, hl1, rs, hlen⟩ y
    have hb : xs[i]? = some xs[i] := List.getElem?_eq_getElem hi
    have sy := hY i H x H' y
    have et : xs.take (i + 1) = xs.take i ++ [xs[i]] := by rw [List.take_add_one, hb]; rfl
    refine hs i _ x H H' hb sm (sm.trans sy) y ⟨l, sy _ _ hl1⟩ _ _ (fun v z H4 hz s4 r => ?_) (fun hz H4 s4 => ?_)
    · have h4 : H4 D = some (.lst l) := s4 _ _ (sy _ _ hl1)
      refine ⟨l, h4, sizes (by omega), fun b o e => ?_, l ++ [v], upd_same, ?_, by rw [List.length_append]; simp only [List.length_cons, List.length_nil]; omega⟩
      · rw [upd_ne (ne_of_none e hD)]
        exact s4 _ _ (sy _ _ (sm _ _ e))
      · rw [et, List.filterMap_append]
        have e1 : [xs[i]].filterMap f = [z] := by rw [List.filterMap_cons, hz]; rfl
        rw [e1]
        refine Rs.snoc (rs.tkD st ⟨l, hl1⟩ fun b o hb e => ?_) (st _ _ _ _ ⟨l, h4⟩ (fun b o hb e => ?_) r)
        · rw [upd_ne hb]
          exact s4 _ _ (sy _ _ e)
        · rw [upd_ne hb]
          exact e
    · refine ⟨sm.trans (sy.trans s4), l, s4 _ _ (sy _ _ hl1), ?_, by omega⟩
      rw [et, List.filterMap_append]
      have e1 : [xs[i]].filterMap f = [] := by rw [List.filterMap_cons, hz]; rfl
      rw [e1, List.append_nil]
      exact rs.tkD st ⟨l, hl1⟩ fun b o _ e => s4 _ _ (sy _ _ e)
  · rintro H ⟨sm, l, hl1, rs, _⟩
    rw [List.take_length] at rs
    exact hd H l sm hl1 rs
/-- the same for what stays while tuples stay -/
theorem lc_f {α β : Type} {K : PySem.W.Frag} {J : It} {n : Nat} {G : Hp → Prop} {Y : Nat → Hp → V → Hp → Prop} (w : Walk J n G Y) {g : TG} {tt : TT} {te : TE} {vs : List Nat} {σ : L2.St} {H1 : Hp} {D : Addr} {Qd : Hp → Prop}
    (R : Hp → V → α → Prop) (st : Stb K R) (xs : List β) (hn : n = xs.length) (hl : xs.length ≤ 100000) (hD : H1 D = none) (hG : ∀ H, Same H1 H → G H) (hY : ∀ i H x H', Y i H x H' → Same H H') (f : β → Option α)
    (hs : ∀ i b x H H', xs[i]? = some b → Same H1 H → Same H1 H' → Y i H x H' → ∀ (A : V → Hp → Prop) (B : Hp → Prop), (∀ y z H4, f b = some z → Same H' H4 → R H4 y z → A y H4) → (f b = none → ∀ H4, Same H' H4 → B H4) →
      g x (wipe σ vs) H' fun σ2 H2 => wipe σ2 vs = wipe σ vs ∧ tt σ2 H2 fun b H3 => if b = true then te σ2 H3 A else B H3)
    (hd : ∀ H l, Same H1 H → H D = some (.lst l) → Rs R H l (xs.filterMap f) → Qd H) :
    ∃ W : Nat → Nat → Hp → Prop, (∃ m, W 0 m (upd H1 D (.lst []))) ∧ ∀ i m H, W i m H →
      (J.stop i H ∧ Qd H) ∨ (J.go i H ∧ ∃ Nx : Hp → Prop, (∀ H', Nx H' → ∃ m', m' < m ∧ W (i + 1) m' H') ∧ ∀ x H', J.yld i H x H' → g x (wipe σ vs) H' fun σ2 H2 => wipe σ2 vs = wipe σ vs ∧ tt σ2 H2 fun b H3 =>
        if b = true then te σ2 H3 fun y H4 => ∃ acc, H4 D = some (.lst acc) ∧ acc.length < sizeLine ∧ Nx (upd H4 D (.lst (acc ++ [y]))) else Nx H3) := lc_g w R (st.at D) xs hn hl hD hG hY f (fun i b x H H' h1 h2 h3 h4 _ => hs i b x H H' h1 h2 h3 h4) hd
/-- each turn gives one thing -/
theorem lc_m {α β : Type} {K : PySem.W.Frag} {J : It} {n : Nat} {G : Hp → Prop} {Y : Nat → Hp → V → Hp → Prop} (w : Walk J n G Y) {g : TG} {tt : TT} {te : TE} {vs : List Nat} {σ : L2.St} {H1 : Hp} {D : Addr} {Qd : Hp → Prop}
    (R : Hp → V → α → Prop) (st : Stb K R) (xs : List β) (hn : n = xs.length) (hl : xs.length ≤ 100000) (hD : H1 D = none) (hG : ∀ H, Same H1 H → G H) (hY : ∀ i H x H', Y i H x H' → Same H H') (f : β → α)
    (hs : ∀ i b x H H', xs[i]? = some b → Same H1 H → Same H1 H' → Y i H x H' → ∀ (A : V → Hp → Prop) (B : Hp → Prop), (∀ y H4, Same H' H4 → R H4 y (f b) → A y H4) →
      g x (wipe σ vs) H' fun σ2 H2 => wipe σ2 vs = wipe σ vs ∧ tt σ2 H2 fun b H3 => if b = true then te σ2 H3 A else B H3)
    (hd : ∀ H l, Same H1 H → H D = some (.lst l) → Rs R H l (xs.map f) → Qd H) :
    ∃ W : Nat → Nat → Hp → Prop, (∃ m, W 0 m (upd H1 D (.lst []))) ∧ ∀ i m H, W i m H →
      (J.stop i H ∧ Qd H) ∨ (J.go i H ∧ ∃ Nx : Hp → Prop, (∀ H', Nx H' → ∃ m', m' < m ∧ W (i + 1) m' H') ∧ ∀ x H', J.yld i H x H' → g x (wipe σ vs) H' fun σ2 H2 => wipe σ2 vs = wipe σ vs ∧ tt σ2 H2 fun b H3 =>
        if b = true then te σ2 H3 fun y H4 => ∃ acc, H4 D = some (.lst acc) ∧ acc.length < sizeLine ∧ Nx (upd H4 D (.lst (acc ++ [y]))) else Nx H3) := by
  refine lc_f w R st xs hn hl hD hG hY (fun b => some (f b)) (fun i b x H H' hb s1 s2 y A B ha _ => hs i b x H H' hb s1 s2 y A B fun v H4 s4 r => ha v _ H4 rfl s4 r) fun H l s1 hl1 rs => hd H l s1 hl1 ?_
  rw [show (fun b => some (f b)) = some ∘ f from rfl, List.filterMap_eq_map] at rs
  exact rs
theorem lc_gm {α β : Type} {J : It} {n : Nat} {G : Hp → Prop} {Y : Nat → Hp → V → Hp → Prop} (w : Walk J n G Y) {g : TG} {tt : TT} {te : TE} {vs : List Nat} {σ : L2.St} {H1 : Hp} {D : Addr} {Qd : Hp → Prop}
    (R : Hp → V → α → Prop) (st : StbD D R) (xs : List β) (hn : n = xs.length) (hl : xs.length ≤ 100000) (hD : H1 D = none) (hG : ∀ H, Same H1 H → G H) (hY : ∀ i H x H', Y i H x H' → Same H H') (f : β → α)
    (hs : ∀ i b x H H', xs[i]? = some b → Same H1 H → Same H1 H' → Y i H x H' → (∃ l, H' D = some (.lst l)) → ∀ (A : V → Hp → Prop) (B : Hp → Prop), (∀ y H4, Same H' H4 → R H4 y (f b) → A y H4) →
      g x (wipe σ vs) H' fun σ2 H2 => wipe σ2 vs = wipe σ vs ∧ tt σ2 H2 fun b H3 => if b = true then te σ2 H3 A else B H3)
    (hd : ∀ H l, Same H1 H → H D = some (.lst l) → Rs R H l (xs.map f) → Qd H) :
    ∃ W : Nat → Nat → Hp → Prop, (∃ m, W 0 m (upd H1 D (.lst []))) ∧ ∀ i m H, W i m H →
      (J.stop i H ∧ Qd H) ∨ (J.go i H ∧ ∃ Nx : Hp → Prop, (∀ H', Nx H' → ∃ m', m' < m ∧ W (i + 1) m' H') ∧ ∀ x H', J.yld i H x H' → g x (wipe σ vs) H' fun σ2 H2 => wipe σ2 vs = wipe σ vs ∧ tt σ2 H2 fun b H3 =>
        if b = true then te σ2 H3 fun y H4 => ∃ acc, H4 D = some (.lst acc) ∧ acc.length < sizeLine ∧ Nx (upd H4 D (.lst (acc ++ [y]))) else Nx H3) := by
  refine lc_g w R st xs hn hl hD hG hY (fun b => some (f b)) (fun i b x H H' hb s1 s2 y hd2 A B ha _ => hs i b x H H' hb s1 s2 y hd2 A B fun v H4 s4 r => ha v _ H4 rfl s4 r) fun H l s1 hl1 rs => hd H l s1 hl1 ?_
  rw [show (fun b => some (f b)) = some ∘ f from rfl, List.filterMap_eq_map] at rs
  exact rs
/-- a comprehension in a comprehension -/
def rl (scope sc : Scope) : Scope := { scope with names := scope.names.map fun (n, k) => if (k == .free && sc.kind == .function && sc.names.lookup n == some .cell) then (n, .cell) else (n, k) }
theorem blk_nest {N : List Str} {scope inner sc0 : Scope} {own : List (Str × Nat)} {cl : List (Str × Addr)} {C : Addr} {env : Env} (e : env.scope = sc0) (h : blkC N (rl scope sc0) inner own = true) : BlkOk N (compEnvC scope cl C env).scope inner own := by
  subst e
  exact blkOk_by h
theorem pi_tupK {X : Cx} {K : PySem.W.Frag} {tg e : Expr} {te : TE} (hK : X.K = K) (h : PE X e te) : PI X tg e (iTup K te) := by
  subst hK
  exact pi_tup h
theorem sl_tupAK {X : Cx} {K : PySem.W.Frag} (hK : X.K = K) : SlR X (rSlA K) := by
  subst hK
  exact sl_tupA
theorem pe_fldK {X : Cx} {K : PySem.W.Frag} {e : Expr} {ta : TE} {f : Str} {p : Pos} (hK : X.K = K) (h : PE X e ta) (hb : attributeBase e f X.env (eval e X.env) = eval e X.env) : PE X (.Attribute e f p) (tFld K ta f) := by
  subst hK
  exact pe_fld h hb
theorem pi_listK {X : Cx} {K : PySem.W.Frag} {tg e : Expr} {te : TE} (hK : X.K = K) (h : PE X e te) : PI X tg e (iList K te) := by
  subst hK
  exact pi_list h
end WK
set_option maxHeartbeats 2000000
/-! list(reversed(a list)). -/
namespace WL
open PySem PySem.Spec PyProof.Rows L2
section
variable {prog : Program} {w : World} {A : Around} {E : Value → Shared → Prop} {s : Shared} {R : Result → Shared → Prop}
theorem init_rev {S it l : Addr} {items : Array Value} (hh : A.handled = none) (hS : s.heap.get? S = some { cls := .type "list", data := .seq #[] }) (hit : s.heap.IsRevIter it l ((items.size : Int) - 1)) (hl : s.heap.IsList l items) (hne : l ≠ it) (hSi : S ≠ it) (hSl : S ≠ l) (hn : items.size ≤ sizeLine)
    (hR : ∀ s' acc' c', Moved [S, it] (fun a b => b = a) s s' → s'.heap.get? S = some { cls := .type "list", dict := none, data := .seq acc' c', slots := #[] } → ItemsOf (fun i v => items[items.size - 1 - i]? = some v) acc' items.size → R (.ok (.ret .none)) s') :
    wpAny (model prog w) A.in1 (Builtin.«list.__init__» ⟨[.ref S, .ref it], []⟩)
      (fun fin s' => match fin with | .done f => R (.ok f) s' | .again c' => c'.quiet = true ∧ codeAny (model prog w) A c' R s') (fun e s' => R (.error e) s') s := by
  have W := (Walks.listRev (prog := prog) (w := w) (A := A.in1) hh it l hne items).toS
  have hSf : S ∉ [it, l] := by simp only [List.mem_cons, List.not_mem_nil, or_false, not_or]; exact ⟨hSi, hSl⟩
  show wpAny _ A.in1 (do let old ← Builtin.List.listItems (.ref S); Builtin.List.listUpdate (.ref S) (fun _ => #[]); letGo old.toList.reverse; Builtin.List.listExtendWith (.ref S) (.ref it) .none) _ _ s
  refine wpAny_bind ?_
  unfold Builtin.List.listItems
  refine wpAny_bind (wpAny_seqItems hS rfl (wpAny_pure ?_))
  show wpAny _ A.in1 (updateSeq S (fun _ => #[]) >>= fun _ => letGo (#[] : Array Value).toList.reverse >>= fun _ => Builtin.List.listExtendWith (.ref S) (.ref it) .none) _ _ s
  refine wpAny_bind (wpAny_updateSeq hS rfl ?_)
  have hS1 := Heap.get?_update_self (Obj.mapSeq (fun _ => (#[] : Array Value))) hS rfl
  have oth : ∀ b o, b ≠ S → s.heap.get? b = some o → (s.heap.update S (Obj.mapSeq (fun _ => (#[] : Array Value)))).get? b = some o := fun b o hb e => (Heap.get?_update_other _ _ (Ne.symm hb)).trans e
  refine wpAny_bind (wpAny_letGo ?_)
  have hit1 : (s.heap.update S (Obj.mapSeq (fun _ => (#[] : Array Value)))).IsRevIter it l ((items.size : Int) - 1) := hit.at fun o e => oth it o (Ne.symm hSi) e
  have hl1 : (s.heap.update S (Obj.mapSeq (fun _ => (#[] : Array Value)))).IsList l items := hl.at fun o e => oth l o (Ne.symm hSl) e
  have hT : ({ s with heap := s.heap.update S (Obj.mapSeq (fun _ => (#[] : Array Value))) } : Shared).TypeIs (.ref it) "list_reverseiterator" := Heap.IsRevIter.typeIs (s := { s with heap := s.heap.update S (Obj.mapSeq (fun _ => (#[] : Array Value))) }) hit1
  have h1 : Builtin.List.listSameRef (.ref S) (.ref it) = false := by simp [Builtin.List.listSameRef, hSi]
  unfold Builtin.List.listExtendWith
  refine wpAny_bind (wpAny_typeOf hT ?_)
  rw [if_neg (by rw [h1]; decide)]
  refine wpAny_bind (wpAny_pyIter_revIter (s := { s with heap := s.heap.update S (Obj.mapSeq (fun _ => (#[] : Array Value))) }) hit1 ?_)
  refine wpAny_bind (wpAny_holding ?_)
  unfold Builtin.List.listLengthHint
  refine wpAny_bind (wpAny_specialOf hT RT.nolen_lri ?_)
  show wpAny _ A.in1 (specialOf (Value.ref it) (Str.ofString "__length_hint__") >>= _) _ _ _
  refine wpAny_bind (wpAny_specialOf hT RT.hint_lri ?_)
  generalize hid : ("list_reverseiterator.__length_hint__" : String) = id0
  wp_delta
  rw [show splitId id0 = some ("list_reverseiterator", "__length_hint__") from by subst hid; decide +kernel]
  subst hid
  refine wpAny_bind (wpAny_isInstance (b := true) hT (by rw [isSubtype_type]; kernel_rfl) ?_)
  refine wpAny_pure ?_
  rw [if_neg (by decide)]
  have e0 : ((items.size : Nat) : Int) - 1 - ((0 : Nat) : Int) = (items.size : Int) - 1 := by omega
  refine wpAny_pure ⟨plainId_quiet F.plain_extend_loop _, codeAny_extend_loopS W hn _ hSf _ items.size 0 _ _ _ rfl (Nat.zero_le _) ⟨Nat.zero_le _, by rw [e0]; exact hit1, hl1⟩ hS1 (ItemsOf.nil _) fun s' acc' c' hm hS' hacc => ?_⟩
  refine hR s' acc' c' ⟨fun b o hb e => hm.heap b o hb (oth b o (fun z => hb (by rw [z]; exact List.mem_cons_self)) e), hm.gens, hm.drawn, hm.os, hm.toks⟩ hS' hacc
theorem call_list_rev {it l : Addr} {items : Array Value} {Q : Value → Shared → Prop} (hh : A.handled = none) (hit : s.heap.IsRevIter it l ((items.size : Int) - 1)) (hl : s.heap.IsList l items) (hne : l ≠ it) (hn : items.size ≤ sizeLine)
    (hQ : ∀ (h' : Heap) (tk : Nat) (acc : Array Value) (c : Nat), s.toks ≤ tk → (∀ b o, b ≠ it → s.heap.get? b = some o → h'.get? b = some o) → h'.get? s.heap.objs.size = some { cls := .type "list", dict := none, data := .seq acc c, slots := #[] } → ItemsOf (fun i v => items[items.size - 1 - i]? = some v) acc items.size → Q (.ref s.heap.objs.size) { s with heap := h', toks := tk }) :
    wpAny (model prog w) A (call (.type "list") [.ref it]) Q E s := by
  obtain ⟨oi, hoi, _⟩ := id hit
  obtain ⟨ol, hol, _⟩ := id hl
  refine callType_codes (Q₁ := fun obj s₁ => obj = .ref s.heap.objs.size ∧ s₁ = { s with heap := s.heap.push { cls := .type "list", data := .seq #[] } }) F.called_list (F.typeCall_list_1 _) F.entry_list_init
    (code_list_new _ ⟨rfl, rfl⟩) fun obj s₁ h₁ => ?_
  obtain ⟨rfl, rfl⟩ := h₁
  have hS : (s.heap.push { cls := .type "list", data := .seq #[] }).get? s.heap.objs.size = some { cls := .type "list", data := .seq #[] } := Heap.get?_push_size _ rfl
  refine ⟨⟨_, hS, rfl⟩, F.args_list_init_2 _ _, init_rev (A := A.in1) hh hS (hit.at fun o e => Heap.get?_push_of_some _ e) (hl.push _) hne (Nat.ne_of_gt (Heap.lt_size hoi)) (Nat.ne_of_gt (Heap.lt_size hol)) hn fun s' acc' c' hm hS' hacc => ?_⟩
  refine ⟨rfl, ?_⟩
  have e := Moved.eq_with hm
  rw [e]
  refine hQ s'.heap s'.toks acc' c' hm.toks (fun b o hb e => hm.heap b o (fun hmem => ?_) (Heap.get?_push_of_some _ e)) hS' hacc
  rcases List.mem_cons.mp hmem with e' | hmem
  · exact absurd (Heap.lt_size e) (by rw [e']; exact Nat.lt_irrefl _)
  · exact hb (List.mem_singleton.mp hmem)
end
def tLstRev (K : PySem.W.Frag) (te : TE) : TE := fun σ H Q => te σ H fun v H1 => ∃ (a : Addr) (xs : List V), v = .ref a ∧ SqL K H1 a xs ∧ ∀ q, H1 q = none → Q (.ref q) (upd H1 q (.lst xs.reverse))
theorem pe_lstRev {X : Cx} {e : Expr} {te : TE} {p p2 pos pos2 : Pos} (hc : X.calm = true) (hg : Gl X "list") (hm : X.mg "list" = none) (hg2 : Gl X "reversed") (hm2 : X.mg "reversed" = none) (he : PE X e te)
    (hs : starEach [e] X.env = (false, eval e X.env) :: starEach [] X.env := by rfl)
    (hs2 : starEach [.Call (.Name "reversed" p2) [e] [] pos2] X.env = (false, eval (.Call (.Name "reversed" p2) [e] [] pos2) X.env) :: starEach [] X.env := by rfl) :
    PE X (.Call (.Name "list" p) [.Call (.Name "reversed" p2) [e] [] pos2] [] pos) (tLstRev X.K te) := by
  refine ⟨fun pins s σ H Q I h => ?_⟩
  refine Call_ (ld_blt I hg hm boot_list (PyProof.Rows.callWith_type1 (args_cons (Call_ (ld_blt I hg2 hm2 PyProof.Rows.boot_reversed (PyProof.Rows.callWith_type1 (args_cons (thn (he.run pins s σ H _ I h) fun u s1 ⟨v, H1, I1, r1, q1⟩ => args_nil ?_) hs) hs rfl))) hs2) hs2 rfl))
  obtain ⟨a, xs, ev, hq, q⟩ := q1
  subst ev
  obtain rfl : u = Value.ref a := r1
  obtain ⟨its, rv, p', hz⟩ := I1.list hq
  refine call_reversed_list p'.isList (args_nil ?_)
  have k0 : ∀ b o, s1.heap.get? b = some o → (s1.heap.push (revObj a ((its.toArray.size : Int) - 1))).get? b = some o := fun b o e => Heap.get?_push_of_some _ e
  have I2 : Inv X pins σ H1 { s1 with heap := s1.heap.push (revObj a ((its.toArray.size : Int) - 1)) } := I1.kept (t' := s1.toks) k0
  obtain ⟨f0, f1, f2, f3, f4, f5⟩ := I1.fpOk (H' := H1) (b := s1.heap.objs.size) (Nat.le_refl _) (I1.hok.fresh (Nat.le_refl _))
  have hl := p'.isList
  obtain ⟨ol, hol, _⟩ := id hl
  have hne : a ≠ s1.heap.objs.size := Nat.ne_of_lt (Heap.lt_size hol)
  have hn : its.toArray.size ≤ sizeLine := by rw [List.size_toArray, ← rv.length]; exact hz
  refine call_list_rev (s := { s1 with heap := s1.heap.push (revObj a ((its.toArray.size : Int) - 1)) }) (I1.ok.hd hc) ⟨_, Heap.get?_push_size _ rfl, rfl, rfl⟩ (hl.push _) hne hn fun h' tk acc c htk hk hS' hi => ?_
  have fp : FpOk X pins H1 s1.heap.objs.size := I1.fpOk (H' := H1) (b := s1.heap.objs.size) (Nat.le_refl _) (I1.hok.fresh (Nat.le_refl _))
  refine ⟨.ref (s1.heap.push (revObj a ((its.toArray.size : Int) - 1))).objs.size, _, I2.turnedNew (t' := tk) (ch := [s1.heap.objs.size]) (fun b o hb e => hk b o (fun z => hb (by rw [z]; exact List.mem_cons_self)) e) (fun b hb => by rw [List.mem_singleton.mp hb]; exact fp) (Nat.le_refl _)
    (show ObjOk X.prog X.w _ h' _ (.lst xs.reverse) from ⟨by rw [List.length_reverse]; exact hz, acc.toList, c, RT.vals_rev rv hi, by rw [Array.toArray_toList]; exact hS'⟩), rfl, q _ (I2.hok.fresh (Nat.le_refl _))⟩
end WL
/-! Ties of a web, their strengths over the common part, rows, matrices. -/
namespace P41
open PySem L2 WK
def gI (t b : Int) : Int := ((Nat.gcd t.natAbs b.natAbs : Nat) : Int)
theorem gI_pos {t b : Int} (ht : 0 < t) : 0 < gI t b := by
  have : 0 < Nat.gcd t.natAbs b.natAbs := Nat.gcd_pos_of_pos_left _ (by omega)
  unfold gI
  omega
theorem gI_pos' {t b : Int} (hb : 0 < b) : 0 < gI t b := by
  have : 0 < Nat.gcd t.natAbs b.natAbs := Nat.gcd_pos_of_pos_right _ (by omega)
  unfold gI
  omega
theorem gI_le {t b : Int} (ht : 0 < t) : gI t b ≤ t := by
  have : Nat.gcd t.natAbs b.natAbs ≤ t.natAbs := Nat.le_of_dvd (by omega) (Nat.gcd_dvd_left _ _)
  unfold gI
  omega
theorem gI_dvd1 {t b : Int} : gI t b ∣ t := by
  unfold gI
  exact Int.ofNat_dvd_left.mpr (Nat.gcd_dvd_left _ _)
theorem gI_dvd2 {t b : Int} : gI t b ∣ b := by
  unfold gI
  exact Int.ofNat_dvd_left.mpr (Nat.gcd_dvd_right _ _)
/-- the common part of a bottom and some numbers -/
def gf (b : Int) (ns : List Int) : Int := ns.foldl gI b
theorem gf_pos {b : Int} (hb : 0 < b) : ∀ (ns : List Int), 0 < gf b ns := fun ns => by
  induction ns generalizing b with
  | nil => exact hb
  | cons n ns ih => exact ih (gI_pos hb)
theorem gf_le {b : Int} (hb : 0 < b) : ∀ (ns : List Int), gf b ns ≤ b := fun ns => by
  induction ns generalizing b with
  | nil => exact Int.le_refl _
  | cons n ns ih => exact Int.le_trans (ih (gI_pos hb)) (gI_le hb)
theorem gf_dvd {b : Int} : ∀ (ns : List Int), gf b ns ∣ b ∧ ∀ n ∈ ns, gf b ns ∣ n := fun ns => by
  induction ns generalizing b with
  | nil => exact ⟨Int.dvd_refl _, fun n h => by cases h⟩
  | cons n ns ih =>
    have h := ih (b := gI b n)
    refine ⟨Int.dvd_trans h.1 gI_dvd1, fun m hm => ?_⟩
    rcases List.mem_cons.mp hm with e | e
    · rw [e]
      exact Int.dvd_trans h.1 gI_dvd2
    · exact h.2 m e
theorem gf_snoc (b : Int) (ns : List Int) (n : Int) : gf b (ns ++ [n]) = gI (gf b ns) n := by
  unfold gf
  rw [List.foldl_append]
  rfl
abbrev B (n : Nat) (x : Int) : Prop := x.natAbs < 2 ^ n
theorem B.mono {m n : Nat} {x : Int} (h : B m x) (hl : m ≤ n) : B n x := Nat.lt_of_lt_of_le h (Nat.pow_le_pow_right (by decide) hl)
theorem B.mul {m n : Nat} {x y : Int} (hx : B m x) (hy : B n y) : B (m + n) (x * y) := by
  show (x * y).natAbs < 2 ^ (m + n)
  rw [Int.natAbs_mul, Nat.pow_add]
  exact Nat.mul_lt_mul'' hx hy
theorem B.le {n : Nat} {x y : Int} (h0 : 0 ≤ x) (h : x ≤ y) (hy : B n y) : B n x := Nat.lt_of_le_of_lt (by omega) hy
theorem B.div {n : Nat} {x g : Int} (hg : 0 < g) (hx : B n x) : B n (x / g) := by
  show (x / g).natAbs < 2 ^ n
  exact Nat.lt_of_le_of_lt (Int.natAbs_ediv_le_natAbs x g) hx
abbrev T3 := Int × Int × Int
def td3 (t : T3) : Td := .tup [.int t.1, .int t.2.1, .int t.2.2]
def imin (i j : Int) : Int := if j < i then j else i
def imax (i j : Int) : Int := if j > i then j else i
def srt (t : T3) : T3 := (imin t.1 t.2.1, imax t.1 t.2.1, t.2.2)
/-- a tie of a web with pl places -/
structure OkT (pl : Int) (t : T3) : Prop where
  ne : t.1 ≠ t.2.1
  a0 : 0 ≤ t.1
  a1 : t.1 < pl
  b0 : 0 ≤ t.2.1
  b1 : t.2.1 < pl
  s1 : 1 ≤ t.2.2
  s2 : B 400 t.2.2
/-- the ties as a web keeps them, and its bottom -/
def wg (ts : List T3) (b : Int) : Int := gf b (ts.map (·.2.2))
def wt (ts : List T3) (b : Int) : List T3 := ts.map fun t => (imin t.1 t.2.1, imax t.1 t.2.1, t.2.2 / wg ts b)
def wb (ts : List T3) (b : Int) : Int := b / wg ts b
/-- the row of a tie -/
def b2 (p : Bool) : Int := if p then 1 else 0
def trow (pl : Int) (t : T3) : List Int := (List.range pl.toNat).map fun (k : Nat) => b2 (decide (V.int (0 + (k : Int)) = V.int t.1)) - b2 (decide (V.int (0 + (k : Int)) = V.int t.2.1))
abbrev RW := List Int × Int
def tdr (p : RW) : Td := .tup [.tup (p.1.map Td.int), .int p.2]
def wsum (ps : List RW) (i j : Nat) : Int := (ps.map fun p => p.2 * p.1.getD i 0 * p.1.getD j 0).sum
def wmat (n : Nat) (ps : List RW) : List (List Int) := (List.range n).map fun i => (List.range n).map fun j => wsum ps i j
def tdm (m : List (List Int)) : Td := .tup (m.map fun r => .tup (r.map Td.int))
theorem wsum_sym (ps : List RW) (i j : Nat) : wsum ps i j = wsum ps j i := by
  unfold wsum
  congr 1
  refine List.map_congr_left fun p _ => ?_
  rw [Int.mul_assoc, Int.mul_comm (p.1.getD i 0), ← Int.mul_assoc]
end P41
/-! What the walks share. -/
namespace P41
open PySem PySem.Spec PyProof.Rows L2 SX EX WK
def top (i : Nat) : Stmt := PySem.Challenge.pw_wholecables_k41_strength_between.main.body.getD i (.Pass ⟨0, 0, 0, 0⟩)
def clsBody : Stmt → List Stmt
  | .ClassDef _ _ _ b _ _ _ _ _ _ _ => b
  | _ => []
def mth (i j : Nat) : Stmt := (clsBody (top i)).getD j (.Pass ⟨0, 0, 0, 0⟩)
/-- a def as its callers see it -/
def Cal (P : Program) (w : World) (K : PySem.W.Frag) (mg : Str → Option Value) (base : Heap) (k : Nat) (x : Str) (ps : List Str) (sp : Sp) : Prop :=
  ∃ (f : Addr) (fd : FuncData), FnOk P w K mg base CX0 k f fd ps sp ∧ mg x = some (.ref f) ∧ PySem.W.keepIn K (.ref f) = true ∧ Binds K fd ps []
theorem pe_cal {X : Cx} {k : Nat} {x : Str} {ps : List Str} {sp : Sp} {p pos : Pos} {e : Expr} {es : List Expr} {t : TA} (C : Cal X.prog X.w X.K X.mg X.base k x ps sp) (hr : Room k X.A) (hg : Gl X x) (ha : PA X (e :: es) t)
    (hdb : (x == ("__debug__" : Str)) = false := by decide) (he : starEach (e :: es) X.env = (false, eval e X.env) :: starEach es X.env := by rfl) (hpl : (backTo pos (starEach es X.env)).any (·.1) = false := by rfl) :
    PE X (.Call (.Name x p) (e :: es) [] pos) (tCall sp [] E0 t) := by
  obtain ⟨f, fd, G, m, kp, b⟩ := C
  exact pe_call G hr hg m kp b .nil pass0 ha hdb he hpl
/-- a class as its makers see it: n values and keywords ks -/
def CalK (P : Program) (w : World) (K : PySem.W.Frag) (mg : Str → Option Value) (base : Heap) (k : Nat) (x : Str) (C : Addr) (n : Nat) (ks : List Str) (sp : Sp) : Prop :=
  ∃ (f : Addr) (fd : FuncData) (ps : List Str) (g : List Value → List Value → List Value), Mk K C f ∧ FnOk P w K mg base CX0 k f fd ps sp ∧ mg x = some (.ref C) ∧ KBn K fd ps (n + 1) ks g (fun vs zs => vs ++ zs)
theorem pe_calK {X : Cx} {k n : Nat} {C : Addr} {x : Str} {ks : List Str} {sp : Sp} {p pos : Pos} {e : Expr} {es : List Expr} {kws : List Keyword} {t tk : TA} (M : CalK X.prog X.w X.K X.mg X.base k x C n ks sp) (hr : Room (k + 1) X.A) (hg : Gl X x) (ha : PA X (e :: es) t) (hkw : PK X kws tk)
    (hall : (backToKw pos (keywordEach kws X.env)).all (·.1.isSome) = true := by rfl) (hks : (backToKw pos (keywordEach kws X.env)).filterMap (·.1) = ks := by rfl) (hdb : (x == ("__debug__" : Str)) = false := by decide)
    (he : starEach (e :: es) X.env = (false, eval e X.env) :: starEach es X.env := by rfl) (hpl : ((backTo pos (starEach (e :: es) X.env)).any (·.1) || (backToKw pos (keywordEach kws X.env)).any (·.1.isNone)) = false := by rfl) :
    PE X (.Call (.Name x p) (e :: es) kws pos) (tMakeK C n ks.length sp (fun vs zs => vs ++ zs) E0 t tk) := by
  obtain ⟨f, fd, ps, g, M, F, hm, hb⟩ := M
  exact pe_makeK M F hr hg hm hb pass0 ha hkw hall hks hdb he hpl
/-- the built-in names that the text asks for are the built-in ones -/
structure Txt (mg : Str → Option Value) : Prop where
  b_len : mg "len" = none
  b_int : mg "int" = none
  b_bool : mg "bool" = none
  b_tuple : mg "tuple" = none
  b_list : mg "list" = none
  b_isinstance : mg "isinstance" = none
  b_range : mg "range" = none
  b_enumerate : mg "enumerate" = none
  b_zip : mg "zip" = none
  b_sum : mg "sum" = none
  b_max : mg "max" = none
  b_min : mg "min" = none
  b_abs : mg "abs" = none
  b_reversed : mg "reversed" = none
  b_ValueError : mg "ValueError" = none
  g_gcd : mg "gcd" = some (.builtin "math.gcd")
/-- the classes of the text -/
structure Obs (K : PySem.W.Frag) (cF cR cW : Addr) : Prop where
  clF : Cls K cF
  F_size : NoAttr K cF "size"
  F_entries : NoAttr K cF "entries"
  F_bottom : NoAttr K cF "bottom"
  clR : Cls K cR
  R_size : NoAttr K cR "size"
  R_pairs : NoAttr K cR "pairs"
  R_bottom : NoAttr K cR "bottom"
  R_form : NoAttr K cR "form"
  clW : Cls K cW
  W_places : NoAttr K cW "places"
  W_ties : NoAttr K cW "ties"
  W_bottom : NoAttr K cW "bottom"
  W_rows : NoAttr K cW "rows"
  W_form : NoAttr K cW "form"
theorem line_ge {n : Nat} (h : n ≤ 100000) : n ≤ sizeLine := Nat.le_trans h (by rw [sizeLine_eq]; decide)
theorem two_line : 2 ≤ sizeLine := line_ge (by omega)
theorem three_line : 3 ≤ sizeLine := line_ge (by omega)
theorem at_pos {α : Type} {xs : List α} {z : Int} {v : α} (h0 : 0 ≤ z) (h : xs[z.toNat]? = some v) : atI xs z = some v := by
  have e : z = ((z.toNat : Nat) : Int) := by omega
  rw [e]
  exact atI_nat h
theorem same_new {H : Hp} {p : Addr} (h : H p = none) (o : HO) : Same H (upd H p o) := new_same h o
theorem lc_yes {σ : L2.St} {H : Hp} {A B : Hp → Prop} (h : A H) : tYes σ H (fun b H3 => if b = true then A H3 else B H3) := by
  show (if true = true then A H else B H)
  exact iteT h
theorem ifT {c : Bool} {A B : Prop} (hc : c = true) (h : A) : if c = true then A else B := by rw [if_pos hc]; exact h
theorem ifF {c : Bool} {A B : Prop} (hc : c = false) (h : B) : if c = true then A else B := by rw [hc, if_neg Bool.false_ne_true]; exact h
theorem dec_ne {a b : V} (h : a ≠ b) : decide (a = b) = false := decide_eq_false h
theorem int_ne {a b : Int} (h : a ≠ b) : decide (V.int a = V.int b) = false := decide_eq_false fun e => h (V.int.inj e)
theorem int_eq {a b : Int} (h : a = b) : decide (V.int a = V.int b) = true := decide_eq_true (by rw [h])
theorem same_at {H H' : Hp} {D : Addr} {o : HO} (e : Same H H') (h : H D = none) : Same H (upd H' D o) := fun b u q => by
  have hne : b ≠ D := fun z => by
    rw [z, h] at q
    cases q
  rw [upd_ne hne]
  exact e _ _ q
theorem dec_lt {a b : Int} (h : decide (a < b) = true) : a < b := of_decide_eq_true h
theorem not_lt {a b : Int} (h : ¬ decide (a < b) = true) : ¬ a < b := of_decide_eq_false (Bool.eq_false_iff.mpr h)
theorem kitLT {K : PySem.W.Frag} : PySem.W.kitOne K (.type "list") (.type "list") = some true := kit_ty (by decide +kernel)
theorem wmul {m n : Nat} {x y : Int} (hx : B m x) (hy : B n y) (h0 : 0 < m) (h1 : 0 < n) (h : m + n ≤ 1000000) : CMulW x y := wide_mul hx hy h0 h1 h
theorem wdiv {n : Nat} {x g : Int} (hg : 0 < g) (h : B n g) (h0 : 0 < n) (h9 : n ≤ 9000) : CDivW x g := wide_div hg h h0 h9
theorem lk_hit {n : Str} {v : V} {l : List (Str × V)} : ((n, v) :: l).lookup n = some v := by rw [List.lookup_cons, beq_self_eq_true]
theorem lk_skip {n m : Str} {v : V} {l : List (Str × V)} (h : ¬ m = n) : ((n, v) :: l).lookup m = l.lookup m := by
  rw [List.lookup_cons]
  have : (m == n) = false := beq_eq_false_iff_ne.mpr h
  rw [this]
/-- a pair of ints -/
def FrAt (H : Hp) (a : Addr) (t b : Int) : Prop := H a = some (.tup [.int t, .int b])
theorem FrAt.same {H H' : Hp} {a : Addr} {t b : Int} (e : Same H H') (h : FrAt H a t b) : FrAt H' a t b := e _ _ h
end P41
namespace P41
open PySem PySem.Spec PyProof.Rows L2 SX EX WK
theorem kLT {K : PySem.W.Frag} : PySem.W.kitAny K (.type "list") [.type "list", .type "tuple"] = some true := by
  unfold PySem.W.kitAny
  rw [show PySem.W.kitOne K (.type "list") (.type "list") = some true from kit_ty (by decide +kernel)]
theorem kTT {K : PySem.W.Frag} : PySem.W.kitAny K (.type "tuple") [.type "list", .type "tuple"] = some true := by
  unfold PySem.W.kitAny
  rw [show PySem.W.kitOne K (.type "tuple") (.type "list") = some false from kit_ty (by decide +kernel)]
  unfold PySem.W.kitAny
  rw [show PySem.W.kitOne K (.type "tuple") (.type "tuple") = some true from kit_ty (by decide +kernel)]
theorem kIT {K : PySem.W.Frag} : PySem.W.kitAny K (.type "int") [.type "list", .type "tuple"] = some false := by
  unfold PySem.W.kitAny
  rw [show PySem.W.kitOne K (.type "int") (.type "list") = some false from kit_ty (by decide +kernel)]
  unfold PySem.W.kitAny
  rw [show PySem.W.kitOne K (.type "int") (.type "tuple") = some false from kit_ty (by decide +kernel)]
  rfl
theorem ty_tup {K : PySem.W.Frag} {H : Hp} {a : Addr} {xs : List V} (h : SqT K H a xs) : TyX K H (.ref a) (.type "tuple") := by
  rcases h with (h | ⟨o, h⟩) | ⟨o, its, n, h, c, _⟩
  · exact .base (.tup h)
  · exact .fTuple h
  · exact .kTuple h c
def spFz (K : PySem.W.Frag) (n : Nat) : Sp := fun vs H Q _ => ∃ (v : V) (t : Td), vs = [v] ∧ Sn K H v t ∧ t.dep ≤ n ∧ t.sm ∧ ∀ v' H', Same H H' → Fz K H' v' t → Q v' H'
theorem pairLT : Paired ClsV [V.ty "list", V.ty "tuple"] [.type "list", .type "tuple"] := .cons (.ty _) (.cons (.ty _) .nil)
section
variable {P : Program} {w : World} {K : PySem.W.Frag} {mg : Str → Option Value} {base : Heap} {f : Addr} {fd : FuncData}
abbrev s_frozen_numbers : Stmt := top 17
abbrev N_frozen_numbers : List Str := ["value"]
theorem sc_frozen_numbers : FnScope N_frozen_numbers ["value"] (defScope s_frozen_numbers) := ⟨rfl, rfl, rfl, by decide +kernel, rfl, by decide +kernel, by decide +kernel⟩
theorem ok_frozen_numbers (F : Fun K "frozen_numbers" "frozen_numbers" s_frozen_numbers f fd) (T : Txt mg) : FnOk P w K mg base CX0 1 f fd ["value"] (spFz K 1) := by
  refine F.ok sc_frozen_numbers (fun vs H Q E h => ?_) (fun cdv A outer s H vs Q E hr h => ?_)
  · obtain ⟨v, t, rfl, _⟩ := h
    rfl
  obtain ⟨v, t, rfl, hs, hd, hm, q⟩ := h
  refine ⟨_, (pss_cons (ps_if (pt_val (pe_callB call_isiT (by rfl) T.b_isinstance (by decide +kernel) (pa_cons (pv 0) (pa_cons (pe_tup (pa_cons (pe_bltn (v := .ty "list") (by rfl) T.b_list (by decide +kernel) rfl) (pa_cons (pe_bltn (v := .ty "tuple") (by rfl) T.b_tuple (by decide +kernel) rfl) pa_nil))) pa_nil)))) (pss_one (ps_ret (pe_callTy call_tuple_of (by rfl) T.b_tuple (by decide +kernel) (pa_cons (pv 0) pa_nil)))) pss_nil)
  (pss_one (ps_ret (pv 0)))), ?_⟩
  refine ⟨_, rfl, two_line, fun tp htp => ?_⟩
  have g := same_new htp (.tup [V.ty "list", V.ty "tuple"])
  have hs' := hs.same g
  cases hs' with
  | int i => exact ⟨_, tp, _, _, _, _, rfl, upd_same, pairLT, .base (.int i), kIT, _, rfl, ifF rfl ⟨_, rfl, q _ _ g (.int i)⟩⟩
  | @lst a vs ts ha hall =>
    simp only [Td.dep] at hd
    refine ⟨_, tp, _, _, _, _, rfl, upd_same, pairLT, .base (.lst ha), kLT, _, rfl, ifT rfl ⟨_, rfl, a, _, rfl, .inl ⟨SqL.of ha, fun l hl => ?_⟩⟩⟩
    have g2 := same_new hl (.tup vs)
    exact q _ _ (g.trans g2) (.tup (SqT.of upd_same) ((hall.zero (by omega)).tk (WK.Same.tk g2)))
  | @tup a vs ts ha hall =>
    simp only [Td.dep] at hd
    exact ⟨_, tp, _, _, _, _, rfl, upd_same, pairLT, ty_tup ha, kTT, _, rfl, ifT rfl ⟨_, rfl, a, _, rfl, .inr ⟨ha, q _ _ g (.tup ha (hall.zero (by omega)))⟩⟩⟩
abbrev s_frozen_part : Stmt := top 18
abbrev N_frozen_part : List Str := ["value", "part"]
theorem sc_frozen_part : FnScope N_frozen_part ["value"] (defScope s_frozen_part) := ⟨rfl, rfl, rfl, by decide +kernel, rfl, by decide +kernel, by decide +kernel⟩
theorem ok_frozen_part (F : Fun K "frozen_part" "frozen_part" s_frozen_part f fd) (T : Txt mg) (C_frozen_numbers : Cal P w K mg base 1 "frozen_numbers" ["value"] (spFz K 1)) : FnOk P w K mg base CX0 2 f fd ["value"] (spFz K 2) := by
  refine F.ok sc_frozen_part (fun vs H Q E h => ?_) (fun cdv A outer s H vs Q E hr h => ?_)
  · obtain ⟨v, t, rfl, _⟩ := h
    rfl
  obtain ⟨v, t, rfl, hs, hd, hm, q⟩ := h
  refine ⟨_, (pss_cons (ps_if (pt_val (pe_callB call_isiT (by rfl) T.b_isinstance (by decide +kernel) (pa_cons (pv 0) (pa_cons (pe_tup (pa_cons (pe_bltn (v := .ty "list") (by rfl) T.b_list (by decide +kernel) rfl) (pa_cons (pe_bltn (v := .ty "tuple") (by rfl) T.b_tuple (by decide +kernel) rfl) pa_nil))) pa_nil)))) (pss_one (ps_ret (pe_callTy call_tuple_of (by rfl) T.b_tuple (by decide +kernel) (pa_cons (pe_lc (own := [("part", 1)]) (g := gName 1) (tt := tYes) (by rfl) sc_frozen_part.nd (pi_or (pi_list (pv 0)) (pi_tup (pv 0))) (blkOk_by (N := N_frozen_part) (sc := defScope s_frozen_part) (by decide +kernel)) (fun _ _ _ _ _ => (pg_name (i := 1) sc_frozen_part.nd rfl (Or.inl rfl))) (fun _ _ _ _ _ => pts_nil) (fun _ _ _ _ _ => (pe_cal C_frozen_numbers (hr.mono (by omega)) rfl (pa_cons (pv 1) pa_nil)))) pa_nil)))) pss_nil)
  (pss_one (ps_ret (pv 0)))), ?_⟩
  refine ⟨_, rfl, two_line, fun tp htp => ?_⟩
  have g := same_new htp (.tup [V.ty "list", V.ty "tuple"])
  have hs' := hs.same g
  cases hs' with
  | int i => exact ⟨_, tp, _, _, _, _, rfl, upd_same, pairLT, .base (.int i), kIT, _, rfl, ifF rfl ⟨_, rfl, q _ _ g (.int i)⟩⟩
  | @lst a vs ts ha hall =>
    simp only [Td.dep] at hd
    simp only [Td.sm] at hm
    have hl := hall.len
    refine ⟨_, tp, _, _, _, _, rfl, upd_same, pairLT, .base (.lst ha), kLT, _, rfl, ifT rfl (.inl ⟨_, rfl, a, rfl, ⟨_, SqL.of ha⟩, fun D hD => ?_⟩)⟩
    refine lc_m (walk_list (K := K) (a := a) (xs := vs)) (Fz K) stb_Fz ts hl hm.1 hD (fun H' s => s.seq (SqL.of ha)) (fun _ _ _ _ => ys_at) id (fun i b x H1 H2 hb s1 s2 y A B hA => ?_) (fun H' l s1 hl1 rs => ?_)
    · obtain ⟨t1, ht1, hx⟩ := hall.get y.2
      rw [hb] at ht1
      cases ht1
      have mb := List.mem_of_getElem? hb
      exact ⟨rfl, lc_yes ⟨_, rfl, _, b, rfl, hx.same s2, Nat.le_trans (deps_le (n := 1) (by omega) mb) (Nat.le_refl _), sms_of hm.2 mb, fun v' H' s h => hA _ _ s h⟩⟩
    · rw [List.map_id] at rs
      refine ⟨D, l, rfl, .inl ⟨SqL.of hl1, fun l2 hl2 => ?_⟩⟩
      have g2 := same_new hl2 (.tup l)
      exact q _ _ (g.trans (s1.trans g2)) (.tup (SqT.of upd_same) (rs.fz.tk (WK.Same.tk g2)))
  | @tup a vs ts ha hall =>
    simp only [Td.dep] at hd
    simp only [Td.sm] at hm
    have hl := hall.len
    refine ⟨_, tp, _, _, _, _, rfl, upd_same, pairLT, ty_tup ha, kTT, _, rfl, ifT rfl (.inr ⟨_, rfl, a, rfl, ⟨_, ha⟩, fun D hD => ?_⟩)⟩
    refine lc_m (walk_tup (K := K) (a := a) (xs := vs)) (Fz K) stb_Fz ts hl hm.1 hD (fun H' s => Same_seqT s ha) (fun _ _ _ _ => ys_at) id (fun i b x H1 H2 hb s1 s2 y A B hA => ?_) (fun H' l s1 hl1 rs => ?_)
    · obtain ⟨t1, ht1, hx⟩ := hall.get y.2
      rw [hb] at ht1
      cases ht1
      have mb := List.mem_of_getElem? hb
      exact ⟨rfl, lc_yes ⟨_, rfl, _, b, rfl, hx.same s2, Nat.le_trans (deps_le (n := 1) (by omega) mb) (Nat.le_refl _), sms_of hm.2 mb, fun v' H' s h => hA _ _ s h⟩⟩
    · rw [List.map_id] at rs
      refine ⟨D, l, rfl, .inl ⟨SqL.of hl1, fun l2 hl2 => ?_⟩⟩
      have g2 := same_new hl2 (.tup l)
      exact q _ _ (g.trans (s1.trans g2)) (.tup (SqT.of upd_same) (rs.fz.tk (WK.Same.tk g2)))
abbrev s_frozen : Stmt := top 19
abbrev N_frozen : List Str := ["value", "part"]
theorem sc_frozen : FnScope N_frozen ["value"] (defScope s_frozen) := ⟨rfl, rfl, rfl, by decide +kernel, rfl, by decide +kernel, by decide +kernel⟩
theorem ok_frozen (F : Fun K "frozen" "frozen" s_frozen f fd) (T : Txt mg) (C_frozen_part : Cal P w K mg base 2 "frozen_part" ["value"] (spFz K 2)) : FnOk P w K mg base CX0 3 f fd ["value"] (spFz K 3) := by
  refine F.ok sc_frozen (fun vs H Q E h => ?_) (fun cdv A outer s H vs Q E hr h => ?_)
  · obtain ⟨v, t, rfl, _⟩ := h
    rfl
  obtain ⟨v, t, rfl, hs, hd, hm, q⟩ := h
  refine ⟨_, (pss_cons (ps_if (pt_val (pe_callB call_isiT (by rfl) T.b_isinstance (by decide +kernel) (pa_cons (pv 0) (pa_cons (pe_tup (pa_cons (pe_bltn (v := .ty "list") (by rfl) T.b_list (by decide +kernel) rfl) (pa_cons (pe_bltn (v := .ty "tuple") (by rfl) T.b_tuple (by decide +kernel) rfl) pa_nil))) pa_nil)))) (pss_one (ps_ret (pe_callTy call_tuple_of (by rfl) T.b_tuple (by decide +kernel) (pa_cons (pe_lc (own := [("part", 1)]) (g := gName 1) (tt := tYes) (by rfl) sc_frozen.nd (pi_or (pi_list (pv 0)) (pi_tup (pv 0))) (blkOk_by (N := N_frozen) (sc := defScope s_frozen) (by decide +kernel)) (fun _ _ _ _ _ => (pg_name (i := 1) sc_frozen.nd rfl (Or.inl rfl))) (fun _ _ _ _ _ => pts_nil) (fun _ _ _ _ _ => (pe_cal C_frozen_part (hr.mono (by omega)) rfl (pa_cons (pv 1) pa_nil)))) pa_nil)))) pss_nil)
  (pss_one (ps_ret (pv 0)))), ?_⟩
  refine ⟨_, rfl, two_line, fun tp htp => ?_⟩
  have g := same_new htp (.tup [V.ty "list", V.ty "tuple"])
  have hs' := hs.same g
  cases hs' with
  | int i => exact ⟨_, tp, _, _, _, _, rfl, upd_same, pairLT, .base (.int i), kIT, _, rfl, ifF rfl ⟨_, rfl, q _ _ g (.int i)⟩⟩
  | @lst a vs ts ha hall =>
    simp only [Td.dep] at hd
    simp only [Td.sm] at hm
    have hl := hall.len
    refine ⟨_, tp, _, _, _, _, rfl, upd_same, pairLT, .base (.lst ha), kLT, _, rfl, ifT rfl (.inl ⟨_, rfl, a, rfl, ⟨_, SqL.of ha⟩, fun D hD => ?_⟩)⟩
    refine lc_m (walk_list (K := K) (a := a) (xs := vs)) (Fz K) stb_Fz ts hl hm.1 hD (fun H' s => s.seq (SqL.of ha)) (fun _ _ _ _ => ys_at) id (fun i b x H1 H2 hb s1 s2 y A B hA => ?_) (fun H' l s1 hl1 rs => ?_)
    · obtain ⟨t1, ht1, hx⟩ := hall.get y.2
      rw [hb] at ht1
      cases ht1
      have mb := List.mem_of_getElem? hb
      exact ⟨rfl, lc_yes ⟨_, rfl, _, b, rfl, hx.same s2, Nat.le_trans (deps_le (n := 2) (by omega) mb) (Nat.le_refl _), sms_of hm.2 mb, fun v' H' s h => hA _ _ s h⟩⟩
    · rw [List.map_id] at rs
      refine ⟨D, l, rfl, .inl ⟨SqL.of hl1, fun l2 hl2 => ?_⟩⟩
      have g2 := same_new hl2 (.tup l)
      exact q _ _ (g.trans (s1.trans g2)) (.tup (SqT.of upd_same) (rs.fz.tk (WK.Same.tk g2)))
  | @tup a vs ts ha hall =>
    simp only [Td.dep] at hd
    simp only [Td.sm] at hm
    have hl := hall.len
    refine ⟨_, tp, _, _, _, _, rfl, upd_same, pairLT, ty_tup ha, kTT, _, rfl, ifT rfl (.inr ⟨_, rfl, a, rfl, ⟨_, ha⟩, fun D hD => ?_⟩)⟩
    refine lc_m (walk_tup (K := K) (a := a) (xs := vs)) (Fz K) stb_Fz ts hl hm.1 hD (fun H' s => Same_seqT s ha) (fun _ _ _ _ => ys_at) id (fun i b x H1 H2 hb s1 s2 y A B hA => ?_) (fun H' l s1 hl1 rs => ?_)
    · obtain ⟨t1, ht1, hx⟩ := hall.get y.2
      rw [hb] at ht1
      cases ht1
      have mb := List.mem_of_getElem? hb
      exact ⟨rfl, lc_yes ⟨_, rfl, _, b, rfl, hx.same s2, Nat.le_trans (deps_le (n := 2) (by omega) mb) (Nat.le_refl _), sms_of hm.2 mb, fun v' H' s h => hA _ _ s h⟩⟩
    · rw [List.map_id] at rs
      refine ⟨D, l, rfl, .inl ⟨SqL.of hl1, fun l2 hl2 => ?_⟩⟩
      have g2 := same_new hl2 (.tup l)
      exact q _ _ (g.trans (s1.trans g2)) (.tup (SqT.of upd_same) (rs.fz.tk (WK.Same.tk g2)))
end
end P41
namespace P41
open PySem PySem.Spec PyProof.Rows L2 SX EX WK
theorem take_one {α : Type} {xs : List α} {i : Nat} {x : α} (h : xs[i]? = some x) : xs.take (i + 1) = xs.take i ++ [x] := by
  rw [List.take_add_one, h]
  rfl
theorem ints_at {ns : List Int} {i : Nat} {x : V} (h : (ns.map V.int)[i]? = some x) : ∃ n, ns[i]? = some n ∧ x = V.int n := by
  rw [List.getElem?_map] at h
  cases e : ns[i]? with
  | none => rw [e] at h; cases h
  | some n => rw [e] at h; exact ⟨n, rfl, (Option.some.inj h).symm⟩
def spLow : Sp := fun vs H Q _ => ∃ (l : Addr) (ns : List Int) (b : Int), vs = [.ref l, .int b] ∧ H l = some (.lst (ns.map V.int)) ∧ 0 < b ∧ B 9000 b ∧ ns.length ≤ 100000 ∧
  ∀ r t H', Same H H' → H' r = some (.tup [.ref t, .int (b / gf b ns)]) → H' t = some (.tup ((ns.map fun n => n / gf b ns).map V.int)) → Q (.ref r) H'
section
variable {P : Program} {w : World} {K : PySem.W.Frag} {mg : Str → Option Value} {base : Heap} {f : Addr} {fd : FuncData}
abbrev s_lowered : Stmt := top 20
abbrev N_lowered : List Str := ["numbers", "bottom", "shared", "number"]
theorem sc_lowered : FnScope N_lowered ["numbers", "bottom"] (defScope s_lowered) := ⟨rfl, rfl, rfl, by decide +kernel, rfl, by decide +kernel, by decide +kernel⟩
theorem ok_lowered (F : Fun K "lowered" "lowered" s_lowered f fd) (T : Txt mg) : FnOk P w K mg base CX0 1 f fd ["numbers", "bottom"] spLow := by
  refine F.ok sc_lowered (fun vs H Q E h => ?_) (fun cdv A outer s H vs Q E hr h => ?_)
  · obtain ⟨l, ns, b, rfl, _⟩ := h
    rfl
  obtain ⟨l, ns, b, rfl, hl, hb, hB, hn, q⟩ := h
  refine ⟨_, (pss_cons (ps_set (i := 2) sc_lowered.nd rfl (Or.inr rfl) (pv 1))
  (pss_cons (ps_for PassesOwn.never rfl (pi_list (pv 0)) (pg_name (i := 3) sc_lowered.nd rfl (Or.inl rfl)) (pss_one (ps_set (i := 2) sc_lowered.nd rfl (Or.inr rfl) (pe_callBfun cr_gcd rfl T.g_gcd (pa_cons (pv 2) (pa_cons (pv 3) pa_nil))))))
  (pss_one (ps_ret (pe_tup (pa_cons (pe_callTy call_tuple_of (by rfl) T.b_tuple (by decide +kernel) (pa_cons (pe_lc (own := [("number", 3)]) (g := gName 3) (tt := tYes) (by rfl) sc_lowered.nd (pi_list (pv 0)) (blkOk_by (N := N_lowered) (sc := defScope s_lowered) (by decide +kernel)) (fun _ _ _ _ _ => (pg_name (i := 3) sc_lowered.nd rfl (Or.inl rfl))) (fun _ _ _ _ _ => pts_nil) (fun _ _ _ _ _ => (pe_op op_fdivW (pv 3) (pv 2)))) pa_nil)) (pa_cons (pe_op op_fdivW (pv 1) (pv 2)) pa_nil))))))), ?_⟩
  have hg := gf_pos hb ns
  have hgB : B 9000 (gf b ns) := B.le (Int.le_of_lt hg) (gf_le hb ns) hB
  refine ⟨_, rfl, _, rfl, l, rfl, ⟨_, SqL.of hl⟩, for_list (K := K) (a := l) (xs := ns.map V.int) (fun i σ H' => ∃ v : Option V, σ = [some (.ref l), some (.int b), some (.int (gf b (ns.take i))), v] ∧ H' = H)
    ⟨none, rfl, rfl⟩ (fun i σ H' _ ⟨_, _, e⟩ => by rw [e]; exact SqL.of hl) ?_ ?_⟩
  · rintro i x σ H' hi ⟨v, rfl, rfl⟩
    obtain ⟨n, hni, rfl⟩ := ints_at hi
    refine ⟨_, rfl, _, rfl, _, _, rfl, some (V.int n), ?_, rfl⟩
    rw [take_one hni, gf_snoc]
    rfl
  · rintro σ H' ⟨v, rfl, rfl⟩
    rw [List.length_map, List.take_length]
    refine ⟨_, rfl, l, rfl, ⟨_, SqL.of hl⟩, fun D hD => ?_⟩
    refine lc_m (walk_list (K := K) (a := l) (xs := ns.map V.int)) RI (stb_RI (K := K)) ns (List.length_map ..) hn hD (fun H' s => s.seq (SqL.of hl)) (fun _ _ _ _ => ys_at) (fun n => n / gf b ns) (fun i n x H1 H2 hb s1 s2 y A B hA => ?_) (fun H2 l1 s1 hl1 rs => ?_)
    · obtain ⟨n', hn', rfl⟩ := ints_at y.2
      rw [hb] at hn'
      cases hn'
      exact ⟨rfl, lc_yes ⟨_, rfl, _, rfl, _, _, rfl, rfl, wdiv hg hgB (by decide) (by decide), hA _ _ (fun _ _ h => h) rfl⟩⟩
    · refine ⟨D, l1, rfl, .inl ⟨SqL.of hl1, fun t ht => ?_⟩⟩
      refine ⟨_, rfl, _, rfl, _, _, rfl, rfl, wdiv hg hgB (by decide) (by decide), two_line, fun r hr' => ?_⟩
      refine q r t _ (s1.trans ((same_new ht _).trans (same_new hr' _))) upd_same ?_
      rw [upd_ne (ne_of_none (upd_same (H := H2) (a := t)) hr'), upd_same, rs.ints]
/-! ### fractions -/
def spFraction : Sp := fun vs H Q _ => ∃ t b : Int, vs = [.int t, .int b] ∧ 0 < b ∧ B 9000 b ∧ ∀ r H', Same H H' → FrAt H' r (t / gI t b) (b / gI t b) → Q (.ref r) H'
abbrev s_fraction : Stmt := top 21
abbrev N_fraction : List Str := ["top", "bottom", "shared"]
theorem sc_fraction : FnScope N_fraction ["top", "bottom"] (defScope s_fraction) := ⟨rfl, rfl, rfl, by decide +kernel, rfl, by decide +kernel, by decide +kernel⟩
theorem ok_fraction (F : Fun K "fraction" "fraction" s_fraction f fd) (T : Txt mg) : FnOk P w K mg base CX0 1 f fd ["top", "bottom"] spFraction := by
  refine F.ok sc_fraction (fun vs H Q E h => ?_) (fun cdv A outer s H vs Q E hr h => ?_)
  · obtain ⟨t, b, rfl, _⟩ := h
    rfl
  obtain ⟨t, b, rfl, hb, hB, q⟩ := h
  refine ⟨_, (pss_cons (ps_if (pt_cmpR op_eq (pv 1) pe_int (nomark _)) (pss_one ps_never) pss_nil)
  (pss_cons (ps_set (i := 2) sc_fraction.nd rfl (Or.inl rfl) (pe_callBfun cr_gcd rfl T.g_gcd (pa_cons (pv 0) (pa_cons (pv 1) pa_nil))))
  (pss_cons (ps_if (pt_cmpR op_lt (pv 1) pe_int (nomark _)) (pss_one (ps_set (i := 2) sc_fraction.nd rfl (Or.inl rfl) (pe_un un_neg (pv 2)))) pss_nil)
  (pss_one (ps_ret (pe_tup (pa_cons (pe_op op_fdivW (pv 0) (pv 2)) (pa_cons (pe_op op_fdivW (pv 1) (pv 2)) pa_nil)))))))), ?_⟩
  refine ⟨_, rfl, rfl, _, rfl, ifF (int_ne (by omega)) ?_⟩
  refine ⟨_, rfl, _, rfl, t, b, rfl, ?_⟩
  refine ⟨_, rfl, _, _, rfl, rfl, _, rfl, ifF (decide_eq_false (by omega)) ?_⟩
  have g := gI_pos' (t := t) hb
  have gB : B 9000 (gI t b) := B.le (Int.le_of_lt g) (by
    have : Nat.gcd t.natAbs b.natAbs ≤ b.natAbs := Nat.le_of_dvd (by omega) (Nat.gcd_dvd_right _ _)
    unfold gI
    omega) hB
  refine ⟨_, rfl, _, rfl, _, _, rfl, rfl, wdiv g gB (by decide) (by decide), _, rfl, _, rfl, _, _, rfl, rfl, wdiv g gB (by decide) (by decide), two_line, fun r hr' => q r _ (same_new hr' _) upd_same⟩
/-- two fractions of small numbers -/
def spTwo (g : Int → Int → Int → Int → Int × Int) : Sp := fun vs H Q _ => ∃ (p q : Addr) (t1 b1 t2 b2 : Int), vs = [.ref p, .ref q] ∧ FrAt H p t1 b1 ∧ FrAt H q t2 b2 ∧ (-1000000 < t1 ∧ t1 < 1000000) ∧ (0 < b1 ∧ b1 < 1000000) ∧ (-1000000 < t2 ∧ t2 < 1000000) ∧ (0 < b2 ∧ b2 < 1000000) ∧
  ∀ r H', Same H H' → FrAt H' r ((g t1 b1 t2 b2).1 / gI (g t1 b1 t2 b2).1 (g t1 b1 t2 b2).2) ((g t1 b1 t2 b2).2 / gI (g t1 b1 t2 b2).1 (g t1 b1 t2 b2).2) → Q (.ref r) H'
theorem small_mul {a b : Int} (h : -1000000 < a ∧ a < 1000000) : CMul a b := .inl ⟨by omega, by omega⟩
theorem B_mil {a : Int} (ha : 0 < a ∧ a < 1000000) : B 40 a := by
  have h1 : (1000000 : Nat) < 2 ^ 40 := by decide
  show a.natAbs < 2 ^ 40
  omega
theorem B_bb {a b : Int} (ha : 0 < a ∧ a < 1000000) (hb : 0 < b ∧ b < 1000000) : B 9000 (a * b) := B.mono (m := 40 + 40) (B.mul (B_mil ha) (B_mil hb)) (by decide)
abbrev s_multiplied : Stmt := top 24
abbrev N_multiplied : List Str := ["one", "two"]
theorem sc_multiplied : FnScope N_multiplied ["one", "two"] (defScope s_multiplied) := ⟨rfl, rfl, rfl, by decide +kernel, rfl, by decide +kernel, by decide +kernel⟩
theorem ok_multiplied (F : Fun K "multiplied" "multiplied" s_multiplied f fd) (T : Txt mg) (C_fraction : Cal P w K mg base 1 "fraction" ["top", "bottom"] spFraction) : FnOk P w K mg base CX0 2 f fd ["one", "two"] (spTwo fun t1 b1 t2 b2 => (t1 * t2, b1 * b2)) := by
  refine F.ok sc_multiplied (fun vs H Q E h => ?_) (fun cdv A outer s H vs Q E hr h => ?_)
  · obtain ⟨p, q, t1, b1, t2, b2, rfl, _⟩ := h
    rfl
  obtain ⟨p, r, t1, b1, t2, b2, rfl, hp, hr1, ht1, hb1, ht2, hb2, q⟩ := h
  refine ⟨_, (pss_one (ps_ret (pe_cal C_fraction (hr.mono (by omega)) rfl (pa_cons (pe_op op_mul (pe_ix ix_tup (pv 0) pe_int (fun _ _ => rfl)) (pe_ix ix_tup (pv 1) pe_int (fun _ _ => rfl))) (pa_cons (pe_op op_mul (pe_ix ix_tup (pv 0) pe_int (fun _ _ => rfl)) (pe_ix ix_tup (pv 1) pe_int (fun _ _ => rfl))) pa_nil))))), ?_⟩
  refine ⟨_, rfl, p, _, 0, _, rfl, rfl, SqT.of hp, at_pos (by decide) rfl, _, rfl, r, _, 0, _, rfl, rfl, SqT.of hr1, at_pos (by decide) rfl, _, _, rfl, rfl, small_mul ht1, ?_⟩
  refine ⟨_, rfl, p, _, 1, _, rfl, rfl, SqT.of hp, at_pos (by decide) rfl, _, rfl, r, _, 1, _, rfl, rfl, SqT.of hr1, at_pos (by decide) rfl, _, _, rfl, rfl, small_mul ⟨by omega, hb1.2⟩, ?_⟩
  exact ⟨_, _, rfl, Int.mul_pos hb1.1 hb2.1, B_bb hb1 hb2, q⟩
abbrev s_added : Stmt := top 22
abbrev N_added : List Str := ["one", "two"]
theorem sc_added : FnScope N_added ["one", "two"] (defScope s_added) := ⟨rfl, rfl, rfl, by decide +kernel, rfl, by decide +kernel, by decide +kernel⟩
theorem ok_added (F : Fun K "added" "added" s_added f fd) (T : Txt mg) (C_fraction : Cal P w K mg base 1 "fraction" ["top", "bottom"] spFraction) : FnOk P w K mg base CX0 2 f fd ["one", "two"] (spTwo fun t1 b1 t2 b2 => (t1 * b2 + t2 * b1, b1 * b2)) := by
  refine F.ok sc_added (fun vs H Q E h => ?_) (fun cdv A outer s H vs Q E hr h => ?_)
  · obtain ⟨p, q, t1, b1, t2, b2, rfl, _⟩ := h
    rfl
  obtain ⟨p, r, t1, b1, t2, b2, rfl, hp, hr1, ht1, hb1, ht2, hb2, q⟩ := h
  refine ⟨_, (pss_one (ps_ret (pe_cal C_fraction (hr.mono (by omega)) rfl (pa_cons (pe_op op_add (pe_op op_mul (pe_ix ix_tup (pv 0) pe_int (fun _ _ => rfl)) (pe_ix ix_tup (pv 1) pe_int (fun _ _ => rfl))) (pe_op op_mul (pe_ix ix_tup (pv 1) pe_int (fun _ _ => rfl)) (pe_ix ix_tup (pv 0) pe_int (fun _ _ => rfl)))) (pa_cons (pe_op op_mul (pe_ix ix_tup (pv 0) pe_int (fun _ _ => rfl)) (pe_ix ix_tup (pv 1) pe_int (fun _ _ => rfl))) pa_nil))))), ?_⟩
  refine ⟨_, rfl, p, _, 0, _, rfl, rfl, SqT.of hp, at_pos (by decide) rfl, _, rfl, r, _, 1, _, rfl, rfl, SqT.of hr1, at_pos (by decide) rfl, _, _, rfl, rfl, small_mul ht1, ?_⟩
  refine ⟨_, rfl, r, _, 0, _, rfl, rfl, SqT.of hr1, at_pos (by decide) rfl, _, rfl, p, _, 1, _, rfl, rfl, SqT.of hp, at_pos (by decide) rfl, _, _, rfl, rfl, small_mul ht2, _, _, rfl, rfl, ?_⟩
  refine ⟨_, rfl, p, _, 1, _, rfl, rfl, SqT.of hp, at_pos (by decide) rfl, _, rfl, r, _, 1, _, rfl, rfl, SqT.of hr1, at_pos (by decide) rfl, _, _, rfl, rfl, small_mul ⟨by omega, hb1.2⟩, ?_⟩
  exact ⟨_, _, rfl, Int.mul_pos hb1.1 hb2.1, B_bb hb1 hb2, q⟩
abbrev s_subtracted : Stmt := top 23
abbrev N_subtracted : List Str := ["one", "two"]
theorem sc_subtracted : FnScope N_subtracted ["one", "two"] (defScope s_subtracted) := ⟨rfl, rfl, rfl, by decide +kernel, rfl, by decide +kernel, by decide +kernel⟩
theorem ok_subtracted (F : Fun K "subtracted" "subtracted" s_subtracted f fd) (T : Txt mg) (C_fraction : Cal P w K mg base 1 "fraction" ["top", "bottom"] spFraction) : FnOk P w K mg base CX0 2 f fd ["one", "two"] (spTwo fun t1 b1 t2 b2 => (t1 * b2 - t2 * b1, b1 * b2)) := by
  refine F.ok sc_subtracted (fun vs H Q E h => ?_) (fun cdv A outer s H vs Q E hr h => ?_)
  · obtain ⟨p, q, t1, b1, t2, b2, rfl, _⟩ := h
    rfl
  obtain ⟨p, r, t1, b1, t2, b2, rfl, hp, hr1, ht1, hb1, ht2, hb2, q⟩ := h
  refine ⟨_, (pss_one (ps_ret (pe_cal C_fraction (hr.mono (by omega)) rfl (pa_cons (pe_op op_sub (pe_op op_mul (pe_ix ix_tup (pv 0) pe_int (fun _ _ => rfl)) (pe_ix ix_tup (pv 1) pe_int (fun _ _ => rfl))) (pe_op op_mul (pe_ix ix_tup (pv 1) pe_int (fun _ _ => rfl)) (pe_ix ix_tup (pv 0) pe_int (fun _ _ => rfl)))) (pa_cons (pe_op op_mul (pe_ix ix_tup (pv 0) pe_int (fun _ _ => rfl)) (pe_ix ix_tup (pv 1) pe_int (fun _ _ => rfl))) pa_nil))))), ?_⟩
  refine ⟨_, rfl, p, _, 0, _, rfl, rfl, SqT.of hp, at_pos (by decide) rfl, _, rfl, r, _, 1, _, rfl, rfl, SqT.of hr1, at_pos (by decide) rfl, _, _, rfl, rfl, small_mul ht1, ?_⟩
  refine ⟨_, rfl, r, _, 0, _, rfl, rfl, SqT.of hr1, at_pos (by decide) rfl, _, rfl, p, _, 1, _, rfl, rfl, SqT.of hp, at_pos (by decide) rfl, _, _, rfl, rfl, small_mul ht2, _, _, rfl, rfl, ?_⟩
  refine ⟨_, rfl, p, _, 1, _, rfl, rfl, SqT.of hp, at_pos (by decide) rfl, _, rfl, r, _, 1, _, rfl, rfl, SqT.of hr1, at_pos (by decide) rfl, _, _, rfl, rfl, small_mul ⟨by omega, hb1.2⟩, ?_⟩
  exact ⟨_, _, rfl, Int.mul_pos hb1.1 hb2.1, B_bb hb1 hb2, q⟩
end
end P41
namespace P41
open PySem PySem.Spec PyProof.Rows L2 SX EX WK
theorem inV_ints (x : Int) (ns : List Int) : inV (.int x) (ns.map V.int) = decide (x ∈ ns) := by
  unfold inV
  rw [Bool.eq_iff_iff, List.any_eq_true, decide_eq_true_iff]
  constructor
  · rintro ⟨v, hv, e⟩
    obtain ⟨n, hn, rfl⟩ := List.mem_map.mp hv
    have e1 : (n == x) = true := e
    rw [← eq_of_beq e1]
    exact hn
  · intro h
    exact ⟨.int x, List.mem_map.mpr ⟨x, h, rfl⟩, by show (x == x) = true; exact beq_self_eq_true x⟩
theorem flat_ints (ns : List Int) : (ns.map V.int).all flatV = true := by
  rw [List.all_eq_true]
  intro v hv
  obtain ⟨n, _, rfl⟩ := List.mem_map.mp hv
  rfl
/-- the matrix at v -/
theorem fz_mat {K : PySem.W.Frag} {H : Hp} {v : V} {m : List (List Int)} (h : Fz K H v (tdm m)) : ∃ (a : Addr) (vs : List V), v = .ref a ∧ SqT K H a vs ∧ vs.length = m.length ∧ ∀ (i : Nat) (r : List Int), m[i]? = some r → ∃ p : Addr, vs[i]? = some (.ref p) ∧ SqT K H p (r.map V.int) := by
  cases h with
  | @tup a vs ts ha hall =>
    have hl : vs.length = m.length := by rw [hall.len, List.length_map]
    refine ⟨a, vs, rfl, ha, hl, fun i r hr => ?_⟩
    have hi : i < vs.length := by
      have := (List.getElem?_eq_some_iff.mp hr).1
      omega
    obtain ⟨t, ht, hz⟩ := hall.get (List.getElem?_eq_getElem hi)
    rw [List.getElem?_map, hr] at ht
    cases ht
    generalize hv : vs[i] = u at hz
    cases hz with
    | @tup p us ts hp hq =>
      refine ⟨p, by rw [List.getElem?_eq_getElem hi, hv], ?_⟩
      rw [← hq.ints]
      exact hp
/-- the pairs at v -/
theorem fz_prs {K : PySem.W.Frag} {H : Hp} {v : V} {ps : List RW} (h : Fz K H v (.tup (ps.map tdr))) : ∃ (a : Addr) (vs : List V), v = .ref a ∧ SqT K H a vs ∧ vs.length = ps.length ∧ ∀ (i : Nat) (p : RW), ps[i]? = some p → ∃ q r : Addr, vs[i]? = some (.ref q) ∧ SqT K H q [.ref r, .int p.2] ∧ SqT K H r (p.1.map V.int) := by
  cases h with
  | @tup a vs ts ha hall =>
    have hl : vs.length = ps.length := by rw [hall.len, List.length_map]
    refine ⟨a, vs, rfl, ha, hl, fun i p hp => ?_⟩
    have hi : i < vs.length := by
      have := (List.getElem?_eq_some_iff.mp hp).1
      omega
    obtain ⟨t, ht, hz⟩ := hall.get (List.getElem?_eq_getElem hi)
    rw [List.getElem?_map, hp] at ht
    cases ht
    generalize hv : vs[i] = u at hz
    cases hz with
    | @tup q us ts hq hal =>
      cases hal with
      | cons h1 h2 =>
        cases h2 with
        | cons h3 h4 =>
          cases h4
          cases h3
          cases h1 with
          | @tup r rs ts hr hrs =>
            refine ⟨q, r, by rw [List.getElem?_eq_getElem hi, hv], hq, ?_⟩
            rw [← hrs.ints]
            exact hr
/-- three ints at v -/
theorem fz_tie {K : PySem.W.Frag} {H : Hp} {v : V} {t : T3} (h : Fz K H v (td3 t)) : ∃ a, v = .ref a ∧ SqT K H a [.int t.1, .int t.2.1, .int t.2.2] := by
  cases h with
  | @tup a vs ts ha hall =>
    cases hall with
    | cons h1 h2 =>
      cases h2 with
      | cons h3 h4 =>
        cases h4 with
        | cons h5 h6 =>
          cases h6
          cases h1
          cases h3
          cases h5
          exact ⟨a, rfl, ha⟩
theorem fz_ints {K : PySem.W.Frag} {H : Hp} {v : V} {ns : List Int} (h : Fz K H v (.tup (ns.map Td.int))) : ∃ a, v = .ref a ∧ SqT K H a (ns.map V.int) := by
  cases h with
  | @tup a vs ts ha hall =>
    rw [← hall.ints]
    exact ⟨a, rfl, ha⟩
def Sqr (m : List (List Int)) : Prop := ∀ r ∈ m, r.length = m.length
def ent (m : List (List Int)) (i j : Nat) : Int := (m.getD i []).getD j 0
def Sym (m : List (List Int)) : Prop := ∀ i j, ent m i j = ent m j i
section
variable {P : Program} {w : World} {K : PySem.W.Frag} {mg : Str → Option Value} {base : Heap} {f : Addr} {fd : FuncData}
def spSquare (K : PySem.W.Frag) : Sp := fun vs H Q _ => ∃ (v : V) (m : List (List Int)), vs = [v] ∧ Fz K H v (tdm m) ∧ Sqr m ∧ ∀ H', Same H H' → Q .non H'
abbrev s_check_square : Stmt := top 27
abbrev N_check_square : List Str := ["lines", "row", "line"]
theorem sc_check_square : FnScope N_check_square ["lines"] (defScope s_check_square) := ⟨rfl, rfl, rfl, by decide +kernel, rfl, by decide +kernel, by decide +kernel⟩
theorem ok_check_square (F : Fun K "check_square" "check_square" s_check_square f fd) (T : Txt mg) : FnOk P w K mg base CX0 1 f fd ["lines"] (spSquare K) := by
  refine F.ok sc_check_square (fun vs H Q E h => ?_) (fun cdv A outer s H vs Q E hr h => ?_)
  · obtain ⟨v, m, rfl, _⟩ := h
    rfl
  obtain ⟨v, m, rfl, hz, hs, q⟩ := h
  obtain ⟨a, vs, rfl, ha, hl, hrow⟩ := fz_mat hz
  refine ⟨_, (pss_one (ps_for PassesOwn.never rfl (WE.pi_enT (by rfl) T.b_enumerate (pa_cons (pv 0) pa_nil)) (pg_tup rfl (pgs_cons (pg_name (i := 1) sc_check_square.nd rfl (Or.inl rfl)) (pgs_cons (pg_name (i := 2) sc_check_square.nd rfl (Or.inl rfl)) pgs_nil))) (pss_one (ps_if (pt_cmpR op_ne (pe_callB call_len_seq (by rfl) T.b_len PySem.boot_len (pa_cons (pv 2) pa_nil)) (pe_callB call_len_seq (by rfl) T.b_len PySem.boot_len (pa_cons (pv 0) pa_nil)) (nomark _)) (pss_one ps_never) pss_nil)))), ?_⟩
  refine ⟨_, rfl, a, vs, rfl, ha, for_it (WE.walk_enT (K := K) (a := a) (xs := vs)) (fun i σ H' => ∃ v1 v2 : Option V, σ = [some (.ref a), v1, v2] ∧ Same H H') ⟨none, none, rfl, fun _ _ h => h⟩ (fun i σ H' _ ⟨_, _, _, s⟩ => Same_seqT s ha) ?_ ?_⟩
  · rintro i x σ H1 H2 hi ⟨v1, v2, rfl, s1⟩ y
    have s2 := ys_pair y
    obtain ⟨Tp, x1, x2, rfl, hT, rfl, e1, e2⟩ := y
    cases e1
    obtain ⟨r, hr1⟩ : ∃ r, m[i]? = some r := ⟨_, List.getElem?_eq_getElem (by omega)⟩
    obtain ⟨p, hp, hpr⟩ := hrow i r hr1
    rw [show vs[i]? = some x2 from e2] at hp
    cases hp
    have s3 := s1.trans s2
    refine ⟨_, _, rfl, SqT.of upd_same, rfl, _, _, rfl, _, _, rfl, rfl, ?_⟩
    refine ⟨_, rfl, _, _, rfl, .inr (Same_seqT s3 hpr), _, rfl, _, _, rfl, .inr (Same_seqT s3 ha), rfl, _, rfl, ifF ?_ ⟨_, _, rfl, s3⟩⟩
    have e : (((r.map V.int).length : Nat) : Int) = ((vs.length : Nat) : Int) := by rw [List.length_map, hl, hs r (List.mem_of_getElem? hr1)]
    rw [e]
    simp
  · rintro σ H' ⟨_, _, rfl, s1⟩
    exact q H' s1
def spSymm (K : PySem.W.Frag) : Sp := fun vs H Q _ => ∃ (v : V) (m : List (List Int)), vs = [v] ∧ Fz K H v (tdm m) ∧ Sqr m ∧ Sym m ∧ m.length ≤ 1000 ∧ Q .non H
theorem ent_at {m : List (List Int)} {i j : Nat} {r : List Int} (h : m[i]? = some r) (hj : j < r.length) : r[j]? = some (ent m i j) := by
  unfold ent
  rw [show m.getD i [] = r from by rw [List.getD_eq_getElem?_getD, h]; rfl, List.getD_eq_getElem?_getD, List.getElem?_eq_getElem hj]
  rfl
theorem at_int {ns : List Int} {j : Nat} {x : Int} (h : ns[j]? = some x) : (ns.map V.int)[j]? = some (.int x) := by
  rw [List.getElem?_map, h]
  rfl
abbrev s_check_symmetric : Stmt := top 28
abbrev N_check_symmetric : List Str := ["lines", "row", "column"]
theorem sc_check_symmetric : FnScope N_check_symmetric ["lines"] (defScope s_check_symmetric) := ⟨rfl, rfl, rfl, by decide +kernel, rfl, by decide +kernel, by decide +kernel⟩
theorem ok_check_symmetric (F : Fun K "check_symmetric" "check_symmetric" s_check_symmetric f fd) (T : Txt mg) : FnOk P w K mg base CX0 1 f fd ["lines"] (spSymm K) := by
  refine F.ok sc_check_symmetric (fun vs H Q E h => ?_) (fun cdv A outer s H vs Q E hr h => ?_)
  · obtain ⟨v, m, rfl, _⟩ := h
    rfl
  obtain ⟨v, m, rfl, hz, hs, hsy, h1000, q⟩ := h
  obtain ⟨a, vs, rfl, ha, hl, hrow⟩ := fz_mat hz
  refine ⟨_, (pss_one (ps_for PassesOwn.never rfl (pi_range1 (by rfl) T.b_range (pa_cons (pe_callB call_len_seq (by rfl) T.b_len PySem.boot_len (pa_cons (pv 0) pa_nil)) pa_nil)) (pg_name (i := 1) sc_check_symmetric.nd rfl (Or.inl rfl)) (pss_one (ps_for PassesOwn.never rfl (pi_range2 (by rfl) T.b_range (pa_cons (pe_op op_add (pv 1) pe_int) (pa_cons (pe_callB call_len_seq (by rfl) T.b_len PySem.boot_len (pa_cons (pv 0) pa_nil)) pa_nil))) (pg_name (i := 2) sc_check_symmetric.nd rfl (Or.inl rfl)) (pss_one (ps_if (pt_cmpR op_ne (pe_ix ix_tup (pe_ix ix_tup (pv 0) (pv 1) (fun _ _ => rfl)) (pv 2) (fun _ _ => rfl)) (pe_ix ix_tup (pe_ix ix_tup (pv 0) (pv 2) (fun _ _ => rfl)) (pv 1) (fun _ _ => rfl)) (nomark _)) (pss_one ps_never) pss_nil)))))), ?_⟩
  have row : ∀ i, i < m.length → ∃ (p : Addr) (r : List Int), vs[i]? = some (.ref p) ∧ SqT K H p (r.map V.int) ∧ ∀ j, j < m.length → r[j]? = some (ent m i j) := fun i hi => by
    have e := List.getElem?_eq_getElem hi
    obtain ⟨p, h1, h2⟩ := hrow i _ e
    exact ⟨p, _, h1, h2, fun j hj => ent_at e (by rw [hs _ (List.mem_of_getElem? e)]; exact hj)⟩
  refine ⟨_, rfl, _, _, rfl, .inr ha, (m.length : Int), by rw [hl], by omega, by omega, for_range (lo := 0) (n := m.length) (fun i σ H' => ∃ v1 v2 : Option V, σ = [some (.ref a), v1, v2] ∧ H' = H) ⟨none, none, rfl, rfl⟩ ?_ ?_⟩
  · rintro i σ H' hi ⟨v1, v2, rfl, rfl⟩
    obtain ⟨p, r, hp, hpr, hent⟩ := row i hi
    refine ⟨_, rfl, _, _, rfl, rfl, _, rfl, _, _, rfl, .inr ha, 0 + (i : Int) + 1, (m.length : Int), by rw [hl], ⟨by omega, by omega, by omega, by omega⟩, ?_⟩
    refine for_range (lo := 0 + (i : Int) + 1) (n := ((m.length : Int) - (0 + (i : Int) + 1)).toNat) (fun j σ H1 => ∃ v2 : Option V, σ = [some (.ref a), some (.int (0 + (i : Int))), v2] ∧ H1 = H') ⟨v2, rfl, rfl⟩ ?_ ?_
    · rintro j σ H1 hj ⟨v2, rfl, rfl⟩
      have hk : i + 1 + j < m.length := by omega
      obtain ⟨p2, r2, hp2, hpr2, hent2⟩ := row (i + 1 + j) hk
      have ei : (0 + (i : Int)).toNat = i := by omega
      have ej : (0 + (i : Int) + 1 + (j : Int)).toNat = i + 1 + j := by omega
      refine ⟨_, rfl, _, rfl, a, _, _, _, rfl, rfl, ha, at_pos (by omega) (by rw [ei]; exact hp), _, rfl, p, _, _, _, rfl, rfl, hpr, at_pos (by omega) (by rw [ej]; exact at_int (hent _ hk)), ?_⟩
      refine ⟨_, rfl, _, rfl, a, _, _, _, rfl, rfl, ha, at_pos (by omega) (by rw [ej]; exact hp2), _, rfl, p2, _, _, _, rfl, rfl, hpr2, at_pos (by omega) (by rw [ei]; exact at_int (hent2 _ hi)), ?_⟩
      refine ⟨rfl, _, rfl, ifF ?_ ⟨_, rfl, rfl⟩⟩
      rw [hsy i (i + 1 + j)]
      simp
    · rintro σ H1 ⟨v2, rfl, rfl⟩
      exact ⟨_, _, rfl, rfl⟩
  · rintro σ H' ⟨_, _, rfl, rfl⟩
    exact q
def spPairs (K : PySem.W.Frag) : Sp := fun vs H Q _ => ∃ (n : Nat) (v : V) (ps : List RW), vs = [.int n, v] ∧ Fz K H v (.tup (ps.map tdr)) ∧ (∀ p ∈ ps, p.1.length = n ∧ 1 ≤ p.2) ∧ ∀ H', Same H H' → Q .non H'
abbrev s_check_pairs : Stmt := top 34
abbrev N_check_pairs : List Str := ["size", "pairs", "index", "row", "weight"]
theorem sc_check_pairs : FnScope N_check_pairs ["size", "pairs"] (defScope s_check_pairs) := ⟨rfl, rfl, rfl, by decide +kernel, rfl, by decide +kernel, by decide +kernel⟩
theorem ok_check_pairs (F : Fun K "check_pairs" "check_pairs" s_check_pairs f fd) (T : Txt mg) : FnOk P w K mg base CX0 1 f fd ["size", "pairs"] (spPairs K) := by
  refine F.ok sc_check_pairs (fun vs H Q E h => ?_) (fun cdv A outer s H vs Q E hr h => ?_)
  · obtain ⟨n, v, ps, rfl, _⟩ := h
    rfl
  obtain ⟨n, v, ps, rfl, hz, hs, q⟩ := h
  obtain ⟨a, vs, rfl, ha, hl, hrow⟩ := fz_prs hz
  refine ⟨_, (pss_one (ps_for PassesOwn.never rfl (WE.pi_enT (by rfl) T.b_enumerate (pa_cons (pv 1) pa_nil)) (pg_tup rfl (pgs_cons (pg_name (i := 2) sc_check_pairs.nd rfl (Or.inl rfl)) (pgs_cons (pg_tup rfl (pgs_cons (pg_name (i := 3) sc_check_pairs.nd rfl (Or.inl rfl)) (pgs_cons (pg_name (i := 4) sc_check_pairs.nd rfl (Or.inl rfl)) pgs_nil))) pgs_nil))) (pss_cons (ps_if (pt_cmpR op_ne (pe_callB call_len_seq (by rfl) T.b_len PySem.boot_len (pa_cons (pv 3) pa_nil)) (pv 0) (nomark _)) (pss_one ps_never) pss_nil)
  (pss_one (ps_if (pt_cmpR op_lt (pv 4) pe_int (nomark _)) (pss_one ps_never) pss_nil))))), ?_⟩
  refine ⟨_, rfl, a, vs, rfl, ha, for_it (WE.walk_enT (K := K) (a := a) (xs := vs)) (fun i σ H' => ∃ v1 v2 v3 : Option V, σ = [some (.int n), some (.ref a), v1, v2, v3] ∧ Same H H') ⟨none, none, none, rfl, fun _ _ h => h⟩ (fun i σ H' _ ⟨_, _, _, _, s⟩ => Same_seqT s ha) ?_ ?_⟩
  · rintro i x σ H1 H2 hi ⟨v1, v2, v3, rfl, s1⟩ y
    have s2 := ys_pair y
    obtain ⟨Tp, x1, x2, rfl, hT, rfl, e1, e2⟩ := y
    cases e1
    obtain ⟨p, hp⟩ : ∃ p, ps[i]? = some p := ⟨_, List.getElem?_eq_getElem (by omega)⟩
    obtain ⟨q1, r1, hq1, hq2, hq3⟩ := hrow i p hp
    rw [show vs[i]? = some x2 from e2] at hq1
    cases hq1
    have s3 := s1.trans s2
    obtain ⟨h1, h2⟩ := hs p (List.mem_of_getElem? hp)
    refine ⟨_, _, rfl, SqT.of upd_same, rfl, _, _, rfl, _, _, rfl, ⟨_, _, rfl, Same_seqT s3 hq2, rfl, _, _, rfl, _, _, rfl, rfl, rfl, ?_⟩⟩
    refine ⟨_, rfl, _, _, rfl, .inr (Same_seqT s3 hq3), _, rfl, rfl, _, rfl, ifF ?_ ?_⟩
    · rw [List.length_map, h1]
      simp
    · exact ⟨_, rfl, _, _, rfl, rfl, _, rfl, ifF (decide_eq_false (by omega)) ⟨_, _, _, rfl, s3⟩⟩
  · rintro σ H' ⟨_, _, _, rfl, s1⟩
    exact q H' s1
end
end P41
namespace P41
open PySem PySem.Spec PyProof.Rows L2 SX EX WK
theorem getD_at {ns : List Int} {j : Nat} (h : j < ns.length) : (ns.map V.int)[j]? = some (.int (ns.getD j 0)) := by
  rw [List.getElem?_map, List.getD_eq_getElem?_getD, List.getElem?_eq_getElem h]
  rfl
/-- rows of n small numbers, weights from 1 on -/
def Prs (n : Nat) (ps : List RW) : Prop := ps.length ≤ 1000 ∧ ∀ p ∈ ps, p.1.length = n ∧ 1 ≤ p.2 ∧ B 400 p.2 ∧ ∀ x ∈ p.1, B 100 x
theorem Prs.get {n : Nat} {ps : List RW} (h : Prs n ps) {p : RW} (m : p ∈ ps) {j : Nat} (hj : j < n) : B 100 (p.1.getD j 0) := by
  obtain ⟨h1, _, _, h4⟩ := h.2 p m
  have hl : j < p.1.length := by omega
  rw [List.getD_eq_getElem?_getD, List.getElem?_eq_getElem hl]
  exact h4 _ (List.getElem_mem hl)
section
variable {P : Program} {w : World} {K : PySem.W.Frag} {mg : Str → Option Value} {base : Heap} {f : Addr} {fd : FuncData}
def spWsum (K : PySem.W.Frag) : Sp := fun vs H Q _ => ∃ (v : V) (n i j : Nat) (ps : List RW), vs = [v, .int i, .int j] ∧ Fz K H v (.tup (ps.map tdr)) ∧ Prs n ps ∧ i < n ∧ j < n ∧ ∀ H', Same H H' → Q (.int (wsum ps i j)) H'
abbrev s_weighted_sum : Stmt := top 35
abbrev N_weighted_sum : List Str := ["pairs", "one", "two", "row", "weight"]
theorem sc_weighted_sum : FnScope N_weighted_sum ["pairs", "one", "two"] (defScope s_weighted_sum) := ⟨rfl, rfl, rfl, by decide +kernel, rfl, by decide +kernel, by decide +kernel⟩
theorem ok_weighted_sum (F : Fun K "weighted_sum" "weighted_sum" s_weighted_sum f fd) (T : Txt mg) : FnOk P w K mg base CX0 1 f fd ["pairs", "one", "two"] (spWsum K) := by
  refine F.ok sc_weighted_sum (fun vs H Q E h => ?_) (fun cdv A outer s H vs Q E hr h => ?_)
  · obtain ⟨v, n, i, j, ps, rfl, _⟩ := h
    rfl
  obtain ⟨v, n, i, j, ps, rfl, hz, hp, hi, hj, q⟩ := h
  obtain ⟨a, vs, rfl, ha, hl, hrow⟩ := fz_prs hz
  refine ⟨_, (pss_one (ps_ret (pe_callB (cr_sum rfl) (by rfl) T.b_sum (by decide +kernel) (pa_cons (pe_lc (own := [("row", 3), ("weight", 4)]) (tt := tYes) (by rfl) sc_weighted_sum.nd (pi_tup (pv 0)) (blkOk_by (N := N_weighted_sum) (sc := defScope s_weighted_sum) (by decide +kernel)) (fun _ _ _ _ _ => (pg_tupK (K := K) (n := 2) rfl rfl (pgs_cons (pg_name (i := 3) sc_weighted_sum.nd rfl (Or.inl rfl)) (pgs_cons (pg_name (i := 4) sc_weighted_sum.nd rfl (Or.inl rfl)) pgs_nil)))) (fun _ _ _ _ _ => pts_nil) (fun _ _ _ _ _ => (pe_op op_mulW (pe_op op_mulW (pv 4) (pe_ix (ix_tupK (K := K) rfl) (pv 3) (pv 1) (fun _ _ => rfl))) (pe_ix (ix_tupK (K := K) rfl) (pv 3) (pv 2) (fun _ _ => rfl))))) pa_nil)))), ?_⟩
  refine ⟨_, rfl, a, rfl, ⟨_, ha⟩, fun D hD => ?_⟩
  refine lc_m (walk_tup (K := K) (a := a) (xs := vs)) RI (stb_RI (K := K)) ps hl (by have := hp.1; omega) hD (fun H' s => Same_seqT s ha) (fun _ _ _ _ => ys_at) (fun p => p.2 * p.1.getD i 0 * p.1.getD j 0) (fun k p x H1 H2 hb s1 s2 y A B hA => ?_) (fun H' l s1 hl1 rs => ?_)
  · obtain ⟨q1, r1, hq1, hq2, hq3⟩ := hrow k p hb
    rw [y.2] at hq1
    cases hq1
    have m := List.mem_of_getElem? hb
    obtain ⟨h1, h2, h3, h4⟩ := hp.2 p m
    refine ⟨_, _, rfl, Same_seqT s2 hq2, rfl, _, _, rfl, _, _, rfl, rfl, rfl, lc_yes ?_⟩
    refine ⟨_, rfl, _, rfl, _, rfl, r1, _, _, _, rfl, rfl, Same_seqT s2 hq3, at_pos (by omega) (by rw [Int.toNat_natCast]; exact getD_at (by omega)), _, _, rfl, rfl, wmul h3 (hp.get m hi) (by decide) (by decide) (by decide), ?_⟩
    refine ⟨_, rfl, _, rfl, r1, _, _, _, rfl, rfl, Same_seqT s2 hq3, at_pos (by omega) (by rw [Int.toNat_natCast]; exact getD_at (by omega)), _, _, rfl, rfl, wmul (h3.mul (hp.get m hi)) (hp.get m hj) (by decide) (by decide) (by decide), hA _ _ (fun _ _ h => h) rfl⟩
  · exact ⟨D, _, rfl, SqL.of (by rw [hl1, rs.ints]), q H' s1⟩
def spWmat (K : PySem.W.Frag) : Sp := fun vs H Q _ => ∃ (v : V) (n : Nat) (ps : List RW), vs = [.int n, v] ∧ Fz K H v (.tup (ps.map tdr)) ∧ Prs n ps ∧ n ≤ 1000 ∧ ∀ r H', Same H H' → Sn K H' (.ref r) (tdm (wmat n ps)) → Q (.ref r) H'
theorem rl_sn {K : PySem.W.Frag} {H : Hp} {D : Addr} : ∀ {l : List V} {m : List (List Int)}, Rs (RL D) H l m → SnAll K H l (m.map fun r => .tup (r.map Td.int))
  | [], [], _ => .nil
  | [], _ :: _, h => by have := h.1; simp at this
  | _ :: _, [], h => by have := h.1; simp at this
  | v :: vs, r :: m, h => by
    obtain ⟨p, e, _, hp⟩ := h.2 0 v r rfl rfl
    refine .cons ?_ (rl_sn ⟨by have := h.1; simp at this; exact this, fun i u z hu hz => h.2 (i + 1) u z hu hz⟩)
    rw [e]
    exact .lst hp (FzAll.of_ints r).sn
abbrev s_weighted_matrix : Stmt := top 36
abbrev N_weighted_matrix : List Str := ["size", "pairs", "line", "column"]
theorem sc_weighted_matrix : FnScope N_weighted_matrix ["size", "pairs"] (defScope s_weighted_matrix) := ⟨rfl, rfl, rfl, by decide +kernel, rfl, by decide +kernel, by decide +kernel⟩
theorem ok_weighted_matrix (F : Fun K "weighted_matrix" "weighted_matrix" s_weighted_matrix f fd) (T : Txt mg) (C_weighted_sum : Cal P w K mg base 1 "weighted_sum" ["pairs", "one", "two"] (spWsum K)) : FnOk P w K mg base CX0 2 f fd ["size", "pairs"] (spWmat K) := by
  refine F.ok sc_weighted_matrix (fun vs H Q E h => ?_) (fun cdv A outer s H vs Q E hr h => ?_)
  · obtain ⟨v, n, ps, rfl, _⟩ := h
    rfl
  obtain ⟨v, n, ps, rfl, hz, hp, hn, q⟩ := h
  refine ⟨_, (pss_one (ps_ret (pe_lc (own := [("line", 2)]) (g := gName 2) (tt := tYes) (by rfl) sc_weighted_matrix.nd (pi_range1 (by rfl) T.b_range (pa_cons (pv 0) pa_nil)) (blkOk_by (N := N_weighted_matrix) (sc := defScope s_weighted_matrix) (by decide +kernel)) (fun _ _ _ _ _ => (pg_name (i := 2) sc_weighted_matrix.nd rfl (Or.inr rfl))) (fun _ _ _ _ _ => pts_nil) (fun _ _ _ _ _ => (pe_lc (own := [("column", 3)]) (g := gName 3) (tt := tYes) (by rfl) sc_weighted_matrix.nd (pi_range1 (by rfl) T.b_range (pa_cons (pv 0) pa_nil)) (blk_nest (N := N_weighted_matrix) (sc0 := defScope s_weighted_matrix) rfl (by decide +kernel)) (fun _ _ _ _ _ => (pg_name (i := 3) sc_weighted_matrix.nd rfl (Or.inl rfl))) (fun _ _ _ _ _ => pts_nil) (fun _ _ _ _ _ => (pe_cal C_weighted_sum (hr.mono (by omega)) rfl (pa_cons (pv 1) (pa_cons (pv 2) (pa_cons (pv 3) pa_nil)))))))))), ?_⟩
  refine ⟨_, rfl, n, rfl, by omega, by omega, fun D hD => ?_⟩
  refine lc_gm (walk_range (lo := 0) (n := n)) (RL D) stb_RL (List.range n) (by rw [List.length_range]) (by rw [List.length_range]; omega) hD (fun _ _ => trivial) (fun _ _ _ _ => ys_fn) (fun i => (List.range n).map fun j => wsum ps i j) (fun k i x H1 H2 hb s1 s2 y hdl A B hA => ?_) (fun H' l s1 hl1 rs => ?_)
  · have ek : k < n ∧ i = k := by
      have h1 := (List.getElem?_eq_some_iff.mp hb).1
      rw [List.length_range] at h1
      rw [List.getElem?_range h1] at hb
      exact ⟨h1, (Option.some.inj hb).symm⟩
    obtain ⟨hk, rfl⟩ := ek
    rw [y.2]
    refine ⟨rfl, lc_yes ⟨_, rfl, n, rfl, by omega, by omega, fun D2 hD2 => ?_⟩⟩
    refine lc_m (walk_range (lo := 0) (n := n)) RI (stb_RI (K := K)) (List.range n) (by rw [List.length_range]) (by rw [List.length_range]; omega) hD2 (fun _ _ => trivial) (fun _ _ _ _ => ys_fn) (fun j => wsum ps i j) (fun k2 j x2 H3 H4 hb2 s3 s4 y2 A2 B2 hA2 => ?_) (fun H' l s3 hl1 rs => ?_)
    · have ek : k2 < n ∧ j = k2 := by
        have h1 := (List.getElem?_eq_some_iff.mp hb2).1
        rw [List.length_range] at h1
        rw [List.getElem?_range h1] at hb2
        exact ⟨h1, (Option.some.inj hb2).symm⟩
      obtain ⟨hk2, rfl⟩ := ek
      rw [y2.2]
      refine ⟨rfl, lc_yes ⟨_, rfl, _, rfl, _, rfl, v, n, i, j, ps, ?_, hz.tk (WK.Same.tk (s2.trans s4)), hp, hk, hk2, fun H' s => hA2 _ _ s rfl⟩⟩
      show [v, V.int (0 + (i : Int)), V.int (0 + (j : Int))] = _
      rw [Int.zero_add, Int.zero_add]
    · refine hA _ _ s3 ⟨D2, rfl, fun z => ?_, by rw [hl1, rs.ints]⟩
      obtain ⟨l0, h0⟩ := hdl
      rw [← z, hD2] at h0
      cases h0
  · refine q D H' s1 (.lst hl1 ?_)
    have e : (wmat n ps) = (List.range n).map fun i => (List.range n).map fun j => wsum ps i j := rfl
    rw [e]
    exact rl_sn rs
/-! ### ties -/
def spRow (K : PySem.W.Frag) : Sp := fun vs H Q _ => ∃ (v : V) (pl : Int) (t : T3), vs = [.int pl, v] ∧ Fz K H v (td3 t) ∧ 0 ≤ pl ∧ pl ≤ 1000 ∧ ∀ r H', Same H H' → H' r = some (.tup ((trow pl t).map V.int)) → Q (.ref r) H'
abbrev s_tie_row : Stmt := top 39
abbrev N_tie_row : List Str := ["places", "tie", "place"]
theorem sc_tie_row : FnScope N_tie_row ["places", "tie"] (defScope s_tie_row) := ⟨rfl, rfl, rfl, by decide +kernel, rfl, by decide +kernel, by decide +kernel⟩
theorem ok_tie_row (F : Fun K "tie_row" "tie_row" s_tie_row f fd) (T : Txt mg) : FnOk P w K mg base CX0 1 f fd ["places", "tie"] (spRow K) := by
  refine F.ok sc_tie_row (fun vs H Q E h => ?_) (fun cdv A outer s H vs Q E hr h => ?_)
  · obtain ⟨v, pl, t, rfl, _⟩ := h
    rfl
  obtain ⟨v, pl, t, rfl, hz, h0, h1, q⟩ := h
  obtain ⟨a, rfl, ha⟩ := fz_tie hz
  refine ⟨_, (pss_one (ps_ret (pe_callTy call_tuple_of (by rfl) T.b_tuple (by decide +kernel) (pa_cons (pe_lc (own := [("place", 2)]) (g := gName 2) (tt := tYes) (by rfl) sc_tie_row.nd (pi_range1 (by rfl) T.b_range (pa_cons (pv 0) pa_nil)) (blkOk_by (N := N_tie_row) (sc := defScope s_tie_row) (by decide +kernel)) (fun _ _ _ _ _ => (pg_name (i := 2) sc_tie_row.nd rfl (Or.inl rfl))) (fun _ _ _ _ _ => pts_nil) (fun _ _ _ _ _ => (pe_op op_sub (pe_callTy call_int1 (by rfl) T.b_int (by decide +kernel) (pa_cons (pe_cmpR op_eq (pv 2) (pe_ix (ix_tupK (K := K) rfl) (pv 1) pe_int (fun _ _ => rfl)) (nomark _)) pa_nil)) (pe_callTy call_int1 (by rfl) T.b_int (by decide +kernel) (pa_cons (pe_cmpR op_eq (pv 2) (pe_ix (ix_tupK (K := K) rfl) (pv 1) pe_int (fun _ _ => rfl)) (nomark _)) pa_nil))))) pa_nil)))), ?_⟩
  refine ⟨_, rfl, pl, rfl, by omega, by omega, fun D hD => ?_⟩
  refine lc_m (walk_range (lo := 0) (n := pl.toNat)) RI (stb_RI (K := K)) (List.range pl.toNat) (by rw [List.length_range]) (by rw [List.length_range]; omega) hD (fun _ _ => trivial) (fun _ _ _ _ => ys_fn) (fun (k : Nat) => b2 (decide (V.int (0 + (k : Int)) = V.int t.1)) - b2 (decide (V.int (0 + (k : Int)) = V.int t.2.1))) (fun k i x H1 H2 hb s1 s2 y A B hA => ?_) (fun H' l s1 hl1 rs => ?_)
  · have ek : i = k := by
      have h1 := (List.getElem?_eq_some_iff.mp hb).1
      rw [List.length_range] at h1
      rw [List.getElem?_range h1] at hb
      exact (Option.some.inj hb).symm
    subst ek
    rw [y.2]
    refine ⟨rfl, lc_yes ⟨_, rfl, _, rfl, a, _, 0, _, rfl, rfl, Same_seqT s2 ha, at_pos (by decide) rfl, rfl, .inr ⟨_, rfl, ?_⟩⟩⟩
    exact ⟨_, rfl, _, rfl, a, _, 1, _, rfl, rfl, Same_seqT s2 ha, at_pos (by decide) rfl, rfl, .inr ⟨_, rfl, _, _, rfl, rfl, hA _ _ (fun _ _ h => h) rfl⟩⟩
  · refine ⟨D, l, rfl, .inl ⟨SqL.of hl1, fun r hr' => q r _ (s1.trans (same_new hr' _)) ?_⟩⟩
    rw [upd_same, rs.ints]
    rfl
def spSort (K : PySem.W.Frag) : Sp := fun vs H Q _ => ∃ (v u : V) (pl : Int) (t : T3), vs = [.int pl, u, v] ∧ Fz K H v (td3 t) ∧ OkT pl t ∧ ∀ r H', Same H H' → H' r = some (.tup [.int (imin t.1 t.2.1), .int (imax t.1 t.2.1), .int t.2.2]) → Q (.ref r) H'
abbrev s_sorted_tie : Stmt := top 40
abbrev N_sorted_tie : List Str := ["places", "index", "tie", "one", "two", "strength"]
theorem sc_sorted_tie : FnScope N_sorted_tie ["places", "index", "tie"] (defScope s_sorted_tie) := ⟨rfl, rfl, rfl, by decide +kernel, rfl, by decide +kernel, by decide +kernel⟩
theorem ok_sorted_tie (F : Fun K "sorted_tie" "sorted_tie" s_sorted_tie f fd) (T : Txt mg) : FnOk P w K mg base CX0 1 f fd ["places", "index", "tie"] (spSort K) := by
  refine F.ok sc_sorted_tie (fun vs H Q E h => ?_) (fun cdv A outer s H vs Q E hr h => ?_)
  · obtain ⟨v, u, pl, t, rfl, _⟩ := h
    rfl
  obtain ⟨v, u, pl, t, rfl, hz, ok, q⟩ := h
  obtain ⟨a, rfl, ha⟩ := fz_tie hz
  refine ⟨_, (pss_cons (ps_asg (pv 2) (pg_tup rfl (pgs_cons (pg_name (i := 3) sc_sorted_tie.nd rfl (Or.inl rfl)) (pgs_cons (pg_name (i := 4) sc_sorted_tie.nd rfl (Or.inl rfl)) (pgs_cons (pg_name (i := 5) sc_sorted_tie.nd rfl (Or.inl rfl)) pgs_nil)))))
  (pss_cons (ps_if (PW.pt (pw_or (pt_cmpR op_eq (pv 3) (pv 4) (nomark _)) (pw_or (pt_cmpR op_lt (pe_callB (call_min2 rfl) (by rfl) T.b_min (by decide +kernel) (pa_cons (pv 3) (pa_cons (pv 4) pa_nil))) pe_int (nomark _)) (pw_or1 (pt_cmpR op_ge (pe_callB (call_max2 rfl) (by rfl) T.b_max (by decide +kernel) (pa_cons (pv 3) (pa_cons (pv 4) pa_nil))) (pv 0) (nomark _)))))) (pss_one ps_never) pss_nil)
  (pss_cons (ps_if (pt_cmpR op_lt (pv 5) pe_int (nomark _)) (pss_one ps_never) pss_nil)
  (pss_one (ps_ret (pe_tup (pa_cons (pe_callB (call_min2 rfl) (by rfl) T.b_min (by decide +kernel) (pa_cons (pv 3) (pa_cons (pv 4) pa_nil))) (pa_cons (pe_callB (call_max2 rfl) (by rfl) T.b_max (by decide +kernel) (pa_cons (pv 3) (pa_cons (pv 4) pa_nil))) (pa_cons (pv 5) pa_nil))))))))), ?_⟩
  refine ⟨_, rfl, _, _, rfl, ha, rfl, _, _, rfl, _, _, rfl, _, _, rfl, rfl, ?_⟩
  have hne := ok.ne
  have ha0 := ok.a0
  have ha1 := ok.a1
  have hb0 := ok.b0
  have hb1 := ok.b1
  have hs1 := ok.s1
  refine ⟨_, rfl, _, rfl, rfl, _, rfl, ifF (int_ne hne) ?_⟩
  refine ⟨_, rfl, _, rfl, _, _, rfl, _, _, rfl, rfl, _, rfl, ifF (decide_eq_false (by split <;> omega)) ?_⟩
  refine ⟨_, rfl, _, rfl, _, _, rfl, _, rfl, _, _, rfl, rfl, _, rfl, ifF (decide_eq_false (by split <;> omega)) ?_⟩
  refine ⟨_, rfl, _, _, rfl, rfl, _, rfl, ifF (decide_eq_false (by omega)) ?_⟩
  exact ⟨_, rfl, _, rfl, _, _, rfl, _, rfl, _, rfl, _, _, rfl, _, rfl, three_line, fun r hr' => q r _ (same_new hr' _) upd_same⟩
end
end P41
namespace P41
open PySem PySem.Spec PyProof.Rows L2 SX EX WK
theorem putF_ne {f g : Str} {x v : V} {r : List (Str × V)} (h : ¬ g = f) : putF f v ((g, x) :: r) = (g, x) :: putF f v r := if_neg h
theorem flF (n e b : V) : putF "bottom" b (putF "entries" e (putF "size" n [])) = ([("size", n), ("entries", e), ("bottom", b)] : List (Str × V)) := by
  show putF "bottom" b (putF "entries" e [("size", n)]) = _
  rw [putF_ne (by decide +kernel)]
  show putF "bottom" b [("size", n), ("entries", e)] = _
  rw [putF_ne (by decide +kernel), putF_ne (by decide +kernel)]
  rfl
theorem dep_tdm {m : List (List Int)} : (tdm m).dep ≤ 2 := by
  simp only [tdm, Td.dep]
  have : Td.deps (m.map fun r => .tup (r.map Td.int)) ≤ 1 := deps_all fun t h => by
    obtain ⟨r, _, rfl⟩ := List.mem_map.mp h
    simp only [Td.dep]
    have : Td.deps (r.map Td.int) ≤ 0 := deps_all fun t h => by
      obtain ⟨n, _, rfl⟩ := List.mem_map.mp h
      exact Nat.le_refl _
    omega
  omega
theorem sm_ints {ns : List Int} (h : ns.length ≤ 100000) : (Td.tup (ns.map Td.int)).sm := by
  simp only [Td.sm]
  refine ⟨by rw [List.length_map]; exact h, sms_all fun t h => ?_⟩
  obtain ⟨n, _, rfl⟩ := List.mem_map.mp h
  simp only [Td.sm]
theorem sm_tdm {m : List (List Int)} (h : m.length ≤ 100000) (hr : ∀ r ∈ m, r.length ≤ 100000) : (tdm m).sm := by
  simp only [tdm, Td.sm]
  refine ⟨by rw [List.length_map]; exact h, sms_all fun t h => ?_⟩
  obtain ⟨r, hm, rfl⟩ := List.mem_map.mp h
  exact sm_ints (hr r hm)
theorem flat_len {n : Nat} : ∀ {m : List (List Int)}, (∀ r ∈ m, r.length = n) → m.flatten.length = m.length * n
  | [], _ => by simp
  | r :: m, h => by
    rw [List.flatten_cons, List.length_append, flat_len fun x hx => h x (List.mem_cons_of_mem _ hx), h r List.mem_cons_self, List.length_cons, Nat.succ_mul]
    omega
theorem flat_row {n : Nat} : ∀ {m : List (List Int)} {i : Nat} {r : List Int}, (∀ r ∈ m, r.length = n) → m[i]? = some r → (m.flatten.drop (i * n)).take n = r
  | [], i, r, _, h => by simp at h
  | x :: m, 0, r, hl, h => by
    cases h
    rw [Nat.zero_mul, List.drop_zero, List.flatten_cons, List.take_left' (hl x List.mem_cons_self)]
  | x :: m, i + 1, r, hl, h => by
    have hx := hl x List.mem_cons_self
    rw [List.flatten_cons, Nat.succ_mul, Nat.add_comm, List.drop_append, List.drop_of_length_le (by omega), List.nil_append]
    have e : n + i * n - x.length = i * n := by omega
    rw [e]
    exact flat_row (fun y hy => hl y (List.mem_cons_of_mem _ hy)) (by simpa using h)
theorem flat_take {m : List (List Int)} {i : Nat} {r : List Int} (h : m[i]? = some r) : (m.take (i + 1)).flatten = (m.take i).flatten ++ r := by
  rw [take_one h, List.flatten_append]
  simp
/-- a form -/
def FormAt (K : PySem.W.Frag) (H : Hp) (C p : Addr) (n : Nat) (m : List (List Int)) (b : Int) : Prop := ∃ dx e, H p = some (.ins C dx [("size", .int n), ("entries", .ref e), ("bottom", .int b)]) ∧ Fz K H (.ref e) (tdm m)
/-- all but the thing at a stays -/
def But (a : Addr) (H H' : Hp) : Prop := ∀ c o, H c = some o → c ≠ a → H' c = some o
theorem But.of {a : Addr} {H H' : Hp} (s : Same H H') : But a H H' := fun c o e _ => s c o e
theorem But.put {a : Addr} {H H' : Hp} (s : But a H H') (o : HO) : But a H (upd H' a o) := fun c u e h => by rw [upd_ne h]; exact s c u e h
theorem But.then {a : Addr} {H H' H2 : Hp} (s : But a H H') (t : Same H' H2) : But a H H2 := fun c u e h => t c u (s c u e h)
def dm (m : List (List Int)) (g : Int) : List (List Int) := m.map fun r => r.map fun x => x / g
theorem sIx_of {n d : Nat} {z : Int} {k : Nat} (e : z = (k : Int)) (h : k ≤ n) : HT.sIx n d (some z) = k := by
  rw [e, HT.sIx_nat]
  omega
def spForm (K : PySem.W.Frag) (C : Addr) : Sp := fun vs H Q _ => ∃ (a dx : Addr) (v : V) (m : List (List Int)) (b : Int), vs = [.ref a, v, .int b] ∧ H a = some (.ins C dx []) ∧ Sn K H v (tdm m) ∧ Sqr m ∧ Sym m ∧ m.length ≤ 300 ∧ 0 < b ∧ B 9000 b ∧
  ∀ H', FormAt K H' C a m.length (dm m (gf b m.flatten)) (b / gf b m.flatten) → But a H H' → Q .non H'
section
variable {P : Program} {w : World} {K : PySem.W.Frag} {mg : Str → Option Value} {base : Heap} {f : Addr} {fd : FuncData} {cF cR cW : Addr}
abbrev s_iForm : Stmt := mth 32 0
abbrev N_iForm : List Str := ["self", "entries", "bottom", "lines", "size", "numbers", "least_bottom", "line", "number", "row"]
theorem sc_iForm : FnScope N_iForm ["self", "entries", "bottom"] (defScope s_iForm) := ⟨rfl, rfl, rfl, by decide +kernel, rfl, by decide +kernel, by decide +kernel⟩
theorem ok_iForm {kws : List (Str × V)} (F : FunD K "__init__" "Form.__init__" (defArgs s_iForm) (defBody s_iForm) (defScope s_iForm) [] kws f fd) (T : Txt mg) (O : Obs K cF cR cW) (C_frozen : Cal P w K mg base 3 "frozen" ["value"] (spFz K 3)) (C_check_square : Cal P w K mg base 1 "check_square" ["lines"] (spSquare K))
    (C_check_symmetric : Cal P w K mg base 1 "check_symmetric" ["lines"] (spSymm K)) (C_lowered : Cal P w K mg base 1 "lowered" ["numbers", "bottom"] spLow) : FnOk P w K mg base CX0 4 f fd ["self", "entries", "bottom"] (spForm K cF) := by
  refine F.ok sc_iForm (fun vs H Q E h => ?_) (fun cdv A outer s H vs Q E hr h => ?_)
  · obtain ⟨a, dx, v, m, b, rfl, _⟩ := h
    rfl
  obtain ⟨a, dx, v, m, b, rfl, hself, hv, hsq, hsy, hn, hb, hB, q⟩ := h
  refine ⟨_, (pss_cons (ps_set (i := 3) sc_iForm.nd rfl (Or.inl rfl) (pe_cal C_frozen (hr.mono (by omega)) rfl (pa_cons (pv 1) pa_nil)))
  (pss_cons (ps_expr (pe_cal C_check_square (hr.mono (by omega)) rfl (pa_cons (pv 3) pa_nil)))
  (pss_cons (ps_expr (pe_cal C_check_symmetric (hr.mono (by omega)) rfl (pa_cons (pv 3) pa_nil)))
  (pss_cons (ps_set (i := 4) sc_iForm.nd rfl (Or.inr rfl) (pe_callB call_len_seq (by rfl) T.b_len PySem.boot_len (pa_cons (pv 3) pa_nil)))
  (pss_cons (ps_asg (pe_cal C_lowered (hr.mono (by omega)) rfl (pa_cons (pe_lc2 (own := [("line", 7), ("number", 8)]) (vs1 := [8]) (g := gName 7) (tt := tYes) (g1 := gName 8) (tt1 := tYes) (by rfl) sc_iForm.nd (pi_tup (pv 3)) (blkOk_by (N := N_iForm) (sc := defScope s_iForm) (by decide +kernel)) (by decide) (fun _ _ _ _ _ => (pg_name (i := 7) sc_iForm.nd rfl (Or.inl rfl))) (fun _ _ _ _ _ => pts_nil) (fun _ _ _ _ _ => (pi_tupK (K := K) rfl (pv 7))) (fun _ _ _ _ _ => (pg_name (i := 8) sc_iForm.nd rfl (Or.inl rfl))) (fun _ _ _ _ _ => pts_nil) (fun _ _ _ _ _ => (pv 8))) (pa_cons (pv 2) pa_nil))) (pg_tup rfl (pgs_cons (pg_name (i := 5) sc_iForm.nd rfl (Or.inr rfl)) (pgs_cons (pg_name (i := 6) sc_iForm.nd rfl (Or.inl rfl)) pgs_nil))))
  (pss_cons (ps_fld (pv 0) (pv 4) rfl)
  (pss_cons (ps_fld (pv 0) (pe_callTy call_tuple_of (by rfl) T.b_tuple (by decide +kernel) (pa_cons (pe_lc (own := [("row", 9)]) (g := gName 9) (tt := tYes) (by rfl) sc_iForm.nd (pi_range1 (by rfl) T.b_range (pa_cons (pv 4) pa_nil)) (blkOk_by (N := N_iForm) (sc := defScope s_iForm) (by decide +kernel)) (fun _ _ _ _ _ => (pg_name (i := 9) sc_iForm.nd rfl (Or.inl rfl))) (fun _ _ _ _ _ => pts_nil) (fun _ _ _ _ _ => (pe_slice (sl_tupAK (K := K) rfl) (pv 5) (po_some (pe_op op_mulW (pv 9) (pv 4))) (po_some (pe_op op_add (pe_op op_mulW (pv 9) (pv 4)) (pv 4)))))) pa_nil)) rfl)
  (pss_one (ps_fld (pv 0) (pv 6) rfl))))))))), ?_⟩
  have hrl : ∀ r ∈ m, r.length ≤ 100000 := fun r hr => by rw [hsq r hr]; omega
  refine ⟨_, rfl, _, tdm m, rfl, hv, Nat.le_trans dep_tdm (by omega), sm_tdm (by omega) hrl, fun v1 H1 s1 hz1 => ?_⟩
  refine ⟨_, rfl, _, m, rfl, hz1, hsq, fun H2 s2 => ?_⟩
  have hz2 := hz1.tk (WK.Same.tk s2)
  refine ⟨_, rfl, _, m, rfl, hz2, hsq, hsy, by omega, ?_⟩
  obtain ⟨e, vs, rfl, he, hl, hrow⟩ := fz_mat hz2
  refine ⟨_, rfl, _, _, rfl, .inr he, ?_⟩
  have hfl := flat_len hsq
  have hfn : m.flatten.length ≤ 100000 := by
    rw [hfl]
    exact Nat.le_trans (Nat.mul_le_mul hn hn) (by decide)
  refine ⟨_, rfl, e, rfl, ⟨_, he⟩, fun D hD => ?_⟩
  refine ⟨fun i k H3 => k = m.length - i ∧ i ≤ m.length ∧ Same H2 H3 ∧ H3 D = some (.lst (((m.take i).flatten).map V.int)), ⟨_, rfl, Nat.zero_le _, same_new hD _, by rw [upd_same, List.take_zero]; rfl⟩, ?_⟩
  rintro i k H3 ⟨rfl, hi, s3, h3⟩
  by_cases hlt : i < m.length
  · obtain ⟨r, hr1⟩ : ∃ r, m[i]? = some r := ⟨_, List.getElem?_eq_getElem hlt⟩
    obtain ⟨p, hp, hpr⟩ := hrow i r hr1
    have hrn := hsq r (List.mem_of_getElem? hr1)
    refine .inr ⟨⟨vs, _, Same_seqT s3 he, hp⟩, fun H4 => Same H2 H4 ∧ H4 D = some (.lst (((m.take (i + 1)).flatten).map V.int)), fun H4 h4 => ⟨_, by omega, rfl, hlt, h4.1, h4.2⟩, ?_⟩
    rintro x H4 ⟨rfl, hx⟩
    have hx2 := hx vs (Same_seqT s3 he)
    rw [hp] at hx2
    cases hx2
    refine ⟨rfl, lc_yes ⟨_, rfl, p, rfl, ⟨_, Same_seqT s3 hpr⟩, ?_⟩⟩
    refine ⟨fun j k H5 => k = r.length - j ∧ j ≤ r.length ∧ Same H2 H5 ∧ H5 D = some (.lst (((m.take i).flatten ++ r.take j).map V.int)), ⟨_, rfl, Nat.zero_le _, s3, by rw [List.take_zero, List.append_nil]; exact h3⟩, ?_⟩
    rintro j k H5 ⟨rfl, hj, s5, h5⟩
    by_cases hjlt : j < r.length
    · have hy : r[j]? = some r[j] := List.getElem?_eq_getElem hjlt
      refine .inr ⟨⟨r.map V.int, .int r[j], Same_seqT s5 hpr, at_int hy⟩, fun H6 => Same H2 H6 ∧ H6 D = some (.lst (((m.take i).flatten ++ r.take (j + 1)).map V.int)), fun H6 h6 => ⟨_, by omega, rfl, hjlt, h6.1, h6.2⟩, ?_⟩
      rintro x H6 ⟨rfl, hx⟩
      have hx2 := hx _ (Same_seqT s5 hpr)
      rw [at_int hy] at hx2
      cases hx2
      refine ⟨rfl, lc_yes ⟨_, rfl, _, h5, ?_, same_at s5 hD, ?_⟩⟩
      · refine sizes (Nat.le_trans ?_ hfn)
        rw [List.length_map, List.length_append, List.length_take, flat_len (n := m.length) (fun x hx => hsq x (List.mem_of_mem_take hx)), List.length_take, hfl]
        have h1 : (min i m.length + 1) * m.length ≤ m.length * m.length := Nat.mul_le_mul_right _ (by omega)
        rw [Nat.add_mul, Nat.one_mul] at h1
        omega
      · rw [upd_same, take_one hy, ← List.append_assoc, List.map_append (l₂ := [r[j]])]
        rfl
    · have ej : j = r.length := by omega
      refine .inl ⟨⟨_, Same_seqT s5 hpr, by rw [List.length_map, ej]; exact Nat.le_refl _⟩, s5, ?_⟩
      rw [h5, ej, List.take_length, flat_take hr1]
  · have ei : i = m.length := by omega
    refine .inl ⟨⟨vs, Same_seqT s3 he, by omega⟩, ?_⟩
    rw [ei, List.take_length] at h3
    clear hlt hi
    refine ⟨_, rfl, D, m.flatten, b, rfl, h3, hb, hB, hfn, fun r t H5 s5 hr5 ht5 => ?_⟩
    have hg := gf_pos hb m.flatten
    refine ⟨_, _, rfl, SqT.of hr5, rfl, _, _, rfl, _, _, rfl, rfl, ?_⟩
    have sA : Same H H5 := s1.trans (s2.trans (s3.trans s5))
    refine ⟨_, rfl, _, rfl, a, cF, dx, _, rfl, sA _ _ hself, O.clF, O.F_size, (by show 0 < 1000; decide), ?_⟩
    generalize hH6 : upd H5 a _ = H6
    have hs6 : H6 a = some (.ins cF dx (putF "size" (.int (vs.length : Nat)) [])) := by rw [← hH6, upd_same]
    have b6 : But a H H6 := by rw [← hH6]; exact (But.of sA).put _
    have ht6 : SqT K H6 t ((m.flatten.map fun n => n / gf b m.flatten).map V.int) := by
      refine .inl (.inl ?_)
      rw [← hH6, upd_ne (ne_of ht5 (sA _ _ hself) (by intro z; cases z))]
      exact ht5
    refine ⟨_, rfl, _, rfl, by omega, by omega, fun D2 hD2 => ?_⟩
    refine lc_m (walk_range (lo := 0) (n := (vs.length : Int).toNat)) (Fz K) stb_Fz (List.range m.length) (by rw [List.length_range]; omega) (by rw [List.length_range]; omega) hD2 (fun _ _ => trivial) (fun _ _ _ _ => ys_fn) (fun i => .tup (((dm m (gf b m.flatten)).getD i []).map Td.int)) (fun k i x H7 H8 hb2 s7 s8 y A2 B2 hA => ?_) (fun H7 l s7 hl7 rs => ?_)
    · have ek : k < m.length ∧ i = k := by
        have h1 := (List.getElem?_eq_some_iff.mp hb2).1
        rw [List.length_range] at h1
        rw [List.getElem?_range h1] at hb2
        exact ⟨h1, (Option.some.inj hb2).symm⟩
      obtain ⟨hk, rfl⟩ := ek
      rw [y.2]
      have cm : CMulW (0 + (i : Int)) ((vs.length : Nat) : Int) := wmul (m := 20) (n := 20) (by show (0 + (i : Int)).natAbs < 2 ^ 20; omega) (by show ((vs.length : Nat) : Int).natAbs < 2 ^ 20; omega) (by decide) (by decide) (by decide)
      refine ⟨rfl, lc_yes ⟨_, rfl, _, rfl, _, rfl, _, _, rfl, rfl, cm, _, rfl, _, rfl, _, rfl, _, _, rfl, rfl, cm, _, rfl, _, _, rfl, rfl, _, rfl, ?_⟩⟩
      have hdr : (dm m (gf b m.flatten))[i]? = some (((m[i]).map fun x => x / gf b m.flatten)) := by
        unfold dm
        rw [List.getElem?_map, List.getElem?_eq_getElem hk]
        rfl
      have hdl : ∀ r ∈ dm m (gf b m.flatten), r.length = m.length := fun r hr => by
        obtain ⟨r0, h0, rfl⟩ := List.mem_map.mp hr
        rw [List.length_map]
        exact hsq r0 h0
      have hfr := flat_row hdl hdr
      have hff : (dm m (gf b m.flatten)).flatten = m.flatten.map fun n => n / gf b m.flatten := by
        unfold dm
        rw [List.map_flatten]
      rw [hff] at hfr
      have hgd : (dm m (gf b m.flatten)).getD i [] = (m[i]).map fun x => x / gf b m.flatten := by
        rw [List.getD_eq_getElem?_getD, hdr]
        rfl
      have hN : ((m.flatten.map fun n => n / gf b m.flatten).map V.int).length = m.length * m.length := by rw [List.length_map, List.length_map, hfl]
      have hmul : i * m.length + m.length ≤ m.length * m.length := by
        have h1 : (i + 1) * m.length ≤ m.length * m.length := Nat.mul_le_mul_right _ hk
        rw [Nat.add_mul, Nat.one_mul] at h1
        exact h1
      have e1 : HT.sIx ((m.flatten.map fun n => n / gf b m.flatten).map V.int).length 0 (some ((0 + (i : Int)) * ((vs.length : Nat) : Int))) = i * m.length := sIx_of (by rw [hl, Int.zero_add]; exact (Int.natCast_mul _ _).symm) (by rw [hN]; omega)
      have e2 : HT.sIx ((m.flatten.map fun n => n / gf b m.flatten).map V.int).length ((m.flatten.map fun n => n / gf b m.flatten).map V.int).length (some ((0 + (i : Int)) * ((vs.length : Nat) : Int) + ((vs.length : Nat) : Int))) = i * m.length + m.length := sIx_of (by rw [hl, Int.zero_add, ← Int.natCast_mul, ← Int.natCast_add]) (by rw [hN]; exact hmul)
      have hcut : cutV ((m.flatten.map fun n => n / gf b m.flatten).map V.int) (some ((0 + (i : Int)) * ((vs.length : Nat) : Int))) (some ((0 + (i : Int)) * ((vs.length : Nat) : Int) + ((vs.length : Nat) : Int))) = ((m[i]).map fun x => x / gf b m.flatten).map V.int := by
        unfold cutV
        rw [e1, e2, Nat.add_sub_cancel_left, ← List.map_drop, ← List.map_take, hfr]
      have hfz : ∀ {H9 : Hp} {p : Addr}, SqT K H9 p (((m[i]).map fun x => x / gf b m.flatten).map V.int) → Fz K H9 (.ref p) (.tup (((dm m (gf b m.flatten)).getD i []).map Td.int)) := fun h => by
        rw [hgd]
        exact .tup h (FzAll.of_ints _)
      refine ⟨t, _, rfl, Same_seqT s8 ht6, fun hw => ?_, fun _ p hp => ?_⟩
      · refine hA _ _ (fun _ _ h => h) (hfz ?_)
        rw [e1, e2] at hw
        rw [← hcut]
        unfold cutV
        rw [e1, e2, hw.2, hw.1, List.drop_zero, Nat.sub_zero, List.take_length]
        exact Same_seqT s8 ht6
      · refine hA _ _ (same_new hp _) (hfz (SqT.of ?_))
        rw [upd_same, hcut]
    · refine ⟨D2, l, rfl, .inl ⟨SqL.of hl7, fun t2 ht2 => ?_⟩⟩
      have sB : Same H6 (upd H7 t2 (.tup l)) := s7.trans (same_new ht2 _)
      refine ⟨_, rfl, a, cF, dx, _, rfl, sB _ _ hs6, O.clF, O.F_entries, (by show 1 < 1000; decide), ?_⟩
      refine ⟨_, rfl, _, rfl, a, cF, dx, _, rfl, upd_same, O.clF, O.F_bottom, (by show 2 < 1000; decide), ?_⟩
      have hfz : FzAll K H7 l ((dm m (gf b m.flatten)).map fun r => .tup (r.map Td.int)) := by
        have e : ((List.range m.length).map fun i => Td.tup (((dm m (gf b m.flatten)).getD i []).map Td.int)) = (dm m (gf b m.flatten)).map fun r => .tup (r.map Td.int) := by
          refine List.ext_getElem? fun i => ?_
          rw [List.getElem?_map, List.getElem?_map]
          have hdl : (dm m (gf b m.flatten)).length = m.length := by unfold dm; rw [List.length_map]
          by_cases hi : i < m.length
          · rw [List.getElem?_range hi, List.getElem?_eq_getElem (by omega : i < (dm m (gf b m.flatten)).length)]
            show some (Td.tup (((dm m (gf b m.flatten)).getD i []).map Td.int)) = _
            rw [List.getD_eq_getElem?_getD, List.getElem?_eq_getElem (by omega : i < (dm m (gf b m.flatten)).length)]
            rfl
          · rw [List.getElem?_eq_none (by rw [List.length_range]; omega), List.getElem?_eq_none (by omega)]
            rfl
        rw [← e]
        exact rs.fz
      have tkB : Tk K H7 (upd (upd (upd H7 t2 (.tup l)) a (.ins cF dx (putF "entries" (.ref t2) (putF "size" (.int (vs.length : Nat)) [])))) a (.ins cF dx (putF "bottom" (.int (b / gf b m.flatten)) (putF "entries" (.ref t2) (putF "size" (.int (vs.length : Nat)) []))))) := fun x ys h => by
        have h1 := Same_seqT (same_new ht2 (.tup l)) h
        have h2 : (upd H7 t2 (.tup l)) a = some (.ins cF dx (putF "size" (.int (vs.length : Nat)) [])) := sB _ _ hs6
        have h3 := tk_ins (K := K) h2 (H' := upd (upd H7 t2 (.tup l)) a (.ins cF dx (putF "entries" (.ref t2) (putF "size" (.int (vs.length : Nat)) [])))) (fun c o hc e => by rw [upd_ne hc]; exact e) _ _ h1
        exact tk_ins (K := K) (upd_same (H := upd H7 t2 (.tup l)) (a := a)) (fun c o hc e => by rw [upd_ne hc]; exact e) _ _ h3
      refine q _ ⟨dx, t2, ?_, .tup ?_ (hfz.tk tkB)⟩ (((b6.then sB).put _).put _)
      · rw [upd_same, hl, flF]
      · have h1 : SqT K (upd H7 t2 (.tup l)) t2 l := SqT.of upd_same
        have h2 : (upd H7 t2 (.tup l)) a = some (.ins cF dx (putF "size" (.int (vs.length : Nat)) [])) := sB _ _ hs6
        have h3 := tk_ins (K := K) h2 (H' := upd (upd H7 t2 (.tup l)) a (.ins cF dx (putF "entries" (.ref t2) (putF "size" (.int (vs.length : Nat)) [])))) (fun c o hc e => by rw [upd_ne hc]; exact e) _ _ h1
        exact tk_ins (K := K) (upd_same (H := upd H7 t2 (.tup l)) (a := a)) (fun c o hc e => by rw [upd_ne hc]; exact e) _ _ h3
end
end P41
namespace P41
open PySem PySem.Spec PyProof.Rows L2 SX EX WK
theorem flR (n e b F : V) : putF "form" F (putF "bottom" b (putF "pairs" e (putF "size" n []))) = ([("size", n), ("pairs", e), ("bottom", b), ("form", F)] : List (Str × V)) := by
  show putF "form" F (putF "bottom" b (putF "pairs" e [("size", n)])) = _
  rw [putF_ne (by decide +kernel)]
  show putF "form" F (putF "bottom" b [("size", n), ("pairs", e)]) = _
  rw [putF_ne (by decide +kernel), putF_ne (by decide +kernel)]
  show putF "form" F [("size", n), ("pairs", e), ("bottom", b)] = _
  rw [putF_ne (by decide +kernel), putF_ne (by decide +kernel), putF_ne (by decide +kernel)]
  rfl
def dp (ps : List RW) (g : Int) : List RW := ps.map fun p => (p.1, p.2 / g)
def ws (ps : List RW) : List Int := ps.map (·.2)
theorem quot_pos {x g : Int} (hg : 0 < g) (hd : g ∣ x) (hx : 1 ≤ x) : 1 ≤ x / g := by
  obtain ⟨k, rfl⟩ := hd
  rw [Int.mul_ediv_cancel_left _ (by omega)]
  rcases Int.lt_or_le k 1 with h | h
  · have : g * k ≤ 0 := Int.mul_nonpos_of_nonneg_of_nonpos (by omega) (by omega)
    omega
  · exact h
theorem prs_dp {n : Nat} {ps : List RW} {b : Int} (h : Prs n ps) (hb : 0 < b) : Prs n (dp ps (gf b (ws ps))) := by
  refine ⟨by unfold dp; rw [List.length_map]; exact h.1, fun p hp => ?_⟩
  obtain ⟨p0, h0, rfl⟩ := List.mem_map.mp hp
  obtain ⟨h1, h2, h3, h4⟩ := h.2 p0 h0
  exact ⟨h1, quot_pos (gf_pos hb _) ((gf_dvd _).2 _ (List.mem_map.mpr ⟨p0, h0, rfl⟩)) h2, B.div (gf_pos hb _) h3, h4⟩
theorem dep_prs {ps : List RW} : (Td.tup (ps.map tdr)).dep ≤ 3 := by
  simp only [Td.dep]
  have : Td.deps (ps.map tdr) ≤ 2 := deps_all fun t h => by
    obtain ⟨p, _, rfl⟩ := List.mem_map.mp h
    simp only [tdr, Td.dep, Td.deps]
    have : Td.deps (p.1.map Td.int) ≤ 0 := deps_all fun t h => by
      obtain ⟨n, _, rfl⟩ := List.mem_map.mp h
      exact Nat.le_refl _
    omega
  omega
theorem sm_prs {ps : List RW} (h : ps.length ≤ 100000) (hr : ∀ p ∈ ps, p.1.length ≤ 100000) : (Td.tup (ps.map tdr)).sm := by
  simp only [Td.sm]
  refine ⟨by rw [List.length_map]; exact h, sms_all fun t h => ?_⟩
  obtain ⟨p, hm, rfl⟩ := List.mem_map.mp h
  show (Td.tup [.tup (p.1.map Td.int), .int p.2]).sm
  simp only [Td.sm, Td.sms]
  have := sm_ints (hr p hm)
  simp only [Td.sm] at this
  exact ⟨by simp, this, trivial, trivial⟩
/-- the form of a row list -/
def fmat (n : Nat) (ps : List RW) (b : Int) : List (List Int) := dm (wmat n ps) (gf b (wmat n ps).flatten)
def fbot (n : Nat) (ps : List RW) (b : Int) : Int := b / gf b (wmat n ps).flatten
theorem wmat_len {n : Nat} {ps : List RW} : (wmat n ps).length = n := by unfold wmat; rw [List.length_map, List.length_range]
theorem wmat_sqr {n : Nat} {ps : List RW} : Sqr (wmat n ps) := fun r hr => by
  rw [wmat_len]
  obtain ⟨i, _, rfl⟩ := List.mem_map.mp hr
  rw [List.length_map, List.length_range]
theorem wmat_ent {n : Nat} {ps : List RW} {i j : Nat} : ent (wmat n ps) i j = if i < n ∧ j < n then wsum ps i j else 0 := by
  unfold ent wmat
  by_cases hi : i < n
  · have e : ((List.range n).map fun i => (List.range n).map fun j => wsum ps i j).getD i [] = (List.range n).map fun j => wsum ps i j := by
      rw [List.getD_eq_getElem?_getD, List.getElem?_map, List.getElem?_range hi]
      rfl
    rw [e]
    by_cases hj : j < n
    · rw [List.getD_eq_getElem?_getD, List.getElem?_map, List.getElem?_range hj, if_pos ⟨hi, hj⟩]
      rfl
    · rw [List.getD_eq_getElem?_getD, List.getElem?_eq_none (by rw [List.length_map, List.length_range]; omega), if_neg (fun h => hj h.2)]
      rfl
  · rw [if_neg (fun h => hi h.1), show ((List.range n).map fun i => (List.range n).map fun j => wsum ps i j).getD i [] = [] from by
      rw [List.getD_eq_getElem?_getD, List.getElem?_eq_none (by rw [List.length_map, List.length_range]; omega)]
      rfl]
    rfl
theorem wmat_sym {n : Nat} {ps : List RW} : Sym (wmat n ps) := fun i j => by
  rw [wmat_ent, wmat_ent, wsum_sym]
  by_cases h : i < n ∧ j < n
  · rw [if_pos h, if_pos ⟨h.2, h.1⟩]
  · rw [if_neg h, if_neg fun g => h ⟨g.2, g.1⟩]
/-- a row list -/
def RowsAt (K : PySem.W.Frag) (H : Hp) (cF cR p : Addr) (n : Nat) (ps : List RW) (b : Int) : Prop := ∃ dx q F, H p = some (.ins cR dx [("size", .int n), ("pairs", .ref q), ("bottom", .int b), ("form", .ref F)]) ∧ Fz K H (.ref q) (.tup (ps.map tdr)) ∧ FormAt K H cF F n (fmat n ps b) (fbot n ps b)
theorem But.tk {K : PySem.W.Frag} {a C dx : Addr} {l : List (Str × V)} {H H' : Hp} (h : H a = some (.ins C dx l)) (e : But a H H') : Tk K H H' := tk_ins h fun b o hb eo => e b o eo hb
theorem But.trans {a : Addr} {H H' H2 : Hp} (s : But a H H') (t : But a H' H2) : But a H H2 := fun c u e h => t c u (s c u e h) h
theorem FormAt.at {K : PySem.W.Frag} {H H' : Hp} {C p : Addr} {n : Nat} {m : List (List Int)} {b : Int} (h : FormAt K H C p n m b) (e : ∀ o, H p = some o → H' p = some o) (t : Tk K H H') : FormAt K H' C p n m b := by
  obtain ⟨dx, q, h1, h2⟩ := h
  exact ⟨dx, q, e _ h1, h2.tk t⟩
theorem RowsAt.at {K : PySem.W.Frag} {H H' : Hp} {cF cR p : Addr} {n : Nat} {ps : List RW} {b : Int} (h : RowsAt K H cF cR p n ps b) (e : Same H H') : RowsAt K H' cF cR p n ps b := by
  obtain ⟨dx, q, F, h1, h2, h3⟩ := h
  exact ⟨dx, q, F, e _ _ h1, h2.tk (WK.Same.tk e), h3.at (fun o => e _ _) (WK.Same.tk e)⟩
/-- a new thing is made and filled -/
theorem made_same {H H' : Hp} {x dx : Addr} {u o : HO} (hx : H x = none) (hd : H dx = none) (e : But x (upd (upd H dx u) x o) H') : Same H H' := fun c v h => by
  have h1 := ne_of_none h hx
  refine e c v ?_ h1
  rw [upd_ne h1, upd_ne (ne_of_none h hd)]
  exact h
theorem new_two {H : Hp} {x dx : Addr} {u o : HO} (hx : H x = none) (hd : H dx = none) : Same H (upd (upd H dx u) x o) := fun c v h => by
  rw [upd_ne (ne_of_none h hx), upd_ne (ne_of_none h hd)]
  exact h
def spRows (K : PySem.W.Frag) (cF cR : Addr) : Sp := fun vs H Q _ => ∃ (a dx : Addr) (v : V) (n : Nat) (ps : List RW) (b : Int), vs = [.ref a, .int n, v, .int b] ∧ H a = some (.ins cR dx []) ∧ Sn K H v (.tup (ps.map tdr)) ∧ Prs n ps ∧ n ≤ 300 ∧ 0 < b ∧ B 9000 b ∧
  ∀ H', RowsAt K H' cF cR a n (dp ps (gf b (ws ps))) (b / gf b (ws ps)) → But a H H' → Q .non H'
section
variable {P : Program} {w : World} {K : PySem.W.Frag} {mg : Str → Option Value} {base : Heap} {f : Addr} {fd : FuncData} {cF cR cW : Addr}
abbrev s_iRowList : Stmt := mth 37 0
abbrev N_iRowList : List Str := ["self", "size", "pairs", "bottom", "passed", "weights", "least_bottom", "pair", "weight"]
theorem sc_iRowList : FnScope N_iRowList ["self", "size", "pairs", "bottom"] (defScope s_iRowList) := ⟨rfl, rfl, rfl, by decide +kernel, rfl, by decide +kernel, by decide +kernel⟩
theorem ok_iRowList {kws : List (Str × V)} (F : FunD K "__init__" "RowList.__init__" (defArgs s_iRowList) (defBody s_iRowList) (defScope s_iRowList) [] kws f fd) (T : Txt mg) (O : Obs K cF cR cW) (C_frozen : Cal P w K mg base 3 "frozen" ["value"] (spFz K 3)) (C_check_pairs : Cal P w K mg base 1 "check_pairs" ["size", "pairs"] (spPairs K))
    (C_lowered : Cal P w K mg base 1 "lowered" ["numbers", "bottom"] spLow) (C_weighted_matrix : Cal P w K mg base 2 "weighted_matrix" ["size", "pairs"] (spWmat K)) (C_Form : CalK P w K mg base 4 "Form" cF 1 ["bottom"] (spForm K cF)) : FnOk P w K mg base CX0 6 f fd ["self", "size", "pairs", "bottom"] (spRows K cF cR) := by
  refine F.ok sc_iRowList (fun vs H Q E h => ?_) (fun cdv A outer s H vs Q E hr h => ?_)
  · obtain ⟨a, dx, v, n, ps, b, rfl, _⟩ := h
    rfl
  obtain ⟨a, dx, v, n, ps, b, rfl, hself, hv, hps, hn, hb, hB, q⟩ := h
  refine ⟨_, (pss_cons (ps_set (i := 4) sc_iRowList.nd rfl (Or.inl rfl) (pe_cal C_frozen (hr.mono (by omega)) rfl (pa_cons (pv 2) pa_nil)))
  (pss_cons (ps_expr (pe_cal C_check_pairs (hr.mono (by omega)) rfl (pa_cons (pv 1) (pa_cons (pv 4) pa_nil))))
  (pss_cons (ps_asg (pe_cal C_lowered (hr.mono (by omega)) rfl (pa_cons (pe_lc (own := [("pair", 7)]) (g := gName 7) (tt := tYes) (by rfl) sc_iRowList.nd (pi_tup (pv 4)) (blkOk_by (N := N_iRowList) (sc := defScope s_iRowList) (by decide +kernel)) (fun _ _ _ _ _ => (pg_name (i := 7) sc_iRowList.nd rfl (Or.inl rfl))) (fun _ _ _ _ _ => pts_nil) (fun _ _ _ _ _ => (pe_ix (ix_tupK (K := K) rfl) (pv 7) pe_int (fun _ _ => rfl)))) (pa_cons (pv 3) pa_nil))) (pg_tup rfl (pgs_cons (pg_name (i := 5) sc_iRowList.nd rfl (Or.inl rfl)) (pgs_cons (pg_name (i := 6) sc_iRowList.nd rfl (Or.inl rfl)) pgs_nil))))
  (pss_cons (ps_fld (pv 0) (pv 1) rfl)
  (pss_cons (ps_fld (pv 0) (pe_callTy call_tuple_of (by rfl) T.b_tuple (by decide +kernel) (pa_cons (pe_lc (own := [("pair", 7), ("weight", 8)]) (tt := tYes) (by rfl) sc_iRowList.nd (RZ.pi_zipA (by rfl) T.b_zip (pa_cons (pv 4) (pa_cons (pv 5) pa_nil))) (blkOk_by (N := N_iRowList) (sc := defScope s_iRowList) (by decide +kernel)) (fun _ _ _ _ _ => (pg_tupK (K := K) (n := 2) rfl rfl (pgs_cons (pg_name (i := 7) sc_iRowList.nd rfl (Or.inl rfl)) (pgs_cons (pg_name (i := 8) sc_iRowList.nd rfl (Or.inl rfl)) pgs_nil)))) (fun _ _ _ _ _ => pts_nil) (fun _ _ _ _ _ => (pe_tup (pa_cons (pe_ix (ix_tupK (K := K) rfl) (pv 7) pe_int (fun _ _ => rfl)) (pa_cons (pv 8) pa_nil))))) pa_nil)) rfl)
  (pss_cons (ps_fld (pv 0) (pv 6) rfl)
  (pss_one (ps_fld (pv 0) (pe_calK C_Form (hr.mono (by omega)) rfl (pa_cons (pe_cal C_weighted_matrix (hr.mono (by omega)) rfl (pa_cons (pv 1) (pa_cons (pe_fld (pv 0) rfl) pa_nil))) pa_nil) (pk_cons (pv 6) pk_nil)) rfl)))))))), ?_⟩
  have hpl := hps.1
  refine ⟨_, rfl, _, _, rfl, hv, dep_prs, sm_prs (by omega) (fun p hp => by rw [(hps.2 p hp).1]; omega), fun v1 H1 s1 hz1 => ?_⟩
  refine ⟨_, rfl, _, rfl, n, _, ps, rfl, hz1, fun p hp => ⟨(hps.2 p hp).1, (hps.2 p hp).2.1⟩, fun H2 s2 => ?_⟩
  have hz2 := hz1.tk (WK.Same.tk s2)
  obtain ⟨e, vs, rfl, he, hl, hrow⟩ := fz_prs hz2
  refine ⟨_, rfl, e, rfl, ⟨_, he⟩, fun D hD => ?_⟩
  refine lc_m (walk_tup (K := K) (a := e) (xs := vs)) RI (stb_RI (K := K)) ps hl (by omega) hD (fun H' s => Same_seqT s he) (fun _ _ _ _ => ys_at) (·.2) (fun k p x H3 H4 hb1 s3 s4 y A B hA => ?_) (fun H3 l s3 hl3 rs => ?_)
  · obtain ⟨q1, r1, hq1, hq2, hq3⟩ := hrow k p hb1
    rw [y.2] at hq1
    cases hq1
    exact ⟨rfl, lc_yes ⟨_, rfl, q1, _, 1, _, rfl, rfl, Same_seqT s4 hq2, at_pos (by decide) rfl, hA _ _ (fun _ _ h => h) rfl⟩⟩
  refine ⟨_, rfl, D, ws ps, b, rfl, by rw [hl3, rs.ints]; rfl, hb, hB, by unfold ws; rw [List.length_map]; omega, fun r t H5 s5 hr5 ht5 => ?_⟩
  have hg := gf_pos hb (ws ps)
  refine ⟨_, _, rfl, SqT.of hr5, rfl, _, _, rfl, _, _, rfl, rfl, ?_⟩
  have sA : Same H H5 := s1.trans (s2.trans (s3.trans s5))
  refine ⟨_, rfl, _, rfl, a, cR, dx, _, rfl, sA _ _ hself, O.clR, O.R_size, (by show 0 < 1000; decide), ?_⟩
  generalize hH6 : upd H5 a _ = H6
  have hs6 : H6 a = some (.ins cR dx (putF "size" (.int n) [])) := by rw [← hH6, upd_same]
  have b6 : But a H H6 := by rw [← hH6]; exact (But.of sA).put _
  have t56 : Tk K H5 H6 := But.tk (sA _ _ hself) (by rw [← hH6]; exact (But.of fun _ _ h => h).put _)
  have ht6 : SqT K H6 t (((ws ps).map fun n => n / gf b (ws ps)).map V.int) := t56 _ _ (SqT.of ht5)
  have tk26 : Tk K H2 H6 := fun x ys h => t56 _ _ (Same_seqT (s3.trans s5) h)
  have he6 : SqT K H6 e vs := tk26 _ _ he
  refine ⟨_, rfl, _, rfl, e, t, vs, _, rfl, .inr ⟨he6, ht6, fun D2 hD2 => ?_⟩⟩
  have hwl : (((ws ps).map fun n => n / gf b (ws ps)).map V.int).length = ps.length := by unfold ws; rw [List.length_map, List.length_map, List.length_map]
  refine lc_m (walk_zT (K := K) (a := e) (b := t) (xs := vs) (ys := ((ws ps).map fun n => n / gf b (ws ps)).map V.int) (n := ps.length) (by rw [hwl, hl]; omega)) (Fz K) stb_Fz ps rfl (by omega) hD2 (fun H' s => ⟨Same_seqT s he6, Same_seqT s ht6⟩) (fun _ _ _ _ => ys_pair) (fun p => tdr (p.1, p.2 / gf b (ws ps))) (fun k p x H7 H8 hb2 s7 s8 y A2 B2 hA => ?_) (fun H7 l s7 hl7 rs2 => ?_)
  · obtain ⟨q1, r1, hq1, hq2, hq3⟩ := hrow k p hb2
    obtain ⟨Tp, x1, x2, rfl, hT, rfl, e1, e2⟩ := y
    rw [show vs[k]? = some x1 from e1] at hq1
    cases hq1
    have e3 : (((ws ps).map fun n => n / gf b (ws ps)).map V.int)[k]? = some (.int (p.2 / gf b (ws ps))) := by
      unfold ws
      rw [List.getElem?_map, List.getElem?_map, List.getElem?_map, hb2]
      rfl
    rw [show (((ws ps).map fun n => n / gf b (ws ps)).map V.int)[k]? = some x2 from e2] at e3
    cases e3
    have tk8 : Tk K H2 (upd H7 Tp (.tup [.ref q1, .int (p.2 / gf b (ws ps))])) := fun x ys h => Same_seqT s8 (tk26 _ _ h)
    refine ⟨_, _, rfl, SqT.of upd_same, rfl, _, _, rfl, _, _, rfl, rfl, rfl, lc_yes ?_⟩
    refine ⟨_, rfl, q1, _, 0, _, rfl, rfl, tk8 _ _ hq2, at_pos (by decide) rfl, _, rfl, two_line, fun z hz => hA _ _ (same_new hz _) ?_⟩
    refine .tup (SqT.of upd_same) (.cons (.tup (Same_seqT (same_new hz _) (tk8 _ _ hq3)) (FzAll.of_ints _)) (.cons (.int _) .nil))
  refine ⟨D2, l, rfl, .inl ⟨SqL.of hl7, fun t2 ht2 => ?_⟩⟩
  have sB : Same H6 (upd H7 t2 (.tup l)) := s7.trans (same_new ht2 _)
  have hps8 : FzAll K H7 l ((dp ps (gf b (ws ps))).map tdr) := by
    have := rs2.fz
    unfold dp
    rw [List.map_map]
    exact this
  have hp8 : Fz K (upd H7 t2 (.tup l)) (.ref t2) (.tup ((dp ps (gf b (ws ps))).map tdr)) := .tup (SqT.of upd_same) (hps8.tk (WK.Same.tk (same_new ht2 _)))
  refine ⟨_, rfl, a, cR, dx, _, rfl, sB _ _ hs6, O.clR, O.R_pairs, (by show 1 < 1000; decide), ?_⟩
  generalize hH9 : upd (upd H7 t2 (.tup l)) a _ = H9
  have b9 : But a (upd H7 t2 (.tup l)) H9 := by rw [← hH9]; exact (But.of fun _ _ h => h).put _
  have hs9 : H9 a = some (.ins cR dx (putF "pairs" (.ref t2) (putF "size" (.int n) []))) := by rw [← hH9, upd_same]
  have hp9 := hp8.tk (But.tk (sB _ _ hs6) b9)
  refine ⟨_, rfl, _, rfl, a, cR, dx, _, rfl, hs9, O.clR, O.R_bottom, (by show 2 < 1000; decide), ?_⟩
  generalize hH10 : upd H9 a _ = H10
  have b10 : But a H9 H10 := by rw [← hH10]; exact (But.of fun _ _ h => h).put _
  have hs10 : H10 a = some (.ins cR dx (putF "bottom" (.int (b / gf b (ws ps))) (putF "pairs" (.ref t2) (putF "size" (.int n) [])))) := by rw [← hH10, upd_same]
  have hp10 := hp9.tk (But.tk hs9 b10)
  have bb : But a H H10 := ((b6.then sB).trans b9).trans b10
  have hlk : (putF "bottom" (.int (b / gf b (ws ps))) (putF "pairs" (.ref t2) (putF "size" (.int n) []))).lookup ("pairs" : Str) = some (.ref t2) := by
    rw [lookup_putF, if_neg (by decide +kernel), lookup_putF, if_pos rfl]
  have hpd := prs_dp hps hb
  refine ⟨_, rfl, _, rfl, a, cR, dx, _, _, rfl, hs10, O.clR, O.R_pairs, hlk, _, n, _, rfl, hp10, hpd, by omega, fun r2 H11 s11 hsn => ?_⟩
  refine ⟨_, rfl, rfl, rfl, fun x dx2 hx hdx hne => ?_⟩
  have hb2 : 0 < b / gf b (ws ps) := quot_pos hg (gf_dvd _).1 (by omega)
  refine ⟨x, dx2, _, wmat n (dp ps (gf b (ws ps))), b / gf b (ws ps), rfl, upd_same, hsn.same (new_two hx hdx), wmat_sqr, wmat_sym, by rw [wmat_len]; exact hn, hb2, B.div hg hB, fun H12 hF hbut => ⟨rfl, ?_⟩⟩
  have s12 : Same H11 H12 := made_same hx hdx hbut
  have s1012 := s11.trans s12
  refine ⟨_, rfl, a, cR, dx, _, rfl, s1012 _ _ hs10, O.clR, O.R_form, (by show 3 < 1000; decide), ?_⟩
  have b13 : But a H12 (upd H12 a (.ins cR dx (putF "form" (.ref x) (putF "bottom" (.int (b / gf b (ws ps))) (putF "pairs" (.ref t2) (putF "size" (.int n) [])))))) := (But.of fun _ _ h => h).put _
  have t13 := But.tk (K := K) (s1012 _ _ hs10) b13
  have hxa : x ≠ a := fun z => by rw [z, s11 _ _ hs10] at hx; cases hx
  rw [wmat_len] at hF
  refine q _ ⟨dx, t2, x, by rw [upd_same, flR], (hp10.tk (WK.Same.tk s1012)).tk t13, hF.at (fun o e => b13 _ _ e hxa) t13⟩ ((bb.then s1012).trans b13)
end
end P41
namespace P41
open PySem PySem.Spec PyProof.Rows L2 SX EX WK
theorem flW (n e b R F : V) : putF "form" F (putF "rows" R (putF "bottom" b (putF "ties" e (putF "places" n [])))) = ([("places", n), ("ties", e), ("bottom", b), ("rows", R), ("form", F)] : List (Str × V)) := by
  show putF "form" F (putF "rows" R (putF "bottom" b (putF "ties" e [("places", n)]))) = _
  rw [putF_ne (by decide +kernel)]
  show putF "form" F (putF "rows" R (putF "bottom" b [("places", n), ("ties", e)])) = _
  rw [putF_ne (by decide +kernel), putF_ne (by decide +kernel)]
  show putF "form" F (putF "rows" R [("places", n), ("ties", e), ("bottom", b)]) = _
  rw [putF_ne (by decide +kernel), putF_ne (by decide +kernel), putF_ne (by decide +kernel)]
  show putF "form" F [("places", n), ("ties", e), ("bottom", b), ("rows", R)] = _
  rw [putF_ne (by decide +kernel), putF_ne (by decide +kernel), putF_ne (by decide +kernel), putF_ne (by decide +kernel)]
  rfl
def psOf (pl : Nat) (ts : List T3) : List RW := ts.map fun t => (trow pl t, t.2.2)
theorem b2_le (p : Bool) : 0 ≤ b2 p ∧ b2 p ≤ 1 := by cases p <;> decide
theorem prs_of {pl : Nat} {ts : List T3} (hl : ts.length ≤ 1000) (h : ∀ t ∈ ts, 1 ≤ t.2.2 ∧ B 400 t.2.2) : Prs pl (psOf pl ts) := by
  refine ⟨by unfold psOf; rw [List.length_map]; exact hl, fun p hp => ?_⟩
  obtain ⟨t, ht, rfl⟩ := List.mem_map.mp hp
  refine ⟨by show (trow pl t).length = pl; unfold trow; rw [List.length_map, List.length_range]; exact Int.toNat_natCast pl, (h t ht).1, (h t ht).2, fun x hx => ?_⟩
  obtain ⟨k, _, rfl⟩ := List.mem_map.mp hx
  have h1 := b2_le (decide (V.int (0 + (k : Int)) = V.int t.1))
  have h2 := b2_le (decide (V.int (0 + (k : Int)) = V.int t.2.1))
  have h3 : (2 : Nat) ≤ 2 ^ 100 := by decide
  show Int.natAbs _ < 2 ^ 100
  omega
theorem td3_dep {t : T3} : (td3 t).dep ≤ 1 := by simp [td3, Td.dep, Td.deps]
theorem td3_sm {t : T3} : (td3 t).sm := by simp [td3, Td.sm, Td.sms]
theorem dep_tds {ts : List T3} : (Td.tup (ts.map td3)).dep ≤ 3 := by
  simp only [Td.dep]
  have : Td.deps (ts.map td3) ≤ 1 := deps_all fun t h => by
    obtain ⟨p, _, rfl⟩ := List.mem_map.mp h
    exact td3_dep
  omega
theorem sm_tds {ts : List T3} (h : ts.length ≤ 100000) : (Td.tup (ts.map td3)).sm := by
  simp only [Td.sm]
  refine ⟨by rw [List.length_map]; exact h, sms_all fun t h => ?_⟩
  obtain ⟨p, hm, rfl⟩ := List.mem_map.mp h
  exact td3_sm
/-- the pairs and the bottom of the row list of a web -/
def wps (pl : Nat) (ts : List T3) (b : Int) : List RW := dp (psOf pl (wt ts b)) (gf (wb ts b) (ws (psOf pl (wt ts b))))
def wpb (pl : Nat) (ts : List T3) (b : Int) : Int := wb ts b / gf (wb ts b) (ws (psOf pl (wt ts b)))
/-- a web of these ties over this bottom -/
def WebAt (K : PySem.W.Frag) (H : Hp) (cF cR cW p : Addr) (pl : Nat) (ts : List T3) (b : Int) : Prop := ∃ dx t R F, H p = some (.ins cW dx [("places", .int pl), ("ties", .ref t), ("bottom", .int (wb ts b)), ("rows", .ref R), ("form", .ref F)]) ∧ Fz K H (.ref t) (.tup ((wt ts b).map td3)) ∧
  RowsAt K H cF cR R pl (wps pl ts b) (wpb pl ts b) ∧ FormAt K H cF F pl (fmat pl (wps pl ts b) (wpb pl ts b)) (fbot pl (wps pl ts b) (wpb pl ts b))
theorem WebAt.same {K : PySem.W.Frag} {H H' : Hp} {cF cR cW p : Addr} {pl : Nat} {ts : List T3} {b : Int} (h : WebAt K H cF cR cW p pl ts b) (e : Same H H') : WebAt K H' cF cR cW p pl ts b := by
  obtain ⟨dx, t, R, F, h1, h2, h3, h4⟩ := h
  exact ⟨dx, t, R, F, e _ _ h1, h2.tk (WK.Same.tk e), h3.at e, h4.at (fun o => e _ _) (WK.Same.tk e)⟩
def spWeb (K : PySem.W.Frag) (cF cR cW : Addr) : Sp := fun vs H Q _ => ∃ (a dx : Addr) (v : V) (pl : Nat) (ts : List T3) (b : Int), vs = [.ref a, .int pl, v, .int b] ∧ H a = some (.ins cW dx []) ∧ Sn K H v (.tup (ts.map td3)) ∧ (∀ t ∈ ts, OkT pl t) ∧ ts.length ≤ 1000 ∧ pl ≤ 300 ∧ 0 < b ∧ B 9000 b ∧
  ∀ H', WebAt K H' cF cR cW a pl ts b → But a H H' → Q .non H'
theorem wt_ok {pl : Int} {ts : List T3} {b : Int} (hb : 0 < b) (h : ∀ t ∈ ts, OkT pl t) : ∀ t ∈ wt ts b, 1 ≤ t.2.2 ∧ B 400 t.2.2 := fun t ht => by
  obtain ⟨t0, h0, rfl⟩ := List.mem_map.mp ht
  have hg : 0 < wg ts b := gf_pos hb _
  exact ⟨quot_pos hg ((gf_dvd _).2 _ (List.mem_map.mpr ⟨t0, h0, rfl⟩)) (h t0 h0).s1, B.div hg (h t0 h0).s2⟩
section
variable {P : Program} {w : World} {K : PySem.W.Frag} {mg : Str → Option Value} {base : Heap} {f : Addr} {fd : FuncData} {cF cR cW : Addr}
abbrev s_iWeb : Stmt := mth 41 0
abbrev N_iWeb : List Str := ["self", "places", "ties", "bottom", "passed", "kept", "strengths", "least_bottom", "index", "tie"]
theorem sc_iWeb : FnScope N_iWeb ["self", "places", "ties", "bottom"] (defScope s_iWeb) := ⟨rfl, rfl, rfl, by decide +kernel, rfl, by decide +kernel, by decide +kernel⟩
theorem ok_iWeb {kws : List (Str × V)} (F : FunD K "__init__" "Web.__init__" (defArgs s_iWeb) (defBody s_iWeb) (defScope s_iWeb) [] kws f fd) (T : Txt mg) (O : Obs K cF cR cW) (C_frozen : Cal P w K mg base 3 "frozen" ["value"] (spFz K 3)) (C_sorted_tie : Cal P w K mg base 1 "sorted_tie" ["places", "index", "tie"] (spSort K))
    (C_tie_row : Cal P w K mg base 1 "tie_row" ["places", "tie"] (spRow K)) (C_lowered : Cal P w K mg base 1 "lowered" ["numbers", "bottom"] spLow) (C_RowList : CalK P w K mg base 6 "RowList" cR 2 ["bottom"] (spRows K cF cR)) : FnOk P w K mg base CX0 8 f fd ["self", "places", "ties", "bottom"] (spWeb K cF cR cW) := by
  refine F.ok sc_iWeb (fun vs H Q E h => ?_) (fun cdv A outer s H vs Q E hr h => ?_)
  · obtain ⟨a, dx, v, pl, ts, b, rfl, _⟩ := h
    rfl
  obtain ⟨a, dx, v, pl, ts, b, rfl, hself, hv, hok, htl, hpl, hb, hB, q⟩ := h
  refine ⟨_, (pss_cons (ps_setLc (i := 4) (own := [("index", 8), ("tie", 9)]) (tt := tYes) (by rfl) sc_iWeb.nd rfl rfl (sw_true rfl rfl rfl (by decide +kernel)) (WE.pi_enT (by rfl) T.b_enumerate (pa_cons (pe_cal C_frozen (hr.mono (by omega)) rfl (pa_cons (pv 2) pa_nil)) pa_nil)) (blkOk_by (N := N_iWeb) (sc := defScope s_iWeb) (by decide +kernel)) (fun _ _ _ _ _ => (pg_tupK (K := K) (n := 2) rfl rfl (pgs_cons (pg_name (i := 8) sc_iWeb.nd rfl (Or.inl rfl)) (pgs_cons (pg_name (i := 9) sc_iWeb.nd rfl (Or.inl rfl)) pgs_nil)))) (fun _ _ _ _ _ => pts_nil) (fun _ _ _ _ _ => (pe_cal C_sorted_tie (hr.mono (by omega)) rfl (pa_cons (pv 1) (pa_cons (pv 8) (pa_cons (pv 9) pa_nil))))))
  (pss_cons (ps_asg (pe_cal C_lowered (hr.mono (by omega)) rfl (pa_cons (pe_lc (own := [("tie", 9)]) (g := gName 9) (tt := tYes) (by rfl) sc_iWeb.nd (pi_list (pv 4)) (blkOk_by (N := N_iWeb) (sc := defScope s_iWeb) (by decide +kernel)) (fun _ _ _ _ _ => (pg_name (i := 9) sc_iWeb.nd rfl (Or.inl rfl))) (fun _ _ _ _ _ => pts_nil) (fun _ _ _ _ _ => (pe_ix (ix_tupK (K := K) rfl) (pv 9) pe_int (fun _ _ => rfl)))) (pa_cons (pv 3) pa_nil))) (pg_tup rfl (pgs_cons (pg_name (i := 6) sc_iWeb.nd rfl (Or.inr rfl)) (pgs_cons (pg_name (i := 7) sc_iWeb.nd rfl (Or.inl rfl)) pgs_nil))))
  (pss_cons (ps_setLc (i := 5) (own := [("index", 8), ("tie", 9)]) (tt := tYes) (by rfl) sc_iWeb.nd rfl rfl (sw_true rfl rfl rfl (by decide +kernel)) (pi_enum (by rfl) T.b_enumerate (pa_cons (pv 4) pa_nil)) (blkOk_by (N := N_iWeb) (sc := defScope s_iWeb) (by decide +kernel)) (fun _ _ _ _ _ => (pg_tupK (K := K) (n := 2) rfl rfl (pgs_cons (pg_name (i := 8) sc_iWeb.nd rfl (Or.inl rfl)) (pgs_cons (pg_name (i := 9) sc_iWeb.nd rfl (Or.inl rfl)) pgs_nil)))) (fun _ _ _ _ _ => pts_nil) (fun _ _ _ _ _ => (pe_tup (pa_cons (pe_ix (ix_tupK (K := K) rfl) (pv 9) pe_int (fun _ _ => rfl)) (pa_cons (pe_ix (ix_tupK (K := K) rfl) (pv 9) pe_int (fun _ _ => rfl)) (pa_cons (pe_ix (ix_tupK (K := K) rfl) (pv 6) (pv 8) (fun _ _ => rfl)) pa_nil))))))
  (pss_cons (ps_fld (pv 0) (pv 1) rfl)
  (pss_cons (ps_fld (pv 0) (pe_callTy call_tuple_of (by rfl) T.b_tuple (by decide +kernel) (pa_cons (pv 5) pa_nil)) rfl)
  (pss_cons (ps_fld (pv 0) (pv 7) rfl)
  (pss_cons (ps_fld (pv 0) (pe_calK C_RowList (hr.mono (by omega)) rfl (pa_cons (pv 1) (pa_cons (pe_lc (own := [("tie", 9)]) (g := gName 9) (tt := tYes) (by rfl) sc_iWeb.nd (pi_list (pv 5)) (blkOk_by (N := N_iWeb) (sc := defScope s_iWeb) (by decide +kernel)) (fun _ _ _ _ _ => (pg_name (i := 9) sc_iWeb.nd rfl (Or.inl rfl))) (fun _ _ _ _ _ => pts_nil) (fun _ _ _ _ _ => (pe_tup (pa_cons (pe_cal C_tie_row (hr.mono (by omega)) rfl (pa_cons (pv 1) (pa_cons (pv 9) pa_nil))) (pa_cons (pe_ix (ix_tupK (K := K) rfl) (pv 9) pe_int (fun _ _ => rfl)) pa_nil))))) pa_nil)) (pk_cons (pv 7) pk_nil)) rfl)
  (pss_one (ps_fld (pv 0) (pe_fld (pe_fld (pv 0) rfl) rfl) rfl))))))))), ?_⟩
  refine ⟨_, rfl, v, _, rfl, hv, dep_tds, sm_tds (by omega), fun v1 H1 s1 hz1 => ?_⟩
  cases hz1 with
  | @tup e vs _ he hall =>
  have hl : vs.length = ts.length := by rw [hall.len, List.length_map]
  refine ⟨e, vs, rfl, he, fun D hD => ?_⟩
  refine lc_m (WE.walk_enT (K := K) (a := e) (xs := vs)) (Fz K) stb_Fz ts hl (by omega) hD (fun H' s => Same_seqT s he) (fun _ _ _ _ => ys_pair) (fun t => td3 (imin t.1 t.2.1, imax t.1 t.2.1, t.2.2)) (fun k t x H3 H4 hb1 s3 s4 y A B hA => ?_) (fun H3 l s3 hl3 rs => ?_)
  · obtain ⟨Tp, x1, x2, rfl, hT, rfl, e1, e2⟩ := y
    cases e1
    obtain ⟨t2, ht2, hz⟩ := hall.get e2
    rw [List.getElem?_map, hb1] at ht2
    cases ht2
    refine ⟨_, _, rfl, SqT.of upd_same, rfl, _, _, rfl, _, _, rfl, rfl, rfl, lc_yes ?_⟩
    exact ⟨_, rfl, _, rfl, _, rfl, x2, _, pl, t, rfl, hz.tk (WK.Same.tk s4), hok t (List.mem_of_getElem? hb1), fun r H' s hr => hA _ _ s (.tup (SqT.of hr) (.cons (.int _) (.cons (.int _) (.cons (.int _) .nil))))⟩
  have hll : l.length = ts.length := by rw [rs.1, List.length_map]
  have tie : ∀ {k : Nat} {x : V} {t : T3}, l[k]? = some x → ts[k]? = some t → ∃ p, x = .ref p ∧ SqT K H3 p [.int (imin t.1 t.2.1), .int (imax t.1 t.2.1), .int t.2.2] := fun {k x t} hx ht => fz_tie (rs.2 k x _ hx (by rw [List.getElem?_map, ht]; rfl))
  -- the strengths
  refine ⟨_, rfl, D, rfl, ⟨_, SqL.of hl3⟩, fun D2 hD2 => ?_⟩
  refine lc_m (walk_list (K := K) (a := D) (xs := l)) RI (stb_RI (K := K)) ts hll (by omega) hD2 (fun H' s => s.seq (SqL.of hl3)) (fun _ _ _ _ => ys_at) (·.2.2) (fun k t x H5 H6 hb1 s5 s6 y A B hA => ?_) (fun H5 l2 s5 hl5 rs2 => ?_)
  · obtain ⟨p, rfl, hp⟩ := tie y.2 hb1
    exact ⟨rfl, lc_yes ⟨_, rfl, p, _, 2, _, rfl, rfl, Same_seqT s6 hp, at_pos (by decide) rfl, hA _ _ (fun _ _ h => h) rfl⟩⟩
  refine ⟨_, rfl, D2, ts.map (·.2.2), b, rfl, by rw [hl5, rs2.ints], hb, hB, by rw [List.length_map]; omega, fun r t H6 s6 hr6 ht6 => ?_⟩
  have hg : 0 < wg ts b := gf_pos hb _
  refine ⟨_, _, rfl, SqT.of hr6, rfl, _, _, rfl, _, _, rfl, rfl, ?_⟩
  -- kept
  have s36 := s5.trans s6
  have hl6 : H6 D = some (.lst l) := s36 _ _ hl3
  refine ⟨_, rfl, D, l, rfl, SqL.of hl6, fun D3 hD3 => ?_⟩
  refine lc_m (walk_enum (K := K) (a := D) (xs := l)) (Fz K) stb_Fz ts hll (by omega) hD3 (fun H' s => s.seq (SqL.of hl6)) (fun _ _ _ _ => ys_pair) (fun t => td3 (imin t.1 t.2.1, imax t.1 t.2.1, t.2.2 / wg ts b)) (fun k t1 x H7 H8 hb1 s7 s8 y A B hA => ?_) (fun H7 l3 s7 hl7 rs3 => ?_)
  · obtain ⟨Tp, x1, x2, rfl, hT, rfl, e1, e2⟩ := y
    cases e1
    obtain ⟨p, rfl, hp⟩ := tie e2 hb1
    have hp8 := Same_seqT (s36.trans s8) hp
    refine ⟨_, _, rfl, SqT.of upd_same, rfl, _, _, rfl, _, _, rfl, rfl, rfl, lc_yes ?_⟩
    refine ⟨_, rfl, p, _, 0, _, rfl, rfl, hp8, at_pos (by decide) rfl, _, rfl, p, _, 1, _, rfl, rfl, hp8, at_pos (by decide) rfl, _, rfl, _, rfl, t, _, _, _, rfl, rfl, SqT.of (s8 _ _ ht6), at_pos (by omega) (v := .int (t1.2.2 / wg ts b)) ?_, three_line, fun z hz => hA _ _ (same_new hz _) (.tup (SqT.of upd_same) (.cons (.int _) (.cons (.int _) (.cons (.int _) .nil))))⟩
    rw [Int.toNat_natCast, List.getElem?_map, List.getElem?_map, List.getElem?_map, hb1]
    rfl
  -- self.places, self.ties, self.bottom
  have sA : Same H H7 := s1.trans (s3.trans (s36.trans s7))
  refine ⟨_, rfl, _, rfl, a, cW, dx, _, rfl, sA _ _ hself, O.clW, O.W_places, (by show 0 < 1000; decide), ?_⟩
  generalize hH8 : upd H7 a _ = H8
  have b8 : But a H7 H8 := by rw [← hH8]; exact (But.of fun _ _ h => h).put _
  have hs8 : H8 a = some (.ins cW dx (putF "places" (.int pl) [])) := by rw [← hH8, upd_same]
  have hne3 : D3 ≠ a := ne_of hl7 (sA _ _ hself) (by intro z; cases z)
  have hl8 : H8 D3 = some (.lst l3) := b8 _ _ hl7 hne3
  refine ⟨_, rfl, D3, l3, rfl, .inl ⟨SqL.of hl8, fun t4 ht4 => ?_⟩⟩
  have s9 := same_new ht4 (.tup l3)
  have fz3 : FzAll K H7 l3 ((wt ts b).map td3) := by
    have := rs3.fz
    unfold wt
    rw [List.map_map]
    exact this
  have tk79 : Tk K H7 (upd H8 t4 (.tup l3)) := fun x ys h => Same_seqT s9 (But.tk (sA _ _ hself) b8 _ _ h)
  have hti : Fz K (upd H8 t4 (.tup l3)) (.ref t4) (.tup ((wt ts b).map td3)) := .tup (SqT.of upd_same) (fz3.tk tk79)
  refine ⟨_, rfl, a, cW, dx, _, rfl, s9 _ _ hs8, O.clW, O.W_ties, (by show 1 < 1000; decide), ?_⟩
  generalize hH10 : upd (upd H8 t4 (.tup l3)) a _ = H10
  have b10 : But a (upd H8 t4 (.tup l3)) H10 := by rw [← hH10]; exact (But.of fun _ _ h => h).put _
  have hs10 : H10 a = some (.ins cW dx (putF "ties" (.ref t4) (putF "places" (.int pl) []))) := by rw [← hH10, upd_same]
  have hti10 := hti.tk (But.tk (s9 _ _ hs8) b10)
  refine ⟨_, rfl, _, rfl, a, cW, dx, _, rfl, hs10, O.clW, O.W_bottom, (by show 2 < 1000; decide), ?_⟩
  generalize hH11 : upd H10 a _ = H11
  have b11 : But a H10 H11 := by rw [← hH11]; exact (But.of fun _ _ h => h).put _
  have hs11 : H11 a = some (.ins cW dx (putF "bottom" (.int (wb ts b)) (putF "ties" (.ref t4) (putF "places" (.int pl) [])))) := by rw [← hH11, upd_same]; rfl
  have hti11 := hti10.tk (But.tk hs10 b11)
  have fz11 : FzAll K H11 l3 ((wt ts b).map td3) := (fz3.tk tk79).tk fun x ys h => But.tk hs10 b11 _ _ (But.tk (s9 _ _ hs8) b10 _ _ h)
  have hl11 : H11 D3 = some (.lst l3) := b11 _ _ (b10 _ _ (s9 _ _ hl8) hne3) hne3
  have bb : But a H H11 := (((But.of sA).trans b8).then s9).trans b10 |>.trans b11
  -- self.rows
  refine ⟨_, rfl, _, rfl, D3, rfl, ⟨_, SqL.of hl11⟩, fun D4 hD4 => ?_⟩
  have hl3l : l3.length = (wt ts b).length := by rw [fz11.len, List.length_map]
  have hwl : (wt ts b).length ≤ 1000 := by unfold wt; rw [List.length_map]; exact htl
  refine lc_m (walk_list (K := K) (a := D3) (xs := l3)) (Fz K) stb_Fz (wt ts b) hl3l (by omega) hD4 (fun H' s => s.seq (SqL.of hl11)) (fun _ _ _ _ => ys_at) (fun t => tdr (trow pl t, t.2.2)) (fun k t1 x H12 H13 hb1 s12 s13 y A B hA => ?_) (fun H12 l4 s12 hl12 rs4 => ?_)
  · obtain ⟨t2, ht2, hz⟩ := fz11.get y.2
    rw [List.getElem?_map, hb1] at ht2
    cases ht2
    refine ⟨rfl, lc_yes ⟨_, rfl, _, rfl, x, pl, t1, rfl, hz.tk (WK.Same.tk s13), by omega, by omega, fun r5 H14 s14 hr14 => ?_⟩⟩
    obtain ⟨p, rfl, hp⟩ := fz_tie (hz.tk (WK.Same.tk (s13.trans s14)))
    exact ⟨_, rfl, p, _, 2, _, rfl, rfl, hp, at_pos (by decide) rfl, two_line, fun z hz2 => hA _ _ (s14.trans (same_new hz2 _)) (.tup (SqT.of upd_same) (.cons (.tup (SqT.of (same_new hz2 _ _ _ hr14)) (FzAll.of_ints _)) (.cons (.int _) .nil)))⟩
  refine ⟨_, rfl, rfl, rfl, fun x dx2 hx hdx hne => ?_⟩
  have hb2 : 0 < wb ts b := quot_pos hg (gf_dvd _).1 (by omega)
  have hpr : Prs pl (psOf pl (wt ts b)) := prs_of hwl (wt_ok hb hok)
  have hsn : Sn K H12 (.ref D4) (.tup ((psOf pl (wt ts b)).map tdr)) := by
    refine .lst hl12 ?_
    have := rs4.fz.sn
    unfold psOf
    rw [List.map_map]
    exact this
  refine ⟨x, dx2, _, pl, psOf pl (wt ts b), wb ts b, rfl, upd_same, hsn.same (new_two hx hdx), hpr, hpl, hb2, B.div hg hB, fun H13 hR hbut => ⟨rfl, ?_⟩⟩
  have s13 : Same H12 H13 := made_same hx hdx hbut
  have s1113 := s12.trans s13
  have hs13 := s1113 _ _ hs11
  have hxa : x ≠ a := fun z => by rw [z, s12 _ _ hs11] at hx; cases hx
  refine ⟨_, rfl, a, cW, dx, _, rfl, hs13, O.clW, O.W_rows, (by show 3 < 1000; decide), ?_⟩
  generalize hH14 : upd H13 a _ = H14
  have b14 : But a H13 H14 := by rw [← hH14]; exact (But.of fun _ _ h => h).put _
  have hs14 : H14 a = some (.ins cW dx (putF "rows" (.ref x) (putF "bottom" (.int (wb ts b)) (putF "ties" (.ref t4) (putF "places" (.int pl) []))))) := by rw [← hH14, upd_same]
  have t1314 := But.tk (K := K) hs13 b14
  obtain ⟨dx3, qq, Fo, hr1, hr2, hr3⟩ := hR
  have hFa : Fo ≠ a := fun z => by
    obtain ⟨dx4, e4, h4, _⟩ := hr3
    rw [z, hs13] at h4
    simp only [Option.some.injEq, HO.ins.injEq] at h4
    have := congrArg List.length h4.2.2
    rw [show (putF "bottom" (.int (wb ts b)) (putF "ties" (.ref t4) (putF "places" (.int pl) []))) = ([("places", .int pl), ("ties", .ref t4), ("bottom", .int (wb ts b))] : List (Str × V)) from by
      show putF "bottom" _ (putF "ties" _ [("places", V.int pl)]) = _
      rw [putF_ne (by decide +kernel)]
      show putF "bottom" _ [("places", V.int pl), ("ties", V.ref t4)] = _
      rw [putF_ne (by decide +kernel), putF_ne (by decide +kernel)]
      rfl] at h4
    have h5 := (List.cons.inj h4.2.2).1
    have h6 : (("places" : Str)) = "size" := congrArg Prod.fst h5
    exact absurd h6 (by decide +kernel)
  have hx14 : H14 x = some (.ins cR dx3 [("size", .int pl), ("pairs", .ref qq), ("bottom", .int (wpb pl ts b)), ("form", .ref Fo)]) := b14 _ _ hr1 hxa
  have hlk1 : (putF "rows" (.ref x) (putF "bottom" (.int (wb ts b)) (putF "ties" (.ref t4) (putF "places" (.int pl) [])))).lookup ("rows" : Str) = some (.ref x) := by rw [lookup_putF, if_pos rfl]
  have hlk2 : ([("size", .int pl), ("pairs", .ref qq), ("bottom", .int (wpb pl ts b)), ("form", .ref Fo)] : List (Str × V)).lookup ("form" : Str) = some (.ref Fo) := by
    rw [lk_skip (by decide +kernel), lk_skip (by decide +kernel), lk_skip (by decide +kernel), lk_hit]
  refine ⟨_, rfl, a, cW, dx, _, _, rfl, hs14, O.clW, O.W_rows, hlk1, x, cR, dx3, _, _, rfl, hx14, O.clR, O.R_form, hlk2, _, rfl, a, cW, dx, _, rfl, hs14, O.clW, O.W_form, (by show 4 < 1000; decide), ?_⟩
  have b15 : But a H14 (upd H14 a (.ins cW dx (putF "form" (.ref Fo) (putF "rows" (.ref x) (putF "bottom" (.int (wb ts b)) (putF "ties" (.ref t4) (putF "places" (.int pl) []))))))) := (But.of fun _ _ h => h).put _
  have t15 := But.tk (K := K) hs14 b15
  have tk : Tk K H13 _ := fun y ys h => t15 y ys (t1314 y ys h)
  have hFo := FormAt.at hr3 (fun o e => b15 _ _ (b14 _ _ e hFa) hFa) tk
  refine q _ ⟨dx, t4, x, Fo, by rw [upd_same, flW], (hti11.tk (WK.Same.tk s1113)).tk tk, ⟨dx3, qq, Fo, b15 _ _ hx14 hxa, hr2.tk tk, hFo⟩, hFo⟩ (((bb.then s1113).trans b14).trans b15)
end
end P41
namespace P41
open PySem PySem.Spec PyProof.Rows L2 SX EX WK
/-- one end in each lot -/
def jn (i j : Int) (ns ms : List Int) : Bool := (decide (i ∈ ns) && decide (j ∈ ms)) || (decide (i ∈ ms) && decide (j ∈ ns))
def shr (ns ms : List Int) : List Int := ns.filter fun x => decide (x ∈ ms)
/-- the sum of the strengths between two lots -/
def sumB (ts : List T3) (ns ms : List Int) : Int := ((ts.filter fun t => jn t.1 t.2.1 ns ms).map (·.2.2)).sum
theorem filterMap_if {α β : Type} (p : α → Bool) (f : α → β) (xs : List α) : xs.filterMap (fun x => if p x = true then some (f x) else none) = (xs.filter p).map f := by
  induction xs with
  | nil => rfl
  | cons x xs ih =>
    rw [List.filterMap_cons, List.filter_cons]
    cases h : p x with
    | true => simp [ih]
    | false => simp [ih]
section
variable {P : Program} {w : World} {K : PySem.W.Frag} {mg : Str → Option Value} {base : Heap} {f : Addr} {fd : FuncData} {cF cR cW : Addr}
def spJoins (K : PySem.W.Frag) : Sp := fun vs H Q _ => ∃ (p a b : Addr) (t : T3) (ns ms : List Int), vs = [.ref p, .ref a, .ref b] ∧ SqT K H p [.int t.1, .int t.2.1, .int t.2.2] ∧ SqT K H a (ns.map V.int) ∧ SqT K H b (ms.map V.int) ∧ Q (.bl (jn t.1 t.2.1 ns ms)) H
abbrev s_joins : Stmt := top 43
abbrev N_joins : List Str := ["tie", "one", "two"]
theorem sc_joins : FnScope N_joins ["tie", "one", "two"] (defScope s_joins) := ⟨rfl, rfl, rfl, by decide +kernel, rfl, by decide +kernel, by decide +kernel⟩
theorem ok_joins (F : Fun K "joins" "joins" s_joins f fd) (T : Txt mg) : FnOk P w K mg base CX0 1 f fd ["tie", "one", "two"] (spJoins K) := by
  refine F.ok sc_joins (fun vs H Q E h => ?_) (fun cdv A outer s H vs Q E hr h => ?_)
  · obtain ⟨p, a, b, t, ns, ms, rfl, _⟩ := h
    rfl
  obtain ⟨p, a, b, t, ns, ms, rfl, hp, ha, hb, q⟩ := h
  refine ⟨_, (pss_one (ps_ret (pe_or (pe_and (pe_cmpR op_in_seq (pe_ix ix_tup (pv 0) pe_int (fun _ _ => rfl)) (pv 1) (by rfl)) (pe_one (pe_cmpR op_in_seq (pe_ix ix_tup (pv 0) pe_int (fun _ _ => rfl)) (pv 2) (by rfl)))) (pe_one (pe_and (pe_cmpR op_in_seq (pe_ix ix_tup (pv 0) pe_int (fun _ _ => rfl)) (pv 2) (by rfl)) (pe_one (pe_cmpR op_in_seq (pe_ix ix_tup (pv 0) pe_int (fun _ _ => rfl)) (pv 1) (by rfl)))))))), ?_⟩
  have hin : ∀ (x : Int) (l : List Int), (if false = true then !inV (.int x) (l.map V.int) else inV (.int x) (l.map V.int)) = decide (x ∈ l) := fun x l => by rw [if_neg Bool.false_ne_true, inV_ints]
  unfold jn at q
  refine ⟨_, rfl, p, _, 0, _, rfl, rfl, hp, at_pos (by decide) rfl, _, rfl, a, _, rfl, .inr ha, rfl, flat_ints ns, _, rfl, ?_⟩
  rw [hin]
  have tail : ∀ c, (decide (t.1 ∈ ns) && decide (t.2.1 ∈ ms)) = c → c = false → ∃ c, V.bl (decide (t.1 ∈ ms) && decide (t.2.1 ∈ ns)) = .bl c ∧ Q (.bl c) H := fun c h0 h1 => ⟨_, rfl, by rw [h0, h1, Bool.false_or] at q; exact q⟩
  cases e1 : decide (t.1 ∈ ns) with
  | true =>
    refine ifT rfl ⟨_, rfl, p, _, 1, _, rfl, rfl, hp, at_pos (by decide) rfl, _, rfl, b, _, rfl, .inr hb, rfl, flat_ints ms, _, rfl, ?_⟩
    rw [hin]
    cases e2 : decide (t.2.1 ∈ ms) with
    | true =>
      rw [e1, e2] at q
      exact ifT rfl q
    | false =>
      rw [e1, e2] at q
      refine ifF rfl ⟨_, rfl, p, _, 0, _, rfl, rfl, hp, at_pos (by decide) rfl, _, rfl, b, _, rfl, .inr hb, rfl, flat_ints ms, _, rfl, ?_⟩
      rw [hin]
      cases e3 : decide (t.1 ∈ ms) with
      | false => rw [e3] at q; exact ifF rfl q
      | true =>
        refine ifT rfl ⟨_, rfl, p, _, 1, _, rfl, rfl, hp, at_pos (by decide) rfl, _, rfl, a, _, rfl, .inr ha, rfl, flat_ints ns, ?_⟩
        rw [hin]
        rw [e3] at q
        exact q
  | false =>
    rw [e1] at q
    refine ifF rfl ⟨_, rfl, ifF rfl ⟨_, rfl, p, _, 0, _, rfl, rfl, hp, at_pos (by decide) rfl, _, rfl, b, _, rfl, .inr hb, rfl, flat_ints ms, _, rfl, ?_⟩⟩
    rw [hin]
    cases e3 : decide (t.1 ∈ ms) with
    | false => rw [e3] at q; exact ifF rfl q
    | true =>
      refine ifT rfl ⟨_, rfl, p, _, 1, _, rfl, rfl, hp, at_pos (by decide) rfl, _, rfl, a, _, rfl, .inr ha, rfl, flat_ints ns, ?_⟩
      rw [hin]
      rw [e3] at q
      exact q
/-- two lots without a common place -/
def spStr (K : PySem.W.Frag) (cF cR cW : Addr) : Sp := fun vs H Q _ => ∃ (p : Addr) (v1 v2 : V) (pl : Nat) (ts : List T3) (b : Int) (ns ms : List Int), vs = [.ref p, v1, v2] ∧ WebAt K H cF cR cW p pl ts b ∧ 0 < b ∧ B 9000 b ∧ ts.length ≤ 1000 ∧ Sn K H v1 (.tup (ns.map Td.int)) ∧ Sn K H v2 (.tup (ms.map Td.int)) ∧ ns.length ≤ 1000 ∧ ms.length ≤ 1000 ∧ shr ns ms = [] ∧
  ∀ r H', Same H H' → FrAt H' r (sumB (wt ts b) ns ms / gI (sumB (wt ts b) ns ms) (wb ts b)) (wb ts b / gI (sumB (wt ts b) ns ms) (wb ts b)) → Q (.ref r) H'
theorem wb_pos {ts : List T3} {b : Int} (hb : 0 < b) : 0 < wb ts b := quot_pos (gf_pos hb _) (gf_dvd _).1 (by omega)
theorem dep_ints {ns : List Int} : (Td.tup (ns.map Td.int)).dep ≤ 3 := by
  simp only [Td.dep]
  have : Td.deps (ns.map Td.int) ≤ 0 := deps_all fun t h => by
    obtain ⟨n, _, rfl⟩ := List.mem_map.mp h
    exact Nat.le_refl _
  omega
theorem lkT (n e b R F : V) : ([("places", n), ("ties", e), ("bottom", b), ("rows", R), ("form", F)] : List (Str × V)).lookup ("ties" : Str) = some e := by rw [lk_skip (by decide +kernel), lk_hit]
theorem lkB (n e b R F : V) : ([("places", n), ("ties", e), ("bottom", b), ("rows", R), ("form", F)] : List (Str × V)).lookup ("bottom" : Str) = some b := by rw [lk_skip (by decide +kernel), lk_skip (by decide +kernel), lk_hit]
theorem lkP (n e b R F : V) : ([("places", n), ("ties", e), ("bottom", b), ("rows", R), ("form", F)] : List (Str × V)).lookup ("places" : Str) = some n := by rw [lk_hit]
theorem ns_at {ns : List Int} {i : Nat} {x : Int} {v : V} (h : ns[i]? = some x) (hv : (ns.map V.int)[i]? = some v) : v = .int x := by
  rw [at_int h] at hv
  exact (Option.some.inj hv).symm
abbrev s_strength_between : Stmt := top 44
abbrev N_strength_between : List Str := ["web", "one", "two", "first", "second", "shared", "place", "tie"]
theorem sc_strength_between : FnScope N_strength_between ["web", "one", "two"] (defScope s_strength_between) := ⟨rfl, rfl, rfl, by decide +kernel, rfl, by decide +kernel, by decide +kernel⟩
theorem ok_strength_between (F : Fun K "strength_between" "strength_between" s_strength_between f fd) (T : Txt mg) (O : Obs K cF cR cW) (C_frozen : Cal P w K mg base 3 "frozen" ["value"] (spFz K 3)) (C_joins : Cal P w K mg base 1 "joins" ["tie", "one", "two"] (spJoins K))
    (C_fraction : Cal P w K mg base 1 "fraction" ["top", "bottom"] spFraction) : FnOk P w K mg base CX0 4 f fd ["web", "one", "two"] (spStr K cF cR cW) := by
  refine F.ok sc_strength_between (fun vs H Q E h => ?_) (fun cdv A outer s H vs Q E hr h => ?_)
  · obtain ⟨p, v1, v2, pl, ts, b, ns, ms, rfl, _⟩ := h
    rfl
  obtain ⟨p, v1, v2, pl, ts, b, ns, ms, rfl, hw, hb, hB, htl, h1, h2, hn, hm, hsh, q⟩ := h
  refine ⟨_, (pss_cons (ps_set (i := 3) sc_strength_between.nd rfl (Or.inr rfl) (pe_cal C_frozen (hr.mono (by omega)) rfl (pa_cons (pv 1) pa_nil)))
  (pss_cons (ps_set (i := 4) sc_strength_between.nd rfl (Or.inr rfl) (pe_cal C_frozen (hr.mono (by omega)) rfl (pa_cons (pv 2) pa_nil)))
  (pss_cons (ps_setLc (i := 5) (own := [("place", 6)]) (g := gName 6) (by rfl) sc_strength_between.nd rfl rfl (sw_true rfl rfl rfl (by decide +kernel)) (pi_tup (pv 3)) (blkOk_by (N := N_strength_between) (sc := defScope s_strength_between) (by decide +kernel)) (fun _ _ _ _ _ => (pg_name (i := 6) sc_strength_between.nd rfl (Or.inl rfl))) (fun _ _ _ _ _ => (pts_one (pt_cmpR (op_in_seqK (K := K) rfl) (pv 6) (pv 4) (by rfl)))) (fun _ _ _ _ _ => (pv 6)))
  (pss_cons (ps_if (pt_cmpR op_gt (pe_callB call_len_seq (by rfl) T.b_len PySem.boot_len (pa_cons (pv 5) pa_nil)) pe_int (nomark _)) (pss_one ps_never) pss_nil)
  (pss_one (ps_ret (pe_cal C_fraction (hr.mono (by omega)) rfl (pa_cons (pe_callB (cr_sum rfl) (by rfl) T.b_sum (by decide +kernel) (pa_cons (pe_lc (own := [("tie", 7)]) (g := gName 7) (by rfl) sc_strength_between.nd (pi_tup (pe_fld (pv 0) rfl)) (blkOk_by (N := N_strength_between) (sc := defScope s_strength_between) (by decide +kernel)) (fun _ _ _ _ _ => (pg_name (i := 7) sc_strength_between.nd rfl (Or.inl rfl))) (fun _ _ _ _ _ => (pts_one (pt_val (pe_cal C_joins (hr.mono (by omega)) rfl (pa_cons (pv 7) (pa_cons (pv 3) (pa_cons (pv 4) pa_nil))))))) (fun _ _ _ _ _ => (pe_ix (ix_tupK (K := K) rfl) (pv 7) pe_int (fun _ _ => rfl)))) pa_nil)) (pa_cons (pe_fld (pv 0) rfl) pa_nil))))))))), ?_⟩
  refine ⟨_, rfl, v1, _, rfl, h1, dep_ints, sm_ints (by omega), fun u1 H1 s1 hz1 => ?_⟩
  refine ⟨_, rfl, v2, _, rfl, h2.same s1, dep_ints, sm_ints (by omega), fun u2 H2 s2 hz2 => ?_⟩
  obtain ⟨a1, rfl, ha1⟩ := fz_ints (hz1.tk (WK.Same.tk s2))
  obtain ⟨a2, rfl, ha2⟩ := fz_ints hz2
  refine ⟨_, rfl, a1, rfl, ⟨_, ha1⟩, fun D hD => ?_⟩
  refine lc_f (walk_tup (K := K) (a := a1) (xs := ns.map V.int)) RI (stb_RI (K := K)) ns (List.length_map ..) (by omega) hD (fun H' s => Same_seqT s ha1) (fun _ _ _ _ => ys_at) (fun x => if decide (x ∈ ms) = true then some x else none) (fun k x v H3 H4 hb1 s3 s4 y A B hA hBn => ?_) (fun H3 l s3 hl3 rs => ?_)
  · have e := ns_at hb1 y.2
    subst e
    refine ⟨rfl, ⟨_, rfl, _, rfl, a2, _, rfl, .inr (Same_seqT s4 ha2), rfl, flat_ints ms, _, rfl, ?_⟩⟩
    rw [if_neg Bool.false_ne_true, inV_ints]
    cases e1 : decide (x ∈ ms) with
    | true => exact ifT rfl ⟨_, rfl, hA _ x _ (if_pos e1) (fun _ _ h => h) rfl⟩
    | false => exact ifF rfl (hBn (if_neg (by rw [e1]; exact Bool.false_ne_true)) _ fun _ _ h => h)
  have el : l = [] := by
    have e := rs.ints
    rw [filterMap_if (fun x => decide (x ∈ ms)) (fun x => x), List.map_id'] at e
    rw [e, show ns.filter (fun x => decide (x ∈ ms)) = [] from hsh]
    rfl
  subst el
  refine ⟨_, rfl, D, _, rfl, .inl (SqL.of hl3), _, _, rfl, rfl, _, rfl, ifF (decide_eq_false (by simp)) ?_⟩
  have s03 := s1.trans (s2.trans s3)
  obtain ⟨dx, t, R, Fo, hp, hti, _, _⟩ := hw
  have hp3 := s03 _ _ hp
  cases hti with
  | @tup _ vs _ ht hall =>
  have hvl : vs.length = (wt ts b).length := by rw [hall.len, List.length_map]
  refine ⟨_, rfl, p, cW, dx, _, _, rfl, hp3, O.clW, O.W_ties, lkT _ _ _ _ _, t, rfl, ⟨_, Same_seqT s03 ht⟩, fun D2 hD2 => ?_⟩
  refine lc_f (walk_tup (K := K) (a := t) (xs := vs)) RI (stb_RI (K := K)) (wt ts b) hvl (by unfold wt; rw [List.length_map]; omega) hD2 (fun H' s => Same_seqT (s03.trans s) ht) (fun _ _ _ _ => ys_at) (fun t => if jn t.1 t.2.1 ns ms = true then some t.2.2 else none) (fun k t1 v H5 H6 hb1 s5 s6 y A B hA hBn => ?_) (fun H5 l s5 hl5 rs2 => ?_)
  · obtain ⟨t2, ht2, hz⟩ := hall.get y.2
    rw [List.getElem?_map, hb1] at ht2
    cases ht2
    obtain ⟨r, rfl, hr1⟩ := fz_tie (hz.tk (WK.Same.tk (s03.trans s6)))
    refine ⟨rfl, ⟨_, rfl, _, rfl, _, rfl, r, a1, a2, t1, ns, ms, rfl, hr1, Same_seqT (s3.trans s6) ha1, Same_seqT (s3.trans s6) ha2, _, rfl, ?_⟩⟩
    cases e1 : jn t1.1 t1.2.1 ns ms with
    | true => exact ifT rfl ⟨_, rfl, r, _, 2, _, rfl, rfl, hr1, at_pos (by decide) rfl, hA _ _ _ (if_pos e1) (fun _ _ h => h) rfl⟩
    | false => exact ifF rfl (hBn (if_neg (by rw [e1]; exact Bool.false_ne_true)) _ fun _ _ h => h)
  have e := rs2.ints
  rw [filterMap_if (fun t : T3 => jn t.1 t.2.1 ns ms) (fun t => t.2.2)] at e
  refine ⟨D2, _, rfl, SqL.of (by rw [hl5, e]), _, rfl, p, cW, dx, _, _, rfl, s5 _ _ hp3, O.clW, O.W_bottom, lkB _ _ _ _ _, _, _, rfl, wb_pos hb, B.div (gf_pos hb _) hB, fun r H' s hr' => q r H' (s03.trans (s5.trans s)) hr'⟩
end
end P41
namespace P41
open PySem PySem.Spec PyProof.Rows L2 SX EX WK
/-- the errors of the text -/
structure Err (K : PySem.W.Frag) (mg : Str → Option Value) (cS cC fS c1 c2 c3 c4 c5 c6 c7 c8 : Addr) : Prop where
  g_SharedPlace : mg "SharedPlace" = some (.ref cS)
  g_CableError : mg "CableError" = some (.ref cC)
  g_BadBundle : mg "BadBundle" = some (.ref c1)
  g_BadIndex : mg "BadIndex" = some (.ref c2)
  g_BadRow : mg "BadRow" = some (.ref c3)
  g_BadTie : mg "BadTie" = some (.ref c4)
  g_BadWeight : mg "BadWeight" = some (.ref c5)
  g_CountsDiffer : mg "CountsDiffer" = some (.ref c6)
  g_SamePlace : mg "SamePlace" = some (.ref c7)
  g_SizesDiffer : mg "SizesDiffer" = some (.ref c8)
  o_SharedPlace : OexC K cS
  i_SharedPlace : PySem.W.findIn K (.ref cS) "__init__" = some (some (.ref fS))
  t_SharedPlace : PySem.W.typeIn K (.ref fS) = some (.type "function")
  x : XCls K cS
  no_SharedPlace_place : PySem.W.findIn K (.ref cS) "place" = some none
  eC : PySem.W.exmOne K (.ref cS) (.ref cC) = some true
  kS : PySem.W.kitOne K (.ref cS) (.ref cS) = some true
  kV : PySem.W.kitOne K (.ref cS) (.type "ValueError") = some true
  k1 : PySem.W.kitOne K (.ref cS) (.ref c1) = some false
  k2 : PySem.W.kitOne K (.ref cS) (.ref c2) = some false
  k3 : PySem.W.kitOne K (.ref cS) (.ref c3) = some false
  k4 : PySem.W.kitOne K (.ref cS) (.ref c4) = some false
  k5 : PySem.W.kitOne K (.ref cS) (.ref c5) = some false
  k6 : PySem.W.kitOne K (.ref cS) (.ref c6) = some false
  k7 : PySem.W.kitOne K (.ref cS) (.ref c7) = some false
  k8 : PySem.W.kitOne K (.ref cS) (.ref c8) = some false
theorem Err.x_SharedPlace {K : PySem.W.Frag} {mg : Str → Option Value} {cS cC fS c1 c2 c3 c4 c5 c6 c7 c8 : Addr} (U : Err K mg cS cC fS c1 c2 c3 c4 c5 c6 c7 c8) : XfC K cS := U.x.xf
theorem kno {K : PySem.W.Frag} {t c : Value} {r : List Value} {o : Option Bool} (h : PySem.W.kitOne K t c = some false) (e : PySem.W.kitAny K t r = o) : PySem.W.kitAny K t (c :: r) = o := by
  show (match PySem.W.kitOne K t c with
    | some true => some true
    | some false => PySem.W.kitAny K t r
    | none => none) = o
  rw [h]
  exact e
theorem Err.all {K : PySem.W.Frag} {mg : Str → Option Value} {cS cC fS c1 c2 c3 c4 c5 c6 c7 c8 : Addr} (U : Err K mg cS cC fS c1 c2 c3 c4 c5 c6 c7 c8) : PySem.W.kitAny K (.ref cS) [.ref c1, .ref c2, .ref c3, .ref c4, .ref c5, .ref c6, .ref c7, .ref c8] = some false :=
  kno U.k1 (kno U.k2 (kno U.k3 (kno U.k4 (kno U.k5 (kno U.k6 (kno U.k7 (kno U.k8 rfl)))))))
/-- the least -/
def Least (l : List Int) (m : Int) : Prop := m ∈ l ∧ ∀ y ∈ l, m ≤ y
theorem Least.uniq {l : List Int} {m k : Int} (h : Least l m) (g : Least l k) : m = k := by
  have h1 := h.2 k g.1
  have h2 := g.2 m h.1
  omega
/-- the error of a shared place, and what stands behind it -/
def Shd (cS : Addr) (m : Int) (H : Hp) (E : XK) : Prop := ∀ d H', Same H H' → H' d = some (.xd [("place", .int m)]) → E (.ref cS) (some d) H'
section
variable {P : Program} {w : World} {K : PySem.W.Frag} {mg : Str → Option Value} {base : Heap} {f : Addr} {fd : FuncData} {cS cC fS c1 c2 c3 c4 c5 c6 c7 c8 : Addr} {fdS : FuncData}
def spInit (C : Addr) : Sp := fun vs H Q _ => ∃ (a : Addr) (v : V), vs = [.ref a, v] ∧ H a = some (exo a C none) ∧ ∀ dx, H dx = none → dx ≠ a → Q .non (upd (upd H dx (exd dx [("place", v)])) a (exo a C (some dx)))
abbrev s_iSP : Stmt := mth 15 0
abbrev N_iSP : List Str := ["self", "place"]
theorem sc_iSP : FnScope N_iSP ["self", "place"] (defScope s_iSP) := ⟨rfl, rfl, rfl, by decide +kernel, rfl, by decide +kernel, by decide +kernel⟩
theorem ok_iSP (F : Fun K "__init__" "SharedPlace.__init__" s_iSP f fd) (U : Err K mg cS cC fS c1 c2 c3 c4 c5 c6 c7 c8) : FnOk P w K mg base CX0 1 f fd ["self", "place"] (spInit cS) := by
  refine F.ok sc_iSP (fun vs H Q E h => ?_) (fun cdv A outer s H vs Q E hr h => ?_)
  · obtain ⟨a, v, rfl, _⟩ := h
    rfl
  obtain ⟨a, v, rfl, ha, q⟩ := h
  refine ⟨_, (pss_one (ps_ost (pv 0) (pv 1))), ?_⟩
  exact ⟨_, rfl, _, rfl, a, cS, rfl, U.o_SharedPlace, U.no_SharedPlace_place, .inl ⟨ha, q⟩⟩
/-- two lots with a common place -/
def spStrX (K : PySem.W.Frag) (cS : Addr) : Sp := fun vs H Q E => ∃ (p : Addr) (v1 v2 : V) (ns ms : List Int) (m : Int), vs = [.ref p, v1, v2] ∧ Sn K H v1 (.tup (ns.map Td.int)) ∧ Sn K H v2 (.tup (ms.map Td.int)) ∧ ns.length ≤ 1000 ∧ ms.length ≤ 1000 ∧ Least (shr ns ms) m ∧ Shd cS m H E
theorem okx_strength_between (F : Fun K "strength_between" "strength_between" s_strength_between f fd) (T : Txt mg) (U : Err K mg cS cC fS c1 c2 c3 c4 c5 c6 c7 c8) (IN_SharedPlace : FnOk P w K mg base CX0 1 fS fdS ["self", "place"] (spInit cS)) (B_SharedPlace : Binds K fdS ["self", "place"] []) (C_frozen : Cal P w K mg base 3 "frozen" ["value"] (spFz K 3)) (C_joins : Cal P w K mg base 1 "joins" ["tie", "one", "two"] (spJoins K))
    (C_fraction : Cal P w K mg base 1 "fraction" ["top", "bottom"] spFraction) : FnOk P w K mg base (L2N.CX P w) 4 f fd ["web", "one", "two"] (spStrX K cS) := by
  refine okR F sc_strength_between (fun vs H Q E h => ?_) (fun cdv A outer s H vs Q E hr h => ?_)
  · obtain ⟨p, v1, v2, ns, ms, m, rfl, _⟩ := h
    rfl
  obtain ⟨p, v1, v2, ns, ms, m, rfl, h1, h2, hn, hm, hlst, q⟩ := h
  refine ⟨_, (pss_cons (ps_set (i := 3) sc_strength_between.nd rfl (Or.inr rfl) (pe_cal C_frozen (hr.mono (by omega)) rfl (pa_cons (pv 1) pa_nil)))
  (pss_cons (ps_set (i := 4) sc_strength_between.nd rfl (Or.inr rfl) (pe_cal C_frozen (hr.mono (by omega)) rfl (pa_cons (pv 2) pa_nil)))
  (pss_cons (ps_setLc (i := 5) (own := [("place", 6)]) (g := gName 6) (by rfl) sc_strength_between.nd rfl rfl (sw_true rfl rfl rfl (by decide +kernel)) (pi_tup (pv 3)) (blkOk_by (N := N_strength_between) (sc := defScope s_strength_between) (by decide +kernel)) (fun _ _ _ _ _ => (pg_name (i := 6) sc_strength_between.nd rfl (Or.inl rfl))) (fun _ _ _ _ _ => (pts_one (pt_cmpR (op_in_seqK (K := K) rfl) (pv 6) (pv 4) (by rfl)))) (fun _ _ _ _ _ => (pv 6)))
  (pss_cons (ps_if (pt_cmpR op_gt (pe_callB call_len_seq (by rfl) T.b_len PySem.boot_len (pa_cons (pv 5) pa_nil)) pe_int (nomark _)) (pss_one (L2N.ps_raise rfl (L2N.takes_of rfl rfl rfl rfl) (pmkI U.o_SharedPlace U.i_SharedPlace U.t_SharedPlace IN_SharedPlace (hr.mono (by omega)) B_SharedPlace passN rfl U.g_SharedPlace (pa_cons (pe_callB (cr_min rfl) (by rfl) T.b_min (by decide +kernel) (pa_cons (pv 5) pa_nil)) pa_nil)))) pss_nil)
  (pss_one (ps_ret (pe_cal C_fraction (hr.mono (by omega)) rfl (pa_cons (pe_callB (cr_sum rfl) (by rfl) T.b_sum (by decide +kernel) (pa_cons (pe_lc (own := [("tie", 7)]) (g := gName 7) (by rfl) sc_strength_between.nd (pi_tup (pe_fld (pv 0) rfl)) (blkOk_by (N := N_strength_between) (sc := defScope s_strength_between) (by decide +kernel)) (fun _ _ _ _ _ => (pg_name (i := 7) sc_strength_between.nd rfl (Or.inl rfl))) (fun _ _ _ _ _ => (pts_one (pt_val (pe_cal C_joins (hr.mono (by omega)) rfl (pa_cons (pv 7) (pa_cons (pv 3) (pa_cons (pv 4) pa_nil))))))) (fun _ _ _ _ _ => (pe_ix (ix_tupK (K := K) rfl) (pv 7) pe_int (fun _ _ => rfl)))) pa_nil)) (pa_cons (pe_fld (pv 0) rfl) pa_nil))))))))), ?_⟩
  refine ⟨_, rfl, v1, _, rfl, h1, dep_ints, sm_ints (by omega), fun u1 H1 s1 hz1 => ?_⟩
  refine ⟨_, rfl, v2, _, rfl, h2.same s1, dep_ints, sm_ints (by omega), fun u2 H2 s2 hz2 => ?_⟩
  obtain ⟨a1, rfl, ha1⟩ := fz_ints (hz1.tk (WK.Same.tk s2))
  obtain ⟨a2, rfl, ha2⟩ := fz_ints hz2
  refine ⟨_, rfl, a1, rfl, ⟨_, ha1⟩, fun D hD => ?_⟩
  refine lc_f (walk_tup (K := K) (a := a1) (xs := ns.map V.int)) RI (stb_RI (K := K)) ns (List.length_map ..) (by omega) hD (fun H' s => Same_seqT s ha1) (fun _ _ _ _ => ys_at) (fun x => if decide (x ∈ ms) = true then some x else none) (fun k x v H3 H4 hb1 s3 s4 y A B hA hBn => ?_) (fun H3 l s3 hl3 rs => ?_)
  · have e := ns_at hb1 y.2
    subst e
    refine ⟨rfl, ⟨_, rfl, _, rfl, a2, _, rfl, .inr (Same_seqT s4 ha2), rfl, flat_ints ms, _, rfl, ?_⟩⟩
    rw [if_neg Bool.false_ne_true, inV_ints]
    cases e1 : decide (x ∈ ms) with
    | true => exact ifT rfl ⟨_, rfl, hA _ x _ (if_pos e1) (fun _ _ h => h) rfl⟩
    | false => exact ifF rfl (hBn (if_neg (by rw [e1]; exact Bool.false_ne_true)) _ fun _ _ h => h)
  have el : l = (shr ns ms).map V.int := by
    have e := rs.ints
    rw [filterMap_if (fun x => decide (x ∈ ms)) (fun x => x), List.map_id'] at e
    exact e
  subst el
  have hpos : 0 < (shr ns ms).length := List.length_pos_of_mem hlst.1
  refine ⟨_, rfl, D, _, rfl, .inl (SqL.of hl3), _, _, rfl, rfl, _, rfl, ifT (decide_eq_true (by rw [List.length_map]; omega)) ?_⟩
  have s03 := s1.trans (s2.trans s3)
  refine ⟨_, rfl, D, _, rfl, SqL.of hl3, hpos, fun m2 hm2 hle => ?_⟩
  have em : m2 = m := Least.uniq ⟨hm2, hle⟩ hlst
  subst em
  refine ⟨by show 1 ≤ 1000; decide, fun a ha => ?_⟩
  refine ⟨a, .int m2, rfl, upd_same, fun dx hdx hne => ⟨rfl, dx, [("place", .int m2)], upd_same, ?_, ?_, ?_⟩⟩
  · rw [upd_ne hne, upd_same]
  · have := hdx
    rw [upd_ne hne] at this
    exact this
  · refine q dx _ (fun b o e => ?_) upd_same
    have e' := s03 _ _ e
    have h1 : b ≠ a := fun z => by rw [z, ha] at e'; cases e'
    have h2 : b ≠ dx := fun z => by
      have := hdx
      rw [upd_ne hne] at this
      rw [z, this] at e'
      cases e'
    rw [upd_ne h2, del_ne h1, upd_ne h1, upd_ne h2, upd_ne h1]
    exact e'
theorem len_sn {K : PySem.W.Frag} {H : Hp} {v : V} {ns : List Int} (h : Sn K H v (.tup (ns.map Td.int))) : ∃ (p : Addr) (ys : List V), v = .ref p ∧ (SqL K H p ys ∨ SqT K H p ys) ∧ ys.length = ns.length := by
  cases h with
  | @lst a vs _ ha hall => exact ⟨a, vs, rfl, .inl (SqL.of ha), by rw [hall.len, List.length_map]⟩
  | @tup a vs _ ha hall => exact ⟨a, vs, rfl, .inr ha, by rw [hall.len, List.length_map]⟩
def spEvenX (K : PySem.W.Frag) (cS : Addr) : Sp := fun vs H Q E => ∃ (p lo hi : Addr) (v1 v2 : V) (ns ms : List Int) (m : Int), vs = [.ref p, .ref lo, .ref hi, v1, v2] ∧ FrAt H lo 1 2 ∧ FrAt H hi 3 1 ∧ Sn K H v1 (.tup (ns.map Td.int)) ∧ Sn K H v2 (.tup (ms.map Td.int)) ∧ ns.length ≤ 1000 ∧ ms.length ≤ 1000 ∧ Least (shr ns ms) m ∧ Shd cS m H E
abbrev s_evenness : Stmt := top 45
abbrev N_evenness : List Str := ["web", "low", "high", "one", "two", "middle", "half", "size", "other", "gap", "sizes"]
theorem sc_evenness : FnScope N_evenness ["web", "low", "high", "one", "two"] (defScope s_evenness) := ⟨rfl, rfl, rfl, by decide +kernel, rfl, by decide +kernel, by decide +kernel⟩
theorem okx_evenness (F : Fun K "evenness" "evenness" s_evenness f fd) (T : Txt mg) (C_multiplied : Cal P w K mg base 2 "multiplied" ["one", "two"] (spTwo fun t1 b1 t2 b2 => (t1 * t2, b1 * b2))) (C_added : Cal P w K mg base 2 "added" ["one", "two"] (spTwo fun t1 b1 t2 b2 => (t1 * b2 + t2 * b1, b1 * b2))) (C_subtracted : Cal P w K mg base 2 "subtracted" ["one", "two"] (spTwo fun t1 b1 t2 b2 => (t1 * b2 - t2 * b1, b1 * b2)))
    (C_strength_between : CalX P w K mg base 4 "strength_between" ["web", "one", "two"] (spStrX K cS)) : FnOk P w K mg base (L2N.CX P w) 5 f fd ["web", "low", "high", "one", "two"] (spEvenX K cS) := by
  refine okR F sc_evenness (fun vs H Q E h => ?_) (fun cdv A outer s H vs Q E hr h => ?_)
  · obtain ⟨p, lo, hi, v1, v2, ns, ms, m, rfl, _⟩ := h
    rfl
  obtain ⟨p, lo, hi, v1, v2, ns, ms, m, rfl, hlo, hhi, h1, h2, hn, hm, hlst, q⟩ := h
  refine ⟨_, (pss_cons (ps_set (i := 5) sc_evenness.nd rfl (Or.inl rfl) (pe_cal C_multiplied (hr.mono (by omega)) rfl (pa_cons (pe_tup (pa_cons pe_int (pa_cons pe_int pa_nil))) (pa_cons (pe_cal C_added (hr.mono (by omega)) rfl (pa_cons (pv 1) (pa_cons (pv 2) pa_nil))) pa_nil))))
  (pss_cons (ps_set (i := 6) sc_evenness.nd rfl (Or.inl rfl) (pe_cal C_multiplied (hr.mono (by omega)) rfl (pa_cons (pe_tup (pa_cons pe_int (pa_cons pe_int pa_nil))) (pa_cons (pe_cal C_subtracted (hr.mono (by omega)) rfl (pa_cons (pv 2) (pa_cons (pv 1) pa_nil))) pa_nil))))
  (pss_cons (ps_set (i := 7) sc_evenness.nd rfl (Or.inl rfl) (pe_callB call_len_seq (by rfl) T.b_len PySem.boot_len (pa_cons (pv 3) pa_nil)))
  (pss_cons (ps_set (i := 8) sc_evenness.nd rfl (Or.inl rfl) (pe_callB call_len_seq (by rfl) T.b_len PySem.boot_len (pa_cons (pv 4) pa_nil)))
  (pss_cons (ps_set (i := 9) sc_evenness.nd rfl (Or.inl rfl) (pe_cal C_subtracted (hr.mono (by omega)) rfl (pa_cons (pe_calX C_strength_between (hr.mono (by omega)) rfl (L2N.takes_of rfl rfl rfl rfl) (pa_cons (pv 0) (pa_cons (pv 3) (pa_cons (pv 4) pa_nil)))) (pa_cons (pe_cal C_multiplied (hr.mono (by omega)) rfl (pa_cons (pv 5) (pa_cons (pe_tup (pa_cons (pe_op op_mul (pv 7) (pv 8)) (pa_cons pe_int pa_nil))) pa_nil))) pa_nil))))
  (pss_cons (ps_set (i := 10) sc_evenness.nd rfl (Or.inl rfl) (pe_op op_mul (pe_op op_mul (pe_op op_mul (pv 7) (pe_op op_sub (pe_fld (pv 0) rfl) (pv 7))) (pv 8)) (pe_op op_sub (pe_fld (pv 0) rfl) (pv 8))))
  (pss_one (ps_ret (pe_tup (pa_cons (pe_cal C_multiplied (hr.mono (by omega)) rfl (pa_cons (pv 9) (pa_cons (pv 9) pa_nil))) (pa_cons (pe_cal C_multiplied (hr.mono (by omega)) rfl (pa_cons (pe_cal C_multiplied (hr.mono (by omega)) rfl (pa_cons (pv 6) (pa_cons (pv 6) pa_nil))) (pa_cons (pe_tup (pa_cons (pv 10) (pa_cons pe_int pa_nil))) pa_nil))) pa_nil))))))))))), ?_⟩
  refine ⟨two_line, fun t1 ht1 => ⟨_, rfl, _, rfl, lo, hi, 1, 2, 3, 1, rfl, hlo.same (same_new ht1 _), hhi.same (same_new ht1 _), by decide, by decide, by decide, by decide, fun r1 H1 s1 hr1 => ?_⟩⟩
  have g1 := (same_new ht1 (.tup [V.int 1, V.int 2])).trans s1
  have e1 : FrAt H1 t1 1 2 := s1 _ _ upd_same
  refine ⟨t1, r1, 1, 2, _, _, rfl, e1, hr1, by decide, by decide, by decide +kernel, by decide +kernel, fun r2 H2 s2 hr2 => ?_⟩
  have g2 := g1.trans s2
  refine ⟨two_line, fun t3 ht3 => ⟨_, rfl, _, rfl, hi, lo, 3, 1, 1, 2, rfl, hhi.same (g2.trans (same_new ht3 _)), hlo.same (g2.trans (same_new ht3 _)), by decide, by decide, by decide, by decide, fun r3 H3 s3 hr3 => ?_⟩⟩
  have g3 := g2.trans ((same_new ht3 (.tup [V.int 1, V.int 2])).trans s3)
  have e3 : FrAt H3 t3 1 2 := s3 _ _ upd_same
  refine ⟨t3, r3, 1, 2, _, _, rfl, e3, hr3, by decide, by decide, by decide +kernel, by decide +kernel, fun r4 H4 s4 hr4 => ?_⟩
  have g4 := g3.trans s4
  obtain ⟨p1, ys1, rfl, hs1, hl1⟩ := len_sn (h1.same g4)
  obtain ⟨p2, ys2, rfl, hs2, hl2⟩ := len_sn (h2.same g4)
  refine ⟨_, rfl, p1, ys1, rfl, hs1, _, rfl, p2, ys2, rfl, hs2, ?_⟩
  refine ⟨_, rfl, _, rfl, _, rfl, p, .ref p1, .ref p2, ns, ms, m, rfl, h1.same g4, h2.same g4, hn, hm, hlst, fun d H5 s5 hd5 => q d H5 (g4.trans s5) hd5⟩
end
end P41
namespace P41
open PySem PySem.Spec PyProof.Rows L2 SX EX WK
/-! ### the steps of the greatest common divisor -/
/-- behind i steps from (a0, b0): (a, b) -/
def Eu (a0 b0 : Nat) (i a b : Nat) : Prop := Nat.gcd a b = Nat.gcd a0 b0 ∧ ((i = 0 ∧ a = a0 ∧ b = b0) ∨ (1 ≤ i ∧ b < a ∧ a * b * 2 ^ (i - 1) ≤ 2 ^ 13000))
theorem eu_start {a0 b0 : Nat} : Eu a0 b0 0 a0 b0 := ⟨rfl, .inl ⟨rfl, rfl, rfl⟩⟩
theorem eu_step {a0 b0 i a b : Nat} (hb0 : b0 < 2 ^ 6500) (h : Eu a0 b0 i a b) (hb : b ≠ 0) : Eu a0 b0 (i + 1) b (a % b) := by
  obtain ⟨g, h⟩ := h
  have hlt : a % b < b := Nat.mod_lt _ (by omega)
  refine ⟨by rw [← g, Nat.gcd_comm b, ← Nat.gcd_rec b a, Nat.gcd_comm], .inr ⟨by omega, hlt, ?_⟩⟩
  rw [show i + 1 - 1 = i by omega]
  rcases h with ⟨rfl, rfl, rfl⟩ | ⟨hi, hab, hm⟩
  · have h1 : b * (a % b) ≤ b * b := Nat.mul_le_mul_left b (by omega)
    have h2 : b * b ≤ 2 ^ 6500 * 2 ^ 6500 := Nat.mul_le_mul (by omega) (by omega)
    rw [← Nat.pow_add] at h2
    rw [Nat.pow_zero, Nat.mul_one]
    exact Nat.le_trans h1 h2
  · have h1 : 2 * (a % b) ≤ a := by
      have e := Nat.div_add_mod a b
      have q : 1 ≤ a / b := Nat.div_pos (by omega) (by omega)
      have := Nat.mul_le_mul_left b q
      omega
    have h2 : b * (a % b) * 2 ≤ a * b := by
      rw [Nat.mul_assoc, Nat.mul_comm a b, Nat.mul_comm (a % b) 2]
      exact Nat.mul_le_mul_left b h1
    have e : 2 ^ i = 2 * 2 ^ (i - 1) := by
      rw [← Nat.pow_succ', Nat.succ_eq_add_one, show i - 1 + 1 = i by omega]
    rw [e, ← Nat.mul_assoc]
    exact Nat.le_trans (Nat.mul_le_mul_right _ h2) hm
theorem eu_end {a0 b0 a b : Nat} (h : Eu a0 b0 100000 a b) : b = 0 := by
  obtain ⟨_, h⟩ := h
  rcases h with ⟨h, _⟩ | ⟨_, hab, hm⟩
  · exact absurd h (by decide)
  · rcases Nat.eq_zero_or_pos b with h | h
    · exact h
    · exfalso
      have h1 : 1 ≤ a * b := Nat.mul_pos (by omega) h
      have h2 : 2 ^ (100000 - 1) ≤ a * b * 2 ^ (100000 - 1) := Nat.le_mul_of_pos_left _ h1
      have h3 : (2 : Nat) ^ 13000 < 2 ^ (100000 - 1) := Nat.pow_lt_pow_right (by decide) (by decide)
      omega
theorem eu_gcd {a0 b0 i a : Nat} (h : Eu a0 b0 i a 0) : a = Nat.gcd a0 b0 := by
  rw [← h.1, Nat.gcd_zero_right]
theorem gI_leb {t b : Int} (hb : 0 < b) : gI t b ≤ b := by
  have : Nat.gcd t.natAbs b.natAbs ≤ b.natAbs := Nat.le_of_dvd (by omega) (Nat.gcd_dvd_right _ _)
  unfold gI
  omega
theorem seq_asg {te : TE} {i : Nat} {u : TS} {D : Ends} {σ : L2.St} {H : Hp} (h : te σ H fun x H1 => u D (σ.set i (some x)) H1) : tSeq (tAsg te (gName i)) u D σ H := h
theorem kit1 {K : PySem.W.Frag} : PySem.W.kitOne K (.type "int") (.type "int") = some true := kit_ty (by decide +kernel)
theorem kit2 {K : PySem.W.Frag} : PySem.W.kitOne K (.type "int") (.type "bool") = some false := kit_ty (by decide +kernel)
theorem kit6 {K : PySem.W.Frag} : PySem.W.kitOne K (.type "tuple") (.type "tuple") = some true := kit_ty (by decide +kernel)
/-! ### _law_cell: some int -/
def spCell (K : PySem.W.Frag) : Sp := fun vs H Q _ => ∃ (a : Addr) (ns : List Int) (k : Int), vs = [.ref a, .int k] ∧ SqL K H a (ns.map V.int) ∧ 0 ≤ k ∧ k ≤ 1000 ∧ ∀ i : Int, Q (.int i) H
abbrev s__law_cell : Stmt := top 48
abbrev N__law_cell : List Str := ["script", "k", "seed", "cell"]
theorem sc__law_cell : FnScope N__law_cell ["script", "k"] (defScope s__law_cell) := ⟨rfl, rfl, rfl, by decide +kernel, rfl, by decide +kernel, by decide +kernel⟩
/-- digits: each is below its size -/
abbrev Dig (ns zs : List Int) : Prop := Paired (fun n z => 0 ≤ n ∧ n < z) ns zs
theorem Dig.snoc : ∀ {ns zs : List Int} {n z : Int}, Dig ns zs → 0 ≤ n → n < z → Dig (ns ++ [n]) (zs ++ [z])
  | _, _, _, _, .nil, h1, h2 => .cons ⟨h1, h2⟩ .nil
  | _, _, _, _, .cons r t, h1, h2 => .cons r (Dig.snoc t h1 h2)
theorem Dig.get : ∀ {ns zs : List Int} {i : Nat} {z : Int}, Dig ns zs → zs[i]? = some z → ∃ n, ns[i]? = some n ∧ 0 ≤ n ∧ n < z
  | _, _, _, _, .nil, e => by simp at e
  | _, _, 0, _, .cons r _, e => by cases e; exact ⟨_, rfl, r.1, r.2⟩
  | _, _, i + 1, z, .cons _ t, e => by
    obtain ⟨n, h1, h2⟩ := Dig.get (i := i) (z := z) t (by simpa using e)
    exact ⟨n, by simpa using h1, h2⟩
theorem Dig.len {ns zs : List Int} (d : Dig ns zs) : ns.length = zs.length := Paired.length d
theorem take_snoc {α : Type} {l : List α} {i : Nat} {x : α} (h : l[i]? = some x) : l.take (i + 1) = l.take i ++ [x] := by
  rw [List.take_add_one, h]
  rfl
theorem map_int {ns : List Int} {i : Nat} {x : V} (h : (ns.map V.int)[i]? = some x) : ∃ z, ns[i]? = some z ∧ x = .int z := by
  rw [List.getElem?_map] at h
  cases e : ns[i]? with
  | none => rw [e] at h; cases h
  | some z => rw [e] at h; exact ⟨z, rfl, (Option.some.inj h).symm⟩
theorem int_at {ns : List Int} {i : Nat} {z : Int} (h : ns[i]? = some z) : (ns.map V.int)[i]? = some (.int z) := by
  rw [List.getElem?_map, h]
  rfl
theorem snoc_int (ns : List Int) (n : Int) : ns.map V.int ++ [V.int n] = (ns ++ [n]).map V.int := by
  rw [List.map_append]
  rfl
/-! ### _law_digits: one digit for each size -/
def spDigits (K : PySem.W.Frag) : Sp := fun vs H Q _ => ∃ (c : Int) (a : Addr) (zs : List Int), vs = [.int c, .ref a] ∧ SqL K H a (zs.map V.int) ∧ zs.length ≤ 1000 ∧ (∀ z ∈ zs, 0 < z ∧ z.natAbs < 2 ^ 2000) ∧
  ∀ p ns, H p = none → Dig ns zs → Q (.ref p) (upd H p (.lst (ns.map V.int)))
abbrev s__law_digits : Stmt := top 49
abbrev N__law_digits : List Str := ["cell", "sizes", "row", "rest", "size", "seed", "k", "twice"]
theorem sc__law_digits : FnScope N__law_digits ["cell", "sizes"] (defScope s__law_digits) := ⟨rfl, rfl, rfl, by decide +kernel, rfl, by decide +kernel, by decide +kernel⟩
section
variable {P : Program} {w : World} {K : PySem.W.Frag} {mg : Str → Option Value} {base : Heap} {f : Addr} {fd : FuncData}
theorem ok__law_cell (F : Fun K "_law_cell" "_law_cell" s__law_cell f fd) (T : Txt mg) : FnOk P w K mg base CX0 1 f fd ["script", "k"] (spCell K) := by
  refine F.ok sc__law_cell (fun vs H Q E h => ?_) (fun cdv A outer s H vs Q E hr h => ?_)
  · obtain ⟨a, ns, k, rfl, _⟩ := h
    rfl
  obtain ⟨a, ns, k, rfl, hs, h0, h1, q⟩ := h
  refine ⟨_, (pss_cons (ps_if (pt_cmpR op_lt (pv 1) (pe_callB call_len_seq (by rfl) T.b_len PySem.boot_len (pa_cons (pv 0) pa_nil)) (nomark _)) (pss_one (ps_ret (pe_ix ix_list (pv 0) (pv 1) (fun _ _ => rfl)))) pss_nil)
  (pss_cons (ps_set (i := 2) sc__law_cell.nd rfl (Or.inl rfl) pe_int)
  (pss_cons (ps_for PassesOwn.never rfl (pi_list (pv 0)) (pg_name (i := 3) sc__law_cell.nd rfl (Or.inl rfl)) (pss_one (ps_set (i := 2) sc__law_cell.nd rfl (Or.inl rfl) (pe_op op_mod (pe_callTy call_int1 (by rfl) T.b_int (by decide +kernel) (pa_cons (pe_op op_add (pe_op op_mul (pv 2) pe_int) (pe_op op_mod (pe_callTy call_int1 (by rfl) T.b_int (by decide +kernel) (pa_cons (pv 3) pa_nil)) pe_int)) pa_nil)) pe_int))))
  (pss_one (ps_ret (pe_op op_mod (pe_callTy call_int1 (by rfl) T.b_int (by decide +kernel) (pa_cons (pe_op op_mul (pe_op op_mul (pe_op op_add (pv 2) pe_int) (pe_op op_add (pv 1) pe_int)) pe_int) pa_nil)) pe_int)))))), ?_⟩
  refine ⟨_, rfl, _, rfl, a, _, rfl, .inl hs, _, _, rfl, rfl, _, rfl, ?_⟩
  refine ite2 (fun c => ?_) (fun c => ?_)
  · have c' : k < (((ns.map V.int).length : Nat) : Int) := of_decide_eq_true c
    rw [List.length_map] at c'
    obtain ⟨z, hz⟩ : ∃ z, ns[k.toNat]? = some z := ⟨ns[k.toNat]'(by omega), List.getElem?_eq_getElem (by omega)⟩
    exact ⟨_, rfl, _, rfl, a, _, k, _, rfl, rfl, hs, at_pos h0 (int_at hz), q z⟩
  · refine ⟨_, rfl, a, rfl, ⟨_, hs⟩, for_list (K := K) (a := a) (xs := ns.map V.int) (fun i σ H' => ∃ (z : Int) (v : Option V), σ = [some (.ref a), some (.int k), some (.int z), v] ∧ H' = H)
      ⟨17, none, rfl, rfl⟩ (fun i σ H' _ ⟨_, _, _, e⟩ => by rw [e]; exact hs) ?_ ?_⟩
    · rintro i y σ H' hi ⟨z, v, rfl, rfl⟩
      obtain ⟨x, hx, rfl⟩ := map_int hi
      refine ⟨_, rfl, _, _, rfl, rfl, .inr (by decide), _, rfl, .inl ⟨_, rfl, _, _, rfl, rfl, (by show (0 : Int) < 1000003; decide), _, _, rfl, rfl, .inl ⟨_, rfl, _, _, rfl, rfl, (by show (0 : Int) < 1000003; decide), ?_⟩⟩⟩
      exact ⟨_, _, rfl, rfl⟩
    · rintro σ H' ⟨z, v, rfl, rfl⟩
      refine ⟨_, rfl, _, _, rfl, rfl, _, rfl, _, _, rfl, rfl, _, _, rfl, rfl, .inr (by omega), _, _, rfl, rfl, .inr (by decide), .inl ⟨_, rfl, _, _, rfl, rfl, (by show (0 : Int) < 2147483647; decide), ?_⟩⟩
      exact q _
theorem ok__law_digits (F : Fun K "_law_digits" "_law_digits" s__law_digits f fd) (T : Txt mg) : FnOk P w K mg base CX0 1 f fd ["cell", "sizes"] (spDigits K) := by
  refine F.ok sc__law_digits (fun vs H Q E h => ?_) (fun cdv A outer s H vs Q E hr h => ?_)
  · obtain ⟨c, a, zs, rfl, _⟩ := h
    rfl
  obtain ⟨c, a, zs, rfl, hs, hz9, hz, q⟩ := h
  refine ⟨_, (pss_cons (ps_set (i := 2) sc__law_digits.nd rfl (Or.inl rfl) (pe_lst pa_nil))
  (pss_cons (ps_set (i := 3) sc__law_digits.nd rfl (Or.inl rfl) (pe_callTy call_int1 (by rfl) T.b_int (by decide +kernel) (pa_cons (pv 0) pa_nil)))
  (pss_cons (ps_if (pt_cmpR op_ge (pv 3) (pe_op op_pow pe_int pe_int) (nomark _)) (pss_cons (ps_set (i := 3) sc__law_digits.nd rfl (Or.inl rfl) (pe_op op_sub (pv 3) (pe_op op_pow pe_int pe_int)))
  (pss_cons (ps_for PassesOwn.never rfl (pi_list (pv 1)) (pg_name (i := 4) sc__law_digits.nd rfl (Or.inl rfl)) (pss_cons (ps_expr (pe_bm PySem.F.plainAttrs_list PySem.F.slot_list_append PySem.F.type_list_append mt_append (pv 2) (pa_cons (pe_op op_mod (pe_callTy call_int1 (by rfl) T.b_int (by decide +kernel) (pa_cons (pv 3) pa_nil)) (pv 4)) pa_nil)))
  (pss_one (ps_set (i := 3) sc__law_digits.nd rfl (Or.inl rfl) (pe_op op_fdivW (pe_callTy call_int1 (by rfl) T.b_int (by decide +kernel) (pa_cons (pv 3) pa_nil)) (pv 4))))))
  (pss_one (ps_ret (pv 2))))) pss_nil)
  (pss_cons (ps_set (i := 5) sc__law_digits.nd rfl (Or.inl rfl) (pe_op op_mod (pe_callTy call_int1 (by rfl) T.b_int (by decide +kernel) (pa_cons (pv 3) pa_nil)) pe_int))
  (pss_cons (ps_for PassesOwn.never rfl (pi_range1 (by rfl) T.b_range (pa_cons (pe_callB call_len_seq (by rfl) T.b_len PySem.boot_len (pa_cons (pv 1) pa_nil)) pa_nil)) (pg_name (i := 6) sc__law_digits.nd rfl (Or.inl rfl)) (pss_cons (ps_set (i := 5) sc__law_digits.nd rfl (Or.inl rfl) (pe_op op_mod (pe_callTy call_int1 (by rfl) T.b_int (by decide +kernel) (pa_cons (pe_op op_add (pe_op op_add (pe_op op_mul (pv 5) pe_int) (pe_op op_mul pe_int (pv 6))) pe_int) pa_nil)) pe_int))
  (pss_cons (ps_set (i := 7) sc__law_digits.nd rfl (Or.inl rfl) (pe_op op_mod (pe_callTy call_int1 (by rfl) T.b_int (by decide +kernel) (pa_cons (pe_op op_mul (pv 5) (pe_op op_add (pe_op op_fdiv (pv 5) pe_int) pe_int)) pa_nil)) pe_int))
  (pss_one (ps_expr (pe_bm PySem.F.plainAttrs_list PySem.F.slot_list_append PySem.F.type_list_append mt_append (pv 2) (pa_cons (pe_op op_mod (pe_op op_fdiv (pv 7) pe_int) (pe_ix ix_list (pv 1) (pv 6) (fun _ _ => rfl))) pa_nil)))))))
  (pss_one (ps_ret (pv 2)))))))), ?_⟩
  have keep : ∀ {p : Addr} {o : HO}, H p = none → SqL K (upd H p o) a (zs.map V.int) := fun hp => (same_new hp _).seq hs
  refine ⟨(by show 0 ≤ sizeLine; exact Nat.zero_le _), fun p hp => ?_⟩
  refine ⟨_, rfl, .inl ⟨_, rfl, ?_⟩⟩
  refine ⟨_, rfl, _, _, rfl, rfl, ⟨by decide, by decide, by decide⟩, _, _, rfl, rfl, _, rfl, ?_⟩
  refine ite2 (fun _ => ?_) (fun _ => ?_)
  · refine ⟨_, rfl, _, _, rfl, rfl, ⟨by decide, by decide, by decide⟩, _, _, rfl, rfl, ?_⟩
    refine ⟨_, rfl, a, rfl, ⟨_, keep hp⟩, for_list (K := K) (a := a) (xs := zs.map V.int) (fun i σ H' => ∃ (z : Int) (v : Option V) (ns : List Int), σ = [some (.int c), some (.ref a), some (.ref p), some (.int z), v, none, none, none] ∧ H' = upd H p (.lst (ns.map V.int)) ∧ Dig ns (zs.take i))
      ⟨_, none, [], rfl, rfl, .nil⟩ (fun i σ H' _ ⟨_, _, _, _, e, _⟩ => by rw [e]; exact keep hp) ?_ ?_⟩
    · rintro i y σ H' hi ⟨z, v, ns, rfl, rfl, hd⟩
      obtain ⟨x, hx, rfl⟩ := map_int hi
      have hx2 := hz x (List.mem_of_getElem? hx)
      have hlen : ns.length ≤ 1000 := by
        have := hd.len
        rw [List.length_take] at this
        omega
      refine ⟨_, rfl, .inl ⟨rfl, _, SqL.of upd_same⟩, _, rfl, .inl ⟨_, rfl, _, rfl, _, _, rfl, rfl, hx2.1, p, _, _, rfl, rfl, upd_same, by rw [List.length_map]; exact small1000 hlen, ?_⟩⟩
      refine ⟨_, rfl, .inl ⟨_, rfl, _, rfl, _, _, rfl, rfl, wide_div hx2.1 hx2.2 (by decide) (by decide), ?_⟩⟩
      exact ⟨_, _, ns ++ [z % x], rfl, by rw [upd_upd, snoc_int], by rw [take_snoc hx]; exact hd.snoc (Int.emod_nonneg _ (by omega)) (Int.emod_lt_of_pos _ hx2.1)⟩
    · rintro σ H' ⟨z, v, ns, rfl, rfl, hd⟩
      rw [List.length_map, List.take_length] at hd
      exact ⟨_, rfl, q p ns hp hd⟩
  · refine ⟨_, rfl, .inl ⟨_, rfl, _, _, rfl, rfl, (by show (0 : Int) < 2147483629; decide), ?_⟩⟩
    refine ⟨_, rfl, a, _, rfl, .inl (keep hp), _, rfl, by rw [List.length_map]; omega, by rw [List.length_map]; omega, for_range (lo := 0) (n := (((zs.map V.int).length : Nat) : Int).toNat)
      (fun i σ H' => ∃ (sd : Int) (v6 v7 : Option V) (r : Int) (ns : List Int), σ = [some (.int c), some (.ref a), some (.ref p), some (.int r), none, some (.int sd), v6, v7] ∧ 0 ≤ sd ∧ sd < 2147483648 ∧ H' = upd H p (.lst (ns.map V.int)) ∧ Dig ns (zs.take i))
      ⟨_, none, none, _, [], rfl, Int.emod_nonneg _ (by decide), Int.lt_trans (Int.emod_lt_of_pos _ (by decide)) (by decide), rfl, .nil⟩ ?_ ?_⟩
    · rintro i σ H' hi ⟨sd, v6, v7, r, ns, rfl, hs0, hs1, rfl, hd⟩
      rw [Int.toNat_natCast, List.length_map] at hi
      obtain ⟨x, hx⟩ : ∃ x, zs[i]? = some x := ⟨zs[i], List.getElem?_eq_getElem hi⟩
      have hx2 := hz x (List.mem_of_getElem? hx)
      have hlen : ns.length ≤ 1000 := by
        have := hd.len
        rw [List.length_take] at this
        omega
      refine ⟨_, rfl, _, _, rfl, rfl, .inr (by decide), _, rfl, _, _, rfl, rfl, .inl (by decide), _, _, rfl, rfl, _, _, rfl, rfl, .inl ⟨_, rfl, _, _, rfl, rfl, (by show (0 : Int) < 2147483647; decide), ?_⟩⟩
      have b0 : 0 ≤ (sd * 48271 + 974711 * (0 + (i : Int)) + 12345) % 2147483647 := Int.emod_nonneg _ (by decide)
      have b1 : (sd * 48271 + 974711 * (0 + (i : Int)) + 12345) % 2147483647 < 2147483648 := Int.lt_trans (Int.emod_lt_of_pos _ (by decide)) (by decide)
      refine ⟨_, rfl, _, rfl, _, _, rfl, rfl, ⟨by decide, by decide⟩, _, _, rfl, rfl, _, _, rfl, rfl, .inl ⟨Int.lt_of_lt_of_le (by decide) b0, Int.lt_trans b1 (by decide)⟩, .inl ⟨_, rfl, _, _, rfl, rfl, (by show (0 : Int) < 2147483629; decide), ?_⟩⟩
      refine ⟨_, rfl, .inl ⟨rfl, _, SqL.of upd_same⟩, _, rfl, _, _, rfl, rfl, ⟨by decide, by decide⟩, _, rfl, _, rfl, a, _, _, _, rfl, rfl, keep hp, at_pos (by omega) (int_at (by rw [show ((0 : Int) + (i : Nat)).toNat = i by omega]; exact hx)), _, _, rfl, rfl, hx2.1, p, _, _, rfl, rfl, upd_same, by rw [List.length_map]; exact small1000 hlen, ?_⟩
      exact ⟨_, _, _, r, _, rfl, b0, b1, by rw [upd_upd, snoc_int], by rw [take_snoc hx]; exact hd.snoc (Int.emod_nonneg _ (by omega)) (Int.emod_lt_of_pos _ hx2.1)⟩
    · rintro σ H' ⟨sd, v6, v7, r, ns, rfl, hs0, hs1, rfl, hd⟩
      rw [Int.toNat_natCast, List.length_map, List.take_length] at hd
      exact ⟨_, rfl, q p ns hp hd⟩
end
section
variable {P : Program} {w : World} {K : PySem.W.Frag} {mg : Str → Option Value} {base : Heap} {f : Addr} {fd : FuncData}
def spLaw_whole : Sp := fun vs H Q _ => ∃ i : Int, vs = [.int i] ∧ Q (.bl true) H
abbrev s__law_whole : Stmt := top 47
abbrev N__law_whole : List Str := ["value"]
theorem sc__law_whole : FnScope N__law_whole ["value"] (defScope s__law_whole) := ⟨rfl, rfl, rfl, by decide +kernel, rfl, by decide +kernel, by decide +kernel⟩
theorem ok__law_whole (F : Fun K "_law_whole" "_law_whole" s__law_whole f fd) (T : Txt mg) : FnOk P w K mg base CX0 1 f fd ["value"] spLaw_whole := by
  refine F.ok sc__law_whole (fun vs H Q E h => ?_) (fun cdv A outer s H vs Q E hr h => ?_)
  · obtain ⟨i, rfl, _⟩ := h
    rfl
  obtain ⟨i, rfl, q⟩ := h
  refine ⟨_, (pss_one (ps_ret (pe_and (pe_callB call_isi (by rfl) T.b_isinstance (by decide +kernel) (pa_cons (pv 0) (pa_cons (pe_bltn (v := .ty "int") (by rfl) T.b_int (by decide +kernel) rfl) pa_nil))) (pe_one (pe_not (pe_callB call_isi (by rfl) T.b_isinstance (by decide +kernel) (pa_cons (pv 0) (pa_cons (pe_bltn (v := .ty "bool") (by rfl) T.b_bool (by decide +kernel) rfl) pa_nil)))))))), ?_⟩
  refine ⟨_, rfl, _, _, _, _, true, rfl, .ty _, .base (.int i), kit1, true, rfl, ifT rfl ?_⟩
  exact ⟨_, rfl, _, _, _, _, false, rfl, .ty _, .base (.int i), kit2, false, rfl, q⟩
theorem okH__law_whole (F : Fun K "_law_whole" "_law_whole" s__law_whole f fd) (T : Txt mg) : L2H.FnH P w K mg base CX0 1 f fd ["value"] spLaw_whole := by
  refine okH F sc__law_whole (fun vs H Q E h => ?_) (fun cdv A outer s H vs Q E p hr hot h => ?_)
  · obtain ⟨i, rfl, _⟩ := h
    rfl
  obtain ⟨i, rfl, q⟩ := h
  refine ⟨_, (pss_one (ps_ret (pe_and (pe_callB call_isi (by rfl) T.b_isinstance (by decide +kernel) (pa_cons (pv 0) (pa_cons (pe_bltn (v := .ty "int") (by rfl) T.b_int (by decide +kernel) rfl) pa_nil))) (pe_one (pe_not (pe_callB call_isi (by rfl) T.b_isinstance (by decide +kernel) (pa_cons (pv 0) (pa_cons (pe_bltn (v := .ty "bool") (by rfl) T.b_bool (by decide +kernel) rfl) pa_nil)))))))), ?_⟩
  refine ⟨_, rfl, _, _, _, _, true, rfl, .ty _, .base (.int i), kit1, true, rfl, ifT rfl ?_⟩
  exact ⟨_, rfl, _, _, _, _, false, rfl, .ty _, .base (.int i), kit2, false, rfl, q⟩
def spGcd : Sp := fun vs H Q _ => ∃ a b : Int, vs = [.int a, .int b] ∧ B 6500 b ∧ Q (.int (gI a b)) H
abbrev s__law_gcd : Stmt := top 50
abbrev N__law_gcd : List Str := ["one", "two", "turn", "rest"]
theorem sc__law_gcd : FnScope N__law_gcd ["one", "two"] (defScope s__law_gcd) := ⟨rfl, rfl, rfl, by decide +kernel, rfl, by decide +kernel, by decide +kernel⟩
theorem abs_nat (a : Int) : (if a < 0 then -a else a) = ((a.natAbs : Nat) : Int) := by
  split <;> omega
theorem ok__law_gcd (F : Fun K "_law_gcd" "_law_gcd" s__law_gcd f fd) (T : Txt mg) : FnOk P w K mg base CX0 1 f fd ["one", "two"] spGcd := by
  refine F.ok sc__law_gcd (fun vs H Q E h => ?_) (fun cdv A outer s H vs Q E hr h => ?_)
  · obtain ⟨a, b, rfl, _⟩ := h
    rfl
  obtain ⟨a, b, rfl, hB, q⟩ := h
  refine ⟨_, (pss_cons (ps_set (i := 0) sc__law_gcd.nd rfl (Or.inl rfl) (pe_callB call_abs (by rfl) T.b_abs (by decide +kernel) (pa_cons (pv 0) pa_nil)))
  (pss_cons (ps_set (i := 1) sc__law_gcd.nd rfl (Or.inl rfl) (pe_callB call_abs (by rfl) T.b_abs (by decide +kernel) (pa_cons (pv 1) pa_nil)))
  (pss_cons (ps_for PassesOwn.never rfl (pi_range1 (by rfl) T.b_range (pa_cons pe_int pa_nil)) (pg_name (i := 2) sc__law_gcd.nd rfl (Or.inl rfl)) (pss_cons (ps_if (pt_cmpR op_eq (pv 1) pe_int (nomark _)) (pss_one ps_break) pss_nil)
  (pss_cons (ps_set (i := 3) sc__law_gcd.nd rfl (Or.inl rfl) (pe_op op_mod (pe_callTy call_int1 (by rfl) T.b_int (by decide +kernel) (pa_cons (pv 0) pa_nil)) (pv 1)))
  (pss_cons (ps_set (i := 0) sc__law_gcd.nd rfl (Or.inl rfl) (pv 1))
  (pss_one (ps_set (i := 1) sc__law_gcd.nd rfl (Or.inl rfl) (pv 3)))))))
  (pss_one (ps_ret (pv 0)))))), ?_⟩
  refine seq_asg ⟨_, rfl, _, rfl, ?_⟩
  rw [abs_nat a]
  refine seq_asg ⟨_, rfl, _, rfl, ?_⟩
  rw [abs_nat b]
  refine ⟨100000, rfl, by decide, by decide, for_range (lo := 0) (n := (100000 : Int).toNat) (fun i σ H' => ∃ (x y : Nat) (v2 v3 : Option V), σ = [some (.int (x : Nat)), some (.int (y : Nat)), v2, v3] ∧ H' = H ∧ Eu a.natAbs b.natAbs i x y) ⟨a.natAbs, b.natAbs, none, none, rfl, rfl, eu_start⟩ ?_ ?_⟩
  · rintro i σ H' hi ⟨x, y, v2, v3, rfl, rfl, e⟩
    refine ⟨_, rfl, rfl, _, rfl, ?_⟩
    refine ite2 (fun c => ?_) (fun c => ?_)
    · have hy : y = 0 := by
        have := V.int.inj (of_decide_eq_true c)
        omega
      subst hy
      refine ⟨_, rfl, ?_⟩
      rw [eu_gcd e]
      exact q
    · have hy : y ≠ 0 := fun z => c (by subst z; exact decide_eq_true rfl)
      refine ⟨_, rfl, .inl ⟨_, rfl, _, rfl, _, _, rfl, rfl, by omega, ?_⟩⟩
      refine ⟨_, rfl, _, rfl, ?_⟩
      exact ⟨y, x % y, _, _, rfl, rfl, eu_step hB e hy⟩
  · rintro σ H' ⟨x, y, v2, v3, rfl, rfl, e⟩
    have hy := eu_end e
    subst hy
    refine ⟨_, rfl, ?_⟩
    rw [eu_gcd e]
    exact q
def spLeast : Sp := fun vs H Q _ => ∃ t b : Int, vs = [.int t, .int b] ∧ 0 < b ∧ B 6500 b ∧ ∀ r H', Same H H' → FrAt H' r (t / gI t b) (b / gI t b) → Q (.ref r) H'
abbrev s__law_least : Stmt := top 51
abbrev N__law_least : List Str := ["top", "under", "shared"]
theorem sc__law_least : FnScope N__law_least ["top", "under"] (defScope s__law_least) := ⟨rfl, rfl, rfl, by decide +kernel, rfl, by decide +kernel, by decide +kernel⟩
theorem ok__law_least (F : Fun K "_law_least" "_law_least" s__law_least f fd) (T : Txt mg) (C__law_gcd : Cal P w K mg base 1 "_law_gcd" ["one", "two"] spGcd) : FnOk P w K mg base CX0 2 f fd ["top", "under"] spLeast := by
  refine F.ok sc__law_least (fun vs H Q E h => ?_) (fun cdv A outer s H vs Q E hr h => ?_)
  · obtain ⟨t, b, rfl, _⟩ := h
    rfl
  obtain ⟨t, b, rfl, hb, hB, q⟩ := h
  refine ⟨_, (pss_cons (ps_if (pt_cmpR op_lt (pv 1) pe_int (nomark _)) (pss_cons (ps_set (i := 0) sc__law_least.nd rfl (Or.inl rfl) (pe_un un_neg (pv 0)))
  (pss_one (ps_set (i := 1) sc__law_least.nd rfl (Or.inl rfl) (pe_un un_neg (pv 1))))) pss_nil)
  (pss_cons (ps_set (i := 2) sc__law_least.nd rfl (Or.inl rfl) (pe_cal C__law_gcd (hr.mono (by omega)) rfl (pa_cons (pv 0) (pa_cons (pv 1) pa_nil))))
  (pss_one (ps_ret (pe_tup (pa_cons (pe_op op_fdivW (pv 0) (pv 2)) (pa_cons (pe_op op_fdivW (pv 1) (pv 2)) pa_nil))))))), ?_⟩
  refine ⟨_, rfl, _, _, rfl, rfl, _, rfl, ifF (decide_eq_false (by omega)) ?_⟩
  refine ⟨_, rfl, _, rfl, t, b, rfl, hB, ?_⟩
  have g := gI_pos' (t := t) hb
  have gB : B 6500 (gI t b) := B.le (Int.le_of_lt g) (gI_leb hb) hB
  exact ⟨_, rfl, _, rfl, _, _, rfl, rfl, wdiv g gB (by decide) (by decide), _, rfl, _, rfl, _, _, rfl, rfl, wdiv g gB (by decide) (by decide), two_line, fun r hr' => q r _ (same_new hr' _) upd_same⟩
/-! ### _law_is_fraction -/
def spFrac : Sp := fun vs H Q _ => ∃ (p : Addr) (t b : Int), vs = [.ref p] ∧ FrAt H p t b ∧ 1 ≤ b ∧ B 6500 b ∧ gI t b = 1 ∧ Q (.bl true) H
abbrev s__law_is_fraction : Stmt := top 52
abbrev N__law_is_fraction : List Str := ["value"]
theorem sc__law_is_fraction : FnScope N__law_is_fraction ["value"] (defScope s__law_is_fraction) := ⟨rfl, rfl, rfl, by decide +kernel, rfl, by decide +kernel, by decide +kernel⟩
theorem ok__law_is_fraction (F : Fun K "_law_is_fraction" "_law_is_fraction" s__law_is_fraction f fd) (T : Txt mg) (C__law_whole : Cal P w K mg base 1 "_law_whole" ["value"] spLaw_whole) (C__law_gcd : Cal P w K mg base 1 "_law_gcd" ["one", "two"] spGcd) : FnOk P w K mg base CX0 2 f fd ["value"] spFrac := by
  refine F.ok sc__law_is_fraction (fun vs H Q E h => ?_) (fun cdv A outer s H vs Q E hr h => ?_)
  · obtain ⟨p, t, b, rfl, _⟩ := h
    rfl
  obtain ⟨p, t, b, rfl, hp, hb, hB, hg, q⟩ := h
  refine ⟨_, (pss_cons (ps_if (PW.pt (pw_or (pt_not (pt_val (pe_callB call_isi (by rfl) T.b_isinstance (by decide +kernel) (pa_cons (pv 0) (pa_cons (pe_bltn (v := .ty "tuple") (by rfl) T.b_tuple (by decide +kernel) rfl) pa_nil))))) (pw_or (pt_cmpR op_ne (pe_callB call_len_seq (by rfl) T.b_len PySem.boot_len (pa_cons (pv 0) pa_nil)) pe_int (nomark _)) (pw_or (pt_not (pt_val (pe_cal C__law_whole (hr.mono (by omega)) rfl (pa_cons (pe_ix ix_tup (pv 0) pe_int (fun _ _ => rfl)) pa_nil)))) (pw_or1 (pt_not (pt_val (pe_cal C__law_whole (hr.mono (by omega)) rfl (pa_cons (pe_ix ix_tup (pv 0) pe_int (fun _ _ => rfl)) pa_nil))))))))) (pss_one (ps_ret pe_bl)) pss_nil)
  (pss_one (ps_ret (pe_and (pe_cmpR op_ge (pe_ix ix_tup (pv 0) pe_int (fun _ _ => rfl)) pe_int (nomark _)) (pe_one (pe_cmpR op_eq (pe_cal C__law_gcd (hr.mono (by omega)) rfl (pa_cons (pe_ix ix_tup (pv 0) pe_int (fun _ _ => rfl)) (pa_cons (pe_ix ix_tup (pv 0) pe_int (fun _ _ => rfl)) pa_nil))) pe_int (nomark _))))))), ?_⟩
  refine ⟨_, rfl, _, _, _, _, true, rfl, .ty _, .base (.tup hp), kit6, true, rfl, ifF rfl ?_⟩
  refine ⟨_, rfl, p, _, rfl, .inr (SqT.of hp), rfl, _, rfl, ifF (by simp) ?_⟩
  refine ⟨_, rfl, p, _, 0, _, rfl, rfl, SqT.of hp, at_pos (by decide) rfl, t, rfl, true, rfl, ifF rfl ?_⟩
  refine ⟨_, rfl, p, _, 1, _, rfl, rfl, SqT.of hp, at_pos (by decide) rfl, b, rfl, true, rfl, ifF rfl ?_⟩
  refine ⟨_, rfl, p, _, 1, _, rfl, rfl, SqT.of hp, at_pos (by decide) rfl, _, _, rfl, rfl, _, rfl, ifT (decide_eq_true hb) ?_⟩
  refine ⟨_, rfl, p, _, 0, _, rfl, rfl, SqT.of hp, at_pos (by decide) rfl, _, rfl, p, _, 1, _, rfl, rfl, SqT.of hp, at_pos (by decide) rfl, t, b, rfl, hB, rfl, ?_⟩
  rw [hg]
  exact q
end
end P41
namespace P41
open PySem PySem.Spec PyProof.Rows L2 SX EX WK
theorem szs {zs : List Int} (h : ∀ z ∈ zs, 0 < z ∧ z < 9223372036854775808) : ∀ z ∈ zs, 0 < z ∧ z.natAbs < 2 ^ 2000 := fun z hz => by
  have h1 := h z hz
  refine ⟨h1.1, ?_⟩
  have h2 : z.natAbs < 2 ^ 63 := by omega
  exact Nat.lt_of_lt_of_le h2 (Nat.pow_le_pow_right (by decide) (by decide))
theorem pick {cs : List Int} {d : Int} (h0 : 0 ≤ d) (h1 : d < (cs.length : Nat)) : ∃ x, x ∈ cs ∧ (cs.map V.int)[d.toNat]? = some (.int x) := by
  have hl : d.toNat < cs.length := by omega
  exact ⟨cs[d.toNat], List.getElem_mem hl, at_int (List.getElem?_eq_getElem hl)⟩
/-- places of a pair, of a tie -/
def R2 : Hp → V → Int × Int → Prop := fun H v e => ∃ p, v = .ref p ∧ H p = some (.tup [.int e.1, .int e.2])
def R3 : Hp → V → T3 → Prop := fun H v t => ∃ p, v = .ref p ∧ H p = some (.tup [.int t.1, .int t.2.1, .int t.2.2])
theorem stb_R2 {D : Addr} : StbD D R2 := fun H H' v z ⟨l, hl⟩ e ⟨p, h1, h2⟩ => ⟨p, h1, e _ _ (fun z => by rw [z, hl] at h2; cases h2) h2⟩
theorem stb_R3 {D : Addr} : StbD D R3 := fun H H' v z ⟨l, hl⟩ e ⟨p, h1, h2⟩ => ⟨p, h1, e _ _ (fun z => by rw [z, hl] at h2; cases h2) h2⟩
/-- a list that grows -/
structure Gr {α : Type} (R : Hp → V → α → Prop) (H0 : Hp) (D : Addr) (zs : List α) (H : Hp) : Prop where
  same : Same H0 H
  at_ : ∃ vs, H D = some (.lst vs) ∧ Rs R H vs zs
theorem Gr.start {α : Type} {R : Hp → V → α → Prop} {H : Hp} {D : Addr} (h : H D = none) : Gr R H D [] (upd H D (.lst [])) := ⟨new_same h _, [], upd_same, Rs.nil⟩
theorem Gr.keep {α : Type} {R : Hp → V → α → Prop} {H0 H H' : Hp} {D : Addr} {zs : List α} (st : StbD D R) (g : Gr R H0 D zs H) (e : Same H H') : Gr R H0 D zs H' := by
  obtain ⟨s, vs, h1, h2⟩ := g
  exact ⟨s.trans e, vs, e _ _ h1, h2.tkD st ⟨vs, h1⟩ fun b o _ h => e _ _ h⟩
theorem Gr.push {α : Type} {R : Hp → V → α → Prop} {H0 H : Hp} {D : Addr} {zs : List α} {vs : List V} {v : V} {z : α} (st : StbD D R) (s : Same H0 H) (hD : H0 D = none) (h1 : H D = some (.lst vs)) (h2 : Rs R H vs zs) (r : R H v z) : Gr R H0 D (zs ++ [z]) (upd H D (.lst (vs ++ [v]))) := by
  refine ⟨same_at s hD, _, upd_same, Rs.snoc (h2.tkD st ⟨vs, h1⟩ fun b o hb h => ?_) (st _ _ _ _ ⟨vs, h1⟩ (fun b o hb h => ?_) r)⟩
  all_goals
    rw [upd_ne hb]
    exact h
/-- two different places -/
def OkE (pl : Int) (e : Int × Int) : Prop := e.1 ≠ e.2 ∧ 0 ≤ e.1 ∧ e.1 < pl ∧ 0 ≤ e.2 ∧ e.2 < pl
theorem ok_two {pl a x : Int} (hp : 1 < pl) (h0 : 0 ≤ a) (h1 : a < pl) : OkE pl (a, (a + 1 + x % (pl - 1)) % pl) := by
  have g0 := Int.emod_nonneg x (show pl - 1 ≠ 0 by omega)
  have g1 := Int.emod_lt_of_pos x (show 0 < pl - 1 by omega)
  generalize x % (pl - 1) = d at g0 g1
  refine ⟨fun e => ?_, h0, h1, Int.emod_nonneg _ (by omega), Int.emod_lt_of_pos _ (by omega)⟩
  have e1 : a = (a + 1 + d) % pl := e
  by_cases h : a + 1 + d < pl
  · rw [Int.emod_eq_of_lt (by omega) h] at e1
    omega
  · have e2 : (a + 1 + d) % pl = a + 1 + d - pl := by
      rw [← Int.sub_emod_right, Int.emod_eq_of_lt (by omega) (by omega)]
    omega
theorem rep_map (k : Nat) (cs : List Int) : (List.replicate k (cs.map V.int)).flatten = ((List.replicate k cs).flatten).map V.int := by
  rw [List.map_flatten, List.map_replicate]
theorem rep_len (k : Nat) (cs : List Int) : (List.replicate k cs).flatten.length = k * cs.length := by
  rw [List.length_flatten, List.map_replicate, List.sum_replicate_nat]
theorem rep_mem {k : Nat} {cs : List Int} {z : Int} (h : z ∈ (List.replicate k cs).flatten) : z ∈ cs := by
  obtain ⟨l, hl, hz⟩ := List.mem_flatten.mp h
  rw [(List.mem_replicate.mp hl).2] at hz
  exact hz
theorem Dig.mem {ns zs : List Int} (d : Dig ns zs) {m : Int} (h : ∀ z ∈ zs, z ≤ m) : ∀ n ∈ ns, 0 ≤ n ∧ n < m := fun n hn => by
  obtain ⟨i, hi⟩ := List.mem_iff_getElem?.mp hn
  have hl : i < zs.length := by
    have := (List.getElem?_eq_some_iff.mp hi).1
    have := d.len
    omega
  obtain ⟨n', h1, h2, h3⟩ := d.get (List.getElem?_eq_getElem hl)
  rw [hi] at h1
  cases h1
  have := h _ (List.getElem_mem hl)
  omega
section
variable {P : Program} {w : World} {K : PySem.W.Frag} {mg : Str → Option Value} {base : Heap} {f : Addr} {fd : FuncData}
def spMkw (K : PySem.W.Frag) : Sp := fun vs H Q _ => ∃ (h : Int) (a : Addr) (d0 d1 d2 : Int), vs = [.int h, .ref a] ∧ SqL K H a [.int d0, .int d1, .int d2] ∧ (0 ≤ d0 ∧ d0 < 1000000000000) ∧ (0 ≤ d1 ∧ d1 < 1000000000000) ∧ (0 ≤ d2 ∧ d2 < 1000000000000) ∧
  ∀ s H', Same H H' → 1 ≤ s → B 200 s → Q (.int s) H'
theorem B_small {x : Int} (h : -1000000000000 ≤ x ∧ x ≤ 1000000000000) : B 200 x := B.mono (m := 60) (show x.natAbs < 2 ^ 60 by omega) (by decide)
theorem B_big {x : Int} (h : 0 ≤ x ∧ x < 1000000000000) : 1 ≤ (10 : Int) ^ (60 : Int).toNat + x ∧ B 200 ((10 : Int) ^ (60 : Int).toNat + x) := by
  have e : (10 : Int) ^ (60 : Int).toNat = 1000000000000000000000000000000000000000000000000000000000000 := by decide
  rw [e]
  refine ⟨by omega, ?_⟩
  show Int.natAbs _ < 2 ^ 200
  omega
abbrev s__law_draw_weight : Stmt := top 53
abbrev N__law_draw_weight : List Str := ["heavy", "row"]
theorem sc__law_draw_weight : FnScope N__law_draw_weight ["heavy", "row"] (defScope s__law_draw_weight) := ⟨rfl, rfl, rfl, by decide +kernel, rfl, by decide +kernel, by decide +kernel⟩
theorem ok__law_draw_weight (F : Fun K "_law_draw_weight" "_law_draw_weight" s__law_draw_weight f fd) (T : Txt mg) : FnOk P w K mg base CX0 1 f fd ["heavy", "row"] (spMkw K) := by
  refine F.ok sc__law_draw_weight (fun vs H Q E h => ?_) (fun cdv A outer s H vs Q E hr h => ?_)
  · obtain ⟨h, a, d0, d1, d2, rfl, _⟩ := h
    rfl
  obtain ⟨h, a, d0, d1, d2, rfl, ha, b0, b1, b2, q⟩ := h
  refine ⟨_, (pss_cons (ps_if (pt_cmpR op_eq (pv 0) pe_int (nomark _)) (pss_one (ps_ret pe_int)) pss_nil)
  (pss_cons (ps_if (pt_cmpR op_eq (pv 0) pe_int (nomark _)) (pss_one (ps_ret (pe_op op_add pe_int (pe_ix ix_list (pv 1) pe_int (fun _ _ => rfl))))) pss_nil)
  (pss_cons (ps_if (pt_cmpR op_eq (pv 0) pe_int (nomark _)) (pss_one (ps_ret (pe_ix ix_list (pe_lst (pa_cons pe_int (pa_cons pe_int pa_nil))) (pe_op op_mod (pe_callTy call_int1 (by rfl) T.b_int (by decide +kernel) (pa_cons (pe_ix ix_list (pv 1) pe_int (fun _ _ => rfl)) pa_nil)) pe_int) (fun _ _ => rfl)))) pss_nil)
  (pss_cons (ps_if (pt_cmpR op_eq (pv 0) pe_int (nomark _)) (pss_one (ps_ret (pe_op op_add pe_int (pe_ix ix_list (pv 1) pe_int (fun _ _ => rfl))))) pss_nil)
  (pss_cons (ps_if (pt_cmpR op_eq (pv 0) pe_int (nomark _)) (pss_one (ps_ret (pe_op op_add (pe_op op_pow pe_int pe_int) (pe_ix ix_list (pv 1) pe_int (fun _ _ => rfl))))) pss_nil)
  (pss_one (ps_ret (pe_op op_add pe_int (pe_ix ix_list (pv 1) pe_int (fun _ _ => rfl)))))))))), ?_⟩
  have sm : Same H H := fun _ _ h => h
  refine ⟨_, rfl, rfl, _, rfl, ite2 (fun _ => q 1 H sm (by decide) (B_small (by decide))) (fun _ => ?_)⟩
  refine ⟨_, rfl, rfl, _, rfl, ite2 (fun _ => ?_) (fun _ => ?_)⟩
  · exact ⟨_, rfl, a, _, 1, _, rfl, rfl, ha, at_pos (by decide) rfl, _, _, rfl, rfl, q _ H sm (by omega) (B_small (by omega))⟩
  refine ⟨_, rfl, rfl, _, rfl, ite2 (fun _ => ?_) (fun _ => ?_)⟩
  · refine ⟨two_line, fun l hl => ⟨_, rfl, a, _, 1, _, rfl, rfl, (same_new hl _).seq ha, at_pos (by decide) rfl, .inl ⟨_, rfl, _, _, rfl, rfl, (by show (0 : Int) < 2; decide), ?_⟩⟩⟩
    have g0 := Int.emod_nonneg d1 (show (2 : Int) ≠ 0 by decide)
    have g1 := Int.emod_lt_of_pos d1 (show (0 : Int) < 2 by decide)
    obtain ⟨x, hx, hp⟩ := pick (cs := [1, 1000000]) g0 g1
    have hb : ∀ x ∈ ([1, 1000000] : List Int), 1 ≤ x ∧ x ≤ 1000000 := by decide
    exact ⟨l, _, _, _, rfl, rfl, SqL.of upd_same, at_pos g0 hp, q _ _ (same_new hl _) (hb x hx).1 (B_small (by have := hb x hx; omega))⟩
  refine ⟨_, rfl, rfl, _, rfl, ite2 (fun _ => ?_) (fun _ => ?_)⟩
  · exact ⟨_, rfl, a, _, 2, _, rfl, rfl, ha, at_pos (by decide) rfl, _, _, rfl, rfl, q _ H sm (by omega) (B_small (by omega))⟩
  refine ⟨_, rfl, rfl, _, rfl, ite2 (fun _ => ?_) (fun _ => ?_)⟩
  · refine ⟨_, _, rfl, rfl, ⟨by decide, by decide, by decide⟩, _, rfl, a, _, 2, _, rfl, rfl, ha, at_pos (by decide) rfl, _, _, rfl, rfl, ?_⟩
    exact q _ H sm (B_big b2).1 (B_big b2).2
  exact ⟨_, rfl, a, _, 0, _, rfl, rfl, ha, at_pos (by decide) rfl, _, _, rfl, rfl, q _ H sm (by omega) (B_small (by omega))⟩
end
end P41
namespace P41
open PySem PySem.Spec PyProof.Rows L2 SX EX WK
/-- ties in the heap, as the law keeps them -/
def TiesAt (H : Hp) (l : Addr) (ts : List T3) : Prop := ∃ vs, H l = some (.lst vs) ∧ Rs R3 H vs ts
theorem TiesAt.same {H H' : Hp} {l : Addr} {ts : List T3} (h : TiesAt H l ts) (e : Same H H') : TiesAt H' l ts := by
  obtain ⟨vs, h1, h2⟩ := h
  exact ⟨vs, e _ _ h1, h2.tkD (stb_R3 (D := l)) ⟨vs, h1⟩ fun b o _ h => e _ _ h⟩
theorem dig7 {ns : List Int} {a b c d e f g : Int} (h : Dig ns [a, b, c, d, e, f, g]) : ∃ x0 x1 x2 x3 x4 x5 x6, ns = [x0, x1, x2, x3, x4, x5, x6] ∧ (0 ≤ x0 ∧ x0 < a) ∧ (0 ≤ x1 ∧ x1 < b) ∧ (0 ≤ x2 ∧ x2 < c) ∧ (0 ≤ x3 ∧ x3 < d) ∧ (0 ≤ x4 ∧ x4 < e) ∧ (0 ≤ x5 ∧ x5 < f) ∧ (0 ≤ x6 ∧ x6 < g) := by
  cases h with | cons h0 h =>
  cases h with | cons h1 h =>
  cases h with | cons h2 h =>
  cases h with | cons h3 h =>
  cases h with | cons h4 h =>
  cases h with | cons h5 h =>
  cases h with | cons h6 h =>
  cases h
  exact ⟨_, _, _, _, _, _, _, rfl, h0, h1, h2, h3, h4, h5, h6⟩
theorem take_three {ns : List Int} {k : Nat} (h : 3 * k + 3 ≤ ns.length) : ∃ a b c, (ns.drop (3 * k)).take 3 = [a, b, c] ∧ a ∈ ns ∧ b ∈ ns ∧ c ∈ ns := by
  have e : ns.drop (3 * k) = ns[3 * k] :: ns[3 * k + 1] :: ns[3 * k + 2] :: ns.drop (3 * k + 3) := by
    rw [List.drop_eq_getElem_cons (by omega), List.drop_eq_getElem_cons (by omega : 3 * k + 1 < ns.length), List.drop_eq_getElem_cons (by omega : 3 * k + 2 < ns.length)]
  exact ⟨_, _, _, by rw [e]; rfl, List.getElem_mem _, List.getElem_mem _, List.getElem_mem _⟩
def spDraw (K : PySem.W.Frag) : Sp := fun vs H Q _ => ∃ (a : Addr) (ns : List Int), vs = [.ref a] ∧ SqL K H a (ns.map V.int) ∧
  ∀ (r tl : Addr) (pl : Nat) (ts : List T3) (b : Int) (H' : Hp), Same H H' → H' r = some (.lst [.int pl, .ref tl, .int b]) → TiesAt H' tl ts → pl ≤ 10 → ts.length ≤ 200 → (∀ t ∈ ts, OkE pl (t.1, t.2.1) ∧ 1 ≤ t.2.2 ∧ B 200 t.2.2) → 1 ≤ b → B 200 b → Q (.ref r) H'
section
variable {P : Program} {w : World} {K : PySem.W.Frag} {mg : Str → Option Value} {base : Heap} {f : Addr} {fd : FuncData}
abbrev s__law_draw_web : Stmt := top 54
abbrev N__law_draw_web : List Str := ["script", "row", "places", "many", "ends", "one", "two", "spots", "k", "worths", "ties"]
theorem sc__law_draw_web : FnScope N__law_draw_web ["script"] (defScope s__law_draw_web) := ⟨rfl, rfl, rfl, by decide +kernel, rfl, by decide +kernel, by decide +kernel⟩
theorem ok__law_draw_web (F : Fun K "_law_draw_web" "_law_draw_web" s__law_draw_web f fd) (T : Txt mg) (C__law_cell : Cal P w K mg base 1 "_law_cell" ["script", "k"] (spCell K)) (C__law_digits : Cal P w K mg base 1 "_law_digits" ["cell", "sizes"] (spDigits K)) (C__law_draw_weight : Cal P w K mg base 1 "_law_draw_weight" ["heavy", "row"] (spMkw K)) : FnOk P w K mg base CX0 2 f fd ["script"] (spDraw K) := by
  refine F.ok sc__law_draw_web (fun vs H Q E h => ?_) (fun cdv A outer s H vs Q E hr h => ?_)
  · obtain ⟨a, ns, rfl, _⟩ := h
    rfl
  obtain ⟨a, ns, rfl, ha, q⟩ := h
  refine ⟨_, (pss_cons (ps_set (i := 1) sc__law_draw_web.nd rfl (Or.inl rfl) (pe_cal C__law_digits (hr.mono (by omega)) rfl (pa_cons (pe_cal C__law_cell (hr.mono (by omega)) rfl (pa_cons (pv 0) (pa_cons pe_int pa_nil))) (pa_cons (pe_lst (pa_cons pe_int (pa_cons pe_int (pa_cons pe_int (pa_cons pe_int (pa_cons pe_int (pa_cons pe_int (pa_cons pe_int pa_nil)))))))) pa_nil))))
  (pss_cons (ps_set (i := 2) sc__law_draw_web.nd rfl (Or.inl rfl) (pe_ix ix_list (pe_lst (pa_cons pe_int (pa_cons pe_int (pa_cons pe_int (pa_cons pe_int (pa_cons pe_int (pa_cons pe_int (pa_cons pe_int (pa_cons pe_int (pa_cons pe_int (pa_cons pe_int (pa_cons pe_int (pa_cons pe_int (pa_cons pe_int (pa_cons pe_int (pa_cons pe_int (pa_cons pe_int pa_nil))))))))))))))))) (pe_ix ix_list (pv 1) pe_int (fun _ _ => rfl)) (fun _ _ => rfl)))
  (pss_cons (ps_set (i := 3) sc__law_draw_web.nd rfl (Or.inl rfl) (pe_ix ix_list (pe_lst (pa_cons pe_int (pa_cons pe_int (pa_cons pe_int (pa_cons pe_int (pa_cons pe_int (pa_cons pe_int (pa_cons pe_int (pa_cons pe_int (pa_cons pe_int (pa_cons pe_int (pa_cons pe_int (pa_cons pe_int pa_nil))))))))))))) (pe_ix ix_list (pv 1) pe_int (fun _ _ => rfl)) (fun _ _ => rfl)))
  (C8.pss_cut (ps_if (pt_cmpR op_eq (pe_ix ix_list (pv 1) pe_int (fun _ _ => rfl)) pe_int (nomark _)) (pss_one (ps_set (i := 2) sc__law_draw_web.nd rfl (Or.inl rfl) (pe_ix ix_list (pv 1) pe_int (fun _ _ => rfl)))) pss_nil)
  (C8.pss_cut (ps_if (pt_cmpR op_eq (pe_ix ix_list (pv 1) pe_int (fun _ _ => rfl)) pe_int (nomark _)) (pss_one (ps_set (i := 2) sc__law_draw_web.nd rfl (Or.inl rfl) (pe_op op_add pe_int (pe_op op_mod (pe_callTy call_int1 (by rfl) T.b_int (by decide +kernel) (pa_cons (pe_ix ix_list (pv 1) pe_int (fun _ _ => rfl)) pa_nil)) pe_int)))) pss_nil)
  (C8.pss_cut (ps_if (pt_cmpR op_lt (pe_ix ix_list (pv 1) pe_int (fun _ _ => rfl)) pe_int (nomark _)) (pss_one (ps_set (i := 3) sc__law_draw_web.nd rfl (Or.inl rfl) (pe_op op_mul pe_int (pe_ix ix_list (pv 1) pe_int (fun _ _ => rfl))))) pss_nil)
  (pss_cons (ps_set (i := 4) sc__law_draw_web.nd rfl (Or.inl rfl) (pe_lst pa_nil))
  (C8.pss_cut (ps_if (pt_cmpR op_lt (pe_ix ix_list (pv 1) pe_int (fun _ _ => rfl)) pe_int (nomark _)) (pss_one (ps_for PassesOwn.never rfl (pi_range1 (by rfl) T.b_range (pa_cons (pv 2) pa_nil)) (pg_name (i := 5) sc__law_draw_web.nd rfl (Or.inl rfl)) (pss_one (ps_for PassesOwn.never rfl (pi_range1 (by rfl) T.b_range (pa_cons (pv 5) pa_nil)) (pg_name (i := 6) sc__law_draw_web.nd rfl (Or.inl rfl)) (pss_one (ps_expr (pe_bm PySem.F.plainAttrs_list PySem.F.slot_list_append PySem.F.type_list_append mt_append (pv 4) (pa_cons (pe_tup (pa_cons (pv 5) (pa_cons (pv 6) pa_nil))) pa_nil)))))))) pss_nil)
  (pss_cons (ps_set (i := 3) sc__law_draw_web.nd rfl (Or.inl rfl) (pe_op op_mul (pe_callB (call_min2 rfl) (by rfl) T.b_min (by decide +kernel) (pa_cons (pv 3) (pa_cons (pe_op op_sub pe_int (pe_callB call_len_seq (by rfl) T.b_len PySem.boot_len (pa_cons (pv 4) pa_nil))) pa_nil))) (pe_callTy call_int1 (by rfl) T.b_int (by decide +kernel) (pa_cons (pe_cmpR op_gt (pv 2) pe_int (nomark _)) pa_nil))))
  (pss_cons (ps_set (i := 7) sc__law_draw_web.nd rfl (Or.inl rfl) (pe_cal C__law_digits (hr.mono (by omega)) rfl (pa_cons (pe_cal C__law_cell (hr.mono (by omega)) rfl (pa_cons (pv 0) (pa_cons pe_int pa_nil))) (pa_cons (pe_op op_rep (pe_lst (pa_cons pe_int (pa_cons pe_int pa_nil))) (pv 3)) pa_nil))))
  (pss_cons (ps_for PassesOwn.never rfl (pi_range1 (by rfl) T.b_range (pa_cons (pv 3) pa_nil)) (pg_name (i := 8) sc__law_draw_web.nd rfl (Or.inl rfl)) (pss_cons (ps_set (i := 5) sc__law_draw_web.nd rfl (Or.inl rfl) (pe_op op_mod (pe_callTy call_int1 (by rfl) T.b_int (by decide +kernel) (pa_cons (pe_ix ix_list (pv 7) (pe_op op_mul pe_int (pv 8)) (fun _ _ => rfl)) pa_nil)) (pv 2)))
  (pss_one (ps_expr (pe_bm PySem.F.plainAttrs_list PySem.F.slot_list_append PySem.F.type_list_append mt_append (pv 4) (pa_cons (pe_tup (pa_cons (pv 5) (pa_cons (pe_op op_mod (pe_callTy call_int1 (by rfl) T.b_int (by decide +kernel) (pa_cons (pe_op op_add (pe_op op_add (pv 5) pe_int) (pe_op op_mod (pe_callTy call_int1 (by rfl) T.b_int (by decide +kernel) (pa_cons (pe_ix ix_list (pv 7) (pe_op op_add (pe_op op_mul pe_int (pv 8)) pe_int) (fun _ _ => rfl)) pa_nil)) (pe_op op_sub (pv 2) pe_int))) pa_nil)) (pv 2)) pa_nil))) pa_nil))))))
  (pss_cons (ps_set (i := 9) sc__law_draw_web.nd rfl (Or.inl rfl) (pe_cal C__law_digits (hr.mono (by omega)) rfl (pa_cons (pe_cal C__law_cell (hr.mono (by omega)) rfl (pa_cons (pv 0) (pa_cons pe_int pa_nil))) (pa_cons (pe_op op_rep (pe_lst (pa_cons pe_int (pa_cons pe_int (pa_cons (pe_op op_pow pe_int pe_int) pa_nil)))) (pe_callB call_len_seq (by rfl) T.b_len PySem.boot_len (pa_cons (pv 4) pa_nil))) pa_nil))))
  (pss_cons (ps_set (i := 10) sc__law_draw_web.nd rfl (Or.inl rfl) (pe_lst pa_nil))
  (pss_cons (ps_for PassesOwn.never rfl (pi_range1 (by rfl) T.b_range (pa_cons (pe_callB call_len_seq (by rfl) T.b_len PySem.boot_len (pa_cons (pv 4) pa_nil)) pa_nil)) (pg_name (i := 8) sc__law_draw_web.nd rfl (Or.inl rfl)) (pss_one (ps_expr (pe_bm PySem.F.plainAttrs_list PySem.F.slot_list_append PySem.F.type_list_append mt_append (pv 10) (pa_cons (pe_tup (pa_cons (pe_ix ix_tup (pe_ix ix_list (pv 4) (pv 8) (fun _ _ => rfl)) pe_int (fun _ _ => rfl)) (pa_cons (pe_ix ix_tup (pe_ix ix_list (pv 4) (pv 8) (fun _ _ => rfl)) pe_int (fun _ _ => rfl)) (pa_cons (pe_cal C__law_draw_weight (hr.mono (by omega)) rfl (pa_cons (pe_ix ix_list (pv 1) pe_int (fun _ _ => rfl)) (pa_cons (pe_slice sl_list (pv 9) (po_some (pe_op op_mul pe_int (pv 8))) (po_some (pe_op op_add (pe_op op_mul pe_int (pv 8)) pe_int))) pa_nil))) pa_nil)))) pa_nil)))))
  (pss_one (ps_ret (pe_lst (pa_cons (pv 2) (pa_cons (pv 10) (pa_cons (pe_ix ix_list (pe_lst (pa_cons pe_int (pa_cons pe_int (pa_cons pe_int (pa_cons pe_int (pa_cons pe_int (pa_cons pe_int (pa_cons pe_int (pa_cons pe_int (pa_cons (pe_op op_add (pe_op op_pow pe_int pe_int) pe_int) pa_nil)))))))))) (pe_ix ix_list (pv 1) pe_int (fun _ _ => rfl)) (fun _ _ => rfl)) pa_nil)))))))))))))))))))), ?_⟩
  -- row
  refine ⟨_, rfl, a, ns, 0, rfl, ha, by decide, by decide, fun c => ⟨line_ge (by show 7 ≤ 100000; decide), fun l0 hl0 => ?_⟩⟩
  refine ⟨c, l0, [16, 16, 12, 7, 9, 2, 8], rfl, SqL.of upd_same, by decide, szs (by decide), fun p ds hp hd => ?_⟩
  obtain ⟨x0, x1, x2, x3, x4, x5, x6, rfl, h0, h1, h2, h3, h4, h5, h6⟩ := dig7 hd
  have g1 : Same H (upd (upd H l0 (.lst [V.int 16, V.int 16, V.int 12, V.int 7, V.int 9, V.int 2, V.int 8])) p (.lst ([x0, x1, x2, x3, x4, x5, x6].map V.int))) := (same_new hl0 _).trans (same_new hp _)
  have e1 : (upd (upd H l0 (.lst [V.int 16, V.int 16, V.int 12, V.int 7, V.int 9, V.int 2, V.int 8])) p (.lst ([x0, x1, x2, x3, x4, x5, x6].map V.int))) p = some (.lst ([x0, x1, x2, x3, x4, x5, x6].map V.int)) := upd_same
  show tSeq _ _ _ _ (upd (upd H l0 (.lst [V.int 16, V.int 16, V.int 12, V.int 7, V.int 9, V.int 2, V.int 8])) p (.lst ([x0, x1, x2, x3, x4, x5, x6].map V.int)))
  generalize upd (upd H l0 (.lst [V.int 16, V.int 16, V.int 12, V.int 7, V.int 9, V.int 2, V.int 8])) p (.lst ([x0, x1, x2, x3, x4, x5, x6].map V.int)) = H1 at g1 e1
  -- places, many
  refine ⟨line_ge (by show 16 ≤ 100000; decide), fun l1 hl1 => ⟨_, rfl, p, _, 1, _, rfl, rfl, SqL.of (same_new hl1 _ _ _ e1), at_pos (by decide) rfl, ?_⟩⟩
  obtain ⟨y1, m1, k1⟩ := pick (cs := [4, 3, 5, 2, 6, 4, 3, 5, 4, 6, 3, 2, 5, 4, 6, 5]) h1.1 h1.2
  have hb1 : ∀ x ∈ ([4, 3, 5, 2, 6, 4, 3, 5, 4, 6, 3, 2, 5, 4, 6, 5] : List Int), 0 ≤ x ∧ x ≤ 10 := by decide
  refine ⟨l1, _, _, _, rfl, rfl, SqL.of upd_same, at_pos h1.1 k1, ?_⟩
  have g2 := g1.trans (same_new hl1 (.lst ([4, 3, 5, 2, 6, 4, 3, 5, 4, 6, 3, 2, 5, 4, 6, 5].map V.int)))
  have e2 : (upd H1 l1 (.lst ([4, 3, 5, 2, 6, 4, 3, 5, 4, 6, 3, 2, 5, 4, 6, 5].map V.int))) p = _ := same_new hl1 _ _ _ e1
  show tSeq _ _ _ _ (upd H1 l1 (.lst ([4, 3, 5, 2, 6, 4, 3, 5, 4, 6, 3, 2, 5, 4, 6, 5].map V.int)))
  generalize upd H1 l1 (.lst ([4, 3, 5, 2, 6, 4, 3, 5, 4, 6, 3, 2, 5, 4, 6, 5].map V.int)) = H2 at g2 e2
  refine ⟨line_ge (by show 12 ≤ 100000; decide), fun l2 hl2 => ⟨_, rfl, p, _, 2, _, rfl, rfl, SqL.of (same_new hl2 _ _ _ e2), at_pos (by decide) rfl, ?_⟩⟩
  obtain ⟨y2, m2, k2⟩ := pick (cs := [3, 5, 7, 2, 9, 12, 4, 6, 8, 1, 10, 0]) h2.1 h2.2
  have hb2 : ∀ x ∈ ([3, 5, 7, 2, 9, 12, 4, 6, 8, 1, 10, 0] : List Int), 0 ≤ x ∧ x ≤ 44 := by decide
  refine ⟨l2, _, _, _, rfl, rfl, SqL.of upd_same, at_pos h2.1 k2, ?_⟩
  have g3 := g2.trans (same_new hl2 (.lst ([3, 5, 7, 2, 9, 12, 4, 6, 8, 1, 10, 0].map V.int)))
  have e3 : (upd H2 l2 (.lst ([3, 5, 7, 2, 9, 12, 4, 6, 8, 1, 10, 0].map V.int))) p = _ := same_new hl2 _ _ _ e2
  show C8.tCut _ _ _ _ (upd H2 l2 (.lst ([3, 5, 7, 2, 9, 12, 4, 6, 8, 1, 10, 0].map V.int)))
  generalize upd H2 l2 (.lst ([3, 5, 7, 2, 9, 12, 4, 6, 8, 1, 10, 0].map V.int)) = H3 at g3 e3
  have row : ∀ (k : Nat) (x : Int), ([x0, x1, x2, x3, x4, x5, x6].map V.int)[k]? = some (.int x) → atI ([x0, x1, x2, x3, x4, x5, x6].map V.int) (k : Int) = some (.int x) := fun k x h => atI_nat h
  have hr3 := SqL.of (K := K) e3
  refine ⟨fun σ H' => ∃ pl m : Int, σ = [some (.ref a), some (.ref p), some (.int pl), some (.int m), none, none, none, none, none, none, none] ∧ 0 ≤ pl ∧ pl ≤ 10 ∧ 0 ≤ m ∧ m ≤ 44 ∧ H3 = H', ?_, ?_⟩
  · refine ⟨_, rfl, p, _, 0, _, rfl, rfl, hr3, at_pos (by decide) rfl, rfl, _, rfl, ite2 (fun _ => ?_) (fun _ => ?_)⟩
    · exact ⟨_, rfl, p, _, 5, _, rfl, rfl, hr3, at_pos (by decide) rfl, x5, y2, rfl, h5.1, by omega, (hb2 _ m2).1, (hb2 _ m2).2, rfl⟩
    · exact ⟨y1, y2, rfl, (hb1 _ m1).1, (hb1 _ m1).2, (hb2 _ m2).1, (hb2 _ m2).2, rfl⟩
  rintro σ H' ⟨pl, m, rfl, p0, p1, n0, n1, rfl⟩
  refine ⟨fun σ H' => ∃ pl m : Int, σ = [some (.ref a), some (.ref p), some (.int pl), some (.int m), none, none, none, none, none, none, none] ∧ 0 ≤ pl ∧ pl ≤ 10 ∧ 0 ≤ m ∧ m ≤ 44 ∧ H3 = H', ?_, ?_⟩
  · refine ⟨_, rfl, p, _, 0, _, rfl, rfl, hr3, at_pos (by decide) rfl, rfl, _, rfl, ite2 (fun _ => ?_) (fun _ => ?_)⟩
    · have u0 := Int.emod_nonneg x1 (show (4 : Int) ≠ 0 by decide)
      have u1 := Int.emod_lt_of_pos x1 (show (0 : Int) < 4 by decide)
      exact ⟨_, rfl, p, _, 1, _, rfl, rfl, hr3, at_pos (by decide) rfl, .inl ⟨_, rfl, _, _, rfl, rfl, (by show (0 : Int) < 4; decide), _, _, rfl, rfl, 7 + x1 % 4, m, rfl, by omega, by omega, n0, n1, rfl⟩⟩
    · exact ⟨pl, m, rfl, p0, p1, n0, n1, rfl⟩
  rintro σ H' ⟨pl, m, rfl, p0, p1, n0, n1, rfl⟩
  refine ⟨fun σ H' => ∃ pl m : Int, σ = [some (.ref a), some (.ref p), some (.int pl), some (.int m), none, none, none, none, none, none, none] ∧ 0 ≤ pl ∧ pl ≤ 10 ∧ 0 ≤ m ∧ m ≤ 44 ∧ H3 = H', ?_, ?_⟩
  · refine ⟨_, rfl, p, _, 0, _, rfl, rfl, hr3, at_pos (by decide) rfl, _, _, rfl, rfl, _, rfl, ite2 (fun _ => ?_) (fun _ => ?_)⟩
    · exact ⟨_, rfl, p, _, 2, _, rfl, rfl, hr3, at_pos (by decide) rfl, _, _, rfl, rfl, .inl ⟨by decide, by decide⟩, pl, 4 * x2, rfl, p0, p1, by omega, by omega, rfl⟩
    · exact ⟨pl, m, rfl, p0, p1, n0, n1, rfl⟩
  rintro σ H' ⟨pl, m, rfl, p0, p1, n0, n1, rfl⟩
  -- ends
  refine ⟨Nat.zero_le _, fun E hE => ?_⟩
  have row4 : ∀ {H'}, Same H3 H' → SqL K H' p ([x0, x1, x2, x3, x4, x5, x6].map V.int) := fun s => SqL.of (s _ _ e3)
  refine ⟨fun σ H' => ∃ (v5 v6 : Option V) (es : List (Int × Int)), σ = [some (.ref a), some (.ref p), some (.int pl), some (.int m), some (.ref E), v5, v6, none, none, none, none] ∧ Gr R2 H3 E es H' ∧ (∀ e ∈ es, OkE pl e) ∧ es.length ≤ 90, ?_, ?_⟩
  · refine ⟨_, rfl, p, _, 6, _, rfl, rfl, row4 (same_new hE _), at_pos (by decide) rfl, _, _, rfl, rfl, _, rfl, ite2 (fun _ => ?_) (fun _ => ⟨none, none, [], rfl, Gr.start hE, fun e h => (by cases h), Nat.zero_le _⟩)⟩
    refine ⟨_, rfl, pl, rfl, by omega, by omega, for_range (lo := 0) (n := pl.toNat) (fun i σ H' => ∃ (v5 v6 : Option V) (es : List (Int × Int)), σ = [some (.ref a), some (.ref p), some (.int pl), some (.int m), some (.ref E), v5, v6, none, none, none, none] ∧ Gr R2 H3 E es H' ∧ (∀ e ∈ es, OkE pl e) ∧ es.length ≤ 9 * i)
      ⟨none, none, [], rfl, Gr.start hE, fun e h => (by cases h), Nat.zero_le _⟩ ?_ (fun σ H' ⟨v5, v6, es, h1, h2, h3, h4⟩ => ⟨v5, v6, es, h1, h2, h3, by omega⟩)⟩
    rintro i σ H' hi ⟨v5, v6, es, rfl, gr, hok, hlen⟩
    refine ⟨_, rfl, 0 + (i : Int), rfl, by omega, by omega, for_range (lo := 0) (n := (0 + (i : Int)).toNat) (fun j σ H' => ∃ (v6 : Option V) (es : List (Int × Int)), σ = [some (.ref a), some (.ref p), some (.int pl), some (.int m), some (.ref E), some (.int (0 + (i : Int))), v6, none, none, none, none] ∧ Gr R2 H3 E es H' ∧ (∀ e ∈ es, OkE pl e) ∧ es.length ≤ 9 * i + j)
      ⟨v6, es, rfl, gr, hok, by omega⟩ ?_ (fun σ H' ⟨v6, es, h1, h2, h3, h4⟩ => ⟨_, v6, es, h1, h2, h3, by omega⟩)⟩
    rintro j σ H' hj ⟨v6, es, rfl, gr, hok, hlen⟩
    obtain ⟨sg, vs, hvs, hrs⟩ := gr
    refine ⟨_, rfl, .inl ⟨rfl, _, SqL.of hvs⟩, _, rfl, _, rfl, two_line, fun t ht => ?_⟩
    have s1 := same_new ht (.tup [V.int (0 + (i : Int)), V.int (0 + (j : Int))])
    refine ⟨E, vs, _, rfl, rfl, s1 _ _ hvs, by rw [hrs.1]; exact small1000 (by omega), ?_⟩
    refine ⟨_, es ++ [(0 + (i : Int), 0 + (j : Int))], rfl, Gr.push stb_R2 (sg.trans s1) hE (s1 _ _ hvs) (hrs.tkD (stb_R2 (D := E)) ⟨vs, hvs⟩ fun b o _ h => s1 _ _ h) ⟨t, rfl, upd_same⟩, fun e he => ?_, by rw [List.length_append]; simp only [List.length_cons, List.length_nil]; omega⟩
    rcases List.mem_append.mp he with he | he
    · exact hok e he
    · rw [List.mem_singleton.mp he]
      exact ⟨by show 0 + (i : Int) ≠ 0 + (j : Int); omega, by show 0 ≤ 0 + (i : Int); omega, by show 0 + (i : Int) < pl; omega, by show 0 ≤ 0 + (j : Int); omega, by show 0 + (j : Int) < pl; omega⟩
  rintro σ H4 ⟨v5, v6, es, rfl, gr, hok, hlen⟩
  -- many
  obtain ⟨sg, vs, hvs, hrs⟩ := id gr
  refine ⟨_, rfl, _, rfl, E, vs, rfl, .inl (SqL.of hvs), _, _, rfl, rfl, _, _, rfl, ?_⟩
  have hmin : ∀ x y : Int, (if y < x then y else x) ≤ x ∧ ((if y < x then y else x) = x ∨ (if y < x then y else x) = y) := fun x y => by split <;> omega
  generalize hmv : (if 60 - ((vs.length : Nat) : Int) < m then 60 - ((vs.length : Nat) : Int) else m) = mv
  have hvl : vs.length = es.length := hrs.1
  have hm2 : -100 ≤ mv ∧ mv ≤ 100 := by
    have := hmin m (60 - ((vs.length : Nat) : Int))
    rw [hmv] at this
    omega
  refine ⟨_, rfl, _, _, rfl, rfl, .inr ⟨_, rfl, _, _, rfl, rfl, .inl ⟨by omega, by omega⟩, ?_⟩⟩
  have hmm : -100 ≤ mv * (if decide (1 < pl) = true then 1 else 0) ∧ mv * (if decide (1 < pl) = true then 1 else 0) ≤ 100 ∧ (0 < mv * (if decide (1 < pl) = true then 1 else 0) → 1 < pl) := by
    by_cases h : 1 < pl
    · rw [if_pos (decide_eq_true h), Int.mul_one]
      exact ⟨hm2.1, hm2.2, fun _ => h⟩
    · rw [if_neg (by rw [decide_eq_false h]; exact Bool.false_ne_true), Int.mul_zero]
      exact ⟨by decide, by decide, fun z => absurd z (by decide)⟩
  generalize (if decide (1 < pl) = true then (1 : Int) else 0) = bb at hmm ⊢
  obtain ⟨q0, q1, q2⟩ := hmm
  have gH : Same H H4 := g3.trans sg
  -- spots
  refine ⟨_, rfl, a, ns, 1, rfl, gH.seq ha, by decide, by decide, fun c1 => ⟨two_line, fun l4 hl4 => ⟨_, rfl, l4, (mv * bb), _, rfl, rfl, upd_same, by omega, by omega, line_ge (by show 2 * (mv * bb).toNat ≤ 100000; omega), fun l5 hl5 => ?_⟩⟩⟩
  have hzl : ((List.replicate (mv * bb).toNat ([2520, 2520] : List Int)).flatten).length = (mv * bb).toNat * 2 := rep_len _ _
  refine ⟨c1, l5, (List.replicate (mv * bb).toNat ([2520, 2520] : List Int)).flatten, rfl, SqL.of (by rw [upd_same]; exact congrArg (fun x => some (HO.lst x)) (rep_map (mv * bb).toNat [2520, 2520])), by rw [hzl]; omega, szs (fun z hz => (by decide : ∀ z ∈ ([2520, 2520] : List Int), 0 < z ∧ z < 9223372036854775808) z (rep_mem hz)), fun p2 ds2 hp2 hd2 => ?_⟩
  have hdl := hd2.len
  rw [hzl] at hdl
  have hp2E : p2 ≠ E := fun z => by
    have h := same_new hl5 (.lst (List.replicate (mv * bb).toNat [V.int 2520, V.int 2520]).flatten) _ _ (same_new hl4 (.lst [V.int 2520, V.int 2520]) _ _ hvs)
    rw [← z] at h
    rw [hp2] at h
    cases h
  have s5 : Same H4 (upd (upd (upd H4 l4 (.lst [V.int 2520, V.int 2520])) l5 (.lst (List.replicate (mv * bb).toNat [V.int 2520, V.int 2520]).flatten)) p2 (.lst (ds2.map V.int))) := (same_new hl4 _).trans ((same_new hl5 _).trans (same_new hp2 _))
  have e5 : (upd (upd (upd H4 l4 (.lst [V.int 2520, V.int 2520])) l5 (.lst (List.replicate (mv * bb).toNat [V.int 2520, V.int 2520]).flatten)) p2 (.lst (ds2.map V.int))) p2 = some (.lst (ds2.map V.int)) := upd_same
  show tSeq _ _ _ _ (upd (upd (upd H4 l4 (.lst [V.int 2520, V.int 2520])) l5 (.lst (List.replicate (mv * bb).toNat [V.int 2520, V.int 2520]).flatten)) p2 (.lst (ds2.map V.int)))
  generalize upd (upd (upd H4 l4 (.lst [V.int 2520, V.int 2520])) l5 (.lst (List.replicate (mv * bb).toNat [V.int 2520, V.int 2520]).flatten)) p2 (.lst (ds2.map V.int)) = H5 at s5 e5
  have gr5 : Gr R2 H3 E es H5 := gr.keep stb_R2 s5
  refine ⟨_, rfl, (mv * bb), rfl, by omega, by omega, for_range (lo := 0) (n := (mv * bb).toNat) (fun i σ H' => ∃ (v5 v6 v8 : Option V) (es : List (Int × Int)), σ = [some (.ref a), some (.ref p), some (.int pl), some (.int (mv * bb)), some (.ref E), v5, v6, some (.ref p2), v8, none, none] ∧ Gr R2 H3 E es H' ∧ H' p2 = some (.lst (ds2.map V.int)) ∧ (∀ e ∈ es, OkE pl e) ∧ es.length ≤ 90 + i)
    ⟨v5, v6, none, es, rfl, gr5, e5, hok, by omega⟩ ?_ ?_⟩
  · rintro i σ H' hi ⟨v5, v6, v8, es, rfl, gr, hsp, hok, hlen⟩
    have hpl : 1 < pl := q2 (by omega)
    obtain ⟨z0, hz0⟩ : ∃ z, ds2[2 * i]? = some z := ⟨ds2[2 * i]'(by omega), List.getElem?_eq_getElem (by omega)⟩
    obtain ⟨z1, hz1⟩ : ∃ z, ds2[2 * i + 1]? = some z := ⟨ds2[2 * i + 1]'(by omega), List.getElem?_eq_getElem (by omega)⟩
    refine ⟨_, rfl, _, rfl, _, _, rfl, rfl, .inl ⟨by decide, by decide⟩, p2, _, _, _, rfl, rfl, SqL.of hsp, at_pos (by omega) (v := .int z0) (by rw [show (2 * (0 + (i : Int))).toNat = 2 * i by omega]; exact at_int hz0), .inl ⟨_, rfl, _, rfl, _, _, rfl, rfl, (by show 0 < pl; omega), ?_⟩⟩
    obtain ⟨sg, vs, hvs, hrs⟩ := gr
    refine ⟨_, rfl, .inl ⟨rfl, _, SqL.of hvs⟩, _, rfl, _, rfl, _, _, rfl, rfl, _, rfl, _, rfl, _, _, rfl, rfl, .inl ⟨by decide, by decide⟩, _, _, rfl, rfl, p2, _, _, _, rfl, rfl, SqL.of hsp, at_pos (by omega) (v := .int z1) (by rw [show (2 * (0 + (i : Int)) + 1).toNat = 2 * i + 1 by omega]; exact at_int hz1), .inl ⟨_, rfl, _, rfl, _, _, rfl, rfl, _, _, rfl, rfl, (by show 0 < pl - 1; omega), _, _, rfl, rfl, .inl ⟨_, rfl, _, rfl, _, _, rfl, rfl, (by show 0 < pl; omega), ?_⟩⟩⟩
    have ho := ok_two (x := z1) hpl (Int.emod_nonneg z0 (by omega)) (Int.emod_lt_of_pos z0 (show 0 < pl by omega))
    refine ⟨two_line, fun t ht => ?_⟩
    have s1 := same_new ht (.tup [V.int (z0 % pl), V.int ((z0 % pl + 1 + z1 % (pl - 1)) % pl)])
    refine ⟨E, vs, _, rfl, rfl, s1 _ _ hvs, by rw [hrs.1]; exact small1000 (by omega), ?_⟩
    refine ⟨_, v6, _, es ++ [(z0 % pl, (z0 % pl + 1 + z1 % (pl - 1)) % pl)], rfl, Gr.push stb_R2 (sg.trans s1) hE (s1 _ _ hvs) (hrs.tkD (stb_R2 (D := E)) ⟨vs, hvs⟩ fun b o _ h => s1 _ _ h) ⟨t, rfl, upd_same⟩, by rw [upd_ne hp2E]; exact s1 _ _ hsp, fun e he => ?_, by rw [List.length_append]; simp only [List.length_cons, List.length_nil]; omega⟩
    rcases List.mem_append.mp he with he | he
    · exact hok e he
    · rw [List.mem_singleton.mp he]
      exact ho
  rintro σ H6 ⟨v5, v6, v8, es, rfl, gr, _, hok, hlen⟩
  obtain ⟨sg, vs, hvs, hrs⟩ := id gr
  have hvl : vs.length = es.length := hrs.1
  have gH : Same H H6 := g3.trans sg
  have hlen2 : es.length ≤ 190 := by omega
  -- worths
  refine ⟨_, rfl, a, ns, 2, rfl, gH.seq ha, by decide, by decide, fun c2 => ⟨_, _, rfl, rfl, ⟨by decide, by decide, by decide⟩, three_line, fun l6 hl6 => ⟨_, rfl, E, vs, rfl, .inl (SqL.of (same_new hl6 _ _ _ hvs)), l6, _, _, rfl, rfl, upd_same, by omega, by omega, line_ge (by show 3 * ((vs.length : Nat) : Int).toNat ≤ 100000; omega), fun l7 hl7 => ?_⟩⟩⟩
  have hzl : ((List.replicate ((vs.length : Nat) : Int).toNat ([9, 1000, 10 ^ (12 : Int).toNat] : List Int)).flatten).length = vs.length * 3 := by rw [rep_len, Int.toNat_natCast]; rfl
  have h12 : (10 : Int) ^ (12 : Int).toNat = 1000000000000 := by decide
  refine ⟨c2, l7, (List.replicate ((vs.length : Nat) : Int).toNat ([9, 1000, 10 ^ (12 : Int).toNat] : List Int)).flatten, rfl, SqL.of (by rw [upd_same]; exact congrArg (fun x => some (HO.lst x)) (rep_map _ [9, 1000, 10 ^ (12 : Int).toNat])), by rw [hzl]; omega, szs (fun z hz => (by decide : ∀ z ∈ ([9, 1000, 1000000000000] : List Int), 0 < z ∧ z < 9223372036854775808) z (by have := rep_mem hz; rw [h12] at this; exact this)), fun p3 ds3 hp3 hd3 => ?_⟩
  have hw : ∀ n ∈ ds3, 0 ≤ n ∧ n < 1000000000000 := hd3.mem fun z hz => by
    have := rep_mem hz
    rw [h12] at this
    exact (by decide : ∀ z ∈ ([9, 1000, 1000000000000] : List Int), z ≤ 1000000000000) z this
  have hdl3 := hd3.len
  rw [hzl] at hdl3
  generalize hH7 : upd (upd (upd H6 l6 _) l7 _) p3 _ = H7
  have s7 : Same H6 H7 := by rw [← hH7]; exact (same_new hl6 _).trans ((same_new hl7 _).trans (same_new hp3 _))
  have e7 : H7 p3 = some (.lst (ds3.map V.int)) := by rw [← hH7, upd_same]
  have gr7 := gr.keep stb_R2 s7
  obtain ⟨sg7, vs7, hvs7, hrs7⟩ := gr7
  have ev : vs7 = vs := by
    have := s7 _ _ hvs
    rw [hvs7] at this
    exact (HO.lst.inj (Option.some.inj this))
  subst ev
  -- ties
  refine ⟨Nat.zero_le _, fun TL hTL => ?_⟩
  refine ⟨_, rfl, E, vs7, rfl, .inl (SqL.of (same_new hTL _ _ _ hvs7)), _, rfl, by omega, by omega, for_range (lo := 0) (n := ((vs7.length : Nat) : Int).toNat) (fun i σ H' => ∃ (v8 : Option V) (ts : List T3), σ = [some (.ref a), some (.ref p), some (.int pl), some (.int (mv * bb)), some (.ref E), v5, v6, some (.ref p2), v8, some (.ref p3), some (.ref TL)] ∧ Gr R3 H7 TL ts H' ∧ (∀ t ∈ ts, OkE pl (t.1, t.2.1) ∧ 1 ≤ t.2.2 ∧ B 200 t.2.2) ∧ ts.length = i)
    ⟨v8, [], rfl, Gr.start hTL, fun e h => (by cases h), rfl⟩ ?_ ?_⟩
  · rintro i σ H' hi ⟨v8, ts, rfl, gt, hts, hlt⟩
    obtain ⟨st, us, hus, hrt⟩ := gt
    have hi2 : i < es.length := by omega
    obtain ⟨e, he⟩ : ∃ e, es[i]? = some e := ⟨_, List.getElem?_eq_getElem hi2⟩
    obtain ⟨u, hu⟩ : ∃ u, vs7[i]? = some u := ⟨_, List.getElem?_eq_getElem (by omega)⟩
    obtain ⟨pe, rfl, hpe⟩ := hrs7.2 i u e hu he
    have hE' := st _ _ hvs7
    have hpe' := st _ _ hpe
    have ei : (0 + (i : Int)).toNat = i := by omega
    have hat : atI vs7 (0 + (i : Int)) = some (.ref pe) := at_pos (by omega) (by rw [ei]; exact hu)
    refine ⟨_, rfl, .inl ⟨rfl, _, SqL.of hus⟩, _, rfl, _, rfl, E, _, _, _, rfl, rfl, SqL.of hE', hat, pe, _, 0, _, rfl, rfl, SqT.of hpe', at_pos (by decide) rfl, ?_⟩
    refine ⟨_, rfl, _, rfl, E, _, _, _, rfl, rfl, SqL.of hE', hat, pe, _, 1, _, rfl, rfl, SqT.of hpe', at_pos (by decide) rfl, ?_⟩
    refine ⟨_, rfl, p, _, 3, _, rfl, rfl, row4 ((sg.trans s7).trans st), at_pos (by decide) rfl, ?_⟩
    refine ⟨_, rfl, _, rfl, _, _, rfl, rfl, .inl ⟨by decide, by decide⟩, _, rfl, _, rfl, _, _, rfl, rfl, .inl ⟨by decide, by decide⟩, _, _, rfl, rfl, _, rfl, p3, _, rfl, SqL.of (st _ _ e7), fun p4 hp4 => ?_⟩
    obtain ⟨d0, d1, d2, hcut, hm0, hm1, hm2⟩ := take_three (ns := ds3) (k := i) (by omega)
    have f1 : HT.sIx (ds3.map V.int).length 0 (some (3 * (0 + (i : Int)))) = 3 * i := sIx_of (by omega) (by rw [List.length_map]; omega)
    have f2 : HT.sIx (ds3.map V.int).length (ds3.map V.int).length (some (3 * (0 + (i : Int)) + 3)) = 3 * i + 3 := sIx_of (by omega) (by rw [List.length_map]; omega)
    have hcv : cutV (ds3.map V.int) (some (3 * (0 + (i : Int)))) (some (3 * (0 + (i : Int)) + 3)) = [V.int d0, V.int d1, V.int d2] := by
      unfold cutV
      rw [f1, f2, Nat.add_sub_cancel_left, ← List.map_drop, ← List.map_take, hcut]
      rfl
    rw [hcv]
    refine ⟨x3, p4, d0, d1, d2, rfl, SqL.of upd_same, hw _ hm0, hw _ hm1, hw _ hm2, fun s H8 s8 hs1 hs2 => ⟨three_line, fun t ht => ?_⟩⟩
    have sn := (same_new hp4 (.lst [V.int d0, V.int d1, V.int d2])).trans (s8.trans (same_new ht (.tup [V.int e.1, V.int e.2, V.int s])))
    refine ⟨TL, us, _, rfl, rfl, sn _ _ hus, by rw [hrt.1]; exact small1000 (by omega), ?_⟩
    refine ⟨_, ts ++ [(e.1, e.2, s)], rfl, Gr.push stb_R3 (st.trans sn) hTL (sn _ _ hus) (hrt.tkD (stb_R3 (D := TL)) ⟨us, hus⟩ fun b o _ h => sn _ _ h) ⟨t, rfl, upd_same⟩, fun t ht => ?_, by rw [List.length_append, hlt]; rfl⟩
    rcases List.mem_append.mp ht with ht | ht
    · exact hts t ht
    · rw [List.mem_singleton.mp ht]
      exact ⟨hok e (List.mem_of_getElem? he), hs1, hs2⟩
  rintro σ H9 ⟨v8, ts, rfl, gt, hts, hlt⟩
  obtain ⟨st, us, hus, hrt⟩ := gt
  have s09 : Same H3 H9 := (sg.trans s7).trans st
  refine ⟨_, rfl, _, rfl, _, _, rfl, rfl, ⟨by decide, by decide, by decide⟩, _, _, rfl, rfl, line_ge (by show 9 ≤ 100000; decide), fun l8 hl8 => ⟨_, rfl, p, _, 4, _, rfl, rfl, row4 (s09.trans (same_new hl8 _)), at_pos (by decide) rfl, ?_⟩⟩
  have h40 : (10 : Int) ^ (40 : Int).toNat + 1 = 10000000000000000000000000000000000000001 := by decide
  obtain ⟨y4, m4, k4⟩ := pick (cs := [1, 1, 2, 3, 6, 12, 7, 1000, 10 ^ (40 : Int).toNat + 1]) h4.1 h4.2
  have hb4 : ∀ x ∈ ([1, 1, 2, 3, 6, 12, 7, 1000, 10000000000000000000000000000000000000001] : List Int), 1 ≤ x ∧ x.natAbs < 2 ^ 200 := by decide +kernel
  rw [h40] at m4
  refine ⟨l8, _, _, _, rfl, rfl, SqL.of upd_same, at_pos h4.1 k4, three_line, fun r hr => ?_⟩
  obtain ⟨n, rfl⟩ : ∃ n : Nat, pl = (n : Int) := ⟨pl.toNat, by omega⟩
  have s10 : Same H9 _ := (same_new hl8 (.lst ([1, 1, 2, 3, 6, 12, 7, 1000, 10 ^ (40 : Int).toNat + 1].map V.int))).trans (same_new hr (.lst [.int (n : Int), .ref TL, .int y4]))
  exact q r TL n ts y4 _ (g3.trans (s09.trans s10)) upd_same (TiesAt.same ⟨us, hus, hrt⟩ s10) (by omega) (by omega) hts (hb4 _ m4).1 (hb4 _ m4).2
end
end P41
namespace P41
open PySem PySem.Spec PyProof.Rows L2 SX EX WK
theorem erase_perm : ∀ {xs : List Int} {i : Nat} {y : Int}, xs[i]? = some y → (y :: xs.eraseIdx i).Perm xs
  | [], i, y, h => by simp at h
  | x :: xs, 0, y, h => by cases h; exact List.Perm.refl _
  | x :: xs, i + 1, y, h => (List.Perm.swap x y _).trans ((erase_perm (xs := xs) (i := i) (by simpa using h)).cons x)
theorem map_erase (xs : List Int) (i : Nat) : (xs.map V.int).eraseIdx i = (xs.eraseIdx i).map V.int := by
  induction xs generalizing i with
  | nil => rfl
  | cons x xs ih =>
    cases i with
    | zero => rfl
    | succ i => simp only [List.map_cons, List.eraseIdx_cons_succ, ih]
theorem ixN_of {n : Nat} {i : Int} (h0 : 0 ≤ i) (h1 : i < n) : ixN n i = some i.toNat := by
  unfold ixN
  rw [if_pos h0, if_pos h1]
/-- a valid tie, as the law keeps it -/
def Vt (pl : Int) (n : Nat) (t : T3) : Prop := OkE pl (t.1, t.2.1) ∧ 1 ≤ t.2.2 ∧ B n t.2.2
theorem Vt.ok {pl : Int} {n : Nat} {t : T3} (h : Vt pl n t) (hn : n ≤ 400) : OkT pl t := ⟨h.1.1, h.1.2.1, h.1.2.2.1, h.1.2.2.2.1, h.1.2.2.2.2, h.2.1, h.2.2.mono hn⟩
/-- a list of ints at l -/
def LiAt (H : Hp) (l : Addr) (ns : List Int) : Prop := H l = some (.lst (ns.map V.int))
section
variable {P : Program} {w : World} {K : PySem.W.Frag} {mg : Str → Option Value} {base : Heap} {f : Addr} {fd : FuncData}
def spTwin : Sp := fun vs H Q _ => ∃ (tl : Addr) (sp : Int) (ts : List T3) (pl : Int), vs = [.ref tl, .int sp] ∧ TiesAt H tl ts ∧ ts.length ≤ 200 ∧ (∀ t ∈ ts, Vt pl 200 t) ∧
  ∀ r ts' H', Same H H' → TiesAt H' r ts' → ts'.length ≤ 200 → (∀ t ∈ ts', Vt pl 210 t) → Q (.ref r) H'
abbrev s__law_twin : Stmt := top 55
abbrev N__law_twin : List Str := ["ties", "spot", "found", "k"]
theorem sc__law_twin : FnScope N__law_twin ["ties", "spot"] (defScope s__law_twin) := ⟨rfl, rfl, rfl, by decide +kernel, rfl, by decide +kernel, by decide +kernel⟩
theorem ok__law_twin (F : Fun K "_law_twin" "_law_twin" s__law_twin f fd) (T : Txt mg) : FnOk P w K mg base CX0 1 f fd ["ties", "spot"] spTwin := by
  refine F.ok sc__law_twin (fun vs H Q E h => ?_) (fun cdv A outer s H vs Q E hr h => ?_)
  · obtain ⟨tl, sp, ts, pl, rfl, _⟩ := h
    rfl
  obtain ⟨tl, sp, ts, pl, rfl, ht, hl, hok, q⟩ := h
  refine ⟨_, (pss_cons (ps_set (i := 2) sc__law_twin.nd rfl (Or.inl rfl) (pe_lst pa_nil))
  (pss_cons (ps_for PassesOwn.never rfl (pi_range1 (by rfl) T.b_range (pa_cons (pe_callB call_len_seq (by rfl) T.b_len PySem.boot_len (pa_cons (pv 0) pa_nil)) pa_nil)) (pg_name (i := 3) sc__law_twin.nd rfl (Or.inl rfl)) (pss_one (ps_if (pt_cmpR op_ne (pv 3) (pe_op op_mod (pe_callTy call_int1 (by rfl) T.b_int (by decide +kernel) (pa_cons (pv 1) pa_nil)) (pe_callB call_len_seq (by rfl) T.b_len PySem.boot_len (pa_cons (pv 0) pa_nil))) (nomark _)) (pss_one (ps_expr (pe_bm PySem.F.plainAttrs_list PySem.F.slot_list_append PySem.F.type_list_append mt_append (pv 2) (pa_cons (pe_tup (pa_cons (pe_ix ix_tup (pe_ix ix_list (pv 0) (pv 3) (fun _ _ => rfl)) pe_int (fun _ _ => rfl)) (pa_cons (pe_ix ix_tup (pe_ix ix_list (pv 0) (pv 3) (fun _ _ => rfl)) pe_int (fun _ _ => rfl)) (pa_cons (pe_op op_mul pe_int (pe_ix ix_tup (pe_ix ix_list (pv 0) (pv 3) (fun _ _ => rfl)) pe_int (fun _ _ => rfl))) pa_nil)))) pa_nil)))) pss_nil)))
  (pss_one (ps_ret (pv 2))))), ?_⟩
  obtain ⟨us, hus, hrs⟩ := id ht
  have hul : us.length = ts.length := hrs.1
  refine ⟨Nat.zero_le _, fun E hE => ?_⟩
  refine ⟨_, rfl, tl, us, rfl, .inl (SqL.of (same_new hE _ _ _ hus)), _, rfl, by omega, by omega, for_range (lo := 0) (n := ((us.length : Nat) : Int).toNat) (fun i σ H' => ∃ (v3 : Option V) (ts' : List T3), σ = [some (.ref tl), some (.int sp), some (.ref E), v3] ∧ Gr R3 H E ts' H' ∧ (∀ t ∈ ts', Vt pl 210 t) ∧ ts'.length ≤ i)
    ⟨none, [], rfl, Gr.start hE, fun e h => (by cases h), Nat.le_refl _⟩ ?_ (fun σ H' ⟨v3, ts', h1, h2, h3, h4⟩ => by
      rw [h1]
      exact ⟨_, rfl, q E ts' H' h2.same h2.at_ (by omega) h3⟩)⟩
  rintro i σ H' hi ⟨v3, ts', rfl, gr, hv, hlen⟩
  obtain ⟨sg, vs, hvs, hr2⟩ := id gr
  have hi2 : i < ts.length := by omega
  have hsq := SqL.of (K := K) (sg _ _ hus)
  refine ⟨_, rfl, _, rfl, .inl ⟨_, rfl, _, rfl, tl, us, rfl, .inl hsq, _, _, rfl, rfl, by omega, ?_⟩⟩
  refine ⟨rfl, _, rfl, ite2 (fun _ => ?_) (fun _ => ⟨_, ts', rfl, gr, hv, by omega⟩)⟩
  obtain ⟨t, ht1⟩ : ∃ t, ts[i]? = some t := ⟨_, List.getElem?_eq_getElem hi2⟩
  obtain ⟨u, hu⟩ : ∃ u, us[i]? = some u := ⟨_, List.getElem?_eq_getElem (by omega)⟩
  obtain ⟨p, rfl, hp⟩ := hrs.2 i u t hu ht1
  have hat : atI us (0 + (i : Int)) = some (.ref p) := at_pos (by omega) (by rw [show ((0 : Int) + (i : Int)).toNat = i by omega]; exact hu)
  have hpt := SqT.of (K := K) (sg _ _ hp)
  refine ⟨_, rfl, .inl ⟨rfl, _, SqL.of hvs⟩, _, rfl, _, rfl, tl, _, _, _, rfl, rfl, hsq, hat, p, _, 0, _, rfl, rfl, hpt, at_pos (by decide) rfl, ?_⟩
  refine ⟨_, rfl, _, rfl, tl, _, _, _, rfl, rfl, hsq, hat, p, _, 1, _, rfl, rfl, hpt, at_pos (by decide) rfl, ?_⟩
  refine ⟨_, rfl, _, rfl, tl, _, _, _, rfl, rfl, hsq, hat, p, _, 2, _, rfl, rfl, hpt, at_pos (by decide) rfl, _, _, rfl, rfl, .inl ⟨by decide, by decide⟩, three_line, fun z hz => ?_⟩
  have s1 := same_new hz (.tup [V.int t.1, V.int t.2.1, V.int (3 * t.2.2)])
  refine ⟨E, vs, _, rfl, rfl, s1 _ _ hvs, by rw [hr2.1]; exact small1000 (by omega), ?_⟩
  refine ⟨_, ts' ++ [(t.1, t.2.1, 3 * t.2.2)], rfl, Gr.push stb_R3 (sg.trans s1) hE (s1 _ _ hvs) (hr2.tkD (stb_R3 (D := E)) ⟨vs, hvs⟩ fun b o _ h => s1 _ _ h) ⟨z, rfl, upd_same⟩, fun t2 ht2 => ?_, by rw [List.length_append]; simp only [List.length_cons, List.length_nil]; omega⟩
  rcases List.mem_append.mp ht2 with h | h
  · exact hv t2 h
  · rw [List.mem_singleton.mp h]
    obtain ⟨g1, g2, g3⟩ := hok t (List.mem_of_getElem? ht1)
    exact ⟨g1, by show 1 ≤ 3 * t.2.2; omega, B.mono (m := 2 + 200) (B.mul (show B 2 3 by decide) g3) (by decide)⟩
def spShuf : Sp := fun vs H Q _ => ∃ (c : Int) (l : Addr) (ns : List Int), vs = [.int c, .ref l] ∧ LiAt H l ns ∧ ns.length ≤ 10 ∧ ∀ r ms H', Same H H' → LiAt H' r ms → ms.Perm ns → Q (.ref r) H'
abbrev s__law_shuffled : Stmt := top 56
abbrev N__law_shuffled : List Str := ["cell", "lot", "row", "rest", "found", "k"]
theorem sc__law_shuffled : FnScope N__law_shuffled ["cell", "lot"] (defScope s__law_shuffled) := ⟨rfl, rfl, rfl, by decide +kernel, rfl, by decide +kernel, by decide +kernel⟩
theorem ok__law_shuffled (F : Fun K "_law_shuffled" "_law_shuffled" s__law_shuffled f fd) (T : Txt mg) (C__law_digits : Cal P w K mg base 1 "_law_digits" ["cell", "sizes"] (spDigits K)) : FnOk P w K mg base CX0 2 f fd ["cell", "lot"] spShuf := by
  refine F.ok sc__law_shuffled (fun vs H Q E h => ?_) (fun cdv A outer s H vs Q E hr h => ?_)
  · obtain ⟨c, l, ns, rfl, _⟩ := h
    rfl
  obtain ⟨c, l, ns, rfl, hl, hn, q⟩ := h
  refine ⟨_, (pss_cons (ps_set (i := 2) sc__law_shuffled.nd rfl (Or.inl rfl) (pe_cal C__law_digits (hr.mono (by omega)) rfl (pa_cons (pv 0) (pa_cons (pe_op op_rep (pe_lst (pa_cons pe_int pa_nil)) pe_int) pa_nil))))
  (pss_cons (ps_set (i := 3) sc__law_shuffled.nd rfl (Or.inl rfl) (pe_callTy call_list_of (by rfl) T.b_list (by decide +kernel) (pa_cons (pv 1) pa_nil)))
  (pss_cons (ps_set (i := 4) sc__law_shuffled.nd rfl (Or.inl rfl) (pe_lst pa_nil))
  (pss_cons (ps_for PassesOwn.never rfl (pi_range1 (by rfl) T.b_range (pa_cons (pe_callB call_len_seq (by rfl) T.b_len PySem.boot_len (pa_cons (pv 1) pa_nil)) pa_nil)) (pg_name (i := 5) sc__law_shuffled.nd rfl (Or.inl rfl)) (pss_one (ps_expr (pe_bm PySem.F.plainAttrs_list PySem.F.slot_list_append PySem.F.type_list_append mt_append (pv 4) (pa_cons (pe_bm PySem.F.plainAttrs_list PySem.F.slot_list_pop PySem.F.type_list_pop mt_popAt (pv 3) (pa_cons (pe_op op_mod (pe_callTy call_int1 (by rfl) T.b_int (by decide +kernel) (pa_cons (pe_ix ix_list (pv 2) (pv 5) (fun _ _ => rfl)) pa_nil)) (pe_callB call_len_seq (by rfl) T.b_len PySem.boot_len (pa_cons (pv 3) pa_nil))) pa_nil)) pa_nil)))))
  (pss_one (ps_ret (pv 4))))))), ?_⟩
  refine ⟨_, rfl, line_ge (by show 1 ≤ 100000; decide), fun l0 hl0 => ⟨l0, 10, _, rfl, rfl, upd_same, by decide, by decide, line_ge (by show 1 * (10 : Int).toNat ≤ 100000; decide), fun l1 hl1 => ?_⟩⟩
  refine ⟨c, l1, (List.replicate (10 : Int).toNat ([2520] : List Int)).flatten, rfl, SqL.of (by rw [upd_same]; exact congrArg (fun x => some (HO.lst x)) (rep_map _ [2520])), by rw [rep_len]; decide, szs (fun z hz => (by decide : ∀ z ∈ ([2520] : List Int), 0 < z ∧ z < 9223372036854775808) z (rep_mem hz)), fun p ds hp hd => ?_⟩
  have hdl := hd.len
  rw [rep_len] at hdl
  have hdl2 : ds.length = 10 := hdl
  generalize hH1 : upd (upd (upd H l0 _) l1 _) p _ = H1
  have s1 : Same H H1 := by rw [← hH1]; exact (same_new hl0 _).trans ((same_new hl1 _).trans (same_new hp _))
  have e1 : H1 p = some (.lst (ds.map V.int)) := by rw [← hH1, upd_same]
  refine ⟨_, rfl, l, _, rfl, .inl (SqL.of (s1 _ _ hl)), fun R hR => ?_⟩
  refine ⟨Nat.zero_le _, fun F hF => ?_⟩
  have hRF : R ≠ F := fun z => by rw [← z, upd_same] at hF; cases hF
  have hpR : p ≠ R := fun z => by rw [z, hR] at e1; cases e1
  have hpF : p ≠ F := fun z => by rw [← z, upd_ne hpR, e1] at hF; cases hF
  have sRF : Same H1 (upd (upd H1 R (.lst (ns.map V.int))) F (.lst [])) := (same_new hR _).trans (same_new hF _)
  have H1F : H1 F = none := by
    rw [upd_ne (Ne.symm hRF)] at hF
    exact hF
  refine ⟨_, rfl, l, _, rfl, .inl (SqL.of ((s1.trans sRF) _ _ hl)), _, rfl, by rw [List.length_map]; omega, by rw [List.length_map]; omega, for_range (lo := 0) (n := (((ns.map V.int).length : Nat) : Int).toNat) (fun i σ H' => ∃ (v5 : Option V) (fs rs : List Int), σ = [some (.int c), some (.ref l), some (.ref p), some (.ref R), some (.ref F), v5] ∧ Same H1 H' ∧ LiAt H' R rs ∧ LiAt H' F fs ∧ (fs ++ rs).Perm ns ∧ fs.length = i)
    ⟨none, [], ns, rfl, sRF, by show upd _ F _ R = _; rw [upd_ne hRF, upd_same], upd_same, List.Perm.refl _, rfl⟩ ?_ (fun σ H' ⟨v5, fs, rs, h1, h2, h3, h4, h5, h6⟩ => by
      rw [h1]
      have hlen := h5.length_eq
      rw [List.length_append] at hlen
      rw [Int.toNat_natCast, List.length_map] at h6
      have : rs = [] := List.eq_nil_of_length_eq_zero (by omega)
      subst this
      rw [List.append_nil] at h5
      exact ⟨_, rfl, q F fs H' (s1.trans h2) h4 h5⟩)⟩
  rintro i σ H' hi ⟨v5, fs, rs, rfl, sg, hR', hF', hperm, hfl⟩
  rw [Int.toNat_natCast, List.length_map] at hi
  have hlen := hperm.length_eq
  rw [List.length_append] at hlen
  obtain ⟨d, hd1⟩ : ∃ d, ds[i]? = some d := ⟨_, List.getElem?_eq_getElem (by omega)⟩
  have hp' := sg _ _ e1
  have hrl : 0 < (((rs.map V.int).length : Nat) : Int) := by rw [List.length_map]; omega
  refine ⟨_, rfl, .inl ⟨rfl, _, SqL.of hF'⟩, _, rfl, .inl ⟨rfl, _, SqL.of hR'⟩, _, rfl, _, rfl, p, _, _, _, rfl, rfl, SqL.of hp', at_pos (by omega) (by rw [show ((0 : Int) + (i : Int)).toNat = i by omega]; exact at_int hd1), .inl ⟨_, rfl, _, rfl, R, _, rfl, .inl (SqL.of hR'), _, _, rfl, rfl, hrl, ?_⟩⟩
  have m0 := Int.emod_nonneg d (show (((rs.map V.int).length : Nat) : Int) ≠ 0 by omega)
  have m1 := Int.emod_lt_of_pos d hrl
  generalize hj : d % (((rs.map V.int).length : Nat) : Int) = j at m0 m1
  rw [List.length_map] at m1
  obtain ⟨y, hy⟩ : ∃ y, rs[j.toNat]? = some y := ⟨_, List.getElem?_eq_getElem (by omega)⟩
  refine ⟨R, _, _, j.toNat, _, rfl, rfl, hR', by rw [hj]; omega, by rw [hj]; omega, by rw [hj]; exact seqIndex_of m0 (by rw [List.length_map]; exact m1), at_int hy, ?_⟩
  have hF2 : (upd H' R (.lst ((rs.map V.int).eraseIdx j.toNat))) F = some (.lst (fs.map V.int)) := by rw [upd_ne (Ne.symm hRF)]; exact hF'
  refine ⟨F, _, _, rfl, rfl, hF2, by rw [List.length_map]; exact small1000 (by omega), ?_⟩
  refine ⟨_, fs ++ [y], rs.eraseIdx j.toNat, rfl, fun b o h => ?_, ?_, ?_, ?_, by rw [List.length_append, hfl]; rfl⟩
  · rw [upd_ne (ne_of_none h H1F), upd_ne (ne_of_none h hR)]
    exact sg _ _ h
  · show upd _ F _ R = _
    rw [upd_ne hRF, upd_same, map_erase]
  · show upd _ F _ F = _
    rw [upd_same, snoc_int]
  · rw [List.append_assoc]
    exact ((erase_perm hy).append_left fs).trans hperm
def spDue (K : PySem.W.Frag) : Sp := fun vs H Q _ => ∃ (tl l1 l2 : Addr) (b : Int) (ts : List T3) (ns ms : List Int), vs = [.ref tl, .int b, .ref l1, .ref l2] ∧ TiesAt H tl ts ∧ LiAt H l1 ns ∧ LiAt H l2 ms ∧ 0 < b ∧ B 6500 b ∧
  ∀ r H', Same H H' → FrAt H' r (sumB ts ns ms / gI (sumB ts ns ms) b) (b / gI (sumB ts ns ms) b) → Q (.ref r) H'
theorem sumB_snoc (ts : List T3) (t : T3) (ns ms : List Int) : sumB (ts ++ [t]) ns ms = sumB ts ns ms + (if jn t.1 t.2.1 ns ms = true then t.2.2 else 0) := by
  unfold sumB
  rw [List.filter_append, List.map_append, List.sum_append, List.filter_cons]
  split <;> simp
abbrev s__law_due : Stmt := top 58
abbrev N__law_due : List Str := ["ties", "base", "one", "two", "total", "tie"]
theorem sc__law_due : FnScope N__law_due ["ties", "base", "one", "two"] (defScope s__law_due) := ⟨rfl, rfl, rfl, by decide +kernel, rfl, by decide +kernel, by decide +kernel⟩
theorem ok__law_due (F : Fun K "_law_due" "_law_due" s__law_due f fd) (T : Txt mg) (C__law_least : Cal P w K mg base 2 "_law_least" ["top", "under"] spLeast) : FnOk P w K mg base CX0 3 f fd ["ties", "base", "one", "two"] (spDue K) := by
  refine F.ok sc__law_due (fun vs H Q E h => ?_) (fun cdv A outer s H vs Q E hr h => ?_)
  · obtain ⟨tl, l1, l2, b, ts, ns, ms, rfl, _⟩ := h
    rfl
  obtain ⟨tl, l1, l2, b, ts, ns, ms, rfl, ht, h1, h2, hb, hB, q⟩ := h
  refine ⟨_, (pss_cons (ps_set (i := 4) sc__law_due.nd rfl (Or.inl rfl) pe_int)
  (pss_cons (ps_for PassesOwn.never rfl (pi_list (pv 0)) (pg_name (i := 5) sc__law_due.nd rfl (Or.inl rfl)) (pss_one (ps_if (PW.pt (pw_or (PW.pt (pw_and (pt_cmpR op_in_seq (pe_ix ix_tup (pv 5) pe_int (fun _ _ => rfl)) (pv 2) (by rfl)) (pw_and1 (pt_cmpR op_in_seq (pe_ix ix_tup (pv 5) pe_int (fun _ _ => rfl)) (pv 3) (by rfl))))) (pw_or1 (PW.pt (pw_and (pt_cmpR op_in_seq (pe_ix ix_tup (pv 5) pe_int (fun _ _ => rfl)) (pv 2) (by rfl)) (pw_and1 (pt_cmpR op_in_seq (pe_ix ix_tup (pv 5) pe_int (fun _ _ => rfl)) (pv 3) (by rfl)))))))) (pss_one (ps_set (i := 4) sc__law_due.nd rfl (Or.inl rfl) (pe_op op_add (pv 4) (pe_ix ix_tup (pv 5) pe_int (fun _ _ => rfl))))) pss_nil)))
  (pss_one (ps_ret (pe_cal C__law_least (hr.mono (by omega)) rfl (pa_cons (pv 4) (pa_cons (pv 1) pa_nil))))))), ?_⟩
  obtain ⟨us, hus, hrs⟩ := id ht
  have hul : us.length = ts.length := hrs.1
  have hin : ∀ (x : Int) (l : List Int), (if false = true then !inV (.int x) (l.map V.int) else inV (.int x) (l.map V.int)) = decide (x ∈ l) := fun x l => by rw [if_neg Bool.false_ne_true, inV_ints]
  refine ⟨_, rfl, tl, rfl, ⟨_, SqL.of hus⟩, for_list (K := K) (a := tl) (xs := us) (fun i σ H' => ∃ v5 : Option V, σ = [some (.ref tl), some (.int b), some (.ref l1), some (.ref l2), some (.int (sumB (ts.take i) ns ms)), v5] ∧ H' = H)
    ⟨none, rfl, rfl⟩ (fun i σ H' _ ⟨_, _, e⟩ => by rw [e]; exact SqL.of hus) ?_ (fun σ H' ⟨v5, e1, e2⟩ => by
      rw [e1, e2, hul, List.take_length]
      exact ⟨_, rfl, _, rfl, _, b, rfl, hb, hB, q⟩)⟩
  rintro i u σ H' hi ⟨v5, rfl, rfl⟩
  obtain ⟨t, ht1⟩ : ∃ t, ts[i]? = some t := ⟨ts[i]'(by have := (List.getElem?_eq_some_iff.mp hi).1; omega), List.getElem?_eq_getElem _⟩
  obtain ⟨p, rfl, hp⟩ := hrs.2 i u t hi ht1
  have hpt := SqT.of (K := K) hp
  have fin : ∀ v, v = sumB (ts.take i) ns ms + (if jn t.1 t.2.1 ns ms = true then t.2.2 else 0) → ∃ v5 : Option V, [some (.ref tl), some (.int b), some (.ref l1), some (.ref l2), some (.int v), some (.ref p)] = [some (.ref tl), some (.int b), some (.ref l1), some (.ref l2), some (.int (sumB (ts.take (i + 1)) ns ms)), v5] ∧ H' = H' := fun v e => ⟨some (V.ref p), by rw [take_one ht1, sumB_snoc, e], rfl⟩
  have yes : jn t.1 t.2.1 ns ms = true → ∃ v5 : Option V, [some (.ref tl), some (.int b), some (.ref l1), some (.ref l2), some (.int (sumB (ts.take i) ns ms + t.2.2)), some (.ref p)] = [some (.ref tl), some (.int b), some (.ref l1), some (.ref l2), some (.int (sumB (ts.take (i + 1)) ns ms)), v5] ∧ H' = H' := fun e => fin _ (by rw [if_pos e])
  have no : jn t.1 t.2.1 ns ms = false → ∃ v5 : Option V, [some (.ref tl), some (.int b), some (.ref l1), some (.ref l2), some (.int (sumB (ts.take i) ns ms)), some (.ref p)] = [some (.ref tl), some (.int b), some (.ref l1), some (.ref l2), some (.int (sumB (ts.take (i + 1)) ns ms)), v5] ∧ H' = H' := fun e => fin _ (by rw [if_neg (by rw [e]; exact Bool.false_ne_true), Int.add_zero])
  unfold jn at yes no
  refine ⟨_, rfl, p, _, 0, _, rfl, rfl, hpt, at_pos (by decide) rfl, _, rfl, l1, _, rfl, .inl (SqL.of h1), rfl, flat_ints ns, _, rfl, ?_⟩
  rw [hin]
  cases e1 : decide (t.1 ∈ ns) with
  | true =>
    refine ifT rfl ⟨_, rfl, p, _, 1, _, rfl, rfl, hpt, at_pos (by decide) rfl, _, rfl, l2, _, rfl, .inl (SqL.of h2), rfl, flat_ints ms, _, rfl, ?_⟩
    rw [hin]
    cases e2 : decide (t.2.1 ∈ ms) with
    | true =>
      refine ifT rfl (ifT rfl ⟨_, rfl, _, rfl, p, _, 2, _, rfl, rfl, hpt, at_pos (by decide) rfl, _, _, rfl, rfl, yes (by rw [e1, e2]; rfl)⟩)
    | false =>
      refine ifF rfl ⟨_, rfl, p, _, 1, _, rfl, rfl, hpt, at_pos (by decide) rfl, _, rfl, l1, _, rfl, .inl (SqL.of h1), rfl, flat_ints ns, _, rfl, ?_⟩
      rw [hin]
      cases e3 : decide (t.2.1 ∈ ns) with
      | false => exact ifF rfl (ifF rfl (no (by rw [e1, e2, e3, Bool.and_false, Bool.and_false]; rfl)))
      | true =>
        refine ifT rfl ⟨_, rfl, p, _, 0, _, rfl, rfl, hpt, at_pos (by decide) rfl, _, rfl, l2, _, rfl, .inl (SqL.of h2), rfl, flat_ints ms, _, rfl, ?_⟩
        rw [hin]
        cases e4 : decide (t.1 ∈ ms) with
        | true => exact ifT rfl ⟨_, rfl, _, rfl, p, _, 2, _, rfl, rfl, hpt, at_pos (by decide) rfl, _, _, rfl, rfl, yes (by rw [e1, e2, e3, e4]; rfl)⟩
        | false => exact ifF rfl (no (by rw [e1, e2, e4]; rfl))
  | false =>
    refine ifF rfl (ifF rfl ⟨_, rfl, p, _, 1, _, rfl, rfl, hpt, at_pos (by decide) rfl, _, rfl, l1, _, rfl, .inl (SqL.of h1), rfl, flat_ints ns, _, rfl, ?_⟩)
    rw [hin]
    cases e3 : decide (t.2.1 ∈ ns) with
    | false => exact ifF rfl (ifF rfl (no (by rw [e1, e3, Bool.and_false]; rfl)))
    | true =>
      refine ifT rfl ⟨_, rfl, p, _, 0, _, rfl, rfl, hpt, at_pos (by decide) rfl, _, rfl, l2, _, rfl, .inl (SqL.of h2), rfl, flat_ints ms, _, rfl, ?_⟩
      rw [hin]
      cases e4 : decide (t.1 ∈ ms) with
      | true => exact ifT rfl ⟨_, rfl, _, rfl, p, _, 2, _, rfl, rfl, hpt, at_pos (by decide) rfl, _, _, rfl, rfl, yes (by rw [e1, e3, e4]; rfl)⟩
      | false => exact ifF rfl (no (by rw [e1, e4]; rfl))
end
end P41
namespace P41
open PySem PySem.Spec PyProof.Rows L2 SX EX WK
theorem shr_nil {ns ms : List Int} : shr ns ms = [] ↔ ∀ x ∈ ns, x ∉ ms := by
  unfold shr
  rw [List.filter_eq_nil_iff]
  constructor
  · intro h x hx hm
    exact h x hx (decide_eq_true hm)
  · intro h x hx hm
    exact h x hx (of_decide_eq_true hm)
/-! ### in lowest terms -/
theorem jn_comm (i j : Int) (ns ms : List Int) : jn j i ns ms = jn i j ns ms := by
  unfold jn
  cases decide (i ∈ ns) <;> cases decide (j ∈ ms) <;> cases decide (i ∈ ms) <;> cases decide (j ∈ ns) <;> rfl
theorem jn_srt (i j : Int) (ns ms : List Int) : jn (imin i j) (imax i j) ns ms = jn i j ns ms := by
  unfold imin imax
  by_cases h1 : j < i
  · rw [if_pos h1, if_neg (by omega), jn_comm]
  · rw [if_neg h1]
    by_cases h2 : j > i
    · rw [if_pos h2]
    · rw [if_neg h2]
      have : i = j := by omega
      rw [this]
theorem sum_div {g : Int} (hg : 0 < g) : ∀ {l : List Int}, (∀ x ∈ l, g ∣ x) → (l.map fun x => x / g).sum = l.sum / g ∧ g ∣ l.sum
  | [], _ => ⟨by simp, by simp⟩
  | x :: l, h => by
    have ih := sum_div hg (l := l) fun y hy => h y (List.mem_cons_of_mem _ hy)
    have hx := h x List.mem_cons_self
    rw [List.map_cons, List.sum_cons, List.sum_cons, ih.1]
    exact ⟨(Int.add_ediv_of_dvd_left hx).symm, Int.dvd_add hx ih.2⟩
theorem sum_wt (ts : List T3) {b : Int} (hb : 0 < b) (ns ms : List Int) : sumB (wt ts b) ns ms = sumB ts ns ms / wg ts b ∧ wg ts b ∣ sumB ts ns ms := by
  have hg : 0 < wg ts b := gf_pos hb _
  have hd : ∀ x ∈ ((ts.filter fun t => jn t.1 t.2.1 ns ms).map (·.2.2)), wg ts b ∣ x := fun x hx => by
    obtain ⟨t, ht, rfl⟩ := List.mem_map.mp hx
    exact (gf_dvd _).2 _ (List.mem_map.mpr ⟨t, (List.mem_filter.mp ht).1, rfl⟩)
  have h := sum_div hg hd
  refine ⟨?_, h.2⟩
  unfold sumB wt
  rw [List.filter_map, List.map_map]
  have e : ((fun t : T3 => jn t.1 t.2.1 ns ms) ∘ fun t : T3 => (imin t.1 t.2.1, imax t.1 t.2.1, t.2.2 / wg ts b)) = fun t : T3 => jn t.1 t.2.1 ns ms := funext fun t => jn_srt t.1 t.2.1 ns ms
  rw [e]
  rw [List.map_map] at h
  exact h.1
theorem gI_mul {g x y : Int} (hg : 0 < g) : gI (g * x) (g * y) = g * gI x y := by
  unfold gI
  rw [Int.natAbs_mul, Int.natAbs_mul, Nat.gcd_mul_left]
  have : ((g.natAbs : Nat) : Int) = g := by omega
  rw [Int.natCast_mul, this]
theorem frac_div {g S b : Int} (hg : 0 < g) (h1 : g ∣ S) (h2 : g ∣ b) : S / g / gI (S / g) (b / g) = S / gI S b ∧ b / g / gI (S / g) (b / g) = b / gI S b := by
  obtain ⟨x, rfl⟩ := h1
  obtain ⟨y, rfl⟩ := h2
  rw [Int.mul_ediv_cancel_left _ (by omega), Int.mul_ediv_cancel_left _ (by omega), gI_mul hg, Int.mul_ediv_mul_of_pos _ _ hg, Int.mul_ediv_mul_of_pos _ _ hg]
  exact ⟨rfl, rfl⟩
theorem low1 {t b : Int} (hb : 0 < b) : 1 ≤ b / gI t b ∧ gI (t / gI t b) (b / gI t b) = 1 := by
  have hg := gI_pos' (t := t) hb
  refine ⟨quot_pos hg gI_dvd2 (by omega), ?_⟩
  obtain ⟨x, hx⟩ := gI_dvd1 (t := t) (b := b)
  obtain ⟨y, hy⟩ := gI_dvd2 (t := t) (b := b)
  generalize hgg : gI t b = g at *
  have h1 : gI (g * x) (g * y) = g := by rw [← hx, ← hy]; exact hgg
  rw [gI_mul hg] at h1
  rw [hx, hy, Int.mul_ediv_cancel_left _ (by omega), Int.mul_ediv_cancel_left _ (by omega)]
  have h2 : g * gI x y = g * 1 := by rw [h1, Int.mul_one]
  exact Int.eq_of_mul_eq_mul_left (by omega) h2
/-! ### data that lays -/
theorem lay_ints : ∀ ns : List Int, PyData.canLayAll0 (ns.map PyData.int) = true
  | [] => rfl
  | n :: ns => by
    rw [List.map_cons, PyData.canLayAll0, lay_ints ns]
    rfl
theorem dep_int0 : ∀ ns : List Int, PyData.depthAll (ns.map PyData.int) = 0
  | [] => rfl
  | n :: ns => by
    rw [List.map_cons, PyData.depthAll, dep_int0 ns]
    rfl
abbrev two (ns ms : List Int) : PyData := .list [.list (ns.map PyData.int), .list (ms.map PyData.int)]
theorem two_shaped (ns ms : List Int) : SeqAt.shaped (two ns ms) = true := by
  have h1 : (two ns ms).canLay0 = true := by
    unfold two
    simp [PyData.canLay0, PyData.canLayAll0, lay_ints]
  have h2 : (two ns ms).depth ≤ 64 := by
    unfold two
    simp only [PyData.depth, PyData.depthAll, dep_int0]
    decide
  unfold SeqAt.shaped
  rw [h1, decide_eq_true h2]
  rfl
theorem eqv_self {d : PyData} (h : SeqAt.shaped d = true) : PyData.eqv d d = true := SeqAt.eqv_refl _ (SeqAt.canLay_of_shaped h)
theorem dp_ints {K : PySem.W.Frag} {H : Hp} : ∀ ns : List Int, DpAll K H (ns.map V.int) (ns.map PyData.int)
  | [] => .nil
  | n :: ns => .cons (.int n) (dp_ints ns)
theorem dp_li {K : PySem.W.Frag} {H : Hp} {l : Addr} {ns : List Int} (h : LiAt H l ns) : Dp K H (.ref l) (.list (ns.map PyData.int)) := .lst (SqL.of h) (dp_ints ns)
theorem sn_li {K : PySem.W.Frag} {H : Hp} {l : Addr} {ns : List Int} (h : LiAt H l ns) : Sn K H (.ref l) (.tup (ns.map Td.int)) := .lst h (FzAll.of_ints ns).sn
theorem sn_ti {K : PySem.W.Frag} {H : Hp} {l : Addr} {ns : List Int} (h : H l = some (.tup (ns.map V.int))) : Sn K H (.ref l) (.tup (ns.map Td.int)) := .tup (SqT.of h) (FzAll.of_ints ns).sn
abbrev frD (t b : Int) : PyData := .tuple [.int t, .int b]
theorem fr_shaped (t b : Int) : SeqAt.shaped (frD t b) = true := by
  have h1 : (frD t b).canLay0 = true := rfl
  have h2 : (frD t b).depth ≤ 64 := by simp [frD, PyData.depth, PyData.depthAll]
  unfold SeqAt.shaped
  rw [h1, decide_eq_true h2]
  rfl
theorem dp_fr {K : PySem.W.Frag} {H : Hp} {p : Addr} {t b : Int} (h : FrAt H p t b) : Dp K H (.ref p) (frD t b) := .tup (SqT.of h) (.cons (.int _) (.cons (.int _) .nil))
theorem LiAt.same {H H' : Hp} {l : Addr} {ns : List Int} (e : Same H H') (h : LiAt H l ns) : LiAt H' l ns := e _ _ h
/-- a web and its ties, two lots apart -/
structure Ask (K : PySem.W.Frag) (cF cR cW : Addr) (H : Hp) (web tl : Addr) (pl : Nat) (ts : List T3) (b : Int) : Prop where
  web : WebAt K H cF cR cW web pl ts b
  ties : TiesAt H tl ts
  len : ts.length ≤ 1000
  b0 : 0 < b
  bB : B 400 b
theorem Ask.same {K : PySem.W.Frag} {cF cR cW : Addr} {H H' : Hp} {web tl : Addr} {pl : Nat} {ts : List T3} {b : Int} (e : Same H H') (h : Ask K cF cR cW H web tl pl ts b) : Ask K cF cR cW H' web tl pl ts b := ⟨h.web.same e, h.ties.same e, h.len, h.b0, h.bB⟩
section
variable {P : Program} {w : World} {K : PySem.W.Frag} {mg : Str → Option Value} {base : Heap} {f : Addr} {fd : FuncData} {cF cR cW : Addr}
def spRight (K : PySem.W.Frag) (cF cR cW : Addr) : Sp := fun vs H Q _ => ∃ (web tl l1 l2 : Addr) (pl : Nat) (ts : List T3) (b : Int) (ns ms : List Int) (lo : Int), vs = [.ref web, .ref tl, .int b, .ref l1, .ref l2, .int lo] ∧ Ask K cF cR cW H web tl pl ts b ∧ LiAt H l1 ns ∧ LiAt H l2 ms ∧ ns.length ≤ 1000 ∧ ms.length ≤ 1000 ∧ shr ns ms = [] ∧ ∀ H', Same H H' → Q (.bl true) H'
abbrev s__law_right : Stmt := top 59
abbrev N__law_right : List Str := ["web", "ties", "base", "one", "two", "loose", "handed", "told"]
theorem sc__law_right : FnScope N__law_right ["web", "ties", "base", "one", "two", "loose"] (defScope s__law_right) := ⟨rfl, rfl, rfl, by decide +kernel, rfl, by decide +kernel, by decide +kernel⟩
theorem ok__law_right (F : Fun K "_law_right" "_law_right" s__law_right f fd) (T : Txt mg) (C_strength_between : Cal P w K mg base 4 "strength_between" ["web", "one", "two"] (spStr K cF cR cW)) (C__law_is_fraction : Cal P w K mg base 2 "_law_is_fraction" ["value"] spFrac)
    (C__law_due : Cal P w K mg base 3 "_law_due" ["ties", "base", "one", "two"] (spDue K)) : FnOk P w K mg base CX0 5 f fd ["web", "ties", "base", "one", "two", "loose"] (spRight K cF cR cW) := by
  refine F.ok sc__law_right (fun vs H Q E h => ?_) (fun cdv A outer s H vs Q E hr h => ?_)
  · obtain ⟨web, tl, l1, l2, pl, ts, b, ns, ms, lo, rfl, _⟩ := h
    rfl
  obtain ⟨web, tl, l1, l2, pl, ts, b, ns, ms, lo, rfl, ask, h1, h2, hn, hm, hsh, q⟩ := h
  refine ⟨_, (pss_cons (ps_set (i := 6) sc__law_right.nd rfl (Or.inl rfl) (pe_lst (pa_cons (pe_callTy call_list_of (by rfl) T.b_list (by decide +kernel) (pa_cons (pv 3) pa_nil)) (pa_cons (pe_callTy call_list_of (by rfl) T.b_list (by decide +kernel) (pa_cons (pv 4) pa_nil)) pa_nil))))
  (C8.pss_cut (ps_if (pt_cmpR op_eq (pv 5) pe_int (nomark _)) (pss_one (ps_set (i := 7) sc__law_right.nd rfl (Or.inl rfl) (pe_cal C_strength_between (hr.mono (by omega)) rfl (pa_cons (pv 0) (pa_cons (pe_ix ix_list (pv 6) pe_int (fun _ _ => rfl)) (pa_cons (pe_ix ix_list (pv 6) pe_int (fun _ _ => rfl)) pa_nil)))))) (pss_one (ps_set (i := 7) sc__law_right.nd rfl (Or.inl rfl) (pe_cal C_strength_between (hr.mono (by omega)) rfl (pa_cons (pv 0) (pa_cons (pe_callTy call_tuple_of (by rfl) T.b_tuple (by decide +kernel) (pa_cons (pv 3) pa_nil)) (pa_cons (pe_callTy call_tuple_of (by rfl) T.b_tuple (by decide +kernel) (pa_cons (pv 4) pa_nil)) pa_nil)))))))
  (pss_cons (ps_if (PW.pt (pw_or (pt_cmpR (op_neD hr.units) (pv 6) (pe_lst (pa_cons (pv 3) (pa_cons (pv 4) pa_nil))) (nomark _)) (pw_or1 (pt_not (pt_val (pe_cal C__law_is_fraction (hr.mono (by omega)) rfl (pa_cons (pv 7) pa_nil))))))) (pss_one (ps_ret pe_bl)) pss_nil)
  (pss_one (ps_ret (pe_cmpR (op_eqD hr.units) (pv 7) (pe_cal C__law_due (hr.mono (by omega)) rfl (pa_cons (pv 1) (pa_cons (pv 2) (pa_cons (pv 3) (pa_cons (pv 4) pa_nil))))) (nomark _))))))), ?_⟩
  refine ⟨_, rfl, l1, _, rfl, .inl (SqL.of h1), fun a1 ha1 => ⟨_, rfl, l2, _, rfl, .inl (SqL.of (same_new ha1 _ _ _ h2)), fun a2 ha2 => ⟨two_line, fun hd hhd => ?_⟩⟩⟩
  generalize hH1 : upd (upd (upd H a1 _) a2 _) hd _ = H1
  have s1 : Same H H1 := by rw [← hH1]; exact (same_new ha1 _).trans ((same_new ha2 _).trans (same_new hhd _))
  have e1 : LiAt H1 a1 ns := by
    rw [← hH1]
    exact ((same_new ha2 _).trans (same_new hhd _)) _ _ upd_same
  have e2 : LiAt H1 a2 ms := by
    rw [← hH1]
    exact (same_new hhd _) _ _ upd_same
  have e3 : H1 hd = some (.lst [.ref a1, .ref a2]) := by rw [← hH1, upd_same]
  have ask1 := ask.same s1
  have hBB : B 9000 b := ask.bB.mono (by decide)
  have hsw := sum_wt ts ask.b0 ns ms
  have hgp : 0 < wg ts b := gf_pos ask.b0 _
  have hfd := frac_div hgp hsw.2 (show wg ts b ∣ b from (gf_dvd _).1)
  have same : ∀ {r H'}, FrAt H' r (sumB (wt ts b) ns ms / gI (sumB (wt ts b) ns ms) (wb ts b)) (wb ts b / gI (sumB (wt ts b) ns ms) (wb ts b)) → FrAt H' r (sumB ts ns ms / gI (sumB ts ns ms) b) (b / gI (sumB ts ns ms) b) := fun h => by
    rw [hsw.1] at h
    unfold wb at h
    rw [hfd.1, hfd.2] at h
    exact h
  refine ⟨fun σ H' => ∃ r, σ = [some (.ref web), some (.ref tl), some (.int b), some (.ref l1), some (.ref l2), some (.int lo), some (.ref hd), some (.ref r)] ∧ Same H1 H' ∧ FrAt H' r (sumB ts ns ms / gI (sumB ts ns ms) b) (b / gI (sumB ts ns ms) b), ?_, ?_⟩
  · refine ⟨_, rfl, rfl, _, rfl, ite2 (fun _ => ?_) (fun _ => ?_)⟩
    · exact ⟨_, rfl, _, rfl, hd, _, 0, _, rfl, rfl, SqL.of e3, at_pos (by decide) rfl, _, rfl, hd, _, 1, _, rfl, rfl, SqL.of e3, at_pos (by decide) rfl, web, _, _, pl, ts, b, ns, ms, rfl, ask1.web, ask.b0, hBB, ask.len, sn_li e1, sn_li e2, hn, hm, hsh, fun r H' s h => ⟨r, rfl, s, same h⟩⟩
    · refine ⟨_, rfl, _, rfl, l1, _, rfl, .inl ⟨SqL.of (s1 _ _ h1), fun t1 ht1 => ⟨_, rfl, l2, _, rfl, .inl ⟨SqL.of (same_new ht1 _ _ _ (s1 _ _ h2)), fun t2 ht2 => ?_⟩⟩⟩⟩
      have s2 := (same_new ht1 (.tup (ns.map V.int))).trans (same_new ht2 (.tup (ms.map V.int)))
      exact ⟨web, _, _, pl, ts, b, ns, ms, rfl, ask1.web.same s2, ask.b0, hBB, ask.len, sn_ti (same_new ht2 _ _ _ upd_same), sn_ti upd_same, hn, hm, hsh, fun r H' s h => ⟨r, rfl, s2.trans s, same h⟩⟩
  rintro σ H2 ⟨r, rfl, s2, hfr⟩
  have hl1 := low1 (t := sumB ts ns ms) ask.b0
  have s12 := s1.trans s2
  refine ⟨_, rfl, _, rfl, _, rfl, two_line, fun d hd2 => ?_⟩
  have s3 := same_new hd2 (.lst [.ref l1, .ref l2])
  refine ⟨two ns ms, two ns ms, .lst (SqL.of (s3 _ _ (s2 _ _ e3))) (.cons (dp_li (s3 _ _ (s2 _ _ e1))) (.cons (dp_li (s3 _ _ (s2 _ _ e2))) .nil)), .lst (SqL.of upd_same) (.cons (dp_li (s3 _ _ (s12 _ _ h1))) (.cons (dp_li (s3 _ _ (s12 _ _ h2))) .nil)), two_shaped _ _, two_shaped _ _, _, rfl, ifF (by rw [eqv_self (two_shaped _ _)]; rfl) ?_⟩
  have hb1 : B 6500 (b / gI (sumB ts ns ms) b) := B.div (gI_pos' ask.b0) (ask.bB.mono (by decide))
  refine ⟨_, rfl, r, _, _, rfl, s3 _ _ hfr, hl1.1, hb1, hl1.2, true, rfl, ifF rfl ?_⟩
  refine ⟨_, rfl, _, rfl, _, rfl, _, rfl, _, rfl, tl, l1, l2, b, ts, ns, ms, rfl, (ask.ties.same s12).same s3, (h1.same s12).same s3, (h2.same s12).same s3, ask.b0, ask.bB.mono (by decide), fun r2 H3 s4 h4 => ?_⟩
  refine ⟨_, _, dp_fr (s4 _ _ (s3 _ _ hfr)), dp_fr h4, fr_shaped _ _, fr_shaped _ _, ?_⟩
  rw [eqv_self (fr_shaped _ _)]
  exact q H3 (s12.trans (s3.trans s4))
/-- a pair of lots -/
def PrAt (H : Hp) (v : V) (e : List Int × List Int) : Prop := ∃ q x y, v = .ref q ∧ H q = some (.lst [.ref x, .ref y]) ∧ LiAt H x e.1 ∧ LiAt H y e.2
theorem PrAt.same {H H' : Hp} {v : V} {e : List Int × List Int} (s : Same H H') (h : PrAt H v e) : PrAt H' v e := by
  obtain ⟨q, x, y, h1, h2, h3, h4⟩ := h
  exact ⟨q, x, y, h1, s _ _ h2, h3.same s, h4.same s⟩
def spAll (K : PySem.W.Frag) (cF cR cW : Addr) : Sp := fun vs H Q _ => ∃ (web tl l1 l2 : Addr) (pl : Nat) (ts : List T3) (b : Int) (ns ms : List Int) (lo : Int), vs = [.ref web, .int pl, .ref tl, .int b, .ref l1, .ref l2, .int lo] ∧ Ask K cF cR cW H web tl pl ts b ∧ LiAt H l1 ns ∧ LiAt H l2 ms ∧ ns.length ≤ 1000 ∧ ms.length ≤ 1000 ∧ shr ns ms = [] ∧ pl ≤ 10 ∧ ∀ H', Same H H' → Q (.bl true) H'
abbrev s__law_all_right : Stmt := top 60
abbrev N__law_all_right : List Str := ["web", "places", "ties", "base", "one", "two", "loose", "pair", "i", "j"]
theorem sc__law_all_right : FnScope N__law_all_right ["web", "places", "ties", "base", "one", "two", "loose"] (defScope s__law_all_right) := ⟨rfl, rfl, rfl, by decide +kernel, rfl, by decide +kernel, by decide +kernel⟩
theorem ok__law_all_right (F : Fun K "_law_all_right" "_law_all_right" s__law_all_right f fd) (T : Txt mg) (C__law_right : Cal P w K mg base 5 "_law_right" ["web", "ties", "base", "one", "two", "loose"] (spRight K cF cR cW)) : FnOk P w K mg base CX0 6 f fd ["web", "places", "ties", "base", "one", "two", "loose"] (spAll K cF cR cW) := by
  refine F.ok sc__law_all_right (fun vs H Q E h => ?_) (fun cdv A outer s H vs Q E hr h => ?_)
  · obtain ⟨web, tl, l1, l2, pl, ts, b, ns, ms, lo, rfl, _⟩ := h
    rfl
  obtain ⟨web, tl, l1, l2, pl, ts, b, ns, ms, lo, rfl, ask, h1, h2, hn, hm, hsh, hpl, q⟩ := h
  refine ⟨_, (pss_cons (ps_for PassesOwn.never rfl (pi_list (pe_lst (pa_cons (pe_lst (pa_cons (pv 4) (pa_cons (pv 5) pa_nil))) (pa_cons (pe_lst (pa_cons (pv 5) (pa_cons (pv 4) pa_nil))) (pa_cons (pe_lst (pa_cons (WL.pe_lstRev rfl rfl T.b_list rfl T.b_reversed (pv 4)) (pa_cons (pv 5) pa_nil))) (pa_cons (pe_lst (pa_cons (pv 4) (pa_cons (pe_lst pa_nil) pa_nil))) (pa_cons (pe_lst (pa_cons (pe_lst pa_nil) (pa_cons (pv 5) pa_nil))) (pa_cons (pe_lst (pa_cons (pe_lst pa_nil) (pa_cons (pe_lst pa_nil) pa_nil))) pa_nil)))))))) (pg_name (i := 7) sc__law_all_right.nd rfl (Or.inl rfl)) (pss_one (ps_if (pt_not (pt_val (pe_cal C__law_right (hr.mono (by omega)) rfl (pa_cons (pv 0) (pa_cons (pv 2) (pa_cons (pv 3) (pa_cons (pe_ix ix_list (pv 7) pe_int (fun _ _ => rfl)) (pa_cons (pe_ix ix_list (pv 7) pe_int (fun _ _ => rfl)) (pa_cons (pv 6) pa_nil))))))))) (pss_one (ps_ret pe_bl)) pss_nil)))
  (pss_cons (ps_for PassesOwn.never rfl (pi_range1 (by rfl) T.b_range (pa_cons (pv 1) pa_nil)) (pg_name (i := 8) sc__law_all_right.nd rfl (Or.inl rfl)) (pss_one (ps_for PassesOwn.never rfl (pi_range1 (by rfl) T.b_range (pa_cons (pv 1) pa_nil)) (pg_name (i := 9) sc__law_all_right.nd rfl (Or.inl rfl)) (pss_one (ps_if (PW.pt (pw_and (pt_cmpR op_ne (pv 8) (pv 9) (nomark _)) (pw_and1 (pt_not (pt_val (pe_cal C__law_right (hr.mono (by omega)) rfl (pa_cons (pv 0) (pa_cons (pv 2) (pa_cons (pv 3) (pa_cons (pe_lst (pa_cons (pv 8) pa_nil)) (pa_cons (pe_lst (pa_cons (pv 9) pa_nil)) (pa_cons (pe_op op_sub pe_int (pv 6)) pa_nil)))))))))))) (pss_one (ps_ret pe_bl)) pss_nil)))))
  (pss_one (ps_ret pe_bl)))), ?_⟩
  refine ⟨_, rfl, _, rfl, two_line, fun q1 g1 => ?_⟩
  have s1 := same_new g1 (.lst [.ref l1, .ref l2])
  have p1 : PrAt (upd H q1 (.lst [.ref l1, .ref l2])) (.ref q1) (ns, ms) := ⟨q1, l1, l2, rfl, upd_same, h1.same s1, h2.same s1⟩
  refine ⟨_, rfl, _, rfl, two_line, fun q2 g2 => ?_⟩
  have s2 := same_new g2 (.lst [.ref l2, .ref l1])
  have t2 := s1.trans s2
  have p2 : PrAt (upd (upd H q1 (.lst [.ref l1, .ref l2])) q2 (.lst [.ref l2, .ref l1])) (.ref q2) (ms, ns) := ⟨q2, l2, l1, rfl, upd_same, h2.same t2, h1.same t2⟩
  generalize upd (upd H q1 (.lst [.ref l1, .ref l2])) q2 (.lst [.ref l2, .ref l1]) = H2 at *
  have p1 := p1.same s2
  refine ⟨_, rfl, l1, _, rfl, SqL.of (t2 _ _ h1), fun r3 g3 => ⟨_, rfl, two_line, fun q3 g4 => ?_⟩⟩
  have s3 := same_new g3 (.lst (ns.map V.int).reverse)
  have s4 := same_new g4 (.lst [.ref r3, .ref l2])
  have t4 := t2.trans (s3.trans s4)
  have p3 : PrAt (upd (upd H2 r3 (.lst (ns.map V.int).reverse)) q3 (.lst [.ref r3, .ref l2])) (.ref q3) (ns.reverse, ms) := ⟨q3, r3, l2, rfl, upd_same, s4 _ _ (by rw [upd_same, List.map_reverse]), h2.same t4⟩
  have p1 := p1.same (s3.trans s4)
  have p2 := p2.same (s3.trans s4)
  generalize upd (upd H2 r3 (.lst (ns.map V.int).reverse)) q3 (.lst [.ref r3, .ref l2]) = H4 at *
  refine ⟨_, rfl, Nat.zero_le _, fun r5 g5 => ⟨two_line, fun q4 g6 => ?_⟩⟩
  have s5 := same_new g5 (.lst [])
  have s6 := same_new g6 (.lst [.ref l1, .ref r5])
  have t6 := t4.trans (s5.trans s6)
  have p4 : PrAt (upd (upd H4 r5 (.lst [])) q4 (.lst [.ref l1, .ref r5])) (.ref q4) (ns, []) := ⟨q4, l1, r5, rfl, upd_same, h1.same t6, s6 _ _ upd_same⟩
  have p1 := p1.same (s5.trans s6)
  have p2 := p2.same (s5.trans s6)
  have p3 := p3.same (s5.trans s6)
  generalize upd (upd H4 r5 (.lst [])) q4 (.lst [.ref l1, .ref r5]) = H6 at *
  refine ⟨Nat.zero_le _, fun r7 g7 => ⟨_, rfl, two_line, fun q5 g8 => ?_⟩⟩
  have s7 := same_new g7 (.lst [])
  have s8 := same_new g8 (.lst [.ref r7, .ref l2])
  have t8 := t6.trans (s7.trans s8)
  have p5 : PrAt (upd (upd H6 r7 (.lst [])) q5 (.lst [.ref r7, .ref l2])) (.ref q5) ([], ms) := ⟨q5, r7, l2, rfl, upd_same, s8 _ _ upd_same, h2.same t8⟩
  have p1 := p1.same (s7.trans s8)
  have p2 := p2.same (s7.trans s8)
  have p3 := p3.same (s7.trans s8)
  have p4 := p4.same (s7.trans s8)
  generalize upd (upd H6 r7 (.lst [])) q5 (.lst [.ref r7, .ref l2]) = H8 at *
  refine ⟨Nat.zero_le _, fun r9 g9 => ⟨Nat.zero_le _, fun r10 g10 => ⟨two_line, fun q6 g11 => ?_⟩⟩⟩
  have s9 := same_new g9 (.lst [])
  have s10 := same_new g10 (.lst [])
  have s11 := same_new g11 (.lst [.ref r9, .ref r10])
  have s911 := s9.trans (s10.trans s11)
  have t11 := t8.trans s911
  have p6 : PrAt (upd (upd (upd H8 r9 (.lst [])) r10 (.lst [])) q6 (.lst [.ref r9, .ref r10])) (.ref q6) ([], []) := ⟨q6, r9, r10, rfl, upd_same, s11 _ _ (s10 _ _ upd_same), s11 _ _ upd_same⟩
  have p1 := p1.same s911
  have p2 := p2.same s911
  have p3 := p3.same s911
  have p4 := p4.same s911
  have p5 := p5.same s911
  generalize upd (upd (upd H8 r9 (.lst [])) r10 (.lst [])) q6 (.lst [.ref r9, .ref r10]) = H11 at *
  refine ⟨line_ge (by show 6 ≤ 100000; decide), fun L gL => ?_⟩
  have sL := same_new gL (.lst [.ref q1, .ref q2, .ref q3, .ref q4, .ref q5, .ref q6])
  have eL : (upd H11 L (.lst [.ref q1, .ref q2, .ref q3, .ref q4, .ref q5, .ref q6])) L = some (.lst [.ref q1, .ref q2, .ref q3, .ref q4, .ref q5, .ref q6]) := upd_same
  have tL := t11.trans sL
  have hall : ∀ (i : Nat) (v : V), [V.ref q1, .ref q2, .ref q3, .ref q4, .ref q5, .ref q6][i]? = some v → ∃ e : List Int × List Int, PrAt H11 v e ∧ e.1.length ≤ 1000 ∧ e.2.length ≤ 1000 ∧ shr e.1 e.2 = [] := fun i v h => by
    have hs := shr_nil.mp hsh
    match i, h with
    | 0, h => cases h; exact ⟨_, p1, hn, hm, hsh⟩
    | 1, h => cases h; exact ⟨_, p2, hm, hn, shr_nil.mpr fun x hx hy => hs x hy hx⟩
    | 2, h => cases h; exact ⟨_, p3, by rw [List.length_reverse]; exact hn, hm, shr_nil.mpr fun x hx => hs x (List.mem_reverse.mp hx)⟩
    | 3, h => cases h; exact ⟨_, p4, hn, Nat.zero_le _, shr_nil.mpr fun x _ hy => nomatch hy⟩
    | 4, h => cases h; exact ⟨_, p5, Nat.zero_le _, hm, shr_nil.mpr fun x hx => nomatch hx⟩
    | 5, h => cases h; exact ⟨_, p6, by decide, by decide, shr_nil.mpr fun x hx => nomatch hx⟩
    | i + 6, h => simp at h
  refine ⟨L, rfl, ⟨_, SqL.of eL⟩, for_list (K := K) (a := L) (xs := [.ref q1, .ref q2, .ref q3, .ref q4, .ref q5, .ref q6]) (fun i σ H' => ∃ v7 : Option V, σ = [some (.ref web), some (.int pl), some (.ref tl), some (.int b), some (.ref l1), some (.ref l2), some (.int lo), v7, none, none] ∧ Same (upd H11 L (.lst [.ref q1, .ref q2, .ref q3, .ref q4, .ref q5, .ref q6])) H')
    ⟨none, rfl, fun _ _ h => h⟩ (fun i σ H' _ ⟨_, _, s⟩ => SqL.of (s _ _ eL)) ?_ ?_⟩
  · rintro i y σ H' hi ⟨v7, rfl, s⟩
    obtain ⟨e, hp, hl1, hl2, hsh2⟩ := hall i y hi
    obtain ⟨q0, x, z, rfl, hq, hx, hz⟩ := hp.same (sL.trans s)
    refine ⟨_, rfl, _, rfl, _, rfl, _, rfl, q0, _, 0, _, rfl, rfl, SqL.of hq, at_pos (by decide) rfl, _, rfl, q0, _, 1, _, rfl, rfl, SqL.of hq, at_pos (by decide) rfl, _, rfl, web, tl, x, z, pl, ts, b, e.1, e.2, lo, rfl, ask.same (tL.trans s), hx, hz, hl1, hl2, hsh2, fun H3 s3 => ⟨true, rfl, ifF rfl ⟨_, rfl, s.trans s3⟩⟩⟩
  rintro σ H' ⟨v7, rfl, s⟩
  have tH := tL.trans s
  refine ⟨_, rfl, (pl : Int), rfl, by omega, by omega, for_range (lo := 0) (n := (pl : Int).toNat) (fun i σ H2 => ∃ v8 v9 : Option V, σ = [some (.ref web), some (.int pl), some (.ref tl), some (.int b), some (.ref l1), some (.ref l2), some (.int lo), v7, v8, v9] ∧ Same H H2) ⟨none, none, rfl, tH⟩ ?_ (fun σ H2 ⟨_, _, e, s⟩ => by rw [e]; exact q H2 s)⟩
  rintro i σ H2 hi ⟨v8, v9, rfl, s2⟩
  refine ⟨_, rfl, (pl : Int), rfl, by omega, by omega, for_range (lo := 0) (n := (pl : Int).toNat) (fun j σ H3 => ∃ v9 : Option V, σ = [some (.ref web), some (.int pl), some (.ref tl), some (.int b), some (.ref l1), some (.ref l2), some (.int lo), v7, some (.int (0 + (i : Int))), v9] ∧ Same H H3) ⟨v9, rfl, s2⟩ ?_ (fun σ H3 ⟨_, e, s⟩ => ⟨_, _, e, s⟩)⟩
  rintro j σ H3 hj ⟨v9, rfl, s3⟩
  refine ⟨_, rfl, _, rfl, rfl, _, rfl, ite2 (fun c => ?_) (fun _ => ifF rfl ⟨_, rfl, s3⟩)⟩
  have hne : 0 + (i : Int) ≠ 0 + (j : Int) := fun z => by
    rw [z] at c
    simp at c
  refine ⟨_, rfl, _, rfl, _, rfl, _, rfl, line_ge (by show 1 ≤ 100000; decide), fun x1 y1 => ⟨_, rfl, line_ge (by show 1 ≤ 100000; decide), fun x2 y2 => ⟨_, rfl, _, _, rfl, rfl, ?_⟩⟩⟩
  have u1 := same_new y1 (.lst [.int (0 + (i : Int))])
  have u2 := same_new y2 (.lst [.int (0 + (j : Int))])
  refine ⟨web, tl, x1, x2, pl, ts, b, [0 + (i : Int)], [0 + (j : Int)], 1 - lo, rfl, ask.same (s3.trans (u1.trans u2)), u2 _ _ upd_same, upd_same, by show 1 ≤ 1000; decide, by show 1 ≤ 1000; decide, shr_nil.mpr fun x hx hy => ?_, fun H4 s4 => ⟨true, rfl, ifF rfl ⟨_, rfl, s3.trans (u1.trans (u2.trans s4))⟩⟩⟩
  rw [List.mem_singleton] at hx hy
  exact hne (hx.symm.trans hy)
end
end P41
namespace P41
open PySem PySem.Spec PyProof.Rows L2 SX EX WK
theorem least_congr {l l' : List Int} {m : Int} (h : ∀ x, x ∈ l ↔ x ∈ l') (g : Least l m) : Least l' m := ⟨(h m).mp g.1, fun y hy => g.2 y ((h y).mpr hy)⟩
theorem mem_shr {x : Int} {ns ms : List Int} : x ∈ shr ns ms ↔ x ∈ ns ∧ x ∈ ms := by
  unfold shr
  rw [List.mem_filter]
  constructor
  · exact fun h => ⟨h.1, of_decide_eq_true h.2⟩
  · exact fun h => ⟨h.1, decide_eq_true h.2⟩
theorem range_at {n i k : Nat} (h : (List.range n)[i]? = some k) : i < n ∧ k = i := by
  have h1 := (List.getElem?_eq_some_iff.mp h).1
  rw [List.length_range] at h1
  rw [List.getElem?_range h1] at h
  exact ⟨h1, (Option.some.inj h).symm⟩
section
variable {P : Program} {w : World} {K : PySem.W.Frag} {mg : Str → Option Value} {base : Heap} {f : Addr} {fd : FuncData} {cF cR cW cS cC fS c1 c2 c3 c4 c5 c6 c7 c8 : Addr}
/-! ### two lots apart -/
def spLots (K : PySem.W.Frag) : Sp := fun vs H Q _ => ∃ (pl : Nat) (p : Addr) (ds : List Int), vs = [.int pl, .ref p] ∧ pl ≤ 10 ∧ LiAt H p ds ∧ ds.length = 14 ∧ (∀ i d, i < 10 → ds[i]? = some d → 0 ≤ d ∧ d < 5) ∧
  ∀ r l1 l2 ns ms H', Same H H' → H' r = some (.lst [.ref l1, .ref l2]) → LiAt H' l1 ns → LiAt H' l2 ms → ns.length ≤ 10 → ms.length ≤ 10 → shr ns ms = [] → Q (.ref r) H'
def mkp (mk : List Int) (v x c : Int) (k : Nat) : Option Int := if (decide (V.int (mk.getD k 0) = V.int v) && !decide (V.int x = V.int c)) = true then some (0 + (k : Int)) else none
theorem mkp_mem {mk : List Int} {v x c : Int} {n : Nat} {y : Int} (h : y ∈ (List.range n).filterMap (mkp mk v x c)) : mk.getD y.toNat 0 = v := by
  obtain ⟨k, _, hk⟩ := List.mem_filterMap.mp h
  unfold mkp at hk
  split at hk
  · rename_i hc
    cases hk
    rw [Bool.and_eq_true] at hc
    have e := V.int.inj (of_decide_eq_true hc.1)
    rw [show (0 + (k : Int)).toNat = k by omega]
    exact e
  · cases hk
theorem fm_len {α β : Type} (f : α → Option β) : ∀ l : List α, (l.filterMap f).length ≤ l.length
  | [] => Nat.le_refl _
  | x :: l => by
    have := fm_len f l
    rw [List.filterMap_cons]
    split
    · rw [List.length_cons]; omega
    · rw [List.length_cons, List.length_cons]; omega
abbrev s__law_draw_lots : Stmt := top 57
abbrev N__law_draw_lots : List Str := ["places", "row", "marks", "spot", "one", "digit", "k"]
theorem sc__law_draw_lots : FnScope N__law_draw_lots ["places", "row"] (defScope s__law_draw_lots) := ⟨rfl, rfl, rfl, by decide +kernel, rfl, by decide +kernel, by decide +kernel⟩
theorem ok__law_draw_lots (F : Fun K "_law_draw_lots" "_law_draw_lots" s__law_draw_lots f fd) (T : Txt mg) : FnOk P w K mg base CX0 1 f fd ["places", "row"] (spLots K) := by
  refine F.ok sc__law_draw_lots (fun vs H Q E h => ?_) (fun cdv A outer s H vs Q E hr h => ?_)
  · obtain ⟨pl, p, ds, rfl, _⟩ := h
    rfl
  obtain ⟨pl, p, ds, rfl, hpl, hp, hdl, hd5, q⟩ := h
  refine ⟨_, (pss_cons (ps_set (i := 2) sc__law_draw_lots.nd rfl (Or.inr rfl) (pe_lc (own := [("digit", 5)]) (g := gName 5) (tt := tYes) (by rfl) sc__law_draw_lots.nd (pi_list (pe_slice sl_list (pv 1) po_none (po_some (pv 0)))) (blkOk_by (N := N__law_draw_lots) (sc := defScope s__law_draw_lots) (by decide +kernel)) (fun _ _ _ _ _ => (pg_name (i := 5) sc__law_draw_lots.nd rfl (Or.inl rfl))) (fun _ _ _ _ _ => pts_nil) (fun _ _ _ _ _ => (pe_ix (ix_listK (K := K) rfl) (pe_lst (pa_cons pe_int (pa_cons pe_int (pa_cons pe_int (pa_cons pe_int (pa_cons pe_int pa_nil)))))) (pv 5) (fun _ _ => rfl)))))
  (C8.pss_cut (ps_if (PW.pt (pw_and (pt_cmpR op_gt (pv 0) pe_int (nomark _)) (pw_and1 (pt_cmpR op_gt (pe_ix ix_list (pv 1) pe_int (fun _ _ => rfl)) pe_int (nomark _))))) (pss_cons (ps_set (i := 3) sc__law_draw_lots.nd rfl (Or.inl rfl) (pe_op op_mod (pe_callTy call_int1 (by rfl) T.b_int (by decide +kernel) (pa_cons (pe_ix ix_list (pv 1) pe_int (fun _ _ => rfl)) pa_nil)) (pv 0)))
  (pss_cons (ps_asg pe_int (pg_sub (pv 2) (pv 3) set_list))
  (pss_one (ps_asg pe_int (pg_sub (pv 2) (pe_op op_mod (pe_callTy call_int1 (by rfl) T.b_int (by decide +kernel) (pa_cons (pe_op op_add (pe_op op_add (pv 3) pe_int) (pe_op op_mod (pe_callTy call_int1 (by rfl) T.b_int (by decide +kernel) (pa_cons (pe_ix ix_list (pv 1) pe_int (fun _ _ => rfl)) pa_nil)) (pe_op op_sub (pv 0) pe_int))) pa_nil)) (pv 0)) set_list))))) pss_nil)
  (pss_cons (ps_setLc (i := 4) (own := [("k", 6)]) (g := gName 6) (by rfl) sc__law_draw_lots.nd rfl rfl (sw_true rfl rfl rfl (by decide +kernel)) (pi_range1 (by rfl) T.b_range (pa_cons (pv 0) pa_nil)) (blkOk_by (N := N__law_draw_lots) (sc := defScope s__law_draw_lots) (by decide +kernel)) (fun _ _ _ _ _ => (pg_name (i := 6) sc__law_draw_lots.nd rfl (Or.inl rfl))) (fun _ _ _ _ _ => (pts_one (PW.pt (pw_and (pt_cmpR op_eq (pe_ix (ix_listK (K := K) rfl) (pv 2) (pv 6) (fun _ _ => rfl)) pe_int (nomark _)) (pw_and1 (pt_cmpR op_ne (pe_ix (ix_listK (K := K) rfl) (pv 1) pe_int (fun _ _ => rfl)) pe_int (nomark _))))))) (fun _ _ _ _ _ => (pv 6)))
  (pss_one (ps_ret (pe_lst (pa_cons (pv 4) (pa_cons (pe_lc (own := [("k", 6)]) (g := gName 6) (by rfl) sc__law_draw_lots.nd (pi_range1 (by rfl) T.b_range (pa_cons (pv 0) pa_nil)) (blkOk_by (N := N__law_draw_lots) (sc := defScope s__law_draw_lots) (by decide +kernel)) (fun _ _ _ _ _ => (pg_name (i := 6) sc__law_draw_lots.nd rfl (Or.inl rfl))) (fun _ _ _ _ _ => (pts_one (PW.pt (pw_and (pt_cmpR op_eq (pe_ix (ix_listK (K := K) rfl) (pv 2) (pv 6) (fun _ _ => rfl)) pe_int (nomark _)) (pw_and1 (pt_cmpR op_ne (pe_ix (ix_listK (K := K) rfl) (pv 1) pe_int (fun _ _ => rfl)) pe_int (nomark _))))))) (fun _ _ _ _ _ => (pv 6))) pa_nil)))))))), ?_⟩
  have at_ : ∀ i, i < 14 → ∃ d, ds[i]? = some d := fun i hi => ⟨_, List.getElem?_eq_getElem (by omega)⟩
  obtain ⟨x10, hx10⟩ := at_ 10 (by decide)
  obtain ⟨x12, hx12⟩ := at_ 12 (by decide)
  obtain ⟨x13, hx13⟩ := at_ 13 (by decide)
  refine ⟨_, rfl, _, rfl, _, rfl, p, _, rfl, SqL.of hp, fun p2 hp2 => ?_⟩
  have hcut : cutV (ds.map V.int) none (some (pl : Int)) = (ds.take pl).map V.int := by
    unfold cutV
    rw [show HT.sIx (ds.map V.int).length 0 none = 0 from rfl, sIx_of (k := pl) rfl (by rw [List.length_map]; omega), List.drop_zero, Nat.sub_zero, List.map_take]
  rw [hcut]
  have s1 := same_new hp2 (.lst ((ds.take pl).map V.int))
  refine ⟨p2, rfl, ⟨_, SqL.of upd_same⟩, fun D hD => ?_⟩
  have e2 : (upd H p2 (.lst ((ds.take pl).map V.int))) p2 = some (.lst ((ds.take pl).map V.int)) := upd_same
  refine lc_m (walk_list (K := K) (a := p2) (xs := (ds.take pl).map V.int)) RI (stb_RI (K := K)) (ds.take pl) (List.length_map ..) (by rw [List.length_take]; omega) hD (fun H' s => SqL.of (s _ _ e2)) (fun _ _ _ _ => ys_at) (fun d => ([0, 0, 1, 1, 2] : List Int).getD d.toNat 0) (fun k d x H3 H4 hb1 s3 s4 y A B hA => ?_) (fun H3 l s3 hl3 rs => ?_)
  · obtain ⟨d', hd', rfl⟩ := map_int y.2
    rw [hb1] at hd'
    cases hd'
    have hk : k < pl := by
      have := (List.getElem?_eq_some_iff.mp hb1).1
      rw [List.length_take] at this
      omega
    rw [List.getElem?_take, if_pos hk] at hb1
    have hd := hd5 k d (by omega) hb1
    have hl : d.toNat < ([0, 0, 1, 1, 2] : List Int).length := by show d.toNat < 5; omega
    refine ⟨rfl, lc_yes ⟨line_ge (by show 5 ≤ 100000; decide), fun l hl2 => ⟨_, rfl, l, _, _, _, rfl, rfl, SqL.of upd_same, at_pos hd.1 ?_, hA _ _ (same_new hl2 _) rfl⟩⟩⟩
    exact getD_at (ns := [0, 0, 1, 1, 2]) hl
  have el : l = (((ds.take pl).map fun d => ([0, 0, 1, 1, 2] : List Int).getD d.toNat 0)).map V.int := rs.ints
  generalize hmk : ((ds.take pl).map fun d => ([0, 0, 1, 1, 2] : List Int).getD d.toNat 0) = mk at el
  have hml : mk.length = pl := by rw [← hmk, List.length_map, List.length_take]; omega
  subst el
  have s03 := s1.trans s3
  have hpp : ∀ {H'}, Same H H' → SqL K H' p (ds.map V.int) := fun s => SqL.of (s _ _ hp)
  have HD : H D = none := by
    cases e : H D with
    | none => rfl
    | some o => rw [s1 _ _ e] at hD; cases hD
  refine ⟨fun σ H' => ∃ (v3 : Option V) (mk : List Int), σ = [some (.int pl), some (.ref p), some (.ref D), v3, none, none, none] ∧ Same H H' ∧ LiAt H' D mk ∧ mk.length = pl, ?_, ?_⟩
  · refine ⟨_, rfl, _, _, rfl, rfl, _, rfl, ite2 (fun c => ?_) (fun _ => ifF rfl ⟨none, mk, rfl, s03, hl3, hml⟩)⟩
    have hp1 := dec_lt c
    refine ⟨_, rfl, p, _, 10, _, rfl, rfl, hpp s03, at_pos (by decide) (at_int hx10), _, _, rfl, rfl, _, rfl, ite2 (fun _ => ?_) (fun _ => ⟨none, mk, rfl, s03, hl3, hml⟩)⟩
    refine ⟨_, rfl, p, _, 12, _, rfl, rfl, hpp s03, at_pos (by decide) (at_int hx12), .inl ⟨_, rfl, _, rfl, _, _, rfl, rfl, (by show (0 : Int) < (pl : Int); omega), ?_⟩⟩
    have m0 := Int.emod_nonneg x12 (show (pl : Int) ≠ 0 by omega)
    have m1 := Int.emod_lt_of_pos x12 (show 0 < (pl : Int) by omega)
    refine ⟨_, rfl, _, rfl, D, _, _, (x12 % (pl : Int)).toNat, rfl, rfl, hl3, ixN_of m0 (by rw [List.length_map, hml]; exact m1), ?_⟩
    have m2 := Int.emod_nonneg (x12 % (pl : Int) + 1 + x13 % ((pl : Int) - 1)) (show (pl : Int) ≠ 0 by omega)
    have m3 := Int.emod_lt_of_pos (x12 % (pl : Int) + 1 + x13 % ((pl : Int) - 1)) (show 0 < (pl : Int) by omega)
    have s04 := same_at s03 HD (o := .lst ((mk.map V.int).set (x12 % (pl : Int)).toNat (.int 0)))
    refine ⟨_, rfl, _, rfl, _, _, rfl, rfl, _, rfl, p, _, 13, _, rfl, rfl, hpp s04, at_pos (by decide) (at_int hx13), .inl ⟨_, rfl, _, rfl, _, _, rfl, rfl, _, _, rfl, rfl, (by show (0 : Int) < (pl : Int) - 1; omega), _, _, rfl, rfl, .inl ⟨_, rfl, _, rfl, _, _, rfl, rfl, (by show (0 : Int) < (pl : Int); omega), ?_⟩⟩⟩
    refine ⟨D, _, _, ((x12 % (pl : Int) + 1 + x13 % ((pl : Int) - 1)) % (pl : Int)).toNat, rfl, rfl, upd_same, ixN_of m2 (by rw [List.length_set, List.length_map, hml]; exact m3), ?_⟩
    refine ⟨_, (mk.set (x12 % (pl : Int)).toNat 0).set ((x12 % (pl : Int) + 1 + x13 % ((pl : Int) - 1)) % (pl : Int)).toNat 1, rfl, same_at s04 HD, ?_, by rw [List.length_set, List.length_set]; exact hml⟩
    show upd _ D _ D = _
    rw [upd_same, List.map_set, List.map_set]
  rintro σ H4 ⟨v3, mk, rfl, s4, hD4, hml⟩
  have mkat : ∀ {H'}, Same H4 H' → SqL K H' D (mk.map V.int) := fun s => SqL.of (s _ _ hD4)
  have turn : ∀ (v c : Int) (k : Nat) (H' : Hp), k < pl → (mk.map V.int)[(0 + (k : Int)).toNat]? = some (.int (mk.getD k 0)) := fun v c k H' hk => by
    rw [show (0 + (k : Int)).toNat = k by omega]
    exact getD_at (by omega)
  refine ⟨_, rfl, (pl : Int), rfl, by omega, by omega, fun D2 hD2 => ?_⟩
  refine lc_f (walk_range (lo := 0) (n := (pl : Int).toNat)) RI (stb_RI (K := K)) (List.range pl) (by rw [List.length_range]; omega) (by rw [List.length_range]; omega) hD2 (fun _ _ => trivial) (fun _ _ _ _ => ys_fn) (mkp mk 0 x10 0) (fun k i x H5 H6 hb1 s5 s6 y A B hA hBn => ?_) (fun H5 l5 s5 hl5 rs5 => ?_)
  · obtain ⟨hk, rfl⟩ := range_at hb1
    rw [y.2]
    refine ⟨rfl, ⟨_, rfl, _, rfl, D, _, _, _, rfl, rfl, mkat s6, at_pos (by omega) (turn 0 0 i H6 hk), rfl, _, rfl, ?_⟩⟩
    cases e1 : decide (V.int (mk.getD i 0) = V.int 0) with
    | false => exact ifF rfl (ifF rfl (hBn (by unfold mkp; rw [e1]; rfl) _ fun _ _ h => h))
    | true =>
      refine ifT rfl ⟨_, rfl, p, _, 10, _, rfl, rfl, hpp (s4.trans s6), at_pos (by decide) (at_int hx10), rfl, _, rfl, ?_⟩
      cases e2 : decide (V.int x10 = V.int 0) with
      | true => exact ifF rfl (hBn (by unfold mkp; rw [e1, e2]; rfl) _ fun _ _ h => h)
      | false => exact ifT rfl ⟨_, rfl, hA _ (0 + (i : Int)) _ (by unfold mkp; rw [e1, e2]; rfl) (fun _ _ h => h) rfl⟩
  have s45 := s4.trans s5
  refine ⟨_, rfl, _, rfl, (pl : Int), rfl, by omega, by omega, fun D3 hD3 => ?_⟩
  refine lc_f (walk_range (lo := 0) (n := (pl : Int).toNat)) RI (stb_RI (K := K)) (List.range pl) (by rw [List.length_range]; omega) (by rw [List.length_range]; omega) hD3 (fun _ _ => trivial) (fun _ _ _ _ => ys_fn) (mkp mk 1 x10 1) (fun k i x H6 H7 hb1 s6 s7 y A B hA hBn => ?_) (fun H6 l6 s6 hl6 rs6 => ?_)
  · obtain ⟨hk, rfl⟩ := range_at hb1
    rw [y.2]
    refine ⟨rfl, ⟨_, rfl, _, rfl, D, _, _, _, rfl, rfl, mkat (s5.trans s7), at_pos (by omega) (turn 0 0 i H6 hk), rfl, _, rfl, ?_⟩⟩
    cases e1 : decide (V.int (mk.getD i 0) = V.int 1) with
    | false => exact ifF rfl (ifF rfl (hBn (by unfold mkp; rw [e1]; rfl) _ fun _ _ h => h))
    | true =>
      refine ifT rfl ⟨_, rfl, p, _, 10, _, rfl, rfl, hpp (s45.trans s7), at_pos (by decide) (at_int hx10), rfl, _, rfl, ?_⟩
      cases e2 : decide (V.int x10 = V.int 1) with
      | true => exact ifF rfl (hBn (by unfold mkp; rw [e1, e2]; rfl) _ fun _ _ h => h)
      | false => exact ifT rfl ⟨_, rfl, hA _ (0 + (i : Int)) _ (by unfold mkp; rw [e1, e2]; rfl) (fun _ _ h => h) rfl⟩
  have lens : ∀ f : Nat → Option Int, ((List.range pl).filterMap f).length ≤ 10 := fun f => by
    have := fm_len f (List.range pl)
    rw [List.length_range] at this
    omega
  refine ⟨two_line, fun r hr' => q r D2 D3 _ _ _ (s45.trans (s6.trans (same_new hr' _))) upd_same (same_new hr' _ _ _ (s6 _ _ (by rw [hl5, rs5.ints]))) (same_new hr' _ _ _ (by rw [hl6, rs6.ints])) (lens _) (lens _) (shr_nil.mpr fun x hx hy => ?_)⟩
  have h1 := mkp_mem hx
  have h2 := mkp_mem hy
  rw [h1] at h2
  cases h2
/-! ### refused -/
def spRef (K : PySem.W.Frag) : Sp := fun vs H Q _ => ∃ (door due : Int) (web : Addr) (v1 v2 : V) (ns ms : List Int), vs = [.int door, .ref web, v1, v2, .int due] ∧ Sn K H v1 (.tup (ns.map Td.int)) ∧ Sn K H v2 (.tup (ms.map Td.int)) ∧ ns.length ≤ 1000 ∧ ms.length ≤ 1000 ∧ Least (shr ns ms) due ∧ ∀ H', Same H H' → Q (.bl true) H'
abbrev s__law_refused : Stmt := top 61
abbrev N__law_refused : List Str := ["door", "web", "one", "two", "due", "e"]
theorem sc__law_refused : FnScope N__law_refused ["door", "web", "one", "two", "due"] (defScope s__law_refused) := ⟨rfl, rfl, rfl, by decide +kernel, rfl, by decide +kernel, by decide +kernel⟩
theorem ok__law_refused (F : Fun K "_law_refused" "_law_refused" s__law_refused f fd) (T : Txt mg) (U : Err K mg cS cC fS c1 c2 c3 c4 c5 c6 c7 c8) (C_strength_between : CalX P w K mg base 4 "strength_between" ["web", "one", "two"] (spStrX K cS)) (C_evenness : CalX P w K mg base 5 "evenness" ["web", "low", "high", "one", "two"] (spEvenX K cS)) (CH__law_whole : CalH P w K mg base 1 "_law_whole" ["value"] spLaw_whole) :
    FnOk P w K mg base CX0 6 f fd ["door", "web", "one", "two", "due"] (spRef K) := by
  refine F.ok sc__law_refused (fun vs H Q E h => ?_) (fun cdv A outer s H vs Q E hr h => ?_)
  · obtain ⟨door, due, web, v1, v2, ns, ms, rfl, _⟩ := h
    rfl
  obtain ⟨door, due, web, v1, v2, ns, ms, rfl, h1, h2, hn, hm, hlst, q⟩ := h
  refine ⟨_, (pss_cons (L2N.ps_try_as (i := 5) rfl rfl sc__law_refused.nd rfl rfl ⟨rfl, by decide, Or.inl U.g_CableError⟩ takesN (fun W pn xe tk _ => (pss_one (ps_if (pt_cmpR op_eq (pv 0) pe_int (nomark _)) (pss_one (ps_expr (pe_calX C_strength_between (hr.mono (by omega)) rfl tk (pa_cons (pv 1) (pa_cons (pv 2) (pa_cons (pv 3) pa_nil)))))) (pss_one (ps_expr (pe_calX C_evenness (hr.mono (by omega)) rfl tk (pa_cons (pv 1) (pa_cons (pe_tup (pa_cons pe_int (pa_cons pe_int pa_nil))) (pa_cons (pe_tup (pa_cons pe_int (pa_cons pe_int pa_nil))) (pa_cons (pv 2) (pa_cons (pv 3) pa_nil))))))))))) (fun a oe cls d pn hz hf => (pss_cons (ps_if (PW.pt (pw_or (pt_not (pt_val (pe_callB (call_isX (K := K) rfl hz.zc hf) (by rfl) T.b_isinstance (by decide +kernel) (pa_cons (pv 5) (pa_cons (pe_glob (v := .ref _) rfl U.g_SharedPlace rfl) pa_nil))))) (pw_or1 (pt_not (pt_val (pe_callB (call_isX (K := K) rfl hz.zc hf) (by rfl) T.b_isinstance (by decide +kernel) (pa_cons (pv 5) (pa_cons (pe_bltn (v := .ty "ValueError") (by rfl) T.b_ValueError (by decide +kernel) rfl) pa_nil)))))))) (pss_one (ps_ret pe_bl)) pss_nil)
  (pss_cons (ps_if (pt_val (pe_callB (call_isXT (K := K) rfl hz.zc hf) (by rfl) T.b_isinstance (by decide +kernel) (pa_cons (pv 5) (pa_cons (pe_tup (pa_cons (pe_glob (v := .ref _) rfl U.g_BadBundle rfl) (pa_cons (pe_glob (v := .ref _) rfl U.g_BadIndex rfl) (pa_cons (pe_glob (v := .ref _) rfl U.g_BadRow rfl) (pa_cons (pe_glob (v := .ref _) rfl U.g_BadTie rfl) (pa_cons (pe_glob (v := .ref _) rfl U.g_BadWeight rfl) (pa_cons (pe_glob (v := .ref _) rfl U.g_CountsDiffer rfl) (pa_cons (pe_glob (v := .ref _) rfl U.g_SamePlace rfl) (pa_cons (pe_glob (v := .ref _) rfl U.g_SizesDiffer rfl) pa_nil))))))))) pa_nil)))) (pss_one (ps_ret pe_bl)) pss_nil)
  (pss_one (ps_ret (pe_and (pe_calH CH__law_whole ((roomS hr).mono (by omega)) (hot_of hz hf) rfl (pa_cons (pe_xf U.x_SharedPlace U.no_SharedPlace_place hz.zc hf (pv 5)) pa_nil)) (pe_one (pe_cmpR op_eq (pe_xf U.x_SharedPlace U.no_SharedPlace_place hz.zc hf (pv 5)) (pv 4) (nomark _))))))))))
  (pss_one (ps_ret pe_bl))), ?_⟩
  refine ⟨_, rfl, rfl, _, rfl, ite2 (fun _ => ?_) (fun _ => ?_)⟩
  · refine ⟨_, rfl, _, rfl, _, rfl, web, v1, v2, ns, ms, due, rfl, h1, h2, hn, hm, hlst, fun d H4 g4 hd4 => ?_⟩
    refine ⟨true, U.eC, fun _ e _ => ?_, fun z => Bool.noConfusion z⟩
    refine ⟨_, rfl, cS, _, _, true, rfl, .own _, rfl, U.x, .inr ⟨d, _, rfl, hd4⟩, U.kS, _, rfl, ifF rfl ?_⟩
    refine ⟨_, rfl, cS, _, _, true, rfl, .ty _, rfl, U.x, .inr ⟨d, _, rfl, hd4⟩, U.kV, _, rfl, ifF rfl ?_⟩
    refine ⟨_, rfl, line_ge (by show 8 ≤ 100000; decide), fun tp htp => ?_⟩
    have s5 := same_new htp (.tup [.ref c1, .ref c2, .ref c3, .ref c4, .ref c5, .ref c6, .ref c7, .ref c8])
    refine ⟨cS, tp, _, _, false, rfl, upd_same, .cons (.own _) (.cons (.own _) (.cons (.own _) (.cons (.own _) (.cons (.own _) (.cons (.own _) (.cons (.own _) (.cons (.own _) .nil))))))), rfl, U.x, .inr ⟨d, _, rfl, s5 _ _ hd4⟩, U.all, false, rfl, ifF rfl ?_⟩
    refine ⟨_, rfl, rfl, rfl, d, _, .int due, rfl, s5 _ _ hd4, by simp [List.lookup], due, rfl, true, rfl, ifT rfl ?_⟩
    refine ⟨_, rfl, rfl, rfl, d, _, .int due, rfl, s5 _ _ hd4, by simp [List.lookup], _, rfl, rfl, ?_⟩
    rw [decide_eq_true rfl]
    exact q _ (g4.trans s5)
  · refine ⟨_, rfl, two_line, fun t1 ht1 => ⟨two_line, fun t2 ht2 => ?_⟩⟩
    have g12 := (same_new ht1 (.tup [.int 1, .int 2])).trans (same_new ht2 (.tup [.int 3, .int 1]))
    refine ⟨_, rfl, _, rfl, web, t1, t2, v1, v2, ns, ms, due, rfl, same_new ht2 _ _ _ upd_same, upd_same, h1.same g12, h2.same g12, hn, hm, hlst, fun d H4 g4 hd4 => ?_⟩
    refine ⟨true, U.eC, fun _ e _ => ?_, fun z => Bool.noConfusion z⟩
    refine ⟨_, rfl, cS, _, _, true, rfl, .own _, rfl, U.x, .inr ⟨d, _, rfl, hd4⟩, U.kS, _, rfl, ifF rfl ?_⟩
    refine ⟨_, rfl, cS, _, _, true, rfl, .ty _, rfl, U.x, .inr ⟨d, _, rfl, hd4⟩, U.kV, _, rfl, ifF rfl ?_⟩
    refine ⟨_, rfl, line_ge (by show 8 ≤ 100000; decide), fun tp htp => ?_⟩
    have s5 := same_new htp (.tup [.ref c1, .ref c2, .ref c3, .ref c4, .ref c5, .ref c6, .ref c7, .ref c8])
    refine ⟨cS, tp, _, _, false, rfl, upd_same, .cons (.own _) (.cons (.own _) (.cons (.own _) (.cons (.own _) (.cons (.own _) (.cons (.own _) (.cons (.own _) (.cons (.own _) .nil))))))), rfl, U.x, .inr ⟨d, _, rfl, s5 _ _ hd4⟩, U.all, false, rfl, ifF rfl ?_⟩
    refine ⟨_, rfl, rfl, rfl, d, _, .int due, rfl, s5 _ _ hd4, by simp [List.lookup], due, rfl, true, rfl, ifT rfl ?_⟩
    refine ⟨_, rfl, rfl, rfl, d, _, .int due, rfl, s5 _ _ hd4, by simp [List.lookup], _, rfl, rfl, ?_⟩
    rw [decide_eq_true rfl]
    exact q _ (g12.trans (g4.trans s5))
end
end P41
namespace P41
open PySem PySem.Spec PyProof.Rows L2 SX EX WK
/-- two lots and their least common place -/
def TrAt (H : Hp) (v : V) (ns ms : List Int) (m : Int) : Prop := ∃ q x y, v = .ref q ∧ H q = some (.lst [.ref x, .ref y, .int m]) ∧ LiAt H x ns ∧ LiAt H y ms
theorem TrAt.same {H H' : Hp} {v : V} {ns ms : List Int} {m : Int} (s : Same H H') (h : TrAt H v ns ms m) : TrAt H' v ns ms m := by
  obtain ⟨q, x, y, h1, h2, h3, h4⟩ := h
  exact ⟨q, x, y, h1, s _ _ h2, h3.same s, h4.same s⟩
/-- is a place kept: its digit d, the place k, the drawn one sp -/
def kp1 (d k sp : Int) : Bool := decide (d < 2) || (decide (V.int d = V.int 4) || decide (V.int k = V.int sp))
def kp2 (d k sp : Int) : Bool := (decide (1 < d) && decide (d < 5)) || decide (V.int k = V.int sp)
def fk (kp : Int → Int → Int → Bool) (ds : List Int) (sp : Int) (k : Nat) : Option Int := if kp (ds.getD k 0) (0 + (k : Int)) sp = true then some (0 + (k : Int)) else none
theorem fk_spot {kp : Int → Int → Int → Bool} (h : ∀ d k, kp d k k = true) {ds : List Int} {n : Nat} {sp : Int} (h0 : 0 ≤ sp) (h1 : sp < n) : sp ∈ (List.range n).filterMap (fk kp ds sp) := by
  refine List.mem_filterMap.mpr ⟨sp.toNat, List.mem_range.mpr (by omega), ?_⟩
  have e : 0 + (sp.toNat : Int) = sp := by omega
  unfold fk
  rw [e, h, if_pos rfl]
theorem fk_len (kp : Int → Int → Int → Bool) (ds : List Int) (n : Nat) (sp : Int) : ((List.range n).filterMap (fk kp ds sp)).length ≤ n := by
  have := fm_len (fk kp ds sp) (List.range n)
  rw [List.length_range] at this
  exact this
section
variable {P : Program} {w : World} {K : PySem.W.Frag} {mg : Str → Option Value} {base : Heap} {f : Addr} {fd : FuncData}
def spShared (K : PySem.W.Frag) : Sp := fun vs H Q _ => ∃ (a web : Addr) (ss : List Int) (pl : Nat) (lo : Int), vs = [.ref a, .ref web, .int pl, .int lo] ∧ SqL K H a (ss.map V.int) ∧ 0 < pl ∧ pl ≤ 10 ∧ ∀ H', Same H H' → Q (.bl true) H'
abbrev s__law_shared_refused : Stmt := top 62
abbrev N__law_shared_refused : List Str := ["script", "web", "places", "loose", "row", "spot", "one", "two", "due", "first", "second", "pair", "door", "handed", "k"]
theorem sc__law_shared_refused : FnScope N__law_shared_refused ["script", "web", "places", "loose"] (defScope s__law_shared_refused) := ⟨rfl, rfl, rfl, by decide +kernel, rfl, by decide +kernel, by decide +kernel⟩
theorem ok__law_shared_refused (F : Fun K "_law_shared_refused" "_law_shared_refused" s__law_shared_refused f fd) (T : Txt mg) (C__law_cell : Cal P w K mg base 1 "_law_cell" ["script", "k"] (spCell K)) (C__law_digits : Cal P w K mg base 1 "_law_digits" ["cell", "sizes"] (spDigits K))
    (C__law_shuffled : Cal P w K mg base 2 "_law_shuffled" ["cell", "lot"] spShuf) (C__law_refused : Cal P w K mg base 6 "_law_refused" ["door", "web", "one", "two", "due"] (spRef K)) : FnOk P w K mg base CX0 7 f fd ["script", "web", "places", "loose"] (spShared K) := by
  refine F.ok sc__law_shared_refused (fun vs H Q E h => ?_) (fun cdv A outer s H vs Q E hr h => ?_)
  · obtain ⟨a, web, ss, pl, lo, rfl, _⟩ := h
    rfl
  obtain ⟨a, web, ss, pl, lo, rfl, ha, hp0, hp1, q⟩ := h
  refine ⟨_, (pss_cons (ps_set (i := 4) sc__law_shared_refused.nd rfl (Or.inr rfl) (pe_cal C__law_digits (hr.mono (by omega)) rfl (pa_cons (pe_cal C__law_cell (hr.mono (by omega)) rfl (pa_cons (pv 0) (pa_cons pe_int pa_nil))) (pa_cons (pe_op op_cat (pe_op op_rep (pe_lst (pa_cons pe_int pa_nil)) pe_int) (pe_lst (pa_cons pe_int pa_nil))) pa_nil))))
  (pss_cons (ps_set (i := 5) sc__law_shared_refused.nd rfl (Or.inr rfl) (pe_op op_mod (pe_callTy call_int1 (by rfl) T.b_int (by decide +kernel) (pa_cons (pe_ix ix_list (pv 4) pe_int (fun _ _ => rfl)) pa_nil)) (pv 2)))
  (pss_cons (ps_setLc (i := 6) (own := [("k", 14)]) (g := gName 14) (by rfl) sc__law_shared_refused.nd rfl rfl (sw_true rfl rfl rfl (by decide +kernel)) (pi_range1 (by rfl) T.b_range (pa_cons (pv 2) pa_nil)) (blkOk_by (N := N__law_shared_refused) (sc := defScope s__law_shared_refused) (by decide +kernel)) (fun _ _ _ _ _ => (pg_name (i := 14) sc__law_shared_refused.nd rfl (Or.inl rfl))) (fun _ _ _ _ _ => (pts_one (PW.pt (pw_or (pt_cmpR op_lt (pe_ix (ix_listK (K := K) rfl) (pv 4) (pv 14) (fun _ _ => rfl)) pe_int (nomark _)) (pw_or (pt_cmpR op_eq (pe_ix (ix_listK (K := K) rfl) (pv 4) (pv 14) (fun _ _ => rfl)) pe_int (nomark _)) (pw_or1 (pt_cmpR op_eq (pv 14) (pv 5) (nomark _)))))))) (fun _ _ _ _ _ => (pv 14)))
  (pss_cons (ps_set (i := 7) sc__law_shared_refused.nd rfl (Or.inr rfl) (pe_lc (own := [("k", 14)]) (g := gName 14) (by rfl) sc__law_shared_refused.nd (pi_range1 (by rfl) T.b_range (pa_cons (pv 2) pa_nil)) (blkOk_by (N := N__law_shared_refused) (sc := defScope s__law_shared_refused) (by decide +kernel)) (fun _ _ _ _ _ => (pg_name (i := 14) sc__law_shared_refused.nd rfl (Or.inl rfl))) (fun _ _ _ _ _ => (pts_one (PW.pt (pw_or (PW.pt (pw_and (pt_cmpR op_gt (pe_ix (ix_listK (K := K) rfl) (pv 4) (pv 14) (fun _ _ => rfl)) pe_int (nomark _)) (pw_and1 (pt_cmpR op_lt (pe_ix (ix_listK (K := K) rfl) (pv 4) (pv 14) (fun _ _ => rfl)) pe_int (nomark _))))) (pw_or1 (pt_cmpR op_eq (pv 14) (pv 5) (nomark _))))))) (fun _ _ _ _ _ => (pv 14))))
  (pss_cons (ps_set (i := 8) sc__law_shared_refused.nd rfl (Or.inl rfl) (pe_callB (cr_min rfl) (by rfl) T.b_min (by decide +kernel) (pa_cons (pe_lc (own := [("k", 14)]) (g := gName 14) (by rfl) sc__law_shared_refused.nd (pi_list (pv 6)) (blkOk_by (N := N__law_shared_refused) (sc := defScope s__law_shared_refused) (by decide +kernel)) (fun _ _ _ _ _ => (pg_name (i := 14) sc__law_shared_refused.nd rfl (Or.inl rfl))) (fun _ _ _ _ _ => (pts_one (pt_cmpR (op_in_seqK (K := K) rfl) (pv 14) (pv 7) (by rfl)))) (fun _ _ _ _ _ => (pv 14))) pa_nil)))
  (pss_cons (ps_set (i := 9) sc__law_shared_refused.nd rfl (Or.inl rfl) (pe_cal C__law_shuffled (hr.mono (by omega)) rfl (pa_cons (pe_cal C__law_cell (hr.mono (by omega)) rfl (pa_cons (pv 0) (pa_cons pe_int pa_nil))) (pa_cons (pv 6) pa_nil))))
  (pss_cons (ps_set (i := 10) sc__law_shared_refused.nd rfl (Or.inl rfl) (pe_cal C__law_shuffled (hr.mono (by omega)) rfl (pa_cons (pe_cal C__law_cell (hr.mono (by omega)) rfl (pa_cons (pv 0) (pa_cons pe_int pa_nil))) (pa_cons (pv 7) pa_nil))))
  (pss_cons (ps_for PassesOwn.never rfl (pi_list (pe_lst (pa_cons (pe_lst (pa_cons (pv 9) (pa_cons (pv 10) (pa_cons (pv 8) pa_nil)))) (pa_cons (pe_lst (pa_cons (pv 10) (pa_cons (pv 9) (pa_cons (pv 8) pa_nil)))) (pa_cons (pe_lst (pa_cons (pv 9) (pa_cons (pv 9) (pa_cons (pe_callB (cr_min rfl) (by rfl) T.b_min (by decide +kernel) (pa_cons (pv 6) pa_nil)) pa_nil)))) pa_nil))))) (pg_name (i := 11) sc__law_shared_refused.nd rfl (Or.inl rfl)) (pss_one (ps_for PassesOwn.never rfl (pi_range1 (by rfl) T.b_range (pa_cons pe_int pa_nil)) (pg_name (i := 12) sc__law_shared_refused.nd rfl (Or.inl rfl)) (pss_cons (ps_set (i := 13) sc__law_shared_refused.nd rfl (Or.inl rfl) (pe_lst (pa_cons (pe_callTy call_list_of (by rfl) T.b_list (by decide +kernel) (pa_cons (pe_ix ix_list (pv 11) pe_int (fun _ _ => rfl)) pa_nil)) (pa_cons (pe_callTy call_list_of (by rfl) T.b_list (by decide +kernel) (pa_cons (pe_ix ix_list (pv 11) pe_int (fun _ _ => rfl)) pa_nil)) pa_nil))))
  (C8.pss_cut (ps_if (PW.pt (pw_and (pt_cmpR op_eq (pv 3) pe_int (nomark _)) (pw_and1 (pt_not (pt_val (pe_cal C__law_refused (hr.mono (by omega)) rfl (pa_cons (pv 12) (pa_cons (pv 1) (pa_cons (pe_ix ix_list (pv 13) pe_int (fun _ _ => rfl)) (pa_cons (pe_ix ix_list (pv 13) pe_int (fun _ _ => rfl)) (pa_cons (pe_ix ix_list (pv 11) pe_int (fun _ _ => rfl)) pa_nil))))))))))) (pss_one (ps_ret pe_bl)) pss_nil)
  (C8.pss_cut (ps_if (PW.pt (pw_and (pt_cmpR op_eq (pv 3) pe_int (nomark _)) (pw_and1 (pt_not (pt_val (pe_cal C__law_refused (hr.mono (by omega)) rfl (pa_cons (pv 12) (pa_cons (pv 1) (pa_cons (pe_callTy call_tuple_of (by rfl) T.b_tuple (by decide +kernel) (pa_cons (pe_ix ix_list (pv 11) pe_int (fun _ _ => rfl)) pa_nil)) (pa_cons (pe_callTy call_tuple_of (by rfl) T.b_tuple (by decide +kernel) (pa_cons (pe_ix ix_list (pv 11) pe_int (fun _ _ => rfl)) pa_nil)) (pa_cons (pe_ix ix_list (pv 11) pe_int (fun _ _ => rfl)) pa_nil))))))))))) (pss_one (ps_ret pe_bl)) pss_nil)
  (pss_one (ps_if (pt_cmpR (op_neD hr.units) (pv 13) (pe_lst (pa_cons (pe_ix ix_list (pv 11) pe_int (fun _ _ => rfl)) (pa_cons (pe_ix ix_list (pv 11) pe_int (fun _ _ => rfl)) pa_nil))) (nomark _)) (pss_one (ps_ret pe_bl)) pss_nil))))))))
  (pss_one (ps_ret pe_bl)))))))))), ?_⟩
  refine ⟨_, rfl, a, ss, 6, rfl, ha, by decide, by decide, fun c => ⟨line_ge (by show 1 ≤ 100000; decide), fun l0 hl0 => ⟨l0, 10, _, rfl, rfl, upd_same, by decide, by decide, line_ge (by show 1 * (10 : Int).toNat ≤ 100000; decide), fun l1 hl1 => ⟨line_ge (by show 1 ≤ 100000; decide), fun l2 hl2 => ?_⟩⟩⟩⟩
  refine ⟨l1, l2, _, _, rfl, rfl, same_new hl2 _ _ _ upd_same, upd_same, line_ge (by decide), fun l3 hl3 => ?_⟩
  refine ⟨c, l3, (List.replicate (10 : Int).toNat ([6] : List Int)).flatten ++ [2520], rfl, SqL.of (by rw [upd_same, List.map_append]; exact congrArg (fun x => some (HO.lst (x ++ [V.int 2520]))) (rep_map _ [6])), by decide, szs (by decide), fun p ds hp hd => ?_⟩
  have hdl : ds.length = 11 := hd.len
  generalize hH1 : upd (upd (upd (upd (upd H l0 _) l1 _) l2 _) l3 _) p _ = H1
  have s1 : Same H H1 := by rw [← hH1]; exact (same_new hl0 _).trans ((same_new hl1 _).trans ((same_new hl2 _).trans ((same_new hl3 _).trans (same_new hp _))))
  have e1 : H1 p = some (.lst (ds.map V.int)) := by rw [← hH1, upd_same]
  obtain ⟨x10, hx10⟩ : ∃ d, ds[10]? = some d := ⟨_, List.getElem?_eq_getElem (by omega)⟩
  refine ⟨_, rfl, p, _, 10, _, rfl, rfl, SqL.of e1, at_pos (by decide) (at_int hx10), .inl ⟨_, rfl, _, rfl, _, _, rfl, rfl, (by show (0 : Int) < (pl : Int); omega), ?_⟩⟩
  have m0 := Int.emod_nonneg x10 (show (pl : Int) ≠ 0 by omega)
  have m1 := Int.emod_lt_of_pos x10 (show 0 < (pl : Int) by omega)
  generalize hsp : x10 % (pl : Int) = sp at m0 m1
  have turn : ∀ {k : Nat}, k < pl → (ds.map V.int)[(0 + (k : Int)).toNat]? = some (.int (ds.getD k 0)) := fun {k} hk => by
    rw [show (0 + (k : Int)).toNat = k by omega]
    exact getD_at (by omega)
  have rowat : ∀ {H'}, Same H1 H' → SqL K H' p (ds.map V.int) := fun s => SqL.of (s _ _ e1)
  have esp : ∀ {x : Int}, decide (V.int x = V.int (x10 % (pl : Int))) = decide (V.int x = V.int sp) := fun {x} => by rw [hsp]
  -- one
  refine ⟨_, rfl, (pl : Int), rfl, by omega, by omega, fun D hD => ?_⟩
  refine lc_f (walk_range (lo := 0) (n := (pl : Int).toNat)) RI (stb_RI (K := K)) (List.range pl) (by rw [List.length_range]; omega) (by rw [List.length_range]; omega) hD (fun _ _ => trivial) (fun _ _ _ _ => ys_fn) (fk kp1 ds sp) (fun k i x H5 H6 hb1 s5 s6 y A B hA hBn => ?_) (fun H2 l5 s2 hl5 rs5 => ?_)
  · obtain ⟨hk, rfl⟩ := range_at hb1
    rw [y.2]
    have yes : kp1 (ds.getD i 0) (0 + (i : Int)) sp = true → A (V.int (0 + (i : Int))) H6 := fun e => hA _ (0 + (i : Int)) _ (by unfold fk; rw [e, if_pos rfl]) (fun _ _ h => h) rfl
    have no : kp1 (ds.getD i 0) (0 + (i : Int)) sp = false → B H6 := fun e => hBn (by unfold fk; rw [e]; rfl) _ fun _ _ h => h
    unfold kp1 at yes no
    refine ⟨rfl, ⟨_, rfl, _, rfl, p, _, _, _, rfl, rfl, rowat s6, at_pos (by omega) (turn hk), _, _, rfl, rfl, _, rfl, ?_⟩⟩
    cases t1 : decide (ds.getD i 0 < 2) with
    | true => exact ifT rfl (ifT rfl ⟨_, rfl, yes (by rw [t1]; rfl)⟩)
    | false =>
      refine ifF rfl ⟨_, rfl, _, rfl, p, _, _, _, rfl, rfl, rowat s6, at_pos (by omega) (turn hk), rfl, _, rfl, ?_⟩
      cases t2 : decide (V.int (ds.getD i 0) = V.int 4) with
      | true => exact ifT rfl (ifT rfl ⟨_, rfl, yes (by rw [t1, t2]; rfl)⟩)
      | false =>
        refine ifF rfl ⟨_, rfl, _, rfl, rfl, _, rfl, ?_⟩
        rw [show decide (V.int (0 + (i : Int)) = V.int (x10 % (pl : Int))) = decide (V.int (0 + (i : Int)) = V.int sp) from esp]
        cases t3 : decide (V.int (0 + (i : Int)) = V.int sp) with
        | true => exact ifT rfl ⟨_, rfl, yes (by rw [t1, t2, t3]; rfl)⟩
        | false => exact ifF rfl (no (by rw [t1, t2, t3]; rfl))
  have f1 : LiAt H2 D ((List.range pl).filterMap (fk kp1 ds sp)) := by
    show H2 D = _
    rw [hl5, rs5.ints]
  have n1 := fk_len kp1 ds pl sp
  have i1 := fk_spot (kp := kp1) (fun d k => by unfold kp1; simp) (ds := ds) m0 m1
  generalize (List.range pl).filterMap (fk kp1 ds sp) = ns at f1 n1 i1
  -- two
  refine ⟨_, rfl, (pl : Int), rfl, by omega, by omega, fun D2 hD2 => ?_⟩
  refine lc_f (walk_range (lo := 0) (n := (pl : Int).toNat)) RI (stb_RI (K := K)) (List.range pl) (by rw [List.length_range]; omega) (by rw [List.length_range]; omega) hD2 (fun _ _ => trivial) (fun _ _ _ _ => ys_fn) (fk kp2 ds sp) (fun k i x H5 H6 hb1 s5 s6 y A B hA hBn => ?_) (fun H3 l6 s3 hl6 rs6 => ?_)
  · obtain ⟨hk, rfl⟩ := range_at hb1
    rw [y.2]
    have yes : kp2 (ds.getD i 0) (0 + (i : Int)) sp = true → A (V.int (0 + (i : Int))) H6 := fun e => hA _ (0 + (i : Int)) _ (by unfold fk; rw [e, if_pos rfl]) (fun _ _ h => h) rfl
    have no : kp2 (ds.getD i 0) (0 + (i : Int)) sp = false → B H6 := fun e => hBn (by unfold fk; rw [e]; rfl) _ fun _ _ h => h
    unfold kp2 at yes no
    have sr := s2.trans s6
    refine ⟨rfl, ⟨_, rfl, _, rfl, p, _, _, _, rfl, rfl, rowat sr, at_pos (by omega) (turn hk), _, _, rfl, rfl, _, rfl, ?_⟩⟩
    cases t1 : decide (1 < ds.getD i 0) with
    | false =>
      refine ifF rfl (ifF rfl ⟨_, rfl, _, rfl, rfl, _, rfl, ?_⟩)
      rw [show decide (V.int (0 + (i : Int)) = V.int (x10 % (pl : Int))) = decide (V.int (0 + (i : Int)) = V.int sp) from esp]
      cases t3 : decide (V.int (0 + (i : Int)) = V.int sp) with
      | true => exact ifT rfl ⟨_, rfl, yes (by rw [t1, t3]; rfl)⟩
      | false => exact ifF rfl (no (by rw [t1, t3]; rfl))
    | true =>
      refine ifT rfl ⟨_, rfl, _, rfl, p, _, _, _, rfl, rfl, rowat sr, at_pos (by omega) (turn hk), _, _, rfl, rfl, _, rfl, ?_⟩
      cases t2 : decide (ds.getD i 0 < 5) with
      | true => exact ifT rfl (ifT rfl ⟨_, rfl, yes (by rw [t1, t2]; rfl)⟩)
      | false =>
        refine ifF rfl ⟨_, rfl, _, rfl, rfl, _, rfl, ?_⟩
        rw [show decide (V.int (0 + (i : Int)) = V.int (x10 % (pl : Int))) = decide (V.int (0 + (i : Int)) = V.int sp) from esp]
        cases t3 : decide (V.int (0 + (i : Int)) = V.int sp) with
        | true => exact ifT rfl ⟨_, rfl, yes (by rw [t1, t2, t3]; rfl)⟩
        | false => exact ifF rfl (no (by rw [t1, t2, t3]; rfl))
  have f2 : LiAt H3 D2 ((List.range pl).filterMap (fk kp2 ds sp)) := by
    show H3 D2 = _
    rw [hl6, rs6.ints]
  have n2 := fk_len kp2 ds pl sp
  have i2 := fk_spot (kp := kp2) (fun d k => by unfold kp2; simp) (ds := ds) m0 m1
  generalize (List.range pl).filterMap (fk kp2 ds sp) = ms at f2 n2 i2
  have f1 := f1.same s3
  -- due
  refine ⟨_, rfl, D, rfl, ⟨_, SqL.of f1⟩, fun D3 hD3 => ?_⟩
  refine lc_f (walk_list (K := K) (a := D) (xs := ns.map V.int)) RI (stb_RI (K := K)) ns (List.length_map ..) (by omega) hD3 (fun H' s => SqL.of (s _ _ f1)) (fun _ _ _ _ => ys_at) (fun x => if decide (x ∈ ms) = true then some x else none) (fun k x v H5 H6 hb1 s5 s6 y A B hA hBn => ?_) (fun H4 l7 s4 hl7 rs7 => ?_)
  · have e := ns_at hb1 y.2
    subst e
    refine ⟨rfl, ⟨_, rfl, _, rfl, D2, _, rfl, .inl (SqL.of (s6 _ _ f2)), rfl, flat_ints ms, _, rfl, ?_⟩⟩
    rw [if_neg Bool.false_ne_true, inV_ints]
    cases t1 : decide (x ∈ ms) with
    | true => exact ifT rfl ⟨_, rfl, hA _ x _ (if_pos t1) (fun _ _ h => h) rfl⟩
    | false => exact ifF rfl (hBn (if_neg (by rw [t1]; exact Bool.false_ne_true)) _ fun _ _ h => h)
  have el : l7 = (shr ns ms).map V.int := by
    have e := rs7.ints
    rw [filterMap_if (fun x => decide (x ∈ ms)) (fun x => x), List.map_id'] at e
    exact e
  subst el
  refine ⟨D3, _, rfl, SqL.of hl7, List.length_pos_of_mem (mem_shr.mpr ⟨i1, i2⟩), fun due hd1 hd2 => ?_⟩
  have hdue : Least (shr ns ms) due := ⟨hd1, hd2⟩
  have t4 : Same H H4 := s1.trans (s2.trans (s3.trans s4))
  have f1 := f1.same s4
  have f2 := f2.same s4
  refine ⟨_, rfl, a, ss, 7, rfl, t4.seq ha, by decide, by decide, fun c1 => ⟨_, rfl, c1, D, ns, rfl, f1, by omega, fun F1 as H5 s5 g5 pm1 => ?_⟩⟩
  have t5 := t4.trans s5
  refine ⟨_, rfl, a, ss, 8, rfl, t5.seq ha, by decide, by decide, fun c2 => ⟨_, rfl, c2, D2, ms, rfl, f2.same s5, by omega, fun F2 bs H6 s6 g6 pm2 => ?_⟩⟩
  have t6 := t5.trans s6
  have g5 := g5.same s6
  have f1 := (f1.same s5).same s6
  have la : as.length = ns.length := pm1.length_eq
  have lb : bs.length = ms.length := pm2.length_eq
  have d1 : Least (shr as bs) due := least_congr (fun x => by rw [mem_shr, mem_shr, pm1.mem_iff, pm2.mem_iff]) hdue
  have d2 : Least (shr bs as) due := least_congr (fun x => by rw [mem_shr, mem_shr]; exact And.comm) d1
  -- the three lots
  refine ⟨_, rfl, _, rfl, _, rfl, three_line, fun q1 y1 => ?_⟩
  have z1 := same_new y1 (.lst [.ref F1, .ref F2, .int due])
  have p1 : TrAt (upd H6 q1 (.lst [.ref F1, .ref F2, .int due])) (.ref q1) as bs due := ⟨q1, F1, F2, rfl, upd_same, g5.same z1, g6.same z1⟩
  refine ⟨_, rfl, _, rfl, _, rfl, three_line, fun q2 y2 => ?_⟩
  have z2 := same_new y2 (.lst [.ref F2, .ref F1, .int due])
  have z12 := z1.trans z2
  have p2 : TrAt (upd (upd H6 q1 (.lst [.ref F1, .ref F2, .int due])) q2 (.lst [.ref F2, .ref F1, .int due])) (.ref q2) bs as due := ⟨q2, F2, F1, rfl, upd_same, g6.same z12, g5.same z12⟩
  have p1 := p1.same z2
  generalize upd (upd H6 q1 (.lst [.ref F1, .ref F2, .int due])) q2 (.lst [.ref F2, .ref F1, .int due]) = H7 at *
  refine ⟨_, rfl, _, rfl, _, rfl, D, _, rfl, SqL.of (z12 _ _ f1), List.length_pos_of_mem i1, fun mm hm1 hm2 => ⟨three_line, fun q3 y3 => ?_⟩⟩
  have d3 : Least (shr as as) mm := least_congr (l := ns) (fun x => by rw [mem_shr, pm1.mem_iff]; exact ⟨fun h => ⟨h, h⟩, fun h => h.1⟩) ⟨hm1, hm2⟩
  have z3 := same_new y3 (.lst [.ref F1, .ref F1, .int mm])
  have p3 : TrAt (upd H7 q3 (.lst [.ref F1, .ref F1, .int mm])) (.ref q3) as as mm := ⟨q3, F1, F1, rfl, upd_same, g5.same (z12.trans z3), g5.same (z12.trans z3)⟩
  have p1 := p1.same z3
  have p2 := p2.same z3
  have t8 := t6.trans (z12.trans z3)
  generalize upd H7 q3 (.lst [.ref F1, .ref F1, .int mm]) = H8 at *
  refine ⟨three_line, fun L yL => ?_⟩
  have zL := same_new yL (.lst [.ref q1, .ref q2, .ref q3])
  have eL : (upd H8 L (.lst [.ref q1, .ref q2, .ref q3])) L = some (.lst [.ref q1, .ref q2, .ref q3]) := upd_same
  have t9 := t8.trans zL
  have hall : ∀ (i : Nat) (v : V), [V.ref q1, .ref q2, .ref q3][i]? = some v → ∃ (xs ys : List Int) (m : Int), TrAt (upd H8 L (.lst [.ref q1, .ref q2, .ref q3])) v xs ys m ∧ xs.length ≤ 1000 ∧ ys.length ≤ 1000 ∧ Least (shr xs ys) m := fun i v h => by
    match i, h with
    | 0, h => cases h; exact ⟨_, _, _, p1.same zL, by omega, by omega, d1⟩
    | 1, h => cases h; exact ⟨_, _, _, p2.same zL, by omega, by omega, d2⟩
    | 2, h => cases h; exact ⟨_, _, _, p3.same zL, by omega, by omega, d3⟩
    | i + 3, h => simp at h
  generalize upd H8 L (.lst [.ref q1, .ref q2, .ref q3]) = H9 at *
  refine ⟨L, rfl, ⟨_, SqL.of eL⟩, for_list (K := K) (a := L) (xs := [.ref q1, .ref q2, .ref q3]) (fun i σ H' => ∃ v11 v12 v13 : Option V, σ = [some (.ref a), some (.ref web), some (.int pl), some (.int lo), some (.ref p), some (.int (x10 % (pl : Int))), some (.ref D), some (.ref D2), some (.int due), some (.ref F1), some (.ref F2), v11, v12, v13, none] ∧ Same H9 H')
    ⟨none, none, none, rfl, fun _ _ h => h⟩ (fun i σ H' _ ⟨_, _, _, _, s⟩ => SqL.of (s _ _ eL)) ?_ (fun σ H' ⟨_, _, _, e, s⟩ => by rw [e]; exact q H' (t9.trans s))⟩
  rintro i y σ H' hi ⟨v11, v12, v13, rfl, s⟩
  obtain ⟨xs, ys, m, hT, lx, ly, hL⟩ := hall i y hi
  refine ⟨2, rfl, by decide, by decide, for_range (lo := 0) (n := (2 : Int).toNat) (fun j σ H2 => ∃ v12 v13 : Option V, σ = [some (.ref a), some (.ref web), some (.int pl), some (.int lo), some (.ref p), some (.int (x10 % (pl : Int))), some (.ref D), some (.ref D2), some (.int due), some (.ref F1), some (.ref F2), some y, v12, v13, none] ∧ Same H9 H2)
    ⟨v12, v13, rfl, s⟩ ?_ (fun σ H2 ⟨_, _, e, s⟩ => ⟨_, _, _, e, s⟩)⟩
  rintro j σ H2 hj ⟨v12, v13, rfl, s2⟩
  obtain ⟨q0, x, z, rfl, hq, hx, hz⟩ := hT.same s2
  refine ⟨_, rfl, q0, _, 0, _, rfl, rfl, SqL.of hq, at_pos (by decide) rfl, x, _, rfl, .inl (SqL.of hx), fun b1 hb1 => ⟨_, rfl, q0, _, 1, _, rfl, rfl, SqL.of (same_new hb1 _ _ _ hq), at_pos (by decide) rfl, z, _, rfl, .inl (SqL.of (same_new hb1 _ _ _ hz)), fun b2 hb2 => ⟨two_line, fun hd hhd => ?_⟩⟩⟩
  have u1 := same_new hb1 (.lst (xs.map V.int))
  have u2 := same_new hb2 (.lst (ys.map V.int))
  have u3 := same_new hhd (.lst [.ref b1, .ref b2])
  have uu := u1.trans (u2.trans u3)
  have k1 : LiAt (upd (upd (upd H2 b1 (.lst (xs.map V.int))) b2 (.lst (ys.map V.int))) hd (.lst [.ref b1, .ref b2])) b1 xs := u3 _ _ (u2 _ _ upd_same)
  have k2 : LiAt (upd (upd (upd H2 b1 (.lst (xs.map V.int))) b2 (.lst (ys.map V.int))) hd (.lst [.ref b1, .ref b2])) b2 ys := u3 _ _ upd_same
  have k3 : (upd (upd (upd H2 b1 (.lst (xs.map V.int))) b2 (.lst (ys.map V.int))) hd (.lst [.ref b1, .ref b2])) hd = some (.lst [.ref b1, .ref b2]) := upd_same
  have hq := uu _ _ hq
  have hx := hx.same uu
  have hz := hz.same uu
  have s2 := s2.trans uu
  show C8.tCut _ _ _ _ (upd (upd (upd H2 b1 (.lst (xs.map V.int))) b2 (.lst (ys.map V.int))) hd (.lst [.ref b1, .ref b2]))
  generalize upd (upd (upd H2 b1 (.lst (xs.map V.int))) b2 (.lst (ys.map V.int))) hd (.lst [.ref b1, .ref b2]) = H3 at k1 k2 k3 hq hx hz s2
  refine ⟨fun σ' H' => σ' = [some (.ref a), some (.ref web), some (.int pl), some (.int lo), some (.ref p), some (.int (x10 % (pl : Int))), some (.ref D), some (.ref D2), some (.int due), some (.ref F1), some (.ref F2), some (.ref q0), some (.int (0 + (j : Int))), some (.ref hd), none] ∧ Same H3 H', ?_, ?_⟩
  · refine ⟨_, rfl, rfl, _, rfl, ite2 (fun _ => ?_) (fun _ => ifF rfl ⟨rfl, fun _ _ h => h⟩)⟩
    exact ⟨_, rfl, _, rfl, _, rfl, hd, _, 0, _, rfl, rfl, SqL.of k3, at_pos (by decide) rfl, _, rfl, hd, _, 1, _, rfl, rfl, SqL.of k3, at_pos (by decide) rfl, _, rfl, q0, _, 2, _, rfl, rfl, SqL.of hq, at_pos (by decide) rfl, _, m, web, _, _, xs, ys, rfl, sn_li k1, sn_li k2, lx, ly, hL, fun H4 s4 => ⟨true, rfl, ifF rfl ⟨rfl, s4⟩⟩⟩
  rintro σ' H4 ⟨rfl, s4⟩
  refine ⟨fun σ' H' => σ' = [some (.ref a), some (.ref web), some (.int pl), some (.int lo), some (.ref p), some (.int (x10 % (pl : Int))), some (.ref D), some (.ref D2), some (.int due), some (.ref F1), some (.ref F2), some (.ref q0), some (.int (0 + (j : Int))), some (.ref hd), none] ∧ Same H3 H', ?_, ?_⟩
  · refine ⟨_, rfl, rfl, _, rfl, ite2 (fun _ => ?_) (fun _ => ifF rfl ⟨rfl, s4⟩)⟩
    refine ⟨_, rfl, _, rfl, _, rfl, q0, _, 0, _, rfl, rfl, SqL.of (s4 _ _ hq), at_pos (by decide) rfl, x, _, rfl, .inl ⟨SqL.of (s4 _ _ hx), fun a1 ha1 => ⟨_, rfl, q0, _, 1, _, rfl, rfl, SqL.of (same_new ha1 _ _ _ (s4 _ _ hq)), at_pos (by decide) rfl, z, _, rfl, .inl ⟨SqL.of (same_new ha1 _ _ _ (s4 _ _ hz)), fun a2 ha2 => ?_⟩⟩⟩⟩
    have w1 := same_new ha1 (.tup (xs.map V.int))
    have w2 := same_new ha2 (.tup (ys.map V.int))
    exact ⟨_, rfl, q0, _, 2, _, rfl, rfl, SqL.of (w2 _ _ (w1 _ _ (s4 _ _ hq))), at_pos (by decide) rfl, _, m, web, _, _, xs, ys, rfl, sn_ti (w2 _ _ upd_same), sn_ti upd_same, lx, ly, hL, fun H5 s5 => ⟨true, rfl, ifF rfl ⟨rfl, s4.trans (w1.trans (w2.trans s5))⟩⟩⟩
  rintro σ' H5 ⟨rfl, s5⟩
  refine ⟨_, rfl, _, rfl, q0, _, 0, _, rfl, rfl, SqL.of (s5 _ _ hq), at_pos (by decide) rfl, _, rfl, q0, _, 1, _, rfl, rfl, SqL.of (s5 _ _ hq), at_pos (by decide) rfl, two_line, fun d hd2 => ?_⟩
  have s6 := same_new hd2 (.lst [.ref x, .ref z])
  have s56 := s5.trans s6
  refine ⟨two xs ys, two xs ys, .lst (SqL.of (s56 _ _ k3)) (.cons (dp_li (k1.same s56)) (.cons (dp_li (k2.same s56)) .nil)), .lst (SqL.of upd_same) (.cons (dp_li (hx.same s56)) (.cons (dp_li (hz.same s56)) .nil)), two_shaped _ _, two_shaped _ _, _, rfl, ifF (by rw [eqv_self (two_shaped _ _)]; rfl) ?_⟩
  exact ⟨_, _, rfl, s2.trans s56⟩
end
end P41
namespace P41
open PySem PySem.Spec PyProof.Rows L2 SX EX WK
theorem dig_five {ds : List Int} (h : Dig ds ((List.replicate (10 : Int).toNat ([5] : List Int)).flatten ++ [8, 2, 2520, 2520])) : ∀ i d, i < 10 → ds[i]? = some d → 0 ≤ d ∧ d < 5 := fun i d hi hd => by
  have e : ∀ i < 10, ((List.replicate (10 : Int).toNat ([5] : List Int)).flatten ++ [8, 2, 2520, 2520])[i]? = some 5 := by decide
  obtain ⟨d', h1, h2, h3⟩ := h.get (e i hi)
  rw [hd] at h1
  cases h1
  exact ⟨h2, h3⟩
theorem sn_ties {K : PySem.W.Frag} {H : Hp} : ∀ {vs : List V} {ts : List T3}, Rs R3 H vs ts → SnAll K H vs (ts.map td3)
  | [], [], _ => .nil
  | [], _ :: _, h => by have := h.1; simp at this
  | _ :: _, [], h => by have := h.1; simp at this
  | v :: vs, t :: ts, h => by
    obtain ⟨p, e, hp⟩ := h.2 0 v t rfl rfl
    refine .cons ?_ (sn_ties ⟨by have := h.1; simp at this; exact this, fun i u z hu hz => h.2 (i + 1) u z hu hz⟩)
    rw [e]
    exact .tup (SqT.of hp) (.cons (.int _) (.cons (.int _) (.cons (.int _) .nil)))
theorem lay_td3 : ∀ ts : List T3, PyData.canLayAll0 (Td.pys (ts.map td3)) = true
  | [] => by simp [Td.pys, PyData.canLayAll0]
  | t :: ts => by
    have := lay_td3 ts
    simp [Td.pys, td3, Td.py, PyData.canLayAll0, PyData.canLay0, this]
theorem dep_td3 : ∀ ts : List T3, PyData.depthAll (Td.pys (ts.map td3)) ≤ 1
  | [] => by simp [Td.pys, PyData.depthAll]
  | t :: ts => by
    have := dep_td3 ts
    simp only [List.map_cons, Td.pys, td3, Td.py, PyData.depthAll, PyData.depth]
    omega
theorem ties_shaped (ts : List T3) : SeqAt.shaped (.list (Td.pys (ts.map td3))) = true := by
  have h1 : (PyData.list (Td.pys (ts.map td3))).canLay0 = true := by
    rw [PyData.canLay0]
    exact lay_td3 ts
  have h2 : (PyData.list (Td.pys (ts.map td3))).depth ≤ 64 := by
    have := dep_td3 ts
    simp only [PyData.depth]
    omega
  unfold SeqAt.shaped
  rw [h1, decide_eq_true h2]
  rfl
theorem fz_all {K : PySem.W.Frag} {H : Hp} {t : Addr} {ts : List Td} (h : Fz K H (.ref t) (.tup ts)) : ∃ vs, SqT K H t vs ∧ FzAll K H vs ts := by
  cases h with
  | @tup a vs _ h1 h2 => exact ⟨vs, h1, h2⟩
section
variable {P : Program} {w : World} {K : PySem.W.Frag} {mg : Str → Option Value} {base : Heap} {f : Addr} {fd : FuncData} {cF cR cW : Addr}
def spLaw (K : PySem.W.Frag) : Sp := fun vs H Q _ => ∃ (a : Addr) (ns : List Int), vs = [.ref a] ∧ SqL K H a (ns.map V.int) ∧ ns.length ≤ 63 ∧ ∀ H', Q (.bl true) H'
abbrev s_law : Stmt := top 63
abbrev N_law : List Str := ["script", "drawn", "places", "ties", "base", "row", "lots", "one", "two", "loose", "web", "others", "twin", "first", "tie"]
theorem sc_law : FnScope N_law ["script"] (defScope s_law) := ⟨rfl, rfl, rfl, by decide +kernel, rfl, by decide +kernel, by decide +kernel⟩
theorem ok_law (F : Fun K "law" "law" s_law f fd) (T : Txt mg) (O : Obs K cF cR cW) (C__law_cell : Cal P w K mg base 1 "_law_cell" ["script", "k"] (spCell K)) (C__law_digits : Cal P w K mg base 1 "_law_digits" ["cell", "sizes"] (spDigits K)) (C__law_draw_web : Cal P w K mg base 2 "_law_draw_web" ["script"] (spDraw K))
    (C__law_draw_lots : Cal P w K mg base 1 "_law_draw_lots" ["places", "row"] (spLots K)) (C__law_shuffled : Cal P w K mg base 2 "_law_shuffled" ["cell", "lot"] spShuf) (C__law_twin : Cal P w K mg base 1 "_law_twin" ["ties", "spot"] spTwin) (C_Web : CalK P w K mg base 8 "Web" cW 2 ["bottom"] (spWeb K cF cR cW))
    (C_strength_between : Cal P w K mg base 4 "strength_between" ["web", "one", "two"] (spStr K cF cR cW)) (C__law_is_fraction : Cal P w K mg base 2 "_law_is_fraction" ["value"] spFrac) (C__law_due : Cal P w K mg base 3 "_law_due" ["ties", "base", "one", "two"] (spDue K))
    (C__law_all_right : Cal P w K mg base 6 "_law_all_right" ["web", "places", "ties", "base", "one", "two", "loose"] (spAll K cF cR cW)) (C__law_right : Cal P w K mg base 5 "_law_right" ["web", "ties", "base", "one", "two", "loose"] (spRight K cF cR cW)) (C__law_shared_refused : Cal P w K mg base 7 "_law_shared_refused" ["script", "web", "places", "loose"] (spShared K)) :
    FnOk P w K mg base CX0 10 f fd ["script"] (spLaw K) := by
  refine F.ok sc_law (fun vs H Q E h => ?_) (fun cdv A outer s H vs Q E hr h => ?_)
  · obtain ⟨a, ns, rfl, _⟩ := h
    rfl
  obtain ⟨a, ss, rfl, ha, _, q⟩ := h
  refine ⟨_, (pss_cons (ps_set (i := 1) sc_law.nd rfl (Or.inl rfl) (pe_cal C__law_draw_web (hr.mono (by omega)) rfl (pa_cons (pv 0) pa_nil)))
  (pss_cons (ps_set (i := 2) sc_law.nd rfl (Or.inl rfl) (pe_ix ix_list (pv 1) pe_int (fun _ _ => rfl)))
  (pss_cons (ps_set (i := 3) sc_law.nd rfl (Or.inl rfl) (pe_ix ix_list (pv 1) pe_int (fun _ _ => rfl)))
  (pss_cons (ps_set (i := 4) sc_law.nd rfl (Or.inl rfl) (pe_ix ix_list (pv 1) pe_int (fun _ _ => rfl)))
  (pss_cons (ps_set (i := 5) sc_law.nd rfl (Or.inl rfl) (pe_cal C__law_digits (hr.mono (by omega)) rfl (pa_cons (pe_cal C__law_cell (hr.mono (by omega)) rfl (pa_cons (pv 0) (pa_cons pe_int pa_nil))) (pa_cons (pe_op op_cat (pe_op op_rep (pe_lst (pa_cons pe_int pa_nil)) pe_int) (pe_lst (pa_cons pe_int (pa_cons pe_int (pa_cons pe_int (pa_cons pe_int pa_nil)))))) pa_nil))))
  (pss_cons (ps_set (i := 6) sc_law.nd rfl (Or.inl rfl) (pe_cal C__law_draw_lots (hr.mono (by omega)) rfl (pa_cons (pv 2) (pa_cons (pv 5) pa_nil))))
  (pss_cons (ps_set (i := 7) sc_law.nd rfl (Or.inl rfl) (pe_cal C__law_shuffled (hr.mono (by omega)) rfl (pa_cons (pe_cal C__law_cell (hr.mono (by omega)) rfl (pa_cons (pv 0) (pa_cons pe_int pa_nil))) (pa_cons (pe_ix ix_list (pv 6) pe_int (fun _ _ => rfl)) pa_nil))))
  (pss_cons (ps_set (i := 8) sc_law.nd rfl (Or.inl rfl) (pe_cal C__law_shuffled (hr.mono (by omega)) rfl (pa_cons (pe_cal C__law_cell (hr.mono (by omega)) rfl (pa_cons (pv 0) (pa_cons pe_int pa_nil))) (pa_cons (pe_ix ix_list (pv 6) pe_int (fun _ _ => rfl)) pa_nil))))
  (pss_cons (ps_set (i := 9) sc_law.nd rfl (Or.inl rfl) (pe_ix ix_list (pv 5) pe_int (fun _ _ => rfl)))
  (pss_cons (ps_set (i := 10) sc_law.nd rfl (Or.inl rfl) (pe_calK C_Web (hr.mono (by omega)) rfl (pa_cons (pv 2) (pa_cons (pe_lc (own := [("tie", 14)]) (g := gName 14) (tt := tYes) (by rfl) sc_law.nd (pi_list (pv 3)) (blkOk_by (N := N_law) (sc := defScope s_law) (by decide +kernel)) (fun _ _ _ _ _ => (pg_name (i := 14) sc_law.nd rfl (Or.inl rfl))) (fun _ _ _ _ _ => pts_nil) (fun _ _ _ _ _ => (pe_callTy (call_list_ofK (K := K) rfl) (by rfl) T.b_list (by decide +kernel) (pa_cons (pv 14) pa_nil)))) pa_nil)) (pk_cons (pv 4) pk_nil)))
  (pss_cons (ps_set (i := 11) sc_law.nd rfl (Or.inl rfl) (pe_cal C__law_twin (hr.mono (by omega)) rfl (pa_cons (pv 3) (pa_cons (pe_ix ix_list (pv 5) pe_int (fun _ _ => rfl)) pa_nil))))
  (pss_cons (ps_set (i := 12) sc_law.nd rfl (Or.inl rfl) (pe_calK C_Web (hr.mono (by omega)) rfl (pa_cons (pv 2) (pa_cons (pv 11) pa_nil)) (pk_cons (pv 4) pk_nil)))
  (pss_cons (ps_set (i := 13) sc_law.nd rfl (Or.inl rfl) (pe_cal C_strength_between (hr.mono (by omega)) rfl (pa_cons (pv 10) (pa_cons (pe_callTy call_list_of (by rfl) T.b_list (by decide +kernel) (pa_cons (pv 7) pa_nil)) (pa_cons (pe_callTy call_list_of (by rfl) T.b_list (by decide +kernel) (pa_cons (pv 8) pa_nil)) pa_nil)))))
  (pss_cons (ps_if (PW.pt (pw_or (pt_not (pt_val (pe_cal C__law_is_fraction (hr.mono (by omega)) rfl (pa_cons (pv 13) pa_nil)))) (pw_or1 (pt_cmpR (op_neD hr.units) (pv 13) (pe_cal C__law_due (hr.mono (by omega)) rfl (pa_cons (pv 3) (pa_cons (pv 4) (pa_cons (pv 7) (pa_cons (pv 8) pa_nil))))) (nomark _))))) (pss_one (ps_ret pe_bl)) pss_nil)
  (pss_cons (ps_if (pt_not (pt_val (pe_cal C__law_all_right (hr.mono (by omega)) rfl (pa_cons (pv 12) (pa_cons (pv 2) (pa_cons (pv 11) (pa_cons (pv 4) (pa_cons (pv 7) (pa_cons (pv 8) (pa_cons (pv 9) pa_nil)))))))))) (pss_one (ps_ret pe_bl)) pss_nil)
  (pss_cons (ps_if (pt_not (pt_val (pe_cal C__law_all_right (hr.mono (by omega)) rfl (pa_cons (pv 10) (pa_cons (pv 2) (pa_cons (pv 3) (pa_cons (pv 4) (pa_cons (pv 7) (pa_cons (pv 8) (pa_cons (pe_op op_sub pe_int (pv 9)) pa_nil)))))))))) (pss_one (ps_ret pe_bl)) pss_nil)
  (C8.pss_cut (ps_if (PW.pt (pw_and (pt_cmpR op_gt (pv 2) pe_int (nomark _)) (pw_and1 (pt_not (pt_val (pe_cal C__law_shared_refused (hr.mono (by omega)) rfl (pa_cons (pv 0) (pa_cons (pv 10) (pa_cons (pv 2) (pa_cons (pv 9) pa_nil)))))))))) (pss_one (ps_ret pe_bl)) pss_nil)
  (pss_cons (ps_if (pt_cmpR (op_neD hr.units) (pe_callTy call_list_of (by rfl) T.b_list (by decide +kernel) (pa_cons (pe_fld (pv 10) rfl) pa_nil)) (pe_callTy call_list_of (by rfl) T.b_list (by decide +kernel) (pa_cons (pe_fld (pe_calK C_Web (hr.mono (by omega)) rfl (pa_cons (pv 2) (pa_cons (pv 3) pa_nil)) (pk_cons (pv 4) pk_nil)) rfl) pa_nil)) (nomark _)) (pss_one (ps_ret pe_bl)) pss_nil)
  (pss_one (ps_ret (pe_and (pe_cal C__law_right (hr.mono (by omega)) rfl (pa_cons (pv 10) (pa_cons (pv 3) (pa_cons (pv 4) (pa_cons (pv 7) (pa_cons (pv 8) (pa_cons (pv 9) pa_nil))))))) (pe_one (pe_cal C__law_right (hr.mono (by omega)) rfl (pa_cons (pv 12) (pa_cons (pv 11) (pa_cons (pv 4) (pa_cons (pv 7) (pa_cons (pv 8) (pa_cons (pv 9) pa_nil))))))))))))))))))))))))))))), ?_⟩
  refine ⟨_, rfl, a, ss, rfl, ha, fun r tl pl ts b H1 s1 hr1 hti hpl hlen hok hb hB => ?_⟩
  have hr1' := SqL.of (K := K) hr1
  have hb0 : 0 < b := Int.lt_of_lt_of_le Int.zero_lt_one hb
  have hl1k : ts.length ≤ 1000 := Nat.le_trans hlen (by decide)
  have hl1c : ts.length ≤ 100000 := Nat.le_trans hlen (by decide)
  have hp3 : pl ≤ 300 := Nat.le_trans hpl (by decide)
  refine ⟨_, rfl, r, _, 0, _, rfl, rfl, hr1', at_pos (by decide) rfl, _, rfl, r, _, 1, _, rfl, rfl, hr1', at_pos (by decide) rfl, _, rfl, r, _, 2, _, rfl, rfl, hr1', at_pos (by decide) rfl, ?_⟩
  show tSeq _ _ _ [some (.ref a), some (.ref r), some (.int pl), some (.ref tl), some (.int b), none, none, none, none, none, none, none, none, none, none] _
  -- row
  refine ⟨_, rfl, a, ss, 3, rfl, s1.seq ha, by decide, by decide, fun c => ⟨line_ge (by show 1 ≤ 100000; decide), fun l0 hl0 => ⟨l0, 10, _, rfl, rfl, upd_same, by decide, by decide, line_ge (by show 1 * (10 : Int).toNat ≤ 100000; decide), fun l1 hl1 => ⟨line_ge (by show 4 ≤ 100000; decide), fun l2 hl2 => ?_⟩⟩⟩⟩
  refine ⟨l1, l2, _, _, rfl, rfl, same_new hl2 _ _ _ upd_same, upd_same, line_ge (by decide), fun l3 hl3 => ?_⟩
  refine ⟨c, l3, (List.replicate (10 : Int).toNat ([5] : List Int)).flatten ++ [8, 2, 2520, 2520], rfl, SqL.of (by rw [upd_same, List.map_append]; exact congrArg (fun x => some (HO.lst (x ++ [V.int 8, V.int 2, V.int 2520, V.int 2520]))) (rep_map _ [5])), by decide, szs (by decide), fun p ds hp hd => ?_⟩
  have hdl : ds.length = 14 := hd.len
  have hd5 := dig_five hd
  generalize hH2 : upd (upd (upd (upd (upd H1 l0 _) l1 _) l2 _) l3 _) p _ = H2
  have s2' : Same H1 H2 := by rw [← hH2]; exact (same_new hl0 _).trans ((same_new hl1 _).trans ((same_new hl2 _).trans ((same_new hl3 _).trans (same_new hp _))))
  have e2 : LiAt H2 p ds := by show H2 p = _; rw [← hH2, upd_same]
  have s2 := s1.trans s2'
  have hti := hti.same s2'
  obtain ⟨x11, hx11⟩ : ∃ d, ds[11]? = some d := ⟨_, List.getElem?_eq_getElem (by omega)⟩
  obtain ⟨x12, hx12⟩ : ∃ d, ds[12]? = some d := ⟨_, List.getElem?_eq_getElem (by omega)⟩
  show tSeq _ _ _ [some (.ref a), some (.ref r), some (.int pl), some (.ref tl), some (.int b), some (.ref p), none, none, none, none, none, none, none, none, none] _
  -- lots
  refine ⟨_, rfl, _, rfl, pl, p, ds, rfl, hpl, e2, hdl, hd5, fun r2 l1 l2 ns ms H3 s3 hr3 g1 g2 n1 n2 hsh => ?_⟩
  have t3 := s2.trans s3
  refine ⟨_, rfl, a, ss, 4, rfl, t3.seq ha, by decide, by decide, fun c1 => ⟨_, rfl, r2, _, 0, _, rfl, rfl, SqL.of hr3, at_pos (by decide) rfl, c1, l1, ns, rfl, g1, n1, fun o1 as H4 s4 k1 pm1 => ?_⟩⟩
  have t4 := t3.trans s4
  refine ⟨_, rfl, a, ss, 5, rfl, t4.seq ha, by decide, by decide, fun c2 => ⟨_, rfl, r2, _, 1, _, rfl, rfl, SqL.of (s4 _ _ hr3), at_pos (by decide) rfl, c2, l2, ms, rfl, g2.same s4, n2, fun o2 bs H5 s5 k2 pm2 => ?_⟩⟩
  have t5 := t4.trans s5
  have k1 := k1.same s5
  have la : as.length ≤ 10 := by rw [pm1.length_eq]; exact n1
  have lb : bs.length ≤ 10 := by rw [pm2.length_eq]; exact n2
  have la1 : as.length ≤ 1000 := Nat.le_trans la (by decide)
  have lb1 : bs.length ≤ 1000 := Nat.le_trans lb (by decide)
  have hsh : shr as bs = [] := shr_nil.mpr fun x hx hy => shr_nil.mp hsh x (pm1.mem_iff.mp hx) (pm2.mem_iff.mp hy)
  have s25 : Same H2 H5 := s3.trans (s4.trans s5)
  have hti := hti.same s25
  have e5 := e2.same s25
  clear hH2
  show tSeq _ _ _ [some (.ref a), some (.ref r), some (.int pl), some (.ref tl), some (.int b), some (.ref p), some (.ref r2), some (.ref o1), some (.ref o2), none, none, none, none, none, none] _
  -- loose
  refine ⟨_, rfl, p, _, 11, _, rfl, rfl, SqL.of e5, at_pos (by decide) (at_int hx11), ?_⟩
  show tSeq _ _ _ [some (.ref a), some (.ref r), some (.int pl), some (.ref tl), some (.int b), some (.ref p), some (.ref r2), some (.ref o1), some (.ref o2), some (.int x11), none, none, none, none, none] _
  -- web
  obtain ⟨us, hus, hrs⟩ := id hti
  have hul : us.length = ts.length := hrs.1
  have hB9 : B 9000 b := hB.mono (by decide)
  have hok1 : ∀ t ∈ ts, OkT pl t := fun t ht => Vt.ok (n := 200) (hok t ht) (by decide)
  refine ⟨_, rfl, _, rfl, tl, rfl, ⟨_, SqL.of hus⟩, fun D hD => ?_⟩
  refine lc_gm (walk_list (K := K) (a := tl) (xs := us)) (RL D) stb_RL ts hul hl1c hD (fun H' s => SqL.of (s _ _ hus)) (fun _ _ _ _ => ys_at) (fun t => [t.1, t.2.1, t.2.2]) (fun k t x H6 H7 hb1 s6 s7 y hdl2 A B hA => ?_) (fun H6 l6 s6 hl6 rs6 => ?_)
  · obtain ⟨p0, rfl, hp0⟩ := hrs.2 k x t y.2 hb1
    refine ⟨rfl, lc_yes ⟨_, rfl, p0, _, rfl, .inr (SqT.of (s7 _ _ hp0)), fun z hz => hA _ _ (same_new hz _) ⟨z, rfl, fun e => ?_, upd_same⟩⟩⟩
    obtain ⟨l9, h9⟩ := hdl2
    rw [← e, hz] at h9
    cases h9
  refine ⟨_, rfl, rfl, rfl, fun x dx hx hdx hne => ?_⟩
  have hsn : Sn K H6 (.ref D) (.tup (ts.map td3)) := by
    refine .lst hl6 ?_
    have := rl_sn (K := K) rs6
    rw [List.map_map] at this
    exact this
  refine ⟨x, dx, _, pl, ts, b, rfl, upd_same, hsn.same (new_two hx hdx), hok1, hl1k, hp3, hb0, hB9, fun H7 hW hbut => ⟨rfl, ?_⟩⟩
  have s7 : Same H6 H7 := made_same hx hdx hbut
  have s57 := s6.trans s7
  show tSeq _ _ _ [some (.ref a), some (.ref r), some (.int pl), some (.ref tl), some (.int b), some (.ref p), some (.ref r2), some (.ref o1), some (.ref o2), some (.int x11), some (.ref x), none, none, none, none] _
  -- others
  refine ⟨_, rfl, _, rfl, p, _, 12, _, rfl, rfl, SqL.of (e5.same s57), at_pos (by decide) (at_int hx12), tl, x12, ts, pl, rfl, hti.same s57, hlen, hok, fun ol ts2 H8 s8 hti2 hlen2 hok2 => ?_⟩
  show tSeq _ _ _ [some (.ref a), some (.ref r), some (.int pl), some (.ref tl), some (.int b), some (.ref p), some (.ref r2), some (.ref o1), some (.ref o2), some (.int x11), some (.ref x), some (.ref ol), none, none, none] _
  -- twin
  obtain ⟨us2, hus2, hrs2⟩ := id hti2
  refine ⟨_, rfl, _, rfl, _, rfl, rfl, rfl, fun x2 dx2 hx2 hdx2 hne2 => ?_⟩
  have hl2k : ts2.length ≤ 1000 := Nat.le_trans hlen2 (by decide)
  have hok3 : ∀ t ∈ ts2, OkT pl t := fun t ht => (hok2 t ht).ok (by decide)
  refine ⟨x2, dx2, _, pl, ts2, b, rfl, upd_same, (Sn.lst hus2 (sn_ties hrs2) : Sn K H8 _ _).same (new_two hx2 hdx2), hok3, hl2k, hp3, hb0, hB9, fun H9 hW2 hbut2 => ⟨rfl, ?_⟩⟩
  have s9 : Same H8 H9 := made_same hx2 hdx2 hbut2
  have s79 := s8.trans s9
  have s59 := s57.trans s79
  have askW : Ask K cF cR cW H9 x tl pl ts b := ⟨hW.same s79, hti.same s59, hl1k, hb0, hB.mono (by decide)⟩
  have askT : Ask K cF cR cW H9 x2 ol pl ts2 b := ⟨hW2, hti2.same s9, hl2k, hb0, hB.mono (by decide)⟩
  have k1 := k1.same s59
  have k2 := k2.same s59
  have t9 := t5.trans s59
  show tSeq _ _ _ [some (.ref a), some (.ref r), some (.int pl), some (.ref tl), some (.int b), some (.ref p), some (.ref r2), some (.ref o1), some (.ref o2), some (.int x11), some (.ref x), some (.ref ol), some (.ref x2), none, none] _
  -- first
  refine ⟨_, rfl, _, rfl, o1, _, rfl, .inl (SqL.of k1), fun w1 hw1 => ⟨_, rfl, o2, _, rfl, .inl (SqL.of (same_new hw1 _ _ _ k2)), fun w2 hw2 => ?_⟩⟩
  have sw1 := same_new hw1 (.lst (as.map V.int))
  have sw2 := same_new hw2 (.lst (bs.map V.int))
  have sw := sw1.trans sw2
  have hsw := sum_wt ts hb0 as bs
  have hgp : 0 < wg ts b := gf_pos hb0 _
  have hfd := frac_div hgp hsw.2 (show wg ts b ∣ b from (gf_dvd _).1)
  refine ⟨x, _, _, pl, ts, b, as, bs, rfl, askW.web.same sw, hb0, hB9, hl1k, sn_li (sw2 _ _ upd_same), sn_li upd_same, la1, lb1, hsh, fun r3 H10 s10 hfr => ?_⟩
  have s910 := sw.trans s10
  rw [hsw.1] at hfr
  unfold wb at hfr
  rw [hfd.1, hfd.2] at hfr
  have hl1 := low1 (t := sumB ts as bs) hb0
  have hb1 : B 6500 (b / gI (sumB ts as bs) b) := B.div (gI_pos' hb0) (hB.mono (by decide))
  show tSeq _ _ _ [some (.ref a), some (.ref r), some (.int pl), some (.ref tl), some (.int b), some (.ref p), some (.ref r2), some (.ref o1), some (.ref o2), some (.int x11), some (.ref x), some (.ref ol), some (.ref x2), some (.ref r3), none] _
  refine ⟨_, rfl, r3, _, _, rfl, hfr, hl1.1, hb1, hl1.2, true, rfl, ifF rfl ?_⟩
  refine ⟨_, rfl, _, rfl, _, rfl, _, rfl, _, rfl, tl, o1, o2, b, ts, as, bs, rfl, askW.ties.same s910, k1.same s910, k2.same s910, hb0, hB.mono (by decide), fun r4 H11 s11 h4 => ?_⟩
  refine ⟨_, _, dp_fr (s11 _ _ hfr), dp_fr h4, fr_shaped _ _, fr_shaped _ _, _, rfl, ifF (by rw [eqv_self (fr_shaped _ _)]; rfl) ?_⟩
  have s911 := s910.trans s11
  have askW := askW.same s911
  have askT := askT.same s911
  have k1 := k1.same s911
  have k2 := k2.same s911
  -- all right
  refine ⟨_, rfl, _, rfl, _, rfl, _, rfl, _, rfl, _, rfl, _, rfl, x2, ol, o1, o2, pl, ts2, b, as, bs, x11, rfl, askT, k1, k2, la1, lb1, hsh, hpl, fun H12 s12 => ⟨true, rfl, ifF rfl ?_⟩⟩
  have askW := askW.same s12
  have askT := askT.same s12
  have k1 := k1.same s12
  have k2 := k2.same s12
  refine ⟨_, rfl, _, rfl, _, rfl, _, rfl, _, rfl, _, rfl, _, rfl, _, _, rfl, rfl, x, tl, o1, o2, pl, ts, b, as, bs, 1 - x11, rfl, askW, k1, k2, la1, lb1, hsh, hpl, fun H13 s13 => ⟨true, rfl, ifF rfl ?_⟩⟩
  have askW := askW.same s13
  have askT := askT.same s13
  have k1 := k1.same s13
  have k2 := k2.same s13
  have t13 := t9.trans (s911.trans (s12.trans s13))
  -- shared
  refine ⟨fun σ' H' => σ' = [some (.ref a), some (.ref r), some (.int pl), some (.ref tl), some (.int b), some (.ref p), some (.ref r2), some (.ref o1), some (.ref o2), some (.int x11), some (.ref x), some (.ref ol), some (.ref x2), some (.ref r3), none] ∧ Same H13 H', ?_, ?_⟩
  · refine ⟨_, rfl, _, _, rfl, rfl, _, rfl, ite2 (fun c => ?_) (fun _ => ifF rfl ⟨rfl, fun _ _ h => h⟩)⟩
    have hp0 := dec_lt c
    exact ⟨_, rfl, _, rfl, _, rfl, _, rfl, a, x, ss, pl, x11, rfl, t13.seq ha, Int.ofNat_lt.mp hp0, hpl, fun H14 s14 => ⟨true, rfl, ifF rfl ⟨rfl, s14⟩⟩⟩
  rintro σ' H14 ⟨rfl, s14⟩
  have askW := askW.same s14
  have askT := askT.same s14
  have k1 := k1.same s14
  have k2 := k2.same s14
  -- the ties of the web
  obtain ⟨dxw, tw, Rw, Fw, hw1, hw2, _, _⟩ := id askW.web
  obtain ⟨vw, hvw, hvw2⟩ := fz_all hw2
  refine ⟨_, rfl, x, cW, dxw, _, _, rfl, hw1, O.clW, O.W_ties, lkT _ _ _ _ _, tw, vw, rfl, .inr hvw, fun z1 hz1 => ?_⟩
  have sz1 := same_new hz1 (.lst vw)
  obtain ⟨us3, hus3, hrs3⟩ := askW.ties.same sz1
  refine ⟨_, rfl, _, rfl, _, rfl, rfl, rfl, fun x3 dx3 hx3 hdx3 hne3 => ?_⟩
  refine ⟨x3, dx3, _, pl, ts, b, rfl, upd_same, (Sn.lst hus3 (sn_ties hrs3) : Sn K _ _ _).same (new_two hx3 hdx3), hok1, hl1k, hp3, hb0, hB9, fun H15 hW3 hbut3 => ⟨rfl, ?_⟩⟩
  have s15 : Same (upd H14 z1 (.lst vw)) H15 := made_same hx3 hdx3 hbut3
  obtain ⟨dxv, tv, Rv, Fv, hv1, hv2, _, _⟩ := hW3
  obtain ⟨vv, hvv, hvv2⟩ := fz_all hv2
  refine ⟨x3, cW, dxv, _, _, rfl, hv1, O.clW, O.W_ties, lkT _ _ _ _ _, tv, vv, rfl, .inr hvv, fun z2 hz2 => ?_⟩
  have sz2 := same_new hz2 (.lst vv)
  have s152 := s15.trans sz2
  have hvw3 : FzAll K (upd H15 z2 (.lst vv)) vw ((wt ts b).map td3) := hvw2.tk (WK.Same.tk (sz1.trans s152))
  have hvv3 : FzAll K (upd H15 z2 (.lst vv)) vv ((wt ts b).map td3) := hvv2.tk (WK.Same.tk sz2)
  refine ⟨.list (Td.pys ((wt ts b).map td3)), .list (Td.pys ((wt ts b).map td3)), .lst (SqL.of (s152 _ _ upd_same)) hvw3.dp, .lst (SqL.of upd_same) hvv3.dp, ties_shaped _, ties_shaped _, _, rfl, ifF (by rw [eqv_self (ties_shaped _)]; rfl) ?_⟩
  have s16 := sz1.trans s152
  have askW := askW.same s16
  have askT := askT.same s16
  have k1 := k1.same s16
  have k2 := k2.same s16
  refine ⟨_, rfl, _, rfl, _, rfl, _, rfl, _, rfl, _, rfl, x, tl, o1, o2, pl, ts, b, as, bs, x11, rfl, askW, k1, k2, la1, lb1, hsh, fun H17 s17 => ⟨true, rfl, ifT rfl ?_⟩⟩
  exact ⟨_, rfl, _, rfl, _, rfl, _, rfl, _, rfl, _, rfl, x2, ol, o1, o2, pl, ts2, b, as, bs, x11, rfl, askT.same s17, k1.same s17, k2.same s17, la1, lb1, hsh, fun H18 s18 => q H18⟩
end
end P41
/-! What is bound where a class is made with a keyword. -/
namespace P41
open PySem PySem.Spec PyProof.Rows L2 SX EX WK
section
variable {K : PySem.W.Frag} {f : Addr} {fd : FuncData}
theorem kb_Form (F : FunD K "__init__" "Form.__init__" (defArgs s_iForm) (defBody s_iForm) (defScope s_iForm) [] [("bottom", V.int 1)] f fd) : ∃ g, KBn K fd ["self", "entries", "bottom"] 2 ["bottom"] g (fun vs zs => vs ++ zs) := by
  obtain ⟨mv, h⟩ := F.kbinds0 (ps := ["self", "entries", "bottom"]) 2 ["bottom"] [] (fun a _ c => a ++ c) (by simp) (fun q h => nomatch h) (fun r _ t => r.append t) (fun D doc pm an cdv ct us mv ws h1 h2 h3 => match us, mv, ws, h1, h2, h3 with
    | [_, _], [], [_], _, _, _ => rfl)
  exact ⟨_, h⟩
theorem kb_RowList (F : FunD K "__init__" "RowList.__init__" (defArgs s_iRowList) (defBody s_iRowList) (defScope s_iRowList) [] [("bottom", V.int 1)] f fd) : ∃ g, KBn K fd ["self", "size", "pairs", "bottom"] 3 ["bottom"] g (fun vs zs => vs ++ zs) := by
  obtain ⟨mv, h⟩ := F.kbinds0 (ps := ["self", "size", "pairs", "bottom"]) 3 ["bottom"] [] (fun a _ c => a ++ c) (by simp) (fun q h => nomatch h) (fun r _ t => r.append t) (fun D doc pm an cdv ct us mv ws h1 h2 h3 => match us, mv, ws, h1, h2, h3 with
    | [_, _, _], [], [_], _, _, _ => rfl)
  exact ⟨_, h⟩
theorem kb_Web (F : FunD K "__init__" "Web.__init__" (defArgs s_iWeb) (defBody s_iWeb) (defScope s_iWeb) [] [("bottom", V.int 1)] f fd) : ∃ g, KBn K fd ["self", "places", "ties", "bottom"] 3 ["bottom"] g (fun vs zs => vs ++ zs) := by
  obtain ⟨mv, h⟩ := F.kbinds0 (ps := ["self", "places", "ties", "bottom"]) 3 ["bottom"] [] (fun a _ c => a ++ c) (by simp) (fun q h => nomatch h) (fun r _ t => r.append t) (fun D doc pm an cdv ct us mv ws h1 h2 h3 => match us, mv, ws, h1, h2, h3 with
    | [_, _, _], [], [_], _, _, _ => rfl)
  exact ⟨_, h⟩
/-- what stands of such a def -/
theorem funD_of {x qual : Str} {st : Stmt} {D : Addr} {od an : Option Addr} {sl : Array (Option Value)} {oc dc pm cd ct : Value} {tk : Tok} (l : K.lookup f = some ⟨oc, od, .func (PySem.W.fnOf x qual (defArgs st) (defBody st) (defScope st) .none (.ref D) dc pm an cd ct), sl⟩) (c : PySem.W.codeIn K cd qual = true) (k : PySem.W.keepIn K (.ref f) = true)
    (d : PySem.W.nsIn K D "bottom" = some (some (.int 1 tk))) : FunD K x qual (defArgs st) (defBody st) (defScope st) [] [("bottom", V.int 1)] f (PySem.W.fnOf x qual (defArgs st) (defBody st) (defScope st) .none (.ref D) dc pm an cd ct) :=
  ⟨⟨_, _, _, _, _, _, _, _, _, _, rfl, l, c, .inl ⟨rfl, rfl⟩, .inr ⟨D, rfl, fun q hq => by rw [List.mem_singleton.mp hq]; exact ⟨_, d, _, rfl⟩⟩⟩, k⟩
end
end P41
namespace P41
open PySem PySem.Spec PyProof.Rows L2 SX EX WK
theorem all_mk {l : PySem.W.OpenLaw} {w : World} {K : PySem.W.Frag} {h : Heap} {mg : Str → Option Value} {fa f1 f2 f3 f4 f5 f6 f7 f8 f9 f10 f11 f12 f13 f14 f15 f16 f17 f18 f19 f20 f21 f22 f23 f24 f25 f26 f27 f28 f29 f30 f31 f32 f33 f34 f35 c_CableError c_SharedPlace c_BadBundle c_BadIndex c_BadRow c_BadTie c_BadWeight c_CountsDiffer c_SamePlace c_SizesDiffer c_Form c_RowList c_Web : Addr} (X : K.In h) (G : h.Ns mainGlobals mg) (hfa : mg "law" = some (.ref fa))
    {od1 an1 od2 an2 od3 an3 od4 an4 od5 an5 od6 an6 od7 an7 od8 an8 od9 an9 od10 an10 od11 an11 od12 an12 od13 an13 od14 an14 od15 an15 od16 an16 od17 an17 od18 an18 od19 an19 od20 an20 od21 an21 od22 an22 od23 an23 od24 an24 od25 an25 od26 an26 od27 an27 od28 an28 od29 an29 od30 an30 od31 an31 od32 an32 od33 an33 od34 an34 od35 an35 : Option Addr}
    {sl1 sl2 sl3 sl4 sl5 sl6 sl7 sl8 sl9 sl10 sl11 sl12 sl13 sl14 sl15 sl16 sl17 sl18 sl19 sl20 sl21 sl22 sl23 sl24 sl25 sl26 sl27 sl28 sl29 sl30 sl31 sl32 sl33 sl34 sl35 : Array (Option Value)} {oc1 kV1 dc1 pm1 cd1 ct1 oc2 kV2 dc2 pm2 cd2 ct2 oc3 kV3 dc3 pm3 cd3 ct3 oc4 kV4 dc4 pm4 cd4 ct4 oc5 kV5 dc5 pm5 cd5 ct5 oc6 kV6 dc6 pm6 cd6 ct6 oc7 kV7 dc7 pm7 cd7 ct7 oc8 kV8 dc8 pm8 cd8 ct8 oc9 kV9 dc9 pm9 cd9 ct9 oc10 kV10 dc10 pm10 cd10 ct10 oc11 kV11 dc11 pm11 cd11 ct11 oc12 kV12 dc12 pm12 cd12 ct12 oc13 kV13 dc13 pm13 cd13 ct13 oc14 kV14 dc14 pm14 cd14 ct14 oc15 kV15 dc15 pm15 cd15 ct15 oc16 kV16 dc16 pm16 cd16 ct16 oc17 kV17 dc17 pm17 cd17 ct17 oc18 kV18 dc18 pm18 cd18 ct18 oc19 kV19 dc19 pm19 cd19 ct19 oc20 kV20 dc20 pm20 cd20 ct20 oc21 kV21 dc21 pm21 cd21 ct21 oc22 kV22 dc22 pm22 cd22 ct22 oc23 kV23 dc23 pm23 cd23 ct23 oc24 kV24 dc24 pm24 cd24 ct24 oc25 kV25 dc25 pm25 cd25 ct25 oc26 kV26 dc26 pm26 cd26 ct26 oc27 kV27 dc27 pm27 cd27 ct27 oc28 kV28 dc28 pm28 cd28 ct28 oc29 kV29 dc29 pm29 cd29 ct29 oc30 kV30 dc30 pm30 cd30 ct30 oc31 kV31 dc31 pm31 cd31 ct31 oc32 kV32 dc32 pm32 cd32 ct32 oc33 kV33 dc33 pm33 cd33 ct33 oc34 kV34 dc34 pm34 cd34 ct34 oc35 kV35 dc35 pm35 cd35 ct35 : Value}
    {nm_SharedPlace q_SharedPlace : Str} {N_SharedPlace : Addr} {bs_SharedPlace sub_SharedPlace : List Value} {sn_SharedPlace : List Str} {ab_SharedPlace : Bool} {col_SharedPlace : Option Bool} {dd_SharedPlace : Option Addr} {m0_SharedPlace m1_SharedPlace m2_SharedPlace m3_SharedPlace m5_SharedPlace : Option Value}
    {f_SharedPlace : Addr} {odi_SharedPlace ani_SharedPlace : Option Addr} {sli_SharedPlace : Array (Option Value)} {oci_SharedPlace kVi_SharedPlace dci_SharedPlace pmi_SharedPlace cdi_SharedPlace cti_SharedPlace : Value}
    {f_Form D_Form : Addr} {odi_Form ani_Form : Option Addr} {sli_Form : Array (Option Value)} {oci_Form dci_Form pmi_Form cdi_Form cti_Form : Value} {tki_Form : Tok}
    {f_RowList D_RowList : Addr} {odi_RowList ani_RowList : Option Addr} {sli_RowList : Array (Option Value)} {oci_RowList dci_RowList pmi_RowList cdi_RowList cti_RowList : Value} {tki_RowList : Tok}
    {f_Web D_Web : Addr} {odi_Web ani_Web : Option Addr} {sli_Web : Array (Option Value)} {oci_Web dci_Web pmi_Web cdi_Web cti_Web : Value} {tki_Web : Tok}
    (a1 : PySem.W.nsIn K mainGlobals "frozen_numbers" = some (some (.ref f1))) (l1 : K.lookup f1 = some ⟨oc1, od1, .func (PySem.W.fnOf "frozen_numbers" "frozen_numbers" (defArgs s_frozen_numbers) (defBody s_frozen_numbers) (defScope s_frozen_numbers) .none kV1 dc1 pm1 an1 cd1 ct1), sl1⟩) (c1 : PySem.W.codeIn K cd1 "frozen_numbers" = true) (k1 : PySem.W.keepIn K (.ref f1) = true)
    (a2 : PySem.W.nsIn K mainGlobals "frozen_part" = some (some (.ref f2))) (l2 : K.lookup f2 = some ⟨oc2, od2, .func (PySem.W.fnOf "frozen_part" "frozen_part" (defArgs s_frozen_part) (defBody s_frozen_part) (defScope s_frozen_part) .none kV2 dc2 pm2 an2 cd2 ct2), sl2⟩) (c2 : PySem.W.codeIn K cd2 "frozen_part" = true) (k2 : PySem.W.keepIn K (.ref f2) = true)
    (a3 : PySem.W.nsIn K mainGlobals "frozen" = some (some (.ref f3))) (l3 : K.lookup f3 = some ⟨oc3, od3, .func (PySem.W.fnOf "frozen" "frozen" (defArgs s_frozen) (defBody s_frozen) (defScope s_frozen) .none kV3 dc3 pm3 an3 cd3 ct3), sl3⟩) (c3 : PySem.W.codeIn K cd3 "frozen" = true) (k3 : PySem.W.keepIn K (.ref f3) = true)
    (a4 : PySem.W.nsIn K mainGlobals "lowered" = some (some (.ref f4))) (l4 : K.lookup f4 = some ⟨oc4, od4, .func (PySem.W.fnOf "lowered" "lowered" (defArgs s_lowered) (defBody s_lowered) (defScope s_lowered) .none kV4 dc4 pm4 an4 cd4 ct4), sl4⟩) (c4 : PySem.W.codeIn K cd4 "lowered" = true) (k4 : PySem.W.keepIn K (.ref f4) = true)
    (a5 : PySem.W.nsIn K mainGlobals "fraction" = some (some (.ref f5))) (l5 : K.lookup f5 = some ⟨oc5, od5, .func (PySem.W.fnOf "fraction" "fraction" (defArgs s_fraction) (defBody s_fraction) (defScope s_fraction) .none kV5 dc5 pm5 an5 cd5 ct5), sl5⟩) (c5 : PySem.W.codeIn K cd5 "fraction" = true) (k5 : PySem.W.keepIn K (.ref f5) = true)
    (a6 : PySem.W.nsIn K mainGlobals "added" = some (some (.ref f6))) (l6 : K.lookup f6 = some ⟨oc6, od6, .func (PySem.W.fnOf "added" "added" (defArgs s_added) (defBody s_added) (defScope s_added) .none kV6 dc6 pm6 an6 cd6 ct6), sl6⟩) (c6 : PySem.W.codeIn K cd6 "added" = true) (k6 : PySem.W.keepIn K (.ref f6) = true)
    (a7 : PySem.W.nsIn K mainGlobals "subtracted" = some (some (.ref f7))) (l7 : K.lookup f7 = some ⟨oc7, od7, .func (PySem.W.fnOf "subtracted" "subtracted" (defArgs s_subtracted) (defBody s_subtracted) (defScope s_subtracted) .none kV7 dc7 pm7 an7 cd7 ct7), sl7⟩) (c7 : PySem.W.codeIn K cd7 "subtracted" = true) (k7 : PySem.W.keepIn K (.ref f7) = true)
    (a8 : PySem.W.nsIn K mainGlobals "multiplied" = some (some (.ref f8))) (l8 : K.lookup f8 = some ⟨oc8, od8, .func (PySem.W.fnOf "multiplied" "multiplied" (defArgs s_multiplied) (defBody s_multiplied) (defScope s_multiplied) .none kV8 dc8 pm8 an8 cd8 ct8), sl8⟩) (c8 : PySem.W.codeIn K cd8 "multiplied" = true) (k8 : PySem.W.keepIn K (.ref f8) = true)
    (a9 : PySem.W.nsIn K mainGlobals "check_square" = some (some (.ref f9))) (l9 : K.lookup f9 = some ⟨oc9, od9, .func (PySem.W.fnOf "check_square" "check_square" (defArgs s_check_square) (defBody s_check_square) (defScope s_check_square) .none kV9 dc9 pm9 an9 cd9 ct9), sl9⟩) (c9 : PySem.W.codeIn K cd9 "check_square" = true) (k9 : PySem.W.keepIn K (.ref f9) = true)
    (a10 : PySem.W.nsIn K mainGlobals "check_symmetric" = some (some (.ref f10))) (l10 : K.lookup f10 = some ⟨oc10, od10, .func (PySem.W.fnOf "check_symmetric" "check_symmetric" (defArgs s_check_symmetric) (defBody s_check_symmetric) (defScope s_check_symmetric) .none kV10 dc10 pm10 an10 cd10 ct10), sl10⟩) (c10 : PySem.W.codeIn K cd10 "check_symmetric" = true) (k10 : PySem.W.keepIn K (.ref f10) = true)
    (a11 : PySem.W.nsIn K mainGlobals "check_pairs" = some (some (.ref f11))) (l11 : K.lookup f11 = some ⟨oc11, od11, .func (PySem.W.fnOf "check_pairs" "check_pairs" (defArgs s_check_pairs) (defBody s_check_pairs) (defScope s_check_pairs) .none kV11 dc11 pm11 an11 cd11 ct11), sl11⟩) (c11 : PySem.W.codeIn K cd11 "check_pairs" = true) (k11 : PySem.W.keepIn K (.ref f11) = true)
    (a12 : PySem.W.nsIn K mainGlobals "weighted_sum" = some (some (.ref f12))) (l12 : K.lookup f12 = some ⟨oc12, od12, .func (PySem.W.fnOf "weighted_sum" "weighted_sum" (defArgs s_weighted_sum) (defBody s_weighted_sum) (defScope s_weighted_sum) .none kV12 dc12 pm12 an12 cd12 ct12), sl12⟩) (c12 : PySem.W.codeIn K cd12 "weighted_sum" = true) (k12 : PySem.W.keepIn K (.ref f12) = true)
    (a13 : PySem.W.nsIn K mainGlobals "weighted_matrix" = some (some (.ref f13))) (l13 : K.lookup f13 = some ⟨oc13, od13, .func (PySem.W.fnOf "weighted_matrix" "weighted_matrix" (defArgs s_weighted_matrix) (defBody s_weighted_matrix) (defScope s_weighted_matrix) .none kV13 dc13 pm13 an13 cd13 ct13), sl13⟩) (c13 : PySem.W.codeIn K cd13 "weighted_matrix" = true) (k13 : PySem.W.keepIn K (.ref f13) = true)
    (a14 : PySem.W.nsIn K mainGlobals "tie_row" = some (some (.ref f14))) (l14 : K.lookup f14 = some ⟨oc14, od14, .func (PySem.W.fnOf "tie_row" "tie_row" (defArgs s_tie_row) (defBody s_tie_row) (defScope s_tie_row) .none kV14 dc14 pm14 an14 cd14 ct14), sl14⟩) (c14 : PySem.W.codeIn K cd14 "tie_row" = true) (k14 : PySem.W.keepIn K (.ref f14) = true)
    (a15 : PySem.W.nsIn K mainGlobals "sorted_tie" = some (some (.ref f15))) (l15 : K.lookup f15 = some ⟨oc15, od15, .func (PySem.W.fnOf "sorted_tie" "sorted_tie" (defArgs s_sorted_tie) (defBody s_sorted_tie) (defScope s_sorted_tie) .none kV15 dc15 pm15 an15 cd15 ct15), sl15⟩) (c15 : PySem.W.codeIn K cd15 "sorted_tie" = true) (k15 : PySem.W.keepIn K (.ref f15) = true)
    (a16 : PySem.W.nsIn K mainGlobals "joins" = some (some (.ref f16))) (l16 : K.lookup f16 = some ⟨oc16, od16, .func (PySem.W.fnOf "joins" "joins" (defArgs s_joins) (defBody s_joins) (defScope s_joins) .none kV16 dc16 pm16 an16 cd16 ct16), sl16⟩) (c16 : PySem.W.codeIn K cd16 "joins" = true) (k16 : PySem.W.keepIn K (.ref f16) = true)
    (a17 : PySem.W.nsIn K mainGlobals "strength_between" = some (some (.ref f17))) (l17 : K.lookup f17 = some ⟨oc17, od17, .func (PySem.W.fnOf "strength_between" "strength_between" (defArgs s_strength_between) (defBody s_strength_between) (defScope s_strength_between) .none kV17 dc17 pm17 an17 cd17 ct17), sl17⟩) (c17 : PySem.W.codeIn K cd17 "strength_between" = true) (k17 : PySem.W.keepIn K (.ref f17) = true)
    (a18 : PySem.W.nsIn K mainGlobals "evenness" = some (some (.ref f18))) (l18 : K.lookup f18 = some ⟨oc18, od18, .func (PySem.W.fnOf "evenness" "evenness" (defArgs s_evenness) (defBody s_evenness) (defScope s_evenness) .none kV18 dc18 pm18 an18 cd18 ct18), sl18⟩) (c18 : PySem.W.codeIn K cd18 "evenness" = true) (k18 : PySem.W.keepIn K (.ref f18) = true)
    (a19 : PySem.W.nsIn K mainGlobals "_law_whole" = some (some (.ref f19))) (l19 : K.lookup f19 = some ⟨oc19, od19, .func (PySem.W.fnOf "_law_whole" "_law_whole" (defArgs s__law_whole) (defBody s__law_whole) (defScope s__law_whole) .none kV19 dc19 pm19 an19 cd19 ct19), sl19⟩) (c19 : PySem.W.codeIn K cd19 "_law_whole" = true) (k19 : PySem.W.keepIn K (.ref f19) = true)
    (a20 : PySem.W.nsIn K mainGlobals "_law_cell" = some (some (.ref f20))) (l20 : K.lookup f20 = some ⟨oc20, od20, .func (PySem.W.fnOf "_law_cell" "_law_cell" (defArgs s__law_cell) (defBody s__law_cell) (defScope s__law_cell) .none kV20 dc20 pm20 an20 cd20 ct20), sl20⟩) (c20 : PySem.W.codeIn K cd20 "_law_cell" = true) (k20 : PySem.W.keepIn K (.ref f20) = true)
    (a21 : PySem.W.nsIn K mainGlobals "_law_digits" = some (some (.ref f21))) (l21 : K.lookup f21 = some ⟨oc21, od21, .func (PySem.W.fnOf "_law_digits" "_law_digits" (defArgs s__law_digits) (defBody s__law_digits) (defScope s__law_digits) .none kV21 dc21 pm21 an21 cd21 ct21), sl21⟩) (c21 : PySem.W.codeIn K cd21 "_law_digits" = true) (k21 : PySem.W.keepIn K (.ref f21) = true)
    (a22 : PySem.W.nsIn K mainGlobals "_law_gcd" = some (some (.ref f22))) (l22 : K.lookup f22 = some ⟨oc22, od22, .func (PySem.W.fnOf "_law_gcd" "_law_gcd" (defArgs s__law_gcd) (defBody s__law_gcd) (defScope s__law_gcd) .none kV22 dc22 pm22 an22 cd22 ct22), sl22⟩) (c22 : PySem.W.codeIn K cd22 "_law_gcd" = true) (k22 : PySem.W.keepIn K (.ref f22) = true)
    (a23 : PySem.W.nsIn K mainGlobals "_law_least" = some (some (.ref f23))) (l23 : K.lookup f23 = some ⟨oc23, od23, .func (PySem.W.fnOf "_law_least" "_law_least" (defArgs s__law_least) (defBody s__law_least) (defScope s__law_least) .none kV23 dc23 pm23 an23 cd23 ct23), sl23⟩) (c23 : PySem.W.codeIn K cd23 "_law_least" = true) (k23 : PySem.W.keepIn K (.ref f23) = true)
    (a24 : PySem.W.nsIn K mainGlobals "_law_is_fraction" = some (some (.ref f24))) (l24 : K.lookup f24 = some ⟨oc24, od24, .func (PySem.W.fnOf "_law_is_fraction" "_law_is_fraction" (defArgs s__law_is_fraction) (defBody s__law_is_fraction) (defScope s__law_is_fraction) .none kV24 dc24 pm24 an24 cd24 ct24), sl24⟩) (c24 : PySem.W.codeIn K cd24 "_law_is_fraction" = true) (k24 : PySem.W.keepIn K (.ref f24) = true)
    (a25 : PySem.W.nsIn K mainGlobals "_law_draw_weight" = some (some (.ref f25))) (l25 : K.lookup f25 = some ⟨oc25, od25, .func (PySem.W.fnOf "_law_draw_weight" "_law_draw_weight" (defArgs s__law_draw_weight) (defBody s__law_draw_weight) (defScope s__law_draw_weight) .none kV25 dc25 pm25 an25 cd25 ct25), sl25⟩) (c25 : PySem.W.codeIn K cd25 "_law_draw_weight" = true) (k25 : PySem.W.keepIn K (.ref f25) = true)
    (a26 : PySem.W.nsIn K mainGlobals "_law_draw_web" = some (some (.ref f26))) (l26 : K.lookup f26 = some ⟨oc26, od26, .func (PySem.W.fnOf "_law_draw_web" "_law_draw_web" (defArgs s__law_draw_web) (defBody s__law_draw_web) (defScope s__law_draw_web) .none kV26 dc26 pm26 an26 cd26 ct26), sl26⟩) (c26 : PySem.W.codeIn K cd26 "_law_draw_web" = true) (k26 : PySem.W.keepIn K (.ref f26) = true)
    (a27 : PySem.W.nsIn K mainGlobals "_law_twin" = some (some (.ref f27))) (l27 : K.lookup f27 = some ⟨oc27, od27, .func (PySem.W.fnOf "_law_twin" "_law_twin" (defArgs s__law_twin) (defBody s__law_twin) (defScope s__law_twin) .none kV27 dc27 pm27 an27 cd27 ct27), sl27⟩) (c27 : PySem.W.codeIn K cd27 "_law_twin" = true) (k27 : PySem.W.keepIn K (.ref f27) = true)
    (a28 : PySem.W.nsIn K mainGlobals "_law_shuffled" = some (some (.ref f28))) (l28 : K.lookup f28 = some ⟨oc28, od28, .func (PySem.W.fnOf "_law_shuffled" "_law_shuffled" (defArgs s__law_shuffled) (defBody s__law_shuffled) (defScope s__law_shuffled) .none kV28 dc28 pm28 an28 cd28 ct28), sl28⟩) (c28 : PySem.W.codeIn K cd28 "_law_shuffled" = true) (k28 : PySem.W.keepIn K (.ref f28) = true)
    (a29 : PySem.W.nsIn K mainGlobals "_law_draw_lots" = some (some (.ref f29))) (l29 : K.lookup f29 = some ⟨oc29, od29, .func (PySem.W.fnOf "_law_draw_lots" "_law_draw_lots" (defArgs s__law_draw_lots) (defBody s__law_draw_lots) (defScope s__law_draw_lots) .none kV29 dc29 pm29 an29 cd29 ct29), sl29⟩) (c29 : PySem.W.codeIn K cd29 "_law_draw_lots" = true) (k29 : PySem.W.keepIn K (.ref f29) = true)
    (a30 : PySem.W.nsIn K mainGlobals "_law_due" = some (some (.ref f30))) (l30 : K.lookup f30 = some ⟨oc30, od30, .func (PySem.W.fnOf "_law_due" "_law_due" (defArgs s__law_due) (defBody s__law_due) (defScope s__law_due) .none kV30 dc30 pm30 an30 cd30 ct30), sl30⟩) (c30 : PySem.W.codeIn K cd30 "_law_due" = true) (k30 : PySem.W.keepIn K (.ref f30) = true)
    (a31 : PySem.W.nsIn K mainGlobals "_law_right" = some (some (.ref f31))) (l31 : K.lookup f31 = some ⟨oc31, od31, .func (PySem.W.fnOf "_law_right" "_law_right" (defArgs s__law_right) (defBody s__law_right) (defScope s__law_right) .none kV31 dc31 pm31 an31 cd31 ct31), sl31⟩) (c31 : PySem.W.codeIn K cd31 "_law_right" = true) (k31 : PySem.W.keepIn K (.ref f31) = true)
    (a32 : PySem.W.nsIn K mainGlobals "_law_all_right" = some (some (.ref f32))) (l32 : K.lookup f32 = some ⟨oc32, od32, .func (PySem.W.fnOf "_law_all_right" "_law_all_right" (defArgs s__law_all_right) (defBody s__law_all_right) (defScope s__law_all_right) .none kV32 dc32 pm32 an32 cd32 ct32), sl32⟩) (c32 : PySem.W.codeIn K cd32 "_law_all_right" = true) (k32 : PySem.W.keepIn K (.ref f32) = true)
    (a33 : PySem.W.nsIn K mainGlobals "_law_refused" = some (some (.ref f33))) (l33 : K.lookup f33 = some ⟨oc33, od33, .func (PySem.W.fnOf "_law_refused" "_law_refused" (defArgs s__law_refused) (defBody s__law_refused) (defScope s__law_refused) .none kV33 dc33 pm33 an33 cd33 ct33), sl33⟩) (c33 : PySem.W.codeIn K cd33 "_law_refused" = true) (k33 : PySem.W.keepIn K (.ref f33) = true)
    (a34 : PySem.W.nsIn K mainGlobals "_law_shared_refused" = some (some (.ref f34))) (l34 : K.lookup f34 = some ⟨oc34, od34, .func (PySem.W.fnOf "_law_shared_refused" "_law_shared_refused" (defArgs s__law_shared_refused) (defBody s__law_shared_refused) (defScope s__law_shared_refused) .none kV34 dc34 pm34 an34 cd34 ct34), sl34⟩) (c34 : PySem.W.codeIn K cd34 "_law_shared_refused" = true) (k34 : PySem.W.keepIn K (.ref f34) = true)
    (a35 : PySem.W.nsIn K mainGlobals "law" = some (some (.ref f35))) (l35 : K.lookup f35 = some ⟨oc35, od35, .func (PySem.W.fnOf "law" "law" (defArgs s_law) (defBody s_law) (defScope s_law) .none kV35 dc35 pm35 an35 cd35 ct35), sl35⟩) (c35 : PySem.W.codeIn K cd35 "law" = true) (k35 : PySem.W.keepIn K (.ref f35) = true)
    (z0 : PySem.W.nsIn K mainGlobals "len" = some none)
    (z1 : PySem.W.nsIn K mainGlobals "int" = some none)
    (z2 : PySem.W.nsIn K mainGlobals "bool" = some none)
    (z3 : PySem.W.nsIn K mainGlobals "tuple" = some none)
    (z4 : PySem.W.nsIn K mainGlobals "list" = some none)
    (z5 : PySem.W.nsIn K mainGlobals "isinstance" = some none)
    (z6 : PySem.W.nsIn K mainGlobals "range" = some none)
    (z7 : PySem.W.nsIn K mainGlobals "enumerate" = some none)
    (z8 : PySem.W.nsIn K mainGlobals "zip" = some none)
    (z9 : PySem.W.nsIn K mainGlobals "sum" = some none)
    (z10 : PySem.W.nsIn K mainGlobals "max" = some none)
    (z11 : PySem.W.nsIn K mainGlobals "min" = some none)
    (z12 : PySem.W.nsIn K mainGlobals "abs" = some none)
    (z13 : PySem.W.nsIn K mainGlobals "reversed" = some none)
    (z14 : PySem.W.nsIn K mainGlobals "ValueError" = some none)
    (g_gcd : PySem.W.nsIn K mainGlobals "gcd" = some (some (.builtin "math.gcd")))
    (a_CableError : PySem.W.nsIn K mainGlobals "CableError" = some (some (.ref c_CableError)))
    (a_SharedPlace : PySem.W.nsIn K mainGlobals "SharedPlace" = some (some (.ref c_SharedPlace)))
    (a_BadBundle : PySem.W.nsIn K mainGlobals "BadBundle" = some (some (.ref c_BadBundle)))
    (a_BadIndex : PySem.W.nsIn K mainGlobals "BadIndex" = some (some (.ref c_BadIndex)))
    (a_BadRow : PySem.W.nsIn K mainGlobals "BadRow" = some (some (.ref c_BadRow)))
    (a_BadTie : PySem.W.nsIn K mainGlobals "BadTie" = some (some (.ref c_BadTie)))
    (a_BadWeight : PySem.W.nsIn K mainGlobals "BadWeight" = some (some (.ref c_BadWeight)))
    (a_CountsDiffer : PySem.W.nsIn K mainGlobals "CountsDiffer" = some (some (.ref c_CountsDiffer)))
    (a_SamePlace : PySem.W.nsIn K mainGlobals "SamePlace" = some (some (.ref c_SamePlace)))
    (a_SizesDiffer : PySem.W.nsIn K mainGlobals "SizesDiffer" = some (some (.ref c_SizesDiffer)))
    (a_Form : PySem.W.nsIn K mainGlobals "Form" = some (some (.ref c_Form)))
    (a_RowList : PySem.W.nsIn K mainGlobals "RowList" = some (some (.ref c_RowList)))
    (a_Web : PySem.W.nsIn K mainGlobals "Web" = some (some (.ref c_Web)))
    (i_CableError : PySem.W.isClsIn K c_CableError = true)
    (y_CableError : PySem.W.typeIn K (.ref c_CableError) = some (.type "type"))
    (i_SharedPlace : PySem.W.isClsIn K c_SharedPlace = true)
    (y_SharedPlace : PySem.W.typeIn K (.ref c_SharedPlace) = some (.type "type"))
    (i_BadBundle : PySem.W.isClsIn K c_BadBundle = true)
    (y_BadBundle : PySem.W.typeIn K (.ref c_BadBundle) = some (.type "type"))
    (i_BadIndex : PySem.W.isClsIn K c_BadIndex = true)
    (y_BadIndex : PySem.W.typeIn K (.ref c_BadIndex) = some (.type "type"))
    (i_BadRow : PySem.W.isClsIn K c_BadRow = true)
    (y_BadRow : PySem.W.typeIn K (.ref c_BadRow) = some (.type "type"))
    (i_BadTie : PySem.W.isClsIn K c_BadTie = true)
    (y_BadTie : PySem.W.typeIn K (.ref c_BadTie) = some (.type "type"))
    (i_BadWeight : PySem.W.isClsIn K c_BadWeight = true)
    (y_BadWeight : PySem.W.typeIn K (.ref c_BadWeight) = some (.type "type"))
    (i_CountsDiffer : PySem.W.isClsIn K c_CountsDiffer = true)
    (y_CountsDiffer : PySem.W.typeIn K (.ref c_CountsDiffer) = some (.type "type"))
    (i_SamePlace : PySem.W.isClsIn K c_SamePlace = true)
    (y_SamePlace : PySem.W.typeIn K (.ref c_SamePlace) = some (.type "type"))
    (i_SizesDiffer : PySem.W.isClsIn K c_SizesDiffer = true)
    (y_SizesDiffer : PySem.W.typeIn K (.ref c_SizesDiffer) = some (.type "type"))
    (b_CableError : PySem.W.subIn K (.ref c_CableError) (.type "BaseException") = some true)
    (b_SharedPlace : PySem.W.subIn K (.ref c_SharedPlace) (.type "BaseException") = some true)
    (xl_SharedPlace : K.lookup c_SharedPlace = some (excClassObj nm_SharedPlace q_SharedPlace c_SharedPlace N_SharedPlace bs_SharedPlace [.ref c_CableError, .type "ValueError", .type "Exception", .type "BaseException", .type "object"] true sn_SharedPlace sub_SharedPlace ab_SharedPlace col_SharedPlace dd_SharedPlace m0_SharedPlace m1_SharedPlace m2_SharedPlace m3_SharedPlace m5_SharedPlace "ValueError.__new__"))
    (sa_SharedPlace : PySem.W.findIn K (.ref c_SharedPlace) "__setattr__" = some (some (.builtin "object.__setattr__")))
    (ga_SharedPlace : PySem.W.findIn K (.ref c_SharedPlace) "__getattribute__" = some (some (.builtin "BaseException.__getattribute__")))
    (gg_SharedPlace : PySem.W.findIn K (.ref c_SharedPlace) "__getattr__" = some none)
    (ca_SharedPlace : PySem.W.findIn K (.ref c_SharedPlace) "__class__" = some (some (.builtin "object.__class__")))
    (cm_SharedPlace : PySem.W.mroIn K c_SharedPlace (.type "object") = some true)
    (hd_SharedPlace : PySem.W.hasDictIn K c_SharedPlace = true)
    (kp_SharedPlace : PySem.W.keepIn K (.ref c_SharedPlace) = true)
    (no_SharedPlace_place : PySem.W.findIn K (.ref c_SharedPlace) "place" = some none)
    (in_SharedPlace : PySem.W.findIn K (.ref c_SharedPlace) "__init__" = some (some (.ref f_SharedPlace)))
    (tf_SharedPlace : PySem.W.typeIn K (.ref f_SharedPlace) = some (.type "function"))
    (lf_SharedPlace : K.lookup f_SharedPlace = some ⟨oci_SharedPlace, odi_SharedPlace, .func (PySem.W.fnOf "__init__" "SharedPlace.__init__" (defArgs s_iSP) (defBody s_iSP) (defScope s_iSP) .none kVi_SharedPlace dci_SharedPlace pmi_SharedPlace ani_SharedPlace cdi_SharedPlace cti_SharedPlace), sli_SharedPlace⟩)
    (cf_SharedPlace : PySem.W.codeIn K cdi_SharedPlace "SharedPlace.__init__" = true)
    (kf_SharedPlace : PySem.W.keepIn K (.ref f_SharedPlace) = true)
    (pg_Form : PySem.W.plainGet K c_Form Str.empty = true)
    (hd_Form : PySem.W.hasDictIn K c_Form = true)
    (po_Form : PySem.W.plainOver K c_Form = true)
    (sa_Form : PySem.W.findIn K (.ref c_Form) "__setattr__" = some (some (.builtin "object.__setattr__")))
    (mk_Form : PySem.W.makesIn K c_Form = true)
    (kc_Form : PySem.W.keepIn K (.ref c_Form) = true)
    (na_Form_size : PySem.W.findIn K (.ref c_Form) "size" = some none)
    (na_Form_entries : PySem.W.findIn K (.ref c_Form) "entries" = some none)
    (na_Form_bottom : PySem.W.findIn K (.ref c_Form) "bottom" = some none)
    (in_Form : PySem.W.findIn K (.ref c_Form) "__init__" = some (some (.ref f_Form)))
    (isf_Form : PySem.W.isFn K (.ref f_Form) = true)
    (lf_Form : K.lookup f_Form = some ⟨oci_Form, odi_Form, .func (PySem.W.fnOf "__init__" "Form.__init__" (defArgs s_iForm) (defBody s_iForm) (defScope s_iForm) .none (.ref D_Form) dci_Form pmi_Form ani_Form cdi_Form cti_Form), sli_Form⟩)
    (cf_Form : PySem.W.codeIn K cdi_Form "Form.__init__" = true)
    (kf_Form : PySem.W.keepIn K (.ref f_Form) = true)
    (kd_Form : PySem.W.nsIn K D_Form "bottom" = some (some (.int 1 tki_Form)))
    (pg_RowList : PySem.W.plainGet K c_RowList Str.empty = true)
    (hd_RowList : PySem.W.hasDictIn K c_RowList = true)
    (po_RowList : PySem.W.plainOver K c_RowList = true)
    (sa_RowList : PySem.W.findIn K (.ref c_RowList) "__setattr__" = some (some (.builtin "object.__setattr__")))
    (mk_RowList : PySem.W.makesIn K c_RowList = true)
    (kc_RowList : PySem.W.keepIn K (.ref c_RowList) = true)
    (na_RowList_size : PySem.W.findIn K (.ref c_RowList) "size" = some none)
    (na_RowList_pairs : PySem.W.findIn K (.ref c_RowList) "pairs" = some none)
    (na_RowList_bottom : PySem.W.findIn K (.ref c_RowList) "bottom" = some none)
    (na_RowList_form : PySem.W.findIn K (.ref c_RowList) "form" = some none)
    (in_RowList : PySem.W.findIn K (.ref c_RowList) "__init__" = some (some (.ref f_RowList)))
    (isf_RowList : PySem.W.isFn K (.ref f_RowList) = true)
    (lf_RowList : K.lookup f_RowList = some ⟨oci_RowList, odi_RowList, .func (PySem.W.fnOf "__init__" "RowList.__init__" (defArgs s_iRowList) (defBody s_iRowList) (defScope s_iRowList) .none (.ref D_RowList) dci_RowList pmi_RowList ani_RowList cdi_RowList cti_RowList), sli_RowList⟩)
    (cf_RowList : PySem.W.codeIn K cdi_RowList "RowList.__init__" = true)
    (kf_RowList : PySem.W.keepIn K (.ref f_RowList) = true)
    (kd_RowList : PySem.W.nsIn K D_RowList "bottom" = some (some (.int 1 tki_RowList)))
    (pg_Web : PySem.W.plainGet K c_Web Str.empty = true)
    (hd_Web : PySem.W.hasDictIn K c_Web = true)
    (po_Web : PySem.W.plainOver K c_Web = true)
    (sa_Web : PySem.W.findIn K (.ref c_Web) "__setattr__" = some (some (.builtin "object.__setattr__")))
    (mk_Web : PySem.W.makesIn K c_Web = true)
    (kc_Web : PySem.W.keepIn K (.ref c_Web) = true)
    (na_Web_places : PySem.W.findIn K (.ref c_Web) "places" = some none)
    (na_Web_ties : PySem.W.findIn K (.ref c_Web) "ties" = some none)
    (na_Web_bottom : PySem.W.findIn K (.ref c_Web) "bottom" = some none)
    (na_Web_rows : PySem.W.findIn K (.ref c_Web) "rows" = some none)
    (na_Web_form : PySem.W.findIn K (.ref c_Web) "form" = some none)
    (in_Web : PySem.W.findIn K (.ref c_Web) "__init__" = some (some (.ref f_Web)))
    (isf_Web : PySem.W.isFn K (.ref f_Web) = true)
    (lf_Web : K.lookup f_Web = some ⟨oci_Web, odi_Web, .func (PySem.W.fnOf "__init__" "Web.__init__" (defArgs s_iWeb) (defBody s_iWeb) (defScope s_iWeb) .none (.ref D_Web) dci_Web pmi_Web ani_Web cdi_Web cti_Web), sli_Web⟩)
    (cf_Web : PySem.W.codeIn K cdi_Web "Web.__init__" = true)
    (kf_Web : PySem.W.keepIn K (.ref f_Web) = true)
    (kd_Web : PySem.W.nsIn K D_Web "bottom" = some (some (.int 1 tki_Web)))
    (cn0 : PySem.W.specialIn K (.builtin "object.__class__") "__get__" = some (some (.builtin "getset_descriptor.__get__")))
    (ct0 : PySem.W.takesIn K (.builtin "object.__class__") = some true)
    (s_SharedPlace_SharedPlace : PySem.W.subIn K (.ref c_SharedPlace) (.ref c_SharedPlace) = some true)
    (s_SharedPlace_CableError : PySem.W.subIn K (.ref c_SharedPlace) (.ref c_CableError) = some true)
    (s_SharedPlace_BadBundle : PySem.W.subIn K (.ref c_SharedPlace) (.ref c_BadBundle) = some false)
    (s_SharedPlace_BadIndex : PySem.W.subIn K (.ref c_SharedPlace) (.ref c_BadIndex) = some false)
    (s_SharedPlace_BadRow : PySem.W.subIn K (.ref c_SharedPlace) (.ref c_BadRow) = some false)
    (s_SharedPlace_BadTie : PySem.W.subIn K (.ref c_SharedPlace) (.ref c_BadTie) = some false)
    (s_SharedPlace_BadWeight : PySem.W.subIn K (.ref c_SharedPlace) (.ref c_BadWeight) = some false)
    (s_SharedPlace_CountsDiffer : PySem.W.subIn K (.ref c_SharedPlace) (.ref c_CountsDiffer) = some false)
    (s_SharedPlace_SamePlace : PySem.W.subIn K (.ref c_SharedPlace) (.ref c_SamePlace) = some false)
    (s_SharedPlace_SizesDiffer : PySem.W.subIn K (.ref c_SharedPlace) (.ref c_SizesDiffer) = some false)
    (sb_SharedPlace_ValueError : PySem.W.subIn K (.ref c_SharedPlace) (.type "ValueError") = some true)
    : ∃ fd : FuncData, (∀ (s : Shared) (v : Value), BindsTo s fd ⟨[v], []⟩ [("script", v)]) ∧ ∀ base : Heap, K.In base → base.Ns mainGlobals mg → FnOk l.prog w K mg base CX0 10 fa fd ["script"] (spLaw K) := by
  have e := hfa.symm.trans (PySem.W.mg_of X G a35)
  cases e
  have T : Txt mg := { b_len := PySem.W.mg_none_of X G z0, b_int := PySem.W.mg_none_of X G z1, b_bool := PySem.W.mg_none_of X G z2, b_tuple := PySem.W.mg_none_of X G z3, b_list := PySem.W.mg_none_of X G z4, b_isinstance := PySem.W.mg_none_of X G z5, b_range := PySem.W.mg_none_of X G z6, b_enumerate := PySem.W.mg_none_of X G z7, b_zip := PySem.W.mg_none_of X G z8, b_sum := PySem.W.mg_none_of X G z9, b_max := PySem.W.mg_none_of X G z10, b_min := PySem.W.mg_none_of X G z11, b_abs := PySem.W.mg_none_of X G z12, b_reversed := PySem.W.mg_none_of X G z13, b_ValueError := PySem.W.mg_none_of X G z14, g_gcd := PySem.W.mg_of X G g_gcd }
  have G_CableError := PySem.W.mg_of X G a_CableError
  have G_SharedPlace := PySem.W.mg_of X G a_SharedPlace
  have G_BadBundle := PySem.W.mg_of X G a_BadBundle
  have G_BadIndex := PySem.W.mg_of X G a_BadIndex
  have G_BadRow := PySem.W.mg_of X G a_BadRow
  have G_BadTie := PySem.W.mg_of X G a_BadTie
  have G_BadWeight := PySem.W.mg_of X G a_BadWeight
  have G_CountsDiffer := PySem.W.mg_of X G a_CountsDiffer
  have G_SamePlace := PySem.W.mg_of X G a_SamePlace
  have G_SizesDiffer := PySem.W.mg_of X G a_SizesDiffer
  have G_Form := PySem.W.mg_of X G a_Form
  have G_RowList := PySem.W.mg_of X G a_RowList
  have G_Web := PySem.W.mg_of X G a_Web
  have X_SharedPlace : EX.XCls K c_SharedPlace := ⟨i_SharedPlace, ga_SharedPlace, gg_SharedPlace, b_SharedPlace, ca_SharedPlace, cn0, ct0, cm_SharedPlace, hd_SharedPlace, y_SharedPlace, kp_SharedPlace⟩
  have O_SharedPlace : OexC K c_SharedPlace := ⟨⟨nm_SharedPlace, q_SharedPlace, N_SharedPlace, bs_SharedPlace, _, sn_SharedPlace, sub_SharedPlace, ab_SharedPlace, col_SharedPlace, dd_SharedPlace, m0_SharedPlace, m1_SharedPlace, m2_SharedPlace, m3_SharedPlace, m5_SharedPlace, xl_SharedPlace, by rfl⟩, sa_SharedPlace, b_SharedPlace, y_SharedPlace, kp_SharedPlace⟩
  have FI_SharedPlace := fun_mk (st := s_iSP) lf_SharedPlace cf_SharedPlace kf_SharedPlace
  have BI_SharedPlace := FI_SharedPlace.binds (ps := ["self", "place"]) fun _ _ _ _ _ _ us hl => match us, hl with | [_, _], _ => rfl
  have FO_Form := funD_of (st := s_iForm) lf_Form cf_Form kf_Form kd_Form
  have MK_Form : Mk K c_Form f_Form := ⟨mk_Form, in_Form, isf_Form, kc_Form⟩
  have CL_Form : Cls K c_Form := ⟨pg_Form, hd_Form, po_Form, sa_Form⟩
  have FO_RowList := funD_of (st := s_iRowList) lf_RowList cf_RowList kf_RowList kd_RowList
  have MK_RowList : Mk K c_RowList f_RowList := ⟨mk_RowList, in_RowList, isf_RowList, kc_RowList⟩
  have CL_RowList : Cls K c_RowList := ⟨pg_RowList, hd_RowList, po_RowList, sa_RowList⟩
  have FO_Web := funD_of (st := s_iWeb) lf_Web cf_Web kf_Web kd_Web
  have MK_Web : Mk K c_Web f_Web := ⟨mk_Web, in_Web, isf_Web, kc_Web⟩
  have CL_Web : Cls K c_Web := ⟨pg_Web, hd_Web, po_Web, sa_Web⟩
  have F_frozen_numbers := fun_mk (st := s_frozen_numbers) l1 c1 k1
  have m_frozen_numbers := PySem.W.mg_of X G a1
  have b_frozen_numbers := F_frozen_numbers.binds (ps := ["value"]) fun _ _ _ _ _ _ us hl => match us, hl with | [_], _ => rfl
  have F_frozen_part := fun_mk (st := s_frozen_part) l2 c2 k2
  have m_frozen_part := PySem.W.mg_of X G a2
  have b_frozen_part := F_frozen_part.binds (ps := ["value"]) fun _ _ _ _ _ _ us hl => match us, hl with | [_], _ => rfl
  have F_frozen := fun_mk (st := s_frozen) l3 c3 k3
  have m_frozen := PySem.W.mg_of X G a3
  have b_frozen := F_frozen.binds (ps := ["value"]) fun _ _ _ _ _ _ us hl => match us, hl with | [_], _ => rfl
  have F_lowered := fun_mk (st := s_lowered) l4 c4 k4
  have m_lowered := PySem.W.mg_of X G a4
  have b_lowered := F_lowered.binds (ps := ["numbers", "bottom"]) fun _ _ _ _ _ _ us hl => match us, hl with | [_, _], _ => rfl
  have F_fraction := fun_mk (st := s_fraction) l5 c5 k5
  have m_fraction := PySem.W.mg_of X G a5
  have b_fraction := F_fraction.binds (ps := ["top", "bottom"]) fun _ _ _ _ _ _ us hl => match us, hl with | [_, _], _ => rfl
  have F_added := fun_mk (st := s_added) l6 c6 k6
  have m_added := PySem.W.mg_of X G a6
  have b_added := F_added.binds (ps := ["one", "two"]) fun _ _ _ _ _ _ us hl => match us, hl with | [_, _], _ => rfl
  have F_subtracted := fun_mk (st := s_subtracted) l7 c7 k7
  have m_subtracted := PySem.W.mg_of X G a7
  have b_subtracted := F_subtracted.binds (ps := ["one", "two"]) fun _ _ _ _ _ _ us hl => match us, hl with | [_, _], _ => rfl
  have F_multiplied := fun_mk (st := s_multiplied) l8 c8 k8
  have m_multiplied := PySem.W.mg_of X G a8
  have b_multiplied := F_multiplied.binds (ps := ["one", "two"]) fun _ _ _ _ _ _ us hl => match us, hl with | [_, _], _ => rfl
  have F_check_square := fun_mk (st := s_check_square) l9 c9 k9
  have m_check_square := PySem.W.mg_of X G a9
  have b_check_square := F_check_square.binds (ps := ["lines"]) fun _ _ _ _ _ _ us hl => match us, hl with | [_], _ => rfl
  have F_check_symmetric := fun_mk (st := s_check_symmetric) l10 c10 k10
  have m_check_symmetric := PySem.W.mg_of X G a10
  have b_check_symmetric := F_check_symmetric.binds (ps := ["lines"]) fun _ _ _ _ _ _ us hl => match us, hl with | [_], _ => rfl
  have F_check_pairs := fun_mk (st := s_check_pairs) l11 c11 k11
  have m_check_pairs := PySem.W.mg_of X G a11
  have b_check_pairs := F_check_pairs.binds (ps := ["size", "pairs"]) fun _ _ _ _ _ _ us hl => match us, hl with | [_, _], _ => rfl
  have F_weighted_sum := fun_mk (st := s_weighted_sum) l12 c12 k12
  have m_weighted_sum := PySem.W.mg_of X G a12
  have b_weighted_sum := F_weighted_sum.binds (ps := ["pairs", "one", "two"]) fun _ _ _ _ _ _ us hl => match us, hl with | [_, _, _], _ => rfl
  have F_weighted_matrix := fun_mk (st := s_weighted_matrix) l13 c13 k13
  have m_weighted_matrix := PySem.W.mg_of X G a13
  have b_weighted_matrix := F_weighted_matrix.binds (ps := ["size", "pairs"]) fun _ _ _ _ _ _ us hl => match us, hl with | [_, _], _ => rfl
  have F_tie_row := fun_mk (st := s_tie_row) l14 c14 k14
  have m_tie_row := PySem.W.mg_of X G a14
  have b_tie_row := F_tie_row.binds (ps := ["places", "tie"]) fun _ _ _ _ _ _ us hl => match us, hl with | [_, _], _ => rfl
  have F_sorted_tie := fun_mk (st := s_sorted_tie) l15 c15 k15
  have m_sorted_tie := PySem.W.mg_of X G a15
  have b_sorted_tie := F_sorted_tie.binds (ps := ["places", "index", "tie"]) fun _ _ _ _ _ _ us hl => match us, hl with | [_, _, _], _ => rfl
  have F_joins := fun_mk (st := s_joins) l16 c16 k16
  have m_joins := PySem.W.mg_of X G a16
  have b_joins := F_joins.binds (ps := ["tie", "one", "two"]) fun _ _ _ _ _ _ us hl => match us, hl with | [_, _, _], _ => rfl
  have F_strength_between := fun_mk (st := s_strength_between) l17 c17 k17
  have m_strength_between := PySem.W.mg_of X G a17
  have b_strength_between := F_strength_between.binds (ps := ["web", "one", "two"]) fun _ _ _ _ _ _ us hl => match us, hl with | [_, _, _], _ => rfl
  have F_evenness := fun_mk (st := s_evenness) l18 c18 k18
  have m_evenness := PySem.W.mg_of X G a18
  have b_evenness := F_evenness.binds (ps := ["web", "low", "high", "one", "two"]) fun _ _ _ _ _ _ us hl => match us, hl with | [_, _, _, _, _], _ => rfl
  have F__law_whole := fun_mk (st := s__law_whole) l19 c19 k19
  have m__law_whole := PySem.W.mg_of X G a19
  have b__law_whole := F__law_whole.binds (ps := ["value"]) fun _ _ _ _ _ _ us hl => match us, hl with | [_], _ => rfl
  have F__law_cell := fun_mk (st := s__law_cell) l20 c20 k20
  have m__law_cell := PySem.W.mg_of X G a20
  have b__law_cell := F__law_cell.binds (ps := ["script", "k"]) fun _ _ _ _ _ _ us hl => match us, hl with | [_, _], _ => rfl
  have F__law_digits := fun_mk (st := s__law_digits) l21 c21 k21
  have m__law_digits := PySem.W.mg_of X G a21
  have b__law_digits := F__law_digits.binds (ps := ["cell", "sizes"]) fun _ _ _ _ _ _ us hl => match us, hl with | [_, _], _ => rfl
  have F__law_gcd := fun_mk (st := s__law_gcd) l22 c22 k22
  have m__law_gcd := PySem.W.mg_of X G a22
  have b__law_gcd := F__law_gcd.binds (ps := ["one", "two"]) fun _ _ _ _ _ _ us hl => match us, hl with | [_, _], _ => rfl
  have F__law_least := fun_mk (st := s__law_least) l23 c23 k23
  have m__law_least := PySem.W.mg_of X G a23
  have b__law_least := F__law_least.binds (ps := ["top", "under"]) fun _ _ _ _ _ _ us hl => match us, hl with | [_, _], _ => rfl
  have F__law_is_fraction := fun_mk (st := s__law_is_fraction) l24 c24 k24
  have m__law_is_fraction := PySem.W.mg_of X G a24
  have b__law_is_fraction := F__law_is_fraction.binds (ps := ["value"]) fun _ _ _ _ _ _ us hl => match us, hl with | [_], _ => rfl
  have F__law_draw_weight := fun_mk (st := s__law_draw_weight) l25 c25 k25
  have m__law_draw_weight := PySem.W.mg_of X G a25
  have b__law_draw_weight := F__law_draw_weight.binds (ps := ["heavy", "row"]) fun _ _ _ _ _ _ us hl => match us, hl with | [_, _], _ => rfl
  have F__law_draw_web := fun_mk (st := s__law_draw_web) l26 c26 k26
  have m__law_draw_web := PySem.W.mg_of X G a26
  have b__law_draw_web := F__law_draw_web.binds (ps := ["script"]) fun _ _ _ _ _ _ us hl => match us, hl with | [_], _ => rfl
  have F__law_twin := fun_mk (st := s__law_twin) l27 c27 k27
  have m__law_twin := PySem.W.mg_of X G a27
  have b__law_twin := F__law_twin.binds (ps := ["ties", "spot"]) fun _ _ _ _ _ _ us hl => match us, hl with | [_, _], _ => rfl
  have F__law_shuffled := fun_mk (st := s__law_shuffled) l28 c28 k28
  have m__law_shuffled := PySem.W.mg_of X G a28
  have b__law_shuffled := F__law_shuffled.binds (ps := ["cell", "lot"]) fun _ _ _ _ _ _ us hl => match us, hl with | [_, _], _ => rfl
  have F__law_draw_lots := fun_mk (st := s__law_draw_lots) l29 c29 k29
  have m__law_draw_lots := PySem.W.mg_of X G a29
  have b__law_draw_lots := F__law_draw_lots.binds (ps := ["places", "row"]) fun _ _ _ _ _ _ us hl => match us, hl with | [_, _], _ => rfl
  have F__law_due := fun_mk (st := s__law_due) l30 c30 k30
  have m__law_due := PySem.W.mg_of X G a30
  have b__law_due := F__law_due.binds (ps := ["ties", "base", "one", "two"]) fun _ _ _ _ _ _ us hl => match us, hl with | [_, _, _, _], _ => rfl
  have F__law_right := fun_mk (st := s__law_right) l31 c31 k31
  have m__law_right := PySem.W.mg_of X G a31
  have b__law_right := F__law_right.binds (ps := ["web", "ties", "base", "one", "two", "loose"]) fun _ _ _ _ _ _ us hl => match us, hl with | [_, _, _, _, _, _], _ => rfl
  have F__law_all_right := fun_mk (st := s__law_all_right) l32 c32 k32
  have m__law_all_right := PySem.W.mg_of X G a32
  have b__law_all_right := F__law_all_right.binds (ps := ["web", "places", "ties", "base", "one", "two", "loose"]) fun _ _ _ _ _ _ us hl => match us, hl with | [_, _, _, _, _, _, _], _ => rfl
  have F__law_refused := fun_mk (st := s__law_refused) l33 c33 k33
  have m__law_refused := PySem.W.mg_of X G a33
  have b__law_refused := F__law_refused.binds (ps := ["door", "web", "one", "two", "due"]) fun _ _ _ _ _ _ us hl => match us, hl with | [_, _, _, _, _], _ => rfl
  have F__law_shared_refused := fun_mk (st := s__law_shared_refused) l34 c34 k34
  have m__law_shared_refused := PySem.W.mg_of X G a34
  have b__law_shared_refused := F__law_shared_refused.binds (ps := ["script", "web", "places", "loose"]) fun _ _ _ _ _ _ us hl => match us, hl with | [_, _, _, _], _ => rfl
  have F_law := fun_mk (st := s_law) l35 c35 k35
  have m_law := PySem.W.mg_of X G a35
  refine ⟨PySem.W.fnOf "law" "law" (defArgs s_law) (defBody s_law) (defScope s_law) .none kV35 dc35 pm35 an35 cd35 ct35, fun s v => .of_eq rfl, fun base _ _ => ?_⟩
  have U : Err K mg c_SharedPlace c_CableError f_SharedPlace c_BadBundle c_BadIndex c_BadRow c_BadTie c_BadWeight c_CountsDiffer c_SamePlace c_SizesDiffer := { g_SharedPlace := G_SharedPlace, g_CableError := G_CableError, g_BadBundle := G_BadBundle, g_BadIndex := G_BadIndex, g_BadRow := G_BadRow, g_BadTie := G_BadTie, g_BadWeight := G_BadWeight, g_CountsDiffer := G_CountsDiffer, g_SamePlace := G_SamePlace, g_SizesDiffer := G_SizesDiffer, o_SharedPlace := O_SharedPlace, i_SharedPlace := in_SharedPlace, t_SharedPlace := tf_SharedPlace, x := X_SharedPlace, no_SharedPlace_place := no_SharedPlace_place, eC := EX.exm_sub i_CableError y_CableError b_CableError s_SharedPlace_CableError, kS := EX.kit_sub i_SharedPlace y_SharedPlace s_SharedPlace_SharedPlace s_SharedPlace_SharedPlace, kV := EX.kit_blt (by decide +kernel) sb_SharedPlace_ValueError, k1 := EX.kit_sub i_BadBundle y_BadBundle s_SharedPlace_BadBundle s_SharedPlace_SharedPlace, k2 := EX.kit_sub i_BadIndex y_BadIndex s_SharedPlace_BadIndex s_SharedPlace_SharedPlace, k3 := EX.kit_sub i_BadRow y_BadRow s_SharedPlace_BadRow s_SharedPlace_SharedPlace, k4 := EX.kit_sub i_BadTie y_BadTie s_SharedPlace_BadTie s_SharedPlace_SharedPlace, k5 := EX.kit_sub i_BadWeight y_BadWeight s_SharedPlace_BadWeight s_SharedPlace_SharedPlace, k6 := EX.kit_sub i_CountsDiffer y_CountsDiffer s_SharedPlace_CountsDiffer s_SharedPlace_SharedPlace, k7 := EX.kit_sub i_SamePlace y_SamePlace s_SharedPlace_SamePlace s_SharedPlace_SharedPlace, k8 := EX.kit_sub i_SizesDiffer y_SizesDiffer s_SharedPlace_SizesDiffer s_SharedPlace_SharedPlace }
  have O : Obs K c_Form c_RowList c_Web := { clF := CL_Form, F_size := na_Form_size, F_entries := na_Form_entries, F_bottom := na_Form_bottom, clR := CL_RowList, R_size := na_RowList_size, R_pairs := na_RowList_pairs, R_bottom := na_RowList_bottom, R_form := na_RowList_form, clW := CL_Web, W_places := na_Web_places, W_ties := na_Web_ties, W_bottom := na_Web_bottom, W_rows := na_Web_rows, W_form := na_Web_form }
  have C_frozen_numbers : Cal l.prog w K mg base 1 "frozen_numbers" ["value"] (spFz K 1) := ⟨_, _, ok_frozen_numbers F_frozen_numbers T, m_frozen_numbers, F_frozen_numbers.kp, b_frozen_numbers⟩
  have C_frozen_part : Cal l.prog w K mg base 2 "frozen_part" ["value"] (spFz K 2) := ⟨_, _, ok_frozen_part F_frozen_part T C_frozen_numbers, m_frozen_part, F_frozen_part.kp, b_frozen_part⟩
  have C_frozen : Cal l.prog w K mg base 3 "frozen" ["value"] (spFz K 3) := ⟨_, _, ok_frozen F_frozen T C_frozen_part, m_frozen, F_frozen.kp, b_frozen⟩
  have C_lowered : Cal l.prog w K mg base 1 "lowered" ["numbers", "bottom"] spLow := ⟨_, _, ok_lowered F_lowered T, m_lowered, F_lowered.kp, b_lowered⟩
  have C_fraction : Cal l.prog w K mg base 1 "fraction" ["top", "bottom"] spFraction := ⟨_, _, ok_fraction F_fraction T, m_fraction, F_fraction.kp, b_fraction⟩
  have C_multiplied : Cal l.prog w K mg base 2 "multiplied" ["one", "two"] (spTwo fun t1 b1 t2 b2 => (t1 * t2, b1 * b2)) := ⟨_, _, ok_multiplied F_multiplied T C_fraction, m_multiplied, F_multiplied.kp, b_multiplied⟩
  have C_added : Cal l.prog w K mg base 2 "added" ["one", "two"] (spTwo fun t1 b1 t2 b2 => (t1 * b2 + t2 * b1, b1 * b2)) := ⟨_, _, ok_added F_added T C_fraction, m_added, F_added.kp, b_added⟩
  have C_subtracted : Cal l.prog w K mg base 2 "subtracted" ["one", "two"] (spTwo fun t1 b1 t2 b2 => (t1 * b2 - t2 * b1, b1 * b2)) := ⟨_, _, ok_subtracted F_subtracted T C_fraction, m_subtracted, F_subtracted.kp, b_subtracted⟩
  have C_check_square : Cal l.prog w K mg base 1 "check_square" ["lines"] (spSquare K) := ⟨_, _, ok_check_square F_check_square T, m_check_square, F_check_square.kp, b_check_square⟩
  have C_check_symmetric : Cal l.prog w K mg base 1 "check_symmetric" ["lines"] (spSymm K) := ⟨_, _, ok_check_symmetric F_check_symmetric T, m_check_symmetric, F_check_symmetric.kp, b_check_symmetric⟩
  have C_check_pairs : Cal l.prog w K mg base 1 "check_pairs" ["size", "pairs"] (spPairs K) := ⟨_, _, ok_check_pairs F_check_pairs T, m_check_pairs, F_check_pairs.kp, b_check_pairs⟩
  have C_weighted_sum : Cal l.prog w K mg base 1 "weighted_sum" ["pairs", "one", "two"] (spWsum K) := ⟨_, _, ok_weighted_sum F_weighted_sum T, m_weighted_sum, F_weighted_sum.kp, b_weighted_sum⟩
  have C_weighted_matrix : Cal l.prog w K mg base 2 "weighted_matrix" ["size", "pairs"] (spWmat K) := ⟨_, _, ok_weighted_matrix F_weighted_matrix T C_weighted_sum, m_weighted_matrix, F_weighted_matrix.kp, b_weighted_matrix⟩
  have C_tie_row : Cal l.prog w K mg base 1 "tie_row" ["places", "tie"] (spRow K) := ⟨_, _, ok_tie_row F_tie_row T, m_tie_row, F_tie_row.kp, b_tie_row⟩
  have C_sorted_tie : Cal l.prog w K mg base 1 "sorted_tie" ["places", "index", "tie"] (spSort K) := ⟨_, _, ok_sorted_tie F_sorted_tie T, m_sorted_tie, F_sorted_tie.kp, b_sorted_tie⟩
  obtain ⟨gF, kbF⟩ := kb_Form FO_Form
  have C_Form : CalK l.prog w K mg base 4 "Form" c_Form 1 ["bottom"] (spForm K c_Form) := ⟨_, _, _, gF, MK_Form, ok_iForm FO_Form T O C_frozen C_check_square C_check_symmetric C_lowered, G_Form, kbF⟩
  obtain ⟨gR, kbR⟩ := kb_RowList FO_RowList
  have C_RowList : CalK l.prog w K mg base 6 "RowList" c_RowList 2 ["bottom"] (spRows K c_Form c_RowList) := ⟨_, _, _, gR, MK_RowList, ok_iRowList FO_RowList T O C_frozen C_check_pairs C_lowered C_weighted_matrix C_Form, G_RowList, kbR⟩
  obtain ⟨gW, kbW⟩ := kb_Web FO_Web
  have C_Web : CalK l.prog w K mg base 8 "Web" c_Web 2 ["bottom"] (spWeb K c_Form c_RowList c_Web) := ⟨_, _, _, gW, MK_Web, ok_iWeb FO_Web T O C_frozen C_sorted_tie C_tie_row C_lowered C_RowList, G_Web, kbW⟩
  have C_joins : Cal l.prog w K mg base 1 "joins" ["tie", "one", "two"] (spJoins K) := ⟨_, _, ok_joins F_joins T, m_joins, F_joins.kp, b_joins⟩
  have C_strength_between : Cal l.prog w K mg base 4 "strength_between" ["web", "one", "two"] (spStr K c_Form c_RowList c_Web) := ⟨_, _, ok_strength_between F_strength_between T O C_frozen C_joins C_fraction, m_strength_between, F_strength_between.kp, b_strength_between⟩
  have IN := ok_iSP (P := l.prog) (w := w) (base := base) FI_SharedPlace U
  have CX_strength_between : EX.CalX l.prog w K mg base 4 "strength_between" ["web", "one", "two"] (spStrX K c_SharedPlace) := ⟨_, _, okx_strength_between F_strength_between T U IN BI_SharedPlace C_frozen C_joins C_fraction, m_strength_between, F_strength_between.kp, b_strength_between⟩
  have CX_evenness : EX.CalX l.prog w K mg base 5 "evenness" ["web", "low", "high", "one", "two"] (spEvenX K c_SharedPlace) := ⟨_, _, okx_evenness F_evenness T C_multiplied C_added C_subtracted CX_strength_between, m_evenness, F_evenness.kp, b_evenness⟩
  have C__law_whole : Cal l.prog w K mg base 1 "_law_whole" ["value"] spLaw_whole := ⟨_, _, ok__law_whole F__law_whole T, m__law_whole, F__law_whole.kp, b__law_whole⟩
  have CH_whole : EX.CalH l.prog w K mg base 1 "_law_whole" ["value"] spLaw_whole := ⟨_, _, okH__law_whole F__law_whole T, m__law_whole, F__law_whole.kp, b__law_whole⟩
  have C__law_cell : Cal l.prog w K mg base 1 "_law_cell" ["script", "k"] (spCell K) := ⟨_, _, ok__law_cell F__law_cell T, m__law_cell, F__law_cell.kp, b__law_cell⟩
  have C__law_digits : Cal l.prog w K mg base 1 "_law_digits" ["cell", "sizes"] (spDigits K) := ⟨_, _, ok__law_digits F__law_digits T, m__law_digits, F__law_digits.kp, b__law_digits⟩
  have C__law_gcd : Cal l.prog w K mg base 1 "_law_gcd" ["one", "two"] spGcd := ⟨_, _, ok__law_gcd F__law_gcd T, m__law_gcd, F__law_gcd.kp, b__law_gcd⟩
  have C__law_least : Cal l.prog w K mg base 2 "_law_least" ["top", "under"] spLeast := ⟨_, _, ok__law_least F__law_least T C__law_gcd, m__law_least, F__law_least.kp, b__law_least⟩
  have C__law_is_fraction : Cal l.prog w K mg base 2 "_law_is_fraction" ["value"] spFrac := ⟨_, _, ok__law_is_fraction F__law_is_fraction T C__law_whole C__law_gcd, m__law_is_fraction, F__law_is_fraction.kp, b__law_is_fraction⟩
  have C__law_draw_weight : Cal l.prog w K mg base 1 "_law_draw_weight" ["heavy", "row"] (spMkw K) := ⟨_, _, ok__law_draw_weight F__law_draw_weight T, m__law_draw_weight, F__law_draw_weight.kp, b__law_draw_weight⟩
  have C__law_draw_web : Cal l.prog w K mg base 2 "_law_draw_web" ["script"] (spDraw K) := ⟨_, _, ok__law_draw_web F__law_draw_web T C__law_cell C__law_digits C__law_draw_weight, m__law_draw_web, F__law_draw_web.kp, b__law_draw_web⟩
  have C__law_twin : Cal l.prog w K mg base 1 "_law_twin" ["ties", "spot"] spTwin := ⟨_, _, ok__law_twin F__law_twin T, m__law_twin, F__law_twin.kp, b__law_twin⟩
  have C__law_shuffled : Cal l.prog w K mg base 2 "_law_shuffled" ["cell", "lot"] spShuf := ⟨_, _, ok__law_shuffled F__law_shuffled T C__law_digits, m__law_shuffled, F__law_shuffled.kp, b__law_shuffled⟩
  have C__law_draw_lots : Cal l.prog w K mg base 1 "_law_draw_lots" ["places", "row"] (spLots K) := ⟨_, _, ok__law_draw_lots F__law_draw_lots T, m__law_draw_lots, F__law_draw_lots.kp, b__law_draw_lots⟩
  have C__law_due : Cal l.prog w K mg base 3 "_law_due" ["ties", "base", "one", "two"] (spDue K) := ⟨_, _, ok__law_due F__law_due T C__law_least, m__law_due, F__law_due.kp, b__law_due⟩
  have C__law_right : Cal l.prog w K mg base 5 "_law_right" ["web", "ties", "base", "one", "two", "loose"] (spRight K c_Form c_RowList c_Web) := ⟨_, _, ok__law_right F__law_right T C_strength_between C__law_is_fraction C__law_due, m__law_right, F__law_right.kp, b__law_right⟩
  have C__law_all_right : Cal l.prog w K mg base 6 "_law_all_right" ["web", "places", "ties", "base", "one", "two", "loose"] (spAll K c_Form c_RowList c_Web) := ⟨_, _, ok__law_all_right F__law_all_right T C__law_right, m__law_all_right, F__law_all_right.kp, b__law_all_right⟩
  have C__law_refused : Cal l.prog w K mg base 6 "_law_refused" ["door", "web", "one", "two", "due"] (spRef K) := ⟨_, _, ok__law_refused F__law_refused T U CX_strength_between CX_evenness CH_whole, m__law_refused, F__law_refused.kp, b__law_refused⟩
  have C__law_shared_refused : Cal l.prog w K mg base 7 "_law_shared_refused" ["script", "web", "places", "loose"] (spShared K) := ⟨_, _, ok__law_shared_refused F__law_shared_refused T C__law_cell C__law_digits C__law_shuffled C__law_refused, m__law_shared_refused, F__law_shared_refused.kp, b__law_shared_refused⟩
  exact ok_law F_law T O C__law_cell C__law_digits C__law_draw_web C__law_draw_lots C__law_shuffled C__law_twin C_Web C_strength_between C__law_is_fraction C__law_due C__law_all_right C__law_right C__law_shared_refused
theorem walk {l : PySem.W.OpenLaw} {q : Program} {loose : List Str} {XP : (Str → Option Value) → Heap → Prop} {YP : World → Heap → Prop} {d : DefRec} {K : Params → PySem.W.Frag} (hn : l.most = some 63) (hdf : d.params.defaults = [])
    (hY : ∀ (w : World) (h : Heap), YP w h → (K w.params).In h)
    (F : ∀ (w : World) (mg : Str → Option Value) (fa : Addr) (h : Heap), (K w.params).In h → h.Ns mainGlobals mg → mg d.name = some (.ref fa) →
      ∃ fd : FuncData, (∀ (s : Shared) (u : Value), BindsTo s fd ⟨[u], []⟩ [("script", u)]) ∧ ∀ base : Heap, (K w.params).In base → base.Ns mainGlobals mg → FnOk l.prog w (K w.params) mg base CX0 10 fa fd ["script"] (spLaw (K w.params))) :
    PySem.W.WalkO q loose XP YP l.row.toRowW d [] (fun f vs => PySem.call f vs) :=
  L2.walk_of (n := 63) (k := 10) (x := "script") (CX := fun _ => CX0) (sp := fun w => spLaw (K w.params)) hn (by decide) hdf ⟨rfl, by decide, by decide⟩ hY F (fun _ _ a ns hl _ hS => ⟨a, ns, rfl, hS, hl, fun _ => rfl⟩) fun _ _ _ _ _ z => z
end P41
def PySem.W.Fast.tw7968679778414236565 : Nat := 0
def PySem.W.Fast.tw117013154637403376 : Nat := 0
def PySem.W.Fast.tw6945201705349625725 : Nat := 0
open PySem PySem.W PyProof.Rows
set_option maxRecDepth 100000 in
set_option maxHeartbeats 0 in
theorem PySem.Challenge.cw_wholecables_k41_strength_between_holds : PySem.Challenge.rw_wholecables_k41_strength_between.Holds := by
  w_on; o_law; k_head; (case hw => w_witness2)
  k_fill
  refine P41.walk (l := PySem.Challenge.rw_wholecables_k41_strength_between) rfl rfl (fun w h Y => PySem.W.kIn_of Y) ?F
  case F =>
    intro w mg fa h KX G hmg
    refine' P41.all_mk KX G hmg ?a1 ?l1 ?c1 ?k1 ?a2 ?l2 ?c2 ?k2 ?a3 ?l3 ?c3 ?k3 ?a4 ?l4 ?c4 ?k4 ?a5 ?l5 ?c5 ?k5 ?a6 ?l6 ?c6 ?k6 ?a7 ?l7 ?c7 ?k7 ?a8 ?l8 ?c8 ?k8 ?a9 ?l9 ?c9 ?k9 ?a10 ?l10 ?c10 ?k10 ?a11 ?l11 ?c11 ?k11 ?a12 ?l12 ?c12 ?k12 ?a13 ?l13 ?c13 ?k13 ?a14 ?l14 ?c14 ?k14 ?a15 ?l15 ?c15 ?k15 ?a16 ?l16 ?c16 ?k16 ?a17 ?l17 ?c17 ?k17 ?a18 ?l18 ?c18 ?k18 ?a19 ?l19 ?c19 ?k19 ?a20 ?l20 ?c20 ?k20 ?a21 ?l21 ?c21 ?k21 ?a22 ?l22 ?c22 ?k22 ?a23 ?l23 ?c23 ?k23 ?a24 ?l24 ?c24 ?k24 ?a25 ?l25 ?c25 ?k25 ?a26 ?l26 ?c26 ?k26 ?a27 ?l27 ?c27 ?k27 ?a28 ?l28 ?c28 ?k28 ?a29 ?l29 ?c29 ?k29 ?a30 ?l30 ?c30 ?k30 ?a31 ?l31 ?c31 ?k31 ?a32 ?l32 ?c32 ?k32 ?a33 ?l33 ?c33 ?k33 ?a34 ?l34 ?c34 ?k34 ?a35 ?l35 ?c35 ?k35 ?z0 ?z1 ?z2 ?z3 ?z4 ?z5 ?z6 ?z7 ?z8 ?z9 ?z10 ?z11 ?z12 ?z13 ?z14 ?g_gcd ?a_CableError ?a_SharedPlace ?a_BadBundle ?a_BadIndex ?a_BadRow ?a_BadTie ?a_BadWeight ?a_CountsDiffer ?a_SamePlace ?a_SizesDiffer ?a_Form ?a_RowList ?a_Web ?i_CableError ?y_CableError ?i_SharedPlace ?y_SharedPlace ?i_BadBundle ?y_BadBundle ?i_BadIndex ?y_BadIndex ?i_BadRow ?y_BadRow ?i_BadTie ?y_BadTie ?i_BadWeight ?y_BadWeight ?i_CountsDiffer ?y_CountsDiffer ?i_SamePlace ?y_SamePlace ?i_SizesDiffer ?y_SizesDiffer ?b_CableError ?b_SharedPlace ?xl_SharedPlace ?sa_SharedPlace ?ga_SharedPlace ?gg_SharedPlace ?ca_SharedPlace ?cm_SharedPlace ?hd_SharedPlace ?kp_SharedPlace ?no_SharedPlace_place ?in_SharedPlace ?tf_SharedPlace ?lf_SharedPlace ?cf_SharedPlace ?kf_SharedPlace ?pg_Form ?hd_Form ?po_Form ?sa_Form ?mk_Form ?kc_Form ?na_Form_size ?na_Form_entries ?na_Form_bottom ?in_Form ?isf_Form ?lf_Form ?cf_Form ?kf_Form ?kd_Form ?pg_RowList ?hd_RowList ?po_RowList ?sa_RowList ?mk_RowList ?kc_RowList ?na_RowList_size ?na_RowList_pairs ?na_RowList_bottom ?na_RowList_form ?in_RowList ?isf_RowList ?lf_RowList ?cf_RowList ?kf_RowList ?kd_RowList ?pg_Web ?hd_Web ?po_Web ?sa_Web ?mk_Web ?kc_Web ?na_Web_places ?na_Web_ties ?na_Web_bottom ?na_Web_rows ?na_Web_form ?in_Web ?isf_Web ?lf_Web ?cf_Web ?kf_Web ?kd_Web ?cn0 ?ct0 ?s_SharedPlace_SharedPlace ?s_SharedPlace_CableError ?s_SharedPlace_BadBundle ?s_SharedPlace_BadIndex ?s_SharedPlace_BadRow ?s_SharedPlace_BadTie ?s_SharedPlace_BadWeight ?s_SharedPlace_CountsDiffer ?s_SharedPlace_SamePlace ?s_SharedPlace_SizesDiffer ?sb_SharedPlace_ValueError
    (case a1 => k_is)
    (case l1 => k_is)
    (case c1 => k_is)
    (case k1 => k_is)
    (case a2 => k_is)
    (case l2 => k_is)
    (case c2 => k_is)
    (case k2 => k_is)
    (case a3 => k_is)
    (case l3 => k_is)
    (case c3 => k_is)
    (case k3 => k_is)
    (case a4 => k_is)
    (case l4 => k_is)
    (case c4 => k_is)
    (case k4 => k_is)
    (case a5 => k_is)
    (case l5 => k_is)
    (case c5 => k_is)
    (case k5 => k_is)
    (case a6 => k_is)
    (case l6 => k_is)
    (case c6 => k_is)
    (case k6 => k_is)
    (case a7 => k_is)
    (case l7 => k_is)
    (case c7 => k_is)
    (case k7 => k_is)
    (case a8 => k_is)
    (case l8 => k_is)
    (case c8 => k_is)
    (case k8 => k_is)
    (case a9 => k_is)
    (case l9 => k_is)
    (case c9 => k_is)
    (case k9 => k_is)
    (case a10 => k_is)
    (case l10 => k_is)
    (case c10 => k_is)
    (case k10 => k_is)
    (case a11 => k_is)
    (case l11 => k_is)
    (case c11 => k_is)
    (case k11 => k_is)
    (case a12 => k_is)
    (case l12 => k_is)
    (case c12 => k_is)
    (case k12 => k_is)
    (case a13 => k_is)
    (case l13 => k_is)
    (case c13 => k_is)
    (case k13 => k_is)
    (case a14 => k_is)
    (case l14 => k_is)
    (case c14 => k_is)
    (case k14 => k_is)
    (case a15 => k_is)
    (case l15 => k_is)
    (case c15 => k_is)
    (case k15 => k_is)
    (case a16 => k_is)
    (case l16 => k_is)
    (case c16 => k_is)
    (case k16 => k_is)
    (case a17 => k_is)
    (case l17 => k_is)
    (case c17 => k_is)
    (case k17 => k_is)
    (case a18 => k_is)
    (case l18 => k_is)
    (case c18 => k_is)
    (case k18 => k_is)
    (case a19 => k_is)
    (case l19 => k_is)
    (case c19 => k_is)
    (case k19 => k_is)
    (case a20 => k_is)
    (case l20 => k_is)
    (case c20 => k_is)
    (case k20 => k_is)
    (case a21 => k_is)
    (case l21 => k_is)
    (case c21 => k_is)
    (case k21 => k_is)
    (case a22 => k_is)
    (case l22 => k_is)
    (case c22 => k_is)
    (case k22 => k_is)
    (case a23 => k_is)
    (case l23 => k_is)
    (case c23 => k_is)
    (case k23 => k_is)
    (case a24 => k_is)
    (case l24 => k_is)
    (case c24 => k_is)
    (case k24 => k_is)
    (case a25 => k_is)
    (case l25 => k_is)
    (case c25 => k_is)
    (case k25 => k_is)
    (case a26 => k_is)
    (case l26 => k_is)
    (case c26 => k_is)
    (case k26 => k_is)
    (case a27 => k_is)
    (case l27 => k_is)
    (case c27 => k_is)
    (case k27 => k_is)
    (case a28 => k_is)
    (case l28 => k_is)
    (case c28 => k_is)
    (case k28 => k_is)
    (case a29 => k_is)
    (case l29 => k_is)
    (case c29 => k_is)
    (case k29 => k_is)
    (case a30 => k_is)
    (case l30 => k_is)
    (case c30 => k_is)
    (case k30 => k_is)
    (case a31 => k_is)
    (case l31 => k_is)
    (case c31 => k_is)
    (case k31 => k_is)
    (case a32 => k_is)
    (case l32 => k_is)
    (case c32 => k_is)
    (case k32 => k_is)
    (case a33 => k_is)
    (case l33 => k_is)
    (case c33 => k_is)
    (case k33 => k_is)
    (case a34 => k_is)
    (case l34 => k_is)
    (case c34 => k_is)
    (case k34 => k_is)
    (case a35 => k_is)
    (case l35 => k_is)
    (case c35 => k_is)
    (case k35 => k_is)
    (case z0 => k_is)
    (case z1 => k_is)
    (case z2 => k_is)
    (case z3 => k_is)
    (case z4 => k_is)
    (case z5 => k_is)
    (case z6 => k_is)
    (case z7 => k_is)
    (case z8 => k_is)
    (case z9 => k_is)
    (case z10 => k_is)
    (case z11 => k_is)
    (case z12 => k_is)
    (case z13 => k_is)
    (case z14 => k_is)
    (case g_gcd => k_is)
    (case a_CableError => k_is)
    (case a_SharedPlace => k_is)
    (case a_BadBundle => k_is)
    (case a_BadIndex => k_is)
    (case a_BadRow => k_is)
    (case a_BadTie => k_is)
    (case a_BadWeight => k_is)
    (case a_CountsDiffer => k_is)
    (case a_SamePlace => k_is)
    (case a_SizesDiffer => k_is)
    (case a_Form => k_is)
    (case a_RowList => k_is)
    (case a_Web => k_is)
    (case i_CableError => k_is)
    (case y_CableError => k_is)
    (case i_SharedPlace => k_is)
    (case y_SharedPlace => k_is)
    (case i_BadBundle => k_is)
    (case y_BadBundle => k_is)
    (case i_BadIndex => k_is)
    (case y_BadIndex => k_is)
    (case i_BadRow => k_is)
    (case y_BadRow => k_is)
    (case i_BadTie => k_is)
    (case y_BadTie => k_is)
    (case i_BadWeight => k_is)
    (case y_BadWeight => k_is)
    (case i_CountsDiffer => k_is)
    (case y_CountsDiffer => k_is)
    (case i_SamePlace => k_is)
    (case y_SamePlace => k_is)
    (case i_SizesDiffer => k_is)
    (case y_SizesDiffer => k_is)
    (case b_CableError => k_is)
    (case b_SharedPlace => k_is)
    (case xl_SharedPlace => k_is)
    (case sa_SharedPlace => k_is)
    (case ga_SharedPlace => k_is)
    (case gg_SharedPlace => k_is)
    (case ca_SharedPlace => k_is)
    (case cm_SharedPlace => k_is)
    (case hd_SharedPlace => k_is)
    (case kp_SharedPlace => k_is)
    (case no_SharedPlace_place => k_is)
    (case in_SharedPlace => k_is)
    (case tf_SharedPlace => k_is)
    (case lf_SharedPlace => k_is)
    (case cf_SharedPlace => k_is)
    (case kf_SharedPlace => k_is)
    (case pg_Form => k_is)
    (case hd_Form => k_is)
    (case po_Form => k_is)
    (case sa_Form => k_is)
    (case mk_Form => k_is)
    (case kc_Form => k_is)
    (case na_Form_size => k_is)
    (case na_Form_entries => k_is)
    (case na_Form_bottom => k_is)
    (case in_Form => k_is)
    (case isf_Form => k_is)
    (case lf_Form => k_is)
    (case cf_Form => k_is)
    (case kf_Form => k_is)
    (case kd_Form => k_is)
    (case pg_RowList => k_is)
    (case hd_RowList => k_is)
    (case po_RowList => k_is)
    (case sa_RowList => k_is)
    (case mk_RowList => k_is)
    (case kc_RowList => k_is)
    (case na_RowList_size => k_is)
    (case na_RowList_pairs => k_is)
    (case na_RowList_bottom => k_is)
    (case na_RowList_form => k_is)
    (case in_RowList => k_is)
    (case isf_RowList => k_is)
    (case lf_RowList => k_is)
    (case cf_RowList => k_is)
    (case kf_RowList => k_is)
    (case kd_RowList => k_is)
    (case pg_Web => k_is)
    (case hd_Web => k_is)
    (case po_Web => k_is)
    (case sa_Web => k_is)
    (case mk_Web => k_is)
    (case kc_Web => k_is)
    (case na_Web_places => k_is)
    (case na_Web_ties => k_is)
    (case na_Web_bottom => k_is)
    (case na_Web_rows => k_is)
    (case na_Web_form => k_is)
    (case in_Web => k_is)
    (case isf_Web => k_is)
    (case lf_Web => k_is)
    (case cf_Web => k_is)
    (case kf_Web => k_is)
    (case kd_Web => k_is)
    (case cn0 => k_is)
    (case ct0 => k_is)
    (case s_SharedPlace_SharedPlace => k_is)
    (case s_SharedPlace_CableError => k_is)
    (case s_SharedPlace_BadBundle => k_is)
    (case s_SharedPlace_BadIndex => k_is)
    (case s_SharedPlace_BadRow => k_is)
    (case s_SharedPlace_BadTie => k_is)
    (case s_SharedPlace_BadWeight => k_is)
    (case s_SharedPlace_CountsDiffer => k_is)
    (case s_SharedPlace_SamePlace => k_is)
    (case s_SharedPlace_SizesDiffer => k_is)
    (case sb_SharedPlace_ValueError => k_is)
