import PyProof.Rows.All
import Wide.All
import OpenK.AllK
import Wide.FinOn
import HandS.Base
import HandS.Call
import HandS.List
import HandS.Comp
import HandS.Iter
import HandS.Walk
import HandS.Zip
import HandS.Words
import HandS.TupAny
import HandS.IsInst
import HandS.Text
import HandS.Dict
import HandS.DictComp
import HandS.Flt
import HandS.TryOnly
import HandS.Ends
import HandS.WordsList
import HandS.Exc
import HandS.ExcOwn
import HandS.ExcCtx
import HandS.ExcInit
import HandS.ExcField
import HandS.ExcIs
import HandS.HotCalls
import HandS.Codes
import KE.KExcIs
import HandS.Gcd
import HandS.Wide
import HandS.Deep
import HandS.Defaults
import HandS.DictTup
import PySem.Challenge.RW_wholecables_k64_best_plan_whole
set_option Elab.async false
set_option linter.all false
set_option maxRecDepth 100000
set_option maxHeartbeats 4000000
set_option maxHeartbeats 4000000
/-! Nests of ints: lists and tuples of any depth, and the same as tuples alone; comprehensions by what each turn gives; a comprehension in a comprehension. -/
namespace WK
open PySem PySem.Spec PyProof.Rows L2
inductive Td where
  | int (i : Int)
  | tup (ts : List Td)
mutual
def Td.dep : Td → Nat
  | .int _ => 0
  | .tup ts => Td.deps ts + 1
def Td.deps : List Td → Nat
  | [] => 0
  | t :: ts => max t.dep (Td.deps ts)
end
mutual
def Td.sm : Td → Prop
  | .int _ => True
  | .tup ts => ts.length ≤ 16000000 ∧ Td.sms ts
def Td.sms : List Td → Prop
  | [] => True
  | t :: ts => t.sm ∧ Td.sms ts
end
mutual
def Td.py : Td → PyData
  | .int i => .int i
  | .tup ts => .tuple (Td.pys ts)
def Td.pys : List Td → List PyData
  | [] => []
  | t :: ts => t.py :: Td.pys ts
end
theorem deps_le {ts : List Td} {t : Td} {n : Nat} (h : Td.deps ts ≤ n) (m : t ∈ ts) : t.dep ≤ n := by
  induction ts with
  | nil => cases m
  | cons x ts ih =>
    simp only [Td.deps] at h
    rcases List.mem_cons.mp m with z | z
    · rw [z]; omega
    · exact ih (by omega) z
theorem sms_of {ts : List Td} {t : Td} (h : Td.sms ts) (m : t ∈ ts) : t.sm := by
  induction ts with
  | nil => cases m
  | cons x ts ih =>
    simp only [Td.sms] at h
    rcases List.mem_cons.mp m with z | z
    · rw [z]; exact h.1
    · exact ih h.2 z
theorem sms_all {ts : List Td} (h : ∀ t ∈ ts, t.sm) : Td.sms ts := by
  induction ts with
  | nil => trivial
  | cons x ts ih => exact ⟨h x List.mem_cons_self, ih fun t m => h t (List.mem_cons_of_mem _ m)⟩
theorem deps_all {ts : List Td} {n : Nat} (h : ∀ t ∈ ts, t.dep ≤ n) : Td.deps ts ≤ n := by
  induction ts with
  | nil => exact Nat.zero_le _
  | cons x ts ih =>
    have h1 := h x List.mem_cons_self
    have h2 := ih fun t m => h t (List.mem_cons_of_mem _ m)
    simp only [Td.deps]
    omega
mutual
inductive Sn (K : PySem.W.Frag) (H : Hp) : V → Td → Prop
  | int (i : Int) : Sn K H (.int i) (.int i)
  | lst {a : Addr} {vs : List V} {ts : List Td} : H a = some (.lst vs) → SnAll K H vs ts → Sn K H (.ref a) (.tup ts)
  | tup {a : Addr} {vs : List V} {ts : List Td} : SqT K H a vs → SnAll K H vs ts → Sn K H (.ref a) (.tup ts)
inductive SnAll (K : PySem.W.Frag) (H : Hp) : List V → List Td → Prop
  | nil : SnAll K H [] []
  | cons {v : V} {vs : List V} {t : Td} {ts : List Td} : Sn K H v t → SnAll K H vs ts → SnAll K H (v :: vs) (t :: ts)
end
mutual
inductive Fz (K : PySem.W.Frag) (H : Hp) : V → Td → Prop
  | int (i : Int) : Fz K H (.int i) (.int i)
  | tup {a : Addr} {vs : List V} {ts : List Td} : SqT K H a vs → FzAll K H vs ts → Fz K H (.ref a) (.tup ts)
inductive FzAll (K : PySem.W.Frag) (H : Hp) : List V → List Td → Prop
  | nil : FzAll K H [] []
  | cons {v : V} {vs : List V} {t : Td} {ts : List Td} : Fz K H v t → FzAll K H vs ts → FzAll K H (v :: vs) (t :: ts)
end
/-- tuples stay -/
def Tk (K : PySem.W.Frag) (H H' : Hp) : Prop := ∀ a xs, SqT K H a xs → SqT K H' a xs
theorem Same_seqT {K : PySem.W.Frag} {H H' : Hp} {a : Addr} {xs : List V} (e : Same H H') (h : SqT K H a xs) : SqT K H' a xs := by
  rcases h with (h | ⟨o, h⟩) | h
  · exact .inl (.inl (e _ _ h))
  · exact .inl (.inr ⟨o, e _ _ h⟩)
  · exact .inr h
theorem Same.tk {K : PySem.W.Frag} {H H' : Hp} (e : Same H H') : Tk K H H' := fun _ _ h => Same_seqT e h
theorem tk_at {K : PySem.W.Frag} {H H' : Hp} {D : Addr} {o : HO} (hD : H D = some o) (no : ∀ xs, o ≠ .tup xs) (nf : ∀ b xs, o ≠ .frz b (.tup xs)) (e : ∀ b o, b ≠ D → H b = some o → H' b = some o) : Tk K H H' := by
  intro a xs h
  rcases h with (h | ⟨b, h⟩) | h
  · exact .inl (.inl (e _ _ (fun z => by rw [z, hD] at h; cases h; exact no _ rfl) h))
  · exact .inl (.inr ⟨b, e _ _ (fun z => by rw [z, hD] at h; cases h; exact nf _ _ rfl) h⟩)
  · exact .inr h
theorem tk_lst {K : PySem.W.Frag} {H H' : Hp} {D : Addr} {l : List V} (hD : H D = some (.lst l)) (e : ∀ b o, b ≠ D → H b = some o → H' b = some o) : Tk K H H' := tk_at hD (fun _ z => by cases z) (fun _ _ z => by cases z) e
theorem tk_ins {K : PySem.W.Frag} {H H' : Hp} {D C : Addr} {dx : Addr} {l : List (Str × V)} (hD : H D = some (.ins C dx l)) (e : ∀ b o, b ≠ D → H b = some o → H' b = some o) : Tk K H H' := tk_at hD (fun _ z => by cases z) (fun _ _ z => by cases z) e
mutual
theorem Sn.same {K : PySem.W.Frag} {H H' : Hp} (e : Same H H') : ∀ {v : V} {t : Td}, Sn K H v t → Sn K H' v t
  | _, _, .int i => .int i
  | _, _, .lst h a => .lst (e _ _ h) (SnAll.same e a)
  | _, _, .tup h a => .tup (Same_seqT e h) (SnAll.same e a)
theorem SnAll.same {K : PySem.W.Frag} {H H' : Hp} (e : Same H H') : ∀ {vs : List V} {ts : List Td}, SnAll K H vs ts → SnAll K H' vs ts
  | _, _, .nil => .nil
  | _, _, .cons h t => .cons (Sn.same e h) (SnAll.same e t)
end
mutual
theorem Fz.tk {K : PySem.W.Frag} {H H' : Hp} (e : Tk K H H') : ∀ {v : V} {t : Td}, Fz K H v t → Fz K H' v t
  | _, _, .int i => .int i
  | _, _, .tup h a => .tup (e _ _ h) (FzAll.tk e a)
theorem FzAll.tk {K : PySem.W.Frag} {H H' : Hp} (e : Tk K H H') : ∀ {vs : List V} {ts : List Td}, FzAll K H vs ts → FzAll K H' vs ts
  | _, _, .nil => .nil
  | _, _, .cons h t => .cons (Fz.tk e h) (FzAll.tk e t)
end
mutual
theorem Fz.sn {K : PySem.W.Frag} {H : Hp} : ∀ {v : V} {t : Td}, Fz K H v t → Sn K H v t
  | _, _, .int i => .int i
  | _, _, .tup h a => .tup h (FzAll.sn a)
theorem FzAll.sn {K : PySem.W.Frag} {H : Hp} : ∀ {vs : List V} {ts : List Td}, FzAll K H vs ts → SnAll K H vs ts
  | _, _, .nil => .nil
  | _, _, .cons h t => .cons (Fz.sn h) (FzAll.sn t)
end
mutual
theorem Fz.dp {K : PySem.W.Frag} {H : Hp} : ∀ {v : V} {t : Td}, Fz K H v t → Dp K H v t.py
  | _, _, .int i => by simp only [Td.py]; exact .int i
  | _, _, .tup h a => by simp only [Td.py]; exact .tup h (FzAll.dp a)
theorem FzAll.dp {K : PySem.W.Frag} {H : Hp} : ∀ {vs : List V} {ts : List Td}, FzAll K H vs ts → DpAll K H vs (Td.pys ts)
  | _, _, .nil => by simp only [Td.pys]; exact .nil
  | _, _, .cons h t => by simp only [Td.pys]; exact .cons (Fz.dp h) (FzAll.dp t)
end
theorem SnAll.len {K : PySem.W.Frag} {H : Hp} {vs : List V} {ts : List Td} (h : SnAll K H vs ts) : vs.length = ts.length := by
  induction vs generalizing ts with
  | nil => cases h; rfl
  | cons v vs ih => cases h with | cons h t => simp only [List.length_cons, ih t]
theorem FzAll.len {K : PySem.W.Frag} {H : Hp} {vs : List V} {ts : List Td} (h : FzAll K H vs ts) : vs.length = ts.length := h.sn.len
theorem SnAll.get {K : PySem.W.Frag} {H : Hp} {vs : List V} {ts : List Td} (h : SnAll K H vs ts) {i : Nat} {v : V} (e : vs[i]? = some v) : ∃ t, ts[i]? = some t ∧ Sn K H v t := by
  induction vs generalizing ts i with
  | nil => simp at e
  | cons x vs ih =>
    cases h with
    | cons h t =>
      cases i with
      | zero => cases e; exact ⟨_, rfl, h⟩
      | succ i => exact ih t e
theorem FzAll.get {K : PySem.W.Frag} {H : Hp} {vs : List V} {ts : List Td} (h : FzAll K H vs ts) {i : Nat} {v : V} (e : vs[i]? = some v) : ∃ t, ts[i]? = some t ∧ Fz K H v t := by
  induction vs generalizing ts i with
  | nil => simp at e
  | cons x vs ih =>
    cases h with
    | cons h t =>
      cases i with
      | zero => cases e; exact ⟨_, rfl, h⟩
      | succ i => exact ih t e
theorem FzAll.ints {K : PySem.W.Frag} {H : Hp} : ∀ {ns : List Int} {vs : List V}, FzAll K H vs (ns.map Td.int) → vs = ns.map V.int
  | [], _, .nil => rfl
  | n :: ns, _, .cons (.int _) t => by rw [FzAll.ints t]; rfl
theorem SnAll.ints {K : PySem.W.Frag} {H : Hp} : ∀ {ns : List Int} {vs : List V}, SnAll K H vs (ns.map Td.int) → vs = ns.map V.int
  | [], _, .nil => rfl
  | n :: ns, _, .cons (.int _) t => by rw [SnAll.ints t]; rfl
theorem FzAll.of_ints {K : PySem.W.Frag} {H : Hp} : ∀ (ns : List Int), FzAll K H (ns.map V.int) (ns.map Td.int)
  | [] => .nil
  | n :: ns => .cons (.int n) (FzAll.of_ints ns)
theorem SnAll.zero {K : PySem.W.Frag} {H : Hp} : ∀ {vs : List V} {ts : List Td}, SnAll K H vs ts → Td.deps ts ≤ 0 → FzAll K H vs ts
  | _, _, .nil, _ => .nil
  | _, _, .cons (.int i) t, h => .cons (.int i) (SnAll.zero t (by simp only [Td.deps] at h; omega))
  | _, _, .cons (.lst _ _) t, h => by simp only [Td.deps, Td.dep] at h; omega
  | _, _, .cons (.tup _ _) t, h => by simp only [Td.deps, Td.dep] at h; omega
/-- lists of things, item by item -/
def Rs {α : Type} (R : Hp → V → α → Prop) (H : Hp) (vs : List V) (zs : List α) : Prop := vs.length = zs.length ∧ ∀ (i : Nat) (v : V) (z : α), vs[i]? = some v → zs[i]? = some z → R H v z
def Stb {α : Type} (K : PySem.W.Frag) (R : Hp → V → α → Prop) : Prop := ∀ H H' v z, Tk K H H' → R H v z → R H' v z
theorem Rs.tk {α : Type} {K : PySem.W.Frag} {R : Hp → V → α → Prop} (s : Stb K R) {H H' : Hp} {vs : List V} {zs : List α} (h : Rs R H vs zs) (e : Tk K H H') : Rs R H' vs zs := ⟨h.1, fun i v z a b => s _ _ _ _ e (h.2 i v z a b)⟩
theorem Rs.nil {α : Type} {R : Hp → V → α → Prop} {H : Hp} : Rs R H [] [] := ⟨rfl, fun i v z h => by simp at h⟩
theorem Rs.snoc {α : Type} {R : Hp → V → α → Prop} {H : Hp} {vs : List V} {zs : List α} {v : V} {z : α} (h : Rs R H vs zs) (r : R H v z) : Rs R H (vs ++ [v]) (zs ++ [z]) := by
  refine ⟨by rw [List.length_append, List.length_append, h.1]; rfl, fun i u y hu hy => ?_⟩
  have hl := h.1
  by_cases hi : i < vs.length
  · rw [List.getElem?_append_left hi] at hu
    rw [List.getElem?_append_left (by omega)] at hy
    exact h.2 i u y hu hy
  · rw [List.getElem?_append_right (by omega)] at hu
    rw [List.getElem?_append_right (by omega)] at hy
    have e1 : i - vs.length = 0 := by
      rcases Nat.eq_zero_or_pos (i - vs.length) with z | z
      · exact z
      · rw [List.getElem?_eq_none (by simp only [List.length_cons, List.length_nil]; omega)] at hu; cases hu
    have e2 : i - zs.length = 0 := by omega
    rw [e1] at hu
    rw [e2] at hy
    cases hu
    cases hy
    exact r
def RI : Hp → V → Int → Prop := fun _ v z => v = .int z
def RB : Hp → V → Bool → Prop := fun _ v z => v = .bl z
theorem stb_RI {K : PySem.W.Frag} : Stb K RI := fun _ _ _ _ _ h => h
theorem stb_RB {K : PySem.W.Frag} : Stb K RB := fun _ _ _ _ _ h => h
theorem stb_Fz {K : PySem.W.Frag} : Stb K (Fz K) := fun _ _ _ _ e h => h.tk e
theorem Rs.maps {α : Type} {R : Hp → V → α → Prop} {f : α → V} (hf : ∀ H v z, R H v z → v = f z) {H : Hp} : ∀ {vs : List V} {zs : List α}, Rs R H vs zs → vs = zs.map f := fun {vs zs} h => by
  refine List.ext_getElem? fun i => ?_
  rw [List.getElem?_map]
  have hl := h.1
  by_cases hi : i < vs.length
  · have hv := List.getElem?_eq_getElem hi
    have hz : zs[i]? = some zs[i] := List.getElem?_eq_getElem (by omega)
    rw [hv, hz, hf _ _ _ (h.2 i _ _ hv hz)]
    rfl
  · rw [List.getElem?_eq_none (by omega), List.getElem?_eq_none (by omega)]
    rfl
theorem Rs.ints {H : Hp} {vs : List V} {zs : List Int} (h : Rs RI H vs zs) : vs = zs.map V.int := h.maps fun _ _ _ e => e
theorem Rs.bls {H : Hp} {vs : List V} {zs : List Bool} (h : Rs RB H vs zs) : vs = zs.map V.bl := h.maps fun _ _ _ e => e
theorem Rs.fz {K : PySem.W.Frag} {H : Hp} : ∀ {vs : List V} {ts : List Td}, Rs (Fz K) H vs ts → FzAll K H vs ts
  | [], [], _ => .nil
  | [], _ :: _, h => by have := h.1; simp at this
  | _ :: _, [], h => by have := h.1; simp at this
  | v :: vs, t :: ts, h => .cons (h.2 0 v t rfl rfl) (Rs.fz ⟨by have := h.1; simp at this; exact this, fun i u z hu hz => h.2 (i + 1) u z hu hz⟩)
theorem new_same {H : Hp} {p : Addr} (h : H p = none) (o : HO) : Same H (upd H p o) := fun b u q => by rw [upd_ne (ne_of_none q h)]; exact q
theorem ys_at {xs : List V} {i : Nat} {H H' : Hp} {x : V} (y : YAt xs i H x H') : Same H H' := by rw [y.1]; exact fun _ _ h => h
theorem ys_fn {f : Nat → V} {i : Nat} {H H' : Hp} {x : V} (y : YFn f i H x H') : Same H H' := by rw [y.1]; exact fun _ _ h => h
theorem ys_pair {xs ys : Nat → Option V} {i : Nat} {H H' : Hp} {x : V} (y : YPair xs ys i H x H') : Same H H' := by
  obtain ⟨T, _, _, _, h1, h2, _⟩ := y
  rw [h2]
  exact new_same h1 _
theorem walk_zT {K : PySem.W.Frag} {a b : Addr} {xs ys : List V} {n : Nat} (hn : n = min xs.length ys.length) : Walk (RZ.ItzT K a b) n (fun H => SqT K H a xs ∧ SqT K H b ys) (YPair (fun i => xs[i]?) (fun i => ys[i]?)) := by
  subst hn
  refine ⟨fun i _ hi q => ?_, fun _ q => ⟨xs, ys, q.1, q.2, by omega⟩, fun i H v H' _ q y => ?_⟩
  · have h1 : i < xs.length := by omega
    have h2 : i < ys.length := by omega
    exact ⟨xs, ys, xs[i], ys[i], q.1, q.2, by simp [h1], by simp [h2]⟩
  · obtain ⟨T, x, z, h1, h2, h3, h4, h5⟩ := y
    exact ⟨T, x, z, h1, h2, h3, h4 xs q.1, h5 ys q.2⟩
theorem sizes {n : Nat} (h : n ≤ 16000000) : n < sizeLine := Nat.lt_of_le_of_lt h (by rw [sizeLine_eq]; decide)
/-- what stays while the list at D grows -/
def StbD {α : Type} (D : Addr) (R : Hp → V → α → Prop) : Prop := ∀ H H' v z, (∃ l, H D = some (.lst l)) → (∀ b o, b ≠ D → H b = some o → H' b = some o) → R H v z → R H' v z
theorem Stb.at {α : Type} {K : PySem.W.Frag} {R : Hp → V → α → Prop} (s : Stb K R) (D : Addr) : StbD D R := fun _ _ _ _ ⟨_, hl⟩ e r => s _ _ _ _ (tk_lst hl e) r
theorem Rs.tkD {α : Type} {D : Addr} {R : Hp → V → α → Prop} (s : StbD D R) {H H' : Hp} {vs : List V} {zs : List α} (h : Rs R H vs zs) (hD : ∃ l, H D = some (.lst l)) (e : ∀ b o, b ≠ D → H b = some o → H' b = some o) : Rs R H' vs zs := ⟨h.1, fun i v z a b => s _ _ _ _ hD e (h.2 i v z a b)⟩
/-- a list of ints apart from D -/
def RL (D : Addr) : Hp → V → List Int → Prop := fun H v r => ∃ p, v = .ref p ∧ p ≠ D ∧ H p = some (.lst (r.map V.int))
theorem stb_RL {D : Addr} : StbD D (RL D) := fun _ _ _ _ _ e ⟨p, h1, h2, h3⟩ => ⟨p, h1, h2, e _ _ h2 h3⟩
/-- a comprehension: each turn gives one thing, or nothing -/
theorem lc_g {α β : Type} {J : It} {n : Nat} {G : Hp → Prop} {Y : Nat → Hp → V → Hp → Prop} (w : Walk J n G Y) {g : TG} {tt : TT} {te : TE} {vs : List Nat} {σ : L2.St} {H1 : Hp} {D : Addr} {Qd : Hp → Prop}
    (R : Hp → V → α → Prop) (st : StbD D R) (xs : List β) (hn : n = xs.length) (hl : xs.length ≤ 16000000) (hD : H1 D = none) (hG : ∀ H, Same H1 H → G H) (hY : ∀ i H x H', Y i H x H' → Same H H') (f : β → Option α)
    (hs : ∀ i b x H H', xs[i]? = some b → Same H1 H → Same H1 H' → Y i H x H' → (∃ l, H' D = some (.lst l)) → ∀ (A : V → Hp → Prop) (B : Hp → Prop), (∀ y z H4, f b = some z → Same H' H4 → R H4 y z → A y H4) → (f b = none → ∀ H4, Same H' H4 → B H4) →
      g x (wipe σ vs) H' fun σ2 H2 => wipe σ2 vs = wipe σ vs ∧ tt σ2 H2 fun b H3 => if b = true then te σ2 H3 A else B H3)
    (hd : ∀ H l, Same H1 H → H D = some (.lst l) → Rs R H l (xs.filterMap f) → Qd H) :
    ∃ W : Nat → Nat → Hp → Prop, (∃ m, W 0 m (upd H1 D (.lst []))) ∧ ∀ i m H, W i m H →
      (J.stop i H ∧ Qd H) ∨ (J.go i H ∧ ∃ Nx : Hp → Prop, (∀ H', Nx H' → ∃ m', m' < m ∧ W (i + 1) m' H') ∧ ∀ x H', J.yld i H x H' → g x (wipe σ vs) H' fun σ2 H2 => wipe σ2 vs = wipe σ vs ∧ tt σ2 H2 fun b H3 =>
        if b = true then te σ2 H3 fun y H4 => ∃ acc, H4 D = some (.lst acc) ∧ acc.length < sizeLine ∧ Nx (upd H4 D (.lst (acc ++ [y]))) else Nx H3) := by
  subst hn
  refine lc_it w (fun i H => Same H1 H ∧ ∃ l, H D = some (.lst l) ∧ Rs R H l ((xs.take i).filterMap f) ∧ l.length ≤ i) ⟨new_same hD _, [], upd_same, by rw [List.take_zero]; exact Rs.nil, Nat.le_refl _⟩ (fun i H _ p => hG H p.1) ?_ ?_
  · rintro i x H H' hi ⟨sm, l, hl1, rs, hlen⟩ y
    have hb : xs[i]? = some xs[i] := List.getElem?_eq_getElem hi
    have sy := hY i H x H' y
    have et : xs.take (i + 1) = xs.take i ++ [xs[i]] := by rw [List.take_add_one, hb]; rfl
    refine hs i _ x H H' hb sm (sm.trans sy) y ⟨l, sy _ _ hl1⟩ _ _ (fun v z H4 hz s4 r => ?_) (fun hz H4 s4 => ?_)
    · have h4 : H4 D = some (.lst l) := s4 _ _ (sy _ _ hl1)
      refine ⟨l, h4, sizes (by omega), fun b o e => ?_, l ++ [v], upd_same, ?_, by rw [List.length_append]; simp only [List.length_cons, List.length_nil]; omega⟩
      · rw [upd_ne (ne_of_none e hD)]
        exact s4 _ _ (sy _ _ (sm _ _ e))
      · rw [et, List.filterMap_append]
        have e1 : [xs[i]].filterMap f = [z] := by rw [List.filterMap_cons, hz]; rfl
        rw [e1]
        refine Rs.snoc (rs.tkD st ⟨l, hl1⟩ fun b o hb e => ?_) (st _ _ _ _ ⟨l, h4⟩ (fun b o hb e => ?_) r)
        · rw [upd_ne hb]
          exact s4 _ _ (sy _ _ e)
        · rw [upd_ne hb]
          exact e
    · refine ⟨sm.trans (sy.trans s4), l, s4 _ _ (sy _ _ hl1), ?_, by omega⟩
      rw [et, List.filterMap_append]
      have e1 : [xs[i]].filterMap f = [] := by rw [List.filterMap_cons, hz]; rfl
      rw [e1, List.append_nil]
      exact rs.tkD st ⟨l, hl1⟩ fun b o _ e => s4 _ _ (sy _ _ e)
  · rintro H ⟨sm, l, hl1, rs, _⟩
    rw [List.take_length] at rs
    exact hd H l sm hl1 rs
/-- the same for what stays while tuples stay -/
theorem lc_f {α β : Type} {K : PySem.W.Frag} {J : It} {n : Nat} {G : Hp → Prop} {Y : Nat → Hp → V → Hp → Prop} (w : Walk J n G Y) {g : TG} {tt : TT} {te : TE} {vs : List Nat} {σ : L2.St} {H1 : Hp} {D : Addr} {Qd : Hp → Prop}
    (R : Hp → V → α → Prop) (st : Stb K R) (xs : List β) (hn : n = xs.length) (hl : xs.length ≤ 16000000) (hD : H1 D = none) (hG : ∀ H, Same H1 H → G H) (hY : ∀ i H x H', Y i H x H' → Same H H') (f : β → Option α)
    (hs : ∀ i b x H H', xs[i]? = some b → Same H1 H → Same H1 H' → Y i H x H' → ∀ (A : V → Hp → Prop) (B : Hp → Prop), (∀ y z H4, f b = some z → Same H' H4 → R H4 y z → A y H4) → (f b = none → ∀ H4, Same H' H4 → B H4) →
      g x (wipe σ vs) H' fun σ2 H2 => wipe σ2 vs = wipe σ vs ∧ tt σ2 H2 fun b H3 => if b = true then te σ2 H3 A else B H3)
    (hd : ∀ H l, Same H1 H → H D = some (.lst l) → Rs R H l (xs.filterMap f) → Qd H) :
    ∃ W : Nat → Nat → Hp → Prop, (∃ m, W 0 m (upd H1 D (.lst []))) ∧ ∀ i m H, W i m H →
      (J.stop i H ∧ Qd H) ∨ (J.go i H ∧ ∃ Nx : Hp → Prop, (∀ H', Nx H' → ∃ m', m' < m ∧ W (i + 1) m' H') ∧ ∀ x H', J.yld i H x H' → g x (wipe σ vs) H' fun σ2 H2 => wipe σ2 vs = wipe σ vs ∧ tt σ2 H2 fun b H3 =>
        if b = true then te σ2 H3 fun y H4 => ∃ acc, H4 D = some (.lst acc) ∧ acc.length < sizeLine ∧ Nx (upd H4 D (.lst (acc ++ [y]))) else Nx H3) := lc_g w R (st.at D) xs hn hl hD hG hY f (fun i b x H H' h1 h2 h3 h4 _ => hs i b x H H' h1 h2 h3 h4) hd
/-- each turn gives one thing -/
theorem lc_m {α β : Type} {K : PySem.W.Frag} {J : It} {n : Nat} {G : Hp → Prop} {Y : Nat → Hp → V → Hp → Prop} (w : Walk J n G Y) {g : TG} {tt : TT} {te : TE} {vs : List Nat} {σ : L2.St} {H1 : Hp} {D : Addr} {Qd : Hp → Prop}
    (R : Hp → V → α → Prop) (st : Stb K R) (xs : List β) (hn : n = xs.length) (hl : xs.length ≤ 16000000) (hD : H1 D = none) (hG : ∀ H, Same H1 H → G H) (hY : ∀ i H x H', Y i H x H' → Same H H') (f : β → α)
    (hs : ∀ i b x H H', xs[i]? = some b → Same H1 H → Same H1 H' → Y i H x H' → ∀ (A : V → Hp → Prop) (B : Hp → Prop), (∀ y H4, Same H' H4 → R H4 y (f b) → A y H4) →
      g x (wipe σ vs) H' fun σ2 H2 => wipe σ2 vs = wipe σ vs ∧ tt σ2 H2 fun b H3 => if b = true then te σ2 H3 A else B H3)
    (hd : ∀ H l, Same H1 H → H D = some (.lst l) → Rs R H l (xs.map f) → Qd H) :
    ∃ W : Nat → Nat → Hp → Prop, (∃ m, W 0 m (upd H1 D (.lst []))) ∧ ∀ i m H, W i m H →
      (J.stop i H ∧ Qd H) ∨ (J.go i H ∧ ∃ Nx : Hp → Prop, (∀ H', Nx H' → ∃ m', m' < m ∧ W (i + 1) m' H') ∧ ∀ x H', J.yld i H x H' → g x (wipe σ vs) H' fun σ2 H2 => wipe σ2 vs = wipe σ vs ∧ tt σ2 H2 fun b H3 =>
        if b = true then te σ2 H3 fun y H4 => ∃ acc, H4 D = some (.lst acc) ∧ acc.length < sizeLine ∧ Nx (upd H4 D (.lst (acc ++ [y]))) else Nx H3) := by
  refine lc_f w R st xs hn hl hD hG hY (fun b => some (f b)) (fun i b x H H' hb s1 s2 y A B ha _ => hs i b x H H' hb s1 s2 y A B fun v H4 s4 r => ha v _ H4 rfl s4 r) fun H l s1 hl1 rs => hd H l s1 hl1 ?_
  rw [show (fun b => some (f b)) = some ∘ f from rfl, List.filterMap_eq_map] at rs
  exact rs
theorem lc_gm {α β : Type} {J : It} {n : Nat} {G : Hp → Prop} {Y : Nat → Hp → V → Hp → Prop} (w : Walk J n G Y) {g : TG} {tt : TT} {te : TE} {vs : List Nat} {σ : L2.St} {H1 : Hp} {D : Addr} {Qd : Hp → Prop}
    (R : Hp → V → α → Prop) (st : StbD D R) (xs : List β) (hn : n = xs.length) (hl : xs.length ≤ 16000000) (hD : H1 D = none) (hG : ∀ H, Same H1 H → G H) (hY : ∀ i H x H', Y i H x H' → Same H H') (f : β → α)
    (hs : ∀ i b x H H', xs[i]? = some b → Same H1 H → Same H1 H' → Y i H x H' → (∃ l, H' D = some (.lst l)) → ∀ (A : V → Hp → Prop) (B : Hp → Prop), (∀ y H4, Same H' H4 → R H4 y (f b) → A y H4) →
      g x (wipe σ vs) H' fun σ2 H2 => wipe σ2 vs = wipe σ vs ∧ tt σ2 H2 fun b H3 => if b = true then te σ2 H3 A else B H3)
    (hd : ∀ H l, Same H1 H → H D = some (.lst l) → Rs R H l (xs.map f) → Qd H) :
    ∃ W : Nat → Nat → Hp → Prop, (∃ m, W 0 m (upd H1 D (.lst []))) ∧ ∀ i m H, W i m H →
      (J.stop i H ∧ Qd H) ∨ (J.go i H ∧ ∃ Nx : Hp → Prop, (∀ H', Nx H' → ∃ m', m' < m ∧ W (i + 1) m' H') ∧ ∀ x H', J.yld i H x H' → g x (wipe σ vs) H' fun σ2 H2 => wipe σ2 vs = wipe σ vs ∧ tt σ2 H2 fun b H3 =>
        if b = true then te σ2 H3 fun y H4 => ∃ acc, H4 D = some (.lst acc) ∧ acc.length < sizeLine ∧ Nx (upd H4 D (.lst (acc ++ [y]))) else Nx H3) := by
  refine lc_g w R st xs hn hl hD hG hY (fun b => some (f b)) (fun i b x H H' hb s1 s2 y hd2 A B ha _ => hs i b x H H' hb s1 s2 y hd2 A B fun v H4 s4 r => ha v _ H4 rfl s4 r) fun H l s1 hl1 rs => hd H l s1 hl1 ?_
  rw [show (fun b => some (f b)) = some ∘ f from rfl, List.filterMap_eq_map] at rs
  exact rs
/-- a comprehension in a comprehension -/
def rl (scope sc : Scope) : Scope := { scope with names := scope.names.map fun (n, k) => if (k == .free && sc.kind == .function && sc.names.lookup n == some .cell) then (n, .cell) else (n, k) }
theorem blk_nest {N : List Str} {scope inner sc0 : Scope} {own : List (Str × Nat)} {cl : List (Str × Addr)} {C : Addr} {env : Env} (e : env.scope = sc0) (h : blkC N (rl scope sc0) inner own = true) : BlkOk N (compEnvC scope cl C env).scope inner own := by
  subst e
  exact blkOk_by h
theorem pi_tupK {X : Cx} {K : PySem.W.Frag} {tg e : Expr} {te : TE} (hK : X.K = K) (h : PE X e te) : PI X tg e (iTup K te) := by
  subst hK
  exact pi_tup h
theorem sl_tupAK {X : Cx} {K : PySem.W.Frag} (hK : X.K = K) : SlR X (rSlA K) := by
  subst hK
  exact sl_tupA
theorem pe_fldK {X : Cx} {K : PySem.W.Frag} {e : Expr} {ta : TE} {f : Str} {p : Pos} (hK : X.K = K) (h : PE X e ta) (hb : attributeBase e f X.env (eval e X.env) = eval e X.env) : PE X (.Attribute e f p) (tFld K ta f) := by
  subst hK
  exact pe_fld h hb
theorem pi_listK {X : Cx} {K : PySem.W.Frag} {tg e : Expr} {te : TE} (hK : X.K = K) (h : PE X e te) : PI X tg e (iList K te) := by
  subst hK
  exact pi_list h
end WK
/-! A rule for «match e: case 'a': .. case _: ..» over a text. -/
namespace L2
open PySem PySem.Spec PyProof.Rows
/-- the cases of a match, of a value -/
structure PM (X : Cx) (cs : List MatchCase) (t : V → TS) : Prop where
  run : ∀ (pins : List (Addr × Obj)) (s : Shared) (σ : St) (H : Hp) (D : Ends) (v : V) (u : Value) (first : Bool), Inv X pins σ H s → RelV v u → t v D σ H → wpAny (model X.prog X.w) X.A (matchCases cs X.env u first) (SP X pins D) X.xe s
section
variable {X : Cx}
def tMNil : V → TS := fun _ D σ H => D.nx σ H
def tMStr (x : Str) (tb : TS) (tr : V → TS) : V → TS := fun v D σ H => ∃ y, v = .str y ∧ if decide (y = x) = true then tb D σ H else tr (.str y) D σ H
def tMAny (tb : TS) : V → TS := fun _ D σ H => tb D σ H
theorem pm_nil : PM X [] tMNil := ⟨fun pins s σ H D v u first I r h => wpAny_matchCases_nil ⟨σ, H, I, h⟩⟩
theorem pm_str {x : Str} {j p1 p2} {body : List Stmt} {rest : List MatchCase} {tb : TS} {tr : V → TS} (hb : PSs X body tb) (hr : PM X rest tr) :
    PM X (⟨.MatchValue (.Constant (.str x) j p1) p2, none, body⟩ :: rest) (tMStr x tb tr) := by
  refine ⟨fun pins s σ H D v u first I r h => ?_⟩
  obtain ⟨y, rfl, q⟩ := h
  obtain ⟨t, rfl⟩ := r
  refine wpAny_matchCases_cons (wpAny_matchPattern_Value (Calls.Constant_str ?_))
  refine eq_str ?_
  refine wpAny_truthy_bool ?_
  by_cases e : y = x
  · have e1 : (y == x) = true := by rw [e]; exact beq_self_eq_true x
    rw [if_pos (decide_eq_true e)] at q
    first
      | rw [e1]
      | (rw [decide_eq_true e])
    show wpAny _ X.A (assignInOrder [] []) _ _ _
    exact wpAny_assignInOrder_none (hb.run pins _ σ H D (I.tok _) q)
  · have e1 : (y == x) = false := beq_eq_false_iff_ne.mpr e
    rw [if_neg (by rw [decide_eq_false e]; exact Bool.false_ne_true)] at q
    first
      | rw [e1]
      | (rw [decide_eq_false e])
    exact hr.run pins _ σ H D (.str y) _ false (I.tok _) ⟨t, rfl⟩ q
theorem pm_any {p2} {body : List Stmt} {tb : TS} (hb : PSs X body tb) : PM X [⟨.MatchAs none none p2, none, body⟩] (tMAny tb) := by
  refine ⟨fun pins s σ H D v u first I r h => ?_⟩
  refine wpAny_matchCases_cons (wpAny_matchPattern_Capture ?_)
  show wpAny _ X.A (assignInOrder [] []) _ _ _
  exact wpAny_assignInOrder_none (hb.run pins _ σ H D I h)
def tMatch (te : TE) (t : V → TS) : TS := fun D σ H => te σ H fun v H1 => t v D σ H1
theorem ps_match {e : Expr} {cs : List MatchCase} {pos : Pos} {te : TE} {t : V → TS} (he : PE X e te) (hc : PM X cs t) : PS X (.Match e cs pos) (tMatch te t) := by
  refine ⟨fun pins s σ H D I h => ?_⟩
  refine wpAny_Match (thn (he.run pins s σ H _ I h) fun u s1 ⟨v, H1, I1, r1, q1⟩ => ?_)
  exact hc.run pins s1 σ H1 D v u true I1 r1 q1
/-! the rules that speak of the written part, with K said outright: for a comprehension's block, where the context is bound -/
section
variable {X : Cx}
theorem ix_tupK {K : PySem.W.Frag} (h : X.K = K) : IxR X (rIxT K) := by subst h; exact ix_tup
theorem ix_listK {K : PySem.W.Frag} (h : X.K = K) : IxR X (rIxL K) := by subst h; exact ix_list
theorem sl_listK {K : PySem.W.Frag} (h : X.K = K) : SlR X (rSlL K) := by subst h; exact sl_list
theorem sl_tupK {K : PySem.W.Frag} (h : X.K = K) : SlR X (rSlT K) := by subst h; exact sl_tup
theorem op_in_seqK {K : PySem.W.Frag} (h : X.K = K) : OpR X (compareOp .In) (rIn K false) := by subst h; exact op_in_seq
theorem op_notIn_seqK {K : PySem.W.Frag} (h : X.K = K) : OpR X (compareOp .NotIn) (rIn K true) := by subst h; exact op_notIn_seq
theorem call_len_seqK {K : PySem.W.Frag} (h : X.K = K) : CallR X (.builtin "len") (fun xs H Q => ∃ p ys, xs = [.ref p] ∧ (SqL K H p ys ∨ SqT K H p ys) ∧ Q (.int ys.length) H) := by subst h; exact call_len_seq
theorem call_isiK1 {K : PySem.W.Frag} (h : X.K = K) : CallR X (.builtin "isinstance") (rIsi K) := by subst h; exact call_isi
theorem cr_allK {K : PySem.W.Frag} (h : X.K = K) (hc : X.calm = true) : CallR X (.builtin "all") (rAll K) := by subst h; exact cr_all hc
theorem cr_anyK {K : PySem.W.Frag} (h : X.K = K) (hc : X.calm = true) : CallR X (.builtin "any") (rAny K) := by subst h; exact cr_any hc
theorem cr_sumK {K : PySem.W.Frag} (h : X.K = K) (hc : X.calm = true) : CallR X (.builtin "sum") (rSum K) := by subst h; exact cr_sum hc
end
end
end L2
/-! Rules for «one or the other», max of three ints, the written part's letter said outright. -/
namespace L2
open PySem PySem.Spec PyProof.Rows
section
variable {X : Cx}
theorem pi_or {tg iter : Expr} {w1 w2 : TI} (h1 : PI X tg iter w1) (h2 : PI X tg iter w2) : PI X tg iter (fun σ H R => w1 σ H R ∨ w2 σ H R) :=
  ⟨fun pins s σ H R I h => h.elim (h1.run pins s σ H R I) (h2.run pins s σ H R I)⟩
theorem pg_or {tg : Expr} {g1 g2 : TG} (h1 : PG X tg g1) (h2 : PG X tg g2) : PG X tg (fun v σ H Q => g1 v σ H Q ∨ g2 v σ H Q) :=
  ⟨fun pins s σ H v u Q I r h => h.elim (h1.run pins s σ H v u Q I r) (h2.run pins s σ H v u Q I r)⟩
theorem ix_or : IxR X (fun x y H Q => rIxL X.K x y H Q ∨ rIxT X.K x y H Q) := ix_list.or ix_tup
theorem ix_orK {K : PySem.W.Frag} (h : X.K = K) : IxR X (fun x y H Q => rIxL K x y H Q ∨ rIxT K x y H Q) := by subst h; exact ix_or
theorem call_max3I (hc : X.calm = true) : CallR X (.builtin "max") (fun xs H Q => ∃ i j k : Int, xs = [.int i, .int j, .int k] ∧ Q (.int (if k > (if j > i then j else i) then k else (if j > i then j else i))) H) := by
  intro pins s σ H xs us Q I r h
  obtain ⟨i, j, k, rfl, q⟩ := h
  have e : nuMax3 (.int i) (.int j) (.int k) = some (.int (if k > (if j > i then j else i) then k else (if j > i then j else i))) := by
    have two : ∀ a b : Int, nuMax2 (.int a) (.int b) = some (.int (if b > a then b else a)) := fun a b => by
      show some (if decide (a < b) = true then V.int b else V.int a) = _
      by_cases h : b > a
      · rw [if_pos (decide_eq_true (show a < b from h)), if_pos h]
      · rw [if_neg (by rw [decide_eq_false (show ¬ a < b from h)]; exact Bool.false_ne_true), if_neg h]
    unfold nuMax3
    rw [two i j]
    exact two _ k
  exact call_max3Nu hc pins s σ H _ us Q I r ⟨_, _, _, _, rfl, e, q⟩
theorem call_list_ofK {K : PySem.W.Frag} (h : X.K = K) : CallR X (.type "list") (fun xs H Q => ∃ p ys, xs = [.ref p] ∧ (SqL K H p ys ∨ SqT K H p ys) ∧ ∀ l, H l = none → Q (.ref l) (upd H l (.lst ys))) := by subst h; exact call_list_of
theorem call_tuple_ofK {K : PySem.W.Frag} (h : X.K = K) : CallR X (.type "tuple") (fun xs H Q => ∃ p ys, xs = [.ref p] ∧ ((SqL K H p ys ∧ ∀ l, H l = none → Q (.ref l) (upd H l (.tup ys))) ∨ (SqT K H p ys ∧ Q (.ref p) H))) := by subst h; exact call_tuple_of
theorem pg_tupK {K : PySem.W.Frag} {es : List Expr} {k : Nat} {t : TGs} {n : Nat} {pos : Pos} (hK : X.K = K) (hc : X.calm = true) (h : PGs X es t)
    (hn : (assignEach es X.env).length = n := by rfl) (hst : (assignEach es X.env).findIdx? (·.1) = none := by rfl) : PG X (.Tuple es k pos) (gTup K n t) := by subst hK; exact pg_tup hc h hn hst
theorem pg_lstK {K : PySem.W.Frag} {es : List Expr} {k : Nat} {t : TGs} {n : Nat} {pos : Pos} (hK : X.K = K) (hc : X.calm = true) (h : PGs X es t)
    (hn : (assignEach es X.env).length = n := by rfl) (hst : (assignEach es X.env).findIdx? (·.1) = none := by rfl) : PG X (.Tuple es k pos) (gLst K n t) := by subst hK; exact pg_lst hc h hn hst
end
section
variable {X : Cx}
/-- y = {..}, a dict comprehension stored in its own statement -/
theorem ps_setDc {i : Nat} {y : Str} {py : Pos} {kx vx tg iter : Expr} {ifs : List Expr} {scope : Scope} {own : List (Str × Nat)} {pos spos : Pos} {wi : TI} {g : TG} {tt : TT} {tk tv : TE} (hc : X.calm = true) (hN : X.N.Nodup) (hy : X.N[i]? = some y) (hyl : X.env.scope.names.lookup y = some .local)
    (hsw : swapsWith (.DictComp kx vx [⟨tg, iter, ifs, 0⟩] scope pos) (some (.Name y py)) spos.line X.env = pure true) (hi : PI X tg iter wi) (ok : BlkOk X.N X.env.scope scope own)
    (hg : ∀ (s : Shared) (H : Hp) (C : Addr) (cl : List (Str × Addr)) (fp : List Addr), PG (X.blk s H scope (compEnvC scope cl C X.env) fp) tg g) (ht : ∀ (s : Shared) (H : Hp) (C : Addr) (cl : List (Str × Addr)) (fp : List Addr), PTs (X.blk s H scope (compEnvC scope cl C X.env) fp) ifs tt)
    (hk : ∀ (s : Shared) (H : Hp) (C : Addr) (cl : List (Str × Addr)) (fp : List Addr), PE (X.blk s H scope (compEnvC scope cl C X.env) fp) kx tk)
    (he : ∀ (s : Shared) (H : Hp) (C : Addr) (cl : List (Str × Addr)) (fp : List Addr), PE (X.blk s H scope (compEnvC scope cl C X.env) fp) vx tv) (hs : ∀ x, foldedSetIterable iter X.env x = pure x := by intro _; rfl) :
    PS X (.Assign [.Name y py] (.DictComp kx vx [⟨tg, iter, ifs, 0⟩] scope pos) spos) (tAsg (tDc wi g tt tk tv (own.map (·.2))) (gName i)) := by
  refine ⟨fun pins s σ H D I h => ?_⟩
  rw [exec_Assign_Name_used _ _ _ _ hsw]
  refine wpAny_bind (wpAny_standAt (wpAny_bind ?_))
  show wpAny _ X.A (do let _ ← comprehension (.DictComp kx vx [⟨tg, iter, ifs, 0⟩] scope pos) scope X.env (firstIterPos [⟨tg, iter, ifs, 0⟩] pos) newDict false (eval iter X.env) (some (assign (.Name y py) X.env))) _ _ s
  have h : tDc wi g tt tk tv (own.map (·.2)) σ H (fun x H1 => gName i x σ H1 D.nx) := h
  refine wpAny_bind (thn (dc_core (Qf := fun _ s' => SP X pins D .next s') hc hN I hi ok hg ht hk he hs h fun L C s' m H' I' q hn f => ?_) fun _ s' hq => wpAny_pure (wpAny_pure hq))
  show wpAny _ _ (assign (.Name y py) X.env (.ref L)) _ _ _
  refine wpAny_assign_Name (store_ok2 (v := V.ref L) I' hN hy (.inl hyl) rfl (fun s2 I2 hex => ?_) (.inr hyl))
  obtain ⟨a, sb, ha⟩ := hex
  obtain ⟨f0, f1, f2, f3, f4, f5⟩ := f
  have haC : C ≠ a := ha.elim (fun z => by rw [z]; exact f1) fun z e => f4 y a z e.symm
  exact ⟨m, hn.sameBut sb haC, fun h3 sb3 => ⟨_, H', I2.turned (t' := s2.toks) (fun b o hb e => (sb3.2 b hb).trans e) f0 f1 f3 f4 f5, q⟩⟩
theorem sw_trueD {kx vx : Expr} {gs : List Comprehension} {scope : Scope} {pos py : Pos} {y : Str} {l : Nat} {env : Env} (hk : env.scope.kind = .function) (hy : env.scope.names.lookup y = some .local) (hl : (py.line == pos.line) = true)
    (ha : (scope.names.any fun (n, k) => n == y && (k == .local || k == .cell)) = false) : swapsWith (.DictComp kx vx gs scope pos) (some (.Name y py)) l env = pure true := by
  have ky : env.kindOf y = some .local := hy
  have hb : env.blockKind = .function := by
    unfold Env.blockKind
    rw [hk]
    rfl
  unfold swapsWith
  simp only [hb, ky, ha, Expr.pos, hl]
  rfl
end
/-- a dict comprehension over a list that stays -/
theorem dc_list {K : PySem.W.Frag} {a : Addr} {xs : List V} {g : TG} {tt : TT} {tk tv : TE} {vs : List Nat} {σ : St} {H1 : Hp} {D : Addr} {Qd : Hp → Prop} (Pv : Nat → Hp → Prop) (h0 : Pv 0 (upd H1 D (.dK []))) (hl : ∀ i H, i ≤ xs.length → Pv i H → SqL K H a xs)
    (hs : ∀ i x H, xs[i]? = some x → Pv i H → g x (wipe σ vs) H fun σ2 H2 => wipe σ2 vs = wipe σ vs ∧ tt σ2 H2 fun b H3 =>
      if b = true then tk σ2 H3 fun y H4 => tv σ2 H4 fun z H5 => ∃ kvs k, y = kV k ∧ H5 D = some (.dK kvs) ∧ kvs.length < sizeLine ∧ Pv (i + 1) (upd H5 D (.dK (putK kvs k z))) else Pv (i + 1) H3) (hd : ∀ H, Pv xs.length H → Qd H) :
    ∃ W : Nat → Nat → Hp → Prop, (∃ m, W 0 m (upd H1 D (.dK []))) ∧ ∀ i m H, W i m H →
      ((Itl K a).stop i H ∧ Qd H) ∨ ((Itl K a).go i H ∧ ∃ Nx : Hp → Prop, (∀ H', Nx H' → ∃ m', m' < m ∧ W (i + 1) m' H') ∧ ∀ x H', (Itl K a).yld i H x H' → g x (wipe σ vs) H' fun σ2 H2 => wipe σ2 vs = wipe σ vs ∧ tt σ2 H2 fun b H3 =>
        if b = true then tk σ2 H3 fun y H4 => tv σ2 H4 fun z H5 => ∃ kvs k, y = kV k ∧ H5 D = some (.dK kvs) ∧ kvs.length < sizeLine ∧ Nx (upd H5 D (.dK (putK kvs k z))) else Nx H3) := by
  refine ⟨fun i m H => m = xs.length - i ∧ i ≤ xs.length ∧ Pv i H, ⟨xs.length, by simp, Nat.zero_le _, h0⟩, ?_⟩
  rintro i m H ⟨rfl, hi, p⟩
  have q := hl i H hi p
  rcases Nat.lt_or_ge i xs.length with hlt | hge
  · refine .inr ⟨⟨xs, xs[i], q, by simp [hlt]⟩, Pv (i + 1), fun H' p' => ⟨xs.length - (i + 1), by omega, rfl, hlt, p'⟩, ?_⟩
    rintro x H' ⟨rfl, y⟩
    exact hs i x _ (y xs q) p
  · obtain rfl : i = xs.length := Nat.le_antisymm hi hge
    exact .inl ⟨⟨xs, q, Nat.le_refl _⟩, hd H p⟩
/-- a dict comprehension over the list or the tuple in slot i, which stays -/
theorem tDc_or {K : PySem.W.Frag} {a : Addr} {xs : List V} {i : Nat} {g : TG} {tt : TT} {tk tv : TE} {vs : List Nat} {σ : St} {H : Hp} {Q : VK} (hi : σ[i]? = some (some (V.ref a))) (hx : H a = some (.lst xs) ∨ H a = some (.tup xs)) (Pv : Addr → Nat → Hp → Prop)
    (h0 : ∀ D, H D = none → Pv D 0 (upd H D (.dK []))) (hl : ∀ D, H D = none → ∀ j H', Pv D j H' → ∀ u, H a = some u → H' a = some u)
    (hs : ∀ D, H D = none → ∀ j x H', xs[j]? = some x → Pv D j H' → g x (wipe σ vs) H' fun σ2 H2 => wipe σ2 vs = wipe σ vs ∧ tt σ2 H2 fun b H3 =>
      if b = true then tk σ2 H3 fun y H4 => tv σ2 H4 fun z H5 => ∃ kvs k, y = kV k ∧ H5 D = some (.dK kvs) ∧ kvs.length < sizeLine ∧ Pv D (j + 1) (upd H5 D (.dK (putK kvs k z))) else Pv D (j + 1) H3)
    (hd : ∀ D, H D = none → ∀ H', Pv D xs.length H' → Q (.ref D) H') : tDc (fun σ H R => iList K (tVar i) σ H R ∨ iTup K (tVar i) σ H R) g tt tk tv vs σ H Q := by
  rcases hx with hx | hx
  · exact .inl ⟨_, hi, a, rfl, ⟨_, SqL.of hx⟩, fun D hD => dc_list (K := K) (a := a) (xs := xs) (Pv D) (h0 D hD) (fun j H' _ p => SqL.of (hl D hD j H' p _ hx)) (hs D hD) (hd D hD)⟩
  · exact .inr ⟨_, hi, a, rfl, ⟨_, SqT.of hx⟩, fun D hD => dc_tup (K := K) (a := a) (xs := xs) (Pv D) (h0 D hD) (fun j H' _ p => SqT.of (hl D hD j H' p _ hx)) (hs D hD) (hd D hD)⟩
/-- a loop over the list or the tuple in slot i, which stays -/
theorem tFor_or {K : PySem.W.Frag} {a : Addr} {xs : List V} {i : Nat} {g : TG} {tb : TS} {D : Ends} {σ : St} {H : Hp} (hi : σ[i]? = some (some (V.ref a))) (hx : H a = some (.lst xs) ∨ H a = some (.tup xs)) (Pv : Nat → St → Hp → Prop)
    (h0 : Pv 0 σ H) (hl : ∀ j σ' H', Pv j σ' H' → ∀ u, H a = some u → H' a = some u)
    (hs : ∀ j x σ' H', xs[j]? = some x → Pv j σ' H' → g x σ' H' fun σ2 H2 => tb { D with nx := Pv (j + 1), ct := Pv (j + 1), bk := D.nx } σ2 H2)
    (hd : ∀ σ' H', Pv xs.length σ' H' → D.nx σ' H') : tFor (fun σ H R => iList K (tVar i) σ H R ∨ iTup K (tVar i) σ H R) g tb D σ H := by
  rcases hx with hx | hx
  · exact .inl ⟨_, hi, a, rfl, ⟨_, SqL.of hx⟩, for_list (K := K) (a := a) (xs := xs) Pv h0 (fun j σ' H' _ p => SqL.of (hl j σ' H' p _ hx)) hs hd⟩
  · exact .inr ⟨_, hi, a, rfl, ⟨_, SqT.of hx⟩, for_tup (K := K) (a := a) (xs := xs) Pv h0 (fun j σ' H' _ p => SqT.of (hl j σ' H' p _ hx)) hs hd⟩
/-- a comprehension over the list or the tuple in slot i, which stays -/
theorem tLc_or {K : PySem.W.Frag} {a : Addr} {xs : List V} {i : Nat} {g : TG} {tt : TT} {te : TE} {vs : List Nat} {σ : St} {H : Hp} {Q : VK} (hi : σ[i]? = some (some (V.ref a))) (hx : H a = some (.lst xs) ∨ H a = some (.tup xs)) (Pv : Addr → Nat → Hp → Prop)
    (h0 : ∀ D, H D = none → Pv D 0 (upd H D (.lst []))) (hl : ∀ D, H D = none → ∀ j H', Pv D j H' → ∀ u, H a = some u → H' a = some u)
    (hs : ∀ D, H D = none → ∀ j x H', xs[j]? = some x → Pv D j H' → g x (wipe σ vs) H' fun σ2 H2 => wipe σ2 vs = wipe σ vs ∧ tt σ2 H2 fun b H3 =>
      if b = true then te σ2 H3 fun y H4 => ∃ acc, H4 D = some (.lst acc) ∧ acc.length < sizeLine ∧ Pv D (j + 1) (upd H4 D (.lst (acc ++ [y]))) else Pv D (j + 1) H3)
    (hd : ∀ D, H D = none → ∀ H', Pv D xs.length H' → Q (.ref D) H') : tLc (fun σ H R => iList K (tVar i) σ H R ∨ iTup K (tVar i) σ H R) g tt te vs σ H Q := by
  rcases hx with hx | hx
  · exact .inl ⟨_, hi, a, rfl, ⟨_, SqL.of hx⟩, fun D hD => lc_list (K := K) (a := a) (xs := xs) (Pv D) (h0 D hD) (fun j H' _ p => SqL.of (hl D hD j H' p _ hx)) (hs D hD) (hd D hD)⟩
  · exact .inr ⟨_, hi, a, rfl, ⟨_, SqT.of hx⟩, fun D hD => lc_tup (K := K) (a := a) (xs := xs) (Pv D) (h0 D hD) (fun j H' _ p => SqT.of (hl D hD j H' p _ hx)) (hs D hD) (hd D hD)⟩
end L2
/-! Own errors: made, raised, caught, asked of; defs that raise; defs that are called in a suite. All over the errors whose context is None. -/
namespace EX
open PySem PySem.Spec PyProof.Rows L2
/-- a def that may raise, by its body -/
theorem okR {P : Program} {w : World} {K : PySem.W.Frag} {mg : Str → Option Value} {base : Heap} {x qual : Str} {st : Stmt} {f : Addr} {fd : FuncData} {N ps : List Str} {k : Nat} {sp : Sp} (F : Fun K x qual st f fd) (S : FnScope N ps (defScope st))
    (len : ∀ vs H Q E, sp vs H Q E → vs.length = ps.length)
    (body : ∀ (cdv : Value) (A : Around) (outer : List Env) (s : Shared) (H : Hp) (vs : List V) (Q : VK) (E : XK), Room k (A.deeper (envOfC qual (defScope st) s.heap.objs.size f cdv)) → sp vs H Q E →
      ∃ t, PSs (cxOf (L2N.CX P w) P w K mg base N qual (defScope st) f cdv A outer s H E) (defBody st) t ∧ t { nx := fun _ H' => Q .non H', rt := Q } (start N vs) H) :
    FnOk P w K mg base (L2N.CX P w) (k + 1) f fd ps sp := by
  obtain ⟨oc, od, kV, doc, pm, an, cdv, ct, osl, rfl, lk, hcd⟩ := F.ex
  exact fn_of lk hcd S len fun A outer s H vs Q E hr hsp => body cdv A outer s H vs Q E hr hsp
/-- a def that does not raise, called while an error is handled, by its body -/
theorem okH {P : Program} {w : World} {K : PySem.W.Frag} {mg : Str → Option Value} {base : Heap} {x qual : Str} {st : Stmt} {f : Addr} {fd : FuncData} {N ps : List Str} {k : Nat} {sp : Sp} (F : Fun K x qual st f fd) (S : FnScope N ps (defScope st))
    (len : ∀ vs H Q E, sp vs H Q E → vs.length = ps.length)
    (body : ∀ (cdv : Value) (A : Around) (outer : List Env) (s : Shared) (H : Hp) (vs : List V) (Q : VK) (E : XK) (p : Addr × Obj), L2H.RoomH k (A.deeper (envOfC qual (defScope st) s.heap.objs.size f cdv)) → L2H.Hot1 A p → sp vs H Q E →
      ∃ t, PSs (L2H.cxH CX0 P w K mg base N qual (defScope st) f cdv A outer s H E p).nox (defBody st) t ∧ t { nx := fun _ H' => Q .non H', rt := Q } (start N vs) H) :
    L2H.FnH P w K mg base CX0 (k + 1) f fd ps sp := by
  obtain ⟨oc, od, kV, doc, pm, an, cdv, ct, osl, rfl, lk, hcd⟩ := F.ex
  refine L2H.fn_ofH lk hcd S len fun A outer s H vs Q E p hot hr hsp => ?_
  obtain ⟨t, h, q⟩ := body cdv A outer s H vs Q E p hr hot hsp
  exact ⟨t, h.nox, q⟩
/-- defs as their callers see them: one that may raise; one that is called in a suite -/
def CalX (P : Program) (w : World) (K : PySem.W.Frag) (mg : Str → Option Value) (base : Heap) (k : Nat) (x : Str) (ps : List Str) (sp : Sp) : Prop :=
  ∃ (f : Addr) (fd : FuncData), FnOk P w K mg base (L2N.CX P w) k f fd ps sp ∧ mg x = some (.ref f) ∧ PySem.W.keepIn K (.ref f) = true ∧ Binds K fd ps []
def CalH (P : Program) (w : World) (K : PySem.W.Frag) (mg : Str → Option Value) (base : Heap) (k : Nat) (x : Str) (ps : List Str) (sp : Sp) : Prop :=
  ∃ (f : Addr) (fd : FuncData), L2H.FnH P w K mg base CX0 k f fd ps sp ∧ mg x = some (.ref f) ∧ PySem.W.keepIn K (.ref f) = true ∧ Binds K fd ps []
section
variable {X : Cx} {k : Nat} {x : Str} {ps : List Str} {sp : Sp} {p pos : Pos} {e : Expr} {es : List Expr} {t : TA} {W : WX}
/-- f(..) that may raise; W: what is wished of what is raised -/
theorem pe_calX (C : CalX X.prog X.w X.K X.mg X.base k x ps sp) (hr : Room k X.A) (hg : Gl X x) (tk : L2N.Takes X W) (ha : PA X (e :: es) t)
    (hdb : (x == ("__debug__" : Str)) = false := by decide) (he : starEach (e :: es) X.env = (false, eval e X.env) :: starEach es X.env := by rfl) (hpl : (backTo pos (starEach es X.env)).any (·.1) = false := by rfl) :
    PE X (.Call (.Name x p) (e :: es) [] pos) (tCallS sp (WE W) t) := by
  obtain ⟨f, fd, G, m, kp, b⟩ := C
  exact pe_callS G hr hg m kp b (L2N.passAt tk) ha hdb he hpl
theorem passH {X : Cx} {σ : L2.St} : PassesAt CX0 X σ E0 := fun _ _ _ _ _ _ h => h.elim
/-- f(..) in a suite -/
theorem pe_calH (C : CalH X.prog X.w X.K X.mg X.base k x ps sp) (hr : L2H.RoomH k X.A) (hc : L2H.HotC X) (hg : Gl X x) (ha : PA X (e :: es) t)
    (hdb : (x == ("__debug__" : Str)) = false := by decide) (he : starEach (e :: es) X.env = (false, eval e X.env) :: starEach es X.env := by rfl) (hpl : (backTo pos (starEach es X.env)).any (·.1) = false := by rfl) :
    PE X (.Call (.Name x p) (e :: es) [] pos) (tCallS sp (fun _ => E0) t) := by
  obtain ⟨f, fd, G, m, kp, b⟩ := C
  exact L2H.pe_callH G hr hc hg m kp b (fun _ => passH) ha hdb he hpl
/-- the suite of an error whose context is None bears it -/
theorem hot_of {X : Cx} {a : Addr} {oe : Obj} {cls : Value} {d : Option Addr} {pn : List (Addr × Obj)} (hz : L2N.Zn cls d oe) (hf : ∃ vs, oe.data = .fields vs) : L2H.HotC (X.suite a ((a, oe) :: pn)) := by
  obtain ⟨vs, e⟩ := hf
  exact ⟨(a, oe), ⟨rfl, vs, e, hz.2.2 vs e⟩, List.mem_cons_self⟩
theorem roomS {X : Cx} {k : Nat} {a : Addr} {pn : List (Addr × Obj)} (hr : Room k X.A) : L2H.RoomH k (X.suite a pn).A := ⟨hr.dp, hr.un⟩
/-- nothing is let out -/
theorem takesN {X : Cx} : L2N.Takes X (fun _ _ _ _ => False) := fun _ _ h => by
  obtain ⟨_, _, _, _, _, _, _, _, _, _, _, _, _, _, _, _, z⟩ := h
  exact z.elim
theorem passN {X : Cx} {E : XK} : Passes CX0 X E := fun _ _ _ _ _ _ _ h => h.elim
end
/-! ### making -/
section
variable {X : Cx} {C : Addr} {bmB : List Value} {B newId initId : String}
/-- X(), an own class without an __init__ -/
theorem pmk0 {x : Str} {p pos : Pos} (F : ExcBaseFacts B newId initId bmB) (q : PySem.W.excIn X.K C bmB newId = true) (gC : X.mg x = some (.ref C)) (kC : PySem.W.keepIn X.K (.ref C) = true) (r : Raises X (.ref C)) (hg : Gl X x)
    (hdb : (x == ("__debug__" : Str)) = false := by decide) : L2N.PMk X (.Call (.Name x p) [] [] pos) (fun _ H Q => Q (.ref C) none H) := by
  intro pins s σ H Q I h
  refine wpAny_Call_Name_kw (ld_glob I hg gC (PySem.W.callWith_K0 I.kIn kC ?_) hdb)
  obtain ⟨bm, N, nm, qn, bs, hdct, sn, sub, ab, col, dd, k0, k1, k2, k3, k5, mN, hC, hN, hni, T⟩ := exc_obj I.kIn q
  exact wpAny_call_exc_subT F T hC hN hni (fun h' e hm => L2N.mk_of I hm r h (I.hok.gone hm.new)) (Nat.zero_le _)
/-- X(..), an own class with an __init__ -/
theorem pmkI {CX : CXT} {x : Str} {fI : Addr} {k : Nat} {fd : FuncData} {ps : List Str} {sp : Sp} {e : Expr} {es : List Expr} {ta : TA} {p pos : Pos} (T : OexC X.K C) (iC : PySem.W.findIn X.K (.ref C) "__init__" = some (some (.ref fI)))
    (tI : PySem.W.typeIn X.K (.ref fI) = some (.type "function")) (F1 : FnOk X.prog X.w X.K X.mg X.base CX k fI fd ps sp) (hr : Room (k + 1) X.A) (hb : Binds X.K fd ps []) (hx : Passes CX X (fun _ _ _ => False)) (hg : Gl X x) (hm : X.mg x = some (.ref C)) (ha : PA X (e :: es) ta)
    (hdb : (x == ("__debug__" : Str)) = false := by decide) (he : starEach (e :: es) X.env = (false, eval e X.env) :: starEach es X.env := by rfl) (hpl : (backTo pos (starEach es X.env)).any (·.1) = false := by rfl) :
    L2N.PMk X (.Call (.Name x p) (e :: es) [] pos) (tMkO C sp [] ta) := by
  intro pins s σ H Q I h
  obtain ⟨nm, q, N, bs, bm, sn, sub, ab, col, dd, k0, k1, k2, k3, k5, hC, hbm⟩ := T.cls
  refine wpAny_Call_Name_kw (ld_glob I hg hm (PySem.W.callWith_K (h₀ := X.base) I.ok.mod.kin T.kC (thn (ha.run pos pins s σ H _ I h) fun us s1 hh => ?_) he hpl) hdb)
  obtain ⟨vs, H1, I1, r1, hz, q1⟩ := hh
  refine ⟨I1.kIn, ?_⟩
  show wpAny _ _ (call (.ref C) us) _ _ _
  obtain ⟨hp, g, dr, tk, os⟩ := s1
  have fresh := I1.hok.fresh (Nat.le_succ hp.objs.size)
  have hq := q1 (hp.objs.size + 1) fresh
  rw [List.append_nil] at hq
  generalize eh : (hp.push (PySem.W.kdv_tup us)).push (PySem.HandSPX.excO C hp.objs.size) = hn
  have kk : ∀ b o, hp.get? b = some o → hn.get? b = some o := fun b o z => by
    rw [← eh]
    exact Heap.get?_push_of_some _ (Heap.get?_push_of_some _ z)
  have hget : hn.get? (hp.objs.size + 1) = some (PySem.HandSPX.excO C hp.objs.size) := by
    rw [← eh]
    heap_get
  have I2 : Inv X pins σ (upd H1 (hp.objs.size + 1) (exo (hp.objs.size + 1) C none)) ⟨hn, g, dr, tk, os⟩ := I1.laid (t' := tk) kk (Nat.le_succ _) (exo_ok hget)
  have r2 : Vals (V.ref (hp.objs.size + 1) :: vs) (Value.ref (hp.objs.size + 1) :: us) := .cons rfl r1
  have hl : (Value.ref (hp.objs.size + 1) :: us).length = ps.length := r2.length.symm.trans (F1.len _ _ _ _ hq)
  have hb' := hb _ (Value.ref (hp.objs.size + 1) :: us) I2.kIn (by rw [List.append_nil]; exact hl)
  rw [List.append_nil] at hb'
  have hus : us.length ≤ sizeLine := by
    rw [← Vals.length r1]
    exact Nat.le_trans hz (by rw [sizeLine_eq]; decide)
  have run := F1.run _ X.stack _ _ ⟨Value.ref (hp.objs.size + 1) :: us, []⟩ _ _ _ (fun _ _ _ => False) (hr.make C us []) (I2.env0.make C us []) hb' r2 hq
  rw [← eh] at run
  refine wpAny_call (PySem.HandSPX.call_own F.excBase_ValueError (fun Y => PySem.HandSPX.refsVE_contains Y bm hbm) (I1.kIn _ _ hC) (PySem.W.looks_findIn I1.kIn iC) (fun self => PySem.W.bind_fn I1.kIn self tI) hus (codeAny_mono run fun r s' hq' => ?_))
  rw [eh] at hq'
  cases r with
  | error er => exact hx pins σ _ _ er s' I2 hq'
  | ok fl =>
    cases fl with
    | next => exact hq'.elim
    | brk => exact hq'.elim
    | cont => exact hq'.elim
    | ret u =>
      obtain ⟨v, H2, os2, bare2, un2, hok2, rv, ev, d, fs, ea, ed, hd1, q2⟩ := hq'
      subst ev
      obtain ⟨h2, g2, d2, t2, os'⟩ := s'
      obtain ⟨t0, G, J, kG, ge, hoe, na⟩ := mk_end0 (d2 := d2) (t2 := t2) I1 (Nat.le_succ _) kk un2 hok2 os2 bare2 ea ed hd1
      exact ⟨rv, hp.objs.size + 1, _, _, ⟨G, g2, d2, t2, os'⟩, _, .ref C, some d, rfl, J, kG, ge, hoe, ⟨rfl, rfl, fun vs z => by cases z; rfl⟩, rfl, rfl, na, rfl, bare2, raises_own T.exC T.tyC, q2⟩
end
/-! ### asking of a caught error -/
/-- what the class at C must say for its instances to be asked of -/
structure XCls (K : PySem.W.Frag) (C : Addr) : Prop where
  cl : (PySem.W.clsIn K C).isSome = true
  ga : PySem.W.findIn K (.ref C) "__getattribute__" = some (some (.builtin "BaseException.__getattribute__"))
  gg : PySem.W.findIn K (.ref C) "__getattr__" = some none
  su : PySem.W.subIn K (.ref C) (.type "BaseException") = some true
  ca : PySem.W.findIn K (.ref C) "__class__" = some (some (.builtin "object.__class__"))
  cn : PySem.W.specialIn K (.builtin "object.__class__") "__get__" = some (some (.builtin "getset_descriptor.__get__"))
  ct : PySem.W.takesIn K (.builtin "object.__class__") = some true
  cm : PySem.W.mroIn K C (.type "object") = some true
  hd : PySem.W.hasDictIn K C = true
  ty : PySem.W.typeIn K (.ref C) = some (.type "type")
  kp : PySem.W.keepIn K (.ref C) = true
def xclsB (K : PySem.W.Frag) (C : Addr) : Bool :=
  (PySem.W.clsIn K C).isSome && decide (PySem.W.findIn K (.ref C) "__getattribute__" = some (some (.builtin "BaseException.__getattribute__"))) && decide (PySem.W.findIn K (.ref C) "__getattr__" = some none) &&
  decide (PySem.W.subIn K (.ref C) (.type "BaseException") = some true) && decide (PySem.W.findIn K (.ref C) "__class__" = some (some (.builtin "object.__class__"))) &&
  decide (PySem.W.specialIn K (.builtin "object.__class__") "__get__" = some (some (.builtin "getset_descriptor.__get__"))) && decide (PySem.W.takesIn K (.builtin "object.__class__") = some true) &&
  decide (PySem.W.mroIn K C (.type "object") = some true) && PySem.W.hasDictIn K C && decide (PySem.W.typeIn K (.ref C) = some (.type "type")) && PySem.W.keepIn K (.ref C)
theorem xcls_of {K : PySem.W.Frag} {C : Addr} (h : xclsB K C = true) : XCls K C := by
  unfold xclsB at h
  simp only [Bool.and_eq_true, decide_eq_true_eq] at h
  obtain ⟨⟨⟨⟨⟨⟨⟨⟨⟨⟨a, b⟩, c⟩, d⟩, e⟩, f⟩, g⟩, h⟩, i⟩, j⟩, k⟩ := h
  exact ⟨a, b, c, d, e, f, g, h, i, j, k⟩
theorem XCls.xf {K : PySem.W.Frag} {C : Addr} (T : XCls K C) : XfC K C := ⟨T.ga, T.gg, T.su, T.hd⟩
theorem XCls.raises {X : Cx} {C : Addr} (T : XCls X.K C) : Raises X (.ref C) := raises_own T.su T.ty
theorem XCls.kit {K : PySem.W.Frag} {C x : Addr} {ox : Obj} {od : Option Obj} (T : XCls K C) : PySem.W.KitX K (.ref x) (.ref C) (fun h => PySem.W.InstAt h x ox C od) := PySem.W.kitx_exc T.cl T.ga T.gg T.su T.ca T.cn T.ct T.cm
/-- the class at C beside the class at D, as isinstance and except see them: b tells whether C is D or stands below it -/
structure Below (K : PySem.W.Frag) (C D : Addr) (b : Bool) : Prop where
  one : PySem.W.kitOne K (.ref C) (.ref D) = some b
  exm : PySem.W.exmOne K (.ref C) (.ref D) = some b
theorem exm_kit {K : PySem.W.Frag} {C D : Addr} {b : Bool} (T : XCls K C) (hs : PySem.W.subIn K (.ref C) (.ref D) = some b) (U : XCls K D) (hne : (Value.ref C == Value.ref D) = true → b = true) : Below K C D b := by
  have h2 : ((PySem.W.clsIn K D).isSome && PySem.W.typeIn K (.ref D) == some (.type "type")) = true := by
    rw [U.cl, U.ty]
    rfl
  have h3 : PySem.W.kitCls K (.ref C) (.ref D) = some b := by
    show (if _ then _ else _) = _
    rw [if_pos h2]
    exact hs
  refine ⟨?_, ?_⟩
  · show (if _ then _ else _) = _
    by_cases e : (Value.ref C == Value.ref D) = true
    · rw [if_pos e, hne e]
    · rw [if_neg e]
      exact h3
  · show (if _ then _ else _) = _
    have e : (PySem.W.subIn K (.ref D) (.type "BaseException") == some true) = true := by rw [U.su]; rfl
    rw [if_pos e]
    exact h3
/-- isinstance and except, from what the written part says of two classes -/
theorem kit_sub {K : PySem.W.Frag} {C D : Addr} {b : Bool} (i : PySem.W.isClsIn K D = true) (t : PySem.W.typeIn K (.ref D) = some (.type "type")) (s : PySem.W.subIn K (.ref C) (.ref D) = some b) (r : PySem.W.subIn K (.ref C) (.ref C) = some true) : PySem.W.kitOne K (.ref C) (.ref D) = some b := by
  have h2 : ((PySem.W.clsIn K D).isSome && PySem.W.typeIn K (.ref D) == some (.type "type")) = true := by
    have i' : (PySem.W.clsIn K D).isSome = true := i
    rw [i', t]
    rfl
  show (if _ then _ else _) = _
  by_cases e : (Value.ref C == Value.ref D) = true
  · rw [if_pos e]
    have e' : Value.ref C = Value.ref D := eq_of_beq e
    rw [← e', r] at s
    exact s
  · rw [if_neg e]
    show (if _ then _ else _) = _
    rw [if_pos h2]
    exact s
theorem kit_blt {K : PySem.W.Frag} {C : Addr} {T : String} {b : Bool} (m : PySem.W.kitMeta T = true) (s : PySem.W.subIn K (.ref C) (.type T) = some b) : PySem.W.kitOne K (.ref C) (.type T) = some b := by
  show (if _ then _ else _) = _
  rw [if_neg (by exact Bool.false_ne_true)]
  show (if _ then _ else _) = _
  rw [if_pos m]
  exact s
theorem exm_sub {K : PySem.W.Frag} {C D : Addr} {b : Bool} (i : PySem.W.isClsIn K D = true) (t : PySem.W.typeIn K (.ref D) = some (.type "type")) (e : PySem.W.subIn K (.ref D) (.type "BaseException") = some true) (s : PySem.W.subIn K (.ref C) (.ref D) = some b) : PySem.W.exmOne K (.ref C) (.ref D) = some b := by
  have h2 : ((PySem.W.clsIn K D).isSome && PySem.W.typeIn K (.ref D) == some (.type "type")) = true := by
    have i' : (PySem.W.clsIn K D).isSome = true := i
    rw [i', t]
    rfl
  have h1 : (PySem.W.subIn K (.ref D) (.type "BaseException") == some true) = true := by
    rw [e]
    rfl
  show (if _ then _ else _) = _
  rw [if_pos h1]
  show (if _ then _ else _) = _
  rw [if_pos h2]
  exact s
/-- where the error's own dict stands -/
def DictAt (H : Hp) (d : Option Addr) : Prop := d = none ∨ ∃ (dd : Addr) (fs : List (Str × V)), d = some dd ∧ H dd = some (.xd fs)
theorem inst_of {X : Cx} {pins : List (Addr × Obj)} {σ : L2.St} {H : Hp} {s : Shared} {a D : Addr} {oe : Obj} {d : Option Addr} {pn : List (Addr × Obj)} (I : Inv (X.suite a ((a, oe) :: pn)) pins σ H s) (hz : Zc (.ref D) d oe) (hf : ∃ vs, oe.data = .fields vs) (hd : DictAt H d) :
    ∃ od, PySem.W.InstAt s.heap a oe D od := by
  obtain ⟨hget, _⟩ := I.pin (a, oe) (List.mem_append_left _ List.mem_cons_self)
  obtain ⟨vs, hv⟩ := hf
  have no : PySem.W.notCls oe = true := by unfold PySem.W.notCls; rw [hv]
  rcases hd with rfl | ⟨dd, fs, rfl, hx⟩
  · exact ⟨none, hget, hz.1, no, by rw [hz.2]; trivial⟩
  · have hx : ObjOk X.prog X.w H s.heap dd (.xd fs) := I.hok dd _ hx
    obtain ⟨mA, hns, _⟩ := hx
    obtain ⟨od, ho, _⟩ := lookIn_ns hns
    exact ⟨some od, hget, hz.1, no, by rw [hz.2]; exact ho⟩
/-- isinstance(e, c) -/
def rIsX (K : PySem.W.Frag) (a : Addr) (cls : Value) (d : Option Addr) : List V → Hp → VK → Prop := fun xs H Q => ∃ (D : Addr) (c : V) (cv : Value) (b : Bool), xs = [.ref a, c] ∧ ClsV c cv ∧ cls = .ref D ∧ XCls K D ∧ DictAt H d ∧ PySem.W.kitOne K (.ref D) cv = some b ∧ Q (.bl b) H
/-- isinstance(e, (c, ..)) -/
def rIsXT (K : PySem.W.Frag) (a : Addr) (cls : Value) (d : Option Addr) : List V → Hp → VK → Prop := fun xs H Q => ∃ (D tp : Addr) (cs : List V) (us : List Value) (b : Bool), xs = [.ref a, .ref tp] ∧ H tp = some (.tup cs) ∧ Paired ClsV cs us ∧ cls = .ref D ∧ XCls K D ∧ DictAt H d ∧
  PySem.W.kitAny K (.ref D) us = some b ∧ Q (.bl b) H
section
variable {X : Cx} {a : Addr} {oe : Obj} {cls : Value} {d : Option Addr} {pn : List (Addr × Obj)}
theorem call_isX {K : PySem.W.Frag} (hK : X.K = K) (hz : Zc cls d oe) (hf : ∃ vs, oe.data = .fields vs) : CallR (X.suite a ((a, oe) :: pn)) (.builtin "isinstance") (rIsX K a cls d) := by
  subst hK
  intro pins s σ H xs us Q I r h
  obtain ⟨D, c, cv, b, rfl, k, rfl, T, hd, e, q⟩ := h
  obtain ⟨u1, u2, rfl, r1, r2⟩ := vals2 r
  cases (show u1 = Value.ref a from r1)
  have e2 := k.eq r2
  subst e2
  obtain ⟨od, J⟩ := inst_of I hz hf hd
  exact PySem.W.kia_one T.kit I.kIn J e (fun z => nomatch z) fun tk => ⟨.bl b, H, I.tok tk, rfl, q⟩
theorem call_isXT {K : PySem.W.Frag} (hK : X.K = K) (hz : Zc cls d oe) (hf : ∃ vs, oe.data = .fields vs) : CallR (X.suite a ((a, oe) :: pn)) (.builtin "isinstance") (rIsXT K a cls d) := by
  subst hK
  intro pins s σ H xs us Q I r h
  obtain ⟨D, tp, cs, ws, b, rfl, hT, k, rfl, T, hd, e, q⟩ := h
  obtain ⟨u1, u2, rfl, r1, r2⟩ := vals2 r
  cases (show u1 = Value.ref a from r1)
  cases (show u2 = Value.ref tp from r2)
  obtain ⟨_, its, rv, o, h1, h2, n, h3⟩ := (show ObjOk X.prog X.w H s.heap tp (.tup cs) from I.hok tp _ hT)
  have e3 := ClsV.all k rv
  subst e3
  obtain ⟨oc, od', dt, sl⟩ := o
  simp only at h2 h3
  subst h2 h3
  obtain ⟨od, J⟩ := inst_of I hz hf hd
  exact PySem.W.kia_tup T.kit I.kIn J h1 e (fun z => nomatch z) fun tk => ⟨.bl b, H, I.tok tk, rfl, q⟩
end
end EX
/-! Plans, their names, what a forecast tells of them. -/
namespace P64

inductive Plan where
  | take (n : List Nat)
  | join (a b : Plan)
  | thin (k : Int) (a : Plan)
namespace Plan
def height : Plan → Nat
  | take _ => 1
  | join a b => max a.height b.height + 1
  | thin _ a => a.height + 1
def names : Plan → List (List Nat)
  | take n => [n]
  | join a b => a.names ++ b.names
  | thin _ a => a.names
def thick : Plan → Prop
  | thin _ _ => False
  | _ => True
/-- known names, steps of these kinds, no such step upon another -/
def Good (ks : List Int) (N : List (List Nat)) : Plan → Prop
  | take n => n ∈ N
  | join a b => Good ks N a ∧ Good ks N b
  | thin k a => k ∈ ks ∧ a.thick ∧ Good ks N a
end Plan
theorem height_pos : ∀ a : Plan, 1 ≤ a.height
  | .take _ => Nat.le_refl 1
  | .join a b => by simp only [Plan.height]; omega
  | .thin _ a => by simp only [Plan.height]; omega

/-! ### fractions in lowest terms -/
structure Low (t b : Int) : Prop where
  tp : 0 < t
  bp : 0 < b
  co : Nat.gcd t.natAbs b.natAbs = 1
def gI (t b : Int) : Int := ((Nat.gcd t.natAbs b.natAbs : Nat) : Int)
theorem gI_pos {t b : Int} (hb : 0 < b) : 0 < gI t b := by
  have : 0 < Nat.gcd t.natAbs b.natAbs := Nat.gcd_pos_of_pos_right _ (by omega)
  unfold gI
  omega
theorem low_of {t b : Int} (ht : 0 < t) (hb : 0 < b) : Low (t / gI t b) (b / gI t b) := by
  obtain ⟨m, rfl⟩ : ∃ m : Nat, t = (m : Int) := ⟨t.toNat, by omega⟩
  obtain ⟨n, rfl⟩ : ∃ n : Nat, b = (n : Int) := ⟨b.toNat, by omega⟩
  have hg : 0 < Nat.gcd m n := Nat.gcd_pos_of_pos_right _ (by omega)
  have e1 : ((m : Int) / gI m n) = ((m / Nat.gcd m n : Nat) : Int) := rfl
  have e2 : ((n : Int) / gI m n) = ((n / Nat.gcd m n : Nat) : Int) := rfl
  rw [e1, e2]
  refine ⟨?_, ?_, ?_⟩
  · have := Nat.div_pos (Nat.le_of_dvd (by omega) (Nat.gcd_dvd_left m n)) hg
    omega
  · have := Nat.div_pos (Nat.le_of_dvd (by omega) (Nat.gcd_dvd_right m n)) hg
    omega
  · show Nat.gcd (m / Nat.gcd m n) (n / Nat.gcd m n) = 1
    rw [Nat.gcd_div (Nat.gcd_dvd_left m n) (Nat.gcd_dvd_right m n), Nat.div_self hg]
theorem low_one : Low 1 1 := ⟨by decide, by decide, by decide⟩
/-- equal values, equal terms -/
theorem low_uniq {t b t' b' : Int} (h : Low t b) (h' : Low t' b') (e : t * b' = t' * b) : t = t' ∧ b = b' := by
  obtain ⟨m, rfl⟩ : ∃ m : Nat, t = (m : Int) := ⟨t.toNat, by have := h.tp; omega⟩
  obtain ⟨n, rfl⟩ : ∃ n : Nat, b = (n : Int) := ⟨b.toNat, by have := h.bp; omega⟩
  obtain ⟨m', rfl⟩ : ∃ m : Nat, t' = (m : Int) := ⟨t'.toNat, by have := h'.tp; omega⟩
  obtain ⟨n', rfl⟩ : ∃ n : Nat, b' = (n : Int) := ⟨b'.toNat, by have := h'.bp; omega⟩
  have e1 : m * n' = m' * n := by
    have : ((m * n' : Nat) : Int) = ((m' * n : Nat) : Int) := e
    omega
  have c : Nat.Coprime m n := h.co
  have c' : Nat.Coprime m' n' := h'.co
  have d1 : m ∣ m' := c.dvd_of_dvd_mul_right (by rw [← e1]; exact Nat.dvd_mul_right m n')
  have d2 : m' ∣ m := c'.dvd_of_dvd_mul_right (by rw [e1]; exact Nat.dvd_mul_right m' n)
  have em : m = m' := Nat.dvd_antisymm d1 d2
  subst em
  have hm : 0 < m := by have := h.tp; omega
  have en : n' = n := Nat.eq_of_mul_eq_mul_left hm e1
  rw [en]
  exact ⟨rfl, rfl⟩
/-- below 2 ^ n -/
abbrev B (n : Nat) (x : Int) : Prop := x.natAbs < 2 ^ n
theorem B.mono {m n : Nat} {x : Int} (h : B m x) (hl : m ≤ n) : B n x := Nat.lt_of_lt_of_le h (Nat.pow_le_pow_right (by decide) hl)
theorem B.mul {m n : Nat} {x y : Int} (hx : B m x) (hy : B n y) : B (m + n) (x * y) := by
  show (x * y).natAbs < 2 ^ (m + n)
  rw [Int.natAbs_mul, Nat.pow_add]
  exact Nat.mul_lt_mul'' hx hy
theorem B.le {n : Nat} {x y : Int} (h0 : 0 ≤ x) (h : x ≤ y) (hy : B n y) : B n x := Nat.lt_of_le_of_lt (by omega) hy
theorem B.div {n : Nat} {x g : Int} (h0 : 0 ≤ x) (hg : 0 < g) (hx : B n x) : B n (x / g) := B.le (Int.ediv_nonneg h0 (by omega)) (Int.ediv_le_self g h0) hx
theorem B.gcd {n : Nat} {t b : Int} (hb : 0 < b) (h : B n b) : B n (gI t b) := by
  refine B.le (by have := gI_pos (t := t) hb; omega) ?_ h
  have : Nat.gcd t.natAbs b.natAbs ≤ b.natAbs := Nat.le_of_dvd (by omega) (Nat.gcd_dvd_right _ _)
  unfold gI
  omega

/-! ### the forecast -/
structure Fc where
  most : Int
  peak : Int
  top : Int
  bot : Int
def imax (i j : Int) : Int := if j > i then j else i
def imin (i j : Int) : Int := if j < i then j else i
def fTake (c : Int) : Fc := ⟨c, c, 1, 1⟩
def fJoin (a b : Fc) : Fc :=
  if a.top * b.bot - b.top * a.bot > 0 then ⟨a.most + b.most, imax (imax (a.most + b.most) a.peak) b.peak, a.top, a.bot⟩
  else ⟨a.most + b.most, imax (imax (a.most + b.most) a.peak) b.peak, b.top, b.bot⟩
def fTimes (t b : Int) (a : Fc) (m : Int) : Fc := ⟨m, a.peak, a.top * t / gI (a.top * t) (a.bot * b), a.bot * b / gI (a.top * t) (a.bot * b)⟩
def gradeT (k : Int) : Int := (k + 1) * (9 * (k - 1) * (k + 1) + k)
def gradeB (k : Int) : Int := 9 * (k - 1) * (k - 1) * (k - 1)
def fThin (k size : Int) (a : Fc) : Fc := fTimes (gradeT k / gI (gradeT k) (gradeB k)) (gradeB k / gI (gradeT k) (gradeB k)) a (imin a.most (k * k * imin size a.most))
def fc (kn : List Nat → Int) (size : Int) : Plan → Fc
  | .take n => fTake (kn n)
  | .join a b => fJoin (fc kn size a) (fc kn size b)
  | .thin k a => fThin k size (fc kn size a)
/-- how large its numbers are -/
structure Fb (h : Nat) (a : Fc) : Prop where
  m0 : 0 ≤ a.most
  m1 : B (402 + h) a.most
  low : Low a.top a.bot
  t1 : B (450 * h) a.top
  b1 : B (450 * h) a.bot
theorem Fb.mono {m n : Nat} {a : Fc} (h : Fb m a) (hl : m ≤ n) : Fb n a := ⟨h.m0, h.m1.mono (by omega), h.low, h.t1.mono (by omega), h.b1.mono (by omega)⟩
theorem take_b {c : Int} (h0 : 0 ≤ c) (h : B 402 c) : Fb 1 (fTake c) := ⟨h0, B.mono h (by decide), low_one, (by show 1 < 2 ^ 450; decide +kernel), (by show 1 < 2 ^ 450; decide +kernel)⟩
theorem join_b {h : Nat} {a b : Fc} (x : Fb h a) (y : Fb h b) : Fb (h + 1) (fJoin a b) := by
  have s0 : 0 ≤ a.most + b.most := by have := x.m0; have := y.m0; omega
  have s1 : B (402 + (h + 1)) (a.most + b.most) := by
    have h1 : a.most.natAbs < 2 ^ (402 + h) := x.m1
    have h2 : b.most.natAbs < 2 ^ (402 + h) := y.m1
    have := x.m0
    have := y.m0
    show (a.most + b.most).natAbs < 2 ^ (402 + h + 1)
    rw [Nat.pow_succ]
    omega
  unfold fJoin
  split
  · exact ⟨s0, s1, x.low, x.t1.mono (by omega), x.b1.mono (by omega)⟩
  · exact ⟨s0, s1, y.low, y.t1.mono (by omega), y.b1.mono (by omega)⟩
theorem times_b {h : Nat} {a : Fc} {t b m : Int} (x : Fb h a) (ht : 0 < t) (hb : 0 < b) (bt : B 450 t) (bb : B 450 b) (m0 : 0 ≤ m) (m1 : B (402 + (h + 1)) m) : Fb (h + 1) (fTimes t b a m) := by
  have p1 : 0 < a.top * t := Int.mul_pos x.low.tp ht
  have p2 : 0 < a.bot * b := Int.mul_pos x.low.bp hb
  have g := gI_pos (t := a.top * t) p2
  exact ⟨m0, m1, low_of p1 p2, ((x.t1.mul bt).mono (by omega)).div (Int.le_of_lt p1) g, ((x.b1.mul bb).mono (by omega)).div (Int.le_of_lt p2) g⟩
theorem imin_le {i j : Int} : imin i j ≤ j := by unfold imin; split <;> omega
theorem imin_le' {i j : Int} : imin i j ≤ i := by unfold imin; split <;> omega
theorem imin_nn {i j : Int} (h1 : 0 ≤ i) (h2 : 0 ≤ j) : 0 ≤ imin i j := by unfold imin; split <;> omega
theorem grade_ok {k : Int} (h2 : 2 ≤ k) (h10 : k ≤ 10) : 0 < gradeT k ∧ 0 < gradeB k ∧ gradeT k < 65536 ∧ gradeB k < 65536 := by
  have : k = 2 ∨ k = 3 ∨ k = 4 ∨ k = 5 ∨ k = 6 ∨ k = 7 ∨ k = 8 ∨ k = 9 ∨ k = 10 := by omega
  rcases this with rfl | rfl | rfl | rfl | rfl | rfl | rfl | rfl | rfl <;> decide
theorem B_small {x : Int} (h0 : 0 ≤ x) (h : x < 65536) : B 450 x := B.mono (m := 16) (by show x.natAbs < 65536; omega) (by decide)
theorem thin_b {h : Nat} {a : Fc} {k size : Int} (x : Fb h a) (h2 : 2 ≤ k) (h10 : k ≤ 10) (hs : 0 ≤ size) : Fb (h + 1) (fThin k size a) := by
  obtain ⟨p1, p2, q1, q2⟩ := grade_ok h2 h10
  have l := low_of p1 p2
  have g := gI_pos (t := gradeT k) p2
  have nn := imin_nn x.m0 (Int.mul_nonneg (Int.mul_nonneg (show 0 ≤ k by omega) (show 0 ≤ k by omega)) (imin_nn hs x.m0))
  exact times_b x l.tp l.bp ((B_small (by omega) q1).div (by omega) g) ((B_small (by omega) q2).div (by omega) g) nn (B.le nn imin_le' (x.m1.mono (by omega)))
theorem fc_b {kn : List Nat → Int} {size : Int} {ks : List Int} {N : List (List Nat)} (hs : 0 ≤ size) (hk : ∀ n, 0 ≤ kn n ∧ B 402 (kn n)) (h2 : ∀ k ∈ ks, 2 ≤ k ∧ k ≤ 10) : ∀ {pl : Plan}, pl.Good ks N → Fb pl.height (fc kn size pl)
  | .take n, _ => take_b (hk n).1 (hk n).2
  | .join a b, g => by
    have x := fc_b hs hk h2 g.1
    have y := fc_b hs hk h2 g.2
    exact join_b (x.mono (Nat.le_max_left _ _)) (y.mono (Nat.le_max_right _ _))
  | .thin k a, g => thin_b (fc_b hs hk h2 (pl := a) g.2.2) (h2 k g.1).1 (h2 k g.1).2 hs
/-! ### the steps of the greatest common divisor -/
/-- behind i steps from (a0, b0): (a, b) -/
def Eu (a0 b0 : Nat) (i a b : Nat) : Prop := Nat.gcd a b = Nat.gcd a0 b0 ∧ ((i = 0 ∧ a = a0 ∧ b = b0) ∨ (1 ≤ i ∧ b < a ∧ a * b * 2 ^ (i - 1) ≤ 2 ^ 13000))
theorem eu_start {a0 b0 : Nat} : Eu a0 b0 0 a0 b0 := ⟨rfl, .inl ⟨rfl, rfl, rfl⟩⟩
theorem eu_step {a0 b0 i a b : Nat} (hb0 : b0 < 2 ^ 6500) (h : Eu a0 b0 i a b) (hb : b ≠ 0) : Eu a0 b0 (i + 1) b (a % b) := by
  obtain ⟨g, h⟩ := h
  have hlt : a % b < b := Nat.mod_lt _ (by omega)
  refine ⟨by rw [← g, Nat.gcd_comm b, ← Nat.gcd_rec b a, Nat.gcd_comm], .inr ⟨by omega, hlt, ?_⟩⟩
  rw [show i + 1 - 1 = i by omega]
  rcases h with ⟨rfl, rfl, rfl⟩ | ⟨hi, hab, hm⟩
  · have h1 : b * (a % b) ≤ b * b := Nat.mul_le_mul_left b (by omega)
    have h2 : b * b ≤ 2 ^ 6500 * 2 ^ 6500 := Nat.mul_le_mul (by omega) (by omega)
    rw [← Nat.pow_add] at h2
    rw [Nat.pow_zero, Nat.mul_one]
    exact Nat.le_trans h1 h2
  · have h1 : 2 * (a % b) ≤ a := by
      have e := Nat.div_add_mod a b
      have q : 1 ≤ a / b := Nat.div_pos (by omega) (by omega)
      have := Nat.mul_le_mul_left b q
      omega
    have h2 : b * (a % b) * 2 ≤ a * b := by
      rw [Nat.mul_assoc, Nat.mul_comm a b, Nat.mul_comm (a % b) 2]
      exact Nat.mul_le_mul_left b h1
    have e : 2 ^ i = 2 * 2 ^ (i - 1) := by
      rw [← Nat.pow_succ', Nat.succ_eq_add_one, show i - 1 + 1 = i by omega]
    rw [e, ← Nat.mul_assoc]
    exact Nat.le_trans (Nat.mul_le_mul_right _ h2) hm
theorem eu_end {a0 b0 a b : Nat} (h : Eu a0 b0 100000 a b) : b = 0 := by
  obtain ⟨_, h⟩ := h
  rcases h with ⟨h, _⟩ | ⟨_, hab, hm⟩
  · exact absurd h (by decide)
  · rcases Nat.eq_zero_or_pos b with h | h
    · exact h
    · exfalso
      have h1 : 1 ≤ a * b := Nat.mul_pos (by omega) h
      have h2 : 2 ^ (100000 - 1) ≤ a * b * 2 ^ (100000 - 1) := Nat.le_mul_of_pos_left _ h1
      have h3 : (2 : Nat) ^ 13000 < 2 ^ (100000 - 1) := Nat.pow_lt_pow_right (by decide) (by decide)
      omega
theorem eu_gcd {a0 b0 i a : Nat} (h : Eu a0 b0 i a 0) : a = Nat.gcd a0 b0 := by
  rw [← h.1, Nat.gcd_zero_right]
end P64
/-! The program's fronts and the law's levels tell the same least factor. -/
namespace P64
abbrev Fr := Int × Int
abbrev Ent := Fc × Plan
def fr (e : Ent) : Fr := (e.1.top, e.1.bot)
def Le (x y : Fr) : Prop := x.1 * y.2 ≤ y.1 * x.2
instance (x y : Fr) : Decidable (Le x y) := inferInstanceAs (Decidable (x.1 * y.2 ≤ y.1 * x.2))
abbrev LowF (x : Fr) : Prop := Low x.1 x.2
def mulF (x g : Fr) : Fr := (x.1 * g.1 / gI (x.1 * g.1) (x.2 * g.2), x.2 * g.2 / gI (x.1 * g.1) (x.2 * g.2))
def gF (k : Int) : Fr := (gradeT k / gI (gradeT k) (gradeB k), gradeB k / gI (gradeT k) (gradeB k))
theorem Le.refl (x : Fr) : Le x x := Int.le_refl _
theorem Le.total (x y : Fr) : Le x y ∨ Le y x := Int.le_total _ _
theorem Le.trans {x y z : Fr} (hx : 0 < x.2) (hy : 0 < y.2) (hz : 0 < z.2) (h1 : Le x y) (h2 : Le y z) : Le x z := by
  unfold Le at *
  have a := Int.mul_le_mul_of_nonneg_right h1 (Int.le_of_lt hz)
  have b := Int.mul_le_mul_of_nonneg_right h2 (Int.le_of_lt hx)
  have c : (x.1 * z.2) * y.2 ≤ (z.1 * x.2) * y.2 := by
    have e1 : (x.1 * z.2) * y.2 = x.1 * y.2 * z.2 := by rw [Int.mul_assoc, Int.mul_comm z.2, ← Int.mul_assoc]
    have e2 : (z.1 * x.2) * y.2 = z.1 * y.2 * x.2 := by rw [Int.mul_assoc, Int.mul_comm x.2, ← Int.mul_assoc]
    have e3 : y.1 * x.2 * z.2 = y.1 * z.2 * x.2 := by rw [Int.mul_assoc, Int.mul_comm x.2, ← Int.mul_assoc]
    omega
  exact Int.le_of_mul_le_mul_right c hy
theorem gI_dvd {t b : Int} : gI t b ∣ t ∧ gI t b ∣ b := by
  unfold gI
  exact ⟨Int.ofNat_dvd_left.mpr (Nat.gcd_dvd_left _ _), Int.ofNat_dvd_left.mpr (Nat.gcd_dvd_right _ _)⟩
/-- the parts of a product, times their common part -/
theorem mulF_ex {x g : Fr} (hx : 0 < x.2) (hg : 0 < g.2) : ∃ c : Int, 0 < c ∧ x.1 * g.1 = c * (mulF x g).1 ∧ x.2 * g.2 = c * (mulF x g).2 := by
  have h := gI_pos (t := x.1 * g.1) (Int.mul_pos hx hg)
  refine ⟨_, h, ?_, ?_⟩
  · exact (Int.mul_ediv_cancel' gI_dvd.1).symm
  · exact (Int.mul_ediv_cancel' gI_dvd.2).symm
theorem mulF_low {x g : Fr} (hx : LowF x) (hg : LowF g) : LowF (mulF x g) := low_of (Int.mul_pos hx.tp hg.tp) (Int.mul_pos hx.bp hg.bp)
theorem mulF_le {x g z : Fr} (hx : 0 < x.2) (hg : 0 < g.2) : Le (mulF x g) z ↔ x.1 * g.1 * z.2 ≤ z.1 * (x.2 * g.2) := by
  obtain ⟨c, hc, e1, e2⟩ := mulF_ex hx hg
  unfold Le
  rw [e1, e2, Int.mul_assoc, Int.mul_left_comm z.1]
  constructor
  · intro h
    exact Int.mul_le_mul_of_nonneg_left h (Int.le_of_lt hc)
  · intro h
    exact Int.le_of_mul_le_mul_left h hc
theorem le_mulF {x g z : Fr} (hx : 0 < x.2) (hg : 0 < g.2) : Le z (mulF x g) ↔ z.1 * (x.2 * g.2) ≤ x.1 * g.1 * z.2 := by
  obtain ⟨c, hc, e1, e2⟩ := mulF_ex hx hg
  unfold Le
  rw [e1, e2, Int.mul_assoc, Int.mul_left_comm z.1]
  constructor
  · intro h
    exact Int.mul_le_mul_of_nonneg_left h (Int.le_of_lt hc)
  · intro h
    exact Int.le_of_mul_le_mul_left h hc
theorem mulF_mono {x y g : Fr} (hx : LowF x) (hy : LowF y) (hg : LowF g) (h : Le x y) : Le (mulF x g) (mulF y g) := by
  rw [mulF_le hx.bp hg.bp]
  obtain ⟨c, hc, e1, e2⟩ := mulF_ex hy.bp hg.bp
  have h2 : x.1 * g.1 * (y.2 * g.2) ≤ y.1 * g.1 * (x.2 * g.2) := by
    have e3 : x.1 * g.1 * (y.2 * g.2) = x.1 * y.2 * (g.1 * g.2) := by
      rw [Int.mul_assoc, Int.mul_left_comm g.1, ← Int.mul_assoc]
    have e4 : y.1 * g.1 * (x.2 * g.2) = y.1 * x.2 * (g.1 * g.2) := by
      rw [Int.mul_assoc, Int.mul_left_comm g.1, ← Int.mul_assoc]
    rw [e3, e4]
    exact Int.mul_le_mul_of_nonneg_right h (Int.le_of_lt (Int.mul_pos hg.tp hg.bp))
  rw [e1, e2] at h2
  refine Int.le_of_mul_le_mul_left (a := c) ?_ hc
  have e5 : c * (x.1 * g.1 * (mulF y g).2) = x.1 * g.1 * (c * (mulF y g).2) := by rw [Int.mul_left_comm]
  have e6 : c * ((mulF y g).1 * (x.2 * g.2)) = c * (mulF y g).1 * (x.2 * g.2) := by rw [Int.mul_assoc]
  rw [e5, e6]
  exact h2
theorem le_antisymm {x y : Fr} (hx : LowF x) (hy : LowF y) (h1 : Le x y) (h2 : Le y x) : x = y := by
  obtain ⟨a, b⟩ := low_uniq hx hy (Int.le_antisymm h1 h2)
  exact Prod.ext a b
/-! ### the front -/
def betters (a b : Ent) : Bool := decide (a.1.most ≤ b.1.most) && decide (a.1.top * b.1.bot - b.1.top * a.1.bot ≤ 0)
theorem betters_iff {a b : Ent} : betters a b = true ↔ a.1.most ≤ b.1.most ∧ Le (fr a) (fr b) := by
  unfold betters Le fr
  simp only [Bool.and_eq_true, decide_eq_true_eq]
  constructor
  · rintro ⟨h1, h2⟩
    exact ⟨h1, by show a.1.top * b.1.bot ≤ b.1.top * a.1.bot; omega⟩
  · rintro ⟨h1, h2⟩
    have h2 : a.1.top * b.1.bot ≤ b.1.top * a.1.bot := h2
    exact ⟨h1, by omega⟩
def frontStep (found : List Ent) (e : Ent) : List Ent := if found.any (fun o => betters o e) = true then found else found.filter (fun o => !betters e o) ++ [e]
def frontF (es : List Ent) : List Ent := es.foldl frontStep []
theorem frontStep_mem {found : List Ent} {e x : Ent} (h : x ∈ frontStep found e) : x ∈ found ∨ x = e := by
  unfold frontStep at h
  split at h
  · exact .inl h
  · rcases List.mem_append.mp h with h | h
    · exact .inl (List.mem_filter.mp h).1
    · exact .inr (List.mem_singleton.mp h)
theorem front_mem' : ∀ (es acc : List Ent) (x : Ent), x ∈ es.foldl frontStep acc → x ∈ acc ∨ x ∈ es
  | [], _, _, h => .inl h
  | e :: es, acc, x, h => by
    rcases front_mem' es _ x h with h | h
    · rcases frontStep_mem h with h | rfl
      · exact .inl h
      · exact .inr List.mem_cons_self
    · exact .inr (List.mem_cons_of_mem _ h)
theorem front_mem {es : List Ent} {x : Ent} (h : x ∈ frontF es) : x ∈ es := (front_mem' es [] x h).elim (fun h => nomatch h) id
theorem frontStep_len (found : List Ent) (e : Ent) : (frontStep found e).length ≤ found.length + 1 := by
  unfold frontStep
  split
  · omega
  · have := List.length_filter_le (fun o => !betters e o) found
    rw [List.length_append, List.length_singleton]
    omega
theorem front_len' : ∀ (es acc : List Ent), (es.foldl frontStep acc).length ≤ acc.length + es.length
  | [], _ => Nat.le_refl _
  | e :: es, acc => by
    have h1 := front_len' es (frontStep acc e)
    have h2 := frontStep_len acc e
    rw [List.foldl_cons, List.length_cons]
    omega
theorem front_len (es : List Ent) : (frontF es).length ≤ es.length := by
  have := front_len' es []
  rw [List.length_nil, Nat.zero_add] at this
  exact this
theorem better_trans {a b c : Ent} (ha : LowF (fr a)) (hb : LowF (fr b)) (hc : LowF (fr c)) (h1 : betters a b = true) (h2 : betters b c = true) : betters a c = true := by
  rw [betters_iff] at *
  exact ⟨Int.le_trans h1.1 h2.1, h1.2.trans ha.bp hb.bp hc.bp h2.2⟩
theorem better_refl (a : Ent) : betters a a = true := betters_iff.mpr ⟨Int.le_refl _, Le.refl _⟩
theorem front_cover' : ∀ (es acc : List Ent), (∀ e ∈ es, LowF (fr e)) → (∀ e ∈ acc, LowF (fr e)) → ∀ x : Ent, LowF (fr x) → (x ∈ es ∨ ∃ o ∈ acc, betters o x = true) → ∃ o ∈ es.foldl frontStep acc, betters o x = true
  | [], acc, _, _, x, _, h => h.elim (fun h => nomatch h) id
  | e :: es, acc, he, ha, x, hx, h => by
    have le := he e List.mem_cons_self
    have hs : ∀ y ∈ frontStep acc e, LowF (fr y) := fun y hy => by
      rcases frontStep_mem hy with h | rfl
      · exact ha y h
      · exact le
    refine front_cover' es (frontStep acc e) (fun y hy => he y (List.mem_cons_of_mem _ hy)) hs x hx ?_
    have self : ∃ o ∈ frontStep acc e, betters o e = true := by
      unfold frontStep
      split
      · next h => exact List.any_eq_true.mp h
      · exact ⟨e, List.mem_append_right _ (List.mem_singleton.mpr rfl), better_refl e⟩
    rcases h with h | ⟨o, ho, hb⟩
    · rcases List.mem_cons.mp h with rfl | h
      · exact .inr self
      · exact .inl h
    · refine .inr ?_
      by_cases c : betters e o = true
      · obtain ⟨p, hp, hpe⟩ := self
        exact ⟨p, hp, better_trans (hs p hp) le hx hpe (better_trans le (ha o ho) hx c hb)⟩
      · unfold frontStep
        split
        · exact ⟨o, ho, hb⟩
        · exact ⟨o, List.mem_append_left _ (List.mem_filter.mpr ⟨ho, by simp [c]⟩), hb⟩
theorem front_cover {es : List Ent} (he : ∀ e ∈ es, LowF (fr e)) {x : Ent} (h : x ∈ es) : ∃ o ∈ frontF es, betters o x = true := front_cover' es [] he (fun e h => nomatch h) x (he x h) (.inl h)
/-! ### the program's tables -/
def joinE (a b : Ent) : Ent := (fJoin a.1 b.1, .join a.2 b.2)
def thinE (size k : Int) (a : Ent) : Ent := (fThin k size a.1, .thin k a.2)
def joinsF (ones twos : List Ent) (lim : Int) : List Ent := ones.flatMap fun a => (twos.map (joinE a)).filter fun e => decide (e.1.most ≤ lim)
def stepsF (es : List Ent) (size : Int) (ks : List Int) : List Ent := es.flatMap fun a => ks.map fun k => thinE size k a
abbrev Cnt := List Nat × Int
def takeE (c : Cnt) : Ent := (fTake c.2, .take c.1)
def bareOne (cs : List Cnt) (a : Nat) (lim : Int) : List Ent := match cs[a]? with
  | some c => if c.2 ≤ lim then [takeE c] else []
  | none => []
def bareAll (X : Nat → Nat → List Ent) (a b : Nat) (lim : Int) : List Ent := (List.range (b - (a + 1))).flatMap fun i => joinsF (X a (a + 1 + i)) (X (a + 1 + i) b) lim
def bareF (cs : List Cnt) (X : Nat → Nat → List Ent) (a b : Nat) (lim : Int) : List Ent := if b = a + 1 then bareOne cs a lim else frontF (bareAll X a b lim)
def fullF (size : Int) (ks : List Int) (br : List Ent) : List Ent := frontF (br ++ stepsF br size ks)
def tb (cs : List Cnt) (size : Int) (ks : List Int) (lim : Int) : Nat → Nat → Nat → List Ent
  | 0, _, _ => []
  | w + 1, a, b => if b = a + (w + 1) then fullF size ks (bareF cs (tb cs size ks lim w) a b lim) else tb cs size ks lim w a b
def bestStep (best : Option Ent) (e : Ent) : Option Ent := match best with
  | none => some e
  | some o => if decide (e.1.top * o.1.bot - o.1.top * e.1.bot < 0) = true then some e else some o
def bestF (es : List Ent) : Option Ent := es.foldl bestStep none
theorem best_is' : ∀ (es : List Ent) (o : Ent), (∀ e ∈ es, LowF (fr e)) → LowF (fr o) → ∃ e, es.foldl bestStep (some o) = some e ∧ (e = o ∨ e ∈ es) ∧ Le (fr e) (fr o) ∧ ∀ x ∈ es, Le (fr e) (fr x)
  | [], o, _, _ => ⟨o, rfl, .inl rfl, Le.refl _, fun x h => nomatch h⟩
  | y :: es, o, he, ho => by
    have hy := he y List.mem_cons_self
    have he' : ∀ e ∈ es, LowF (fr e) := fun e h => he e (List.mem_cons_of_mem _ h)
    rw [List.foldl_cons]
    show ∃ e, List.foldl bestStep (if decide (y.1.top * o.1.bot - o.1.top * y.1.bot < 0) = true then some y else some o) es = some e ∧ _
    by_cases c : y.1.top * o.1.bot - o.1.top * y.1.bot < 0
    · rw [if_pos (decide_eq_true c)]
      obtain ⟨e, h1, h2, h3, h4⟩ := best_is' es y he' hy
      have hle : LowF (fr e) := h2.elim (fun z => by rw [z]; exact hy) (he' e)
      have hyo : Le (fr y) (fr o) := by show y.1.top * o.1.bot ≤ o.1.top * y.1.bot; omega
      refine ⟨e, h1, .inr (h2.elim (fun z => by rw [z]; exact List.mem_cons_self) (List.mem_cons_of_mem _)), h3.trans hle.bp hy.bp ho.bp hyo, fun x hx => ?_⟩
      rcases List.mem_cons.mp hx with rfl | hx
      · exact h3
      · exact h4 x hx
    · rw [if_neg (by simp [c])]
      obtain ⟨e, h1, h2, h3, h4⟩ := best_is' es o he' ho
      have hle : LowF (fr e) := h2.elim (fun z => by rw [z]; exact ho) (he' e)
      have hoy : Le (fr o) (fr y) := by show o.1.top * y.1.bot ≤ y.1.top * o.1.bot; omega
      refine ⟨e, h1, h2.imp id (List.mem_cons_of_mem _), h3, fun x hx => ?_⟩
      rcases List.mem_cons.mp hx with rfl | hx
      · exact h3.trans hle.bp ho.bp hy.bp hoy
      · exact h4 x hx
theorem best_is {es : List Ent} (he : ∀ e ∈ es, LowF (fr e)) : (es = [] ∧ bestF es = none) ∨ ∃ e, bestF es = some e ∧ e ∈ es ∧ ∀ x ∈ es, Le (fr e) (fr x) := by
  cases es with
  | nil => exact .inl ⟨rfl, rfl⟩
  | cons y es =>
    obtain ⟨e, h1, h2, h3, h4⟩ := best_is' es y (fun e h => he e (List.mem_cons_of_mem _ h)) (he y List.mem_cons_self)
    refine .inr ⟨e, h1, h2.elim (fun z => by rw [z]; exact List.mem_cons_self) (List.mem_cons_of_mem _), fun x hx => ?_⟩
    rcases List.mem_cons.mp hx with rfl | hx
    · exact h3
    · exact h4 x hx
end P64
/-! The law's levels, its tables, and what both tables have to do with one another. -/
namespace P64
/-- reached by at most d factors -/
inductive Dep (gs : List Fr) : Nat → Fr → Prop where
  | one {d : Nat} : Dep gs d (1, 1)
  | step {d : Nat} {x g : Fr} : Dep gs d x → g ∈ gs → Dep gs (d + 1) (mulF x g)
theorem Dep.mono {gs : List Fr} {x : Fr} : ∀ {d : Nat} {d' : Nat}, Dep gs d x → d ≤ d' → Dep gs d' x
  | _, _, .one, _ => .one
  | d + 1, d' + 1, .step h hg, hl => .step (h.mono (by omega)) hg
theorem lowF_one : LowF (1, 1) := low_one
theorem Dep.low {gs : List Fr} (hg : ∀ g ∈ gs, LowF g) {d : Nat} {x : Fr} (h : Dep gs d x) : LowF x := by
  induction h with
  | one => exact lowF_one
  | step _ h ih => exact mulF_low ih (hg _ h)
/-- what the law's levels are -/
structure Lv (gs : List Fr) (m n : Nat) (L : Nat → Fr) : Prop where
  low : ∀ t, t < n → LowF (L t)
  one : ∀ t, t < n → Le (1, 1) (L t)
  asc : ∀ i j, i < n → j < n → (Le (L i) (L j) ↔ i ≤ j)
  has : ∀ d x, d ≤ m → Dep gs d x → ∃ t, t < n ∧ L t = x
/-- what the law's inner places are -/
def Inn (n : Nat) (L : Nat → Fr) (g : Fr) (p : Nat → Int) : Prop := ∀ t, t < n → -1 ≤ p t ∧ p t < n ∧ ∀ i, i < n → ((i : Int) ≤ p t ↔ Le (mulF (L i) g) (L t))
/-- the two tables of a stretch -/
structure Rel (gs : List Fr) (lim : Int) (n : Nat) (L : Nat → Fr) (d : Nat) (es : List Ent) (f : Nat → Int) : Prop where
  dep : ∀ e ∈ es, Dep gs d (fr e)
  m0 : ∀ e ∈ es, 0 ≤ e.1.most
  m1 : ∀ e ∈ es, e.1.most ≤ lim
  nn : ∀ t, t < n → 0 ≤ f t
  snd : ∀ e ∈ es, ∀ t, t < n → Le (fr e) (L t) → f t ≤ e.1.most
  cmp : ∀ t, t < n → f t ≤ lim → ∃ e ∈ es, e.1.most ≤ f t ∧ Le (fr e) (L t)
section
variable {gs : List Fr} {lim : Int} {m n : Nat} {L : Nat → Fr}
theorem Rel.front {d : Nat} {es : List Ent} {f : Nat → Int} (hg : ∀ g ∈ gs, LowF g) (V : Lv gs m n L) (h : Rel gs lim n L d es f) : Rel gs lim n L d (frontF es) f := by
  refine ⟨fun e he => h.dep e (front_mem he), fun e he => h.m0 e (front_mem he), fun e he => h.m1 e (front_mem he), h.nn, fun e he => h.snd e (front_mem he), fun t ht hf => ?_⟩
  obtain ⟨e, he, h1, h2⟩ := h.cmp t ht hf
  obtain ⟨o, ho, hb⟩ := front_cover (fun e he => (h.dep e he).low hg) he
  obtain ⟨b1, b2⟩ := betters_iff.mp hb
  exact ⟨o, ho, Int.le_trans b1 h1, b2.trans ((h.dep o (front_mem ho)).low hg).bp ((h.dep e he).low hg).bp (V.low t ht).bp h2⟩
theorem join_most (a b : Fc) : (fJoin a b).most = a.most + b.most := by unfold fJoin; split <;> rfl
theorem join_fr (a b : Ent) : (fr (joinE a b) = fr a ∧ Le (fr b) (fr a)) ∨ (fr (joinE a b) = fr b ∧ Le (fr a) (fr b)) := by
  by_cases c : a.1.top * b.1.bot - b.1.top * a.1.bot > 0
  · refine .inl ⟨?_, ?_⟩
    · unfold joinE fr fJoin
      simp only
      rw [if_pos c]
    · show b.1.top * a.1.bot ≤ a.1.top * b.1.bot
      omega
  · refine .inr ⟨?_, ?_⟩
    · unfold joinE fr fJoin
      simp only
      rw [if_neg c]
    · show a.1.top * b.1.bot ≤ b.1.top * a.1.bot
      omega
theorem mem_joins {ones twos : List Ent} {e : Ent} : e ∈ joinsF ones twos lim ↔ ∃ a ∈ ones, ∃ b ∈ twos, e = joinE a b ∧ a.1.most + b.1.most ≤ lim := by
  unfold joinsF
  simp only [List.mem_flatMap, List.mem_filter, List.mem_map, decide_eq_true_eq]
  constructor
  · rintro ⟨a, ha, ⟨b, hb, rfl⟩, hm⟩
    exact ⟨a, ha, b, hb, rfl, by rw [← join_most]; exact hm⟩
  · rintro ⟨a, ha, b, hb, rfl, hm⟩
    exact ⟨a, ha, ⟨b, hb, rfl⟩, by show (fJoin a.1 b.1).most ≤ lim; rw [join_most]; exact hm⟩
/-- all joins of the stretch's parts, and the least sums -/
theorem rel_joins {d : Nat} (hg : ∀ g ∈ gs, LowF g) (V : Lv gs m n L) (h0 : 0 ≤ lim) (k : Nat) (A B : Nat → List Ent) (fA fB : Nat → Nat → Int) (f : Nat → Int)
    (hA : ∀ i, i < k → ∃ e, e ≤ d ∧ Rel gs lim n L e (A i) (fA i)) (hB : ∀ i, i < k → ∃ e, e ≤ d ∧ Rel gs lim n L e (B i) (fB i))
    (f1 : ∀ t, t < n → ∀ i, i < k → f t ≤ fA i t + fB i t) (f2 : ∀ t, t < n → f t = lim + 1 ∨ ∃ i, i < k ∧ f t = fA i t + fB i t) :
    Rel gs lim n L d ((List.range k).flatMap fun i => joinsF (A i) (B i) lim) f := by
  have un : ∀ e ∈ (List.range k).flatMap (fun i => joinsF (A i) (B i) lim), ∃ i, i < k ∧ ∃ a ∈ A i, ∃ b ∈ B i, e = joinE a b ∧ a.1.most + b.1.most ≤ lim := fun e he => by
    obtain ⟨i, hi, h⟩ := List.mem_flatMap.mp he
    exact ⟨i, List.mem_range.mp hi, mem_joins.mp h⟩
  refine ⟨fun e he => ?_, fun e he => ?_, fun e he => ?_, fun t ht => ?_, fun e he t ht hl => ?_, fun t ht hf => ?_⟩
  · obtain ⟨i, hi, a, ha, b, hb, rfl, _⟩ := un e he
    obtain ⟨_, l1, r1⟩ := hA i hi
    obtain ⟨_, l2, r2⟩ := hB i hi
    rcases join_fr a b with ⟨e, _⟩ | ⟨e, _⟩
    · rw [e]; exact (r1.dep a ha).mono l1
    · rw [e]; exact (r2.dep b hb).mono l2
  · obtain ⟨i, hi, a, ha, b, hb, rfl, _⟩ := un e he
    obtain ⟨_, l1, r1⟩ := hA i hi
    obtain ⟨_, l2, r2⟩ := hB i hi
    show 0 ≤ (fJoin a.1 b.1).most
    rw [join_most]
    have := r1.m0 a ha
    have := r2.m0 b hb
    omega
  · obtain ⟨i, hi, a, ha, b, hb, rfl, h⟩ := un e he
    show (fJoin a.1 b.1).most ≤ lim
    rw [join_most]
    exact h
  · rcases f2 t ht with h | ⟨i, hi, h⟩
    · omega
    · obtain ⟨_, l1, r1⟩ := hA i hi
      obtain ⟨_, l2, r2⟩ := hB i hi
      have := r1.nn t ht
      have := r2.nn t ht
      omega
  · obtain ⟨i, hi, a, ha, b, hb, rfl, h⟩ := un e he
    obtain ⟨_, l1, r1⟩ := hA i hi
    obtain ⟨_, l2, r2⟩ := hB i hi
    have la := (r1.dep a ha).low hg
    have lb := (r2.dep b hb).low hg
    have lt := V.low t ht
    have both : Le (fr a) (L t) ∧ Le (fr b) (L t) := by
      rcases join_fr a b with ⟨e, h⟩ | ⟨e, h⟩
      · rw [e] at hl
        exact ⟨hl, h.trans lb.bp la.bp lt.bp hl⟩
      · rw [e] at hl
        exact ⟨h.trans la.bp lb.bp lt.bp hl, hl⟩
    have s1 := r1.snd a ha t ht both.1
    have s2 := r2.snd b hb t ht both.2
    have s3 := f1 t ht i hi
    show f t ≤ (fJoin a.1 b.1).most
    rw [join_most]
    omega
  · rcases f2 t ht with h | ⟨i, hi, h⟩
    · omega
    · obtain ⟨_, l1, r1⟩ := hA i hi
      obtain ⟨_, l2, r2⟩ := hB i hi
      have n1 := r1.nn t ht
      have n2 := r2.nn t ht
      obtain ⟨a, ha, a1, a2⟩ := r1.cmp t ht (by omega)
      obtain ⟨b, hb, b1, b2⟩ := r2.cmp t ht (by omega)
      refine ⟨joinE a b, List.mem_flatMap.mpr ⟨i, List.mem_range.mpr hi, mem_joins.mpr ⟨a, ha, b, hb, rfl, by omega⟩⟩, ?_, ?_⟩
      · show (fJoin a.1 b.1).most ≤ f t
        rw [join_most]
        omega
      · rcases join_fr a b with ⟨e, _⟩ | ⟨e, _⟩
        · rw [e]; exact a2
        · rw [e]; exact b2
/-- a stretch of one -/
theorem rel_one (V : Lv gs m n L) (c : Cnt) (hc : 0 ≤ c.2) (h0 : 0 ≤ lim) : Rel gs lim n L 0 (if c.2 ≤ lim then [takeE c] else []) (fun _ => imin c.2 (lim + 1)) := by
  have hi : imin c.2 (lim + 1) ≤ c.2 := imin_le'
  by_cases h : c.2 ≤ lim
  · rw [if_pos h]
    have e : imin c.2 (lim + 1) = c.2 := by unfold imin; split <;> omega
    refine ⟨fun e he => ?_, fun e he => ?_, fun e he => ?_, fun t ht => imin_nn hc (by omega), fun e he t ht hl => ?_, fun t ht hf => ?_⟩
    · obtain rfl := List.mem_singleton.mp he; exact .one
    · obtain rfl := List.mem_singleton.mp he; exact hc
    · obtain rfl := List.mem_singleton.mp he; exact h
    · obtain rfl := List.mem_singleton.mp he; exact hi
    · refine ⟨takeE c, List.mem_singleton.mpr rfl, ?_, V.one t ht⟩
      show c.2 ≤ imin c.2 (lim + 1)
      rw [e]
      exact Int.le_refl _
  · rw [if_neg h]
    refine ⟨(fun e he => nomatch he), (fun e he => nomatch he), (fun e he => nomatch he), fun t ht => imin_nn hc (by omega), (fun e he => nomatch he), fun t ht hf => ?_⟩
    exfalso
    unfold imin at hf
    split at hf <;> omega
/-! ### steps -/
def shr (size k x : Int) : Int := imin x (k * k * imin size x)
theorem imin_mono {a b c d : Int} (h1 : a ≤ b) (h2 : c ≤ d) : imin a c ≤ imin b d := by unfold imin; split <;> split <;> omega
theorem sq_nn (k : Int) : 0 ≤ k * k := by
  rcases Int.le_total 0 k with h | h
  · exact Int.mul_nonneg h h
  · exact Int.mul_nonneg_of_nonpos_of_nonpos h h
theorem shr_mono {size k x y : Int} (h : x ≤ y) : shr size k x ≤ shr size k y := imin_mono h (Int.mul_le_mul_of_nonneg_left (imin_mono (Int.le_refl _) h) (sq_nn k))
theorem shr_le {size k x : Int} : shr size k x ≤ x := imin_le'
theorem shr_nn {size k x : Int} (hs : 0 ≤ size) (hx : 0 ≤ x) : 0 ≤ shr size k x := imin_nn hx (Int.mul_nonneg (sq_nn k) (imin_nn hs hx))
theorem thin_most (size k : Int) (a : Ent) : (thinE size k a).1.most = shr size k a.1.most := rfl
theorem thin_fr (size k : Int) (a : Ent) : fr (thinE size k a) = mulF (fr a) (gF k) := rfl
theorem mem_steps {es : List Ent} {size : Int} {ks : List Int} {e : Ent} : e ∈ stepsF es size ks ↔ ∃ a ∈ es, ∃ k ∈ ks, e = thinE size k a := by
  unfold stepsF
  simp only [List.mem_flatMap, List.mem_map]
  constructor
  · rintro ⟨a, ha, k, hk, rfl⟩
    exact ⟨a, ha, k, hk, rfl⟩
  · rintro ⟨a, ha, k, hk, rfl⟩
    exact ⟨a, ha, k, hk, rfl⟩
/-- one kind's step of the law's number -/
def kStep (size lim : Int) (f : Nat → Int) (t : Nat) (x : Int) (q : Int × (Nat → Int)) : Int := if 0 ≤ q.2 t ∧ f (q.2 t).toNat ≤ lim then imin x (shr size q.1 (f (q.2 t).toNat)) else x
def stepL (size lim : Int) (qs : List (Int × (Nat → Int))) (f : Nat → Int) (t : Nat) : Int := qs.foldl (kStep size lim f t) (imin (f t) (lim + 1))
theorem kfold (size lim : Int) (f : Nat → Int) (t : Nat) : ∀ (qs : List (Int × (Nat → Int))) (x : Int), let r := qs.foldl (kStep size lim f t) x
    r ≤ x ∧ (∀ q ∈ qs, 0 ≤ q.2 t → f (q.2 t).toNat ≤ lim → r ≤ shr size q.1 (f (q.2 t).toNat)) ∧ (r = x ∨ ∃ q ∈ qs, 0 ≤ q.2 t ∧ f (q.2 t).toNat ≤ lim ∧ r = shr size q.1 (f (q.2 t).toNat))
  | [], x => ⟨Int.le_refl _, (fun q h => nomatch h), .inl rfl⟩
  | q :: qs, x => by
    obtain ⟨h1, h2, h3⟩ := kfold size lim f t qs (kStep size lim f t x q)
    rw [List.foldl_cons]
    generalize List.foldl (kStep size lim f t) (kStep size lim f t x q) qs = r at h1 h2 h3
    have s1 : kStep size lim f t x q ≤ x := by
      unfold kStep
      split
      · exact imin_le'
      · exact Int.le_refl _
    refine ⟨Int.le_trans h1 s1, fun y hy => ?_, ?_⟩
    · rcases List.mem_cons.mp hy with rfl | hy
      · intro a b
        refine Int.le_trans h1 ?_
        unfold kStep
        rw [if_pos ⟨a, b⟩]
        exact imin_le
      · exact h2 y hy
    · rcases h3 with h3 | ⟨y, hy, h3⟩
      · by_cases c : 0 ≤ q.2 t ∧ f (q.2 t).toNat ≤ lim
        · have e : kStep size lim f t x q = imin x (shr size q.1 (f (q.2 t).toNat)) := by unfold kStep; rw [if_pos c]
          rw [e] at h3
          unfold imin at h3
          split at h3
          · exact .inr ⟨q, List.mem_cons_self, c.1, c.2, h3⟩
          · exact .inl h3
        · have e : kStep size lim f t x q = x := by unfold kStep; rw [if_neg c]
          rw [e] at h3
          exact .inl h3
      · exact .inr ⟨y, List.mem_cons_of_mem _ hy, h3⟩
theorem rel_full {size : Int} {ks : List Int} {d : Nat} {br : List Ent} {f : Nat → Int} {qs : List (Int × (Nat → Int))} (hg : ∀ g ∈ gs, LowF g) (V : Lv gs m n L) (hs : 0 ≤ size) (h0 : 0 ≤ lim) (hd : d + 1 ≤ m)
    (hk : ∀ k ∈ ks, gF k ∈ gs) (hq : qs.map (·.1) = ks) (hi : ∀ q ∈ qs, Inn n L (gF q.1) q.2) (R : Rel gs lim n L d br f) : Rel gs lim n L (d + 1) (fullF size ks br) (stepL size lim qs f) := by
  refine Rel.front hg V ?_
  have kq : ∀ k ∈ ks, ∃ q ∈ qs, q.1 = k := fun k h => by rw [← hq] at h; exact List.mem_map.mp h
  have qk : ∀ q ∈ qs, q.1 ∈ ks := fun q h => by rw [← hq]; exact List.mem_map.mpr ⟨q, h, rfl⟩
  have un : ∀ e ∈ br ++ stepsF br size ks, e ∈ br ∨ ∃ a ∈ br, ∃ k ∈ ks, e = thinE size k a := fun e he => (List.mem_append.mp he).imp id mem_steps.mp
  have pin : ∀ q ∈ qs, ∀ t, t < n → 0 ≤ q.2 t → (q.2 t).toNat < n := fun q h t ht h0 => by
    have := (hi q h t ht).2.1
    omega
  refine ⟨fun e he => ?_, fun e he => ?_, fun e he => ?_, fun t ht => ?_, fun e he t ht hl => ?_, fun t ht hf => ?_⟩
  · rcases un e he with h | ⟨a, ha, k, hk', rfl⟩
    · exact (R.dep e h).mono (Nat.le_succ d)
    · rw [thin_fr]
      exact .step (R.dep a ha) (hk k hk')
  · rcases un e he with h | ⟨a, ha, k, hk', rfl⟩
    · exact R.m0 e h
    · exact shr_nn hs (R.m0 a ha)
  · rcases un e he with h | ⟨a, ha, k, hk', rfl⟩
    · exact R.m1 e h
    · exact Int.le_trans shr_le (R.m1 a ha)
  · obtain ⟨_, _, h3⟩ := kfold size lim f t qs (imin (f t) (lim + 1))
    rcases h3 with h3 | ⟨q, hq', p0, _, h3⟩
    · show 0 ≤ List.foldl _ _ _
      rw [h3]
      exact imin_nn (R.nn t ht) (by omega)
    · show 0 ≤ List.foldl _ _ _
      rw [h3]
      exact shr_nn hs (R.nn _ (pin q hq' t ht p0))
  · obtain ⟨h1, h2, _⟩ := kfold size lim f t qs (imin (f t) (lim + 1))
    rcases un e he with h | ⟨a, ha, k, hk', rfl⟩
    · exact Int.le_trans h1 (Int.le_trans imin_le' (R.snd e h t ht hl))
    · obtain ⟨q, hq', rfl⟩ := kq k hk'
      rw [thin_fr] at hl
      obtain ⟨i, hi', ei⟩ := V.has d (fr a) (by omega) (R.dep a ha)
      rw [← ei] at hl
      obtain ⟨_, p2, p3⟩ := hi q hq' t ht
      have ip := (p3 i hi').mpr hl
      have p0 : 0 ≤ q.2 t := by omega
      have hp := pin q hq' t ht p0
      have le : Le (fr a) (L (q.2 t).toNat) := by
        rw [← ei]
        exact (V.asc i _ hi' hp).mpr (by omega)
      have s := R.snd a ha _ hp le
      exact Int.le_trans (h2 q hq' p0 (Int.le_trans s (R.m1 a ha))) (shr_mono s)
  · obtain ⟨_, _, h3⟩ := kfold size lim f t qs (imin (f t) (lim + 1))
    have hf : List.foldl (kStep size lim f t) (imin (f t) (lim + 1)) qs ≤ lim := hf
    show ∃ e ∈ br ++ stepsF br size ks, e.1.most ≤ List.foldl (kStep size lim f t) (imin (f t) (lim + 1)) qs ∧ Le (fr e) (L t)
    rcases h3 with h3 | ⟨q, hq', p0, pl, h3⟩
    · rw [h3] at hf ⊢
      have e : imin (f t) (lim + 1) = f t := by unfold imin at hf ⊢; split <;> split at hf <;> omega
      rw [e] at hf ⊢
      obtain ⟨e, he, r1, r2⟩ := R.cmp t ht hf
      exact ⟨e, List.mem_append_left _ he, r1, r2⟩
    · rw [h3]
      have hp := pin q hq' t ht p0
      obtain ⟨a, ha, r1, r2⟩ := R.cmp _ hp pl
      refine ⟨thinE size q.1 a, List.mem_append_right _ (mem_steps.mpr ⟨a, ha, q.1, qk q hq', rfl⟩), shr_mono r1, ?_⟩
      rw [thin_fr]
      have lg := hg _ (hk _ (qk q hq'))
      have la := (R.dep a ha).low hg
      have lp := V.low _ hp
      refine (mulF_mono la lp lg r2).trans (mulF_low la lg).bp (mulF_low lp lg).bp (V.low t ht).bp ?_
      have := ((hi q hq' t ht).2.2 _ hp).mp (by omega)
      exact this
/-! ### the law's tables -/
def lOne (cs : List Cnt) (a : Nat) (lim : Int) : Nat → Int := fun _ => match cs[a]? with
  | some c => imin c.2 (lim + 1)
  | none => lim + 1
def lStart (cs : List Cnt) (a b : Nat) (lim : Int) : Nat → Int := if b = a + 1 then lOne cs a lim else fun _ => lim + 1
def lMid (X : Nat → Nat → Nat → Int) (a b : Nat) (f : Nat → Int) (i : Nat) : Nat → Int := fun t => imin (f t) (X a (a + 1 + i) t + X (a + 1 + i) b t)
def lBare (cs : List Cnt) (X : Nat → Nat → Nat → Int) (a b : Nat) (lim : Int) : Nat → Int := (List.range (b - (a + 1))).foldl (lMid X a b) (lStart cs a b lim)
def lt (cs : List Cnt) (size lim : Int) (qs : List (Int × (Nat → Int))) : Nat → Nat → Nat → Nat → Int
  | 0, _, _ => fun _ => 0
  | w + 1, a, b => if b = a + (w + 1) then stepL size lim qs (lBare cs (lt cs size lim qs w) a b lim) else lt cs size lim qs w a b
theorem lMids (X : Nat → Nat → Nat → Int) (a b : Nat) (t : Nat) : ∀ (k : Nat) (f : Nat → Int), let r := ((List.range k).foldl (lMid X a b) f) t
    r ≤ f t ∧ (∀ i, i < k → r ≤ X a (a + 1 + i) t + X (a + 1 + i) b t) ∧ (r = f t ∨ ∃ i, i < k ∧ r = X a (a + 1 + i) t + X (a + 1 + i) b t)
  | 0, f => ⟨Int.le_refl _, (fun i h => by omega), .inl rfl⟩
  | k + 1, f => by
    obtain ⟨h1, h2, h3⟩ := lMids X a b t k f
    rw [List.range_succ, List.foldl_append, List.foldl_cons, List.foldl_nil]
    generalize (List.range k).foldl (lMid X a b) f = g at h1 h2 h3
    show imin (g t) (X a (a + 1 + k) t + X (a + 1 + k) b t) ≤ f t ∧ (∀ i, i < k + 1 → imin (g t) (X a (a + 1 + k) t + X (a + 1 + k) b t) ≤ X a (a + 1 + i) t + X (a + 1 + i) b t) ∧ (imin (g t) (X a (a + 1 + k) t + X (a + 1 + k) b t) = f t ∨ ∃ i, i < k + 1 ∧ imin (g t) (X a (a + 1 + k) t + X (a + 1 + k) b t) = X a (a + 1 + i) t + X (a + 1 + i) b t)
    refine ⟨Int.le_trans imin_le' h1, fun i hi => ?_, ?_⟩
    · rcases Nat.lt_or_ge i k with h | h
      · exact Int.le_trans imin_le' (h2 i h)
      · obtain rfl : i = k := by omega
        exact imin_le
    · by_cases c : X a (a + 1 + k) t + X (a + 1 + k) b t < g t
      · exact .inr ⟨k, Nat.lt_succ_self k, by unfold imin; rw [if_pos c]⟩
      · have e : imin (g t) (X a (a + 1 + k) t + X (a + 1 + k) b t) = g t := by unfold imin; rw [if_neg c]
        rw [e]
        exact h3.imp id fun ⟨i, hi, h⟩ => ⟨i, by omega, h⟩
theorem rel_tb {cs : List Cnt} {size : Int} {ks : List Int} {qs : List (Int × (Nat → Int))} (hg : ∀ g ∈ gs, LowF g) (V : Lv gs m n L) (hs : 0 ≤ size) (h0 : 0 ≤ lim) (hc : ∀ c ∈ cs, 0 ≤ c.2)
    (hk : ∀ k ∈ ks, gF k ∈ gs) (hq : qs.map (·.1) = ks) (hi : ∀ q ∈ qs, Inn n L (gF q.1) q.2) : ∀ w, w ≤ m → ∀ a b, a < b → b ≤ a + w → b ≤ cs.length →
    Rel gs lim n L (b - a) (tb cs size ks lim w a b) (lt cs size lim qs w a b)
  | 0, _, a, b, h1, h2, _ => absurd h1 (by omega)
  | w + 1, hw, a, b, h1, h2, h3 => by
    have ih := rel_tb hg V hs h0 hc hk hq hi w (by omega)
    unfold tb lt
    by_cases e : b = a + (w + 1)
    · rw [if_pos e, if_pos e]
      have go : Rel gs lim n L (b - a - 1) (bareF cs (tb cs size ks lim w) a b lim) (lBare cs (lt cs size lim qs w) a b lim) := by
        by_cases e1 : b = a + 1
        · have ha : a < cs.length := by omega
          have hat : cs[a]? = some cs[a] := List.getElem?_eq_getElem ha
          have r := rel_one (gs := gs) V cs[a] (hc _ (List.getElem_mem ha)) h0
          unfold bareF lBare lStart
          rw [if_pos e1, if_pos e1]
          have e2 : b - (a + 1) = 0 := by omega
          have e3 : b - a - 1 = 0 := by omega
          rw [e2, e3]
          show Rel gs lim n L 0 (bareOne cs a lim) (lOne cs a lim)
          unfold bareOne lOne
          rw [hat]
          exact r
        · unfold bareF
          rw [if_neg e1]
          refine Rel.front hg V ?_
          unfold bareAll
          have nn : ∀ t, lStart cs a b lim t = lim + 1 := fun t => by unfold lStart; rw [if_neg e1]
          refine rel_joins hg V h0 _ _ _ (fun i => lt cs size lim qs w a (a + 1 + i)) (fun i => lt cs size lim qs w (a + 1 + i) b) _ (fun i hi => ⟨_, ?_, ih a (a + 1 + i) (by omega) (by omega) (by omega)⟩) (fun i hi => ⟨_, ?_, ih (a + 1 + i) b (by omega) (by omega) (by omega)⟩) (fun t ht i hi => ?_) (fun t ht => ?_)
          · omega
          · omega
          · exact (lMids (lt cs size lim qs w) a b t _ (lStart cs a b lim)).2.1 i hi
          · rcases (lMids (lt cs size lim qs w) a b t (b - (a + 1)) (lStart cs a b lim)).2.2 with h | h
            · exact .inl (h.trans (nn t))
            · exact .inr h
      have e4 : b - a = b - a - 1 + 1 := by omega
      rw [e4]
      exact rel_full hg V hs h0 (by omega) hk hq hi go
    · rw [if_neg e, if_neg e]
      exact ih a b h1 (by omega) h3
/-- the least factor is the one that the law finds -/
theorem due_is {d : Nat} {es : List Ent} {f : Nat → Int} (hg : ∀ g ∈ gs, LowF g) (V : Lv gs m n L) (hd : d ≤ m) (R : Rel gs lim n L d es f) :
    (bestF es = none ∧ ∀ t, t < n → lim < f t) ∨ ∃ e i, bestF es = some e ∧ e ∈ es ∧ i < n ∧ L i = fr e ∧ f i ≤ lim ∧ ∀ t, t < i → lim < f t := by
  rcases best_is (es := es) fun e he => (R.dep e he).low hg with ⟨h, hb⟩ | ⟨e, hb, he, hl⟩
  · refine .inl ⟨hb, fun t ht => ?_⟩
    rcases Int.lt_or_le lim (f t) with h' | h'
    · exact h'
    · obtain ⟨e, he, _⟩ := R.cmp t ht h'
      rw [h] at he
      exact nomatch he
  · obtain ⟨i, hi, ei⟩ := V.has d (fr e) hd (R.dep e he)
    refine .inr ⟨e, i, hb, he, hi, ei, ?_, fun t ht => ?_⟩
    · refine Int.le_trans (R.snd e he i hi ?_) (R.m1 e he)
      rw [ei]
      exact Le.refl _
    · rcases Int.lt_or_le lim (f t) with h' | h'
      · exact h'
      · exfalso
        obtain ⟨x, hx, _, h2⟩ := R.cmp t (by omega) h'
        have := (hl x hx).trans ((R.dep e he).low hg).bp ((R.dep x hx).low hg).bp (V.low t (by omega)).bp h2
        rw [← ei] at this
        have := (V.asc i t hi (by omega)).mp this
        omega
end
end P64
/-! What the walks share: the facts of the top, plans in the heap. -/
namespace P64
open PySem PySem.Spec PyProof.Rows L2 SX EX WK
def top (i : Nat) : Stmt := PySem.Challenge.pw_wholecables_k64_best_plan_whole.main.body.getD i (.Pass ⟨0, 0, 0, 0⟩)
def clsBody : Stmt → List Stmt
  | .ClassDef _ _ _ b _ _ _ _ _ _ _ => b
  | _ => []

/-- a def as its callers see it -/
def Cal (P : Program) (w : World) (K : PySem.W.Frag) (mg : Str → Option Value) (base : Heap) (k : Nat) (x : Str) (ps : List Str) (sp : Sp) : Prop :=
  ∃ (f : Addr) (fd : FuncData), FnOk P w K mg base CX0 k f fd ps sp ∧ mg x = some (.ref f) ∧ PySem.W.keepIn K (.ref f) = true ∧ Binds K fd ps []
theorem Cal.mono {P : Program} {w : World} {K : PySem.W.Frag} {mg : Str → Option Value} {base : Heap} {j k : Nat} {x : Str} {ps : List Str} {sp : Sp} (C : Cal P w K mg base j x ps sp) (h : j ≤ k) : Cal P w K mg base k x ps sp := by
  obtain ⟨f, fd, G, m, kp, b⟩ := C
  exact ⟨f, fd, G.mono h, m, kp, b⟩
theorem pe_cal {X : Cx} {k : Nat} {x : Str} {ps : List Str} {sp : Sp} {p pos : Pos} {e : Expr} {es : List Expr} {t : TA} (C : Cal X.prog X.w X.K X.mg X.base k x ps sp) (hr : Room k X.A) (hg : Gl X x) (ha : PA X (e :: es) t)
    (hdb : (x == ("__debug__" : Str)) = false := by decide) (he : starEach (e :: es) X.env = (false, eval e X.env) :: starEach es X.env := by rfl) (hpl : (backTo pos (starEach es X.env)).any (·.1) = false := by rfl) :
    PE X (.Call (.Name x p) (e :: es) [] pos) (tCall sp [] E0 t) := by
  obtain ⟨f, fd, G, m, kp, b⟩ := C
  exact pe_call G hr hg m kp b .nil pass0 ha hdb he hpl

/-- the built-in names that the text asks for are the built-in ones -/
structure Txt (mg : Str → Option Value) : Prop where
  b_len : mg "len" = none
  b_int : mg "int" = none
  b_str : mg "str" = none
  b_tuple : mg "tuple" = none
  b_list : mg "list" = none
  b_bool : mg "bool" = none
  b_isinstance : mg "isinstance" = none
  b_range : mg "range" = none
  b_any : mg "any" = none
  b_max : mg "max" = none
  b_min : mg "min" = none
  b_abs : mg "abs" = none
  g_gcd : mg "gcd" = some (.builtin "math.gcd")
/-- a plan in the heap -/
def PlanAt (H : Hp) : Plan → Addr → Prop
  | .take n, p => H p = some (.tup [.str "take", .str (S n)])
  | .join a b, p => ∃ pa pb, H p = some (.tup [.str "join", .ref pa, .ref pb]) ∧ PlanAt H a pa ∧ PlanAt H b pb
  | .thin k a, p => ∃ pa, H p = some (.tup [.str "thin", .int k, .ref pa]) ∧ PlanAt H a pa
theorem PlanAt.same {H H' : Hp} (e : Same H H') : ∀ {a : Plan} {p : Addr}, PlanAt H a p → PlanAt H' a p
  | .take _, _, h => e _ _ h
  | .join _ _, _, ⟨pa, pb, h, ha, hb⟩ => ⟨pa, pb, e _ _ h, PlanAt.same e ha, PlanAt.same e hb⟩
  | .thin _ _, _, ⟨pa, h, ha⟩ => ⟨pa, e _ _ h, PlanAt.same e ha⟩
theorem same_new {H : Hp} {p : Addr} (h : H p = none) (o : HO) : Same H (upd H p o) := fun b u q => by rw [upd_ne (ne_of_none q h)]; exact q
theorem line_ge {n : Nat} (h : n ≤ 100000) : n ≤ sizeLine := Nat.le_trans h (by rw [sizeLine_eq]; decide)
theorem slen (l : List Nat) : (S l).length = l.length := S_len l
theorem sline {l : List Nat} (h : l.length ≤ 100000) : (S l).length ≤ sizeLine := by rw [slen]; exact line_ge h
theorem at_pos {α : Type} {xs : List α} {z : Int} {v : α} (h0 : 0 ≤ z) (h : xs[z.toNat]? = some v) : atI xs z = some v := by
  have e : z = ((z.toNat : Nat) : Int) := by omega
  rw [e]
  exact atI_nat h
theorem two_line : 2 ≤ sizeLine := line_ge (by omega)
theorem three_line : 3 ≤ sizeLine := line_ge (by omega)
theorem lc_yes {σ : L2.St} {H : Hp} {A B : Hp → Prop} (h : A H) : tYes σ H (fun b H3 => if b = true then A H3 else B H3) := by
  show (if true = true then A H else B H)
  exact iteT h
theorem ifT {c : Bool} {A B : Prop} (hc : c = true) (h : A) : if c = true then A else B := by rw [if_pos hc]; exact h
theorem ifF {c : Bool} {A B : Prop} (hc : c = false) (h : B) : if c = true then A else B := by rw [hc, if_neg Bool.false_ne_true]; exact h
theorem dec_ne {a b : V} (h : a ≠ b) : decide (a = b) = false := decide_eq_false h
theorem same_at {H H' : Hp} {D : Addr} {o : HO} (e : Same H H') (h : H D = none) : Same H (upd H' D o) := fun b u q => by
  have hne : b ≠ D := fun z => by
    rw [z, h] at q
    cases q
  rw [upd_ne hne]
  exact e _ _ q
theorem dec_lt {a b : Int} (h : decide (a < b) = true) : a < b := of_decide_eq_true h
theorem not_lt {a b : Int} (h : ¬ decide (a < b) = true) : ¬ a < b := of_decide_eq_false (Bool.eq_false_iff.mpr h)
theorem ifs_of {c : TT} {t u : TS} {D : Ends} {σ : L2.St} {H : Hp} (b : Bool) (hb : ∀ Q : Bool → Hp → Prop, Q b H → c σ H Q) (ht : b = true → t D σ H) (hu : b = false → u D σ H) : tIfS c t u D σ H := by
  refine hb _ ?_
  cases b with
  | true => exact ifT rfl (ht rfl)
  | false => exact ifF rfl (hu rfl)
theorem ifs_seq {c : TT} {t u r : TS} {D : Ends} {σ : L2.St} {H : Hp} (b : Bool) (hb : ∀ Q : Bool → Hp → Prop, Q b H → c σ H Q) (ht : b = true → t { D with nx := r D } σ H) (hu : b = false → u { D with nx := r D } σ H) : tSeq (tIfS c t u) r D σ H := ifs_of b hb ht hu
theorem ifs_seqN {c : TT} {t r : TS} {D : Ends} {σ : L2.St} {H : Hp} (b : Bool) (hb : ∀ Q : Bool → Hp → Prop, Q b H → c σ H Q) (ht : b = true → t { D with nx := r D } σ H) (hu : b = false → r D σ H) : tSeq (tIfS c t tNext) r D σ H := ifs_of b hb ht hu
theorem seq_asg {te : TE} {i : Nat} {u : TS} {D : Ends} {σ : L2.St} {H : Hp} (h : te σ H fun x H1 => u D (σ.set i (some x)) H1) : tSeq (tAsg te (gName i)) u D σ H := h
/-- a pair of ints -/
def FrAt (H : Hp) (a : Addr) (t b : Int) : Prop := H a = some (.tup [.int t, .int b])
theorem FrAt.same {H H' : Hp} {a : Addr} {t b : Int} (e : Same H H') (h : FrAt H a t b) : FrAt H' a t b := e _ _ h
/-- a forecast in the heap, as a tuple -/
def FcAt (H : Hp) (p : Addr) (a : Fc) : Prop := ∃ f, H p = some (.tup [.int a.most, .int a.peak, .ref f]) ∧ FrAt H f a.top a.bot
theorem FcAt.same {H H' : Hp} {p : Addr} {a : Fc} (e : Same H H') (h : FcAt H p a) : FcAt H' p a := let ⟨f, h1, h2⟩ := h; ⟨f, e _ _ h1, e _ _ h2⟩
/-- an entry in the heap -/
def EntAt (H : Hp) (p : Addr) (e : Ent) : Prop := ∃ a b, H p = some (.tup [.ref a, .ref b]) ∧ FcAt H a e.1 ∧ PlanAt H e.2 b
theorem EntAt.same {H H' : Hp} {p : Addr} {e : Ent} (z : Same H H') (h : EntAt H p e) : EntAt H' p e := let ⟨a, b, h1, h2, h3⟩ := h; ⟨a, b, z _ _ h1, h2.same z, h3.same z⟩
/-- entries, as a list's items -/
def Ents (H : Hp) (vs : List V) (es : List Ent) : Prop := ∃ bs : List Addr, vs = bs.map V.ref ∧ Paired (EntAt H) bs es
theorem Paired.len {α β : Type} {F : α → β → Prop} : ∀ {as : List α} {bs : List β}, Paired F as bs → as.length = bs.length
  | _, _, .nil => rfl
  | _, _, .cons _ t => by rw [List.length_cons, List.length_cons, Paired.len t]
theorem Paired.at {α β : Type} {F : α → β → Prop} : ∀ {as : List α} {bs : List β} {i : Nat} {b : β}, Paired F as bs → bs[i]? = some b → ∃ a, as[i]? = some a ∧ F a b
  | _, _, _, _, .nil, e => by simp at e
  | _, _, 0, _, .cons r _, e => by cases e; exact ⟨_, rfl, r⟩
  | _, _, i + 1, b, .cons _ t, e => by
    obtain ⟨a, h1, h2⟩ := Paired.at (i := i) (b := b) t (by simpa using e)
    exact ⟨a, by simpa using h1, h2⟩
theorem Paired.app {α β : Type} {F : α → β → Prop} : ∀ {as as' : List α} {bs bs' : List β}, Paired F as bs → Paired F as' bs' → Paired F (as ++ as') (bs ++ bs')
  | _, _, _, _, .nil, h => h
  | _, _, _, _, .cons r t, h => .cons r (Paired.app t h)
theorem Ents.nil {H : Hp} : Ents H [] [] := ⟨[], rfl, .nil⟩
theorem Ents.same {H H' : Hp} {vs : List V} {es : List Ent} (z : Same H H') (h : Ents H vs es) : Ents H' vs es := let ⟨bs, h1, h2⟩ := h; ⟨bs, h1, L2.Paired.mapP h2 fun _ _ => EntAt.same z⟩
theorem Ents.len {H : Hp} {vs : List V} {es : List Ent} (h : Ents H vs es) : vs.length = es.length := by
  obtain ⟨bs, rfl, h2⟩ := h
  rw [List.length_map, Paired.len h2]
theorem Ents.app {H : Hp} {vs ws : List V} {es fs : List Ent} (h : Ents H vs es) (g : Ents H ws fs) : Ents H (vs ++ ws) (es ++ fs) := by
  obtain ⟨bs, rfl, h2⟩ := h
  obtain ⟨cs, rfl, g2⟩ := g
  exact ⟨bs ++ cs, List.map_append.symm, Paired.app h2 g2⟩
theorem Ents.one {H : Hp} {p : Addr} {e : Ent} (h : EntAt H p e) : Ents H [.ref p] [e] := ⟨[p], rfl, .cons h .nil⟩
/-- the item at i -/
theorem Ents.at {H : Hp} {vs : List V} {es : List Ent} {i : Nat} {x : V} (h : Ents H vs es) (hx : vs[i]? = some x) : ∃ p e, x = .ref p ∧ es[i]? = some e ∧ EntAt H p e := by
  obtain ⟨bs, rfl, h2⟩ := h
  have hi : i < es.length := by
    have := (List.getElem?_eq_some_iff.mp hx).1
    rw [List.length_map, Paired.len h2] at this
    exact this
  have he : es[i]? = some es[i] := List.getElem?_eq_getElem hi
  obtain ⟨p, hp, hpe⟩ := Paired.at h2 he
  rw [List.getElem?_map, hp] at hx
  exact ⟨p, es[i], (Option.some.inj hx).symm, he, hpe⟩
theorem Ents.at' {H : Hp} {vs : List V} {es : List Ent} {i : Nat} {e : Ent} (h : Ents H vs es) (he : es[i]? = some e) : ∃ p, vs[i]? = some (.ref p) ∧ EntAt H p e := by
  obtain ⟨bs, rfl, h2⟩ := h
  obtain ⟨p, hp, hpe⟩ := Paired.at h2 he
  exact ⟨p, by rw [List.getElem?_map, hp]; rfl, hpe⟩
theorem take_snoc {α : Type} {l : List α} {i : Nat} {x : α} (h : l[i]? = some x) : l.take (i + 1) = l.take i ++ [x] := by
  rw [List.take_add_one, h]
  rfl
theorem big_line {n : Nat} (h : n ≤ 16000000) : n ≤ sizeLine := Nat.le_trans h (by rw [sizeLine_eq]; decide)
/-- a def called with keywords -/
def CalN (P : Program) (w : World) (K : PySem.W.Frag) (mg : Str → Option Value) (base : Heap) (k : Nat) (x : Str) (ps : List Str) (n : Nat) (ks : List Str) (sp : Sp) : Prop :=
  ∃ (f : Addr) (fd : FuncData), FnOk P w K mg base CX0 k f fd ps sp ∧ mg x = some (.ref f) ∧ PySem.W.keepIn K (.ref f) = true ∧ KBn K fd ps n ks (fun us ws => us ++ ws) (fun vs zs => vs ++ zs)
theorem pe_calN {X : Cx} {k n : Nat} {x : Str} {ps ks : List Str} {sp : Sp} {p pos : Pos} {e : Expr} {es : List Expr} {kws : List Keyword} {t tk : TA} (C : CalN X.prog X.w X.K X.mg X.base k x ps n ks sp) (hr : Room k X.A) (hg : Gl X x) (ha : PA X (e :: es) t) (hkw : PK X kws tk)
    (hall : (backToKw pos (keywordEach kws X.env)).all (·.1.isSome) = true := by rfl) (hks : (backToKw pos (keywordEach kws X.env)).filterMap (·.1) = ks := by rfl)
    (hdb : (x == ("__debug__" : Str)) = false := by decide) (he : starEach (e :: es) X.env = (false, eval e X.env) :: starEach es X.env := by rfl)
    (hpl : ((backTo pos (starEach (e :: es) X.env)).any (·.1) || (backToKw pos (keywordEach kws X.env)).any (·.1.isNone)) = false := by rfl) :
    PE X (.Call (.Name x p) (e :: es) kws pos) (tCallN n ks.length sp (fun vs zs => vs ++ zs) E0 t tk) := by
  obtain ⟨f, fd, G, m, kp, b⟩ := C
  exact pe_callN G hr hg m kp b pass0 ha hkw hall hks hdb he hpl

/-- all tuples stay -/
def SameT (H H' : Hp) : Prop := ∀ b xs, H b = some (.tup xs) → H' b = some (.tup xs)
theorem SameT.of {H H' : Hp} (h : Same H H') : SameT H H' := fun b xs e => h b _ e
theorem SameT.trans {H H' H'' : Hp} (h : SameT H H') (g : SameT H' H'') : SameT H H'' := fun b xs e => g b xs (h b xs e)
theorem SameT.refl (H : Hp) : SameT H H := fun _ _ e => e
theorem sameT_lst {H : Hp} {D : Addr} {l : List V} (h : H D = some (.lst l)) (l' : List V) : SameT H (upd H D (.lst l')) := fun b xs e => by
  have : b ≠ D := fun z => by rw [z, h] at e; cases e
  rw [upd_ne this]
  exact e
theorem sameT_D {H H' : Hp} {D : Addr} (h : ∃ l, H D = some (.lst l)) (e : ∀ b o, b ≠ D → H b = some o → H' b = some o) : SameT H H' := fun b xs eb => by
  obtain ⟨l, h⟩ := h
  refine e b _ (fun z => ?_) eb
  rw [z, h] at eb
  cases eb
theorem FcAt.sameT {H H' : Hp} {p : Addr} {a : Fc} (e : SameT H H') (h : FcAt H p a) : FcAt H' p a := let ⟨f, h1, h2⟩ := h; ⟨f, e _ _ h1, e _ _ h2⟩
theorem PlanAt.sameT {H H' : Hp} (e : SameT H H') : ∀ {a : Plan} {p : Addr}, PlanAt H a p → PlanAt H' a p
  | .take _, _, h => e _ _ h
  | .join _ _, _, ⟨pa, pb, h, ha, hb⟩ => ⟨pa, pb, e _ _ h, PlanAt.sameT e ha, PlanAt.sameT e hb⟩
  | .thin _ _, _, ⟨pa, h, ha⟩ => ⟨pa, e _ _ h, PlanAt.sameT e ha⟩
theorem EntAt.sameT {H H' : Hp} {p : Addr} {e : Ent} (z : SameT H H') (h : EntAt H p e) : EntAt H' p e := let ⟨a, b, h1, h2, h3⟩ := h; ⟨a, b, z _ _ h1, h2.sameT z, h3.sameT z⟩
theorem Ents.sameT {H H' : Hp} {vs : List V} {es : List Ent} (z : SameT H H') (h : Ents H vs es) : Ents H' vs es := let ⟨bs, h1, h2⟩ := h; ⟨bs, h1, L2.Paired.mapP h2 fun _ _ => EntAt.sameT z⟩
/-- a list of entries -/
def EntsAt (H : Hp) (p : Addr) (es : List Ent) : Prop := ∃ vs, H p = some (.lst vs) ∧ Ents H vs es
theorem EntsAt.same {H H' : Hp} {p : Addr} {es : List Ent} (z : Same H H') (h : EntsAt H p es) : EntsAt H' p es := let ⟨vs, h1, h2⟩ := h; ⟨vs, z _ _ h1, h2.same z⟩
def RE : Hp → V → Ent → Prop := fun H v e => ∃ p, v = .ref p ∧ EntAt H p e
theorem stb_RE {D : Addr} : StbD D RE := fun _ _ _ _ hD e ⟨p, h1, h2⟩ => ⟨p, h1, h2.sameT (sameT_D hD e)⟩
theorem Rs.ents {H : Hp} : ∀ {vs : List V} {es : List Ent}, Rs RE H vs es → Ents H vs es
  | [], [], _ => Ents.nil
  | [], _ :: _, h => by have := h.1; simp at this
  | _ :: _, [], h => by have := h.1; simp at this
  | v :: vs, e :: es, h => by
    obtain ⟨bs, h1, h2⟩ := Rs.ents (vs := vs) (es := es) ⟨by have := h.1; simp at this; exact this, fun i u z hu hz => h.2 (i + 1) u z hu hz⟩
    obtain ⟨p, rfl, hp⟩ := h.2 0 v e rfl rfl
    exact ⟨p :: bs, by rw [h1]; rfl, .cons hp h2⟩
end P64
namespace P64
open PySem PySem.Spec PyProof.Rows L2 SX EX
theorem wmul {m n : Nat} {x y : Int} (hx : B m x) (hy : B n y) (h0 : 0 < m) (h1 : 0 < n) (h : m + n ≤ 1000000) : CMulW x y := wide_mul hx hy h0 h1 h
theorem wdiv {n : Nat} {x g : Int} (hg : 0 < g) (h : B n g) (h0 : 0 < n) (h9 : n ≤ 9000) : CDivW x g := wide_div hg h h0 h9
def spFraction : Sp := fun vs H Q _ => ∃ t b : Int, vs = [.int t, .int b] ∧ 0 < b ∧ B 9000 b ∧ ∀ r H', Same H H' → FrAt H' r (t / gI t b) (b / gI t b) → Q (.ref r) H'
abbrev s_fraction : Stmt := top 5
abbrev N_fraction : List Str := ["top", "bottom", "shared"]
theorem sc_fraction : FnScope N_fraction ["top", "bottom"] (defScope s_fraction) := ⟨rfl, rfl, rfl, by decide +kernel, rfl, by decide +kernel, by decide +kernel⟩
section
variable {P : Program} {w : World} {K : PySem.W.Frag} {mg : Str → Option Value} {base : Heap} {f : Addr} {fd : FuncData}
theorem ok_fraction (F : Fun K "fraction" "fraction" s_fraction f fd) (T : Txt mg) : FnOk P w K mg base CX0 1 f fd ["top", "bottom"] spFraction := by
  refine F.ok sc_fraction (fun vs H Q E h => ?_) (fun cdv A outer s H vs Q E hr h => ?_)
  · obtain ⟨t, b, rfl, _⟩ := h
    rfl
  obtain ⟨t, b, rfl, hb, hB, q⟩ := h
  refine ⟨_, (pss_cons (ps_if (pt_cmpR op_eq (pv 1) pe_int (nomark _)) (pss_one ps_never) pss_nil)
  (pss_cons (ps_set (i := 2) sc_fraction.nd rfl (Or.inl rfl) (pe_callBfun cr_gcd rfl T.g_gcd (pa_cons (pv 0) (pa_cons (pv 1) pa_nil))))
  (pss_cons (ps_if (pt_cmpR op_lt (pv 1) pe_int (nomark _)) (pss_one (ps_set (i := 2) sc_fraction.nd rfl (Or.inl rfl) (pe_un un_neg (pv 2)))) pss_nil)
  (pss_one (ps_ret (pe_tup (pa_cons (pe_op op_fdivW (pv 0) (pv 2)) (pa_cons (pe_op op_fdivW (pv 1) (pv 2)) pa_nil)))))))), ?_⟩
  refine ⟨_, rfl, rfl, _, rfl, ifF (dec_ne fun e => by have := V.int.inj e; omega) ?_⟩
  refine ⟨_, rfl, _, rfl, t, b, rfl, ?_⟩
  refine ⟨_, rfl, _, _, rfl, rfl, _, rfl, ifF (decide_eq_false (by omega)) ?_⟩
  have g := gI_pos (t := t) hb
  have gB := B.gcd (t := t) hb hB
  refine ⟨_, rfl, _, rfl, _, _, rfl, rfl, wdiv g gB (by decide) (by decide), _, rfl, _, rfl, _, _, rfl, rfl, wdiv g gB (by decide) (by decide), two_line, fun r hr' => q r _ (same_new hr' _) upd_same⟩
/-! ### multiplied -/
def spTimes : Sp := fun vs H Q _ => ∃ (p q : Addr) (t1 b1 t2 b2 : Int), vs = [.ref p, .ref q] ∧ FrAt H p t1 b1 ∧ FrAt H q t2 b2 ∧ 0 < t1 ∧ 0 < b1 ∧ 0 < t2 ∧ 0 < b2 ∧ B 6000 t1 ∧ B 6000 b1 ∧ B 450 t2 ∧ B 450 b2 ∧
  ∀ r H', Same H H' → FrAt H' r (t1 * t2 / gI (t1 * t2) (b1 * b2)) (b1 * b2 / gI (t1 * t2) (b1 * b2)) → Q (.ref r) H'
abbrev s_multiplied : Stmt := top 6
abbrev N_multiplied : List Str := ["one", "two"]
theorem sc_multiplied : FnScope N_multiplied ["one", "two"] (defScope s_multiplied) := ⟨rfl, rfl, rfl, by decide +kernel, rfl, by decide +kernel, by decide +kernel⟩
theorem ok_multiplied (F : Fun K "multiplied" "multiplied" s_multiplied f fd) (T : Txt mg) (C_fraction : Cal P w K mg base 1 "fraction" ["top", "bottom"] spFraction) : FnOk P w K mg base CX0 2 f fd ["one", "two"] spTimes := by
  refine F.ok sc_multiplied (fun vs H Q E h => ?_) (fun cdv A outer s H vs Q E hr h => ?_)
  · obtain ⟨p, q, t1, b1, t2, b2, rfl, _⟩ := h
    rfl
  obtain ⟨p, r, t1, b1, t2, b2, rfl, hp, hr1, pt1, pb1, pt2, pb2, ht1, hb1, ht2, hb2, q⟩ := h
  refine ⟨_, (pss_one (ps_ret (pe_cal C_fraction (hr.mono (by omega)) rfl (pa_cons (pe_op op_mulW (pe_ix ix_tup (pv 0) pe_int (fun _ _ => rfl)) (pe_ix ix_tup (pv 1) pe_int (fun _ _ => rfl))) (pa_cons (pe_op op_mulW (pe_ix ix_tup (pv 0) pe_int (fun _ _ => rfl)) (pe_ix ix_tup (pv 1) pe_int (fun _ _ => rfl))) pa_nil))))), ?_⟩
  refine ⟨_, rfl, p, _, 0, _, rfl, rfl, SqT.of hp, at_pos (by decide) rfl, _, rfl, r, _, 0, _, rfl, rfl, SqT.of hr1, at_pos (by decide) rfl, _, _, rfl, rfl, wmul ht1 ht2 (by decide) (by decide) (by decide), ?_⟩
  refine ⟨_, rfl, p, _, 1, _, rfl, rfl, SqT.of hp, at_pos (by decide) rfl, _, rfl, r, _, 1, _, rfl, rfl, SqT.of hr1, at_pos (by decide) rfl, _, _, rfl, rfl, wmul hb1 hb2 (by decide) (by decide) (by decide), ?_⟩
  exact ⟨_, _, rfl, Int.mul_pos pb1 pb2, (hb1.mul hb2).mono (by decide), q⟩
/-! ### compared -/
def spCompared : Sp := fun vs H Q _ => ∃ (p q : Addr) (t1 b1 t2 b2 : Int), vs = [.ref p, .ref q] ∧ FrAt H p t1 b1 ∧ FrAt H q t2 b2 ∧ B 6000 t1 ∧ B 6000 b1 ∧ B 6000 t2 ∧ B 6000 b2 ∧
  ∀ c : Int, (0 < c ↔ t1 * b2 - t2 * b1 > 0) → (c < 0 ↔ t1 * b2 - t2 * b1 < 0) → Q (.int c) H
abbrev s_compared : Stmt := top 7
abbrev N_compared : List Str := ["one", "two", "difference"]
theorem sc_compared : FnScope N_compared ["one", "two"] (defScope s_compared) := ⟨rfl, rfl, rfl, by decide +kernel, rfl, by decide +kernel, by decide +kernel⟩
theorem ok_compared (F : Fun K "compared" "compared" s_compared f fd) (T : Txt mg) : FnOk P w K mg base CX0 1 f fd ["one", "two"] spCompared := by
  refine F.ok sc_compared (fun vs H Q E h => ?_) (fun cdv A outer s H vs Q E hr h => ?_)
  · obtain ⟨p, q, t1, b1, t2, b2, rfl, _⟩ := h
    rfl
  obtain ⟨p, r, t1, b1, t2, b2, rfl, hp, hr1, ht1, hb1, ht2, hb2, q⟩ := h
  refine ⟨_, (pss_cons (ps_set (i := 2) sc_compared.nd rfl (Or.inl rfl) (pe_op op_sub (pe_op op_mulW (pe_ix ix_tup (pv 0) pe_int (fun _ _ => rfl)) (pe_ix ix_tup (pv 1) pe_int (fun _ _ => rfl))) (pe_op op_mulW (pe_ix ix_tup (pv 1) pe_int (fun _ _ => rfl)) (pe_ix ix_tup (pv 0) pe_int (fun _ _ => rfl)))))
  (pss_cons (ps_if (pt_cmpR op_lt (pv 2) pe_int (nomark _)) (pss_one (ps_ret (pe_un un_neg pe_int))) pss_nil)
  (pss_cons (ps_if (pt_cmpR op_gt (pv 2) pe_int (nomark _)) (pss_one (ps_ret pe_int)) pss_nil)
  (pss_one (ps_ret pe_int))))), ?_⟩
  refine ⟨_, rfl, p, _, 0, _, rfl, rfl, SqT.of hp, at_pos (by decide) rfl, _, rfl, r, _, 1, _, rfl, rfl, SqT.of hr1, at_pos (by decide) rfl, _, _, rfl, rfl, wmul ht1 hb2 (by decide) (by decide) (by decide), ?_⟩
  refine ⟨_, rfl, r, _, 0, _, rfl, rfl, SqT.of hr1, at_pos (by decide) rfl, _, rfl, p, _, 1, _, rfl, rfl, SqT.of hp, at_pos (by decide) rfl, _, _, rfl, rfl, wmul ht2 hb1 (by decide) (by decide) (by decide), _, _, rfl, rfl, ?_⟩
  refine ⟨_, rfl, _, _, rfl, rfl, _, rfl, ?_⟩
  refine ite2 (fun c => ?_) (fun c => ?_)
  · have c1 := dec_lt c
    exact ⟨_, rfl, q (-1) ⟨fun z => by omega, fun z => by omega⟩ ⟨fun _ => c1, fun _ => by decide⟩⟩
  have c1 := not_lt c
  refine ⟨_, rfl, _, _, rfl, rfl, _, rfl, ?_⟩
  refine ite2 (fun c => ?_) (fun c => ?_)
  · have c2 := dec_lt c
    exact q 1 ⟨fun _ => c2, fun _ => by decide⟩ ⟨fun z => absurd z (by decide), fun z => by omega⟩
  · have c2 := not_lt c
    exact q 0 ⟨fun z => absurd z (by decide), fun z => absurd z c2⟩ ⟨fun z => absurd z (by decide), fun z => absurd z c1⟩
/-! ### grade_unit, grade_factor -/
def spUnit : Sp := fun vs H Q _ => ∃ k : Int, vs = [.int k] ∧ Q (.int (9 * k - 8)) H
abbrev s_grade_unit : Stmt := top 9
abbrev N_grade_unit : List Str := ["grade"]
theorem sc_grade_unit : FnScope N_grade_unit ["grade"] (defScope s_grade_unit) := ⟨rfl, rfl, rfl, by decide +kernel, rfl, by decide +kernel, by decide +kernel⟩
theorem ok_grade_unit (F : Fun K "grade_unit" "grade_unit" s_grade_unit f fd) (T : Txt mg) : FnOk P w K mg base CX0 1 f fd ["grade"] spUnit := by
  refine F.ok sc_grade_unit (fun vs H Q E h => ?_) (fun cdv A outer s H vs Q E hr h => ?_)
  · obtain ⟨k, rfl, _⟩ := h
    rfl
  obtain ⟨k, rfl, q⟩ := h
  refine ⟨_, (pss_one (ps_ret (pe_op op_sub (pe_op op_mul pe_int (pv 0)) pe_int))), ?_⟩
  exact ⟨_, rfl, _, _, rfl, rfl, .inl ⟨by decide, by decide⟩, _, _, rfl, rfl, q⟩
def spGrade : Sp := fun vs H Q _ => ∃ k : Int, vs = [.int k] ∧ 2 ≤ k ∧ k ≤ 10 ∧ ∀ r H', Same H H' → FrAt H' r (gradeT k / gI (gradeT k) (gradeB k)) (gradeB k / gI (gradeT k) (gradeB k)) → Q (.ref r) H'
abbrev s_grade_factor : Stmt := top 10
abbrev N_grade_factor : List Str := ["grade", "less"]
theorem sc_grade_factor : FnScope N_grade_factor ["grade"] (defScope s_grade_factor) := ⟨rfl, rfl, rfl, by decide +kernel, rfl, by decide +kernel, by decide +kernel⟩
theorem small_mul {a b : Int} (h0 : -1000000 < a) (h : a < 1000000) : CMul a b := .inl ⟨by omega, by omega⟩
theorem ok_grade_factor (F : Fun K "grade_factor" "grade_factor" s_grade_factor f fd) (T : Txt mg) (C_fraction : Cal P w K mg base 1 "fraction" ["top", "bottom"] spFraction) (C_grade_unit : Cal P w K mg base 1 "grade_unit" ["grade"] spUnit) : FnOk P w K mg base CX0 2 f fd ["grade"] spGrade := by
  refine F.ok sc_grade_factor (fun vs H Q E h => ?_) (fun cdv A outer s H vs Q E hr h => ?_)
  · obtain ⟨k, rfl, _⟩ := h
    rfl
  obtain ⟨k, rfl, h2, h10, q⟩ := h
  refine ⟨_, (pss_cons (ps_set (i := 1) sc_grade_factor.nd rfl (Or.inl rfl) (pe_op op_sub (pe_cal C_grade_unit (hr.mono (by omega)) rfl (pa_cons (pv 0) pa_nil)) pe_int))
  (pss_one (ps_ret (pe_cal C_fraction (hr.mono (by omega)) rfl (pa_cons (pe_op op_mul (pe_op op_add (pv 0) pe_int) (pe_op op_add (pe_op op_mul (pv 1) (pe_op op_add (pv 0) pe_int)) (pv 0))) (pa_cons (pe_op op_mul (pe_op op_mul (pv 1) (pe_op op_sub (pv 0) pe_int)) (pe_op op_sub (pv 0) pe_int)) pa_nil)))))), ?_⟩
  obtain ⟨p1, p2, q1, q2⟩ := grade_ok h2 h10
  have e : 9 * k - 8 - 1 = 9 * (k - 1) := by omega
  refine ⟨_, rfl, k, rfl, _, _, rfl, rfl, ?_⟩
  have m1 : 9 * (k - 1) * (k - 1) < 1000000 ∧ -1000000 < 9 * (k - 1) * (k - 1) := by
    have : k = 2 ∨ k = 3 ∨ k = 4 ∨ k = 5 ∨ k = 6 ∨ k = 7 ∨ k = 8 ∨ k = 9 ∨ k = 10 := by omega
    rcases this with rfl | rfl | rfl | rfl | rfl | rfl | rfl | rfl | rfl <;> decide
  show gName 1 (V.int (9 * k - 8 - 1)) _ _ _
  rw [e]
  refine ⟨_, rfl, _, _, rfl, rfl, _, rfl, _, rfl, _, _, rfl, rfl, _, _, rfl, rfl, small_mul (by omega) (by omega), _, rfl, _, _, rfl, rfl, _, _, rfl, rfl, small_mul (by omega) (by omega), ?_⟩
  refine ⟨_, rfl, _, rfl, _, _, rfl, rfl, _, _, rfl, rfl, small_mul (by omega) (by omega), _, rfl, _, _, rfl, rfl, _, _, rfl, rfl, small_mul m1.2 m1.1, ?_⟩
  exact ⟨_, _, rfl, p2, (show B 9000 (gradeB k) from B.mono (B_small (Int.le_of_lt p2) q2) (by decide)), q⟩
end
end P64
namespace P64
open PySem PySem.Spec PyProof.Rows L2 SX EX
theorem fc_is {H : Hp} {p f : Addr} {m k t b : Int} (h : H p = some (.tup [.int m, .int k, .ref f])) (hf : FrAt H f t b) : FcAt H p ⟨m, k, t, b⟩ := ⟨f, h, hf⟩
section
variable {P : Program} {w : World} {K : PySem.W.Frag} {mg : Str → Option Value} {base : Heap} {f : Addr} {fd : FuncData}
def spJoin : Sp := fun vs H Q _ => ∃ (p q : Addr) (a b : Fc), vs = [.ref p, .ref q] ∧ FcAt H p a ∧ FcAt H q b ∧ Fb 12 a ∧ Fb 12 b ∧ ∀ r H', Same H H' → FcAt H' r (fJoin a b) → Q (.ref r) H'
abbrev s_join_step : Stmt := top 12
abbrev N_join_step : List Str := ["one", "two", "most", "factor"]
theorem sc_join_step : FnScope N_join_step ["one", "two"] (defScope s_join_step) := ⟨rfl, rfl, rfl, by decide +kernel, rfl, by decide +kernel, by decide +kernel⟩
theorem ok_join_step (F : Fun K "join_step" "join_step" s_join_step f fd) (T : Txt mg) (C_compared : Cal P w K mg base 1 "compared" ["one", "two"] spCompared) : FnOk P w K mg base CX0 2 f fd ["one", "two"] spJoin := by
  refine F.ok sc_join_step (fun vs H Q E h => ?_) (fun cdv A outer s H vs Q E hr h => ?_)
  · obtain ⟨p, q, a, b, rfl, _⟩ := h
    rfl
  obtain ⟨p, r, a, b, rfl, ⟨fa, hp, hfa⟩, ⟨fb, hr1, hfb⟩, ba, bb, q⟩ := h
  refine ⟨_, (pss_cons (ps_set (i := 2) sc_join_step.nd rfl (Or.inl rfl) (pe_op op_add (pe_ix ix_tup (pv 0) pe_int (fun _ _ => rfl)) (pe_ix ix_tup (pv 1) pe_int (fun _ _ => rfl))))
  (pss_cons (ps_set (i := 3) sc_join_step.nd rfl (Or.inl rfl) (pe_ifExp (pt_cmpR op_gt (pe_cal C_compared (hr.mono (by omega)) rfl (pa_cons (pe_ix ix_tup (pv 0) pe_int (fun _ _ => rfl)) (pa_cons (pe_ix ix_tup (pv 1) pe_int (fun _ _ => rfl)) pa_nil))) pe_int (nomark _)) (pe_ix ix_tup (pv 0) pe_int (fun _ _ => rfl)) (pe_ix ix_tup (pv 1) pe_int (fun _ _ => rfl))))
  (pss_one (ps_ret (pe_tup (pa_cons (pv 2) (pa_cons (pe_callB (call_max3I rfl) (by rfl) T.b_max (by decide +kernel) (pa_cons (pv 2) (pa_cons (pe_ix ix_tup (pv 0) pe_int (fun _ _ => rfl)) (pa_cons (pe_ix ix_tup (pv 1) pe_int (fun _ _ => rfl)) pa_nil)))) (pa_cons (pv 3) pa_nil)))))))), ?_⟩
  refine ⟨_, rfl, p, _, 0, _, rfl, rfl, SqT.of hp, at_pos (by decide) rfl, _, rfl, r, _, 0, _, rfl, rfl, SqT.of hr1, at_pos (by decide) rfl, _, _, rfl, rfl, ?_⟩
  refine ⟨_, rfl, p, _, 2, _, rfl, rfl, SqT.of hp, at_pos (by decide) rfl, _, rfl, r, _, 2, _, rfl, rfl, SqT.of hr1, at_pos (by decide) rfl, fa, fb, a.top, a.bot, b.top, b.bot, rfl, hfa, hfb, ba.t1.mono (by decide), ba.b1.mono (by decide), bb.t1.mono (by decide), bb.b1.mono (by decide), fun c hc _ => ?_⟩
  refine ⟨_, _, rfl, rfl, _, rfl, ?_⟩
  refine ite2 (fun c1 => ?_) (fun c1 => ?_)
  · have c2 := hc.mp (dec_lt c1)
    refine ⟨_, rfl, p, _, 2, _, rfl, rfl, SqT.of hp, at_pos (by decide) rfl, ?_⟩
    refine ⟨_, rfl, _, rfl, _, rfl, p, _, 1, _, rfl, rfl, SqT.of hp, at_pos (by decide) rfl, _, rfl, r, _, 1, _, rfl, rfl, SqT.of hr1, at_pos (by decide) rfl, _, _, _, rfl, _, rfl, three_line, fun u hu => q u _ (same_new hu _) ?_⟩
    unfold fJoin
    rw [if_pos c2]
    exact fc_is upd_same (hfa.same (same_new hu _))
  · have c2 : ¬ a.top * b.bot - b.top * a.bot > 0 := fun z => not_lt c1 (hc.mpr z)
    refine ⟨_, rfl, r, _, 2, _, rfl, rfl, SqT.of hr1, at_pos (by decide) rfl, ?_⟩
    refine ⟨_, rfl, _, rfl, _, rfl, p, _, 1, _, rfl, rfl, SqT.of hp, at_pos (by decide) rfl, _, rfl, r, _, 1, _, rfl, rfl, SqT.of hr1, at_pos (by decide) rfl, _, _, _, rfl, _, rfl, three_line, fun u hu => q u _ (same_new hu _) ?_⟩
    unfold fJoin
    rw [if_neg c2]
    exact fc_is upd_same (hfb.same (same_new hu _))
/-! ### thin_step -/
def spThin : Sp := fun vs H Q _ => ∃ (k size : Int) (p : Addr) (a : Fc), vs = [.int k, .int size, .ref p] ∧ 2 ≤ k ∧ k ≤ 10 ∧ FcAt H p a ∧ Fb 12 a ∧ ∀ r H', Same H H' → FcAt H' r (fThin k size a) → Q (.ref r) H'
abbrev s_thin_step : Stmt := top 13
abbrev N_thin_step : List Str := ["grade", "size", "inner", "most", "peak", "factor", "kept"]
theorem sc_thin_step : FnScope N_thin_step ["grade", "size", "inner"] (defScope s_thin_step) := ⟨rfl, rfl, rfl, by decide +kernel, rfl, by decide +kernel, by decide +kernel⟩
theorem kk_small {k : Int} (h2 : 2 ≤ k) (h10 : k ≤ 10) : -1000000 < k * k ∧ k * k < 1000000 := by
  have : k = 2 ∨ k = 3 ∨ k = 4 ∨ k = 5 ∨ k = 6 ∨ k = 7 ∨ k = 8 ∨ k = 9 ∨ k = 10 := by omega
  rcases this with rfl | rfl | rfl | rfl | rfl | rfl | rfl | rfl | rfl <;> decide
theorem ok_thin_step (F : Fun K "thin_step" "thin_step" s_thin_step f fd) (T : Txt mg) (C_multiplied : Cal P w K mg base 2 "multiplied" ["one", "two"] spTimes) (C_grade_factor : Cal P w K mg base 2 "grade_factor" ["grade"] spGrade) : FnOk P w K mg base CX0 3 f fd ["grade", "size", "inner"] spThin := by
  refine F.ok sc_thin_step (fun vs H Q E h => ?_) (fun cdv A outer s H vs Q E hr h => ?_)
  · obtain ⟨k, size, p, a, rfl, _⟩ := h
    rfl
  obtain ⟨k, size, p, a, rfl, h2, h10, ⟨fa, hp, hfa⟩, ba, q⟩ := h
  refine ⟨_, (pss_cons (ps_asg (pv 2) (pg_tup rfl (pgs_cons (pg_name (i := 3) sc_thin_step.nd rfl (Or.inl rfl)) (pgs_cons (pg_name (i := 4) sc_thin_step.nd rfl (Or.inl rfl)) (pgs_cons (pg_name (i := 5) sc_thin_step.nd rfl (Or.inl rfl)) pgs_nil)))))
  (pss_cons (ps_set (i := 6) sc_thin_step.nd rfl (Or.inl rfl) (pe_callB (call_min2 rfl) (by rfl) T.b_min (by decide +kernel) (pa_cons (pv 3) (pa_cons (pe_op op_mul (pe_op op_mul (pv 0) (pv 0)) (pe_callB (call_min2 rfl) (by rfl) T.b_min (by decide +kernel) (pa_cons (pv 1) (pa_cons (pv 3) pa_nil)))) pa_nil))))
  (pss_one (ps_ret (pe_tup (pa_cons (pv 6) (pa_cons (pv 4) (pa_cons (pe_cal C_multiplied (hr.mono (by omega)) rfl (pa_cons (pv 5) (pa_cons (pe_cal C_grade_factor (hr.mono (by omega)) rfl (pa_cons (pv 0) pa_nil)) pa_nil))) pa_nil)))))))), ?_⟩
  obtain ⟨s1, s2⟩ := kk_small h2 h10
  obtain ⟨p1, p2, q1, q2⟩ := grade_ok h2 h10
  have l := low_of p1 p2
  have g := gI_pos (t := gradeT k) p2
  refine ⟨_, rfl, p, _, rfl, SqT.of hp, rfl, _, _, rfl, _, _, rfl, _, _, rfl, rfl, ?_⟩
  refine ⟨_, rfl, _, rfl, _, rfl, _, _, rfl, rfl, small_mul (by omega) (by omega), _, rfl, _, rfl, _, _, rfl, _, _, rfl, rfl, small_mul s1 s2, _, _, rfl, ?_⟩
  refine ⟨_, rfl, _, rfl, _, rfl, _, rfl, k, rfl, h2, h10, fun r1 H1 g1 hr1 => ?_⟩
  refine ⟨fa, r1, a.top, a.bot, _, _, rfl, hfa.same g1, hr1, ba.low.tp, ba.low.bp, l.tp, l.bp, ba.t1.mono (by decide), ba.b1.mono (by decide), (B_small (by omega) q1).div (by omega) g, (B_small (by omega) q2).div (by omega) g, fun r2 H2 g2 hr2 => ?_⟩
  refine ⟨three_line, fun u hu => q u _ (g1.trans (g2.trans (same_new hu _))) (fc_is upd_same (hr2.same (same_new hu _)))⟩
end
end P64
namespace P64
open PySem PySem.Spec PyProof.Rows L2 SX EX WK
section
variable {P : Program} {w : World} {K : PySem.W.Frag} {mg : Str → Option Value} {base : Heap} {f : Addr} {fd : FuncData}
/-! ### betters -/
abbrev EB (e : Ent) : Prop := Fb 12 e.1
def spBetters : Sp := fun vs H Q _ => ∃ (p q : Addr) (a b : Ent), vs = [.ref p, .ref q] ∧ EntAt H p a ∧ EntAt H q b ∧ EB a ∧ EB b ∧ Q (.bl (betters a b)) H
abbrev s_betters : Stmt := top 15
abbrev N_betters : List Str := ["one", "two"]
theorem sc_betters : FnScope N_betters ["one", "two"] (defScope s_betters) := ⟨rfl, rfl, rfl, by decide +kernel, rfl, by decide +kernel, by decide +kernel⟩
theorem ok_betters (F : Fun K "betters" "betters" s_betters f fd) (T : Txt mg) (C_compared : Cal P w K mg base 1 "compared" ["one", "two"] spCompared) : FnOk P w K mg base CX0 2 f fd ["one", "two"] spBetters := by
  refine F.ok sc_betters (fun vs H Q E h => ?_) (fun cdv A outer s H vs Q E hr h => ?_)
  · obtain ⟨p, q, a, b, rfl, _⟩ := h
    rfl
  obtain ⟨p, r, a, b, rfl, ⟨pa, ta, hp, ⟨fa, ha, hfa⟩, _⟩, ⟨pb, tb, hr1, ⟨fb, hb, hfb⟩, _⟩, ea, eb, q⟩ := h
  refine ⟨_, (pss_one (ps_ret (pe_and (pe_cmpR op_le (pe_ix ix_tup (pe_ix ix_tup (pv 0) pe_int (fun _ _ => rfl)) pe_int (fun _ _ => rfl)) (pe_ix ix_tup (pe_ix ix_tup (pv 1) pe_int (fun _ _ => rfl)) pe_int (fun _ _ => rfl)) (nomark _)) (pe_one (pe_cmpR op_le (pe_cal C_compared (hr.mono (by omega)) rfl (pa_cons (pe_ix ix_tup (pe_ix ix_tup (pv 0) pe_int (fun _ _ => rfl)) pe_int (fun _ _ => rfl)) (pa_cons (pe_ix ix_tup (pe_ix ix_tup (pv 1) pe_int (fun _ _ => rfl)) pe_int (fun _ _ => rfl)) pa_nil))) pe_int (nomark _)))))), ?_⟩
  refine ⟨_, rfl, p, _, 0, _, rfl, rfl, SqT.of hp, at_pos (by decide) rfl, pa, _, 0, _, rfl, rfl, SqT.of ha, at_pos (by decide) rfl, ?_⟩
  refine ⟨_, rfl, r, _, 0, _, rfl, rfl, SqT.of hr1, at_pos (by decide) rfl, pb, _, 0, _, rfl, rfl, SqT.of hb, at_pos (by decide) rfl, ?_⟩
  refine ⟨_, _, rfl, rfl, _, rfl, ?_⟩
  refine ite2 (fun c => ?_) (fun c => ?_)
  · have c1 : a.1.most ≤ b.1.most := of_decide_eq_true c
    refine ⟨_, rfl, p, _, 0, _, rfl, rfl, SqT.of hp, at_pos (by decide) rfl, pa, _, 2, _, rfl, rfl, SqT.of ha, at_pos (by decide) rfl, ?_⟩
    refine ⟨_, rfl, r, _, 0, _, rfl, rfl, SqT.of hr1, at_pos (by decide) rfl, pb, _, 2, _, rfl, rfl, SqT.of hb, at_pos (by decide) rfl, ?_⟩
    refine ⟨fa, fb, _, _, _, _, rfl, hfa, hfb, ea.t1.mono (by decide), ea.b1.mono (by decide), eb.t1.mono (by decide), eb.b1.mono (by decide), fun c2 h1 h2 => ⟨_, _, rfl, rfl, ?_⟩⟩
    have e : betters a b = decide (c2 ≤ 0) := by
      unfold betters
      rw [decide_eq_true c1, Bool.true_and]
      exact decide_eq_decide.mpr ⟨fun z => by have := mt h1.mp (by omega : ¬ a.1.top * b.1.bot - b.1.top * a.1.bot > 0); omega, fun z => by have := mt h1.mpr (by omega : ¬ 0 < c2); omega⟩
    rw [e] at q
    exact q
  · have c1 : ¬ a.1.most ≤ b.1.most := fun z => c (decide_eq_true z)
    have e : betters a b = false := by
      unfold betters
      rw [decide_eq_false c1, Bool.false_and]
    rw [e] at q
    exact q
/-! ### front -/
def spFront : Sp := fun vs H Q _ => ∃ (p : Addr) (es : List Ent), vs = [.ref p] ∧ EntsAt H p es ∧ (∀ e ∈ es, EB e) ∧ es.length ≤ 10000000 ∧ ∀ r H', Same H H' → EntsAt H' r (frontF es) → Q (.ref r) H'
abbrev s_front : Stmt := top 16
abbrev N_front : List Str := ["entries", "found", "entry", "other"]
theorem sc_front : FnScope N_front ["entries"] (defScope s_front) := ⟨rfl, rfl, rfl, by decide +kernel, rfl, by decide +kernel, by decide +kernel⟩
theorem any_of {found : List Ent} {e : Ent} {l : List V} {H : Hp} (h : Rs RB H l (found.map fun o => betters o e)) : l = (found.map fun o => betters o e).map V.bl ∧ (found.map fun o => betters o e).any id = found.any fun o => betters o e := ⟨h.bls, by rw [List.any_map]; rfl⟩
theorem filt_some (l : List Ent) (p : Ent → Bool) : (l.filterMap fun o => if p o = true then some o else none) = l.filter p := by
  induction l with
  | nil => rfl
  | cons a l ih =>
    rw [List.filterMap_cons, List.filter_cons]
    by_cases h : p a = true
    · rw [if_pos h, if_pos h, ih]
    · rw [if_neg h, if_neg h, ih]
theorem ok_front (F : Fun K "front" "front" s_front f fd) (T : Txt mg) (C_betters : Cal P w K mg base 2 "betters" ["one", "two"] spBetters) : FnOk P w K mg base CX0 3 f fd ["entries"] spFront := by
  refine F.ok sc_front (fun vs H Q E h => ?_) (fun cdv A outer s H vs Q E hr h => ?_)
  · obtain ⟨p, es, rfl, _⟩ := h
    rfl
  obtain ⟨p, es, rfl, ⟨vs, hp, hes⟩, eb, hlen, q⟩ := h
  refine ⟨_, (pss_cons (ps_set (i := 1) sc_front.nd rfl (Or.inl rfl) (pe_lst pa_nil))
  (pss_cons (ps_for PassesOwn.never rfl (pi_list (pv 0)) (pg_name (i := 2) sc_front.nd rfl (Or.inr rfl)) (pss_one (ps_if (pt_not (pt_val (pe_callB (cr_any rfl) (by rfl) T.b_any (by decide +kernel) (pa_cons (pe_lc (own := [("other", 3)]) (g := gName 3) (tt := tYes) (by rfl) sc_front.nd (pi_list (pv 1)) (blkOk_by (N := N_front) (sc := defScope s_front) (by decide +kernel)) (fun _ _ _ _ _ => (pg_name (i := 3) sc_front.nd rfl (Or.inl rfl))) (fun _ _ _ _ _ => pts_nil) (fun _ _ _ _ _ => (pe_cal C_betters (hr.mono (by omega)) rfl (pa_cons (pv 3) (pa_cons (pv 2) pa_nil))))) pa_nil)))) (pss_one (ps_set (i := 1) sc_front.nd rfl (Or.inl rfl) (pe_op op_cat (pe_lc (own := [("other", 3)]) (g := gName 3) (by rfl) sc_front.nd (pi_list (pv 1)) (blkOk_by (N := N_front) (sc := defScope s_front) (by decide +kernel)) (fun _ _ _ _ _ => (pg_name (i := 3) sc_front.nd rfl (Or.inl rfl))) (fun _ _ _ _ _ => (pts_one (pt_not (pt_val (pe_cal C_betters (hr.mono (by omega)) rfl (pa_cons (pv 2) (pa_cons (pv 3) pa_nil))))))) (fun _ _ _ _ _ => (pv 3))) (pe_lst (pa_cons (pv 2) pa_nil))))) pss_nil)))
  (pss_one (ps_ret (pv 1))))), ?_⟩
  have ll := hes.len
  refine ⟨Nat.zero_le _, fun r0 h0 => ?_⟩
  refine ⟨_, rfl, p, rfl, ⟨_, SqL.of (same_new h0 _ _ _ hp)⟩, for_list (K := K) (a := p) (xs := vs) (fun i σ H' => ∃ (r : Addr) (v2 v3 : Option V), σ = [some (.ref p), some (.ref r), v2, v3] ∧ Same H H' ∧ EntsAt H' r ((es.take i).foldl frontStep [])) ⟨r0, none, none, rfl, same_new h0 _, [], upd_same, Ents.nil⟩ (fun i σ H' _ ⟨r, _, _, _, g, _⟩ => SqL.of (g _ _ hp)) ?_ ?_⟩
  · rintro i x σ H1 hx ⟨r, v2, v3, rfl, g1, ws, hr1, hw⟩
    obtain ⟨pe, e, rfl, he, hpe⟩ := (hes.same g1).at hx
    have ebe := eb e (List.mem_of_getElem? he)
    have ef : (es.take (i + 1)).foldl frontStep [] = frontStep ((es.take i).foldl frontStep []) e := by rw [take_snoc he, List.foldl_append]; rfl
    have fl : ((es.take i).foldl frontStep []).length ≤ es.length := by
      have := front_len' (es.take i) []
      rw [List.length_take, List.length_nil] at this
      omega
    have fb : ∀ o ∈ (es.take i).foldl frontStep [], EB o := fun o ho => (front_mem' _ _ _ ho).elim (fun h => nomatch h) fun h => eb o (List.mem_of_mem_take h)
    rw [ef]
    generalize (es.take i).foldl frontStep [] = found at hw fl fb
    have wl := hw.len
    refine ⟨_, rfl, r, rfl, ⟨_, SqL.of hr1⟩, fun D hD => ?_⟩
    refine lc_gm walk_list RB (fun _ _ _ _ _ _ h => h) found wl (by omega) hD (fun H2 g2 => SqL.of (g2 _ _ hr1)) (fun i H x H' y => ys_at y) (fun o => betters o e) ?_ ?_
    · rintro j o x H2 H3 ho g2 g3 ⟨rfl, hx⟩ _ A B hA
      obtain ⟨po, o', rfl, ho', hpo⟩ := (hw.same g2).at hx
      rw [ho] at ho'
      obtain rfl := Option.some.inj ho'
      refine ⟨rfl, lc_yes ?_⟩
      exact ⟨_, rfl, _, rfl, po, pe, o, e, rfl, hpo, hpe.same g2, fb o (List.mem_of_getElem? ho), ebe, hA _ _ (Same.refl _) rfl⟩
    · intro H2 l g2 hl rs
      obtain ⟨rfl, ea⟩ := any_of rs
      refine ⟨D, _, rfl, SqL.of hl, ?_⟩
      rw [ea]
      have hr2 := g2 _ _ hr1
      have hw2 := hw.same g2
      refine ⟨_, rfl, ?_⟩
      refine ite2 (fun c => ?_) (fun c => ?_)
      · have ca : ¬ (found.any fun o => betters o e) = true := by simpa using c
        refine ⟨_, rfl, r, rfl, ⟨_, SqL.of hr2⟩, fun D2 hD2 => ?_⟩
        refine lc_g walk_list RE stb_RE found wl (by omega) hD2 (fun H3 g3 => SqL.of (g3 _ _ hr2)) (fun i H x H' y => ys_at y) (fun o => if (!betters e o) = true then some o else none) ?_ ?_
        · rintro j o x H3 H4 ho g3 g4 ⟨rfl, hx⟩ _ A B hA hB
          obtain ⟨po, o', rfl, ho', hpo⟩ := (hw2.same g3).at hx
          rw [ho] at ho'
          obtain rfl := Option.some.inj ho'
          refine ⟨rfl, _, rfl, _, rfl, pe, po, e, o, rfl, hpe.same (g2.trans g3), hpo, ebe, fb o (List.mem_of_getElem? ho), _, rfl, ?_⟩
          refine ite2 (fun c => ?_) (fun c => ?_)
          · exact ⟨_, rfl, hA _ o _ (if_pos c) (Same.refl _) ⟨po, rfl, hpo⟩⟩
          · exact hB (if_neg c) _ (Same.refl _)
        · intro H3 l2 g3 hl2 rs2
          rw [filt_some] at rs2
          have hl3 := Rs.ents rs2
          refine ⟨_, rfl, line_ge (by show 1 ≤ 100000; decide), fun u hu => ?_⟩
          have nu : u ≠ D2 := fun z => by rw [z, hl2] at hu; cases hu
          have hf : (found.filter fun o => !betters e o).length ≤ found.length := List.length_filter_le _ _
          have l2l := hl3.len
          refine ⟨D2, u, _, _, rfl, rfl, (by rw [upd_ne nu.symm]; exact hl2), upd_same, big_line (by show l2.length + 1 ≤ _; omega), fun v hv => ?_⟩
          have g4 : Same H1 (upd (upd H3 u (.lst [V.ref pe])) v (.lst (l2 ++ [V.ref pe]))) := g2.trans (g3.trans ((same_new hu _).trans (same_new hv _)))
          refine ⟨v, _, _, rfl, g1.trans g4, _, upd_same, ?_⟩
          unfold frontStep
          rw [if_neg ca]
          exact (hl3.same ((same_new hu _).trans (same_new hv _))).app (.one (hpe.same g4))
      · have ca : (found.any fun o => betters o e) = true := by simpa using c
        refine ⟨r, _, _, rfl, g1.trans g2, _, hr2, ?_⟩
        unfold frontStep
        rw [if_pos ca]
        exact hw2
  · rintro σ H1 ⟨r, v2, v3, rfl, g1, h1⟩
    rw [ll, List.take_length] at h1
    exact ⟨_, rfl, q r H1 g1 h1⟩
end
end P64
namespace P64
open PySem PySem.Spec PyProof.Rows L2 SX EX WK
theorem flat_snoc {α β : Type} {l : List α} {i : Nat} {x : α} (f : α → List β) (h : l[i]? = some x) : (l.take (i + 1)).flatMap f = (l.take i).flatMap f ++ f x := by
  rw [take_snoc h, List.flatMap_append, List.flatMap_cons, List.flatMap_nil, List.append_nil]
theorem flat_len {α β : Type} (f : α → List β) (k : Nat) : ∀ (l : List α), (∀ a ∈ l, (f a).length ≤ k) → (l.flatMap f).length ≤ l.length * k
  | [], _ => Nat.zero_le _
  | a :: l, h => by
    have h1 := flat_len f k l fun x hx => h x (List.mem_cons_of_mem _ hx)
    have h2 := h a List.mem_cons_self
    rw [List.flatMap_cons, List.length_append, List.length_cons, Nat.succ_mul]
    omega
theorem joins_len (ones twos : List Ent) (lim : Int) : (joinsF ones twos lim).length ≤ ones.length * twos.length := by
  refine flat_len _ _ _ fun a _ => ?_
  have := List.length_filter_le (fun e : Ent => decide (e.1.most ≤ lim)) (twos.map (joinE a))
  rw [List.length_map] at this
  exact this
theorem steps_len (es : List Ent) (size : Int) (ks : List Int) : (stepsF es size ks).length ≤ es.length * ks.length := by
  refine flat_len _ _ _ fun a _ => ?_
  rw [List.length_map]
  exact Nat.le_refl _
section
variable {P : Program} {w : World} {K : PySem.W.Frag} {mg : Str → Option Value} {base : Heap} {f : Addr} {fd : FuncData}
/-! ### joins -/
def spJoins : Sp := fun vs H Q _ => ∃ (p q : Addr) (as bs : List Ent) (lim : Int), vs = [.ref p, .ref q, .int lim] ∧ EntsAt H p as ∧ EntsAt H q bs ∧ (∀ e ∈ as, EB e) ∧ (∀ e ∈ bs, EB e) ∧ as.length * bs.length ≤ 10000000 ∧ ∀ r H', Same H H' → EntsAt H' r (joinsF as bs lim) → Q (.ref r) H'
abbrev s_joins : Stmt := top 17
abbrev N_joins : List Str := ["ones", "twos", "limit", "found", "told", "plan", "other_told", "other_plan", "both"]
theorem sc_joins : FnScope N_joins ["ones", "twos", "limit"] (defScope s_joins) := ⟨rfl, rfl, rfl, by decide +kernel, rfl, by decide +kernel, by decide +kernel⟩
abbrev oneJ (bs : List Ent) (lim : Int) (a : Ent) : List Ent := (bs.map (joinE a)).filter fun e => decide (e.1.most ≤ lim)
theorem oneJ_snoc {bs : List Ent} {j : Nat} {b : Ent} {lim : Int} {a : Ent} (h : bs[j]? = some b) : oneJ (bs.take (j + 1)) lim a = oneJ (bs.take j) lim a ++ (if (joinE a b).1.most ≤ lim then [joinE a b] else []) := by
  unfold oneJ
  rw [take_snoc h, List.map_append, List.filter_append]
  congr 1
  by_cases c : (joinE a b).1.most ≤ lim
  · rw [if_pos c, List.map_cons, List.filter_cons, if_pos (decide_eq_true c)]
    rfl
  · rw [if_neg c, List.map_cons, List.filter_cons, if_neg (by simp [c])]
    rfl
theorem ok_joins (F : Fun K "joins" "joins" s_joins f fd) (T : Txt mg) (C_join_step : Cal P w K mg base 2 "join_step" ["one", "two"] spJoin) : FnOk P w K mg base CX0 3 f fd ["ones", "twos", "limit"] spJoins := by
  refine F.ok sc_joins (fun vs H Q E h => ?_) (fun cdv A outer s H vs Q E hr h => ?_)
  · obtain ⟨p, q, as, bs, lim, rfl, _⟩ := h
    rfl
  obtain ⟨p, p2, as, bs, lim, rfl, ⟨vs, hp, has⟩, ⟨us, hp2, hbs⟩, ea, eb, hlen, q⟩ := h
  refine ⟨_, (pss_cons (ps_set (i := 3) sc_joins.nd rfl (Or.inl rfl) (pe_lst pa_nil))
  (pss_cons (ps_for PassesOwn.never rfl (pi_list (pv 0)) (pg_tup rfl (pgs_cons (pg_name (i := 4) sc_joins.nd rfl (Or.inl rfl)) (pgs_cons (pg_name (i := 5) sc_joins.nd rfl (Or.inl rfl)) pgs_nil))) (pss_one (ps_for PassesOwn.never rfl (pi_list (pv 1)) (pg_tup rfl (pgs_cons (pg_name (i := 6) sc_joins.nd rfl (Or.inl rfl)) (pgs_cons (pg_name (i := 7) sc_joins.nd rfl (Or.inl rfl)) pgs_nil))) (pss_cons (ps_set (i := 8) sc_joins.nd rfl (Or.inl rfl) (pe_cal C_join_step (hr.mono (by omega)) rfl (pa_cons (pv 4) (pa_cons (pv 6) pa_nil))))
  (pss_one (ps_if (pt_cmpR op_le (pe_ix ix_tup (pv 8) pe_int (fun _ _ => rfl)) (pv 2) (nomark _)) (pss_one (ps_expr (pe_bm PySem.F.plainAttrs_list PySem.F.slot_list_append PySem.F.type_list_append mt_append (pv 3) (pa_cons (pe_tup (pa_cons (pv 8) (pa_cons (pe_tup (pa_cons pe_str (pa_cons (pv 5) (pa_cons (pv 7) pa_nil)))) pa_nil))) pa_nil)))) pss_nil))))))
  (pss_one (ps_ret (pv 3))))), ?_⟩
  have l1 := has.len
  have l2 := hbs.len
  refine ⟨Nat.zero_le _, fun r h0 => ?_⟩
  refine ⟨_, rfl, p, rfl, ⟨_, SqL.of (same_new h0 _ _ _ hp)⟩, for_list (K := K) (a := p) (xs := vs) (fun i σ H' => ∃ (v4 v5 v6 v7 v8 : Option V), σ = [some (.ref p), some (.ref p2), some (.int lim), some (.ref r), v4, v5, v6, v7, v8] ∧ Same H H' ∧ EntsAt H' r ((as.take i).flatMap (oneJ bs lim))) ⟨none, none, none, none, none, rfl, same_new h0 _, [], upd_same, Ents.nil⟩ (fun i σ H' _ ⟨_, _, _, _, _, _, g, _⟩ => SqL.of (g _ _ hp)) ?_ ?_⟩
  · rintro i x σ H1 hx ⟨v4, v5, v6, v7, v8, rfl, g1, ws, hr1, hw⟩
    obtain ⟨pa, a, rfl, ha, hpa⟩ := (has.same g1).at hx
    have hi : i < as.length := (List.getElem?_eq_some_iff.mp ha).1
    have eba := ea a (List.mem_of_getElem? ha)
    obtain ⟨ta, la, h1, h2, h3⟩ := id hpa
    refine ⟨pa, _, rfl, SqT.of h1, rfl, _, _, rfl, _, _, rfl, rfl, ?_⟩
    have fl : ((as.take i).flatMap (oneJ bs lim)).length ≤ i * bs.length := by
      have := joins_len (as.take i) bs lim
      rw [List.length_take, Nat.min_eq_left (Nat.le_of_lt hi)] at this
      exact this
    have hm : i * bs.length + bs.length ≤ 10000000 := by
      have := Nat.mul_le_mul_right bs.length (Nat.succ_le_of_lt hi)
      rw [Nat.succ_mul] at this
      omega
    rw [flat_snoc _ ha]
    generalize (as.take i).flatMap (oneJ bs lim) = acc at hw fl
    refine ⟨_, rfl, p2, rfl, ⟨_, SqL.of (g1 _ _ hp2)⟩, for_list (K := K) (a := p2) (xs := us) (fun j σ H' => ∃ (v6 v7 v8 : Option V), σ = [some (.ref p), some (.ref p2), some (.int lim), some (.ref r), some (.ref ta), some (.ref la), v6, v7, v8] ∧ Same H H' ∧ (FcAt H' ta a.1 ∧ PlanAt H' a.2 la) ∧ EntsAt H' r (acc ++ oneJ (bs.take j) lim a)) ⟨v6, v7, v8, rfl, g1, ⟨h2, h3⟩, ws, hr1, by rw [List.take_zero]; show Ents H1 ws (acc ++ []); rw [List.append_nil]; exact hw⟩ (fun i σ H' _ ⟨_, _, _, _, g, _⟩ => SqL.of (g _ _ hp2)) ?_ ?_⟩
    · rintro j x σ H2 hx2 ⟨v6, v7, v8, rfl, g2, ⟨h2, h3⟩, ws2, hr2, hw2⟩
      obtain ⟨pb, b, rfl, hb, hpb⟩ := (hbs.same g2).at hx2
      have ebb := eb b (List.mem_of_getElem? hb)
      obtain ⟨tb, lb, k1, k2, k3⟩ := id hpb
      have wl2 : ws2.length < sizeLine := by
        have h1 := hw2.len
        have h2 : (oneJ (bs.take j) lim a).length ≤ bs.length := by
          have h3 := List.length_filter_le (fun e : Ent => decide (e.1.most ≤ lim)) ((bs.take j).map (joinE a))
          rw [List.length_map, List.length_take] at h3
          show (List.filter _ _).length ≤ _
          omega
        rw [List.length_append] at h1
        have : ws2.length + 1 ≤ sizeLine := big_line (by omega)
        omega
      refine ⟨pb, _, rfl, SqT.of k1, rfl, _, _, rfl, _, _, rfl, rfl, ?_⟩
      refine ⟨_, rfl, _, rfl, ta, tb, a.1, b.1, rfl, h2, k2, eba, ebb, fun x H3 g3 hx3 => ?_⟩
      have h3' := h3.same g3
      have k3' := k3.same g3
      have h2' := h2.same g3
      have hr3 := g3 _ _ hr2
      have hw3 := hw2.same g3
      obtain ⟨fx, hx4, hfx⟩ := id hx3
      refine ⟨_, rfl, x, _, 0, _, rfl, rfl, SqT.of hx4, at_pos (by decide) rfl, _, rfl, _, _, rfl, rfl, _, rfl, ?_⟩
      show (if decide ((fJoin a.1 b.1).most ≤ lim) = true then _ else _)
      refine ite2 (fun c => ?_) (fun c => ?_)
      · have c1 : (joinE a b).1.most ≤ lim := of_decide_eq_true c
        refine ⟨_, rfl, .inl ⟨rfl, _, SqL.of hr3⟩, _, rfl, _, rfl, _, rfl, three_line, fun u hu => ⟨two_line, fun v hv => ?_⟩⟩
        have e1 := same_new hu (.tup [V.str "join", V.ref la, V.ref lb])
        have e2 := same_new hv (.tup [V.ref x, V.ref u])
        refine ⟨r, ws2, _, rfl, rfl, e2 _ _ (e1 _ _ hr3), wl2, ?_⟩
        have nr : H r = none := h0
        have t4 : SameT (upd (upd H3 u (.tup [V.str "join", V.ref la, V.ref lb])) v (.tup [V.ref x, V.ref u])) (upd (upd (upd H3 u (.tup [V.str "join", V.ref la, V.ref lb])) v (.tup [V.ref x, V.ref u])) r (.lst (ws2 ++ [V.ref v]))) := sameT_lst (e2 _ _ (e1 _ _ hr3)) _
        have t3 := SameT.of (e1.trans e2)
        have t5 := t3.trans t4
        refine ⟨_, _, _, rfl, same_at (g2.trans (g3.trans (e1.trans e2))) h0, ⟨h2'.sameT t5, h3'.sameT t5⟩, _, upd_same, ?_⟩
        rw [oneJ_snoc hb, if_pos c1, ← List.append_assoc]
        refine (hw3.sameT t5).app (.one ?_)
        have hv1 : EntAt (upd (upd H3 u (.tup [V.str "join", V.ref la, V.ref lb])) v (.tup [V.ref x, V.ref u])) v (joinE a b) := ⟨x, u, upd_same, hx3.sameT t3, la, lb, e2 _ _ upd_same, h3'.sameT t3, k3'.sameT t3⟩
        exact hv1.sameT t4
      · have c1 : ¬ (joinE a b).1.most ≤ lim := fun z => c (decide_eq_true z)
        refine ⟨_, _, _, rfl, g2.trans g3, ⟨h2', h3'⟩, _, hr3, ?_⟩
        rw [oneJ_snoc hb, if_neg c1, List.append_nil]
        exact hw3
    · rintro σ H2 ⟨v6, v7, v8, rfl, g2, _, h2⟩
      rw [l2, List.take_length] at h2
      exact ⟨_, _, _, _, _, rfl, g2, h2⟩
  · rintro σ H1 ⟨v4, v5, v6, v7, v8, rfl, g1, h1⟩
    rw [l1, List.take_length] at h1
    exact ⟨_, rfl, q r H1 g1 h1⟩
end
end P64
namespace P64
open PySem PySem.Spec PyProof.Rows L2 SX EX WK
/-- a sequence of ints: a list or a tuple -/
def IntsAt (H : Hp) (p : Addr) (ks : List Int) : Prop := H p = some (.lst (ks.map V.int)) ∨ H p = some (.tup (ks.map V.int))
theorem IntsAt.same {H H' : Hp} {p : Addr} {ks : List Int} (e : Same H H') (h : IntsAt H p ks) : IntsAt H' p ks := h.imp (e _ _) (e _ _)
section
variable {P : Program} {w : World} {K : PySem.W.Frag} {mg : Str → Option Value} {base : Heap} {f : Addr} {fd : FuncData}
/-! ### steps -/
def spSteps : Sp := fun vs H Q _ => ∃ (p g : Addr) (es : List Ent) (ks : List Int) (size : Int), vs = [.ref p, .int size, .ref g] ∧ EntsAt H p es ∧ IntsAt H g ks ∧ (∀ e ∈ es, EB e) ∧ (∀ k ∈ ks, 2 ≤ k ∧ k ≤ 10) ∧ es.length * ks.length ≤ 10000000 ∧ ∀ r H', Same H H' → EntsAt H' r (stepsF es size ks) → Q (.ref r) H'
abbrev s_steps : Stmt := top 18
abbrev N_steps : List Str := ["entries", "size", "grades", "found", "told", "plan", "grade"]
theorem sc_steps : FnScope N_steps ["entries", "size", "grades"] (defScope s_steps) := ⟨rfl, rfl, rfl, by decide +kernel, rfl, by decide +kernel, by decide +kernel⟩
abbrev oneS (size : Int) (ks : List Int) (a : Ent) : List Ent := ks.map fun k => thinE size k a
theorem ok_steps (F : Fun K "steps" "steps" s_steps f fd) (T : Txt mg) (C_thin_step : Cal P w K mg base 3 "thin_step" ["grade", "size", "inner"] spThin) : FnOk P w K mg base CX0 4 f fd ["entries", "size", "grades"] spSteps := by
  refine F.ok sc_steps (fun vs H Q E h => ?_) (fun cdv A outer s H vs Q E hr h => ?_)
  · obtain ⟨p, g, es, ks, size, rfl, _⟩ := h
    rfl
  obtain ⟨p, g, es, ks, size, rfl, ⟨vs, hp, hes⟩, hg, eb, kb, hlen, q⟩ := h
  refine ⟨_, (pss_cons (ps_set (i := 3) sc_steps.nd rfl (Or.inl rfl) (pe_lst pa_nil))
  (pss_cons (ps_for PassesOwn.never rfl (pi_list (pv 0)) (pg_tup rfl (pgs_cons (pg_name (i := 4) sc_steps.nd rfl (Or.inl rfl)) (pgs_cons (pg_name (i := 5) sc_steps.nd rfl (Or.inl rfl)) pgs_nil))) (pss_one (ps_for PassesOwn.never rfl (pi_or (pi_list (pv 2)) (pi_tup (pv 2))) (pg_name (i := 6) sc_steps.nd rfl (Or.inl rfl)) (pss_one (ps_expr (pe_bm PySem.F.plainAttrs_list PySem.F.slot_list_append PySem.F.type_list_append mt_append (pv 3) (pa_cons (pe_tup (pa_cons (pe_cal C_thin_step (hr.mono (by omega)) rfl (pa_cons (pv 6) (pa_cons (pv 1) (pa_cons (pv 4) pa_nil)))) (pa_cons (pe_tup (pa_cons pe_str (pa_cons (pv 6) (pa_cons (pv 5) pa_nil)))) pa_nil))) pa_nil)))))))
  (pss_one (ps_ret (pv 3))))), ?_⟩
  have l1 := hes.len
  refine ⟨Nat.zero_le _, fun r h0 => ?_⟩
  refine ⟨_, rfl, p, rfl, ⟨_, SqL.of (same_new h0 _ _ _ hp)⟩, for_list (K := K) (a := p) (xs := vs) (fun i σ H' => ∃ (v4 v5 v6 : Option V), σ = [some (.ref p), some (.int size), some (.ref g), some (.ref r), v4, v5, v6] ∧ Same H H' ∧ EntsAt H' r ((es.take i).flatMap (oneS size ks))) ⟨none, none, none, rfl, same_new h0 _, [], upd_same, Ents.nil⟩ (fun i σ H' _ ⟨_, _, _, _, g, _⟩ => SqL.of (g _ _ hp)) ?_ ?_⟩
  · rintro i x σ H1 hx ⟨v4, v5, v6, rfl, g1, ws, hr1, hw⟩
    obtain ⟨pa, a, rfl, ha, hpa⟩ := (hes.same g1).at hx
    have hi : i < es.length := (List.getElem?_eq_some_iff.mp ha).1
    have eba := eb a (List.mem_of_getElem? ha)
    obtain ⟨ta, la, h1, h2, h3⟩ := id hpa
    refine ⟨pa, _, rfl, SqT.of h1, rfl, _, _, rfl, _, _, rfl, rfl, ?_⟩
    have fl : ((es.take i).flatMap (oneS size ks)).length ≤ i * ks.length := by
      have := steps_len (es.take i) size ks
      rw [List.length_take, Nat.min_eq_left (Nat.le_of_lt hi)] at this
      exact this
    have hm : i * ks.length + ks.length ≤ 10000000 := by
      have := Nat.mul_le_mul_right ks.length (Nat.succ_le_of_lt hi)
      rw [Nat.succ_mul] at this
      omega
    rw [flat_snoc _ ha]
    generalize (es.take i).flatMap (oneS size ks) = acc at hw fl
    refine tFor_or (K := K) (i := 2) (a := g) (xs := ks.map V.int) rfl (hg.same g1) (fun j σ H' => ∃ (v6 : Option V), σ = [some (.ref p), some (.int size), some (.ref g), some (.ref r), some (.ref ta), some (.ref la), v6] ∧ Same H H' ∧ (FcAt H' ta a.1 ∧ PlanAt H' a.2 la) ∧ (∀ u, H1 g = some u → H' g = some u) ∧ EntsAt H' r (acc ++ oneS size (ks.take j) a)) ⟨v6, rfl, g1, ⟨h2, h3⟩, (fun u h => h), ws, hr1, by rw [List.take_zero]; show Ents H1 ws (acc ++ []); rw [List.append_nil]; exact hw⟩ (fun j σ' H' ⟨_, _, _, _, e, _⟩ => e) ?_ ?_
    · rintro j x σ H2 hx2 ⟨v6, rfl, g2, ⟨h2, h3⟩, hgg, ws2, hr2, hw2⟩
      obtain ⟨k, hk, rfl⟩ : ∃ k, ks[j]? = some k ∧ x = V.int k := by
        rw [List.getElem?_map] at hx2
        cases e : ks[j]? with
        | none => rw [e] at hx2; cases hx2
        | some k => rw [e] at hx2; exact ⟨k, rfl, (Option.some.inj hx2).symm⟩
      obtain ⟨k2, k10⟩ := kb k (List.mem_of_getElem? hk)
      have hj : j < ks.length := (List.getElem?_eq_some_iff.mp hk).1
      have wl2 : ws2.length < sizeLine := by
        have h1 := hw2.len
        rw [List.length_append, List.length_map, List.length_take] at h1
        have : ws2.length + 1 ≤ sizeLine := big_line (by omega)
        omega
      refine ⟨_, rfl, .inl ⟨rfl, _, SqL.of hr2⟩, _, rfl, _, rfl, _, rfl, k, size, ta, a.1, rfl, k2, k10, h2, eba, fun x H3 g3 hx3 => ?_⟩
      have h3' := h3.same g3
      have h2' := h2.same g3
      have hr3 := g3 _ _ hr2
      have hw3 := hw2.same g3
      refine ⟨_, rfl, _, rfl, three_line, fun u hu => ⟨two_line, fun v hv => ?_⟩⟩
      have e1 := same_new hu (.tup [V.str "thin", V.int k, V.ref la])
      have e2 := same_new hv (.tup [V.ref x, V.ref u])
      refine ⟨r, ws2, _, rfl, rfl, e2 _ _ (e1 _ _ hr3), wl2, ?_⟩
      have t4 : SameT (upd (upd H3 u (.tup [V.str "thin", V.int k, V.ref la])) v (.tup [V.ref x, V.ref u])) (upd (upd (upd H3 u (.tup [V.str "thin", V.int k, V.ref la])) v (.tup [V.ref x, V.ref u])) r (.lst (ws2 ++ [V.ref v]))) := sameT_lst (e2 _ _ (e1 _ _ hr3)) _
      have t3 := SameT.of (e1.trans e2)
      have t5 := t3.trans t4
      have sH := same_at (o := .lst (ws2 ++ [V.ref v])) (g2.trans (g3.trans (e1.trans e2))) h0
      refine ⟨_, rfl, sH, ⟨h2'.sameT t5, h3'.sameT t5⟩, fun z hz => ?_, _, upd_same, ?_⟩
      · rcases hg with hg | hg
        · have := g1 _ _ hg
          rw [this] at hz
          cases hz
          exact sH _ _ hg
        · have := g1 _ _ hg
          rw [this] at hz
          cases hz
          exact sH _ _ hg
      · unfold oneS
        rw [take_snoc hk, List.map_append, ← List.append_assoc]
        refine (hw3.sameT t5).app (.one ?_)
        have hv1 : EntAt (upd (upd H3 u (.tup [V.str "thin", V.int k, V.ref la])) v (.tup [V.ref x, V.ref u])) v (thinE size k a) := ⟨x, u, upd_same, hx3.sameT t3, la, e2 _ _ upd_same, h3'.sameT t3⟩
        exact hv1.sameT t4
    · rintro σ H2 ⟨v6, rfl, g2, _, _, h2⟩
      rw [List.length_map, List.take_length] at h2
      exact ⟨_, _, _, rfl, g2, h2⟩
  · rintro σ H1 ⟨v4, v5, v6, rfl, g1, h1⟩
    rw [l1, List.take_length] at h1
    exact ⟨_, rfl, q r H1 g1 h1⟩
end
end P64
namespace P64
open PySem PySem.Spec PyProof.Rows L2 SX EX WK
/-- a pair of a name and a count, as a tuple or a list -/
def PairAt (H : Hp) (b : Addr) (c : Cnt) : Prop := H b = some (.lst [.str (S c.1), .int c.2]) ∨ H b = some (.tup [.str (S c.1), .int c.2])
def CntAt (H : Hp) (a : Addr) (cs : List Cnt) : Prop := ∃ bs : List Addr, (H a = some (.lst (bs.map V.ref)) ∨ H a = some (.tup (bs.map V.ref))) ∧ Paired (PairAt H) bs cs
theorem CntAt.same {H H' : Hp} {a : Addr} {cs : List Cnt} (e : Same H H') (h : CntAt H a cs) : CntAt H' a cs := by
  obtain ⟨bs, h1, h2⟩ := h
  exact ⟨bs, h1.imp (e _ _) (e _ _), L2.Paired.mapP h2 fun b c => Or.imp (e _ _) (e _ _)⟩
abbrev k2 (i j : Nat) : List Key := [.inl (i : Int), .inl (j : Int)]
/-- the tables of the stretches that q tells -/
def TabAt (H : Hp) (d : Addr) (q : Nat → Nat → Prop) (X : Nat → Nat → List Ent) : Prop := ∃ kvs, H d = some (.dT kvs) ∧ ∀ i j, q i j → ∃ p, valV kvs (k2 i j) = some (.ref p) ∧ EntsAt H p (X i j)
theorem TabAt.same {H H' : Hp} {d : Addr} {q : Nat → Nat → Prop} {X : Nat → Nat → List Ent} (e : Same H H') (h : TabAt H d q X) : TabAt H' d q X := by
  obtain ⟨kvs, h1, h2⟩ := h
  exact ⟨kvs, e _ _ h1, fun i j hq => let ⟨p, a, b⟩ := h2 i j hq; ⟨p, a, b.same e⟩⟩
theorem TabAt.get {H : Hp} {d u : Addr} {q : Nat → Nat → Prop} {X : Nat → Nat → List Ent} (h : TabAt H d q X) {i j : Nat} (hq : q i j) (hu : H u = some (.tup [.int (i : Int), .int (j : Int)])) : ∃ p, DGet H d (.ref u) (some (.ref p)) ∧ EntsAt H p (X i j) := by
  obtain ⟨kvs, h1, h2⟩ := h
  obtain ⟨p, a, b⟩ := h2 i j hq
  refine ⟨p, ?_, b⟩
  have := DGet.t (k := k2 i j) h1 hu
  rw [a] at this
  exact this
abbrev midF (X : Nat → Nat → List Ent) (a b : Nat) (lim : Int) (i : Nat) : List Ent := joinsF (X a (a + 1 + i)) (X (a + 1 + i) b) lim
theorem range_flat_le {α : Type} (f : Nat → List α) {i n : Nat} (h : i ≤ n) : ((List.range i).flatMap f).length ≤ ((List.range n).flatMap f).length := by
  obtain ⟨k, rfl⟩ := Nat.le.dest h
  clear h
  induction k with
  | zero => exact Nat.le_refl _
  | succ k ih =>
    rw [← Nat.add_assoc, List.range_succ, List.flatMap_append, List.length_append]
    omega
theorem range_flat_succ {α : Type} (f : Nat → List α) (i : Nat) : (List.range (i + 1)).flatMap f = (List.range i).flatMap f ++ f i := by
  rw [List.range_succ, List.flatMap_append, List.flatMap_cons, List.flatMap_nil, List.append_nil]
section
variable {P : Program} {w : World} {K : PySem.W.Frag} {mg : Str → Option Value} {base : Heap} {f : Addr} {fd : FuncData}
/-! ### bare_entries -/
def spBare : Sp := fun vs H Q _ => ∃ (c d s : Addr) (cs : List Cnt) (X : Nat → Nat → List Ent) (a b : Nat) (lim : Int), vs = [.ref c, .ref d, .ref s, .int lim] ∧ CntAt H c cs ∧ TabAt H d (fun i j => a ≤ i ∧ i < j ∧ j ≤ b ∧ j - i < b - a) X ∧ H s = some (.tup [.int (a : Int), .int (b : Int)]) ∧ a < b ∧ b ≤ cs.length ∧ b ≤ 100 ∧
  (∀ i j, a ≤ i → j ≤ b → ∀ e ∈ X i j, EB e) ∧ (∀ i, (X a (a + 1 + i)).length * (X (a + 1 + i) b).length ≤ 10000000) ∧ (∀ e ∈ bareAll X a b lim, EB e) ∧ (bareAll X a b lim).length ≤ 10000000 ∧ ∀ r H', Same H H' → EntsAt H' r (bareF cs X a b lim) → Q (.ref r) H'
abbrev s_bare_entries : Stmt := top 19
abbrev N_bare_entries : List Str := ["counts", "tables", "stretch", "limit", "first", "last", "name", "count", "found", "middle"]
theorem sc_bare_entries : FnScope N_bare_entries ["counts", "tables", "stretch", "limit"] (defScope s_bare_entries) := ⟨rfl, rfl, rfl, by decide +kernel, rfl, by decide +kernel, by decide +kernel⟩
theorem ok_bare_entries (F : Fun K "bare_entries" "bare_entries" s_bare_entries f fd) (T : Txt mg) (C_front : Cal P w K mg base 3 "front" ["entries"] spFront) (C_joins : Cal P w K mg base 3 "joins" ["ones", "twos", "limit"] spJoins) : FnOk P w K mg base CX0 4 f fd ["counts", "tables", "stretch", "limit"] spBare := by
  refine F.ok sc_bare_entries (fun vs H Q E h => ?_) (fun cdv A outer s H vs Q E hr h => ?_)
  · obtain ⟨c, d, s, cs, X, a, b, lim, rfl, _⟩ := h
    rfl
  obtain ⟨c, d, st, cs, X, a, b, lim, rfl, hc, hd, hst, hab, hb, hb100, ebX, hlen, ebA, hA, q⟩ := h
  refine ⟨_, (pss_cons (ps_asg (pv 2) (pg_tup rfl (pgs_cons (pg_name (i := 4) sc_bare_entries.nd rfl (Or.inl rfl)) (pgs_cons (pg_name (i := 5) sc_bare_entries.nd rfl (Or.inl rfl)) pgs_nil))))
  (pss_cons (ps_if (pt_cmpR op_eq (pv 5) (pe_op op_add (pv 4) pe_int) (nomark _)) (pss_cons (ps_asg (pe_ix ix_or (pv 0) (pv 4) (fun _ _ => rfl)) (pg_or (pg_lst rfl (pgs_cons (pg_name (i := 6) sc_bare_entries.nd rfl (Or.inl rfl)) (pgs_cons (pg_name (i := 7) sc_bare_entries.nd rfl (Or.inl rfl)) pgs_nil))) (pg_tup rfl (pgs_cons (pg_name (i := 6) sc_bare_entries.nd rfl (Or.inl rfl)) (pgs_cons (pg_name (i := 7) sc_bare_entries.nd rfl (Or.inl rfl)) pgs_nil)))))
  (pss_one (ps_ret (pe_ifExp (pt_cmpR op_le (pv 7) (pv 3) (nomark _)) (pe_lst (pa_cons (pe_tup (pa_cons (pe_tup (pa_cons (pv 7) (pa_cons (pv 7) (pa_cons (pe_tup (pa_cons pe_int (pa_cons pe_int pa_nil))) pa_nil)))) (pa_cons (pe_tup (pa_cons pe_str (pa_cons (pv 6) pa_nil))) pa_nil))) pa_nil)) (pe_lst pa_nil))))) pss_nil)
  (pss_cons (ps_set (i := 8) sc_bare_entries.nd rfl (Or.inl rfl) (pe_lst pa_nil))
  (pss_cons (ps_for PassesOwn.never rfl (pi_range2 (by rfl) T.b_range (pa_cons (pe_op op_add (pv 4) pe_int) (pa_cons (pv 5) pa_nil))) (pg_name (i := 9) sc_bare_entries.nd rfl (Or.inl rfl)) (pss_one (ps_set (i := 8) sc_bare_entries.nd rfl (Or.inl rfl) (pe_op op_cat (pv 8) (pe_cal C_joins (hr.mono (by omega)) rfl (pa_cons (pe_dget (hu_of hr) (pv 1) (pe_tup (pa_cons (pv 4) (pa_cons (pv 9) pa_nil))) (fun _ _ => rfl)) (pa_cons (pe_dget (hu_of hr) (pv 1) (pe_tup (pa_cons (pv 9) (pa_cons (pv 5) pa_nil))) (fun _ _ => rfl)) (pa_cons (pv 3) pa_nil))))))))
  (pss_one (ps_ret (pe_cal C_front (hr.mono (by omega)) rfl (pa_cons (pv 8) pa_nil)))))))), ?_⟩
  refine ⟨_, rfl, st, _, rfl, SqT.of hst, rfl, _, _, rfl, _, _, rfl, rfl, ?_⟩
  refine ⟨_, rfl, _, rfl, _, _, rfl, rfl, rfl, _, rfl, ?_⟩
  refine ite2 (fun z => ?_) (fun z => ?_)
  · have e1 : b = a + 1 := by
      have := V.int.inj (of_decide_eq_true z)
      omega
    obtain ⟨bs, hcb, hbs⟩ := hc
    have ha : a < cs.length := by omega
    have hat : cs[a]? = some cs[a] := List.getElem?_eq_getElem ha
    obtain ⟨pb, hpb, hpr⟩ := Paired.at hbs hat
    have hv : (bs.map V.ref)[a]? = some (.ref pb) := by rw [List.getElem?_map, hpb]; rfl
    have ev : bareF cs X a b lim = if cs[a].2 ≤ lim then [takeE cs[a]] else [] := by
      unfold bareF
      rw [if_pos e1]
      unfold bareOne
      rw [hat]
    rw [ev] at q
    generalize cs[a] = cc at hpr q
    refine ⟨_, rfl, _, rfl, ?_⟩
    rcases hcb with hcb | hcb <;> rcases hpr with hpr | hpr
    all_goals first
      | refine .inl ⟨c, _, _, _, rfl, rfl, SqL.of hcb, atI_nat hv, .inl ⟨pb, _, rfl, SqL.of hpr, rfl, _, _, rfl, _, _, rfl, rfl, ?_⟩⟩
      | refine .inl ⟨c, _, _, _, rfl, rfl, SqL.of hcb, atI_nat hv, .inr ⟨pb, _, rfl, SqT.of hpr, rfl, _, _, rfl, _, _, rfl, rfl, ?_⟩⟩
      | refine .inr ⟨c, _, _, _, rfl, rfl, SqT.of hcb, atI_nat hv, .inl ⟨pb, _, rfl, SqL.of hpr, rfl, _, _, rfl, _, _, rfl, rfl, ?_⟩⟩
      | refine .inr ⟨c, _, _, _, rfl, rfl, SqT.of hcb, atI_nat hv, .inr ⟨pb, _, rfl, SqT.of hpr, rfl, _, _, rfl, _, _, rfl, rfl, ?_⟩⟩
    all_goals
      refine ⟨_, rfl, _, rfl, _, _, rfl, rfl, _, rfl, ?_⟩
      show (if decide (cc.2 ≤ lim) = true then _ else _)
      refine ite2 (fun z => ?_) (fun z => ?_)
      · have z := of_decide_eq_true z
        rw [if_pos z] at q
        refine ⟨_, rfl, _, rfl, two_line, fun fa hf => ⟨three_line, fun ta ht => ⟨_, rfl, two_line, fun la hl => ⟨two_line, fun ea he => ⟨line_ge (by show 1 ≤ 100000; decide), fun r hr => ?_⟩⟩⟩⟩⟩
        have e1 := same_new hf (.tup [V.int 1, V.int 1])
        have e2 := same_new ht (.tup [V.int cc.2, V.int cc.2, V.ref fa])
        have e3 := same_new hl (.tup [V.str "take", V.str (S cc.1)])
        have e4 := same_new he (.tup [V.ref ta, V.ref la])
        have e5 := same_new hr (.lst [V.ref ea])
        refine q r _ (e1.trans (e2.trans (e3.trans (e4.trans e5)))) ⟨_, upd_same, .one ⟨ta, la, e5 _ _ upd_same, ⟨fa, e5 _ _ (e4 _ _ (e3 _ _ upd_same)), e5 _ _ (e4 _ _ (e3 _ _ (e2 _ _ upd_same)))⟩, e5 _ _ (e4 _ _ upd_same)⟩⟩
      · have z := fun y => z (decide_eq_true y)
        rw [if_neg z] at q
        exact ⟨Nat.zero_le _, fun r hr => q r _ (same_new hr _) ⟨_, upd_same, Ents.nil⟩⟩
  · have e1 : ¬ b = a + 1 := fun e => z (decide_eq_true (by rw [e]; rfl))
    have ev : bareF cs X a b lim = frontF ((List.range (b - (a + 1))).flatMap (midF X a b lim)) := by
      unfold bareF
      rw [if_neg e1]
      rfl
    rw [ev] at q
    have hA : ((List.range (b - (a + 1))).flatMap (midF X a b lim)).length ≤ 10000000 := hA
    have ebA : ∀ e ∈ (List.range (b - (a + 1))).flatMap (midF X a b lim), EB e := ebA
    have hn : ((b : Int) - ((a : Int) + 1)).toNat = b - (a + 1) := by omega
    refine ⟨Nat.zero_le _, fun r0 h0 => ?_⟩
    refine ⟨_, rfl, _, _, rfl, rfl, _, rfl, ?_⟩
    refine ⟨(a : Int) + 1, (b : Int), rfl, ⟨by omega, by omega, by omega⟩, for_range (lo := (a : Int) + 1) (n := ((b : Int) - ((a : Int) + 1)).toNat) (fun i σ H' => ∃ (r : Addr) (v9 : Option V), σ = [some (.ref c), some (.ref d), some (.ref st), some (.int lim), some (.int (a : Int)), some (.int (b : Int)), none, none, some (.ref r), v9] ∧ Same H H' ∧ EntsAt H' r ((List.range i).flatMap (midF X a b lim))) ⟨r0, none, rfl, same_new h0 _, [], upd_same, Ents.nil⟩ ?_ ?_⟩
    · rintro i σ H1 hi ⟨r, v9, rfl, g1, ws, hr1, hw⟩
      rw [hn] at hi
      have em : ((a : Int) + 1 + (i : Nat)) = ((a + 1 + i : Nat) : Int) := by omega
      show gName 9 (V.int ((a : Int) + 1 + (i : Nat))) _ _ _
      rw [em]
      have tl := hd.same g1
      refine ⟨_, rfl, _, rfl, _, rfl, _, rfl, two_line, fun u hu => ?_⟩
      obtain ⟨p1, d1, t1⟩ := (tl.same (same_new hu (.tup [V.int (a : Int), V.int ((a + 1 + i : Nat) : Int)]))).get (i := a) (j := a + 1 + i) ⟨by omega, by omega, by omega, by omega⟩ upd_same
      refine ⟨d, _, rfl, d1, ?_⟩
      have g2 := same_new hu (.tup [V.int (a : Int), V.int ((a + 1 + i : Nat) : Int)])
      generalize upd H1 u (.tup [V.int (a : Int), V.int ((a + 1 + i : Nat) : Int)]) = H2 at d1 t1 g2
      refine ⟨_, rfl, _, rfl, _, rfl, two_line, fun v hv => ?_⟩
      obtain ⟨p2, d2, t2⟩ := ((tl.same g2).same (same_new hv (.tup [V.int ((a + 1 + i : Nat) : Int), V.int (b : Int)]))).get (i := a + 1 + i) (j := b) ⟨by omega, by omega, by omega, by omega⟩ upd_same
      refine ⟨d, _, rfl, d2, ?_⟩
      have g3 := same_new hv (.tup [V.int ((a + 1 + i : Nat) : Int), V.int (b : Int)])
      generalize upd H2 v (.tup [V.int ((a + 1 + i : Nat) : Int), V.int (b : Int)]) = H3 at d2 t2 g3
      refine ⟨_, rfl, p1, p2, _, _, lim, rfl, t1.same g3, t2, ebX _ _ (by omega) (by omega), ebX _ _ (by omega) (by omega), hlen i, fun z H4 g4 hz => ?_⟩
      obtain ⟨zs, hz1, hz2⟩ := hz
      have hr4 := g4 _ _ (g3 _ _ (g2 _ _ hr1))
      have hw4 := hw.same (g2.trans (g3.trans g4))
      have bound : ws.length + zs.length ≤ 10000000 := by
        have h1 := hw.len
        have h2 := hz2.len
        have h3 := range_flat_le (midF X a b lim) (Nat.succ_le_of_lt hi)
        rw [Nat.succ_eq_add_one, range_flat_succ, List.length_append] at h3
        show _ ≤ _
        have h4 : (midF X a b lim i).length = (joinsF (X a (a + 1 + i)) (X (a + 1 + i) b) lim).length := rfl
        omega
      refine ⟨r, z, ws, zs, rfl, rfl, hr4, hz1, big_line (by omega), fun y hy => ?_⟩
      refine ⟨y, _, rfl, g1.trans (g2.trans (g3.trans (g4.trans (same_new hy _)))), _, upd_same, ?_⟩
      rw [range_flat_succ]
      exact (hw4.same (same_new hy _)).app (hz2.same (same_new hy _))
    · rintro σ H1 ⟨r, v9, rfl, g1, h1⟩
      rw [hn] at h1
      exact ⟨_, rfl, r, _, rfl, h1, ebA, hA, fun r H' g2 h2 => q r H' (g1.trans g2) h2⟩
end
end P64
/-! What stands in the program's tables: plans of the stretch's names, their forecasts, how many there are. -/
namespace P64
def seg (cs : List Cnt) (a b : Nat) : List Cnt := (cs.drop a).take (b - a)
theorem seg_app (cs : List Cnt) {a m b : Nat} (h1 : a ≤ m) (h2 : m ≤ b) : seg cs a m ++ seg cs m b = seg cs a b := by
  unfold seg
  have e : cs.drop m = (cs.drop a).drop (m - a) := by rw [List.drop_drop]; congr 1; omega
  rw [e, ← List.take_add]
  congr 1
  omega
theorem seg_one {cs : List Cnt} {a : Nat} {c : Cnt} (h : cs[a]? = some c) : seg cs a (a + 1) = [c] := by
  unfold seg
  have e : a + 1 - a = 1 := by omega
  rw [e]
  have h2 : (cs.drop a)[0]? = some c := by rw [List.getElem?_drop, Nat.add_zero]; exact h
  cases hd : cs.drop a with
  | nil => rw [hd] at h2; cases h2
  | cons x l =>
    rw [hd] at h2
    cases h2
    rfl
theorem seg_all (cs : List Cnt) : seg cs 0 cs.length = cs := by
  unfold seg
  rw [List.drop_zero, Nat.sub_zero, List.take_length]
structure PG (cs : List Cnt) (kn : List Nat → Int) (size : Int) (ks : List Int) (lim : Int) (a b h : Nat) (e : Ent) : Prop where
  fc_ : e.1 = fc kn size e.2
  nm : e.2.names = (seg cs a b).map (·.1)
  gd : e.2.Good ks (cs.map (·.1))
  ht : e.2.height ≤ h
  pk : e.1.peak ≤ lim
section
variable {cs : List Cnt} {kn : List Nat → Int} {size : Int} {ks : List Int} {lim : Int}
theorem tb_stable : ∀ (k w a b : Nat), b ≤ a + w → tb cs size ks lim (w + k) a b = tb cs size ks lim w a b
  | 0, w, a, b, _ => rfl
  | k + 1, w, a, b, h => by
    rw [← Nat.add_assoc]
    show (if b = a + (w + k + 1) then _ else tb cs size ks lim (w + k) a b) = _
    rw [if_neg (by omega)]
    exact tb_stable k w a b h
theorem tb_at {n w a b : Nat} (h : b ≤ a + w) (hw : w ≤ n) : tb cs size ks lim n a b = tb cs size ks lim w a b := by
  obtain ⟨k, rfl⟩ := Nat.le.dest hw
  exact tb_stable k w a b h
theorem bareAll_congr {X Y : Nat → Nat → List Ent} {a b : Nat} (h : ∀ i j, a ≤ i → i < j → j ≤ b → j - i < b - a → X i j = Y i j) : bareAll X a b lim = bareAll Y a b lim := by
  unfold bareAll
  have e : ∀ l : List Nat, (∀ i ∈ l, i < b - (a + 1)) → (l.flatMap fun i => joinsF (X a (a + 1 + i)) (X (a + 1 + i) b) lim) = l.flatMap fun i => joinsF (Y a (a + 1 + i)) (Y (a + 1 + i) b) lim := fun l => by
    induction l with
    | nil => exact fun _ => rfl
    | cons i l ih =>
      intro hl
      have hi := hl i List.mem_cons_self
      rw [List.flatMap_cons, List.flatMap_cons, ih fun j hj => hl j (List.mem_cons_of_mem _ hj), h a (a + 1 + i) (by omega) (by omega) (by omega) (by omega), h (a + 1 + i) b (by omega) (by omega) (by omega) (by omega)]
  exact e _ fun i hi => List.mem_range.mp hi
theorem tb_rec {n a b : Nat} (h1 : a < b) (h2 : b ≤ a + n) : tb cs size ks lim n a b = fullF size ks (bareF cs (tb cs size ks lim n) a b lim) := by
  obtain ⟨w, hw⟩ : ∃ w, b = a + (w + 1) := ⟨b - a - 1, by omega⟩
  rw [tb_at (w := w + 1) (by omega) (by omega)]
  show (if b = a + (w + 1) then _ else _) = _
  rw [if_pos hw]
  congr 1
  unfold bareF
  by_cases e : b = a + 1
  · rw [if_pos e, if_pos e]
  · rw [if_neg e, if_neg e]
    congr 1
    refine bareAll_congr fun i j h3 h4 h5 h6 => ?_
    exact (tb_at (by omega) (by omega)).symm
theorem join_peak {a b : Fc} (h1 : a.most + b.most ≤ lim) (h2 : a.peak ≤ lim) (h3 : b.peak ≤ lim) : (fJoin a b).peak ≤ lim := by
  have : (fJoin a b).peak = imax (imax (a.most + b.most) a.peak) b.peak := by unfold fJoin; split <;> rfl
  rw [this]
  unfold imax
  split <;> split <;> omega
/-- the entries of a stretch without a step at the top -/
def PGb (cs : List Cnt) (kn : List Nat → Int) (size : Int) (ks : List Int) (lim : Int) (a b h : Nat) (e : Ent) : Prop := PG cs kn size ks lim a b h e ∧ e.2.thick
theorem pg_joins {X : Nat → Nat → List Ent} {a b : Nat} (hX : ∀ i j, a ≤ i → i < j → j ≤ b → j - i < b - a → ∀ e ∈ X i j, PG cs kn size ks lim i j (2 * (j - i)) e) {e : Ent} (he : e ∈ bareAll X a b lim) : PGb cs kn size ks lim a b (2 * (b - a) - 1) e := by
  obtain ⟨i, hi, h⟩ := List.mem_flatMap.mp he
  have hi := List.mem_range.mp hi
  obtain ⟨x, hx, y, hy, rfl, hm⟩ := mem_joins.mp h
  have px := hX a (a + 1 + i) (by omega) (by omega) (by omega) (by omega) x hx
  have py := hX (a + 1 + i) b (by omega) (by omega) (by omega) (by omega) y hy
  refine ⟨⟨?_, ?_, ⟨px.gd, py.gd⟩, ?_, join_peak hm px.pk py.pk⟩, trivial⟩
  · show fJoin x.1 y.1 = fJoin (fc kn size x.2) (fc kn size y.2)
    rw [px.fc_, py.fc_]
  · show x.2.names ++ y.2.names = _
    rw [px.nm, py.nm, ← List.map_append, seg_app cs (by omega) (by omega)]
  · show max x.2.height y.2.height + 1 ≤ _
    have := px.ht
    have := py.ht
    omega
theorem pg_bare (hk : ∀ c ∈ cs, kn c.1 = c.2) {X : Nat → Nat → List Ent} {a b : Nat} (hab : a < b) (hX : ∀ i j, a ≤ i → i < j → j ≤ b → j - i < b - a → ∀ e ∈ X i j, PG cs kn size ks lim i j (2 * (j - i)) e) {e : Ent} (he : e ∈ bareF cs X a b lim) : PGb cs kn size ks lim a b (2 * (b - a) - 1) e := by
  unfold bareF at he
  by_cases e1 : b = a + 1
  · rw [if_pos e1] at he
    unfold bareOne at he
    cases hc : cs[a]? with
    | none => rw [hc] at he; exact nomatch he
    | some c =>
      rw [hc] at he
      have hm := List.mem_of_getElem? hc
      by_cases hl : c.2 ≤ lim
      · simp only [if_pos hl] at he
        obtain rfl := List.mem_singleton.mp he
        refine ⟨⟨?_, ?_, List.mem_map.mpr ⟨c, hm, rfl⟩, ?_, hl⟩, trivial⟩
        · show fTake c.2 = fTake (kn c.1)
          rw [hk c hm]
        · rw [e1, seg_one hc]
          rfl
        · show 1 ≤ _
          omega
      · simp only [if_neg hl] at he
        exact nomatch he
  · rw [if_neg e1] at he
    exact pg_joins hX (front_mem he)
theorem pg_full {br : List Ent} {a b : Nat} (hab : a < b) (h : ∀ e ∈ br, PGb cs kn size ks lim a b (2 * (b - a) - 1) e) {e : Ent} (he : e ∈ br ++ stepsF br size ks) : PG cs kn size ks lim a b (2 * (b - a)) e := by
  rcases List.mem_append.mp he with he | he
  · have p := (h e he).1
    exact ⟨p.fc_, p.nm, p.gd, by have := p.ht; omega, p.pk⟩
  · obtain ⟨x, hx, k, hk, rfl⟩ := mem_steps.mp he
    obtain ⟨p, tk⟩ := h x hx
    refine ⟨?_, p.nm, ⟨hk, tk, p.gd⟩, ?_, p.pk⟩
    · show fThin k size x.1 = fThin k size (fc kn size x.2)
      rw [p.fc_]
    · show x.2.height + 1 ≤ _
      have := p.ht
      omega
theorem pg_tb (hk : ∀ c ∈ cs, kn c.1 = c.2) : ∀ w a b, a < b → b ≤ a + w → ∀ e ∈ tb cs size ks lim w a b, PG cs kn size ks lim a b (2 * (b - a)) e
  | 0, a, b, h1, h2, e, _ => absurd h1 (by omega)
  | w + 1, a, b, h1, h2, e, he => by
    have ih := pg_tb hk w
    by_cases e1 : b = a + (w + 1)
    · have : tb cs size ks lim (w + 1) a b = fullF size ks (bareF cs (tb cs size ks lim w) a b lim) := by
        show (if b = a + (w + 1) then _ else _) = _
        rw [if_pos e1]
      rw [this] at he
      exact pg_full h1 (fun x hx => pg_bare hk h1 (fun i j h3 h4 h5 h6 => ih i j h4 (by omega)) hx) (front_mem he)
    · have : tb cs size ks lim (w + 1) a b = tb cs size ks lim w a b := by
        show (if b = a + (w + 1) then _ else _) = _
        rw [if_neg e1]
      rw [this] at he
      exact ih a b h1 (by omega) e he
/-! ### how many -/
def wt : Nat → Nat
  | 1 => 4
  | 2 => 64
  | 3 => 2048
  | 4 => 81920
  | 5 => 3670016
  | _ => 0
def wb : Nat → Nat
  | 1 => 1
  | 2 => 16
  | 3 => 512
  | 4 => 20480
  | 5 => 917504
  | _ => 0
theorem joins_len' (ones twos : List Ent) (lim : Int) {x y : Nat} (h1 : ones.length ≤ x) (h2 : twos.length ≤ y) : (joinsF ones twos lim).length ≤ x * y := by
  have : (joinsF ones twos lim).length ≤ ones.length * twos.length := by
    unfold joinsF
    have go : ∀ l : List Ent, (l.flatMap fun a => (twos.map (joinE a)).filter fun e => decide (e.1.most ≤ lim)).length ≤ l.length * twos.length := fun l => by
      induction l with
      | nil => exact Nat.zero_le _
      | cons a l ih =>
        have h := List.length_filter_le (fun e : Ent => decide (e.1.most ≤ lim)) (twos.map (joinE a))
        rw [List.length_map] at h
        rw [List.flatMap_cons, List.length_append, List.length_cons, Nat.succ_mul]
        omega
    exact go ones
  exact Nat.le_trans this (Nat.mul_le_mul h1 h2)
theorem all_len {X : Nat → Nat → List Ent} {a b : Nat} (hab : a + 1 < b) (h5 : b ≤ a + 5) (hX : ∀ i j, a ≤ i → i < j → j ≤ b → j - i < b - a → (X i j).length ≤ wt (j - i)) : (bareAll X a b lim).length ≤ wb (b - a) := by
  have s : ∀ i, a + 1 + i < b → (joinsF (X a (a + 1 + i)) (X (a + 1 + i) b) lim).length ≤ wt (i + 1) * wt (b - a - 1 - i) := fun i hi => by
    refine joins_len' _ _ _ ?_ ?_
    · have := hX a (a + 1 + i) (by omega) (by omega) (by omega) (by omega)
      rw [show a + 1 + i - a = i + 1 by omega] at this
      exact this
    · have := hX (a + 1 + i) b (by omega) (by omega) (by omega) (by omega)
      rw [show b - (a + 1 + i) = b - a - 1 - i by omega] at this
      exact this
  unfold bareAll
  have hd : b - a = 2 ∨ b - a = 3 ∨ b - a = 4 ∨ b - a = 5 := by omega
  rcases hd with e | e | e | e
  · have e2 : b - (a + 1) = 1 := by omega
    have s0 := s 0 (by omega)
    rw [e] at s0 ⊢
    rw [e2]
    simp only [List.range_succ, List.range_zero, List.nil_append, List.flatMap_append, List.flatMap_cons, List.flatMap_nil, List.append_nil, List.length_append]
    simp only [wt, wb] at *
    omega
  · have e2 : b - (a + 1) = 2 := by omega
    have s0 := s 0 (by omega)
    have s1 := s 1 (by omega)
    rw [e] at s0 s1 ⊢
    rw [e2]
    simp only [List.range_succ, List.range_zero, List.nil_append, List.flatMap_append, List.flatMap_cons, List.flatMap_nil, List.append_nil, List.length_append]
    simp only [wt, wb] at *
    omega
  · have e2 : b - (a + 1) = 3 := by omega
    have s0 := s 0 (by omega)
    have s1 := s 1 (by omega)
    have s2 := s 2 (by omega)
    rw [e] at s0 s1 s2 ⊢
    rw [e2]
    simp only [List.range_succ, List.range_zero, List.nil_append, List.flatMap_append, List.flatMap_cons, List.flatMap_nil, List.append_nil, List.length_append]
    simp only [wt, wb] at *
    omega
  · have e2 : b - (a + 1) = 4 := by omega
    have s0 := s 0 (by omega)
    have s1 := s 1 (by omega)
    have s2 := s 2 (by omega)
    have s3 := s 3 (by omega)
    rw [e] at s0 s1 s2 s3 ⊢
    rw [e2]
    simp only [List.range_succ, List.range_zero, List.nil_append, List.flatMap_append, List.flatMap_cons, List.flatMap_nil, List.append_nil, List.length_append]
    simp only [wt, wb] at *
    omega
theorem bare_len {X : Nat → Nat → List Ent} {a b : Nat} (hab : a < b) (h5 : b ≤ a + 5) (hX : ∀ i j, a ≤ i → i < j → j ≤ b → j - i < b - a → (X i j).length ≤ wt (j - i)) : (bareF cs X a b lim).length ≤ wb (b - a) := by
  unfold bareF
  by_cases e : b = a + 1
  · rw [if_pos e]
    have : b - a = 1 := by omega
    rw [this]
    unfold bareOne
    cases cs[a]? with
    | none => exact Nat.zero_le _
    | some c =>
      show (if c.2 ≤ lim then [takeE c] else []).length ≤ 1
      split
      · exact Nat.le_refl _
      · exact Nat.zero_le _
  · rw [if_neg e]
    exact Nat.le_trans (front_len _) (all_len (by omega) h5 hX)
theorem steps_len' (es : List Ent) {ks : List Int} (h3 : ks.length ≤ 3) : (es ++ stepsF es size ks).length ≤ 4 * es.length := by
  have go : ∀ l : List Ent, (stepsF l size ks).length ≤ l.length * 3 := fun l => by
    unfold stepsF
    induction l with
    | nil => exact Nat.zero_le _
    | cons a l ih =>
      rw [List.flatMap_cons, List.length_append, List.length_cons, List.length_map, Nat.succ_mul]
      omega
  have := go es
  rw [List.length_append]
  omega
theorem wt_wb {d : Nat} (h1 : 1 ≤ d) (h5 : d ≤ 5) : 4 * wb d = wt d := by
  have : d = 1 ∨ d = 2 ∨ d = 3 ∨ d = 4 ∨ d = 5 := by omega
  rcases this with rfl | rfl | rfl | rfl | rfl <;> rfl
theorem tb_len (h3 : ks.length ≤ 3) : ∀ w a b, a < b → b ≤ a + w → b ≤ a + 5 → (tb cs size ks lim w a b).length ≤ wt (b - a)
  | 0, a, b, h1, h2, _ => absurd h1 (by omega)
  | w + 1, a, b, h1, h2, h5 => by
    by_cases e1 : b = a + (w + 1)
    · have : tb cs size ks lim (w + 1) a b = fullF size ks (bareF cs (tb cs size ks lim w) a b lim) := by
        show (if b = a + (w + 1) then _ else _) = _
        rw [if_pos e1]
      rw [this]
      have hb := bare_len (cs := cs) (lim := lim) (X := tb cs size ks lim w) h1 h5 fun i j q1 q2 q3 q4 => tb_len h3 w i j q2 (by omega) (by omega)
      have hs := steps_len' (size := size) (bareF cs (tb cs size ks lim w) a b lim) h3
      rw [← wt_wb (by omega) (by omega)]
      exact Nat.le_trans (front_len _) (by omega)
    · have : tb cs size ks lim (w + 1) a b = tb cs size ks lim w a b := by
        show (if b = a + (w + 1) then _ else _) = _
        rw [if_neg e1]
      rw [this]
      exact tb_len h3 w a b h1 (by omega) h5
theorem wt_le (d : Nat) : wt d ≤ 3670016 := by
  unfold wt
  split <;> decide
theorem wb_le (d : Nat) : wb d ≤ 917504 := by
  unfold wb
  split <;> decide
theorem wt_mul {i j : Nat} (h : i + j ≤ 5) : wt i * wt j ≤ 10000000 := by
  have hi : i = 0 ∨ i = 1 ∨ i = 2 ∨ i = 3 ∨ i = 4 ∨ i = 5 := by omega
  have hj : j = 0 ∨ j = 1 ∨ j = 2 ∨ j = 3 ∨ j = 4 ∨ j = 5 := by omega
  rcases hi with rfl | rfl | rfl | rfl | rfl | rfl <;> rcases hj with rfl | rfl | rfl | rfl | rfl | rfl <;> first | omega | (simp only [wt]; omega)
end
end P64
namespace P64
open PySem PySem.Spec PyProof.Rows L2 SX EX WK
/-- the tables with at most c keys -/
def TabC (H : Hp) (d : Addr) (c : Nat) (q : Nat → Nat → Prop) (X : Nat → Nat → List Ent) : Prop := ∃ kvs, H d = some (.dT kvs) ∧ kvs.length ≤ c ∧ ∀ i j, q i j → ∃ p, valV kvs (k2 i j) = some (.ref p) ∧ EntsAt H p (X i j)
theorem TabC.tab {H : Hp} {d : Addr} {c : Nat} {q : Nat → Nat → Prop} {X : Nat → Nat → List Ent} (h : TabC H d c q X) : TabAt H d q X := let ⟨kvs, h1, _, h2⟩ := h; ⟨kvs, h1, h2⟩
theorem TabC.same {H H' : Hp} {d : Addr} {c : Nat} {q : Nat → Nat → Prop} {X : Nat → Nat → List Ent} (e : Same H H') (h : TabC H d c q X) : TabC H' d c q X := by
  obtain ⟨kvs, h1, h3, h2⟩ := h
  exact ⟨kvs, e _ _ h1, h3, fun i j hq => let ⟨p, a, b⟩ := h2 i j hq; ⟨p, a, b.same e⟩⟩
theorem _root_.P64.TabAt.mono' {H : Hp} {d : Addr} {q q' : Nat → Nat → Prop} {X : Nat → Nat → List Ent} (h : TabAt H d q X) (hq : ∀ i j, q' i j → q i j) : TabAt H d q' X := let ⟨kvs, h1, h2⟩ := h; ⟨kvs, h1, fun i j z => h2 i j (hq i j z)⟩
theorem TabC.mono {H : Hp} {d : Addr} {c c' : Nat} {q q' : Nat → Nat → Prop} {X : Nat → Nat → List Ent} (h : TabC H d c q X) (hc : c ≤ c') (hq : ∀ i j, q' i j → q i j) : TabC H d c' q' X := let ⟨kvs, h1, h3, h2⟩ := h; ⟨kvs, h1, Nat.le_trans h3 hc, fun i j z => h2 i j (hq i j z)⟩
theorem k2_inj {i j a b : Nat} (h : k2 i j = k2 a b) : i = a ∧ j = b := by
  injection h with h1 h2
  injection h2 with h2 _
  injection h1 with h1
  injection h2 with h2
  omega
/-- one table more -/
theorem TabC.put {H : Hp} {d u p : Addr} {c : Nat} {q : Nat → Nat → Prop} {X : Nat → Nat → List Ent} {a b : Nat} (h : TabC H d c q X) (hc : c ≤ 1000) (hu : H u = some (.tup [.int (a : Int), .int (b : Int)])) (hp : EntsAt H p (X a b)) :
    ∃ o, DPut H d (.ref u) (.ref p) (upd H d o) ∧ TabC (upd H d o) d (c + 1) (fun i j => q i j ∨ (i = a ∧ j = b)) X := by
  obtain ⟨kvs, h1, h3, h2⟩ := h
  have keep : ∀ p' es, EntsAt H p' es → EntsAt (upd H d (.dT (putK kvs (k2 a b) (.ref p)))) p' es := fun p' es ⟨vs, e1, e2⟩ => by
    have hne : p' ≠ d := fun z => by rw [z, h1] at e1; cases e1
    refine ⟨vs, by rw [upd_ne hne]; exact e1, e2.sameT fun b' xs e => ?_⟩
    have : b' ≠ d := fun z => by rw [z, h1] at e; cases e
    rw [upd_ne this]
    exact e
  refine ⟨_, DPut.t (k := k2 a b) h1 hu (by have : kvs.length + 1 ≤ sizeLine := line_ge (by omega); omega), _, upd_same, Nat.le_trans (length_putK _ _ _) (by omega), fun i j hq => ?_⟩
  rw [valV_put]
  by_cases e : k2 i j = k2 a b
  · obtain ⟨rfl, rfl⟩ := k2_inj e
    rw [if_pos e]
    exact ⟨p, rfl, keep _ _ hp⟩
  · rw [if_neg e]
    rcases hq with hq | ⟨rfl, rfl⟩
    · obtain ⟨p', e1, e2⟩ := h2 i j hq
      exact ⟨p', e1, keep _ _ e2⟩
    · exact absurd rfl e
/-- the plan of the best entry -/
def PlanV (H : Hp) : Option Ent → V → Prop
  | none, v => v = .non
  | some e, v => ∃ p, v = .ref p ∧ PlanAt H e.2 p
def BestV (H : Hp) : Option Ent → V → Prop
  | none, v => v = .non
  | some e, v => ∃ p, v = .ref p ∧ EntAt H p e
theorem best_mem : ∀ (es : List Ent) (o : Option Ent) (e : Ent), es.foldl bestStep o = some e → o = some e ∨ e ∈ es
  | [], o, e, h => .inl h
  | x :: es, o, e, h => by
    rcases best_mem es _ e h with h | h
    · cases o with
      | none => cases h; exact .inr List.mem_cons_self
      | some y =>
        unfold bestStep at h
        split at h
        · next q => cases q
        · next q =>
          cases q
          split at h
          · cases h; exact .inr List.mem_cons_self
          · exact .inl h
    · exact .inr (List.mem_cons_of_mem _ h)
theorem tb_nil {cs : List Cnt} {size : Int} {ks : List Int} {lim : Int} : ∀ (w a b : Nat), b ≤ a → tb cs size ks lim w a b = []
  | 0, _, _, _ => rfl
  | w + 1, a, b, h => by
    show (if b = a + (w + 1) then _ else tb cs size ks lim w a b) = []
    rw [if_neg (by omega)]
    exact tb_nil w a b h
section
variable {P : Program} {w : World} {K : PySem.W.Frag} {mg : Str → Option Value} {base : Heap} {f : Addr} {fd : FuncData}
abbrev bestP (cs : List Cnt) (size lim : Int) (ks : List Int) : Option Ent := bestF (tb cs size ks lim cs.length 0 cs.length)
/-- what best_plan is asked -/
structure AskOk (cs : List Cnt) (kn : List Nat → Int) (size : Int) (ks : List Int) : Prop where
  s0 : 0 ≤ size
  k0 : ∀ n, 0 ≤ kn n ∧ B 402 (kn n)
  kn : ∀ c ∈ cs, kn c.1 = c.2
  kb : ∀ k ∈ ks, 2 ≤ k ∧ k ≤ 10
  k3 : ks.length ≤ 3
  n1 : 1 ≤ cs.length
  n5 : cs.length ≤ 5
theorem AskOk.eb {cs : List Cnt} {kn : List Nat → Int} {size : Int} {ks : List Int} {lim : Int} {a b h : Nat} {e : Ent} (A : AskOk cs kn size ks) (p : PG cs kn size ks lim a b h e) (hh : h ≤ 12) : EB e := by
  unfold EB
  rw [p.fc_]
  exact (fc_b A.s0 A.k0 A.kb p.gd).mono (Nat.le_trans p.ht hh)
def spBest : Sp := fun vs H Q _ => ∃ (c g : Addr) (cs : List Cnt) (kn : List Nat → Int) (ks : List Int) (size lim : Int), vs = [.int size, .ref c, .int lim, .ref g] ∧ CntAt H c cs ∧ IntsAt H g ks ∧ AskOk cs kn size ks ∧ ∀ v H', Same H H' → PlanV H' (bestP cs size lim ks) v → Q v H'
abbrev s_best_plan : Stmt := top 20
abbrev N_best_plan : List Str := ["size", "counts", "limit", "grades", "tables", "width", "first", "stretch", "bare", "best", "entry"]
theorem sc_best_plan : FnScope N_best_plan ["size", "counts", "limit", "grades"] (defScope s_best_plan) := ⟨rfl, rfl, rfl, by decide +kernel, rfl, by decide +kernel, by decide +kernel⟩
theorem ok_best_plan (F : Fun K "best_plan" "best_plan" s_best_plan f fd) (T : Txt mg) (C_bare_entries : Cal P w K mg base 4 "bare_entries" ["counts", "tables", "stretch", "limit"] spBare) (C_front : Cal P w K mg base 3 "front" ["entries"] spFront) (C_compared : Cal P w K mg base 1 "compared" ["one", "two"] spCompared) (C_steps : Cal P w K mg base 4 "steps" ["entries", "size", "grades"] spSteps) : FnOk P w K mg base CX0 5 f fd ["size", "counts", "limit", "grades"] spBest := by
  refine F.ok sc_best_plan (fun vs H Q E h => ?_) (fun cdv A outer s H vs Q E hr h => ?_)
  · obtain ⟨c, g, cs, kn, ks, size, lim, rfl, _⟩ := h
    rfl
  obtain ⟨c, g, cs, kn, ks, size, lim, rfl, hc, hg, ao, q⟩ := h
  refine ⟨_, (pss_cons (ps_set (i := 4) sc_best_plan.nd rfl (Or.inl rfl) pe_dnewT)
  (pss_cons (ps_for PassesOwn.never rfl (pi_range2 (by rfl) T.b_range (pa_cons pe_int (pa_cons (pe_op op_add (pe_callB call_len_seq (by rfl) T.b_len PySem.boot_len (pa_cons (pv 1) pa_nil)) pe_int) pa_nil))) (pg_name (i := 5) sc_best_plan.nd rfl (Or.inl rfl)) (pss_one (ps_for PassesOwn.never rfl (pi_range1 (by rfl) T.b_range (pa_cons (pe_op op_add (pe_op op_sub (pe_callB call_len_seq (by rfl) T.b_len PySem.boot_len (pa_cons (pv 1) pa_nil)) (pv 5)) pe_int) pa_nil)) (pg_name (i := 6) sc_best_plan.nd rfl (Or.inl rfl)) (pss_cons (ps_set (i := 7) sc_best_plan.nd rfl (Or.inl rfl) (pe_tup (pa_cons (pv 6) (pa_cons (pe_op op_add (pv 6) (pv 5)) pa_nil))))
  (pss_cons (ps_set (i := 8) sc_best_plan.nd rfl (Or.inl rfl) (pe_cal C_bare_entries (hr.mono (by omega)) rfl (pa_cons (pv 1) (pa_cons (pv 4) (pa_cons (pv 7) (pa_cons (pv 2) pa_nil))))))
  (pss_one (ps_dput (hu_of hr) (pv 4) (pv 7) (pe_cal C_front (hr.mono (by omega)) rfl (pa_cons (pe_op op_cat (pv 8) (pe_cal C_steps (hr.mono (by omega)) rfl (pa_cons (pv 8) (pa_cons (pv 0) (pa_cons (pv 3) pa_nil))))) pa_nil)) rfl)))))))
  (pss_cons (ps_set (i := 9) sc_best_plan.nd rfl (Or.inl rfl) pe_non)
  (pss_cons (ps_for PassesOwn.never rfl (pi_list (pe_dget (hu_of hr) (pv 4) (pe_tup (pa_cons pe_int (pa_cons (pe_callB call_len_seq (by rfl) T.b_len PySem.boot_len (pa_cons (pv 1) pa_nil)) pa_nil))) (fun _ _ => rfl))) (pg_name (i := 10) sc_best_plan.nd rfl (Or.inl rfl)) (pss_one (ps_if (PW.pt (pw_or (pt_cmpR op_isN (pv 9) pe_non (nomark _)) (pw_or1 (pt_cmpR op_lt (pe_cal C_compared (hr.mono (by omega)) rfl (pa_cons (pe_ix ix_tup (pe_ix ix_tup (pv 10) pe_int (fun _ _ => rfl)) pe_int (fun _ _ => rfl)) (pa_cons (pe_ix ix_tup (pe_ix ix_tup (pv 9) pe_int (fun _ _ => rfl)) pe_int (fun _ _ => rfl)) pa_nil))) pe_int (nomark _))))) (pss_one (ps_set (i := 9) sc_best_plan.nd rfl (Or.inl rfl) (pv 10))) pss_nil)))
  (pss_one (ps_ret (pe_ifExp (pt_cmpR op_isN (pv 9) pe_non (nomark _)) pe_non (pe_ix ix_tup (pv 9) pe_int (fun _ _ => rfl))))))))), ?_⟩
  have n1 := ao.n1
  have n5 := ao.n5
  have hcl : ∃ ys, (SqL K H c ys ∨ SqT K H c ys) ∧ ys.length = cs.length ∧ ∀ H', Same H H' → (SqL K H' c ys ∨ SqT K H' c ys) := by
    obtain ⟨bs, hb, hp⟩ := hc
    refine ⟨bs.map V.ref, hb.imp SqL.of SqT.of, by rw [List.length_map, Paired.len hp], fun H' e => hb.imp (fun h => SqL.of (e _ _ h)) fun h => SqT.of (e _ _ h)⟩
  obtain ⟨ys, hys, hyl, hyk⟩ := hcl
  refine fun d h0 => ?_
  refine ⟨_, rfl, c, ys, rfl, hyk _ (same_new h0 _), _, _, rfl, rfl, ?_⟩
  rw [hyl]
  generalize hX : tb cs size ks lim cs.length = X
  have hn : (((cs.length : Nat) : Int) + 1 - 1).toNat = cs.length := by omega
  refine ⟨1, ((cs.length : Nat) : Int) + 1, rfl, ⟨by omega, by omega, by omega⟩, for_range (lo := 1) (n := (((cs.length : Nat) : Int) + 1 - 1).toNat) (fun i σ H' => ∃ (v5 v6 v7 v8 : Option V), σ = [some (.int size), some (.ref c), some (.int lim), some (.ref g), some (.ref d), v5, v6, v7, v8, none, none] ∧ Same H H' ∧ TabC H' d (10 * i) (fun a b => a < b ∧ b ≤ cs.length ∧ b ≤ a + i) X) ⟨none, none, none, none, rfl, same_new h0 _, [], upd_same, Nat.zero_le _, fun a b h => absurd h (by omega)⟩ ?_ ?_⟩
  · rintro i σ H1 hi ⟨v5, v6, v7, v8, rfl, g1, t1⟩
    rw [hn] at hi
    have ew : (1 + (i : Nat) : Int) = ((i + 1 : Nat) : Int) := by omega
    show gName 5 (V.int (1 + (i : Nat))) _ _ _
    rw [ew]
    have hm : (((cs.length : Nat) : Int) - ((i + 1 : Nat) : Int) + 1).toNat = cs.length - i := by omega
    refine ⟨_, rfl, c, ys, rfl, hyk _ g1, ?_⟩
    rw [hyl]
    refine ⟨_, rfl, _, _, rfl, rfl, _, _, rfl, rfl, ?_⟩
    refine ⟨((cs.length : Nat) : Int) - ((i + 1 : Nat) : Int) + 1, rfl, by omega, by omega, for_range (lo := 0) (n := (((cs.length : Nat) : Int) - ((i + 1 : Nat) : Int) + 1).toNat) (fun j σ H' => ∃ (v6 v7 v8 : Option V), σ = [some (.int size), some (.ref c), some (.int lim), some (.ref g), some (.ref d), some (.int ((i + 1 : Nat) : Int)), v6, v7, v8, none, none] ∧ Same H H' ∧ TabC H' d (10 * i + j) (fun a b => a < b ∧ b ≤ cs.length ∧ (b ≤ a + i ∨ (b = a + i + 1 ∧ a < j))) X) ⟨v6, v7, v8, rfl, g1, t1.mono (by omega) (fun a b z => ⟨z.1, z.2.1, by omega⟩)⟩ ?_ ?_⟩
    · rintro j σ H2 hj ⟨v6, v7, v8, rfl, g2, t2⟩
      rw [hm] at hj
      have ej : (0 + (j : Nat) : Int) = ((j : Nat) : Int) := by omega
      show gName 6 (V.int (0 + (j : Nat))) _ _ _
      rw [ej]
      refine ⟨_, rfl, _, rfl, _, rfl, _, _, rfl, rfl, two_line, fun u hu => ?_⟩
      have eb : ((j : Nat) : Int) + ((i + 1 : Nat) : Int) = ((j + (i + 1) : Nat) : Int) := by omega
      show gName 7 (V.ref u) _ (upd H2 u (.tup [V.int ((j : Nat) : Int), V.int (((j : Nat) : Int) + ((i + 1 : Nat) : Int))])) _
      rw [eb]
      have g3 := same_new hu (.tup [V.int ((j : Nat) : Int), V.int ((j + (i + 1) : Nat) : Int)])
      have hu3 : (upd H2 u (.tup [V.int ((j : Nat) : Int), V.int ((j + (i + 1) : Nat) : Int)])) u = some (.tup [V.int ((j : Nat) : Int), V.int ((j + (i + 1) : Nat) : Int)]) := upd_same
      generalize upd H2 u (.tup [V.int ((j : Nat) : Int), V.int ((j + (i + 1) : Nat) : Int)]) = H3 at g3 hu3
      generalize hbb : j + (i + 1) = b at hu3
      have hab : j < b := by omega
      have hbn : b ≤ cs.length := by omega
      have pgX : ∀ i' j', i' < j' → j' ≤ cs.length → ∀ e ∈ X i' j', PG cs kn size ks lim i' j' (2 * (j' - i')) e := fun i' j' h1 h2 e he => by
        rw [← hX] at he
        exact pg_tb ao.kn _ i' j' h1 (by omega) e he
      have lnX : ∀ i' j', i' < j' → j' ≤ cs.length → (X i' j').length ≤ wt (j' - i') := fun i' j' h1 h2 => by
        rw [← hX]
        exact tb_len ao.k3 _ i' j' h1 (by omega) (by omega)
      have nlX : ∀ i' j', j' ≤ i' → X i' j' = [] := fun i' j' h => by rw [← hX]; exact tb_nil _ _ _ h
      have ebb : ∀ e ∈ bareF cs X j b lim, EB e := fun e he => ao.eb (pg_bare ao.kn hab (fun i' j' q1 q2 q3 q4 => pgX i' j' q2 (by omega)) he).1 (by omega)
      have lbb : (bareF cs X j b lim).length ≤ wb (b - j) := bare_len hab (by omega) (fun i' j' q1 q2 q3 q4 => lnX i' j' q2 (by omega))
      have lst := steps_len' (size := size) (bareF cs X j b lim) ao.k3
      have w1 := wb_le (b - j)
      refine ⟨_, rfl, _, rfl, _, rfl, _, rfl, c, d, u, cs, X, j, b, lim, rfl, hc.same (g2.trans g3), (t2.same g3).tab.mono' (fun a' b' z => ⟨z.2.1, by omega, by omega⟩), hu3, hab, hbn, by omega, fun i' j' q1 q2 e he => ?_, fun k => ?_, fun e he => ?_, ?_, fun r1 H4 g4 h4 => ?_⟩
      · rcases Nat.lt_or_ge i' j' with h | h
        · exact ao.eb (pgX i' j' h (by omega) e he) (by omega)
        · rw [nlX i' j' h] at he
          exact nomatch he
      · rcases Nat.lt_or_ge (j + 1 + k) b with h | h
        · have l1 := lnX j (j + 1 + k) (by omega) (by omega)
          have l2 := lnX (j + 1 + k) b (by omega) (by omega)
          exact Nat.le_trans (Nat.mul_le_mul l1 l2) (wt_mul (by omega))
        · rw [nlX _ _ h]
          exact Nat.zero_le _
      · exact ao.eb (pg_joins (fun i' j' q1 q2 q3 q4 => pgX i' j' q2 (by omega)) he).1 (by omega)
      · by_cases e1 : b = j + 1
        · unfold bareAll
          have : b - (j + 1) = 0 := by omega
          rw [this]
          exact Nat.zero_le _
        · have := all_len (lim := lim) (X := X) (a := j) (b := b) (by omega) (by omega) (fun i' j' q1 q2 q3 q4 => lnX i' j' q2 (by omega))
          omega
      obtain ⟨xs, hx1, hx2⟩ := id h4
      refine ⟨_, rfl, _, rfl, _, rfl, _, rfl, r1, g, _, ks, size, rfl, h4, hg.same (g2.trans (g3.trans g4)), ebb, ao.kb, ?_, fun r2 H5 g5 h5 => ?_⟩
      · have := ao.k3
        have := Nat.mul_le_mul_left (bareF cs X j b lim).length this
        omega
      obtain ⟨zs, hz1, hz2⟩ := h5
      have e1 := hx2.len
      have e2 := hz2.len
      rw [List.length_append] at lst
      refine ⟨r1, r2, xs, zs, rfl, rfl, g5 _ _ hx1, hz1, big_line (by omega), fun y hy => ?_⟩
      have g6 := same_new hy (.lst (xs ++ zs))
      refine ⟨y, _, rfl, ⟨_, upd_same, ((hx2.same g5).same g6).app (hz2.same g6)⟩, fun e he => ?_, by rw [List.length_append]; omega, fun r3 H6 g7 h6 => ?_⟩
      · exact ao.eb (pg_full hab (fun e' h' => pg_bare ao.kn hab (fun i' j' q1 q2 q3 q4 => pgX i' j' q2 (by omega)) h') he) (by omega)
      have hfull : frontF (bareF cs X j b lim ++ stepsF (bareF cs X j b lim) size ks) = X j b := by
        rw [← hX]
        exact (tb_rec hab (by omega)).symm
      rw [hfull] at h6
      have gall := g3.trans (g4.trans (g5.trans (g6.trans g7)))
      obtain ⟨o, dp, t6⟩ := (t2.same gall).put (a := j) (b := b) (by omega) ((g4.trans (g5.trans (g6.trans g7))) _ _ hu3) h6
      refine ⟨_, rfl, _, rfl, d, _, rfl, dp, ?_⟩
      refine ⟨_, _, _, rfl, same_at (g2.trans gall) h0, t6.mono (by omega) fun a' b' z => ?_⟩
      by_cases e : a' = j ∧ b' = b
      · exact .inr e
      · exact .inl ⟨z.1, z.2.1, by omega⟩
    · rintro σ H2 ⟨v6, v7, v8, rfl, g2, t2⟩
      rw [hm] at t2
      exact ⟨_, _, _, _, rfl, g2, t2.mono (by omega) fun a' b' z => ⟨z.1, z.2.1, by omega⟩⟩
  · rintro σ H1 ⟨v5, v6, v7, v8, rfl, g1, t1⟩
    rw [hn] at t1
    refine ⟨_, rfl, _, rfl, c, ys, rfl, hyk _ g1, two_line, fun u hu => ?_⟩
    rw [hyl]
    have g2 := same_new hu (.tup [V.int ((0 : Nat) : Int), V.int ((cs.length : Nat) : Int)])
    obtain ⟨p, dg, vs, hp, hes⟩ := (t1.same g2).tab.get (i := 0) (j := cs.length) ⟨by omega, Nat.le_refl _, by omega⟩ upd_same
    refine ⟨d, _, rfl, dg, p, rfl, ⟨_, SqL.of hp⟩, ?_⟩
    show ∃ W : Nat → Nat → L2.St → Hp → Prop, (∃ m, W 0 m _ (upd H1 u (.tup [V.int ((0 : Nat) : Int), V.int ((cs.length : Nat) : Int)]))) ∧ _
    generalize upd H1 u (.tup [V.int ((0 : Nat) : Int), V.int ((cs.length : Nat) : Int)]) = H2 at g2 hp hes
    generalize hes' : X 0 cs.length = es at hes
    have ll := hes.len
    have eb : ∀ e ∈ es, EB e := fun e he => by
      rw [← hes', ← hX] at he
      exact ao.eb (pg_tb ao.kn _ 0 cs.length (by omega) (by omega) e he) (by omega)
    have q := fun v H' (g : Same H2 H') (h : PlanV H' (bestF es) v) => q v H' (g1.trans (g2.trans g)) (by rw [← hes', ← hX] at h; exact h)
    refine for_list (K := K) (a := p) (xs := vs) (fun i σ H' => ∃ (v9 : V) (v10 : Option V), σ = [some (.int size), some (.ref c), some (.int lim), some (.ref g), some (.ref d), v5, v6, v7, v8, some v9, v10] ∧ H' = H2 ∧ BestV H2 ((es.take i).foldl bestStep none) v9) ⟨.non, none, rfl, rfl, rfl⟩ (fun i σ H' _ ⟨_, _, _, e, _⟩ => by rw [e]; exact SqL.of hp) ?_ ?_
    · rintro i x σ H3 hx ⟨v9, v10, rfl, rfl, hb⟩
      obtain ⟨pe, e, rfl, he, hpe⟩ := hes.at hx
      have ebe := eb e (List.mem_of_getElem? he)
      rw [take_snoc he, List.foldl_append]
      generalize ho : (es.take i).foldl bestStep none = o at hb
      cases o with
      | none =>
        have : v9 = .non := hb
        subst this
        refine ⟨_, rfl, rfl, _, rfl, ifT (by decide) ?_⟩
        exact ⟨_, rfl, _, _, rfl, rfl, pe, rfl, hpe⟩
      | some o =>
        have ebo : EB o := by
          rcases best_mem _ _ _ ho with h | h
          · cases h
          · exact eb o (List.mem_of_mem_take h)
        obtain ⟨po, rfl, hpo⟩ := hb
        obtain ⟨te, le, h1, ⟨fe, h2, h3⟩, h4⟩ := id hpe
        obtain ⟨to_, lo, k1, ⟨fo, k2', k3⟩, k4⟩ := id hpo
        refine ⟨_, rfl, rfl, _, rfl, ifF (dec_ne fun e => nomatch e) ?_⟩
        refine ⟨_, rfl, pe, _, 0, _, rfl, rfl, SqT.of h1, at_pos (by decide) rfl, te, _, 2, _, rfl, rfl, SqT.of h2, at_pos (by decide) rfl, ?_⟩
        refine ⟨_, rfl, po, _, 0, _, rfl, rfl, SqT.of k1, at_pos (by decide) rfl, to_, _, 2, _, rfl, rfl, SqT.of k2', at_pos (by decide) rfl, ?_⟩
        refine ⟨fe, fo, _, _, _, _, rfl, h3, k3, ebe.t1.mono (by decide), ebe.b1.mono (by decide), ebo.t1.mono (by decide), ebo.b1.mono (by decide), fun c2 c3 c4 => ⟨_, _, rfl, rfl, _, rfl, ?_⟩⟩
        show (if decide (c2 < 0) = true then _ else _)
        refine ite2 (fun z => ?_) (fun z => ?_)
        · have z := c4.mp (of_decide_eq_true z)
          have eq : [e].foldl bestStep (some o) = some e := by
            show (if decide (e.1.top * o.1.bot - o.1.top * e.1.bot < 0) = true then some e else some o) = some e
            rw [if_pos (decide_eq_true z)]
          rw [eq]
          exact ⟨_, rfl, _, _, rfl, rfl, pe, rfl, hpe⟩
        · have z : ¬ (e.1.top * o.1.bot - o.1.top * e.1.bot < 0) := fun y => z (decide_eq_true (c4.mpr y))
          have eq : [e].foldl bestStep (some o) = some o := by
            show (if decide (e.1.top * o.1.bot - o.1.top * e.1.bot < 0) = true then some e else some o) = some o
            rw [if_neg (by simp [z])]
          rw [eq]
          exact ⟨_, _, rfl, rfl, po, rfl, hpo⟩
    · rintro σ H3 ⟨v9, v10, rfl, rfl, hb⟩
      rw [ll, List.take_length] at hb
      have hb : BestV H3 (bestF es) v9 := hb
      have q := q
      generalize bestF es = o at hb q
      cases o with
      | none =>
        have : v9 = .non := hb
        subst this
        refine ⟨_, rfl, rfl, _, rfl, ifT (by decide) ?_⟩
        exact q _ _ (Same.refl _) rfl
      | some o =>
        obtain ⟨po, rfl, hpo⟩ := hb
        obtain ⟨to_, lo, k1, _, k4⟩ := id hpo
        refine ⟨_, rfl, rfl, _, rfl, ifF (dec_ne fun e => nomatch e) ?_⟩
        exact ⟨_, rfl, po, _, 1, _, rfl, rfl, SqT.of k1, at_pos (by decide) rfl, q _ _ (Same.refl _) ⟨lo, rfl, k4⟩⟩
end
end P64
namespace P64
open PySem PySem.Spec PyProof.Rows L2 SX EX WK
section
variable {P : Program} {w : World} {K : PySem.W.Frag} {mg : Str → Option Value} {base : Heap} {f : Addr} {fd : FuncData}
def spGcd : Sp := fun vs H Q _ => ∃ a b : Int, vs = [.int a, .int b] ∧ B 6500 b ∧ Q (.int (gI a b)) H
abbrev s__law_gcd : Stmt := top 25
abbrev N__law_gcd : List Str := ["one", "two", "turn", "rest"]
theorem sc__law_gcd : FnScope N__law_gcd ["one", "two"] (defScope s__law_gcd) := ⟨rfl, rfl, rfl, by decide +kernel, rfl, by decide +kernel, by decide +kernel⟩
theorem abs_nat (a : Int) : (if a < 0 then -a else a) = ((a.natAbs : Nat) : Int) := by
  split <;> omega
theorem ok__law_gcd (F : Fun K "_law_gcd" "_law_gcd" s__law_gcd f fd) (T : Txt mg) : FnOk P w K mg base CX0 1 f fd ["one", "two"] spGcd := by
  refine F.ok sc__law_gcd (fun vs H Q E h => ?_) (fun cdv A outer s H vs Q E hr h => ?_)
  · obtain ⟨a, b, rfl, _⟩ := h
    rfl
  obtain ⟨a, b, rfl, hB, q⟩ := h
  refine ⟨_, (pss_cons (ps_set (i := 0) sc__law_gcd.nd rfl (Or.inl rfl) (pe_callB call_abs (by rfl) T.b_abs (by decide +kernel) (pa_cons (pv 0) pa_nil)))
  (pss_cons (ps_set (i := 1) sc__law_gcd.nd rfl (Or.inl rfl) (pe_callB call_abs (by rfl) T.b_abs (by decide +kernel) (pa_cons (pv 1) pa_nil)))
  (pss_cons (ps_for PassesOwn.never rfl (pi_range1 (by rfl) T.b_range (pa_cons pe_int pa_nil)) (pg_name (i := 2) sc__law_gcd.nd rfl (Or.inl rfl)) (pss_cons (ps_if (pt_cmpR op_eq (pv 1) pe_int (nomark _)) (pss_one ps_break) pss_nil)
  (pss_cons (ps_set (i := 3) sc__law_gcd.nd rfl (Or.inl rfl) (pe_op op_mod (pe_callTy call_int1 (by rfl) T.b_int (by decide +kernel) (pa_cons (pv 0) pa_nil)) (pv 1)))
  (pss_cons (ps_set (i := 0) sc__law_gcd.nd rfl (Or.inl rfl) (pv 1))
  (pss_one (ps_set (i := 1) sc__law_gcd.nd rfl (Or.inl rfl) (pv 3)))))))
  (pss_one (ps_ret (pv 0)))))), ?_⟩
  refine seq_asg ⟨_, rfl, _, rfl, ?_⟩
  rw [abs_nat a]
  refine seq_asg ⟨_, rfl, _, rfl, ?_⟩
  rw [abs_nat b]
  refine ⟨100000, rfl, by decide, by decide, for_range (lo := 0) (n := (100000 : Int).toNat) (fun i σ H' => ∃ (x y : Nat) (v2 v3 : Option V), σ = [some (.int (x : Nat)), some (.int (y : Nat)), v2, v3] ∧ H' = H ∧ Eu a.natAbs b.natAbs i x y) ⟨a.natAbs, b.natAbs, none, none, rfl, rfl, eu_start⟩ ?_ ?_⟩
  · rintro i σ H' hi ⟨x, y, v2, v3, rfl, rfl, e⟩
    refine ⟨_, rfl, rfl, _, rfl, ?_⟩
    refine ite2 (fun c => ?_) (fun c => ?_)
    · have hy : y = 0 := by
        have := V.int.inj (of_decide_eq_true c)
        omega
      subst hy
      refine ⟨_, rfl, ?_⟩
      rw [eu_gcd e]
      exact q
    · have hy : y ≠ 0 := fun z => c (by subst z; exact decide_eq_true rfl)
      refine ⟨_, rfl, .inl ⟨_, rfl, _, rfl, _, _, rfl, rfl, by omega, ?_⟩⟩
      refine ⟨_, rfl, _, rfl, ?_⟩
      exact ⟨y, x % y, _, _, rfl, rfl, eu_step hB e hy⟩
  · rintro σ H' ⟨x, y, v2, v3, rfl, rfl, e⟩
    have hy := eu_end e
    subst hy
    refine ⟨_, rfl, ?_⟩
    rw [eu_gcd e]
    exact q
/-! ### _law_least, _law_times, _law_below -/
def spLeast : Sp := fun vs H Q _ => ∃ t b : Int, vs = [.int t, .int b] ∧ 0 < b ∧ B 6500 b ∧ ∀ r H', Same H H' → FrAt H' r (t / gI t b) (b / gI t b) → Q (.ref r) H'
abbrev s__law_least : Stmt := top 26
abbrev N__law_least : List Str := ["top", "under", "shared"]
theorem sc__law_least : FnScope N__law_least ["top", "under"] (defScope s__law_least) := ⟨rfl, rfl, rfl, by decide +kernel, rfl, by decide +kernel, by decide +kernel⟩
theorem ok__law_least (F : Fun K "_law_least" "_law_least" s__law_least f fd) (T : Txt mg) (C__law_gcd : Cal P w K mg base 1 "_law_gcd" ["one", "two"] spGcd) : FnOk P w K mg base CX0 2 f fd ["top", "under"] spLeast := by
  refine F.ok sc__law_least (fun vs H Q E h => ?_) (fun cdv A outer s H vs Q E hr h => ?_)
  · obtain ⟨t, b, rfl, _⟩ := h
    rfl
  obtain ⟨t, b, rfl, hb, hB, q⟩ := h
  refine ⟨_, (pss_cons (ps_if (pt_cmpR op_lt (pv 1) pe_int (nomark _)) (pss_cons (ps_set (i := 0) sc__law_least.nd rfl (Or.inl rfl) (pe_un un_neg (pv 0)))
  (pss_one (ps_set (i := 1) sc__law_least.nd rfl (Or.inl rfl) (pe_un un_neg (pv 1))))) pss_nil)
  (pss_cons (ps_set (i := 2) sc__law_least.nd rfl (Or.inl rfl) (pe_cal C__law_gcd (hr.mono (by omega)) rfl (pa_cons (pv 0) (pa_cons (pv 1) pa_nil))))
  (pss_one (ps_ret (pe_tup (pa_cons (pe_op op_fdivW (pv 0) (pv 2)) (pa_cons (pe_op op_fdivW (pv 1) (pv 2)) pa_nil))))))), ?_⟩
  refine ⟨_, rfl, _, _, rfl, rfl, _, rfl, ifF (decide_eq_false (by omega)) ?_⟩
  refine ⟨_, rfl, _, rfl, t, b, rfl, hB, ?_⟩
  have g := gI_pos (t := t) hb
  have gB := B.gcd (t := t) hb hB
  exact ⟨_, rfl, _, rfl, _, _, rfl, rfl, wdiv g gB (by decide) (by decide), _, rfl, _, rfl, _, _, rfl, rfl, wdiv g gB (by decide) (by decide), two_line, fun r hr' => q r _ (same_new hr' _) upd_same⟩
abbrev s__law_times : Stmt := top 27
abbrev N__law_times : List Str := ["one", "two"]
theorem sc__law_times : FnScope N__law_times ["one", "two"] (defScope s__law_times) := ⟨rfl, rfl, rfl, by decide +kernel, rfl, by decide +kernel, by decide +kernel⟩
theorem ok__law_times (F : Fun K "_law_times" "_law_times" s__law_times f fd) (T : Txt mg) (C__law_least : Cal P w K mg base 2 "_law_least" ["top", "under"] spLeast) : FnOk P w K mg base CX0 3 f fd ["one", "two"] spTimes := by
  refine F.ok sc__law_times (fun vs H Q E h => ?_) (fun cdv A outer s H vs Q E hr h => ?_)
  · obtain ⟨p, q, t1, b1, t2, b2, rfl, _⟩ := h
    rfl
  obtain ⟨p, r, t1, b1, t2, b2, rfl, hp, hr1, pt1, pb1, pt2, pb2, ht1, hb1, ht2, hb2, q⟩ := h
  refine ⟨_, (pss_one (ps_ret (pe_cal C__law_least (hr.mono (by omega)) rfl (pa_cons (pe_op op_mulW (pe_ix ix_tup (pv 0) pe_int (fun _ _ => rfl)) (pe_ix ix_tup (pv 1) pe_int (fun _ _ => rfl))) (pa_cons (pe_op op_mulW (pe_ix ix_tup (pv 0) pe_int (fun _ _ => rfl)) (pe_ix ix_tup (pv 1) pe_int (fun _ _ => rfl))) pa_nil))))), ?_⟩
  refine ⟨_, rfl, p, _, 0, _, rfl, rfl, SqT.of hp, at_pos (by decide) rfl, _, rfl, r, _, 0, _, rfl, rfl, SqT.of hr1, at_pos (by decide) rfl, _, _, rfl, rfl, wmul ht1 ht2 (by decide) (by decide) (by decide), ?_⟩
  refine ⟨_, rfl, p, _, 1, _, rfl, rfl, SqT.of hp, at_pos (by decide) rfl, _, rfl, r, _, 1, _, rfl, rfl, SqT.of hr1, at_pos (by decide) rfl, _, _, rfl, rfl, wmul hb1 hb2 (by decide) (by decide) (by decide), ?_⟩
  exact ⟨_, _, rfl, Int.mul_pos pb1 pb2, (hb1.mul hb2).mono (by decide), q⟩
def spBelow : Sp := fun vs H Q _ => ∃ (p q : Addr) (t1 b1 t2 b2 : Int), vs = [.ref p, .ref q] ∧ FrAt H p t1 b1 ∧ FrAt H q t2 b2 ∧ B 6000 t1 ∧ B 6000 b1 ∧ B 6000 t2 ∧ B 6000 b2 ∧ Q (.bl (decide (t1 * b2 < t2 * b1))) H
abbrev s__law_below : Stmt := top 28
abbrev N__law_below : List Str := ["one", "two"]
theorem sc__law_below : FnScope N__law_below ["one", "two"] (defScope s__law_below) := ⟨rfl, rfl, rfl, by decide +kernel, rfl, by decide +kernel, by decide +kernel⟩
theorem ok__law_below (F : Fun K "_law_below" "_law_below" s__law_below f fd) (T : Txt mg) : FnOk P w K mg base CX0 1 f fd ["one", "two"] spBelow := by
  refine F.ok sc__law_below (fun vs H Q E h => ?_) (fun cdv A outer s H vs Q E hr h => ?_)
  · obtain ⟨p, q, t1, b1, t2, b2, rfl, _⟩ := h
    rfl
  obtain ⟨p, r, t1, b1, t2, b2, rfl, hp, hr1, ht1, hb1, ht2, hb2, q⟩ := h
  refine ⟨_, (pss_one (ps_ret (pe_cmpR op_lt (pe_op op_mulW (pe_ix ix_tup (pv 0) pe_int (fun _ _ => rfl)) (pe_ix ix_tup (pv 1) pe_int (fun _ _ => rfl))) (pe_op op_mulW (pe_ix ix_tup (pv 1) pe_int (fun _ _ => rfl)) (pe_ix ix_tup (pv 0) pe_int (fun _ _ => rfl))) (nomark _)))), ?_⟩
  refine ⟨_, rfl, p, _, 0, _, rfl, rfl, SqT.of hp, at_pos (by decide) rfl, _, rfl, r, _, 1, _, rfl, rfl, SqT.of hr1, at_pos (by decide) rfl, _, _, rfl, rfl, wmul ht1 hb2 (by decide) (by decide) (by decide), ?_⟩
  exact ⟨_, rfl, r, _, 0, _, rfl, rfl, SqT.of hr1, at_pos (by decide) rfl, _, rfl, p, _, 1, _, rfl, rfl, SqT.of hp, at_pos (by decide) rfl, _, _, rfl, rfl, wmul ht2 hb1 (by decide) (by decide) (by decide), _, _, rfl, rfl, q⟩
abbrev s__law_grade_factor : Stmt := top 30
abbrev N__law_grade_factor : List Str := ["k", "n"]
theorem sc__law_grade_factor : FnScope N__law_grade_factor ["k"] (defScope s__law_grade_factor) := ⟨rfl, rfl, rfl, by decide +kernel, rfl, by decide +kernel, by decide +kernel⟩
theorem ok__law_grade_factor (F : Fun K "_law_grade_factor" "_law_grade_factor" s__law_grade_factor f fd) (T : Txt mg) (C__law_least : Cal P w K mg base 2 "_law_least" ["top", "under"] spLeast) : FnOk P w K mg base CX0 3 f fd ["k"] spGrade := by
  refine F.ok sc__law_grade_factor (fun vs H Q E h => ?_) (fun cdv A outer s H vs Q E hr h => ?_)
  · obtain ⟨k, rfl, _⟩ := h
    rfl
  obtain ⟨k, rfl, h2, h10, q⟩ := h
  refine ⟨_, (pss_cons (ps_set (i := 1) sc__law_grade_factor.nd rfl (Or.inl rfl) (pe_op op_mul pe_int (pe_op op_sub (pv 0) pe_int)))
  (pss_one (ps_ret (pe_cal C__law_least (hr.mono (by omega)) rfl (pa_cons (pe_op op_mul (pe_op op_add (pv 0) pe_int) (pe_op op_add (pe_op op_mul (pv 1) (pe_op op_add (pv 0) pe_int)) (pv 0))) (pa_cons (pe_op op_mul (pe_op op_mul (pv 1) (pe_op op_sub (pv 0) pe_int)) (pe_op op_sub (pv 0) pe_int)) pa_nil)))))), ?_⟩
  obtain ⟨p1, p2, q1, q2⟩ := grade_ok h2 h10
  have m1 : 9 * (k - 1) * (k - 1) < 1000000 ∧ -1000000 < 9 * (k - 1) * (k - 1) := by
    have : k = 2 ∨ k = 3 ∨ k = 4 ∨ k = 5 ∨ k = 6 ∨ k = 7 ∨ k = 8 ∨ k = 9 ∨ k = 10 := by omega
    rcases this with rfl | rfl | rfl | rfl | rfl | rfl | rfl | rfl | rfl <;> decide
  refine ⟨_, rfl, _, _, rfl, rfl, _, _, rfl, rfl, small_mul (by decide) (by decide), ?_⟩
  refine ⟨_, rfl, _, _, rfl, rfl, _, rfl, _, rfl, _, _, rfl, rfl, _, _, rfl, rfl, small_mul (by omega) (by omega), _, rfl, _, _, rfl, rfl, _, _, rfl, rfl, small_mul (by omega) (by omega), ?_⟩
  refine ⟨_, rfl, _, rfl, _, _, rfl, rfl, _, _, rfl, rfl, small_mul (by omega) (by omega), _, rfl, _, _, rfl, rfl, _, _, rfl, rfl, small_mul m1.2 m1.1, ?_⟩
  exact ⟨_, _, rfl, p2, (show B 6500 (gradeB k) from B.mono (B_small (Int.le_of_lt p2) q2) (by decide)), q⟩
/-! ### _law_names -/
end
end P64
namespace P64
open PySem PySem.Spec PyProof.Rows L2 SX EX WK
/-! ### _law_cell: some int -/
def spCell (K : PySem.W.Frag) : Sp := fun vs H Q _ => ∃ (a : Addr) (ns : List Int) (k : Int), vs = [.ref a, .int k] ∧ SqL K H a (ns.map V.int) ∧ 0 ≤ k ∧ k ≤ 1000 ∧ ∀ i : Int, Q (.int i) H
abbrev s__law_cell : Stmt := top 23
abbrev N__law_cell : List Str := ["script", "k", "seed", "cell"]
theorem sc__law_cell : FnScope N__law_cell ["script", "k"] (defScope s__law_cell) := ⟨rfl, rfl, rfl, by decide +kernel, rfl, by decide +kernel, by decide +kernel⟩
/-- digits: each is below its size -/
abbrev Dig (ns zs : List Int) : Prop := Paired (fun n z => 0 ≤ n ∧ n < z) ns zs
theorem Dig.snoc : ∀ {ns zs : List Int} {n z : Int}, Dig ns zs → 0 ≤ n → n < z → Dig (ns ++ [n]) (zs ++ [z])
  | _, _, _, _, .nil, h1, h2 => .cons ⟨h1, h2⟩ .nil
  | _, _, _, _, .cons r t, h1, h2 => .cons r (Dig.snoc t h1 h2)
theorem Dig.get : ∀ {ns zs : List Int} {i : Nat} {z : Int}, Dig ns zs → zs[i]? = some z → ∃ n, ns[i]? = some n ∧ 0 ≤ n ∧ n < z
  | _, _, _, _, .nil, e => by simp at e
  | _, _, 0, _, .cons r _, e => by cases e; exact ⟨_, rfl, r.1, r.2⟩
  | _, _, i + 1, z, .cons _ t, e => by
    obtain ⟨n, h1, h2⟩ := Dig.get (i := i) (z := z) t (by simpa using e)
    exact ⟨n, by simpa using h1, h2⟩
theorem Dig.len {ns zs : List Int} (d : Dig ns zs) : ns.length = zs.length := Paired.length d
theorem map_int {ns : List Int} {i : Nat} {x : V} (h : (ns.map V.int)[i]? = some x) : ∃ z, ns[i]? = some z ∧ x = .int z := by
  rw [List.getElem?_map] at h
  cases e : ns[i]? with
  | none => rw [e] at h; cases h
  | some z => rw [e] at h; exact ⟨z, rfl, (Option.some.inj h).symm⟩
theorem int_at {ns : List Int} {i : Nat} {z : Int} (h : ns[i]? = some z) : (ns.map V.int)[i]? = some (.int z) := by
  rw [List.getElem?_map, h]
  rfl
theorem snoc_int (ns : List Int) (n : Int) : ns.map V.int ++ [V.int n] = (ns ++ [n]).map V.int := by
  rw [List.map_append]
  rfl
/-! ### _law_digits: one digit for each size -/
def spDigits (K : PySem.W.Frag) : Sp := fun vs H Q _ => ∃ (c : Int) (a : Addr) (zs : List Int), vs = [.int c, .ref a] ∧ SqL K H a (zs.map V.int) ∧ zs.length ≤ 1000 ∧ (∀ z ∈ zs, 0 < z ∧ z.natAbs < 2 ^ 2000) ∧
  ∀ p ns, H p = none → Dig ns zs → Q (.ref p) (upd H p (.lst (ns.map V.int)))
abbrev s__law_digits : Stmt := top 24
abbrev N__law_digits : List Str := ["cell", "sizes", "row", "rest", "size", "seed", "k", "twice"]
theorem sc__law_digits : FnScope N__law_digits ["cell", "sizes"] (defScope s__law_digits) := ⟨rfl, rfl, rfl, by decide +kernel, rfl, by decide +kernel, by decide +kernel⟩
theorem kit1 {K : PySem.W.Frag} : PySem.W.kitOne K (.type "int") (.type "int") = some true := kit_ty (by decide +kernel)
theorem kit2 {K : PySem.W.Frag} : PySem.W.kitOne K (.type "int") (.type "bool") = some false := kit_ty (by decide +kernel)
theorem kit3 {K : PySem.W.Frag} : PySem.W.kitOne K (.type "str") (.type "str") = some true := kit_ty (by decide +kernel)
theorem kit4 {K : PySem.W.Frag} : PySem.W.kitOne K (.type "int") (.type "str") = some false := kit_ty (by decide +kernel)
theorem kit5 {K : PySem.W.Frag} : PySem.W.kitOne K (.type "tuple") (.type "str") = some false := kit_ty (by decide +kernel)
theorem kit6 {K : PySem.W.Frag} : PySem.W.kitOne K (.type "tuple") (.type "tuple") = some true := kit_ty (by decide +kernel)
theorem kit7 {K : PySem.W.Frag} : PySem.W.kitOne K (.type "int") (.type "tuple") = some false := kit_ty (by decide +kernel)
def spLaw_whole : Sp := fun vs H Q _ => ∃ i : Int, vs = [.int i] ∧ Q (.bl true) H
abbrev s__law_whole : Stmt := top 22
abbrev N__law_whole : List Str := ["value"]
theorem sc__law_whole : FnScope N__law_whole ["value"] (defScope s__law_whole) := ⟨rfl, rfl, rfl, by decide +kernel, rfl, by decide +kernel, by decide +kernel⟩
section
variable {P : Program} {w : World} {K : PySem.W.Frag} {mg : Str → Option Value} {base : Heap} {f : Addr} {fd : FuncData}
theorem ok__law_whole (F : Fun K "_law_whole" "_law_whole" s__law_whole f fd) (T : Txt mg) : FnOk P w K mg base CX0 1 f fd ["value"] spLaw_whole := by
  refine F.ok sc__law_whole (fun vs H Q E h => ?_) (fun cdv A outer s H vs Q E hr h => ?_)
  · obtain ⟨i, rfl, _⟩ := h
    rfl
  obtain ⟨i, rfl, q⟩ := h
  refine ⟨_, (pss_one (ps_ret (pe_and (pe_callB call_isi (by rfl) T.b_isinstance (by decide +kernel) (pa_cons (pv 0) (pa_cons (pe_bltn (v := .ty "int") (by rfl) T.b_int (by decide +kernel) rfl) pa_nil))) (pe_one (pe_not (pe_callB call_isi (by rfl) T.b_isinstance (by decide +kernel) (pa_cons (pv 0) (pa_cons (pe_bltn (v := .ty "bool") (by rfl) T.b_bool (by decide +kernel) rfl) pa_nil)))))))), ?_⟩
  refine ⟨_, rfl, _, _, _, _, true, rfl, .ty _, .base (.int i), kit1, true, rfl, ifT rfl ?_⟩
  exact ⟨_, rfl, _, _, _, _, false, rfl, .ty _, .base (.int i), kit2, false, rfl, q⟩
theorem ok__law_cell (F : Fun K "_law_cell" "_law_cell" s__law_cell f fd) (T : Txt mg) : FnOk P w K mg base CX0 1 f fd ["script", "k"] (spCell K) := by
  refine F.ok sc__law_cell (fun vs H Q E h => ?_) (fun cdv A outer s H vs Q E hr h => ?_)
  · obtain ⟨a, ns, k, rfl, _⟩ := h
    rfl
  obtain ⟨a, ns, k, rfl, hs, h0, h1, q⟩ := h
  refine ⟨_, (pss_cons (ps_if (pt_cmpR op_lt (pv 1) (pe_callB call_len_seq (by rfl) T.b_len PySem.boot_len (pa_cons (pv 0) pa_nil)) (nomark _)) (pss_one (ps_ret (pe_ix ix_list (pv 0) (pv 1) (fun _ _ => rfl)))) pss_nil)
  (pss_cons (ps_set (i := 2) sc__law_cell.nd rfl (Or.inl rfl) pe_int)
  (pss_cons (ps_for PassesOwn.never rfl (pi_list (pv 0)) (pg_name (i := 3) sc__law_cell.nd rfl (Or.inl rfl)) (pss_one (ps_set (i := 2) sc__law_cell.nd rfl (Or.inl rfl) (pe_op op_mod (pe_callTy call_int1 (by rfl) T.b_int (by decide +kernel) (pa_cons (pe_op op_add (pe_op op_mul (pv 2) pe_int) (pe_op op_mod (pe_callTy call_int1 (by rfl) T.b_int (by decide +kernel) (pa_cons (pv 3) pa_nil)) pe_int)) pa_nil)) pe_int))))
  (pss_one (ps_ret (pe_op op_mod (pe_callTy call_int1 (by rfl) T.b_int (by decide +kernel) (pa_cons (pe_op op_mul (pe_op op_mul (pe_op op_add (pv 2) pe_int) (pe_op op_add (pv 1) pe_int)) pe_int) pa_nil)) pe_int)))))), ?_⟩
  refine ⟨_, rfl, _, rfl, a, _, rfl, .inl hs, _, _, rfl, rfl, _, rfl, ?_⟩
  refine ite2 (fun c => ?_) (fun c => ?_)
  · have c' : k < (((ns.map V.int).length : Nat) : Int) := of_decide_eq_true c
    rw [List.length_map] at c'
    obtain ⟨z, hz⟩ : ∃ z, ns[k.toNat]? = some z := ⟨ns[k.toNat]'(by omega), List.getElem?_eq_getElem (by omega)⟩
    exact ⟨_, rfl, _, rfl, a, _, k, _, rfl, rfl, hs, at_pos h0 (int_at hz), q z⟩
  · refine ⟨_, rfl, a, rfl, ⟨_, hs⟩, for_list (K := K) (a := a) (xs := ns.map V.int) (fun i σ H' => ∃ (z : Int) (v : Option V), σ = [some (.ref a), some (.int k), some (.int z), v] ∧ H' = H)
      ⟨17, none, rfl, rfl⟩ (fun i σ H' _ ⟨_, _, _, e⟩ => by rw [e]; exact hs) ?_ ?_⟩
    · rintro i y σ H' hi ⟨z, v, rfl, rfl⟩
      obtain ⟨x, hx, rfl⟩ := map_int hi
      refine ⟨_, rfl, _, _, rfl, rfl, .inr (by decide), _, rfl, .inl ⟨_, rfl, _, _, rfl, rfl, (by show (0 : Int) < 1000003; decide), _, _, rfl, rfl, .inl ⟨_, rfl, _, _, rfl, rfl, (by show (0 : Int) < 1000003; decide), ?_⟩⟩⟩
      exact ⟨_, _, rfl, rfl⟩
    · rintro σ H' ⟨z, v, rfl, rfl⟩
      refine ⟨_, rfl, _, _, rfl, rfl, _, rfl, _, _, rfl, rfl, _, _, rfl, rfl, .inr (by omega), _, _, rfl, rfl, .inr (by decide), .inl ⟨_, rfl, _, _, rfl, rfl, (by show (0 : Int) < 2147483647; decide), ?_⟩⟩
      exact q _
theorem ok__law_digits (F : Fun K "_law_digits" "_law_digits" s__law_digits f fd) (T : Txt mg) : FnOk P w K mg base CX0 1 f fd ["cell", "sizes"] (spDigits K) := by
  refine F.ok sc__law_digits (fun vs H Q E h => ?_) (fun cdv A outer s H vs Q E hr h => ?_)
  · obtain ⟨c, a, zs, rfl, _⟩ := h
    rfl
  obtain ⟨c, a, zs, rfl, hs, hz9, hz, q⟩ := h
  refine ⟨_, (pss_cons (ps_set (i := 2) sc__law_digits.nd rfl (Or.inl rfl) (pe_lst pa_nil))
  (pss_cons (ps_set (i := 3) sc__law_digits.nd rfl (Or.inl rfl) (pe_callTy call_int1 (by rfl) T.b_int (by decide +kernel) (pa_cons (pv 0) pa_nil)))
  (pss_cons (ps_if (pt_cmpR op_ge (pv 3) (pe_op op_pow pe_int pe_int) (nomark _)) (pss_cons (ps_set (i := 3) sc__law_digits.nd rfl (Or.inl rfl) (pe_op op_sub (pv 3) (pe_op op_pow pe_int pe_int)))
  (pss_cons (ps_for PassesOwn.never rfl (pi_list (pv 1)) (pg_name (i := 4) sc__law_digits.nd rfl (Or.inl rfl)) (pss_cons (ps_expr (pe_bm PySem.F.plainAttrs_list PySem.F.slot_list_append PySem.F.type_list_append mt_append (pv 2) (pa_cons (pe_op op_mod (pe_callTy call_int1 (by rfl) T.b_int (by decide +kernel) (pa_cons (pv 3) pa_nil)) (pv 4)) pa_nil)))
  (pss_one (ps_set (i := 3) sc__law_digits.nd rfl (Or.inl rfl) (pe_op op_fdivW (pe_callTy call_int1 (by rfl) T.b_int (by decide +kernel) (pa_cons (pv 3) pa_nil)) (pv 4))))))
  (pss_one (ps_ret (pv 2))))) pss_nil)
  (pss_cons (ps_set (i := 5) sc__law_digits.nd rfl (Or.inl rfl) (pe_op op_mod (pe_callTy call_int1 (by rfl) T.b_int (by decide +kernel) (pa_cons (pv 3) pa_nil)) pe_int))
  (pss_cons (ps_for PassesOwn.never rfl (pi_range1 (by rfl) T.b_range (pa_cons (pe_callB call_len_seq (by rfl) T.b_len PySem.boot_len (pa_cons (pv 1) pa_nil)) pa_nil)) (pg_name (i := 6) sc__law_digits.nd rfl (Or.inl rfl)) (pss_cons (ps_set (i := 5) sc__law_digits.nd rfl (Or.inl rfl) (pe_op op_mod (pe_callTy call_int1 (by rfl) T.b_int (by decide +kernel) (pa_cons (pe_op op_add (pe_op op_add (pe_op op_mul (pv 5) pe_int) (pe_op op_mul pe_int (pv 6))) pe_int) pa_nil)) pe_int))
  (pss_cons (ps_set (i := 7) sc__law_digits.nd rfl (Or.inl rfl) (pe_op op_mod (pe_callTy call_int1 (by rfl) T.b_int (by decide +kernel) (pa_cons (pe_op op_mul (pv 5) (pe_op op_add (pe_op op_fdiv (pv 5) pe_int) pe_int)) pa_nil)) pe_int))
  (pss_one (ps_expr (pe_bm PySem.F.plainAttrs_list PySem.F.slot_list_append PySem.F.type_list_append mt_append (pv 2) (pa_cons (pe_op op_mod (pe_op op_fdiv (pv 7) pe_int) (pe_ix ix_list (pv 1) (pv 6) (fun _ _ => rfl))) pa_nil)))))))
  (pss_one (ps_ret (pv 2)))))))), ?_⟩
  have keep : ∀ {p : Addr} {o : HO}, H p = none → SqL K (upd H p o) a (zs.map V.int) := fun hp => (same_new hp _).seq hs
  refine ⟨(by show 0 ≤ sizeLine; exact Nat.zero_le _), fun p hp => ?_⟩
  refine ⟨_, rfl, .inl ⟨_, rfl, ?_⟩⟩
  refine ⟨_, rfl, _, _, rfl, rfl, ⟨by decide, by decide, by decide⟩, _, _, rfl, rfl, _, rfl, ?_⟩
  refine ite2 (fun _ => ?_) (fun _ => ?_)
  · refine ⟨_, rfl, _, _, rfl, rfl, ⟨by decide, by decide, by decide⟩, _, _, rfl, rfl, ?_⟩
    refine ⟨_, rfl, a, rfl, ⟨_, keep hp⟩, for_list (K := K) (a := a) (xs := zs.map V.int) (fun i σ H' => ∃ (z : Int) (v : Option V) (ns : List Int), σ = [some (.int c), some (.ref a), some (.ref p), some (.int z), v, none, none, none] ∧ H' = upd H p (.lst (ns.map V.int)) ∧ Dig ns (zs.take i))
      ⟨_, none, [], rfl, rfl, .nil⟩ (fun i σ H' _ ⟨_, _, _, _, e, _⟩ => by rw [e]; exact keep hp) ?_ ?_⟩
    · rintro i y σ H' hi ⟨z, v, ns, rfl, rfl, hd⟩
      obtain ⟨x, hx, rfl⟩ := map_int hi
      have hx2 := hz x (List.mem_of_getElem? hx)
      have hlen : ns.length ≤ 1000 := by
        have := hd.len
        rw [List.length_take] at this
        omega
      refine ⟨_, rfl, .inl ⟨rfl, _, SqL.of upd_same⟩, _, rfl, .inl ⟨_, rfl, _, rfl, _, _, rfl, rfl, hx2.1, p, _, _, rfl, rfl, upd_same, by rw [List.length_map]; exact small1000 hlen, ?_⟩⟩
      refine ⟨_, rfl, .inl ⟨_, rfl, _, rfl, _, _, rfl, rfl, wide_div hx2.1 hx2.2 (by decide) (by decide), ?_⟩⟩
      exact ⟨_, _, ns ++ [z % x], rfl, by rw [upd_upd, snoc_int], by rw [take_snoc hx]; exact hd.snoc (Int.emod_nonneg _ (by omega)) (Int.emod_lt_of_pos _ hx2.1)⟩
    · rintro σ H' ⟨z, v, ns, rfl, rfl, hd⟩
      rw [List.length_map, List.take_length] at hd
      exact ⟨_, rfl, q p ns hp hd⟩
  · refine ⟨_, rfl, .inl ⟨_, rfl, _, _, rfl, rfl, (by show (0 : Int) < 2147483629; decide), ?_⟩⟩
    refine ⟨_, rfl, a, _, rfl, .inl (keep hp), _, rfl, by rw [List.length_map]; omega, by rw [List.length_map]; omega, for_range (lo := 0) (n := (((zs.map V.int).length : Nat) : Int).toNat)
      (fun i σ H' => ∃ (sd : Int) (v6 v7 : Option V) (r : Int) (ns : List Int), σ = [some (.int c), some (.ref a), some (.ref p), some (.int r), none, some (.int sd), v6, v7] ∧ 0 ≤ sd ∧ sd < 2147483648 ∧ H' = upd H p (.lst (ns.map V.int)) ∧ Dig ns (zs.take i))
      ⟨_, none, none, _, [], rfl, Int.emod_nonneg _ (by decide), Int.lt_trans (Int.emod_lt_of_pos _ (by decide)) (by decide), rfl, .nil⟩ ?_ ?_⟩
    · rintro i σ H' hi ⟨sd, v6, v7, r, ns, rfl, hs0, hs1, rfl, hd⟩
      rw [Int.toNat_natCast, List.length_map] at hi
      obtain ⟨x, hx⟩ : ∃ x, zs[i]? = some x := ⟨zs[i], List.getElem?_eq_getElem hi⟩
      have hx2 := hz x (List.mem_of_getElem? hx)
      have hlen : ns.length ≤ 1000 := by
        have := hd.len
        rw [List.length_take] at this
        omega
      refine ⟨_, rfl, _, _, rfl, rfl, .inr (by decide), _, rfl, _, _, rfl, rfl, .inl (by decide), _, _, rfl, rfl, _, _, rfl, rfl, .inl ⟨_, rfl, _, _, rfl, rfl, (by show (0 : Int) < 2147483647; decide), ?_⟩⟩
      have b0 : 0 ≤ (sd * 48271 + 974711 * (0 + (i : Int)) + 12345) % 2147483647 := Int.emod_nonneg _ (by decide)
      have b1 : (sd * 48271 + 974711 * (0 + (i : Int)) + 12345) % 2147483647 < 2147483648 := Int.lt_trans (Int.emod_lt_of_pos _ (by decide)) (by decide)
      refine ⟨_, rfl, _, rfl, _, _, rfl, rfl, ⟨by decide, by decide⟩, _, _, rfl, rfl, _, _, rfl, rfl, .inl ⟨Int.lt_of_lt_of_le (by decide) b0, Int.lt_trans b1 (by decide)⟩, .inl ⟨_, rfl, _, _, rfl, rfl, (by show (0 : Int) < 2147483629; decide), ?_⟩⟩
      refine ⟨_, rfl, .inl ⟨rfl, _, SqL.of upd_same⟩, _, rfl, _, _, rfl, rfl, ⟨by decide, by decide⟩, _, rfl, _, rfl, a, _, _, _, rfl, rfl, keep hp, at_pos (by omega) (int_at (by rw [show ((0 : Int) + (i : Nat)).toNat = i by omega]; exact hx)), _, _, rfl, rfl, hx2.1, p, _, _, rfl, rfl, upd_same, by rw [List.length_map]; exact small1000 hlen, ?_⟩
      exact ⟨_, _, _, r, _, rfl, b0, b1, by rw [upd_upd, snoc_int], by rw [take_snoc hx]; exact hd.snoc (Int.emod_nonneg _ (by omega)) (Int.emod_lt_of_pos _ hx2.1)⟩
    · rintro σ H' ⟨sd, v6, v7, r, ns, rfl, hs0, hs1, rfl, hd⟩
      rw [Int.toNat_natCast, List.length_map, List.take_length] at hd
      exact ⟨_, rfl, q p ns hp hd⟩
end
end P64
namespace P64
open PySem PySem.Spec PyProof.Rows L2 SX EX WK
/-! ### names -/
def Nm (n : List Nat) : Prop := (1 ≤ n.length ∧ n.length ≤ 8) ∧ ∀ c ∈ n, c < 1000
theorem mem_app {x y : List Nat} (hx : ∀ c ∈ x, c < 1000) (hy : ∀ c ∈ y, c < 1000) : ∀ c ∈ x ++ y, c < 1000 := fun c h => (List.mem_append.mp h).elim (hx c) (hy c)
theorem mem_one {d : Nat} (h : d < 1000) : ∀ c ∈ [d], c < 1000 := fun c e => by rw [List.mem_singleton.mp e]; exact h
abbrev letters : List Nat := [97, 98, 99, 100, 101, 102, 103, 104, 105, 106, 107, 108, 109, 110, 111, 112, 113, 114, 115, 116, 117, 118, 119, 120, 121, 122]
theorem lit_letters : ("abcdefghijklmnopqrstuvwxyz" : Str) = S letters := by decide +kernel
theorem lit_empty : ("" : Str) = S [] := by decide +kernel
theorem cut_to (l : List Nat) {b : Int} (hb : 0 ≤ b) : cutS (S l) none (some b) = S (l.take b.toNat) := by
  have e1 : HT.sIx (S l).length 0 none = 0 := rfl
  have e2 : HT.sIx (S l).length (S l).length (some b) = min b.toNat l.length := by rw [slen]; show (if b < 0 then _ else _) = _; rw [if_neg (by omega)]
  unfold cutS
  rw [e1, e2]
  show (⟨((l.drop 0).take (min b.toNat l.length - 0)).toArray⟩ : Str) = _
  refine congrArg S ?_
  rw [List.drop_zero, Nat.sub_zero]
  rcases Nat.le_total b.toNat l.length with h | h
  · rw [Nat.min_eq_left h]
  · rw [Nat.min_eq_right h, List.take_of_length_le (Nat.le_refl _), List.take_of_length_le h]
theorem cut_from (l : List Nat) {a : Int} (ha : 0 ≤ a) : cutS (S l) (some a) none = S (l.drop a.toNat) := by
  have e1 : HT.sIx (S l).length 0 (some a) = min a.toNat l.length := by rw [slen]; show (if a < 0 then _ else _) = _; rw [if_neg (by omega)]
  have e2 : HT.sIx (S l).length (S l).length none = l.length := slen l
  unfold cutS
  rw [e1, e2]
  show (⟨((l.drop (min a.toNat l.length)).take (l.length - min a.toNat l.length)).toArray⟩ : Str) = _
  refine congrArg S ?_
  rcases Nat.le_total a.toNat l.length with h | h
  · rw [Nat.min_eq_left h, List.take_of_length_le (by rw [List.length_drop]; omega)]
  · rw [Nat.min_eq_right h, List.drop_of_length_le (Nat.le_refl _), List.drop_of_length_le h, List.take_nil]
def nearL : List (List Nat) := [[116, 104, 105], [116, 104, 105, 110, 115], [116, 104, 105, 110, 120], [115, 112, 97, 114], [115, 112, 97, 114, 101, 115], [98, 97, 115], [98, 97, 115, 101, 115], [98, 97, 115, 101, 97], [104, 105, 110], [97, 98, 97, 115, 101], [97, 116, 104, 105, 110], [101]]
theorem near_is : (["thi", "thins", "thinx", "spar", "spares", "bas", "bases", "basea", "hin", "abase", "athin", "e"] : List Str) = nearL.map S := by decide +kernel
theorem near_word : ∀ n ∈ nearL, (1 ≤ n.length ∧ n.length ≤ 8) ∧ ∀ c ∈ n, c < 1000 := by decide +kernel
theorem letters_ok : ∀ c ∈ letters, c < 1000 := by decide +kernel
theorem near_at {j : Int} (h0 : 0 ≤ j) (h : j < 12) : ∃ n, atI [V.str "thi", V.str "thins", V.str "thinx", V.str "spar", V.str "spares", V.str "bas", V.str "bases", V.str "basea", V.str "hin", V.str "abase", V.str "athin", V.str "e"] j = some (.str (S n)) ∧ Nm n := by
  have hl : j.toNat < nearL.length := by show j.toNat < 12; omega
  refine ⟨nearL[j.toNat], at_pos h0 ?_, near_word _ (List.getElem_mem hl)⟩
  show ((["thi", "thins", "thinx", "spar", "spares", "bas", "bases", "basea", "hin", "abase", "athin", "e"] : List Str).map V.str)[j.toNat]? = _
  rw [near_is, List.getElem?_map, List.getElem?_map, List.getElem?_eq_getElem hl]
  rfl
theorem letter_at {j : Int} (h0 : 0 ≤ j) (h : j < 26) : ∃ c, atI (S letters).cps.toList j = some c ∧ c < 1000 := by
  have hl : j.toNat < letters.length := by show j.toNat < 26; omega
  exact ⟨letters[j.toNat], at_pos h0 (List.getElem?_eq_getElem hl), letters_ok _ (List.getElem_mem hl)⟩
theorem join_signs : ∀ cs : List Nat, PySem.Txt.join (S []) (cs.map fun c => S [c]) = S cs := by
  have go : ∀ cs : List Nat, TL.joinL [] (cs.map fun c => [c]) = cs := fun cs => by
    induction cs with
    | nil => rfl
    | cons c cs ih =>
      cases cs with
      | nil => rfl
      | cons d ds => exact congrArg (fun z => c :: z) ih
  intro cs
  rw [TL.join_eq]
  refine TL.ext_tl ?_
  rw [TL.tl_join]
  have e : (cs.map fun c => S [c]).map TL.tl = cs.map fun c => [c] := by rw [List.map_map]; rfl
  rw [e]
  exact go cs
theorem inV_strs (x : Str) (ys : List Str) : inV (.str x) (ys.map V.str) = ys.any (· == x) := by
  induction ys with
  | nil => rfl
  | cons y ys ih => exact congrArg (fun b => (y == x) || b) ih
def nmV (l : List (List Nat)) : List V := l.map fun n => V.str (S n)
theorem inV_names {n : List Nat} {ts : List (List Nat)} : inV (.str (S n)) (nmV ts) = true ↔ n ∈ ts := by
  have e : nmV ts = (ts.map S).map V.str := by unfold nmV; rw [List.map_map]; rfl
  rw [e, inV_strs, List.any_map, List.any_eq_true]
  constructor
  · rintro ⟨x, hx, h⟩
    have h : (S x == S n) = true := h
    rw [S_beq_eq] at h
    rw [← of_decide_eq_true h]
    exact hx
  · intro h
    refine ⟨n, h, ?_⟩
    show (S n == S n) = true
    rw [S_beq_eq]
    exact decide_eq_true rfl
abbrev rsv (n : List Nat) : Bool := inV (.str (S n)) [V.str "thin", V.str "spare", V.str "base"]
/-- the letters told one behind the other -/
def ex (d : Int) (j : Nat) : Nat := 97 + ((d + (j : Int)) % 26).toNat
theorem letter_is {j : Int} (h0 : 0 ≤ j) (h : j < 26) : atI (S letters).cps.toList j = some (97 + j.toNat) ∧ 97 + j.toNat < 1000 := by
  obtain ⟨k, rfl⟩ : ∃ k : Nat, j = (k : Int) := ⟨j.toNat, by omega⟩
  have e : ∀ k : Nat, k < 26 → letters[k]? = some (97 + k) := by decide +kernel
  exact ⟨at_pos h0 (e k (by omega)), by omega⟩
theorem one_not : ∀ c ∈ letters, inV (.str (S [c])) [V.str "thin", V.str "spare", V.str "base"] = false := by decide +kernel
theorem ex_in (d : Int) (j : Nat) : ex d j ∈ letters := by
  unfold ex
  have h0 : 0 ≤ (d + (j : Int)) % 26 := Int.emod_nonneg _ (by decide)
  have h1 : (d + (j : Int)) % 26 < 26 := Int.emod_lt_of_pos _ (by decide)
  have e : ∀ k : Nat, k < 26 → 97 + k ∈ letters := by decide +kernel
  exact e _ (by omega)
theorem ex_ne (d : Int) {i j : Nat} (hi : i < j) (hj : j < 26) : ex d i ≠ ex d j := by
  unfold ex
  have a0 : 0 ≤ (d + (i : Int)) % 26 := Int.emod_nonneg _ (by decide)
  have b0 : 0 ≤ (d + (j : Int)) % 26 := Int.emod_nonneg _ (by decide)
  intro e
  have e2 : (d + (i : Int)) % 26 = (d + (j : Int)) % 26 := by omega
  omega
theorem pigeon {α : Type} [DecidableEq α] : ∀ (l ts : List α), l.Nodup → (∀ x ∈ l, x ∈ ts) → l.length ≤ ts.length
  | [], _, _, _ => Nat.zero_le _
  | a :: l, ts, hn, h => by
    have hn := List.nodup_cons.mp hn
    have ha := h a List.mem_cons_self
    have := pigeon l (ts.erase a) hn.2 fun x hx => (List.mem_erase_of_ne fun e => hn.1 (by rw [← e]; exact hx)).mpr (h x (List.mem_cons_of_mem _ hx))
    rw [List.length_erase_of_mem ha] at this
    have : 0 < ts.length := List.length_pos_of_mem ha
    rw [List.length_cons]
    omega
/-- where the search of a free name stands -/
def Srch (d : Int) (ts : List (List Nat)) (i : Nat) (n : List Nat) : Prop := i = 0 ∨ (¬ n ∈ ts ∧ rsv n = false) ∨ (n = [ex d (i - 1)] ∧ ∀ j, j < i - 1 → [ex d j] ∈ ts)
theorem srch_end {d : Int} {ts : List (List Nat)} {n : List Nat} (h4 : ts.length ≤ 4) (h : Srch d ts 26 n) : ¬ n ∈ ts := by
  rcases h with h | h | ⟨_, h⟩
  · exact absurd h (by decide)
  · exact h.1
  · exfalso
    have := pigeon [[ex d 0], [ex d 1], [ex d 2], [ex d 3], [ex d 4]] ts (by
      have n1 := fun i j (a : i < j) (b : j < 26) => ex_ne d a b
      simp only [List.nodup_cons, List.mem_cons, List.not_mem_nil, or_false, not_or, List.cons.injEq, and_true, List.nodup_nil, not_false_eq_true]
      exact ⟨⟨n1 0 1 (by decide) (by decide), n1 0 2 (by decide) (by decide), n1 0 3 (by decide) (by decide), n1 0 4 (by decide) (by decide)⟩, ⟨n1 1 2 (by decide) (by decide), n1 1 3 (by decide) (by decide), n1 1 4 (by decide) (by decide)⟩, ⟨n1 2 3 (by decide) (by decide), n1 2 4 (by decide) (by decide)⟩, n1 3 4 (by decide) (by decide)⟩) (fun x hx => by
        simp only [List.mem_cons, List.not_mem_nil, or_false] at hx
        rcases hx with rfl | rfl | rfl | rfl | rfl
        · exact h 0 (by decide)
        · exact h 1 (by decide)
        · exact h 2 (by decide)
        · exact h 3 (by decide)
        · exact h 4 (by decide))
    simp only [List.length_cons, List.length_nil] at this
    omega
def nameSizes : List Int := [8, 12, 26, 26, 26, 26, 26, 26, 26, 26]
theorem nm_flat (ts : List (List Nat)) : (nmV ts).all flatV = true := by
  unfold nmV
  rw [List.all_eq_true]
  intro x hx
  obtain ⟨n, _, rfl⟩ := List.mem_map.mp hx
  rfl
def spName : Sp := fun vs H Q _ => ∃ (r t : Addr) (ds zs : List Int) (ts : List (List Nat)), vs = [.ref r, .ref t] ∧ H r = some (.lst (ds.map V.int)) ∧ Dig ds zs ∧ zs.take 10 = nameSizes ∧ H t = some (.lst (nmV ts)) ∧ (∀ n ∈ ts, Nm n) ∧ ts.length ≤ 4 ∧ ∀ n H', Same H H' → Nm n → ¬ n ∈ ts → Q (.str (S n)) H'
abbrev s__law_name : Stmt := top 29
abbrev N__law_name : List Str := ["row", "taken", "letters", "near", "name", "mate", "place", "turn", "k"]
theorem sc__law_name : FnScope N__law_name ["row", "taken"] (defScope s__law_name) := ⟨rfl, rfl, rfl, by decide +kernel, rfl, by decide +kernel, by decide +kernel⟩
section
variable {P : Program} {w : World} {K : PySem.W.Frag} {mg : Str → Option Value} {base : Heap} {f : Addr} {fd : FuncData}
theorem ok__law_name (F : Fun K "_law_name" "_law_name" s__law_name f fd) (T : Txt mg) : FnOk P w K mg base CX0 1 f fd ["row", "taken"] spName := by
  refine F.ok sc__law_name (fun vs H Q E h => ?_) (fun cdv A outer s H vs Q E hr h => ?_)
  · obtain ⟨r, t, ds, zs, ts, rfl, _⟩ := h
    rfl
  obtain ⟨r, t, ds, zs, ts, rfl, hrow, hd, hz, ht, hts, hts9, q⟩ := h
  refine ⟨_, (pss_cons (ps_set (i := 2) sc__law_name.nd rfl (Or.inr rfl) pe_str)
  (pss_cons (ps_set (i := 3) sc__law_name.nd rfl (Or.inl rfl) (pe_lst (pa_cons pe_str (pa_cons pe_str (pa_cons pe_str (pa_cons pe_str (pa_cons pe_str (pa_cons pe_str (pa_cons pe_str (pa_cons pe_str (pa_cons pe_str (pa_cons pe_str (pa_cons pe_str (pa_cons pe_str pa_nil))))))))))))))
  (pss_cons (ps_set (i := 4) sc__law_name.nd rfl (Or.inl rfl) (pe_join pe_str (pe_lc (own := [("k", 8)]) (g := gName 8) (tt := tYes) (by rfl) sc__law_name.nd (pi_range1 (by rfl) T.b_range (pa_cons (pe_op op_add pe_int (pe_ix ix_list (pv 0) pe_int (fun _ _ => rfl))) pa_nil)) (blkOk_by (N := N__law_name) (sc := defScope s__law_name) (by decide +kernel)) (fun _ _ _ _ _ => (pg_name (i := 8) sc__law_name.nd rfl (Or.inl rfl))) (fun _ _ _ _ _ => pts_nil) (fun _ _ _ _ _ => (pe_ix ix_str (pv 2) (pe_ix (ix_listK (K := K) rfl) (pv 0) (pe_op op_add pe_int (pv 8)) (fun _ _ => rfl)) (fun _ _ => rfl))))))
  (C8.pss_cut (ps_if (pt_cmpR op_ge (pe_ix ix_list (pv 0) pe_int (fun _ _ => rfl)) pe_int (nomark _)) (pss_one (ps_set (i := 4) sc__law_name.nd rfl (Or.inl rfl) (pe_ix ix_list (pv 3) (pe_op op_mod (pe_callTy call_int1 (by rfl) T.b_int (by decide +kernel) (pa_cons (pe_ix ix_list (pv 0) pe_int (fun _ _ => rfl)) pa_nil)) pe_int) (fun _ _ => rfl)))) pss_nil)
  (C8.pss_cut (ps_if (PW.pt (pw_and (pt_chain op_le op_lt pe_int (pe_ix ix_list (pv 0) pe_int (fun _ _ => rfl)) pe_int) (pw_and1 (pt_cmpR op_gt (pe_callB call_len_seq (by rfl) T.b_len PySem.boot_len (pa_cons (pv 1) pa_nil)) pe_int (nomark _))))) (pss_cons (ps_set (i := 5) sc__law_name.nd rfl (Or.inl rfl) (pe_ix ix_list (pv 1) (pe_op op_mod (pe_callTy call_int1 (by rfl) T.b_int (by decide +kernel) (pa_cons (pe_ix ix_list (pv 0) pe_int (fun _ _ => rfl)) pa_nil)) (pe_callB call_len_seq (by rfl) T.b_len PySem.boot_len (pa_cons (pv 1) pa_nil))) (fun _ _ => rfl)))
  (pss_cons (ps_set (i := 6) sc__law_name.nd rfl (Or.inl rfl) (pe_op op_mod (pe_callTy call_int1 (by rfl) T.b_int (by decide +kernel) (pa_cons (pe_ix ix_list (pv 0) pe_int (fun _ _ => rfl)) pa_nil)) (pe_callB call_len_str (by rfl) T.b_len PySem.boot_len (pa_cons (pv 5) pa_nil))))
  (C8.pss_cut (ps_if (pt_cmpR op_eq (pe_ix ix_list (pv 0) pe_int (fun _ _ => rfl)) pe_int (nomark _)) (pss_one (ps_set (i := 4) sc__law_name.nd rfl (Or.inl rfl) (pe_slice sl_str (pe_op op_add_str (pv 5) (pe_ix ix_str (pv 2) (pe_ix ix_list (pv 0) pe_int (fun _ _ => rfl)) (fun _ _ => rfl))) po_none (po_some pe_int)))) pss_nil)
  (C8.pss_cut (ps_if (PW.pt (pw_and (pt_cmpR op_eq (pe_ix ix_list (pv 0) pe_int (fun _ _ => rfl)) pe_int (nomark _)) (pw_and1 (pt_cmpR op_gt (pe_callB call_len_str (by rfl) T.b_len PySem.boot_len (pa_cons (pv 5) pa_nil)) pe_int (nomark _))))) (pss_one (ps_set (i := 4) sc__law_name.nd rfl (Or.inl rfl) (pe_slice sl_str (pv 5) po_none (po_some (pe_op op_sub (pe_callB call_len_str (by rfl) T.b_len PySem.boot_len (pa_cons (pv 5) pa_nil)) pe_int))))) pss_nil)
  (pss_one (ps_if (pt_cmpR op_eq (pe_ix ix_list (pv 0) pe_int (fun _ _ => rfl)) pe_int (nomark _)) (pss_one (ps_set (i := 4) sc__law_name.nd rfl (Or.inl rfl) (pe_op op_add_str (pe_op op_add_str (pe_slice sl_str (pv 5) po_none (po_some (pv 6))) (pe_ix ix_str (pv 2) (pe_ix ix_list (pv 0) pe_int (fun _ _ => rfl)) (fun _ _ => rfl))) (pe_slice sl_str (pv 5) (po_some (pe_op op_add (pv 6) pe_int)) po_none)))) pss_nil)))))) pss_nil)
  (pss_cons (ps_for PassesOwn.never rfl (pi_range1 (by rfl) T.b_range (pa_cons pe_int pa_nil)) (pg_name (i := 7) sc__law_name.nd rfl (Or.inl rfl)) (pss_one (ps_if (PW.pt (pw_or (pt_cmpR op_in_seq (pv 4) (pv 1) (by rfl)) (pw_or1 (pt_cmpR op_in_seq (pv 4) (pe_lst (pa_cons pe_str (pa_cons pe_str (pa_cons pe_str pa_nil)))) (by rfl))))) (pss_one (ps_set (i := 4) sc__law_name.nd rfl (Or.inl rfl) (pe_ix ix_str (pv 2) (pe_op op_mod (pe_callTy call_int1 (by rfl) T.b_int (by decide +kernel) (pa_cons (pe_op op_add (pe_ix ix_list (pv 0) pe_int (fun _ _ => rfl)) (pv 7)) pa_nil)) pe_int) (fun _ _ => rfl)))) pss_nil)))
  (pss_one (ps_ret (pv 4))))))))), ?_⟩
  have dig : ∀ (i : Nat) (z : Int), nameSizes[i]? = some z → ∃ n, (ds.map V.int)[i]? = some (.int n) ∧ 0 ≤ n ∧ n < z := fun i z h => by
    have h' : zs[i]? = some z := by
      rw [← hz, List.getElem?_take] at h
      split at h
      · exact h
      · cases h
    obtain ⟨n, h1, h2, h3⟩ := hd.get h'
    exact ⟨n, int_at h1, h2, h3⟩
  obtain ⟨d0, e0, a0, b0⟩ := dig 0 8 rfl
  obtain ⟨d1, e1, a1, b1⟩ := dig 1 12 rfl
  obtain ⟨d2, e2, a2, b2⟩ := dig 2 26 rfl
  obtain ⟨d3, e3, a3, b3⟩ := dig 3 26 rfl
  obtain ⟨d4, e4, a4, b4⟩ := dig 4 26 rfl
  refine ⟨line_ge (by show 12 ≤ _; omega), fun pn hpn => ?_⟩
  have g1 := same_new hpn (.lst [V.str "thi", V.str "thins", V.str "thinx", V.str "spar", V.str "spares", V.str "bas", V.str "bases", V.str "basea", V.str "hin", V.str "abase", V.str "athin", V.str "e"])
  refine ⟨⟨_, rfl⟩, ?_⟩
  refine ⟨_, rfl, r, _, 0, _, rfl, rfl, SqL.of (g1 _ _ hrow), at_pos (by decide) e0, _, _, rfl, rfl, 1 + d0, rfl, by omega, by omega, fun D hD => ?_⟩
  have hn0 : (1 + d0).toNat ≤ 8 := by omega
  refine lc_range (lo := 0) (n := (1 + d0).toNat) (fun i H' => ∃ cs : List Nat, cs.length = i ∧ (∀ c ∈ cs, c < 1000) ∧ Same (upd H pn (.lst [V.str "thi", V.str "thins", V.str "thinx", V.str "spar", V.str "spares", V.str "bas", V.str "bases", V.str "basea", V.str "hin", V.str "abase", V.str "athin", V.str "e"])) H' ∧ H' D = some (.lst (cs.map fun c => V.str (S [c]))))
    ⟨[], rfl, (fun c hc => nomatch hc), same_new hD _, upd_same⟩ ?_ ?_
  · rintro i H1 hlt ⟨cs, hcs, hall, g2, hd1⟩
    refine ⟨rfl, lc_yes ?_⟩
    obtain ⟨d, ed, ad, bd⟩ := dig (2 + i) 26 (by
      have : i < 8 := by omega
      match i, this with
      | 0, _ => rfl
      | 1, _ => rfl
      | 2, _ => rfl
      | 3, _ => rfl
      | 4, _ => rfl
      | 5, _ => rfl
      | 6, _ => rfl
      | 7, _ => rfl)
    obtain ⟨c, hc, hlc⟩ := letter_at ad bd
    refine ⟨_, rfl, _, rfl, _, rfl, _, _, rfl, rfl, r, _, _, _, rfl, rfl, SqL.of (g2 _ _ (g1 _ _ hrow)), at_pos (by omega) (by rw [show ((2 : Int) + (0 + (i : Nat))).toNat = 2 + i by omega]; exact ed), ?_⟩
    refine ⟨_, d, c, rfl, rfl, line_ge (by rw [lit_letters]; decide), by rw [lit_letters]; exact hc, ?_⟩
    refine ⟨_, hd1, by rw [List.length_map]; exact small1000 (by omega), cs ++ [c], by rw [List.length_append, hcs]; rfl, mem_app hall (mem_one hlc), same_at g2 hD, ?_⟩
    rw [upd_same, List.map_append]
    rfl
  rintro H1 ⟨cs, hcs, hall, g2, hd1⟩
  have hlen : ((cs.map fun c => S [c]).map (·.length)).sum + (cs.map fun c => S [c]).length * (S []).length ≤ 16777216 := by
    have h1 : (S []).length = 0 := rfl
    have h2 : ∀ cs : List Nat, ((cs.map fun c => S [c]).map (·.length)).sum = cs.length := fun cs => by
      induction cs with
      | nil => rfl
      | cons c cs ih =>
        rw [List.map_cons, List.map_cons, List.sum_cons, ih, List.length_cons]
        show 1 + cs.length = cs.length + 1
        omega
    rw [h1, h2, hcs]
    omega
  have hlist : (cs.map fun c => V.str (S [c])) = ((cs.map fun c => S [c])).map V.str := by rw [List.map_map]; rfl
  refine ⟨S [], D, cs.map fun c => S [c], congrArg V.str lit_empty, rfl, .inl (SqL.of (by rw [hd1, hlist])), hlen, ?_⟩
  rw [join_signs]
  have hw0 : Nm cs := ⟨⟨by omega, by omega⟩, hall⟩
  have g3 : Same H H1 := g1.trans g2
  have hn1 := g2 _ _ (upd_same (H := H) (a := pn) (o := .lst [V.str "thi", V.str "thins", V.str "thinx", V.str "spar", V.str "spares", V.str "bas", V.str "bases", V.str "basea", V.str "hin", V.str "abase", V.str "athin", V.str "e"]))
  have hrow1 := g3 _ _ hrow
  have ht1 := g3 _ _ ht
  refine ⟨fun σ H' => ∃ n, σ = [some (.ref r), some (.ref t), some (.str "abcdefghijklmnopqrstuvwxyz"), some (.ref pn), some (.str (S n)), none, none, none, none] ∧ Nm n ∧ H' = H1, ?_, ?_⟩
  · refine ⟨_, rfl, r, _, 1, _, rfl, rfl, SqL.of hrow1, at_pos (by decide) e1, _, _, rfl, rfl, _, rfl, ?_⟩
    refine ite2 (fun _ => ?_) (fun _ => ?_)
    · obtain ⟨n, hn, hw⟩ := near_at (j := d2 % 12) (Int.emod_nonneg _ (by decide)) (Int.emod_lt_of_pos _ (by decide))
      refine ⟨_, rfl, _, rfl, r, _, 2, _, rfl, rfl, SqL.of hrow1, at_pos (by decide) e2, .inl ⟨_, rfl, _, _, rfl, rfl, (by show (0 : Int) < 12; decide), pn, _, _, _, rfl, rfl, SqL.of hn1, hn, ?_⟩⟩
      exact ⟨n, rfl, hw, rfl⟩
    · exact ⟨cs, rfl, hw0, rfl⟩
  rintro σ H2 ⟨n, rfl, hw, rfl⟩
  refine ⟨fun σ H' => ∃ n v5 v6, σ = [some (.ref r), some (.ref t), some (.str "abcdefghijklmnopqrstuvwxyz"), some (.ref pn), some (.str (S n)), v5, v6, none, none] ∧ Nm n ∧ H' = H2, ?_, ?_⟩
  · refine ⟨_, rfl, r, _, 1, _, rfl, rfl, SqL.of hrow1, at_pos (by decide) e1, _, _, rfl, rfl, _, rfl, ?_⟩
    refine ite2 (fun _ => ?_) (fun _ => ?_)
    · refine ⟨_, _, rfl, rfl, _, rfl, ?_⟩
      refine ite2 (fun _ => ?_) (fun _ => ?_)
      · refine ⟨_, rfl, t, _, rfl, .inl (SqL.of ht1), _, _, rfl, rfl, _, rfl, ?_⟩
        refine ite2 (fun c => ?_) (fun _ => ⟨n, none, none, rfl, hw, rfl⟩)
        have c1 : (0 : Int) < (((nmV ts).length : Nat) : Int) := dec_lt c
        have hlts : (nmV ts).length = ts.length := List.length_map ..
        rw [hlts] at c1
        have j0 : 0 ≤ d2 % (ts.length : Int) := Int.emod_nonneg _ (by omega)
        have j1 : d2 % (ts.length : Int) < ts.length := Int.emod_lt_of_pos _ c1
        obtain ⟨m, hm⟩ : ∃ m, ts[(d2 % (ts.length : Int)).toNat]? = some m := ⟨ts[(d2 % (ts.length : Int)).toNat]'(by omega), List.getElem?_eq_getElem _⟩
        obtain ⟨⟨m1, m8⟩, mc⟩ := hts m (List.mem_of_getElem? hm)
        have hmv : (nmV ts)[(d2 % (ts.length : Int)).toNat]? = some (.str (S m)) := by
          unfold nmV
          rw [List.getElem?_map, hm]
          rfl
        have hml : ((S m).length : Nat) = m.length := slen m
        refine ⟨_, rfl, _, rfl, r, _, 2, _, rfl, rfl, SqL.of hrow1, at_pos (by decide) e2, .inl ⟨_, rfl, _, rfl, t, _, rfl, .inl (SqL.of ht1), _, _, rfl, rfl, by rw [hlts]; exact c1, ?_⟩⟩
        rw [hlts]
        refine ⟨t, _, _, _, rfl, rfl, SqL.of ht1, at_pos j0 hmv, ?_⟩
        refine ⟨_, rfl, r, _, 4, _, rfl, rfl, SqL.of hrow1, at_pos (by decide) e4, .inl ⟨_, rfl, _, rfl, _, rfl, sline (by omega), _, _, rfl, rfl, by rw [hml]; omega, ?_⟩⟩
        rw [hml]
        have p0 : 0 ≤ d4 % (m.length : Int) := Int.emod_nonneg _ (by omega)
        have p1 : d4 % (m.length : Int) < m.length := Int.emod_lt_of_pos _ (by omega)
        obtain ⟨c3, hc3, hl3⟩ := letter_at a3 b3
        refine ⟨fun σ H' => ∃ n, σ = [some (.ref r), some (.ref t), some (.str "abcdefghijklmnopqrstuvwxyz"), some (.ref pn), some (.str (S n)), some (.str (S m)), some (.int (d4 % (m.length : Int))), none, none] ∧ Nm n ∧ H' = H2, ?_, ?_⟩
        · refine ⟨_, rfl, r, _, 1, _, rfl, rfl, SqL.of hrow1, at_pos (by decide) e1, rfl, _, rfl, ?_⟩
          refine ite2 (fun _ => ?_) (fun _ => ⟨n, rfl, hw, rfl⟩)
          refine ⟨_, rfl, _, rfl, _, rfl, r, _, 3, _, rfl, rfl, SqL.of hrow1, at_pos (by decide) e3, _, d3, c3, rfl, rfl, line_ge (by rw [lit_letters]; decide), by rw [lit_letters]; exact hc3, ?_⟩
          refine ⟨_, _, rfl, rfl, line_ge (by rw [slen]; show m.length + 1 ≤ _; omega), _, rfl, _, rfl, by rw [S_cat]; exact sline (by rw [List.length_append, List.length_singleton]; omega), ?_⟩
          rw [S_cat, cut_to _ (by decide)]
          exact ⟨_, rfl, ⟨⟨by rw [List.length_take, List.length_append, List.length_singleton]; show 1 ≤ min 8 _; omega, by rw [List.length_take]; show min 8 _ ≤ 8; omega⟩, fun c hc => mem_app mc (mem_one hl3) c (List.mem_of_mem_take hc)⟩, rfl⟩
        rintro σ H3 ⟨n, rfl, hw, rfl⟩
        refine ⟨fun σ H' => ∃ n, σ = [some (.ref r), some (.ref t), some (.str "abcdefghijklmnopqrstuvwxyz"), some (.ref pn), some (.str (S n)), some (.str (S m)), some (.int (d4 % (m.length : Int))), none, none] ∧ Nm n ∧ H' = H3, ?_, ?_⟩
        · refine ⟨_, rfl, r, _, 1, _, rfl, rfl, SqL.of hrow1, at_pos (by decide) e1, rfl, _, rfl, ?_⟩
          refine ite2 (fun _ => ?_) (fun _ => ⟨n, rfl, hw, rfl⟩)
          refine ⟨_, rfl, _, rfl, sline (by omega), _, _, rfl, rfl, _, rfl, ?_⟩
          refine ite2 (fun c => ?_) (fun _ => ⟨n, rfl, hw, rfl⟩)
          have c2 := dec_lt c
          rw [hml] at c2
          refine ⟨_, rfl, _, rfl, _, rfl, sline (by omega), _, _, rfl, rfl, _, rfl, _, rfl, sline (by omega), ?_⟩
          rw [hml, cut_to _ (by omega)]
          exact ⟨_, rfl, ⟨⟨by rw [List.length_take]; omega, by rw [List.length_take]; omega⟩, fun c hc => mc c (List.mem_of_mem_take hc)⟩, rfl⟩
        rintro σ H4 ⟨n, rfl, hw, rfl⟩
        refine ⟨_, rfl, r, _, 1, _, rfl, rfl, SqL.of hrow1, at_pos (by decide) e1, rfl, _, rfl, ?_⟩
        refine ite2 (fun _ => ?_) (fun _ => ⟨n, _, _, rfl, hw, rfl⟩)
        refine ⟨_, rfl, _, rfl, _, rfl, _, rfl, sline (by omega), _, rfl, _, rfl, r, _, 3, _, rfl, rfl, SqL.of hrow1, at_pos (by decide) e3, _, d3, c3, rfl, rfl, line_ge (by rw [lit_letters]; decide), by rw [lit_letters]; exact hc3, ?_⟩
        rw [cut_to _ p0]
        refine ⟨_, _, rfl, rfl, line_ge (by rw [slen, List.length_take]; show _ + 1 ≤ _; omega), _, rfl, _, rfl, _, _, rfl, rfl, _, rfl, _, rfl, sline (by omega), ?_⟩
        rw [cut_from _ (by omega), S_cat]
        refine ⟨_, _, rfl, rfl, line_ge (by rw [slen, slen, List.length_append, List.length_take, List.length_drop, List.length_singleton]; omega), ?_⟩
        rw [S_cat]
        exact ⟨_, _, _, rfl, ⟨⟨by rw [List.length_append, List.length_append, List.length_take, List.length_drop, List.length_singleton]; omega, by rw [List.length_append, List.length_append, List.length_take, List.length_drop, List.length_singleton]; omega⟩, mem_app (mem_app (fun c hc => mc c (List.mem_of_mem_take hc)) (mem_one hl3)) (fun c hc => mc c (List.mem_of_mem_drop hc))⟩, rfl⟩
      · exact ⟨n, none, none, rfl, hw, rfl⟩
    · exact ⟨_, rfl, ifF rfl ⟨n, none, none, rfl, hw, rfl⟩⟩
  rintro σ H3 ⟨n, v5, v6, rfl, hw, rfl⟩
  refine ⟨26, rfl, by decide, by decide, for_range (lo := 0) (n := 26)
    (fun i σ H' => ∃ (n : List Nat) (v : Option V), σ = [some (.ref r), some (.ref t), some (.str "abcdefghijklmnopqrstuvwxyz"), some (.ref pn), some (.str (S n)), v5, v6, v, none] ∧ Nm n ∧ Same H3 H' ∧ Srch d2 ts i n)
    ⟨n, none, rfl, hw, Same.refl _, .inl rfl⟩ ?_ ?_⟩
  · rintro i σ H4 hi ⟨m, v, rfl, hm, g4, hs⟩
    have ei : d2 + (0 + (i : Nat)) = d2 + (i : Nat) := by omega
    obtain ⟨hx, hlx⟩ := letter_is (j := (d2 + (0 + (i : Nat))) % 26) (Int.emod_nonneg _ (by decide)) (Int.emod_lt_of_pos _ (by decide))
    have hex : 97 + ((d2 + (0 + (i : Nat))) % 26).toNat = ex d2 i := by rw [ei]; rfl
    rw [hex] at hx hlx
    refine ⟨_, rfl, _, rfl, t, nmV ts, rfl, .inl (SqL.of (g4 _ _ ht1)), rfl, nm_flat ts, _, rfl, ?_⟩
    show (if inV (.str (S m)) (nmV ts) = true then _ else _)
    refine ite2 (fun c => ?_) (fun c => ?_)
    · have c1 := inV_names.mp c
      refine ⟨_, rfl, _, rfl, r, _, 2, _, rfl, rfl, SqL.of (g4 _ _ hrow1), at_pos (by decide) e2, _, rfl, _, _, rfl, rfl, .inl ⟨_, rfl, _, _, rfl, rfl, (by show (0 : Int) < 26; decide), ?_⟩⟩
      refine ⟨_, _, _, rfl, rfl, line_ge (by rw [lit_letters]; decide), by rw [lit_letters]; exact hx, ?_⟩
      refine ⟨[ex d2 i], _, rfl, ⟨⟨Nat.le_refl 1, by show 1 ≤ 8; decide⟩, mem_one hlx⟩, g4, .inr (.inr ⟨rfl, fun j hj => ?_⟩)⟩
      rcases hs with rfl | hs | ⟨rfl, hs⟩
      · omega
      · exact absurd c1 hs.1
      · by_cases e : j = i - 1
        · rw [e]; exact c1
        · exact hs j (by omega)
    have c1 : ¬ m ∈ ts := fun z => c (inV_names.mpr z)
    refine ⟨_, rfl, three_line, fun z hz => ?_⟩
    have g5 := g4.trans (same_new hz (.lst [V.str "thin", V.str "spare", V.str "base"]))
    refine ⟨z, _, rfl, .inl (SqL.of upd_same), rfl, rfl, _, rfl, ?_⟩
    show (if inV (.str (S m)) [V.str "thin", V.str "spare", V.str "base"] = true then _ else _)
    refine ite2 (fun c => ?_) (fun c => ?_)
    · refine ⟨_, rfl, _, rfl, r, _, 2, _, rfl, rfl, SqL.of (g5 _ _ hrow1), at_pos (by decide) e2, _, rfl, _, _, rfl, rfl, .inl ⟨_, rfl, _, _, rfl, rfl, (by show (0 : Int) < 26; decide), ?_⟩⟩
      refine ⟨_, _, _, rfl, rfl, line_ge (by rw [lit_letters]; decide), by rw [lit_letters]; exact hx, ?_⟩
      refine ⟨[ex d2 i], _, rfl, ⟨⟨Nat.le_refl 1, by show 1 ≤ 8; decide⟩, mem_one hlx⟩, g5, .inr (.inr ⟨rfl, fun j hj => ?_⟩)⟩
      rcases hs with rfl | hs | ⟨rfl, hs⟩
      · exact absurd hj (by omega)
      · exact absurd (c.symm.trans hs.2) (fun h => nomatch h)
      · exact absurd (c.symm.trans (one_not _ (ex_in _ _))) (fun h => nomatch h)
    · exact ⟨m, _, rfl, hm, g5, .inr (.inl ⟨c1, Bool.eq_false_iff.mpr c⟩)⟩
  · rintro σ H4 ⟨m, v, rfl, hm, g4, hs⟩
    exact ⟨_, rfl, q m H4 (g3.trans g4) hm (srch_end hts9 hs)⟩
end
end P64
/-! The law's levels: all products, in ascending order. -/
namespace P64
/-! ### all products of few factors -/
def addOne (st : List Fr × List Fr) (p : Fr) : List Fr × List Fr := if p ∈ st.1 then st else (st.1 ++ [p], st.2 ++ [p])
def prods (gs latest : List Fr) : List Fr := latest.flatMap fun x => gs.map (mulF x)
def turnF (gs : List Fr) (st : List Fr × List Fr) : List Fr × List Fr := (prods gs st.2).foldl addOne (st.1, [])
def bfs (gs : List Fr) : Nat → List Fr × List Fr
  | 0 => ([(1, 1)], [(1, 1)])
  | t + 1 => turnF gs (bfs gs t)
theorem add_spec : ∀ (ps a b : List Fr), let r := ps.foldl addOne (a, b)
    ∃ n : List Fr, r = (a ++ n, b ++ n) ∧ (∀ x ∈ n, x ∈ ps) ∧ (∀ x ∈ ps, x ∈ a ++ n) ∧ n.length ≤ ps.length ∧ (a.Nodup → (a ++ n).Nodup)
  | [], a, b => ⟨[], by simp, (fun x h => nomatch h), (fun x h => nomatch h), Nat.le_refl _, by simp⟩
  | p :: ps, a, b => by
    rw [List.foldl_cons]
    by_cases h : p ∈ a
    · have e : addOne (a, b) p = (a, b) := if_pos h
      rw [e]
      obtain ⟨n, h1, h2, h3, h4, h5⟩ := add_spec ps a b
      refine ⟨n, h1, fun x hx => List.mem_cons_of_mem _ (h2 x hx), fun x hx => ?_, by rw [List.length_cons]; omega, h5⟩
      rcases List.mem_cons.mp hx with rfl | hx
      · exact List.mem_append_left _ h
      · exact h3 x hx
    · have e : addOne (a, b) p = (a ++ [p], b ++ [p]) := if_neg h
      rw [e]
      obtain ⟨n, h1, h2, h3, h4, h5⟩ := add_spec ps (a ++ [p]) (b ++ [p])
      refine ⟨p :: n, ?_, fun x hx => ?_, fun x hx => ?_, by rw [List.length_cons, List.length_cons]; omega, fun hn => ?_⟩
      · rw [h1, List.append_assoc, List.append_assoc]
        rfl
      · rcases List.mem_cons.mp hx with rfl | hx
        · exact List.mem_cons_self
        · exact List.mem_cons_of_mem _ (h2 x hx)
      · rcases List.mem_cons.mp hx with rfl | hx
        · exact List.mem_append_right _ List.mem_cons_self
        · have := h3 x hx
          rw [List.append_assoc] at this
          exact this
      · have := h5 (List.nodup_append.mpr ⟨hn, by simp, fun x hx y hy => by rw [List.mem_singleton.mp hy]; exact fun z => h (by rw [← z]; exact hx)⟩)
        rw [List.append_assoc] at this
        exact this
theorem mem_prods {gs latest : List Fr} {x : Fr} : x ∈ prods gs latest ↔ ∃ y ∈ latest, ∃ g ∈ gs, x = mulF y g := by
  unfold prods
  simp only [List.mem_flatMap, List.mem_map]
  constructor
  · rintro ⟨y, hy, g, hg, rfl⟩
    exact ⟨y, hy, g, hg, rfl⟩
  · rintro ⟨y, hy, g, hg, rfl⟩
    exact ⟨y, hy, g, hg, rfl⟩
theorem prods_len (gs : List Fr) : ∀ l : List Fr, (prods gs l).length = l.length * gs.length
  | [] => by simp [prods]
  | x :: l => by
    have := prods_len gs l
    unfold prods at *
    rw [List.flatMap_cons, List.length_append, List.length_map, this, List.length_cons, Nat.succ_mul, Nat.add_comm]
structure Bf (gs : List Fr) (t : Nat) (st : List Fr × List Fr) : Prop where
  dep : ∀ x ∈ st.1, Dep gs t x
  sub : ∀ x ∈ st.2, x ∈ st.1
  cls : ∀ x ∈ st.1, x ∈ st.2 ∨ ∀ g ∈ gs, mulF x g ∈ st.1
  has : ∀ d x, d ≤ t → Dep gs d x → x ∈ st.1
  nd : st.1.Nodup
  l2 : st.2.length ≤ 3 ^ t
  l1 : st.1.length ≤ 3 ^ (t + 1)
theorem bfs_is {gs : List Fr} (h3 : gs.length ≤ 3) : ∀ t, Bf gs t (bfs gs t)
  | 0 => by
    refine ⟨fun x hx => ?_, fun x hx => hx, fun x hx => .inl hx, fun d x hd h => ?_, by simp [bfs], by simp [bfs], by simp [bfs]⟩
    · rw [List.mem_singleton.mp hx]; exact .one
    · cases h with
      | one => exact List.mem_singleton.mpr rfl
      | step _ _ => exact absurd hd (by omega)
  | t + 1 => by
    have ih := bfs_is h3 t
    show Bf gs (t + 1) (turnF gs (bfs gs t))
    generalize bfs gs t = st at ih
    obtain ⟨a, l⟩ := st
    unfold turnF
    obtain ⟨n, e, h1, h2, h4, h5⟩ := add_spec (prods gs l) a []
    have e : (prods gs l).foldl addOne (a, []) = (a ++ n, [] ++ n) := e
    show Bf gs (t + 1) ((prods gs l).foldl addOne (a, []))
    rw [e, List.nil_append]
    have ln : n.length ≤ 3 * 3 ^ t := by
      have := prods_len gs l
      have l2 := ih.l2
      have m := Nat.mul_le_mul l2 h3
      show _ ≤ _
      have l2' : l.length * gs.length ≤ 3 ^ t * 3 := m
      omega
    have prod : ∀ x ∈ l, ∀ g ∈ gs, mulF x g ∈ a ++ n := fun x hx g hg => h2 _ (mem_prods.mpr ⟨x, hx, g, hg, rfl⟩)
    refine ⟨fun x hx => ?_, fun x hx => List.mem_append_right _ hx, fun x hx => ?_, fun d x hd h => ?_, h5 ih.nd, ?_, ?_⟩
    · rcases List.mem_append.mp hx with hx | hx
      · exact (ih.dep x hx).mono (Nat.le_succ t)
      · obtain ⟨y, hy, g, hg, rfl⟩ := mem_prods.mp (h1 x hx)
        exact .step (ih.dep y (ih.sub y hy)) hg
    · rcases List.mem_append.mp hx with hx | hx
      · refine .inr fun g hg => ?_
        rcases ih.cls x hx with h | h
        · exact prod x h g hg
        · exact List.mem_append_left _ (h g hg)
      · exact .inl hx
    · cases h with
      | one => exact List.mem_append_left _ (ih.has 0 (1, 1) (Nat.zero_le _) .one)
      | @step d y g hy hg =>
        have hy' := ih.has d y (by omega) hy
        rcases ih.cls y hy' with h | h
        · exact prod y h g hg
        · exact List.mem_append_left _ (h g hg)
    · show n.length ≤ 3 ^ (t + 1)
      rw [Nat.pow_succ]
      omega
    · show (a ++ n).length ≤ 3 ^ (t + 1 + 1)
      have := ih.l1
      have this : a.length ≤ 3 ^ (t + 1) := this
      rw [List.length_append, Nat.pow_succ 3 (t + 1)]
      rw [Nat.pow_succ] at this ⊢
      omega
/-! ### in ascending order -/
def Lt (x y : Fr) : Prop := x.1 * y.2 < y.1 * x.2
instance (x y : Fr) : Decidable (Lt x y) := inferInstanceAs (Decidable (x.1 * y.2 < y.1 * x.2))
theorem lt_iff {x y : Fr} : Lt x y ↔ ¬ Le y x := by unfold Lt Le; omega
theorem Lt.trans {x y z : Fr} (hx : 0 < x.2) (hy : 0 < y.2) (hz : 0 < z.2) (h1 : Lt x y) (h2 : Lt y z) : Lt x z := by
  rw [lt_iff] at *
  intro h
  rcases Le.total y z with c | c
  · exact h1 (c.trans hy hz hx h)
  · exact h2 c
def belowL (x : Fr) (l : List Fr) : List Fr := l.filter fun o => decide (Lt o x)
def insF (l : List Fr) (x : Fr) : List Fr := l.take (belowL x l).length ++ [x] ++ l.drop (belowL x l).length
theorem below_split {x : Fr} (hx : 0 < x.2) : ∀ (l : List Fr), (∀ y ∈ l, 0 < y.2) → l.Pairwise Lt → (∀ y ∈ l.take (belowL x l).length, Lt y x) ∧ ∀ y ∈ l.drop (belowL x l).length, ¬ Lt y x
  | [], _, _ => ⟨by simp, by simp⟩
  | a :: l, hp, hs => by
    have ih := below_split hx l (fun y hy => hp y (List.mem_cons_of_mem _ hy)) (List.pairwise_cons.mp hs).2
    by_cases c : Lt a x
    · have e : belowL x (a :: l) = a :: belowL x l := by unfold belowL; rw [List.filter_cons, if_pos (decide_eq_true c)]
      rw [e, List.length_cons, List.take_succ_cons, List.drop_succ_cons]
      refine ⟨fun y hy => ?_, ih.2⟩
      rcases List.mem_cons.mp hy with rfl | hy
      · exact c
      · exact ih.1 y hy
    · have all : ∀ y ∈ a :: l, ¬ Lt y x := fun y hy => by
        rcases List.mem_cons.mp hy with rfl | hy
        · exact c
        · intro h
          exact c (((List.pairwise_cons.mp hs).1 y hy).trans (hp a List.mem_cons_self) (hp y (List.mem_cons_of_mem _ hy)) hx h)
      have e : belowL x (a :: l) = [] := by
        unfold belowL
        rw [List.filter_eq_nil_iff]
        intro y hy
        simp [all y hy]
      rw [e]
      exact ⟨by simp, by simpa using all⟩
theorem insF_mem {l : List Fr} {x y : Fr} : y ∈ insF l x ↔ y = x ∨ y ∈ l := by
  unfold insF
  rw [List.mem_append, List.mem_append, List.mem_singleton]
  have e : y ∈ l ↔ y ∈ l.take (belowL x l).length ∨ y ∈ l.drop (belowL x l).length := by
    rw [← List.mem_append, List.take_append_drop]
  rw [e]
  constructor
  · rintro ((h | h) | h)
    · exact .inr (.inl h)
    · exact .inl h
    · exact .inr (.inr h)
  · rintro (h | h | h)
    · exact .inl (.inr h)
    · exact .inl (.inl h)
    · exact .inr h
theorem insF_len (l : List Fr) (x : Fr) : (insF l x).length = l.length + 1 := by
  unfold insF
  rw [List.length_append, List.length_append, List.length_singleton, List.length_take, List.length_drop]
  omega
theorem insF_sorted {l : List Fr} {x : Fr} (hx : LowF x) (hl : ∀ y ∈ l, LowF y) (hn : ¬ x ∈ l) (hs : l.Pairwise Lt) : (insF l x).Pairwise Lt := by
  obtain ⟨h1, h2⟩ := below_split hx.bp l (fun y hy => (hl y hy).bp) hs
  have hs' := hs
  rw [← List.take_append_drop (belowL x l).length l, List.pairwise_append] at hs'
  obtain ⟨p1, p2, p3⟩ := hs'
  have gt : ∀ y ∈ l.drop (belowL x l).length, Lt x y := fun y hy => by
    have ym := List.mem_of_mem_drop hy
    rw [lt_iff]
    intro h
    have := h2 y hy
    rw [lt_iff] at this
    have e := le_antisymm (hl y ym) hx h (Decidable.not_not.mp this)
    exact hn (by rw [← e]; exact ym)
  unfold insF
  rw [List.append_assoc, List.pairwise_append]
  refine ⟨p1, ?_, fun a ha b hb => ?_⟩
  · exact List.pairwise_cons.mpr ⟨gt, p2⟩
  · rw [List.singleton_append] at hb
    rcases List.mem_cons.mp hb with rfl | hb
    · exact h1 a ha
    · exact p3 a ha b hb
def riseF (found : List Fr) : List Fr := found.foldl insF []
theorem rise_is' : ∀ (ys acc : List Fr), (∀ y ∈ ys, LowF y) → (∀ y ∈ acc, LowF y) → ys.Nodup → (∀ y ∈ ys, ¬ y ∈ acc) → acc.Pairwise Lt → (ys.foldl insF acc).Pairwise Lt ∧ ∀ y, y ∈ ys.foldl insF acc ↔ y ∈ acc ∨ y ∈ ys
  | [], acc, _, _, _, _, hs => ⟨hs, fun y => by simp⟩
  | x :: ys, acc, h1, h2, h3, h4, hs => by
    have hx := h1 x List.mem_cons_self
    have h3 := List.nodup_cons.mp h3
    have side : ∀ y ∈ ys, ¬ y ∈ insF acc x := fun y hy h => by
      rcases insF_mem.mp h with e | h
      · rw [e] at hy; exact h3.1 hy
      · exact h4 y (List.mem_cons_of_mem _ hy) h
    obtain ⟨r1, r2⟩ := rise_is' ys (insF acc x) (fun y hy => h1 y (List.mem_cons_of_mem _ hy)) (fun y hy => (insF_mem.mp hy).elim (fun e => by rw [e]; exact hx) (h2 y)) h3.2 side (insF_sorted hx h2 (h4 x List.mem_cons_self) hs)
    · refine ⟨r1, fun y => ?_⟩
      rw [List.foldl_cons, r2 y, insF_mem, List.mem_cons]
      constructor
      · rintro ((h | h) | h)
        · exact .inr (.inl h)
        · exact .inl h
        · exact .inr (.inr h)
      · rintro (h | h | h)
        · exact .inl (.inr h)
        · exact .inl (.inl h)
        · exact .inr h
theorem rise_len (found : List Fr) : (riseF found).length = found.length := by
  have go : ∀ ys acc : List Fr, (ys.foldl insF acc).length = acc.length + ys.length := fun ys => by
    induction ys with
    | nil => exact fun acc => rfl
    | cons x ys ih =>
      intro acc
      rw [List.foldl_cons, ih, insF_len, List.length_cons]
      omega
  have := go found []
  rw [List.length_nil, Nat.zero_add] at this
  exact this
theorem rise_is {found : List Fr} (h1 : ∀ y ∈ found, LowF y) (h2 : found.Nodup) : (riseF found).Pairwise Lt ∧ ∀ y, y ∈ riseF found ↔ y ∈ found := by
  obtain ⟨a, b⟩ := rise_is' found [] h1 (fun y h => nomatch h) h2 (fun y _ h => nomatch h) List.Pairwise.nil
  exact ⟨a, fun y => by rw [show riseF found = found.foldl insF [] from rfl, b y]; simp⟩
/-! ### the levels of the law -/
def levF (gs : List Fr) (m : Nat) : List Fr := riseF (bfs gs m).1
/-- what the factors are -/
structure GsOk (gs : List Fr) : Prop where
  low : ∀ g ∈ gs, LowF g
  one : ∀ g ∈ gs, Le (1, 1) g
  b : ∀ g ∈ gs, B 450 g.1 ∧ B 450 g.2
  l3 : gs.length ≤ 3
theorem Dep.one_le {gs : List Fr} (hg : GsOk gs) {d : Nat} {x : Fr} (h : Dep gs d x) : Le (1, 1) x := by
  induction h with
  | one => exact Le.refl _
  | @step d x g hx hgm ih =>
    have lx := hx.low hg.low
    have lg := hg.low g hgm
    rw [le_mulF lx.bp lg.bp]
    have a : 1 * x.2 ≤ x.1 * 1 := ih
    have b : 1 * g.2 ≤ g.1 * 1 := hg.one g hgm
    show 1 * (x.2 * g.2) ≤ x.1 * g.1 * 1
    rw [Int.one_mul, Int.mul_one]
    exact Int.mul_le_mul (by omega) (by omega) (Int.le_of_lt lg.bp) (Int.le_of_lt lx.tp)
theorem Dep.bnd {gs : List Fr} (hg : GsOk gs) {d : Nat} {x : Fr} (h : Dep gs d x) : B (450 * (d + 1)) x.1 ∧ B (450 * (d + 1)) x.2 := by
  induction h with
  | one => exact ⟨B.mono (m := 1) (by decide) (by omega), B.mono (m := 1) (by decide) (by omega)⟩
  | @step d x g hx hgm ih =>
    have lx := hx.low hg.low
    have lg := hg.low g hgm
    have g0 := gI_pos (t := x.1 * g.1) (Int.mul_pos lx.bp lg.bp)
    have b := hg.b g hgm
    exact ⟨((ih.1.mul b.1).mono (by omega)).div (Int.le_of_lt (Int.mul_pos lx.tp lg.tp)) g0, ((ih.2.mul b.2).mono (by omega)).div (Int.le_of_lt (Int.mul_pos lx.bp lg.bp)) g0⟩
/-- what the law's steps ask of a fraction -/
structure FrOk (x : Fr) : Prop where
  low : LowF x
  t : B 6000 x.1
  b : B 6000 x.2
theorem Dep.ok {gs : List Fr} (hg : GsOk gs) {d : Nat} {x : Fr} (h : Dep gs d x) (hd : d ≤ 5) : FrOk x := ⟨h.low hg.low, (h.bnd hg).1.mono (by omega), (h.bnd hg).2.mono (by omega)⟩
abbrev lev (l : List Fr) (t : Nat) : Fr := l.getD t (1, 1)
theorem lev_at {l : List Fr} {t : Nat} (h : t < l.length) : l[t]? = some (lev l t) := by
  unfold lev
  rw [List.getD_eq_getElem?_getD, List.getElem?_eq_getElem h]
  rfl
theorem lev_mem {l : List Fr} {t : Nat} (h : t < l.length) : lev l t ∈ l := List.mem_of_getElem? (lev_at h)
theorem lev_is {gs : List Fr} (hg : GsOk gs) (m : Nat) : Lv gs m (levF gs m).length (lev (levF gs m)) := by
  have bf := bfs_is hg.l3 m
  obtain ⟨hs, hm⟩ := rise_is (fun y hy => (bf.dep y hy).low hg.low) bf.nd
  have hd : ∀ t, t < (levF gs m).length → Dep gs m (lev (levF gs m) t) := fun t ht => bf.dep _ ((hm _).mp (lev_mem ht))
  have low := fun t ht => (hd t ht).low hg.low
  have lt : ∀ i j, i < j → j < (levF gs m).length → Lt (lev (levF gs m) i) (lev (levF gs m) j) := fun i j hij hj => by
    have h1 := lev_at (l := levF gs m) (t := i) (by omega)
    have h2 := lev_at hj
    have := List.pairwise_iff_getElem.mp hs i j (by show i < (levF gs m).length; omega) hj hij
    have e1 : (riseF (bfs gs m).1)[i]'(by show i < (levF gs m).length; omega) = lev (levF gs m) i := by
      rw [List.getElem?_eq_getElem (by omega)] at h1
      exact Option.some.inj h1
    have e2 : (riseF (bfs gs m).1)[j]'hj = lev (levF gs m) j := by
      rw [List.getElem?_eq_getElem hj] at h2
      exact Option.some.inj h2
    rw [e1, e2] at this
    exact this
  refine ⟨low, fun t ht => (hd t ht).one_le hg, fun i j hi hj => ⟨fun h => ?_, fun h => ?_⟩, fun d x hd' h => ?_⟩
  · rcases Nat.lt_or_ge j i with c | c
    · exact absurd h (lt_iff.mp (lt j i c hi))
    · exact c
  · rcases Nat.lt_or_eq_of_le h with c | c
    · have := lt i j c hj
      rw [lt_iff] at this
      rcases Le.total (lev (levF gs m) i) (lev (levF gs m) j) with e | e
      · exact e
      · exact absurd e this
    · rw [c]
      exact Le.refl _
  · have := (hm x).mpr (bf.has d x hd' h)
    obtain ⟨t, ht, e⟩ := List.getElem_of_mem this
    refine ⟨t, ht, ?_⟩
    have h1 := lev_at (l := levF gs m) ht
    have h2 : (levF gs m)[t]? = some x := by rw [← e]; exact List.getElem?_eq_getElem ht
    rw [h2] at h1
    exact (Option.some.inj h1).symm
theorem lev_ok {gs : List Fr} (hg : GsOk gs) {m : Nat} (h5 : m ≤ 5) : ∀ x ∈ levF gs m, FrOk x := fun x hx => by
  have bf := bfs_is hg.l3 m
  obtain ⟨_, hm⟩ := rise_is (fun y hy => (bf.dep y hy).low hg.low) bf.nd
  exact (bf.dep x ((hm x).mp hx)).ok hg h5
theorem lev_len {gs : List Fr} (hg : GsOk gs) {m : Nat} (h5 : m ≤ 5) : (levF gs m).length ≤ 729 := by
  have := (bfs_is hg.l3 m).l1
  have e : (3 : Nat) ^ (m + 1) ≤ 3 ^ 6 := Nat.pow_le_pow_right (by decide) (by omega)
  show (riseF _).length ≤ _
  rw [rise_len]
  have : (3 : Nat) ^ 6 = 729 := by decide
  omega
theorem gs_ok {ks : List Int} (h : ∀ k ∈ ks, 2 ≤ k ∧ k ≤ 10) (h3 : ks.length ≤ 3) : GsOk (ks.map gF) := by
  have one : ∀ k : Int, 2 ≤ k → k ≤ 10 → Le (1, 1) (gF k) := fun k a b => by
    have : k = 2 ∨ k = 3 ∨ k = 4 ∨ k = 5 ∨ k = 6 ∨ k = 7 ∨ k = 8 ∨ k = 9 ∨ k = 10 := by omega
    rcases this with rfl | rfl | rfl | rfl | rfl | rfl | rfl | rfl | rfl <;> decide +kernel
  refine ⟨fun g hg => ?_, fun g hg => ?_, fun g hg => ?_, by rw [List.length_map]; exact h3⟩
  · obtain ⟨k, hk, rfl⟩ := List.mem_map.mp hg
    obtain ⟨p1, p2, _⟩ := grade_ok (h k hk).1 (h k hk).2
    exact low_of p1 p2
  · obtain ⟨k, hk, rfl⟩ := List.mem_map.mp hg
    exact one k (h k hk).1 (h k hk).2
  · obtain ⟨k, hk, rfl⟩ := List.mem_map.mp hg
    obtain ⟨p1, p2, q1, q2⟩ := grade_ok (h k hk).1 (h k hk).2
    have g := gI_pos (t := gradeT k) p2
    exact ⟨(B_small (by omega) q1).div (by omega) g, (B_small (by omega) q2).div (by omega) g⟩
end P64
namespace P64
open PySem PySem.Spec PyProof.Rows L2 SX EX WK
theorem units65 {k : Nat} {A : Around} (r : Room k A) : A.units + 65 < cLine := by have := r.un; omega
/-! ### lists of fractions in the heap -/
def FrP (H : Hp) (p : Addr) (x : Fr) : Prop := FrAt H p x.1 x.2
def FrL (H : Hp) (vs : List V) (xs : List Fr) : Prop := ∃ ps : List Addr, vs = ps.map V.ref ∧ Paired (FrP H) ps xs
def FrsAt (H : Hp) (p : Addr) (xs : List Fr) : Prop := ∃ vs, H p = some (.lst vs) ∧ FrL H vs xs
theorem FrP.sameT {H H' : Hp} {p : Addr} {x : Fr} (z : SameT H H') (h : FrP H p x) : FrP H' p x := z _ _ h
theorem FrL.nil {H : Hp} : FrL H [] [] := ⟨[], rfl, .nil⟩
theorem FrL.sameT {H H' : Hp} {vs : List V} {xs : List Fr} (z : SameT H H') (h : FrL H vs xs) : FrL H' vs xs := let ⟨ps, h1, h2⟩ := h; ⟨ps, h1, L2.Paired.mapP h2 fun _ _ => FrP.sameT z⟩
theorem FrL.same {H H' : Hp} {vs : List V} {xs : List Fr} (z : Same H H') (h : FrL H vs xs) : FrL H' vs xs := h.sameT (SameT.of z)
theorem FrsAt.same {H H' : Hp} {p : Addr} {xs : List Fr} (z : Same H H') (h : FrsAt H p xs) : FrsAt H' p xs := let ⟨vs, h1, h2⟩ := h; ⟨vs, z _ _ h1, h2.same z⟩
theorem FrL.len {H : Hp} {vs : List V} {xs : List Fr} (h : FrL H vs xs) : vs.length = xs.length := by
  obtain ⟨ps, rfl, h2⟩ := h
  rw [List.length_map, Paired.len h2]
theorem FrL.app {H : Hp} {vs ws : List V} {xs ys : List Fr} (h : FrL H vs xs) (g : FrL H ws ys) : FrL H (vs ++ ws) (xs ++ ys) := by
  obtain ⟨bs, rfl, h2⟩ := h
  obtain ⟨cs, rfl, g2⟩ := g
  exact ⟨bs ++ cs, List.map_append.symm, Paired.app h2 g2⟩
theorem FrL.one {H : Hp} {p : Addr} {x : Fr} (h : FrP H p x) : FrL H [.ref p] [x] := ⟨[p], rfl, .cons h .nil⟩
theorem FrL.at {H : Hp} {vs : List V} {xs : List Fr} {i : Nat} {v : V} (h : FrL H vs xs) (hx : vs[i]? = some v) : ∃ p x, v = .ref p ∧ xs[i]? = some x ∧ FrP H p x := by
  obtain ⟨bs, rfl, h2⟩ := h
  have hi : i < xs.length := by
    have := (List.getElem?_eq_some_iff.mp hx).1
    rw [List.length_map, Paired.len h2] at this
    exact this
  have he : xs[i]? = some xs[i] := List.getElem?_eq_getElem hi
  obtain ⟨p, hp, hpe⟩ := Paired.at h2 he
  rw [List.getElem?_map, hp] at hx
  exact ⟨p, xs[i], (Option.some.inj hx).symm, he, hpe⟩
theorem FrL.at' {H : Hp} {vs : List V} {xs : List Fr} {i : Nat} {x : Fr} (h : FrL H vs xs) (he : xs[i]? = some x) : ∃ p, vs[i]? = some (.ref p) ∧ FrP H p x := by
  obtain ⟨bs, rfl, h2⟩ := h
  obtain ⟨p, hp, hpe⟩ := Paired.at h2 he
  exact ⟨p, by rw [List.getElem?_map, hp]; rfl, hpe⟩
theorem Paired.take' {α β : Type} {F : α → β → Prop} : ∀ {as : List α} {bs : List β} (k : Nat), Paired F as bs → Paired F (as.take k) (bs.take k)
  | _, _, 0, _ => .nil
  | _, _, _ + 1, .nil => .nil
  | _, _, k + 1, .cons r t => .cons r (Paired.take' k t)
theorem Paired.drop' {α β : Type} {F : α → β → Prop} : ∀ {as : List α} {bs : List β} (k : Nat), Paired F as bs → Paired F (as.drop k) (bs.drop k)
  | _, _, 0, h => h
  | _, _, _ + 1, .nil => .nil
  | _, _, k + 1, .cons _ t => Paired.drop' k t
theorem FrL.take {H : Hp} {vs : List V} {xs : List Fr} (k : Nat) (h : FrL H vs xs) : FrL H (vs.take k) (xs.take k) := by
  obtain ⟨bs, rfl, h2⟩ := h
  exact ⟨bs.take k, List.map_take.symm, Paired.take' k h2⟩
theorem FrL.drop {H : Hp} {vs : List V} {xs : List Fr} (k : Nat) (h : FrL H vs xs) : FrL H (vs.drop k) (xs.drop k) := by
  obtain ⟨bs, rfl, h2⟩ := h
  exact ⟨bs.drop k, List.map_drop.symm, Paired.drop' k h2⟩
def RF : Hp → V → Fr → Prop := fun H v x => ∃ p, v = .ref p ∧ FrP H p x
theorem stb_RF {D : Addr} : StbD D RF := fun _ _ _ _ hD e ⟨p, h1, h2⟩ => ⟨p, h1, h2.sameT (sameT_D hD e)⟩
theorem Rs.frs {H : Hp} : ∀ {vs : List V} {es : List Fr}, Rs RF H vs es → FrL H vs es
  | [], [], _ => FrL.nil
  | [], _ :: _, h => by have := h.1; simp at this
  | _ :: _, [], h => by have := h.1; simp at this
  | v :: vs, e :: es, h => by
    obtain ⟨bs, h1, h2⟩ := Rs.frs (vs := vs) (es := es) ⟨by have := h.1; simp at this; exact this, fun i u z hu hz => h.2 (i + 1) u z hu hz⟩
    obtain ⟨p, rfl, hp⟩ := h.2 0 v e rfl rfl
    exact ⟨p :: bs, by rw [h1]; rfl, .cons hp h2⟩
theorem filt_fr (l : List Fr) (p : Fr → Bool) : (l.filterMap fun o => if p o = true then some o else none) = l.filter p := by
  induction l with
  | nil => rfl
  | cons a l ih =>
    rw [List.filterMap_cons, List.filter_cons]
    by_cases h : p a = true
    · rw [if_pos h, if_pos h, ih]
    · rw [if_neg h, if_neg h, ih]
abbrev frD (x : Fr) : PyData := .tuple [.int x.1, .int x.2]
theorem dp_fr {K : PySem.W.Frag} {H : Hp} {p : Addr} {x : Fr} (h : FrP H p x) : Dp K H (.ref p) (frD x) := .tup (SqT.of h) (.cons (.int _) (.cons (.int _) .nil))
theorem dp_frs {K : PySem.W.Frag} {H : Hp} {vs : List V} {xs : List Fr} (h : FrL H vs xs) : DpAll K H vs (xs.map frD) := by
  obtain ⟨bs, rfl, h2⟩ := h
  induction h2 with
  | nil => exact .nil
  | cons r _ ih => exact .cons (dp_fr r) ih
theorem frs_lay : ∀ xs : List Fr, PyData.canLayAll0 (xs.map frD) = true
  | [] => rfl
  | x :: xs => by
    rw [List.map_cons, PyData.canLayAll0, frs_lay xs]
    rfl
theorem frs_dep : ∀ xs : List Fr, PyData.depthAll (xs.map frD) ≤ 1
  | [] => Nat.zero_le _
  | x :: xs => by
    have h := frs_dep xs
    rw [List.map_cons]
    simp only [PyData.depthAll, PyData.depth]
    omega
theorem frs_shaped (xs : List Fr) : SeqAt.shaped (.list (xs.map frD)) = true := by
  have h1 : (PyData.list (xs.map frD)).canLay0 = true := by rw [PyData.canLay0]; exact frs_lay xs
  have h2 : (PyData.list (xs.map frD)).depth ≤ 64 := by
    have := frs_dep xs
    simp only [PyData.depth]
    omega
  unfold SeqAt.shaped
  rw [h1, decide_eq_true h2]
  rfl
theorem fr_shaped (x : Fr) : SeqAt.shaped (frD x) = true := by
  have h1 : (frD x).canLay0 = true := rfl
  have h2 : (frD x).depth ≤ 64 := by simp [frD, PyData.depth, PyData.depthAll]
  unfold SeqAt.shaped
  rw [h1, decide_eq_true h2]
  rfl
theorem eqv_fr (x y : Fr) : PyData.eqv (frD x) (frD y) = decide (x = y) := by
  have e : PyData.eqv (frD x) (frD y) = ((x.1 == y.1) && ((x.2 == y.2) && true)) := rfl
  rw [e, Bool.and_true]
  by_cases h : x = y
  · subst h
    rw [decide_eq_true rfl]
    simp
  · rw [decide_eq_false h]
    have : ¬ (x.1 = y.1 ∧ x.2 = y.2) := fun z => h (Prod.ext z.1 z.2)
    simpa using this
theorem any_fr (xs : List Fr) (x : Fr) : ((xs.map frD).any fun z => PyData.eqv z (frD x)) = decide (x ∈ xs) := by
  induction xs with
  | nil => rfl
  | cons y xs ih =>
    rw [List.map_cons, List.any_cons, ih, eqv_fr]
    by_cases h : y = x
    · rw [decide_eq_true h, decide_eq_true (show x ∈ y :: xs by rw [h]; exact List.mem_cons_self)]
      rfl
    · rw [decide_eq_false h, Bool.false_or]
      exact decide_eq_decide.mpr ⟨List.mem_cons_of_mem _, fun z => (List.mem_cons.mp z).elim (fun e => absurd e.symm h) id⟩
theorem cutV_to (xs : List V) {k : Int} (h0 : 0 ≤ k) : cutV xs none (some k) = xs.take k.toNat := by
  obtain ⟨n, rfl⟩ : ∃ n : Nat, k = (n : Int) := ⟨k.toNat, by omega⟩
  unfold cutV
  rw [HT.sIx_none, HT.sIx_nat, List.drop_zero, Nat.sub_zero]
  rcases Nat.le_total n xs.length with h | h
  · rw [Nat.min_eq_left h]; rfl
  · rw [Nat.min_eq_right h, List.take_of_length_le (Nat.le_refl _), List.take_of_length_le (by show _ ≤ n; exact h)]
theorem cutV_from (xs : List V) {k : Int} (h0 : 0 ≤ k) : cutV xs (some k) none = xs.drop k.toNat := by
  obtain ⟨n, rfl⟩ : ∃ n : Nat, k = (n : Int) := ⟨k.toNat, by omega⟩
  unfold cutV
  rw [HT.sIx_none, HT.sIx_nat]
  rcases Nat.le_total n xs.length with h | h
  · rw [Nat.min_eq_left h, List.take_of_length_le (by rw [List.length_drop]; exact Nat.le_refl _)]; rfl
  · rw [Nat.min_eq_right h, List.drop_of_length_le (Nat.le_refl _), List.drop_of_length_le (by show _ ≤ n; exact h), List.take_nil]
section
variable {P : Program} {w : World} {K : PySem.W.Frag} {mg : Str → Option Value} {base : Heap} {f : Addr} {fd : FuncData}
/-! ### _law_shrunk -/
def spShrunk : Sp := fun vs H Q _ => ∃ size x k : Int, vs = [.int size, .int x, .int k] ∧ 2 ≤ k ∧ k ≤ 10 ∧ Q (.int (shr size k x)) H
abbrev s__law_shrunk : Stmt := top 31
abbrev N__law_shrunk : List Str := ["size", "number", "kind"]
theorem sc__law_shrunk : FnScope N__law_shrunk ["size", "number", "kind"] (defScope s__law_shrunk) := ⟨rfl, rfl, rfl, by decide +kernel, rfl, by decide +kernel, by decide +kernel⟩
theorem ok__law_shrunk (F : Fun K "_law_shrunk" "_law_shrunk" s__law_shrunk f fd) (T : Txt mg) : FnOk P w K mg base CX0 1 f fd ["size", "number", "kind"] spShrunk := by
  refine F.ok sc__law_shrunk (fun vs H Q E h => ?_) (fun cdv A outer s H vs Q E hr h => ?_)
  · obtain ⟨size, x, k, rfl, _⟩ := h
    rfl
  obtain ⟨size, x, k, rfl, h2, h10, q⟩ := h
  refine ⟨_, (pss_one (ps_ret (pe_callB (call_min2 rfl) (by rfl) T.b_min (by decide +kernel) (pa_cons (pv 1) (pa_cons (pe_op op_mul (pe_op op_mul (pv 2) (pv 2)) (pe_callB (call_min2 rfl) (by rfl) T.b_min (by decide +kernel) (pa_cons (pv 0) (pa_cons (pv 1) pa_nil)))) pa_nil))))), ?_⟩
  obtain ⟨s1, s2⟩ := kk_small h2 h10
  exact ⟨_, rfl, _, rfl, _, rfl, _, _, rfl, rfl, small_mul (by omega) (by omega), _, rfl, _, rfl, _, _, rfl, _, _, rfl, rfl, small_mul s1 s2, _, _, rfl, q⟩
/-! ### _law_levels -/
def spLevels : Sp := fun vs H Q _ => ∃ (p : Addr) (gs : List Fr) (m : Nat), vs = [.ref p, .int (m : Int)] ∧ FrsAt H p gs ∧ GsOk gs ∧ m ≤ 5 ∧ ∀ r H', Same H H' → FrsAt H' r (levF gs m) → Q (.ref r) H'
abbrev s__law_levels : Stmt := top 32
abbrev N__law_levels : List Str := ["factors", "many", "found", "latest", "turn", "further", "level", "factor", "product", "rising", "place", "other"]
theorem sc__law_levels : FnScope N__law_levels ["factors", "many"] (defScope s__law_levels) := ⟨rfl, rfl, rfl, by decide +kernel, rfl, by decide +kernel, by decide +kernel⟩
theorem ok__law_levels (F : Fun K "_law_levels" "_law_levels" s__law_levels f fd) (T : Txt mg) (C__law_times : Cal P w K mg base 3 "_law_times" ["one", "two"] spTimes) (C__law_below : Cal P w K mg base 1 "_law_below" ["one", "two"] spBelow) : FnOk P w K mg base CX0 4 f fd ["factors", "many"] spLevels := by
  refine F.ok sc__law_levels (fun vs H Q E h => ?_) (fun cdv A outer s H vs Q E hr h => ?_)
  · obtain ⟨p, gs, m, rfl, _⟩ := h
    rfl
  obtain ⟨p, gs, m, rfl, ⟨gv, hp, hgs⟩, go, h5, q⟩ := h
  refine ⟨_, (pss_cons (ps_set (i := 2) sc__law_levels.nd rfl (Or.inl rfl) (pe_lst (pa_cons (pe_tup (pa_cons pe_int (pa_cons pe_int pa_nil))) pa_nil)))
  (pss_cons (ps_set (i := 3) sc__law_levels.nd rfl (Or.inl rfl) (pe_lst (pa_cons (pe_tup (pa_cons pe_int (pa_cons pe_int pa_nil))) pa_nil)))
  (pss_cons (ps_for PassesOwn.never rfl (pi_range1 (by rfl) T.b_range (pa_cons (pv 1) pa_nil)) (pg_name (i := 4) sc__law_levels.nd rfl (Or.inl rfl)) (pss_cons (ps_set (i := 5) sc__law_levels.nd rfl (Or.inl rfl) (pe_lst pa_nil))
  (pss_cons (ps_for PassesOwn.never rfl (pi_list (pe_callTy call_list_of (by rfl) T.b_list (by decide +kernel) (pa_cons (pv 3) pa_nil))) (pg_name (i := 6) sc__law_levels.nd rfl (Or.inr rfl)) (pss_one (ps_for PassesOwn.never rfl (pi_list (pv 0)) (pg_name (i := 7) sc__law_levels.nd rfl (Or.inl rfl)) (pss_cons (ps_set (i := 8) sc__law_levels.nd rfl (Or.inl rfl) (pe_cal C__law_times (hr.mono (by omega)) rfl (pa_cons (pv 6) (pa_cons (pv 7) pa_nil))))
  (pss_one (ps_if (pt_cmpR (op_notInD (units65 hr)) (pv 8) (pv 2) (by rfl)) (pss_cons (ps_expr (pe_bm PySem.F.plainAttrs_list PySem.F.slot_list_append PySem.F.type_list_append mt_append (pv 2) (pa_cons (pv 8) pa_nil)))
  (pss_one (ps_expr (pe_bm PySem.F.plainAttrs_list PySem.F.slot_list_append PySem.F.type_list_append mt_append (pv 5) (pa_cons (pv 8) pa_nil))))) pss_nil))))))
  (pss_one (ps_set (i := 3) sc__law_levels.nd rfl (Or.inl rfl) (pv 5))))))
  (pss_cons (ps_set (i := 9) sc__law_levels.nd rfl (Or.inl rfl) (pe_lst pa_nil))
  (pss_cons (ps_for PassesOwn.never rfl (pi_list (pv 2)) (pg_name (i := 6) sc__law_levels.nd rfl (Or.inr rfl)) (pss_cons (ps_set (i := 10) sc__law_levels.nd rfl (Or.inl rfl) (pe_callB call_len_seq (by rfl) T.b_len PySem.boot_len (pa_cons (pe_lc (own := [("other", 11)]) (g := gName 11) (by rfl) sc__law_levels.nd (pi_list (pv 9)) (blkOk_by (N := N__law_levels) (sc := defScope s__law_levels) (by decide +kernel)) (fun _ _ _ _ _ => (pg_name (i := 11) sc__law_levels.nd rfl (Or.inl rfl))) (fun _ _ _ _ _ => (pts_one (pt_val (pe_cal C__law_below (hr.mono (by omega)) rfl (pa_cons (pv 11) (pa_cons (pv 6) pa_nil)))))) (fun _ _ _ _ _ => (pv 11))) pa_nil)))
  (pss_one (ps_set (i := 9) sc__law_levels.nd rfl (Or.inl rfl) (pe_op op_cat (pe_op op_cat (pe_slice sl_list (pv 9) po_none (po_some (pv 10))) (pe_lst (pa_cons (pv 6) pa_nil))) (pe_slice sl_list (pv 9) (po_some (pv 10)) po_none))))))
  (pss_one (ps_ret (pv 9)))))))), ?_⟩
  refine ⟨two_line, fun c1 hc1 => ⟨line_ge (by show 1 ≤ 100000; decide), fun r hr0 => ?_⟩⟩
  have a1 := same_new hc1 (.tup [V.int 1, V.int 1])
  have a2 := same_new hr0 (.lst [V.ref c1])
  have k1 : FrP (upd (upd H c1 (.tup [V.int 1, V.int 1])) r (.lst [V.ref c1])) c1 (1, 1) := a2 _ _ upd_same
  have kr : (upd (upd H c1 (.tup [V.int 1, V.int 1])) r (.lst [V.ref c1])) r = some (.lst [V.ref c1]) := upd_same
  have nr : H r = none := by
    cases e : H r with
    | none => rfl
    | some u => have := a1 _ _ e; rw [hr0] at this; cases this
  have a12 := a1.trans a2
  generalize upd (upd H c1 (.tup [V.int 1, V.int 1])) r (.lst [V.ref c1]) = H1 at a12 k1 kr
  refine ⟨two_line, fun c2 hc2 => ⟨line_ge (by show 1 ≤ 100000; decide), fun l0 hl0 => ?_⟩⟩
  have b1 := same_new hc2 (.tup [V.int 1, V.int 1])
  have b2 := same_new hl0 (.lst [V.ref c2])
  have k2 : FrP (upd (upd H1 c2 (.tup [V.int 1, V.int 1])) l0 (.lst [V.ref c2])) c2 (1, 1) := b2 _ _ upd_same
  have kl : (upd (upd H1 c2 (.tup [V.int 1, V.int 1])) l0 (.lst [V.ref c2])) l0 = some (.lst [V.ref c2]) := upd_same
  have nl : l0 ≠ r := fun e => by rw [e, b1 _ _ kr] at hl0; cases hl0
  have b12 := b1.trans b2
  generalize upd (upd H1 c2 (.tup [V.int 1, V.int 1])) l0 (.lst [V.ref c2]) = H2 at b12 k2 kl
  have gl := hgs.len
  refine ⟨_, rfl, (m : Int), rfl, by omega, by omega, for_range (lo := 0) (n := ((m : Nat) : Int).toNat) (fun t σ H' => ∃ (l : Addr) (v4 v5 v6 v7 v8 : Option V), σ = [some (.ref p), some (.int (m : Int)), some (.ref r), some (.ref l), v4, v5, v6, v7, v8, none, none, none] ∧ Same H H' ∧ l ≠ r ∧ FrsAt H' r (bfs gs t).1 ∧ FrsAt H' l (bfs gs t).2) ⟨l0, none, none, none, none, none, rfl, a12.trans b12, nl, ⟨_, b12 _ _ kr, .one (k1.sameT (SameT.of b12))⟩, _, kl, .one k2⟩ ?_ ?_⟩
  · rintro t σ H3 ht ⟨l, v4, v5, v6, v7, v8, rfl, g1, nlr, ⟨ws, hr1, hw⟩, ⟨us, hl1, hu⟩⟩
    have ht : t < m := by omega
    have bf := bfs_is go.l3 t
    have bs : bfs gs (t + 1) = turnF gs (bfs gs t) := rfl
    rw [bs]
    generalize bfs gs t = st at hw hu bf
    obtain ⟨a, la⟩ := st
    have hw : FrL H3 ws a := hw
    have hu : FrL H3 us la := hu
    refine ⟨Nat.zero_le _, fun q1 hq1 => ?_⟩
    have c1 := same_new hq1 (.lst [])
    refine ⟨_, rfl, l, us, rfl, .inl (SqL.of (c1 _ _ hl1)), fun z hz => ?_⟩
    have c2 := same_new hz (.lst us)
    have nqr : q1 ≠ r := fun e => by rw [e, hr1] at hq1; cases hq1
    have nzr : z ≠ r := fun e => by rw [e, c1 _ _ hr1] at hz; cases hz
    have nzq : z ≠ q1 := fun e => by rw [e, upd_same] at hz; cases hz
    have nq : H q1 = none := by
      cases e : H q1 with
      | none => rfl
      | some u => have := g1 _ _ e; rw [hq1] at this; cases this
    have hqq : (upd (upd H3 q1 (.lst [])) z (.lst us)) q1 = some (.lst []) := c2 _ _ upd_same
    have hzz : (upd (upd H3 q1 (.lst [])) z (.lst us)) z = some (.lst us) := upd_same
    have c12 := c1.trans c2
    have hr2 := c12 _ _ hr1
    have hw2 := hw.same c12
    have hu2 := hu.same c12
    generalize upd (upd H3 q1 (.lst [])) z (.lst us) = H4 at c12 hqq hzz hr2 hw2 hu2
    have ul := hu.len
    have wl := hw.len
    have b2 : la.length ≤ 3 ^ t := bf.l2
    have b1 : a.length ≤ 3 ^ (t + 1) := bf.l1
    have p4 : (3 : Nat) ^ t ≤ 3 ^ 4 := Nat.pow_le_pow_right (by decide) (by omega)
    have p5 : (3 : Nat) ^ (t + 1) ≤ 3 ^ 5 := Nat.pow_le_pow_right (by decide) (by omega)
    have e4 : (3 : Nat) ^ 4 = 81 := by decide
    have e5 : (3 : Nat) ^ 5 = 243 := by decide
    have g3 := go.l3
    have depl : ∀ x ∈ la, Dep gs t x := fun x hx => bf.dep x (bf.sub x hx)
    refine ⟨z, rfl, ⟨_, SqL.of hzz⟩, for_list (K := K) (a := z) (xs := us) (fun i σ H' => ∃ (v6 v7 v8 : Option V), σ = [some (.ref p), some (.int (m : Int)), some (.ref r), some (.ref l), some (.int (0 + (t : Nat))), some (.ref q1), v6, v7, v8, none, none, none] ∧ Same H H' ∧ H' z = some (.lst us) ∧ FrL H' us la ∧ FrsAt H' r ((prods gs (la.take i)).foldl addOne (a, [])).1 ∧ FrsAt H' q1 ((prods gs (la.take i)).foldl addOne (a, [])).2)
      ⟨v6, v7, v8, rfl, g1.trans c12, hzz, hu2, ⟨_, hr2, hw2⟩, _, hqq, FrL.nil⟩ (fun i σ H' _ ⟨_, _, _, _, _, e, _⟩ => SqL.of e) ?_ ?_⟩
    · rintro i y σ H5 hy ⟨v6, v7, v8, rfl, g2, hz5, hu5, hf5, hq5⟩
      obtain ⟨px, x, rfl, hx, hpx⟩ := hu5.at hy
      have dx := depl x (List.mem_of_getElem? hx)
      have okx := dx.ok go (by omega)
      have hi : i < la.length := (List.getElem?_eq_some_iff.mp hx).1
      have pe : prods gs (la.take (i + 1)) = prods gs (la.take i) ++ gs.map (mulF x) := by
        unfold prods
        rw [take_snoc hx, List.flatMap_append, List.flatMap_cons, List.flatMap_nil, List.append_nil]
      rw [pe]
      have pl : (prods gs (la.take i)).length ≤ 81 * 3 := by
        rw [prods_len, List.length_take]
        exact Nat.mul_le_mul (by omega) g3
      generalize prods gs (la.take i) = pp at hf5 hq5 pl
      refine ⟨_, rfl, p, rfl, ⟨_, SqL.of (g2 _ _ hp)⟩, for_list (K := K) (a := p) (xs := gv) (fun j σ H' => ∃ (v7 v8 : Option V), σ = [some (.ref p), some (.int (m : Int)), some (.ref r), some (.ref l), some (.int (0 + (t : Nat))), some (.ref q1), some (.ref px), v7, v8, none, none, none] ∧ Same H H' ∧ H' z = some (.lst us) ∧ FrL H' us la ∧ FrP H' px x ∧ FrsAt H' r ((pp ++ (gs.take j).map (mulF x)).foldl addOne (a, [])).1 ∧ FrsAt H' q1 ((pp ++ (gs.take j).map (mulF x)).foldl addOne (a, [])).2)
        ⟨v7, v8, rfl, g2, hz5, hu5, hpx, by rw [List.take_zero, List.map_nil, List.append_nil]; exact hf5, by rw [List.take_zero, List.map_nil, List.append_nil]; exact hq5⟩ (fun i σ H' _ ⟨_, _, _, g, _⟩ => SqL.of (g _ _ hp)) ?_ ?_⟩
      · rintro j y σ H6 hy ⟨v7, v8, rfl, g3', hz6, hu6, hpx6, ⟨w6, hr6, hw6⟩, ⟨n6, hq6, hn6⟩⟩
        obtain ⟨pg, g, rfl, hg, hpg⟩ := (hgs.same g3').at hy
        have gm := List.mem_of_getElem? hg
        have lg := go.low g gm
        obtain ⟨gb1, gb2⟩ := go.b g gm
        have tm : (gs.take (j + 1)).map (mulF x) = (gs.take j).map (mulF x) ++ [mulF x g] := by rw [take_snoc hg, List.map_append]; rfl
        rw [tm, ← List.append_assoc, List.foldl_append]
        have ln : (pp ++ (gs.take j).map (mulF x)).length ≤ 81 * 3 + 3 := by
          rw [List.length_append, List.length_map, List.length_take]
          omega
        obtain ⟨nn, en, _, _, n4, _⟩ := add_spec (pp ++ (gs.take j).map (mulF x)) a []
        have en : (pp ++ (gs.take j).map (mulF x)).foldl addOne (a, []) = (a ++ nn, [] ++ nn) := en
        rw [en, List.nil_append] at hw6 hn6 ⊢
        have hw6 : FrL H6 w6 (a ++ nn) := hw6
        have hn6 : FrL H6 n6 nn := hn6
        have l6 := hw6.len
        have l7 := hn6.len
        rw [List.length_append] at l6
        refine ⟨_, rfl, _, rfl, px, pg, x.1, x.2, g.1, g.2, rfl, hpx6, hpg, okx.low.tp, okx.low.bp, lg.tp, lg.bp, okx.t, okx.b, gb1, gb2, fun pr H7 g7 hpr => ?_⟩
        have hpr : FrP H7 pr (mulF x g) := hpr
        have hr7 := g7 _ _ hr6
        have hq7 := g7 _ _ hq6
        have hw7 := hw6.same g7
        have hn7 := hn6.same g7
        refine ⟨_, rfl, _, rfl, frD (mulF x g), _, dp_fr hpr, .lst (SqL.of hr7) (dp_frs hw7), fr_shaped _, frs_shaped _, _, rfl, ?_⟩
        rw [any_fr]
        refine ite2 (fun c => ?_) (fun c => ?_)
        · have cn : ¬ mulF x g ∈ a ++ nn := by simpa using c
          refine ⟨_, rfl, .inl ⟨rfl, _, SqL.of hr7⟩, _, rfl, r, w6, _, rfl, rfl, hr7, small1000 (by omega), ?_⟩
          have hq8 : (upd H7 r (.lst (w6 ++ [V.ref pr]))) q1 = some (.lst n6) := by rw [upd_ne nqr]; exact hq7
          refine ⟨_, rfl, .inl ⟨rfl, _, SqL.of hq8⟩, _, rfl, q1, n6, _, rfl, rfl, hq8, small1000 (by omega), ?_⟩
          have t8 : SameT H7 (upd (upd H7 r (.lst (w6 ++ [V.ref pr]))) q1 (.lst (n6 ++ [V.ref pr]))) := (sameT_lst hr7 _).trans (sameT_lst hq8 _)
          have t68 := (SameT.of g7).trans t8
          have e1 : [mulF x g].foldl addOne (a ++ nn, nn) = (a ++ nn ++ [mulF x g], nn ++ [mulF x g]) := if_neg cn
          rw [e1]
          refine ⟨_, _, rfl, same_at (same_at (g3'.trans g7) nr) nq, ?_, hu6.sameT t68, hpx6.sameT t68, ⟨_, by rw [upd_ne nqr.symm]; exact upd_same, (hw7.sameT t8).app (.one (hpr.sameT t8))⟩, _, upd_same, (hn7.sameT t8).app (.one (hpr.sameT t8))⟩
          rw [upd_ne nzq, upd_ne nzr]
          exact g7 _ _ hz6
        · have cn : mulF x g ∈ a ++ nn := Decidable.byContradiction fun z => c (by simp [z])
          have e1 : [mulF x g].foldl addOne (a ++ nn, nn) = (a ++ nn, nn) := if_pos cn
          rw [e1]
          exact ⟨_, _, rfl, g3'.trans g7, g7 _ _ hz6, hu6.same g7, hpx6.sameT (SameT.of g7), ⟨_, hr7, hw7⟩, _, hq7, hn7⟩
      · rintro σ H6 ⟨v7, v8, rfl, g3', hz6, hu6, hpx6, h1, h2⟩
        rw [gl, List.take_length] at h1 h2
        exact ⟨_, _, _, rfl, g3', hz6, hu6, h1, h2⟩
    · rintro σ H5 ⟨v6, v7, v8, rfl, g2, hz5, hu5, h1, h2⟩
      rw [ul, List.take_length] at h1 h2
      exact ⟨_, rfl, q1, _, _, _, _, _, rfl, g2, nqr, h1, h2⟩
  · rintro σ H3 ⟨l, v4, v5, v6, v7, v8, rfl, g1, nlr, ⟨ws, hr1, hw⟩, _⟩
    have em : ((m : Nat) : Int).toNat = m := by omega
    rw [em] at hw
    have bf := bfs_is go.l3 m
    have dep : ∀ x ∈ (bfs gs m).1, FrOk x := fun x hx => (bf.dep x hx).ok go h5
    have q : ∀ (r : Addr) (H' : Hp), Same H H' → FrsAt H' r (riseF (bfs gs m).1) → Q (V.ref r) H' := q
    have bl : (bfs gs m).1.length ≤ 729 := by
      have h1 := bf.l1
      have h2 : (3 : Nat) ^ (m + 1) ≤ 3 ^ 6 := Nat.pow_le_pow_right (by decide) (by omega)
      have h3 : (3 : Nat) ^ 6 = 729 := by decide
      omega
    generalize (bfs gs m).1 = xs at hw dep q bl
    have wl := hw.len
    refine ⟨Nat.zero_le _, fun s0 hs0 => ?_⟩
    refine ⟨_, rfl, r, rfl, ⟨_, SqL.of (same_new hs0 _ _ _ hr1)⟩, for_list (K := K) (a := r) (xs := ws) (fun i σ H' => ∃ (s : Addr) (v6 v10 : Option V), σ = [some (.ref p), some (.int (m : Int)), some (.ref r), some (.ref l), v4, v5, v6, v7, v8, some (.ref s), v10, none] ∧ Same H3 H' ∧ FrsAt H' s ((xs.take i).foldl insF [])) ⟨s0, v6, none, rfl, same_new hs0 _, _, upd_same, FrL.nil⟩ (fun i σ H' _ ⟨_, _, _, _, g, _⟩ => SqL.of (g _ _ hr1)) ?_ ?_⟩
    · rintro i y σ H4 hy ⟨s, v6, v10, rfl, g2, rs, hs4, hrs⟩
      obtain ⟨px, x, rfl, hx, hpx⟩ := (hw.same g2).at hy
      have okx := dep x (List.mem_of_getElem? hx)
      have oka : ∀ y ∈ (xs.take i).foldl insF [], FrOk y := fun y hy => by
        have go : ∀ (l acc : List Fr), (∀ y ∈ l, FrOk y) → (∀ y ∈ acc, FrOk y) → ∀ y ∈ l.foldl insF acc, FrOk y := fun l => by
          induction l with
          | nil => exact fun acc _ h => h
          | cons a l ih => exact fun acc h1 h2 => ih _ (fun y hy => h1 y (List.mem_cons_of_mem _ hy)) fun y hy => (insF_mem.mp hy).elim (fun e => by rw [e]; exact h1 a List.mem_cons_self) (h2 y)
        exact go (xs.take i) [] (fun y hy => dep y (List.mem_of_mem_take hy)) (fun y h => nomatch h) y hy
      have lacc : ((xs.take i).foldl insF []).length ≤ 729 := by
        have := rise_len (xs.take i)
        have h2 : (riseF (xs.take i)).length = ((xs.take i).foldl insF []).length := rfl
        rw [List.length_take] at this
        omega
      rw [take_snoc hx, List.foldl_append]
      generalize (xs.take i).foldl insF [] = acc at hrs oka lacc
      have al := hrs.len
      refine ⟨_, rfl, s, rfl, ⟨_, SqL.of hs4⟩, fun D hD => ?_⟩
      refine lc_g walk_list RF stb_RF acc al (by omega) hD (fun H5 g5 => SqL.of (g5 _ _ hs4)) (fun i H x H' y => ys_at y) (fun o => if decide (Lt o x) = true then some o else none) ?_ ?_
      · rintro j o y H5 H6 ho g5 g6 ⟨rfl, hy⟩ _ A B hA hB
        obtain ⟨po, o', rfl, ho', hpo⟩ := (hrs.same g5).at hy
        rw [ho] at ho'
        obtain rfl := Option.some.inj ho'
        have oko := oka o (List.mem_of_getElem? ho)
        refine ⟨rfl, _, rfl, _, rfl, po, px, o.1, o.2, x.1, x.2, rfl, hpo, hpx.sameT (SameT.of g5), oko.t, oko.b, okx.t, okx.b, _, rfl, ?_⟩
        show (if decide (Lt o x) = true then _ else _)
        refine ite2 (fun c => ?_) (fun c => ?_)
        · exact ⟨_, rfl, hA _ o _ (if_pos c) (Same.refl _) ⟨po, rfl, hpo⟩⟩
        · exact hB (if_neg c) _ (Same.refl _)
      · intro H5 l5 g5 hl5 rs5
        have e5 : (acc.filterMap fun o => if decide (Lt o x) = true then some o else none) = belowL x acc := by
          exact filt_fr acc fun o => decide (Lt o x)
        rw [e5] at rs5
        have n5 := (Rs.frs rs5).len
        refine ⟨D, l5, rfl, .inl (SqL.of hl5), ?_⟩
        show gName 10 (V.int ((l5.length : Nat) : Int)) _ _ _
        rw [n5]
        have hs5 := g5 _ _ hs4
        have hrs5 := hrs.same g5
        generalize hk : (belowL x acc).length = k
        refine ⟨_, rfl, _, rfl, _, rfl, s, rs, rfl, SqL.of hs5, fun u1 h1 => ?_⟩
        rw [cutV_to _ (by omega)]
        have ek : ((k : Nat) : Int).toNat = k := by omega
        rw [ek]
        have s1 := same_new h1 (.lst (rs.take k))
        refine ⟨_, rfl, line_ge (by show 1 ≤ 100000; decide), fun u2 h2 => ?_⟩
        have s2 := same_new h2 (.lst [V.ref px])
        refine ⟨u1, u2, _, _, rfl, rfl, s2 _ _ upd_same, upd_same, line_ge (by rw [List.length_take]; show _ + 1 ≤ _; omega), fun u3 h3 => ?_⟩
        have s3 := same_new h3 (.lst (rs.take k ++ [V.ref px]))
        refine ⟨_, rfl, _, rfl, _, rfl, s, rs, rfl, SqL.of (s3 _ _ (s2 _ _ (s1 _ _ hs5))), fun u4 h4 => ?_⟩
        rw [cutV_from _ (by omega), ek]
        have s4 := same_new h4 (.lst (rs.drop k))
        refine ⟨u3, u4, _, _, rfl, rfl, s4 _ _ upd_same, upd_same, line_ge (by rw [List.length_append, List.length_take, List.length_drop]; show _ + 1 + _ ≤ _; omega), fun u5 h5 => ?_⟩
        have s5 := same_new h5 (.lst (rs.take k ++ [V.ref px] ++ rs.drop k))
        have sa := s1.trans (s2.trans (s3.trans (s4.trans s5)))
        refine ⟨u5, _, _, rfl, g2.trans (g5.trans sa), _, upd_same, ?_⟩
        show FrL _ _ (insF acc x)
        unfold insF
        rw [hk]
        exact (((hrs5.same sa).take k).app (.one (hpx.sameT (SameT.of (g5.trans sa))))).app ((hrs5.same sa).drop k)
    · rintro σ H4 ⟨s, v6, v10, rfl, g2, h4⟩
      rw [wl, List.take_length] at h4
      exact ⟨_, rfl, q s H4 (g1.trans g2) h4⟩
end
end P64
namespace P64
open PySem PySem.Spec PyProof.Rows L2 SX EX WK
/-- f 0, f 1, .. -/
def vecV (n : Nat) (f : Nat → Int) : List V := (List.range n).map fun t => V.int (f t)
theorem vec_len (n : Nat) (f : Nat → Int) : (vecV n f).length = n := by unfold vecV; rw [List.length_map, List.length_range]
theorem vec_at {n : Nat} {f : Nat → Int} {t : Nat} (h : t < n) : (vecV n f)[t]? = some (.int (f t)) := by
  unfold vecV
  rw [List.getElem?_map, List.getElem?_range h]
  rfl
theorem vec_snoc (n : Nat) (f : Nat → Int) : vecV n f ++ [V.int (f n)] = vecV (n + 1) f := by
  unfold vecV
  rw [List.range_succ, List.map_append]
  rfl
theorem vec_congr {n : Nat} {f g : Nat → Int} (h : ∀ t, t < n → f t = g t) : vecV n f = vecV n g := by
  unfold vecV
  exact List.map_congr_left fun t ht => by rw [h t (List.mem_range.mp ht)]
/-- the law's levels, as its steps see them -/
structure LevOk (L : List Fr) : Prop where
  low : ∀ t, t < L.length → LowF (lev L t)
  b : ∀ t, t < L.length → B 5000 (lev L t).1 ∧ B 5000 (lev L t).2
  asc : ∀ i j, i < L.length → j < L.length → (Le (lev L i) (lev L j) ↔ i ≤ j)
  len : L.length ≤ 729
theorem lev_levok {gs : List Fr} (hg : GsOk gs) {m : Nat} (h5 : m ≤ 5) : LevOk (levF gs m) := by
  have v := lev_is hg m
  have bf := bfs_is hg.l3 m
  obtain ⟨_, hm⟩ := rise_is (fun y hy => (bf.dep y hy).low hg.low) bf.nd
  refine ⟨v.low, fun t ht => ?_, v.asc, lev_len hg h5⟩
  have := (bf.dep _ ((hm _).mp (lev_mem ht))).bnd hg
  exact ⟨this.1.mono (by omega), this.2.mono (by omega)⟩
/-- where the pointer stands at the level i -/
def Ptr (L : List Fr) (g : Fr) (i : Nat) (c : Int) : Prop := -1 ≤ c ∧ c < L.length ∧ ∀ k : Nat, (k : Int) ≤ c → k < L.length → Le (mulF (lev L k) g) (lev L i)
def PtrEnd (L : List Fr) (g : Fr) (i : Nat) (c : Int) : Prop := Ptr L g i c ∧ (c + 1 = L.length ∨ ¬ Le (mulF (lev L (c + 1).toNat) g) (lev L i))
theorem ptr_next {L : List Fr} {g : Fr} {i : Nat} {c : Int} (o : LevOk L) (hg : LowF g) (hi : i + 1 < L.length) (h : Ptr L g i c) : Ptr L g (i + 1) c := by
  obtain ⟨h1, h2, h3⟩ := h
  refine ⟨h1, h2, fun k hk hl => (h3 k hk hl).trans (mulF_low (o.low k hl) hg).bp (o.low i (by omega)).bp (o.low (i + 1) hi).bp ((o.asc i (i + 1) (by omega) hi).mpr (by omega))⟩
theorem ptr_is {L : List Fr} {g : Fr} {i : Nat} {c : Int} (o : LevOk L) (hg : LowF g) (hi : i < L.length) (h : PtrEnd L g i c) : -1 ≤ c ∧ c < L.length ∧ ∀ k, k < L.length → ((k : Int) ≤ c ↔ Le (mulF (lev L k) g) (lev L i)) := by
  obtain ⟨⟨h1, h2, h3⟩, h4⟩ := h
  refine ⟨h1, h2, fun k hk => ⟨fun z => h3 k z hk, fun z => ?_⟩⟩
  rcases Int.lt_or_le c (k : Int) with q | q
  · exfalso
    rcases h4 with h4 | h4
    · omega
    · refine h4 ?_
      have hc : (c + 1).toNat < L.length := by omega
      have le : Le (lev L (c + 1).toNat) (lev L k) := (o.asc _ k hc hk).mpr (by omega)
      exact (mulF_mono (o.low _ hc) (o.low k hk) hg le).trans (mulF_low (o.low _ hc) hg).bp (mulF_low (o.low k hk) hg).bp (o.low i hi).bp z
  · exact q
section
variable {P : Program} {w : World} {K : PySem.W.Frag} {mg : Str → Option Value} {base : Heap} {f : Addr} {fd : FuncData}
def spInners : Sp := fun vs H Q _ => ∃ (l pg : Addr) (L : List Fr) (g : Fr), vs = [.ref l, .ref pg] ∧ FrsAt H l L ∧ FrP H pg g ∧ LevOk L ∧ LowF g ∧ B 450 g.1 ∧ B 450 g.2 ∧ ∀ r H' (p : Nat → Int), H r = none → Same H H' → Inn L.length (lev L) g p → H' r = some (.lst (vecV L.length p)) → Q (.ref r) H'
abbrev s__law_inners : Stmt := top 33
abbrev N__law_inners : List Str := ["levels", "factor", "places", "place", "level", "turn"]
theorem sc__law_inners : FnScope N__law_inners ["levels", "factor"] (defScope s__law_inners) := ⟨rfl, rfl, rfl, by decide +kernel, rfl, by decide +kernel, by decide +kernel⟩
theorem ok__law_inners (F : Fun K "_law_inners" "_law_inners" s__law_inners f fd) (T : Txt mg) (C__law_below : Cal P w K mg base 1 "_law_below" ["one", "two"] spBelow) (C__law_times : Cal P w K mg base 3 "_law_times" ["one", "two"] spTimes) : FnOk P w K mg base CX0 4 f fd ["levels", "factor"] spInners := by
  refine F.ok sc__law_inners (fun vs H Q E h => ?_) (fun cdv A outer s H vs Q E hr h => ?_)
  · obtain ⟨l, pg, L, g, rfl, _⟩ := h
    rfl
  obtain ⟨l, pg, L, g, rfl, ⟨vs, hl, hL⟩, hpg, o, lg, gb1, gb2, q⟩ := h
  refine ⟨_, (pss_cons (ps_set (i := 2) sc__law_inners.nd rfl (Or.inl rfl) (pe_lst pa_nil))
  (pss_cons (ps_set (i := 3) sc__law_inners.nd rfl (Or.inl rfl) (pe_un un_neg pe_int))
  (pss_cons (ps_for PassesOwn.never rfl (pi_list (pv 0)) (pg_name (i := 4) sc__law_inners.nd rfl (Or.inl rfl)) (pss_cons (ps_for PassesOwn.never rfl (pi_range1 (by rfl) T.b_range (pa_cons (pe_callB call_len_seq (by rfl) T.b_len PySem.boot_len (pa_cons (pv 0) pa_nil)) pa_nil)) (pg_name (i := 5) sc__law_inners.nd rfl (Or.inl rfl)) (pss_cons (ps_if (PW.pt (pw_or (pt_cmpR op_eq (pe_op op_add (pv 3) pe_int) (pe_callB call_len_seq (by rfl) T.b_len PySem.boot_len (pa_cons (pv 0) pa_nil)) (nomark _)) (pw_or1 (pt_val (pe_cal C__law_below (hr.mono (by omega)) rfl (pa_cons (pv 4) (pa_cons (pe_cal C__law_times (hr.mono (by omega)) rfl (pa_cons (pe_ix ix_list (pv 0) (pe_op op_add (pv 3) pe_int) (fun _ _ => rfl)) (pa_cons (pv 1) pa_nil))) pa_nil))))))) (pss_one ps_break) pss_nil)
  (pss_one (ps_set (i := 3) sc__law_inners.nd rfl (Or.inl rfl) (pe_op op_add (pv 3) pe_int)))))
  (pss_one (ps_expr (pe_bm PySem.F.plainAttrs_list PySem.F.slot_list_append PySem.F.type_list_append mt_append (pv 2) (pa_cons (pv 3) pa_nil))))))
  (pss_one (ps_ret (pv 2)))))), ?_⟩
  have vl := hL.len
  have ol := o.len
  refine ⟨Nat.zero_le _, fun r hr0 => ?_⟩
  refine ⟨_, rfl, ?_⟩
  refine ⟨_, rfl, l, rfl, ⟨_, SqL.of (same_new hr0 _ _ _ hl)⟩, for_list (K := K) (a := l) (xs := vs) (fun i σ H' => ∃ (c : Int) (p : Nat → Int) (v4 v5 : Option V), σ = [some (.ref l), some (.ref pg), some (.ref r), some (.int c), v4, v5] ∧ Same H H' ∧ H' r = some (.lst (vecV i p)) ∧ (∀ t, t < i → PtrEnd L g t (p t)) ∧ -1 ≤ c ∧ c < L.length ∧ (i < L.length → Ptr L g i c)) ⟨-1, fun _ => 0, none, none, rfl, same_new hr0 _, upd_same, (fun t h => by omega), by omega, by omega, fun h => ⟨by omega, by omega, fun k hk => by omega⟩⟩ (fun i σ H' _ ⟨_, _, _, _, _, g, _⟩ => SqL.of (g _ _ hl)) ?_ ?_⟩
  · rintro i y σ H1 hy ⟨c, p, v4, v5, rfl, g1, hr1, hp, hc1, hc2, hptr⟩
    obtain ⟨px, x, rfl, hx, hpx⟩ := (hL.same g1).at hy
    have hi : i < L.length := (List.getElem?_eq_some_iff.mp hx).1
    have ex : x = lev L i := by rw [lev_at hi] at hx; exact (Option.some.inj hx).symm
    subst ex
    have hptr := hptr hi
    have fin : ∀ (c' : Int), PtrEnd L g i c' → ∃ p' : Nat → Int, vecV i p ++ [V.int c'] = vecV (i + 1) p' ∧ ∀ t, t < i + 1 → PtrEnd L g t (p' t) := fun c' he => by
      refine ⟨fun t => if t = i then c' else p t, ?_, fun t ht => ?_⟩
      · rw [← vec_snoc]
        have e : vecV i (fun t => if t = i then c' else p t) = vecV i p := vec_congr fun t ht => if_neg (by omega)
        rw [e, if_pos rfl]
      · by_cases e : t = i
        · show PtrEnd L g t (if t = i then c' else p t)
          rw [if_pos e, e]; exact he
        · show PtrEnd L g t (if t = i then c' else p t)
          rw [if_neg e]; exact hp t (by omega)
    refine ⟨_, rfl, l, _, rfl, .inl (SqL.of (g1 _ _ hl)), ((vs.length : Nat) : Int), rfl, by omega, by omega, for_range (lo := 0) (n := ((vs.length : Nat) : Int).toNat) (fun j σ H' => ∃ (c : Int) (v5 : Option V), σ = [some (.ref l), some (.ref pg), some (.ref r), some (.int c), some (.ref px), v5] ∧ Same H1 H' ∧ Ptr L g i c ∧ (j : Int) ≤ c + 1) ⟨c, v5, rfl, Same.refl _, hptr, by omega⟩ ?_ ?_⟩
    · rintro j σ H2 hj ⟨c, v5, rfl, g2, hq, hjc⟩
      obtain ⟨q1, q2, q3⟩ := id hq
      have hl2 := g2 _ _ (g1 _ _ hl)
      have hL2 := (hL.same g1).same g2
      refine ⟨_, rfl, _, _, rfl, rfl, _, rfl, l, _, rfl, .inl (SqL.of hl2), rfl, _, rfl, ?_⟩
      refine ite2 (fun z => ?_) (fun z => ?_)
      · have z1 : c + 1 = L.length := by
          have := V.int.inj (of_decide_eq_true z)
          omega
        refine ifT rfl ?_
        obtain ⟨p', e1, e2⟩ := fin c ⟨hq, .inl z1⟩
        have hr2 := g2 _ _ hr1
        refine ⟨_, rfl, .inl ⟨rfl, _, SqL.of hr2⟩, _, rfl, r, _, _, rfl, rfl, hr2, small1000 (by rw [vec_len]; omega), ?_⟩
        exact ⟨c, p', _, _, rfl, same_at (g1.trans g2) hr0, by rw [upd_same, e1], e2, q1, q2, fun h => ptr_next o lg h hq⟩
      · have z1 : ¬ c + 1 = L.length := fun e => z (decide_eq_true (by show V.int (c + 1) = V.int _; rw [vl, e]))
        have hc : (c + 1).toNat < L.length := by omega
        obtain ⟨py, hy2, hpy⟩ := hL2.at' (lev_at hc)
        have b1 := o.b _ hc
        have l1 := o.low _ hc
        have b2 := o.b i hi
        refine ⟨_, rfl, _, rfl, _, rfl, _, _, rfl, rfl, l, _, _, _, rfl, rfl, SqL.of hl2, at_pos (by omega) hy2, _, rfl, py, pg, _, _, g.1, g.2, rfl, hpy, hpg.sameT (SameT.of (g1.trans g2)), l1.tp, l1.bp, lg.tp, lg.bp, b1.1.mono (by decide), b1.2.mono (by decide), gb1, gb2, fun pr H3 g3 hpr => ?_⟩
        have hpr : FrP H3 pr (mulF (lev L (c + 1).toNat) g) := hpr
        have m0 := gI_pos (t := (lev L (c + 1).toNat).1 * g.1) (Int.mul_pos l1.bp lg.bp)
        have pb1 : B 6000 (mulF (lev L (c + 1).toNat) g).1 := ((b1.1.mul gb1).mono (by decide)).div (Int.le_of_lt (Int.mul_pos l1.tp lg.tp)) m0
        have pb2 : B 6000 (mulF (lev L (c + 1).toNat) g).2 := ((b1.2.mul gb2).mono (by decide)).div (Int.le_of_lt (Int.mul_pos l1.bp lg.bp)) m0
        refine ⟨px, pr, _, _, _, _, rfl, (hpx.sameT (SameT.of (g2.trans g3))), hpr, b2.1.mono (by decide), b2.2.mono (by decide), pb1, pb2, _, rfl, ?_⟩
        show (if decide (Lt (lev L i) (mulF (lev L (c + 1).toNat) g)) = true then _ else _)
        refine ite2 (fun y => ?_) (fun y => ?_)
        · have y := lt_iff.mp (of_decide_eq_true y)
          obtain ⟨p', e1, e2⟩ := fin c ⟨hq, .inr y⟩
          have hr2 := g3 _ _ (g2 _ _ hr1)
          refine ⟨_, rfl, .inl ⟨rfl, _, SqL.of hr2⟩, _, rfl, r, _, _, rfl, rfl, hr2, small1000 (by rw [vec_len]; omega), ?_⟩
          exact ⟨c, p', _, _, rfl, same_at (g1.trans (g2.trans g3)) hr0, by rw [upd_same, e1], e2, q1, q2, fun h => ptr_next o lg h hq⟩
        · have y : Le (mulF (lev L (c + 1).toNat) g) (lev L i) := Decidable.byContradiction fun n => y (decide_eq_true (lt_iff.mpr n))
          refine ⟨_, rfl, _, _, rfl, rfl, ?_⟩
          refine ⟨c + 1, _, rfl, g2.trans g3, ⟨by omega, by omega, fun k hk hkl => ?_⟩, by omega⟩
          by_cases e : (k : Int) ≤ c
          · exact q3 k e hkl
          · have : k = (c + 1).toNat := by omega
            rw [this]
            exact y
    · rintro σ H2 ⟨c, v5, rfl, g2, hq, hjc⟩
      obtain ⟨q1, q2, q3⟩ := id hq
      obtain ⟨p', e1, e2⟩ := fin c ⟨hq, .inl (by omega)⟩
      have hr2 := g2 _ _ hr1
      refine ⟨_, rfl, .inl ⟨rfl, _, SqL.of hr2⟩, _, rfl, r, _, _, rfl, rfl, hr2, small1000 (by rw [vec_len]; omega), ?_⟩
      exact ⟨c, p', _, _, rfl, same_at (g1.trans g2) hr0, by rw [upd_same, e1], e2, q1, q2, fun h => ptr_next o lg h hq⟩
  · rintro σ H1 ⟨c, p, v4, v5, rfl, g1, hr1, hp, _⟩
    rw [vl] at hr1 hp
    exact ⟨_, rfl, q r H1 p hr0 g1 (fun t ht => ptr_is o lg ht (hp t ht)) hr1⟩
end
end P64
namespace P64
open PySem PySem.Spec PyProof.Rows L2 SX EX WK
abbrev KQ := Int × (Nat → Int)
def ksV (qs : List KQ) : List V := qs.map fun q => V.int q.1
/-- the inner places of the kinds -/
def InsAt (H : Hp) (a : Addr) (n : Nat) (qs : List KQ) : Prop := ∃ ps : List Addr, H a = some (.lst (ps.map V.ref)) ∧ Paired (fun p (q : KQ) => H p = some (.lst (vecV n q.2))) ps qs
theorem InsAt.same {H H' : Hp} {a : Addr} {n : Nat} {qs : List KQ} (e : Same H H') (h : InsAt H a n qs) : InsAt H' a n qs := let ⟨ps, h1, h2⟩ := h; ⟨ps, e _ _ h1, L2.Paired.mapP h2 fun _ _ h => e _ _ h⟩
section
variable {P : Program} {w : World} {K : PySem.W.Frag} {mg : Str → Option Value} {base : Heap} {f : Addr} {fd : FuncData}
/-! ### _law_stepped -/
def spStepped : Sp := fun vs H Q _ => ∃ (b kr ir : Addr) (n : Nat) (g : Nat → Int) (qs : List KQ) (size lim : Int), vs = [.int size, .ref b, .int lim, .ref kr, .ref ir] ∧ H b = some (.lst (vecV n g)) ∧ H kr = some (.lst (ksV qs)) ∧ InsAt H ir n qs ∧ n ≤ 729 ∧ qs.length ≤ 3 ∧
  (∀ q ∈ qs, 2 ≤ q.1 ∧ q.1 ≤ 10 ∧ ∀ t, t < n → -1 ≤ q.2 t ∧ q.2 t < n) ∧ ∀ r H', Same H H' → H' r = some (.lst (vecV n (stepL size lim qs g))) → Q (.ref r) H'
abbrev s__law_stepped : Stmt := top 34
abbrev N__law_stepped : List Str := ["size", "bare", "most", "kinds", "inners", "found", "t", "number", "k", "place"]
theorem sc__law_stepped : FnScope N__law_stepped ["size", "bare", "most", "kinds", "inners"] (defScope s__law_stepped) := ⟨rfl, rfl, rfl, by decide +kernel, rfl, by decide +kernel, by decide +kernel⟩
theorem ok__law_stepped (F : Fun K "_law_stepped" "_law_stepped" s__law_stepped f fd) (T : Txt mg) (C__law_shrunk : Cal P w K mg base 1 "_law_shrunk" ["size", "number", "kind"] spShrunk) : FnOk P w K mg base CX0 2 f fd ["size", "bare", "most", "kinds", "inners"] spStepped := by
  refine F.ok sc__law_stepped (fun vs H Q E h => ?_) (fun cdv A outer s H vs Q E hr h => ?_)
  · obtain ⟨b, kr, ir, n, g, qs, size, lim, rfl, _⟩ := h
    rfl
  obtain ⟨b, kr, ir, n, g, qs, size, lim, rfl, hb, hk, hi, hn, h3, hq, q⟩ := h
  refine ⟨_, (pss_cons (ps_set (i := 5) sc__law_stepped.nd rfl (Or.inl rfl) (pe_lst pa_nil))
  (pss_cons (ps_for PassesOwn.never rfl (pi_range1 (by rfl) T.b_range (pa_cons (pe_callB call_len_seq (by rfl) T.b_len PySem.boot_len (pa_cons (pv 1) pa_nil)) pa_nil)) (pg_name (i := 6) sc__law_stepped.nd rfl (Or.inl rfl)) (pss_cons (ps_set (i := 7) sc__law_stepped.nd rfl (Or.inl rfl) (pe_callB (call_min2 rfl) (by rfl) T.b_min (by decide +kernel) (pa_cons (pe_ix ix_list (pv 1) (pv 6) (fun _ _ => rfl)) (pa_cons (pe_op op_add (pv 2) pe_int) pa_nil))))
  (pss_cons (ps_for PassesOwn.never rfl (pi_range1 (by rfl) T.b_range (pa_cons (pe_callB call_len_seq (by rfl) T.b_len PySem.boot_len (pa_cons (pv 3) pa_nil)) pa_nil)) (pg_name (i := 8) sc__law_stepped.nd rfl (Or.inl rfl)) (pss_cons (ps_set (i := 9) sc__law_stepped.nd rfl (Or.inl rfl) (pe_ix ix_list (pe_ix ix_list (pv 4) (pv 8) (fun _ _ => rfl)) (pv 6) (fun _ _ => rfl)))
  (pss_one (ps_if (PW.pt (pw_and (pt_cmpR op_ge (pv 9) pe_int (nomark _)) (pw_and1 (pt_cmpR op_le (pe_ix ix_list (pv 1) (pv 9) (fun _ _ => rfl)) (pv 2) (nomark _))))) (pss_one (ps_set (i := 7) sc__law_stepped.nd rfl (Or.inl rfl) (pe_callB (call_min2 rfl) (by rfl) T.b_min (by decide +kernel) (pa_cons (pv 7) (pa_cons (pe_cal C__law_shrunk (hr.mono (by omega)) rfl (pa_cons (pv 0) (pa_cons (pe_ix ix_list (pv 1) (pv 9) (fun _ _ => rfl)) (pa_cons (pe_ix ix_list (pv 3) (pv 8) (fun _ _ => rfl)) pa_nil)))) pa_nil))))) pss_nil))))
  (pss_one (ps_expr (pe_bm PySem.F.plainAttrs_list PySem.F.slot_list_append PySem.F.type_list_append mt_append (pv 5) (pa_cons (pv 7) pa_nil)))))))
  (pss_one (ps_ret (pv 5))))), ?_⟩
  refine ⟨Nat.zero_le _, fun r hr0 => ?_⟩
  have en : (((vecV n g).length : Nat) : Int).toNat = n := by rw [vec_len]; omega
  refine ⟨_, rfl, b, _, rfl, .inl (SqL.of (same_new hr0 _ _ _ hb)), (((vecV n g).length : Nat) : Int), rfl, by omega, by rw [vec_len]; omega, for_range (lo := 0) (n := (((vecV n g).length : Nat) : Int).toNat) (fun t σ H' => ∃ (v6 v7 v8 v9 : Option V), σ = [some (.int size), some (.ref b), some (.int lim), some (.ref kr), some (.ref ir), some (.ref r), v6, v7, v8, v9] ∧ Same H H' ∧ H' r = some (.lst (vecV t (stepL size lim qs g)))) ⟨none, none, none, none, rfl, same_new hr0 _, upd_same⟩ ?_ ?_⟩
  · rintro t σ H1 ht ⟨v6, v7, v8, v9, rfl, g1, hr1⟩
    rw [en] at ht
    have et : (0 + (t : Nat) : Int) = ((t : Nat) : Int) := by omega
    show gName 6 (V.int (0 + (t : Nat))) _ _ _
    rw [et]
    refine ⟨_, rfl, _, rfl, b, _, _, _, rfl, rfl, SqL.of (g1 _ _ hb), atI_nat (vec_at ht), _, rfl, _, _, rfl, rfl, _, _, rfl, ?_⟩
    have kl : (ksV qs).length = qs.length := List.length_map ..
    have ek : (((ksV qs).length : Nat) : Int).toNat = qs.length := by rw [kl]; omega
    refine ⟨_, rfl, kr, _, rfl, .inl (SqL.of (g1 _ _ hk)), (((ksV qs).length : Nat) : Int), rfl, by omega, by rw [kl]; omega, for_range (lo := 0) (n := (((ksV qs).length : Nat) : Int).toNat) (fun j σ H' => ∃ (v8 v9 : Option V), σ = [some (.int size), some (.ref b), some (.int lim), some (.ref kr), some (.ref ir), some (.ref r), some (.int ((t : Nat) : Int)), some (.int ((qs.take j).foldl (kStep size lim g t) (imin (g t) (lim + 1)))), v8, v9] ∧ H' = H1) ⟨v8, v9, rfl, rfl⟩ ?_ ?_⟩
    · rintro j σ H2 hj ⟨v8, v9, rfl, rfl⟩
      rw [ek] at hj
      have ej : (0 + (j : Nat) : Int) = ((j : Nat) : Int) := by omega
      show gName 8 (V.int (0 + (j : Nat))) _ _ _
      rw [ej]
      have hqj : qs[j]? = some qs[j] := List.getElem?_eq_getElem hj
      rw [take_snoc hqj, List.foldl_append]
      have hkj : (ksV qs)[j]? = some (.int qs[j].1) := by unfold ksV; rw [List.getElem?_map, hqj]; rfl
      obtain ⟨k2, k10, hpt⟩ := hq qs[j] (List.getElem_mem hj)
      obtain ⟨pt1, pt2⟩ := hpt t ht
      obtain ⟨ps, hi1, hi2⟩ := hi.same g1
      obtain ⟨pj, hpj, hpv⟩ := Paired.at hi2 hqj
      have hpj' : (ps.map V.ref)[j]? = some (.ref pj) := by rw [List.getElem?_map, hpj]; rfl
      generalize qs[j] = qq at hkj k2 k10 pt1 pt2 hpv
      generalize (qs.take j).foldl (kStep size lim g t) (imin (g t) (lim + 1)) = x
      refine ⟨_, rfl, _, rfl, ir, _, _, _, rfl, rfl, SqL.of hi1, atI_nat hpj', _, rfl, pj, _, _, _, rfl, rfl, SqL.of hpv, atI_nat (vec_at ht), ?_⟩
      refine ⟨_, rfl, _, _, rfl, rfl, _, rfl, ?_⟩
      show (if decide (qq.2 t ≥ 0) = true then _ else _)
      refine ite2 (fun c => ?_) (fun c => ?_)
      · have c1 : 0 ≤ qq.2 t := of_decide_eq_true c
        have hb2 : (vecV n g)[(qq.2 t).toNat]? = some (.int (g (qq.2 t).toNat)) := vec_at (by omega)
        refine ⟨_, rfl, _, rfl, b, _, _, _, rfl, rfl, SqL.of (g1 _ _ hb), at_pos c1 hb2, _, rfl, _, _, rfl, rfl, _, rfl, ?_⟩
        show (if decide (g (qq.2 t).toNat ≤ lim) = true then _ else _)
        refine ite2 (fun d => ?_) (fun d => ?_)
        · have d1 : g (qq.2 t).toNat ≤ lim := of_decide_eq_true d
          refine ⟨_, rfl, _, rfl, _, rfl, _, rfl, b, _, _, _, rfl, rfl, SqL.of (g1 _ _ hb), at_pos c1 hb2, _, rfl, _, rfl, kr, _, _, _, rfl, rfl, SqL.of (g1 _ _ hk), atI_nat hkj, size, _, qq.1, rfl, k2, k10, _, _, rfl, ?_⟩
          refine ⟨some (.int ((j : Nat) : Int)), some (.int (qq.2 t)), ?_, rfl⟩
          have e : [qq].foldl (kStep size lim g t) x = imin x (shr size qq.1 (g (qq.2 t).toNat)) := if_pos ⟨c1, d1⟩
          rw [e]
          rfl
        · have d1 : ¬ g (qq.2 t).toNat ≤ lim := fun z => d (decide_eq_true z)
          refine ⟨some (.int ((j : Nat) : Int)), some (.int (qq.2 t)), ?_, rfl⟩
          have e : [qq].foldl (kStep size lim g t) x = x := if_neg fun z => d1 z.2
          rw [e]
          rfl
      · have c1 : ¬ 0 ≤ qq.2 t := fun z => c (decide_eq_true z)
        refine ifF rfl ?_
        refine ⟨some (.int ((j : Nat) : Int)), some (.int (qq.2 t)), ?_, rfl⟩
        have e : [qq].foldl (kStep size lim g t) x = x := if_neg fun z => c1 z.1
        rw [e]
        rfl
    · rintro σ H2 ⟨v8, v9, rfl, rfl⟩
      rw [ek, List.take_length]
      refine ⟨_, rfl, .inl ⟨rfl, _, SqL.of hr1⟩, _, rfl, r, _, _, rfl, rfl, hr1, small1000 (by rw [vec_len]; omega), ?_⟩
      refine ⟨_, _, _, _, rfl, same_at g1 hr0, ?_⟩
      rw [upd_same, ← vec_snoc]
      rfl
  · rintro σ H1 ⟨v6, v7, v8, v9, rfl, g1, hr1⟩
    rw [en] at hr1
    exact ⟨_, rfl, q r H1 g1 hr1⟩
end
end P64
namespace P64
open PySem PySem.Spec PyProof.Rows L2 SX EX WK
section
variable {cs : List Cnt} {size lim : Int} {qs : List KQ}
theorem lt_stable : ∀ (k w a b : Nat), b ≤ a + w → lt cs size lim qs (w + k) a b = lt cs size lim qs w a b
  | 0, w, a, b, _ => rfl
  | k + 1, w, a, b, h => by
    rw [← Nat.add_assoc]
    show (if b = a + (w + k + 1) then _ else lt cs size lim qs (w + k) a b) = _
    rw [if_neg (by omega)]
    exact lt_stable k w a b h
theorem lt_at {n w a b : Nat} (h : b ≤ a + w) (hw : w ≤ n) : lt cs size lim qs n a b = lt cs size lim qs w a b := by
  obtain ⟨k, rfl⟩ := Nat.le.dest hw
  exact lt_stable k w a b h
theorem lBare_congr {X Y : Nat → Nat → Nat → Int} {a b : Nat} (h : ∀ i j, a ≤ i → i < j → j ≤ b → j - i < b - a → X i j = Y i j) : lBare cs X a b lim = lBare cs Y a b lim := by
  unfold lBare
  have e : ∀ (l : List Nat) (f : Nat → Int), (∀ i ∈ l, i < b - (a + 1)) → l.foldl (lMid X a b) f = l.foldl (lMid Y a b) f := fun l => by
    induction l with
    | nil => exact fun f _ => rfl
    | cons i l ih =>
      intro f hl
      have hi := hl i List.mem_cons_self
      have e1 : lMid X a b f i = lMid Y a b f i := by
        unfold lMid
        rw [h a (a + 1 + i) (by omega) (by omega) (by omega) (by omega), h (a + 1 + i) b (by omega) (by omega) (by omega) (by omega)]
      rw [List.foldl_cons, List.foldl_cons, e1]
      exact ih _ fun j hj => hl j (List.mem_cons_of_mem _ hj)
  exact e _ _ fun i hi => List.mem_range.mp hi
theorem lt_rec {n a b : Nat} (h1 : a < b) (h2 : b ≤ a + n) : lt cs size lim qs n a b = stepL size lim qs (lBare cs (lt cs size lim qs n) a b lim) := by
  obtain ⟨w, hw⟩ : ∃ w, b = a + (w + 1) := ⟨b - a - 1, by omega⟩
  rw [lt_at (w := w + 1) (by omega) (by omega)]
  show (if b = a + (w + 1) then _ else _) = _
  rw [if_pos hw]
  congr 1
  exact lBare_congr fun i j h3 h4 h5 h6 => (lt_at (by omega) (by omega)).symm
end
/-- the law's tables with at most c keys -/
def LTab (H : Hp) (d : Addr) (c n : Nat) (q : Nat → Nat → Prop) (X : Nat → Nat → Nat → Int) : Prop := ∃ kvs, H d = some (.dT kvs) ∧ kvs.length ≤ c ∧ ∀ i j, q i j → ∃ p, valV kvs (k2 i j) = some (.ref p) ∧ H p = some (.lst (vecV n (X i j)))
theorem LTab.same {H H' : Hp} {d : Addr} {c n : Nat} {q : Nat → Nat → Prop} {X : Nat → Nat → Nat → Int} (e : Same H H') (h : LTab H d c n q X) : LTab H' d c n q X := by
  obtain ⟨kvs, h1, h3, h2⟩ := h
  exact ⟨kvs, e _ _ h1, h3, fun i j hq => let ⟨p, a, b⟩ := h2 i j hq; ⟨p, a, e _ _ b⟩⟩
theorem LTab.mono {H : Hp} {d : Addr} {c c' n : Nat} {q q' : Nat → Nat → Prop} {X : Nat → Nat → Nat → Int} (h : LTab H d c n q X) (hc : c ≤ c') (hq : ∀ i j, q' i j → q i j) : LTab H d c' n q' X := let ⟨kvs, h1, h3, h2⟩ := h; ⟨kvs, h1, Nat.le_trans h3 hc, fun i j z => h2 i j (hq i j z)⟩
theorem LTab.get {H : Hp} {d u : Addr} {c n : Nat} {q : Nat → Nat → Prop} {X : Nat → Nat → Nat → Int} (h : LTab H d c n q X) {i j : Nat} (hq : q i j) (hu : H u = some (.tup [.int (i : Int), .int (j : Int)])) : ∃ p, DGet H d (.ref u) (some (.ref p)) ∧ H p = some (.lst (vecV n (X i j))) := by
  obtain ⟨kvs, h1, _, h2⟩ := h
  obtain ⟨p, a, b⟩ := h2 i j hq
  refine ⟨p, ?_, b⟩
  have := DGet.t (k := k2 i j) h1 hu
  rw [a] at this
  exact this
theorem LTab.put {H : Hp} {d u p : Addr} {c n : Nat} {q : Nat → Nat → Prop} {X : Nat → Nat → Nat → Int} {a b : Nat} (h : LTab H d c n q X) (hc : c ≤ 1000) (hu : H u = some (.tup [.int (a : Int), .int (b : Int)])) (hp : H p = some (.lst (vecV n (X a b)))) :
    ∃ o, DPut H d (.ref u) (.ref p) (upd H d o) ∧ LTab (upd H d o) d (c + 1) n (fun i j => q i j ∨ (i = a ∧ j = b)) X := by
  obtain ⟨kvs, h1, h3, h2⟩ := h
  have keep : ∀ p' l, H p' = some (.lst l) → (upd H d (.dT (putK kvs (k2 a b) (.ref p)))) p' = some (.lst l) := fun p' l e1 => by
    have hne : p' ≠ d := fun z => by rw [z, h1] at e1; cases e1
    rw [upd_ne hne]
    exact e1
  refine ⟨_, DPut.t (k := k2 a b) h1 hu (by have : kvs.length + 1 ≤ sizeLine := line_ge (by omega); omega), _, upd_same, Nat.le_trans (length_putK _ _ _) (by omega), fun i j hq => ?_⟩
  rw [valV_put]
  by_cases e : k2 i j = k2 a b
  · obtain ⟨rfl, rfl⟩ := k2_inj e
    rw [if_pos e]
    exact ⟨p, rfl, keep _ _ hp⟩
  · rw [if_neg e]
    rcases hq with hq | ⟨rfl, rfl⟩
    · obtain ⟨p', e1, e2⟩ := h2 i j hq
      exact ⟨p', e1, keep _ _ e2⟩
    · exact absurd rfl e
theorem vec_const {α : Type} (L : List α) (x : Int) : (L.map fun _ => x).map V.int = vecV L.length fun _ => x := by
  unfold vecV
  refine List.ext_getElem? fun i => ?_
  rw [List.getElem?_map, List.getElem?_map, List.getElem?_map]
  by_cases h : i < L.length
  · rw [List.getElem?_eq_getElem h, List.getElem?_range h]
    rfl
  · rw [List.getElem?_eq_none (by omega), List.getElem?_eq_none (by rw [List.length_range]; omega)]
    rfl
/-- a list of the kind's inner places -/
def RIn (n : Nat) (L : Nat → Fr) (D : Addr) : Hp → V → Int → Prop := fun H v k => ∃ p fn, v = .ref p ∧ p ≠ D ∧ Inn n L (gF k) fn ∧ H p = some (.lst (vecV n fn))
theorem stb_RIn {n : Nat} {L : Nat → Fr} {D : Addr} : StbD D (RIn n L D) := fun _ _ _ _ _ e ⟨p, fn, h1, h2, h3, h4⟩ => ⟨p, fn, h1, h2, h3, e _ _ h2 h4⟩
theorem Rs.ins {n : Nat} {L : Nat → Fr} {D : Addr} {H : Hp} : ∀ {vs : List V} {ks : List Int}, Rs (RIn n L D) H vs ks → ∃ (ps : List Addr) (qs : List KQ), vs = ps.map V.ref ∧ qs.map (·.1) = ks ∧ (∀ q ∈ qs, Inn n L (gF q.1) q.2) ∧ Paired (fun p (q : KQ) => H p = some (.lst (vecV n q.2))) ps qs
  | [], [], _ => ⟨[], [], rfl, rfl, (fun q h => nomatch h), .nil⟩
  | [], _ :: _, h => by have := h.1; simp at this
  | _ :: _, [], h => by have := h.1; simp at this
  | v :: vs, k :: ks, h => by
    obtain ⟨ps, qs, h1, h2, h3, h4⟩ := Rs.ins (vs := vs) (ks := ks) ⟨by have := h.1; simp at this; exact this, fun i u z hu hz => h.2 (i + 1) u z hu hz⟩
    obtain ⟨p, fn, rfl, _, hi, hp⟩ := h.2 0 v k rfl rfl
    refine ⟨p :: ps, (k, fn) :: qs, by rw [h1]; rfl, by rw [List.map_cons, h2], fun q hq => ?_, .cons hp h4⟩
    rcases List.mem_cons.mp hq with rfl | hq
    · exact hi
    · exact h3 q hq
section
variable {P : Program} {w : World} {K : PySem.W.Frag} {mg : Str → Option Value} {base : Heap} {f : Addr} {fd : FuncData}
def numV (cs : List Cnt) : List V := cs.map fun c => V.int c.2
def spNumbers : Sp := fun vs H Q _ => ∃ (nr kr lr : Addr) (cs : List Cnt) (ks : List Int) (L : List Fr) (size lim : Int), vs = [.int size, .ref nr, .int lim, .ref kr, .ref lr] ∧ H nr = some (.lst (numV cs)) ∧ H kr = some (.lst (ks.map V.int)) ∧ FrsAt H lr L ∧ LevOk L ∧ (∀ k ∈ ks, 2 ≤ k ∧ k ≤ 10) ∧ ks.length ≤ 3 ∧ 1 ≤ cs.length ∧ cs.length ≤ 5 ∧
  ∀ r H' (qs : List KQ), Same H H' → qs.map (·.1) = ks → (∀ q ∈ qs, Inn L.length (lev L) (gF q.1) q.2) → H' r = some (.lst (vecV L.length (lt cs size lim qs cs.length 0 cs.length))) → Q (.ref r) H'
abbrev s__law_numbers : Stmt := top 35
abbrev N__law_numbers : List Str := ["size", "numbers", "most", "kinds", "levels", "inners", "table", "width", "first", "bare", "middle", "one", "two", "k", "level", "t"]
theorem sc__law_numbers : FnScope N__law_numbers ["size", "numbers", "most", "kinds", "levels"] (defScope s__law_numbers) := ⟨rfl, rfl, rfl, by decide +kernel, rfl, by decide +kernel, by decide +kernel⟩
theorem ok__law_numbers (F : Fun K "_law_numbers" "_law_numbers" s__law_numbers f fd) (T : Txt mg) (C__law_inners : Cal P w K mg base 4 "_law_inners" ["levels", "factor"] spInners) (C__law_grade_factor : Cal P w K mg base 3 "_law_grade_factor" ["k"] spGrade) (C__law_stepped : Cal P w K mg base 2 "_law_stepped" ["size", "bare", "most", "kinds", "inners"] spStepped) : FnOk P w K mg base CX0 5 f fd ["size", "numbers", "most", "kinds", "levels"] spNumbers := by
  refine F.ok sc__law_numbers (fun vs H Q E h => ?_) (fun cdv A outer s H vs Q E hr h => ?_)
  · obtain ⟨nr, kr, lr, cs, ks, L, size, lim, rfl, _⟩ := h
    rfl
  obtain ⟨nr, kr, lr, cs, ks, L, size, lim, rfl, hnr, hkr, hL, o, kb, k3, n1, n5, q⟩ := h
  refine ⟨_, (pss_cons (ps_setLc (i := 5) (own := [("k", 13)]) (g := gName 13) (tt := tYes) (by rfl) sc__law_numbers.nd rfl rfl (sw_true rfl rfl rfl (by decide +kernel)) (pi_list (pv 3)) (blkOk_by (N := N__law_numbers) (sc := defScope s__law_numbers) (by decide +kernel)) (fun _ _ _ _ _ => (pg_name (i := 13) sc__law_numbers.nd rfl (Or.inl rfl))) (fun _ _ _ _ _ => pts_nil) (fun _ _ _ _ _ => (pe_cal C__law_inners (hr.mono (by omega)) rfl (pa_cons (pv 4) (pa_cons (pe_cal C__law_grade_factor (hr.mono (by omega)) rfl (pa_cons (pv 13) pa_nil)) pa_nil)))))
  (pss_cons (ps_set (i := 6) sc__law_numbers.nd rfl (Or.inl rfl) pe_dnewT)
  (pss_cons (ps_for PassesOwn.never rfl (pi_range2 (by rfl) T.b_range (pa_cons pe_int (pa_cons (pe_op op_add (pe_callB call_len_seq (by rfl) T.b_len PySem.boot_len (pa_cons (pv 1) pa_nil)) pe_int) pa_nil))) (pg_name (i := 7) sc__law_numbers.nd rfl (Or.inl rfl)) (pss_one (ps_for PassesOwn.never rfl (pi_range1 (by rfl) T.b_range (pa_cons (pe_op op_add (pe_op op_sub (pe_callB call_len_seq (by rfl) T.b_len PySem.boot_len (pa_cons (pv 1) pa_nil)) (pv 7)) pe_int) pa_nil)) (pg_name (i := 8) sc__law_numbers.nd rfl (Or.inr rfl)) (pss_cons (ps_set (i := 9) sc__law_numbers.nd rfl (Or.inr rfl) (pe_lc (own := [("level", 14)]) (g := gName 14) (tt := tYes) (by rfl) sc__law_numbers.nd (pi_list (pv 4)) (blkOk_by (N := N__law_numbers) (sc := defScope s__law_numbers) (by decide +kernel)) (fun _ _ _ _ _ => (pg_name (i := 14) sc__law_numbers.nd rfl (Or.inl rfl))) (fun _ _ _ _ _ => pts_nil) (fun _ _ _ _ _ => (pe_op op_add (pv 2) pe_int))))
  (C8.pss_cut (ps_if (pt_cmpR op_eq (pv 7) pe_int (nomark _)) (pss_one (ps_set (i := 9) sc__law_numbers.nd rfl (Or.inr rfl) (pe_lc (own := [("level", 14)]) (g := gName 14) (tt := tYes) (by rfl) sc__law_numbers.nd (pi_list (pv 4)) (blkOk_by (N := N__law_numbers) (sc := defScope s__law_numbers) (by decide +kernel)) (fun _ _ _ _ _ => (pg_name (i := 14) sc__law_numbers.nd rfl (Or.inl rfl))) (fun _ _ _ _ _ => pts_nil) (fun _ _ _ _ _ => (pe_callB (call_min2 rfl) (by rfl) T.b_min (by decide +kernel) (pa_cons (pe_ix (ix_listK (K := K) rfl) (pv 1) (pv 8) (fun _ _ => rfl)) (pa_cons (pe_op op_add (pv 2) pe_int) pa_nil))))))) pss_nil)
  (pss_cons (ps_for PassesOwn.never rfl (pi_range2 (by rfl) T.b_range (pa_cons (pe_op op_add (pv 8) pe_int) (pa_cons (pe_op op_add (pv 8) (pv 7)) pa_nil))) (pg_name (i := 10) sc__law_numbers.nd rfl (Or.inl rfl)) (pss_cons (ps_set (i := 11) sc__law_numbers.nd rfl (Or.inr rfl) (pe_dget (hu_of hr) (pv 6) (pe_tup (pa_cons (pv 8) (pa_cons (pv 10) pa_nil))) (fun _ _ => rfl)))
  (pss_cons (ps_set (i := 12) sc__law_numbers.nd rfl (Or.inr rfl) (pe_dget (hu_of hr) (pv 6) (pe_tup (pa_cons (pv 10) (pa_cons (pe_op op_add (pv 8) (pv 7)) pa_nil))) (fun _ _ => rfl)))
  (pss_one (ps_set (i := 9) sc__law_numbers.nd rfl (Or.inr rfl) (pe_lc (own := [("t", 15)]) (g := gName 15) (tt := tYes) (by rfl) sc__law_numbers.nd (pi_range1 (by rfl) T.b_range (pa_cons (pe_callB call_len_seq (by rfl) T.b_len PySem.boot_len (pa_cons (pv 4) pa_nil)) pa_nil)) (blkOk_by (N := N__law_numbers) (sc := defScope s__law_numbers) (by decide +kernel)) (fun _ _ _ _ _ => (pg_name (i := 15) sc__law_numbers.nd rfl (Or.inl rfl))) (fun _ _ _ _ _ => pts_nil) (fun _ _ _ _ _ => (pe_callB (call_min2 rfl) (by rfl) T.b_min (by decide +kernel) (pa_cons (pe_ix (ix_listK (K := K) rfl) (pv 9) (pv 15) (fun _ _ => rfl)) (pa_cons (pe_op op_add (pe_ix (ix_listK (K := K) rfl) (pv 11) (pv 15) (fun _ _ => rfl)) (pe_ix (ix_listK (K := K) rfl) (pv 12) (pv 15) (fun _ _ => rfl))) pa_nil))))))))))
  (pss_one (ps_dput (hu_of hr) (pv 6) (pe_tup (pa_cons (pv 8) (pa_cons (pe_op op_add (pv 8) (pv 7)) pa_nil))) (pe_cal C__law_stepped (hr.mono (by omega)) rfl (pa_cons (pv 0) (pa_cons (pv 9) (pa_cons (pv 2) (pa_cons (pv 3) (pa_cons (pv 5) pa_nil)))))) rfl))))))))
  (pss_one (ps_ret (pe_dget (hu_of hr) (pv 6) (pe_tup (pa_cons pe_int (pa_cons (pe_callB call_len_seq (by rfl) T.b_len PySem.boot_len (pa_cons (pv 1) pa_nil)) pa_nil))) (fun _ _ => rfl))))))), ?_⟩
  have ol := o.len
  have kl : (ks.map V.int).length = ks.length := List.length_map ..
  refine seq_asg ?_
  refine ⟨_, rfl, kr, rfl, ⟨_, SqL.of hkr⟩, fun D hD => ?_⟩
  refine lc_gm walk_list (RIn L.length (lev L) D) stb_RIn ks kl (by omega) hD (fun H2 g2 => SqL.of (g2 _ _ hkr)) (fun i H x H' y => ys_at y) (fun k => k) ?_ ?_
  · rintro j k x H2 H3 hk g2 g3 ⟨rfl, hx⟩ ⟨lD, hlD⟩ A B hA
    obtain ⟨k', hk', rfl⟩ := map_int hx
    rw [hk] at hk'
    obtain rfl := Option.some.inj hk'
    obtain ⟨k2, k10⟩ := kb k (List.mem_of_getElem? hk)
    have gs := gs_ok (ks := [k]) (fun z hz => by rw [List.mem_singleton.mp hz]; exact ⟨k2, k10⟩) (by show 1 ≤ 3; decide)
    have gm : gF k ∈ [k].map gF := List.mem_singleton.mpr rfl
    refine ⟨rfl, lc_yes ?_⟩
    refine ⟨_, rfl, _, rfl, k, rfl, k2, k10, fun pg H4 g4 hpg => ?_⟩
    refine ⟨lr, pg, L, gF k, rfl, hL.same (g2.trans g4), hpg, o, gs.low _ gm, (gs.b _ gm).1, (gs.b _ gm).2, fun r H5 fn hrn g5 hin hr5 => ?_⟩
    refine hA _ _ (g4.trans g5) ⟨r, fn, rfl, fun e => ?_, hin, hr5⟩
    rw [e, g4 _ _ hlD] at hrn
    cases hrn
  intro H1 vi g1 hvi rs
  rw [List.map_id'] at rs
  obtain ⟨ps, qs, e1, e2, e3, e4⟩ := Rs.ins rs
  have hIns : InsAt H1 D L.length qs := ⟨ps, by rw [hvi, e1], e4⟩
  have hks : H1 kr = some (.lst (ksV qs)) := by
    rw [g1 _ _ hkr, ← e2]
    unfold ksV
    rw [List.map_map]
    rfl
  have hnr1 := g1 _ _ hnr
  have hL1 := hL.same g1
  have q := fun r H' (g : Same H1 H') h => q r H' qs (g1.trans g) e2 e3 h
  have q3 : qs.length ≤ 3 := by rw [← e2, List.length_map] at k3; exact k3
  have qp : ∀ z ∈ qs, 2 ≤ z.1 ∧ z.1 ≤ 10 ∧ ∀ t, t < L.length → -1 ≤ z.2 t ∧ z.2 t < L.length := fun z hz => by
    obtain ⟨a, b⟩ := kb z.1 (by rw [← e2]; exact List.mem_map.mpr ⟨z, hz, rfl⟩)
    exact ⟨a, b, fun t ht => ⟨(e3 z hz t ht).1, (e3 z hz t ht).2.1⟩⟩
  clear rs e1 e4 hvi hnr hkr hL g1
  have hnl : (numV cs).length = cs.length := List.length_map ..
  generalize hn : L.length = n at *
  show tSeq _ _ _ [some (.int size), some (.ref nr), some (.int lim), some (.ref kr), some (.ref lr), some (.ref D), none, none, none, none, none, none, none, none, none, none] _
  refine fun d h0 => ?_
  refine ⟨_, rfl, nr, _, rfl, .inl (SqL.of (same_new h0 _ _ _ hnr1)), _, _, rfl, rfl, ?_⟩
  rw [hnl]
  generalize hX : lt cs size lim qs cs.length = X at q
  have hnn : (((cs.length : Nat) : Int) + 1 - 1).toNat = cs.length := by omega
  refine ⟨1, ((cs.length : Nat) : Int) + 1, rfl, ⟨by omega, by omega, by omega⟩, for_range (lo := 1) (n := (((cs.length : Nat) : Int) + 1 - 1).toNat) (fun i σ H' => ∃ (v7 v8 v9 v10 v11 v12 : Option V), σ = [some (.int size), some (.ref nr), some (.int lim), some (.ref kr), some (.ref lr), some (.ref D), some (.ref d), v7, v8, v9, v10, v11, v12, none, none, none] ∧ Same H1 H' ∧ LTab H' d (10 * i) n (fun a b => a < b ∧ b ≤ cs.length ∧ b ≤ a + i) X) ⟨none, none, none, none, none, none, rfl, same_new h0 _, [], upd_same, Nat.zero_le _, fun a b h => absurd h (by omega)⟩ ?_ ?_⟩
  · rintro i σ H2 hi ⟨v7, v8, v9, v10, v11, v12, rfl, g2, t2⟩
    rw [hnn] at hi
    have ew : (1 + (i : Nat) : Int) = ((i + 1 : Nat) : Int) := by omega
    show gName 7 (V.int (1 + (i : Nat))) _ _ _
    rw [ew]
    have hm : (((cs.length : Nat) : Int) - ((i + 1 : Nat) : Int) + 1).toNat = cs.length - i := by omega
    refine ⟨_, rfl, nr, _, rfl, .inl (SqL.of (g2 _ _ hnr1)), ?_⟩
    rw [hnl]
    refine ⟨_, rfl, _, _, rfl, rfl, _, _, rfl, rfl, ?_⟩
    refine ⟨((cs.length : Nat) : Int) - ((i + 1 : Nat) : Int) + 1, rfl, by omega, by omega, for_range (lo := 0) (n := (((cs.length : Nat) : Int) - ((i + 1 : Nat) : Int) + 1).toNat) (fun j σ H' => ∃ (v8 v9 v10 v11 v12 : Option V), σ = [some (.int size), some (.ref nr), some (.int lim), some (.ref kr), some (.ref lr), some (.ref D), some (.ref d), some (.int ((i + 1 : Nat) : Int)), v8, v9, v10, v11, v12, none, none, none] ∧ Same H1 H' ∧ LTab H' d (10 * i + j) n (fun a b => a < b ∧ b ≤ cs.length ∧ (b ≤ a + i ∨ (b = a + i + 1 ∧ a < j))) X) ⟨v8, v9, v10, v11, v12, rfl, g2, t2.mono (by omega) (fun a b z => ⟨z.1, z.2.1, by omega⟩)⟩ ?_ ?_⟩
    · rintro j σ H3 hj ⟨v8, v9, v10, v11, v12, rfl, g3, t3⟩
      rw [hm] at hj
      have ej : (0 + (j : Nat) : Int) = ((j : Nat) : Int) := by omega
      show gName 8 (V.int (0 + (j : Nat))) _ _ _
      rw [ej]
      generalize hbb : j + (i + 1) = b
      have hab : j < b := by omega
      have hbn : b ≤ cs.length := by omega
      have hjc : cs[j]? = some cs[j] := List.getElem?_eq_getElem (by omega)
      have hjn : (numV cs)[j]? = some (.int cs[j].2) := by unfold numV; rw [List.getElem?_map, hjc]; rfl
      obtain ⟨lv, hl1, hl2⟩ := hL1
      have ll := hl2.len
      rw [hn] at ll
      refine ⟨_, rfl, lr, rfl, ⟨_, SqL.of (g3 _ _ hl1)⟩, fun D2 hD2 => ?_⟩
      refine lc_gm walk_list RI (fun _ _ _ _ _ _ h => h) L (by rw [ll, hn]) (by omega) hD2 (fun H2 g2 => SqL.of (g2 _ _ (g3 _ _ hl1))) (fun i H x H' y => ys_at y) (fun _ => lim + 1) ?_ ?_
      · rintro k x y H4 H5 hk g4 g5 ⟨rfl, hx⟩ _ A B hA
        exact ⟨rfl, lc_yes ⟨_, rfl, _, _, rfl, rfl, hA _ _ (Same.refl _) rfl⟩⟩
      intro H4 bl g4 hbl rs
      have rs := rs.ints
      rw [vec_const, hn] at rs
      subst rs
      refine ⟨fun σ H' => ∃ br, σ = [some (.int size), some (.ref nr), some (.int lim), some (.ref kr), some (.ref lr), some (.ref D), some (.ref d), some (.int ((i + 1 : Nat) : Int)), some (.int ((j : Nat) : Int)), some (.ref br), v10, v11, v12, none, none, none] ∧ Same H3 H' ∧ H' br = some (.lst (vecV n (lStart cs j b lim))), ?_, ?_⟩
      · refine ⟨_, rfl, rfl, _, rfl, ?_⟩
        refine ite2 (fun c => ?_) (fun c => ?_)
        · have c1 : b = j + 1 := by
            have := V.int.inj (of_decide_eq_true c)
            omega
          refine ⟨_, rfl, lr, rfl, ⟨_, SqL.of (g4 _ _ (g3 _ _ hl1))⟩, fun D3 hD3 => ?_⟩
          refine lc_gm walk_list RI (fun _ _ _ _ _ _ h => h) L (by rw [ll, hn]) (by omega) hD3 (fun H2 g2 => SqL.of (g2 _ _ (g4 _ _ (g3 _ _ hl1)))) (fun i H x H' y => ys_at y) (fun _ => imin cs[j].2 (lim + 1)) ?_ ?_
          · rintro k x y H5 H6 hk g5 g6 ⟨rfl, hx⟩ _ A B hA
            exact ⟨rfl, lc_yes ⟨_, rfl, _, rfl, nr, _, _, _, rfl, rfl, SqL.of (g5 _ _ (g4 _ _ (g3 _ _ hnr1))), atI_nat hjn, _, rfl, _, _, rfl, rfl, _, _, rfl, hA _ _ (Same.refl _) rfl⟩⟩
          intro H5 bl2 g5 hbl2 rs
          have rs := rs.ints
          rw [vec_const, hn] at rs
          subst rs
          refine ⟨D3, rfl, g4.trans g5, ?_⟩
          have e : lStart cs j b lim = fun _ => imin cs[j].2 (lim + 1) := by
            unfold lStart lOne
            rw [if_pos c1, hjc]
          rw [e]
          exact hbl2
        · have c1 : ¬ b = j + 1 := fun e => c (decide_eq_true (by
            have : i = 0 := by omega
            rw [this]
            rfl))
          refine ⟨D2, rfl, g4, ?_⟩
          have e : lStart cs j b lim = fun _ => lim + 1 := by
            unfold lStart
            rw [if_neg c1]
          rw [e]
          exact hbl
      rintro σ H5 ⟨br, rfl, g5, hbr⟩
      have eb : ((j : Nat) : Int) + ((i + 1 : Nat) : Int) = ((b : Nat) : Int) := by omega
      have t5 := t3.same g5
      have t4' := t5
      refine ⟨_, rfl, _, _, rfl, rfl, _, rfl, _, rfl, _, _, rfl, rfl, ?_⟩
      have em1 : (((j : Nat) : Int) + ((i + 1 : Nat) : Int) - (((j : Nat) : Int) + 1)).toNat = b - (j + 1) := by omega
      refine ⟨((j : Nat) : Int) + 1, ((j : Nat) : Int) + ((i + 1 : Nat) : Int), rfl, ⟨by omega, by omega, by omega⟩, for_range (lo := ((j : Nat) : Int) + 1) (n := (((j : Nat) : Int) + ((i + 1 : Nat) : Int) - (((j : Nat) : Int) + 1)).toNat) (fun k σ H' => ∃ (br : Addr) (v10 v11 v12 : Option V), σ = [some (.int size), some (.ref nr), some (.int lim), some (.ref kr), some (.ref lr), some (.ref D), some (.ref d), some (.int ((i + 1 : Nat) : Int)), some (.int ((j : Nat) : Int)), some (.ref br), v10, v11, v12, none, none, none] ∧ Same H3 H' ∧ H' br = some (.lst (vecV n ((List.range k).foldl (lMid X j b) (lStart cs j b lim))))) ⟨br, v10, v11, v12, rfl, g5, hbr⟩ ?_ ?_⟩
      · rintro k σ H6 hk ⟨br, v10, v11, v12, rfl, g6, hbr6⟩
        rw [em1] at hk
        have em : ((j : Nat) : Int) + 1 + (k : Nat) = ((j + 1 + k : Nat) : Int) := by omega
        show gName 10 (V.int (((j : Nat) : Int) + 1 + (k : Nat))) _ _ _
        rw [em]
        have t6 := t3.same g6
        refine ⟨_, rfl, _, rfl, _, rfl, two_line, fun u hu => ?_⟩
        have s1 := same_new hu (.tup [V.int ((j : Nat) : Int), V.int ((j + 1 + k : Nat) : Int)])
        obtain ⟨p1, d1, hp1⟩ := (t6.same s1).get (i := j) (j := j + 1 + k) ⟨by omega, by omega, by omega⟩ upd_same
        refine ⟨d, _, rfl, d1, ?_⟩
        generalize upd H6 u (.tup [V.int ((j : Nat) : Int), V.int ((j + 1 + k : Nat) : Int)]) = H7 at s1 d1 hp1
        refine ⟨_, rfl, _, rfl, _, rfl, _, rfl, _, _, rfl, rfl, two_line, fun v hv => ?_⟩
        have s2 := same_new hv (.tup [V.int ((j + 1 + k : Nat) : Int), V.int ((b : Nat) : Int)])
        obtain ⟨p2, d2, hp2⟩ := ((t6.same s1).same s2).get (i := j + 1 + k) (j := b) ⟨by omega, by omega, by omega⟩ upd_same
        generalize hO : HO.tup [V.int ((j + 1 + k : Nat) : Int), V.int (((j : Nat) : Int) + ((i + 1 : Nat) : Int))] = O
        rw [eb] at hO
        subst hO
        refine ⟨d, _, rfl, d2, ?_⟩
        have hp1 := s2 _ _ hp1
        generalize upd H7 v (.tup [V.int ((j + 1 + k : Nat) : Int), V.int ((b : Nat) : Int)]) = H8 at s2 d2 hp2 hp1
        have g8 := g6.trans (s1.trans s2)
        have hbr8 := s2 _ _ (s1 _ _ hbr6)
        have hl8 := g8 _ _ (g3 _ _ hl1)
        refine ⟨_, rfl, lr, _, rfl, .inl (SqL.of hl8), ((lv.length : Nat) : Int), rfl, by omega, by omega, fun D3 hD3 => ?_⟩
        have el : ((lv.length : Nat) : Int).toNat = n := by omega
        rw [List.range_succ, List.foldl_append]
        generalize (List.range k).foldl (lMid X j b) (lStart cs j b lim) = gg at hbr8
        refine lc_gm (walk_range (lo := 0) (n := ((lv.length : Nat) : Int).toNat)) RI (fun _ _ _ _ _ _ h => h) (List.range n) (by rw [List.length_range, el]) (by rw [List.length_range]; omega) hD3 (fun _ _ => trivial) (fun i H x H' y => ys_fn y) (fun t => imin (gg t) (X j (j + 1 + k) t + X (j + 1 + k) b t)) ?_ ?_
        · rintro t t' y H9 H10 ht g9 g10 ⟨rfl, rfl⟩ _ A B hA
          have htn : t < n := by
            have := (List.getElem?_eq_some_iff.mp ht).1
            rw [List.length_range] at this
            exact this
          rw [List.getElem?_range htn] at ht
          obtain rfl := Option.some.inj ht
          have et : (0 + (t : Nat) : Int) = ((t : Nat) : Int) := by omega
          refine ⟨rfl, lc_yes ?_⟩
          have vt : ∀ g : Nat → Int, (vecV n g)[((0 : Int) + (t : Nat)).toNat]? = some (.int (g t)) := fun g => by
            rw [et]
            exact vec_at htn
          have z0 : (0 : Int) ≤ 0 + (t : Nat) := by omega
          refine ⟨_, rfl, _, rfl, br, _, _, _, rfl, rfl, SqL.of (g9 _ _ hbr8), at_pos z0 (vt _), ?_⟩
          refine ⟨_, rfl, _, rfl, p1, _, _, _, rfl, rfl, SqL.of (g9 _ _ hp1), at_pos z0 (vt _), ?_⟩
          refine ⟨_, rfl, _, rfl, p2, _, _, _, rfl, rfl, SqL.of (g9 _ _ hp2), at_pos z0 (vt _), _, _, rfl, rfl, _, _, rfl, hA _ _ (Same.refl _) rfl⟩
        intro H9 nb g9 hnb rs
        have rs := rs.ints
        rw [List.map_map] at rs
        refine ⟨D3, _, _, _, rfl, g8.trans g9, ?_⟩
        rw [hnb, rs]
        rfl
      · rintro σ H6 ⟨br, v10, v11, v12, rfl, g6, hbr6⟩
        rw [em1] at hbr6
        have hbr6 : H6 br = some (.lst (vecV n (lBare cs X j b lim))) := hbr6
        have g36 := g3.trans g6
        refine ⟨_, rfl, _, rfl, _, rfl, _, rfl, _, rfl, br, kr, D, n, _, qs, size, lim, rfl, hbr6, g36 _ _ hks, hIns.same g36, by omega, q3, qp, fun r H7 g7 hr7 => ?_⟩
        refine ⟨_, rfl, _, rfl, _, rfl, _, rfl, _, _, rfl, rfl, two_line, fun u hu => ?_⟩
        have s1 := same_new hu (.tup [V.int ((j : Nat) : Int), V.int ((b : Nat) : Int)])
        have hst : stepL size lim qs (lBare cs X j b lim) = X j b := by
          rw [← hX]
          exact (lt_rec hab (by omega)).symm
        rw [hst] at hr7
        obtain ⟨oo, dp, t7⟩ := ((t3.same (g6.trans g7)).same s1).put (a := j) (b := b) (by omega) upd_same (s1 _ _ hr7)
        show ∃ a H4, V.ref d = .ref a ∧ DPut (upd H7 u (.tup [V.int ((j : Nat) : Int), V.int (((j : Nat) : Int) + ((i + 1 : Nat) : Int))])) a (.ref u) (.ref r) H4 ∧ _
        rw [eb]
        refine ⟨d, _, rfl, dp, ?_⟩
        refine ⟨_, _, _, _, _, rfl, same_at (g3.trans (g6.trans (g7.trans s1))) h0, t7.mono (by omega) fun a' b' z => ?_⟩
        by_cases e : a' = j ∧ b' = b
        · exact .inr e
        · exact .inl ⟨z.1, z.2.1, by omega⟩
    · rintro σ H3 ⟨v8, v9, v10, v11, v12, rfl, g3, t3⟩
      rw [hm] at t3
      exact ⟨_, _, _, _, _, _, rfl, g3, t3.mono (by omega) fun a' b' z => ⟨z.1, z.2.1, by omega⟩⟩
  · rintro σ H2 ⟨v7, v8, v9, v10, v11, v12, rfl, g2, t2⟩
    rw [hnn] at t2
    refine ⟨_, rfl, _, rfl, nr, _, rfl, .inl (SqL.of (g2 _ _ hnr1)), two_line, fun u hu => ?_⟩
    rw [hnl]
    have g3 := same_new hu (.tup [V.int ((0 : Nat) : Int), V.int ((cs.length : Nat) : Int)])
    obtain ⟨p, dg, hp⟩ := (t2.same g3).get (i := 0) (j := cs.length) ⟨by omega, Nat.le_refl _, by omega⟩ upd_same
    exact ⟨d, _, rfl, dg, q p _ (g2.trans g3) hp⟩
end
end P64
namespace P64
open PySem PySem.Spec PyProof.Rows L2 SX EX WK
/-- the factor of the best entry -/
def DueV (H : Hp) : Option Ent → V → Prop
  | none, v => v = .non
  | some e, v => ∃ p, v = .ref p ∧ FrP H p (fr e)
section
variable {P : Program} {w : World} {K : PySem.W.Frag} {mg : Str → Option Value} {base : Heap} {f : Addr} {fd : FuncData}
def spDue : Sp := fun vs H Q _ => ∃ (nr kr : Addr) (cs : List Cnt) (ks : List Int) (size lim : Int), vs = [.int size, .ref nr, .int lim, .ref kr] ∧ H nr = some (.lst (numV cs)) ∧ H kr = some (.lst (ks.map V.int)) ∧ (∀ k ∈ ks, 2 ≤ k ∧ k ≤ 10) ∧ ks.length ≤ 3 ∧ 1 ≤ cs.length ∧ cs.length ≤ 5 ∧ 0 ≤ size ∧ 0 ≤ lim ∧ (∀ c ∈ cs, 0 ≤ c.2) ∧
  ∀ v H', Same H H' → DueV H' (bestP cs size lim ks) v → Q v H'
abbrev s__law_due : Stmt := top 36
abbrev N__law_due : List Str := ["size", "numbers", "most", "kinds", "levels", "found", "t", "k"]
theorem sc__law_due : FnScope N__law_due ["size", "numbers", "most", "kinds"] (defScope s__law_due) := ⟨rfl, rfl, rfl, by decide +kernel, rfl, by decide +kernel, by decide +kernel⟩
theorem ok__law_due (F : Fun K "_law_due" "_law_due" s__law_due f fd) (T : Txt mg) (C__law_levels : Cal P w K mg base 4 "_law_levels" ["factors", "many"] spLevels) (C__law_numbers : Cal P w K mg base 5 "_law_numbers" ["size", "numbers", "most", "kinds", "levels"] spNumbers) (C__law_grade_factor : Cal P w K mg base 3 "_law_grade_factor" ["k"] spGrade) : FnOk P w K mg base CX0 6 f fd ["size", "numbers", "most", "kinds"] spDue := by
  refine F.ok sc__law_due (fun vs H Q E h => ?_) (fun cdv A outer s H vs Q E hr h => ?_)
  · obtain ⟨nr, kr, cs, ks, size, lim, rfl, _⟩ := h
    rfl
  obtain ⟨nr, kr, cs, ks, size, lim, rfl, hnr, hkr, kb, k3, n1, n5, s0, l0, hc, q⟩ := h
  refine ⟨_, (pss_cons (ps_set (i := 4) sc__law_due.nd rfl (Or.inl rfl) (pe_cal C__law_levels (hr.mono (by omega)) rfl (pa_cons (pe_lc (own := [("k", 7)]) (g := gName 7) (tt := tYes) (by rfl) sc__law_due.nd (pi_list (pv 3)) (blkOk_by (N := N__law_due) (sc := defScope s__law_due) (by decide +kernel)) (fun _ _ _ _ _ => (pg_name (i := 7) sc__law_due.nd rfl (Or.inl rfl))) (fun _ _ _ _ _ => pts_nil) (fun _ _ _ _ _ => (pe_cal C__law_grade_factor (hr.mono (by omega)) rfl (pa_cons (pv 7) pa_nil)))) (pa_cons (pe_callB call_len_seq (by rfl) T.b_len PySem.boot_len (pa_cons (pv 1) pa_nil)) pa_nil))))
  (pss_cons (ps_set (i := 5) sc__law_due.nd rfl (Or.inl rfl) (pe_cal C__law_numbers (hr.mono (by omega)) rfl (pa_cons (pv 0) (pa_cons (pv 1) (pa_cons (pv 2) (pa_cons (pv 3) (pa_cons (pv 4) pa_nil)))))))
  (pss_cons (ps_for PassesOwn.never rfl (pi_range1 (by rfl) T.b_range (pa_cons (pe_callB call_len_seq (by rfl) T.b_len PySem.boot_len (pa_cons (pv 4) pa_nil)) pa_nil)) (pg_name (i := 6) sc__law_due.nd rfl (Or.inl rfl)) (pss_one (ps_if (pt_cmpR op_le (pe_ix ix_list (pv 5) (pv 6) (fun _ _ => rfl)) (pv 2) (nomark _)) (pss_one (ps_ret (pe_ix ix_list (pv 4) (pv 6) (fun _ _ => rfl)))) pss_nil)))
  (pss_one (ps_ret pe_non))))), ?_⟩
  have kl : (ks.map V.int).length = ks.length := List.length_map ..
  have hnl : (numV cs).length = cs.length := List.length_map ..
  have go := gs_ok kb k3
  refine ⟨_, rfl, kr, rfl, ⟨_, SqL.of hkr⟩, fun D hD => ?_⟩
  refine lc_gm walk_list RF stb_RF ks kl (by omega) hD (fun H2 g2 => SqL.of (g2 _ _ hkr)) (fun i H x H' y => ys_at y) gF ?_ ?_
  · rintro j k x H2 H3 hk g2 g3 ⟨rfl, hx⟩ _ A B hA
    obtain ⟨k', hk', rfl⟩ := map_int hx
    rw [hk] at hk'
    obtain rfl := Option.some.inj hk'
    obtain ⟨k2, k10⟩ := kb k (List.mem_of_getElem? hk)
    exact ⟨rfl, lc_yes ⟨_, rfl, k, rfl, k2, k10, fun pg H4 g4 hpg => hA _ _ g4 ⟨pg, rfl, hpg⟩⟩⟩
  intro H1 gv g1 hgv rs
  have hgl := Rs.frs rs
  refine ⟨_, rfl, nr, _, rfl, .inl (SqL.of (g1 _ _ hnr)), ?_⟩
  rw [hnl]
  refine ⟨D, ks.map gF, cs.length, rfl, ⟨_, hgv, hgl⟩, go, n5, fun lr H2 g2 hL => ?_⟩
  have Vl := lev_is go cs.length
  have o := lev_levok go n5
  refine ⟨_, rfl, _, rfl, _, rfl, _, rfl, _, rfl, nr, kr, lr, cs, ks, _, size, lim, rfl, g2 _ _ (g1 _ _ hnr), g2 _ _ (g1 _ _ hkr), hL, o, kb, k3, n1, n5, fun fr' H3 qs g3 e1 e2 hf => ?_⟩
  have R := rel_tb (gs := ks.map gF) go.low Vl s0 l0 hc (fun k hk => List.mem_map.mpr ⟨k, hk, rfl⟩) e1 e2 cs.length (Nat.le_refl _) 0 cs.length (by omega) (by omega) (Nat.le_refl _)
  have D' := due_is go.low Vl (by omega) R
  have hL3 := hL.same g3
  have g123 := g1.trans (g2.trans g3)
  have D'' : (bestP cs size lim ks = none ∧ ∀ t, t < (levF (ks.map gF) cs.length).length → lim < lt cs size lim qs cs.length 0 cs.length t) ∨ ∃ e i, bestP cs size lim ks = some e ∧ e ∈ tb cs size ks lim cs.length 0 cs.length ∧ i < (levF (ks.map gF) cs.length).length ∧ lev (levF (ks.map gF) cs.length) i = fr e ∧ lt cs size lim qs cs.length 0 cs.length i ≤ lim ∧ ∀ t, t < i → lim < lt cs size lim qs cs.length 0 cs.length t := D'
  generalize levF (ks.map gF) cs.length = L at hL3 hf D'' o
  generalize lt cs size lim qs cs.length 0 cs.length = g at hf D''
  generalize bestP cs size lim ks = bp at q D''
  obtain ⟨lv, hl1, hl2⟩ := hL3
  have ll := hl2.len
  have ol := o.len
  refine ⟨_, rfl, lr, _, rfl, .inl (SqL.of hl1), ((lv.length : Nat) : Int), rfl, by omega, by omega, for_range (lo := 0) (n := ((lv.length : Nat) : Int).toNat) (fun t σ H' => ∃ v6 : Option V, σ = [some (.int size), some (.ref nr), some (.int lim), some (.ref kr), some (.ref lr), some (.ref fr'), v6, none] ∧ H' = H3 ∧ ∀ u, u < t → lim < g u) ⟨none, rfl, rfl, fun u h => by omega⟩ ?_ ?_⟩
  · rintro t σ H4 ht ⟨v6, rfl, rfl, hu⟩
    have htn : t < L.length := by omega
    have et : ((0 : Int) + (t : Nat)).toNat = t := by omega
    refine ⟨_, rfl, _, rfl, fr', _, _, _, rfl, rfl, SqL.of hf, at_pos (by omega) (by rw [et]; exact vec_at htn), ?_⟩
    refine ⟨_, rfl, _, _, rfl, rfl, _, rfl, ?_⟩
    show (if decide (g t ≤ lim) = true then _ else _)
    refine ite2 (fun c => ?_) (fun c => ?_)
    · have c1 : g t ≤ lim := of_decide_eq_true c
      obtain ⟨px, hpx, hfx⟩ := hl2.at' (lev_at htn)
      refine ⟨_, rfl, _, rfl, lr, _, _, _, rfl, rfl, SqL.of hl1, at_pos (by omega) (by rw [et]; exact hpx), ?_⟩
      refine q _ _ g123 ?_
      rcases D'' with ⟨_, h⟩ | ⟨e, i, rfl, _, hi, he, h1, h2⟩
      · exact absurd (h t htn) (by omega)
      · have : i = t := by
          rcases Nat.lt_trichotomy i t with z | z | z
          · exact absurd (hu i z) (by omega)
          · exact z
          · exact absurd (h2 t z) (by omega)
        subst this
        refine ⟨px, rfl, ?_⟩
        rw [← he]
        exact hfx
    · have c1 : ¬ g t ≤ lim := fun z => c (decide_eq_true z)
      refine ⟨_, rfl, rfl, fun u h => ?_⟩
      by_cases e : u = t
      · rw [e]; omega
      · exact hu u (by omega)
  · rintro σ H4 ⟨v6, rfl, rfl, hu⟩
    refine q _ _ g123 ?_
    rcases D'' with ⟨rfl, _⟩ | ⟨e, i, rfl, _, hi, he, h1, h2⟩
    · exact rfl
    · exact absurd (hu i (by omega)) (by omega)
end
end P64
namespace P64
open PySem PySem.Spec PyProof.Rows L2 SX EX WK
abbrev nK (n : List Nat) : Key := Sum.inr (S n)
/-- what the law knows of a plan: its names, its number, its peak, its factor -/
def WayAt (H : Hp) (r : Addr) (ns : List (List Nat)) (a : Fc) : Prop := ∃ ln lf, H r = some (.lst [.ref ln, .int a.most, .int a.peak, .ref lf]) ∧ H ln = some (.lst (nmV ns)) ∧ FrAt H lf a.top a.bot
theorem WayAt.same {H H' : Hp} {r : Addr} {ns : List (List Nat)} {a : Fc} (e : Same H H') (h : WayAt H r ns a) : WayAt H' r ns a := let ⟨ln, lf, h1, h2, h3⟩ := h; ⟨ln, lf, e _ _ h1, e _ _ h2, e _ _ h3⟩
/-- what the search of a way is given -/
structure WayOk (H : Hp) (kd kr : Addr) (kn : List Nat → Int) (size : Int) (ks : List Int) (N : List (List Nat)) : Prop where
  s0 : 0 ≤ size
  k0 : ∀ n, 0 ≤ kn n ∧ B 402 (kn n)
  kb : ∀ k ∈ ks, 2 ≤ k ∧ k ≤ 10
  kr : H kr = some (.lst (ks.map V.int))
  kd : ∀ n ∈ N, DGet H kd (.str (S n)) (some (.int (kn n)))
theorem DGet.same {H H' : Hp} {a : Addr} {y : V} {r : Option V} (e : Same H H') (h : DGet H a y r) : DGet H' a y r := by
  rcases h with ⟨kvs, k, e1, e2, e3⟩ | ⟨kvs, k, b, e1, e2, e3, e4⟩
  · exact .inl ⟨kvs, k, e1.imp (e _ _) (fun ⟨o, h⟩ => ⟨o, e _ _ h⟩), e2, e3⟩
  · exact .inr ⟨kvs, k, b, e1.imp (e _ _) (fun ⟨o, h⟩ => ⟨o, e _ _ h⟩), e2, e _ _ e3, e4⟩
theorem WayOk.same {H H' : Hp} {kd kr : Addr} {kn : List Nat → Int} {size : Int} {ks : List Int} {N : List (List Nat)} (e : Same H H') (h : WayOk H kd kr kn size ks N) : WayOk H' kd kr kn size ks N := ⟨h.s0, h.k0, h.kb, e _ _ h.kr, fun n hn => DGet.same e (h.kd n hn)⟩
theorem inV_ints {k : Int} {ks : List Int} (h : k ∈ ks) : inV (.int k) (ks.map V.int) = true := by
  induction ks with
  | nil => exact nomatch h
  | cons y ks ih =>
    have e : inV (.int k) ((y :: ks).map V.int) = ((y == k) || inV (.int k) (ks.map V.int)) := rfl
    rw [e]
    rcases List.mem_cons.mp h with rfl | h
    · simp
    · rw [ih h, Bool.or_true]
theorem flat_ints (ks : List Int) : (ks.map V.int).all flatV = true := by
  rw [List.all_eq_true]
  intro x hx
  obtain ⟨n, _, rfl⟩ := List.mem_map.mp hx
  rfl
theorem join_a {a b : Fc} (x : Fb 12 a) (y : Fb 12 b) (h : ¬ a.top * b.bot < b.top * a.bot) : (fJoin a b).top = a.top ∧ (fJoin a b).bot = a.bot := by
  unfold fJoin
  by_cases c : a.top * b.bot - b.top * a.bot > 0
  · rw [if_pos c]
    exact ⟨rfl, rfl⟩
  · rw [if_neg c]
    have e : a.top * b.bot = b.top * a.bot := by omega
    obtain ⟨e1, e2⟩ := low_uniq x.low y.low e
    exact ⟨e1.symm, e2.symm⟩
theorem join_b' {a b : Fc} (h : a.top * b.bot < b.top * a.bot) : (fJoin a b).top = b.top ∧ (fJoin a b).bot = b.bot := by
  unfold fJoin
  rw [if_neg (by omega)]
  exact ⟨rfl, rfl⟩
theorem join_pk (a b : Fc) : (fJoin a b).peak = imax (imax (a.most + b.most) a.peak) b.peak := by unfold fJoin; split <;> rfl
section
variable {P : Program} {w : World} {K : PySem.W.Frag} {mg : Str → Option Value} {base : Heap} {f : Addr} {fd : FuncData}
def spWay (h : Nat) : Sp := fun vs H Q _ => ∃ (pl : Plan) (p kd kr : Addr) (deep size : Int) (kn : List Nat → Int) (ks : List Int) (N : List (List Nat)), vs = [.ref p, .int deep, .int size, .ref kd, .ref kr] ∧ PlanAt H pl p ∧ pl.Good ks N ∧ pl.height ≤ h ∧ (pl.height : Int) ≤ deep ∧ deep ≤ 12 ∧ pl.names.length ≤ 1000 ∧ WayOk H kd kr kn size ks N ∧
  ∀ r H', Same H H' → WayAt H' r pl.names (fc kn size pl) → Q (.ref r) H'
abbrev s__law_way : Stmt := top 37
abbrev N__law_way : List Str := ["plan", "deep", "size", "known", "kinds", "one", "two", "factor", "inner"]
theorem sc__law_way : FnScope N__law_way ["plan", "deep", "size", "known", "kinds"] (defScope s__law_way) := ⟨rfl, rfl, rfl, by decide +kernel, rfl, by decide +kernel, by decide +kernel⟩
theorem ok__law_way {h : Nat} (F : Fun K "_law_way" "_law_way" s__law_way f fd) (T : Txt mg) (C__law_way : Cal P w K mg base (h + 4) "_law_way" ["plan", "deep", "size", "known", "kinds"] (spWay h)) (C__law_below : Cal P w K mg base 1 "_law_below" ["one", "two"] spBelow) (C__law_shrunk : Cal P w K mg base 1 "_law_shrunk" ["size", "number", "kind"] spShrunk) (C__law_times : Cal P w K mg base 3 "_law_times" ["one", "two"] spTimes) (C__law_whole : Cal P w K mg base 1 "_law_whole" ["value"] spLaw_whole) (C__law_grade_factor : Cal P w K mg base 3 "_law_grade_factor" ["k"] spGrade) :
    FnOk P w K mg base CX0 (h + 5) f fd ["plan", "deep", "size", "known", "kinds"] (spWay (h + 1)) := by
  refine F.ok sc__law_way (fun vs H Q E h => ?_) (fun cdv A outer s H vs Q E hr h => ?_)
  · obtain ⟨pl, p, kd, kr, deep, size, kn, ks, N, rfl, _⟩ := h
    rfl
  obtain ⟨pl, p, kd, kr, deep, size, kn, ks, N, rfl, hp, hg, hh, hd, hd12, hn, wo, q⟩ := h
  refine ⟨_, (pss_cons (ps_if (PW.pt (pw_or (pt_cmpR op_eq (pv 1) pe_int (nomark _)) (pw_or (pt_not (pt_val (pe_callB call_isi (by rfl) T.b_isinstance (by decide +kernel) (pa_cons (pv 0) (pa_cons (pe_bltn (v := .ty "tuple") (by rfl) T.b_tuple (by decide +kernel) rfl) pa_nil))))) (pw_or (pt_cmpR op_lt (pe_callB call_len_seq (by rfl) T.b_len PySem.boot_len (pa_cons (pv 0) pa_nil)) pe_int (nomark _)) (pw_or1 (pt_not (pt_val (pe_callB call_isi (by rfl) T.b_isinstance (by decide +kernel) (pa_cons (pe_ix ix_tup (pv 0) pe_int (fun _ _ => rfl)) (pa_cons (pe_bltn (v := .ty "str") (by rfl) T.b_str (by decide +kernel) rfl) pa_nil)))))))))) (pss_one (ps_ret pe_non)) pss_nil)
  (pss_cons (ps_if (PW.pt (pw_and (pt_cmpR op_eq (pe_ix ix_tup (pv 0) pe_int (fun _ _ => rfl)) pe_str (nomark _)) (pw_and (pt_cmpR op_eq (pe_callB call_len_seq (by rfl) T.b_len PySem.boot_len (pa_cons (pv 0) pa_nil)) pe_int (nomark _)) (pw_and (pt_val (pe_callB call_isi (by rfl) T.b_isinstance (by decide +kernel) (pa_cons (pe_ix ix_tup (pv 0) pe_int (fun _ _ => rfl)) (pa_cons (pe_bltn (v := .ty "str") (by rfl) T.b_str (by decide +kernel) rfl) pa_nil)))) (pw_and1 (pt_cmp (pc_din (hu_of hr) (pe_ix ix_tup (pv 0) pe_int (fun _ _ => rfl)) (pv 3)))))))) (pss_one (ps_ret (pe_lst (pa_cons (pe_lst (pa_cons (pe_ix ix_tup (pv 0) pe_int (fun _ _ => rfl)) pa_nil)) (pa_cons (pe_dget (hu_of hr) (pv 3) (pe_ix ix_tup (pv 0) pe_int (fun _ _ => rfl)) (fun _ _ => rfl)) (pa_cons (pe_dget (hu_of hr) (pv 3) (pe_ix ix_tup (pv 0) pe_int (fun _ _ => rfl)) (fun _ _ => rfl)) (pa_cons (pe_tup (pa_cons pe_int (pa_cons pe_int pa_nil))) pa_nil))))))) pss_nil)
  (pss_cons (ps_if (PW.pt (pw_and (pt_cmpR op_eq (pe_ix ix_tup (pv 0) pe_int (fun _ _ => rfl)) pe_str (nomark _)) (pw_and1 (pt_cmpR op_eq (pe_callB call_len_seq (by rfl) T.b_len PySem.boot_len (pa_cons (pv 0) pa_nil)) pe_int (nomark _))))) (pss_cons (ps_set (i := 5) sc__law_way.nd rfl (Or.inl rfl) (pe_cal C__law_way (hr.mono (by omega)) rfl (pa_cons (pe_ix ix_tup (pv 0) pe_int (fun _ _ => rfl)) (pa_cons (pe_op op_sub (pv 1) pe_int) (pa_cons (pv 2) (pa_cons (pv 3) (pa_cons (pv 4) pa_nil)))))))
  (pss_cons (ps_set (i := 6) sc__law_way.nd rfl (Or.inl rfl) (pe_cal C__law_way (hr.mono (by omega)) rfl (pa_cons (pe_ix ix_tup (pv 0) pe_int (fun _ _ => rfl)) (pa_cons (pe_op op_sub (pv 1) pe_int) (pa_cons (pv 2) (pa_cons (pv 3) (pa_cons (pv 4) pa_nil)))))))
  (pss_cons (ps_if (PW.pt (pw_or (pt_cmpR op_isN (pv 5) pe_non (nomark _)) (pw_or1 (pt_cmpR op_isN (pv 6) pe_non (nomark _))))) (pss_one (ps_ret pe_non)) pss_nil)
  (pss_cons (ps_set (i := 7) sc__law_way.nd rfl (Or.inl rfl) (pe_ix ix_list (pv 5) pe_int (fun _ _ => rfl)))
  (C8.pss_cut (ps_if (pt_val (pe_cal C__law_below (hr.mono (by omega)) rfl (pa_cons (pv 7) (pa_cons (pe_ix ix_list (pv 6) pe_int (fun _ _ => rfl)) pa_nil)))) (pss_one (ps_set (i := 7) sc__law_way.nd rfl (Or.inl rfl) (pe_ix ix_list (pv 6) pe_int (fun _ _ => rfl)))) pss_nil)
  (pss_one (ps_ret (pe_lst (pa_cons (pe_op op_cat (pe_ix ix_list (pv 5) pe_int (fun _ _ => rfl)) (pe_ix ix_list (pv 6) pe_int (fun _ _ => rfl))) (pa_cons (pe_op op_add (pe_ix ix_list (pv 5) pe_int (fun _ _ => rfl)) (pe_ix ix_list (pv 6) pe_int (fun _ _ => rfl))) (pa_cons (pe_callB (call_max3I rfl) (by rfl) T.b_max (by decide +kernel) (pa_cons (pe_op op_add (pe_ix ix_list (pv 5) pe_int (fun _ _ => rfl)) (pe_ix ix_list (pv 6) pe_int (fun _ _ => rfl))) (pa_cons (pe_ix ix_list (pv 5) pe_int (fun _ _ => rfl)) (pa_cons (pe_ix ix_list (pv 6) pe_int (fun _ _ => rfl)) pa_nil)))) (pa_cons (pv 7) pa_nil)))))))))))) pss_nil)
  (pss_cons (ps_if (PW.pt (pw_or (pt_cmpR op_ne (pe_ix ix_tup (pv 0) pe_int (fun _ _ => rfl)) pe_str (nomark _)) (pw_or (pt_cmpR op_ne (pe_callB call_len_seq (by rfl) T.b_len PySem.boot_len (pa_cons (pv 0) pa_nil)) pe_int (nomark _)) (pw_or (pt_not (pt_val (pe_cal C__law_whole (hr.mono (by omega)) rfl (pa_cons (pe_ix ix_tup (pv 0) pe_int (fun _ _ => rfl)) pa_nil)))) (pw_or1 (pt_cmpR op_notIn_seq (pe_ix ix_tup (pv 0) pe_int (fun _ _ => rfl)) (pv 4) (by rfl))))))) (pss_one (ps_ret pe_non)) pss_nil)
  (pss_cons (ps_set (i := 8) sc__law_way.nd rfl (Or.inl rfl) (pe_cal C__law_way (hr.mono (by omega)) rfl (pa_cons (pe_ix ix_tup (pv 0) pe_int (fun _ _ => rfl)) (pa_cons (pe_op op_sub (pv 1) pe_int) (pa_cons (pv 2) (pa_cons (pv 3) (pa_cons (pv 4) pa_nil)))))))
  (pss_cons (ps_if (PW.pt (pw_or (pt_cmpR op_isN (pv 8) pe_non (nomark _)) (pw_or1 (pt_cmpR op_eq (pe_ix ix_tup (pe_ix ix_tup (pv 0) pe_int (fun _ _ => rfl)) pe_int (fun _ _ => rfl)) pe_str (nomark _))))) (pss_one (ps_ret pe_non)) pss_nil)
  (pss_one (ps_ret (pe_lst (pa_cons (pe_ix ix_list (pv 8) pe_int (fun _ _ => rfl)) (pa_cons (pe_cal C__law_shrunk (hr.mono (by omega)) rfl (pa_cons (pv 2) (pa_cons (pe_ix ix_list (pv 8) pe_int (fun _ _ => rfl)) (pa_cons (pe_ix ix_tup (pv 0) pe_int (fun _ _ => rfl)) pa_nil)))) (pa_cons (pe_ix ix_list (pv 8) pe_int (fun _ _ => rfl)) (pa_cons (pe_cal C__law_times (hr.mono (by omega)) rfl (pa_cons (pe_ix ix_list (pv 8) pe_int (fun _ _ => rfl)) (pa_cons (pe_cal C__law_grade_factor (hr.mono (by omega)) rfl (pa_cons (pe_ix ix_tup (pv 0) pe_int (fun _ _ => rfl)) pa_nil)) pa_nil))) pa_nil))))))))))))), ?_⟩
  have hpos := height_pos pl
  have fcb : ∀ {x : Plan}, x.Good ks N → x.height ≤ 12 → Fb 12 (fc kn size x) := fun g hx => (fc_b wo.s0 wo.k0 wo.kb g).mono hx
  refine ⟨_, rfl, rfl, _, rfl, ifF (dec_ne fun e => by have := V.int.inj e; omega) ?_⟩
  cases pl with
  | take n =>
    have hp : H p = some (.tup [.str "take", .str (S n)]) := hp
    refine ⟨_, rfl, _, _, _, _, true, rfl, .ty _, .base (.tup hp), kit6, true, rfl, ifF rfl ?_⟩
    refine ⟨_, rfl, p, _, rfl, .inr (SqT.of hp), _, _, rfl, rfl, _, rfl, ifF rfl ?_⟩
    refine ⟨_, rfl, p, _, 0, _, rfl, rfl, SqT.of hp, at_pos (by decide) rfl, _, _, _, _, true, rfl, .ty _, .base (.str _), kit3, true, rfl, ifF rfl ?_⟩
    refine ⟨_, rfl, p, _, 0, _, rfl, rfl, SqT.of hp, at_pos (by decide) rfl, rfl, _, rfl, ifT (by decide +kernel) ?_⟩
    refine ⟨_, rfl, p, _, rfl, .inr (SqT.of hp), rfl, _, rfl, ifT rfl ?_⟩
    refine ⟨_, rfl, p, _, 1, _, rfl, rfl, SqT.of hp, at_pos (by decide) rfl, _, _, _, _, true, rfl, .ty _, .base (.str _), kit3, true, rfl, ifT rfl ?_⟩
    have dg := wo.kd n hg
    refine ⟨_, rfl, p, _, 1, _, rfl, rfl, SqT.of hp, at_pos (by decide) rfl, _, rfl, kd, _, rfl, dg, _, rfl, ifT rfl ?_⟩
    refine ⟨_, rfl, p, _, 1, _, rfl, rfl, SqT.of hp, at_pos (by decide) rfl, line_ge (by show 1 ≤ 100000; decide), fun ln hln => ?_⟩
    have g1 := same_new hln (.lst [V.str (S n)])
    refine ⟨_, rfl, _, rfl, p, _, 1, _, rfl, rfl, SqT.of (g1 _ _ hp), at_pos (by decide) rfl, kd, _, rfl, DGet.same g1 dg, ?_⟩
    refine ⟨_, rfl, _, rfl, p, _, 1, _, rfl, rfl, SqT.of (g1 _ _ hp), at_pos (by decide) rfl, kd, _, rfl, DGet.same g1 dg, ?_⟩
    refine ⟨two_line, fun lf hlf => ⟨line_ge (by show 4 ≤ 100000; decide), fun r hr0 => ?_⟩⟩
    have g2 := same_new hlf (.tup [V.int 1, V.int 1])
    have g3 := same_new hr0 (.lst [V.ref ln, V.int (kn n), V.int (kn n), V.ref lf])
    exact q r _ (g1.trans (g2.trans g3)) ⟨ln, lf, upd_same, g3 _ _ (g2 _ _ upd_same), g3 _ _ upd_same⟩
  | join x y =>
    obtain ⟨pa, pb, hp, ha, hb⟩ := hp
    have hx : x.height ≤ h ∧ (x.height : Int) ≤ deep - 1 := by simp only [Plan.height] at hh hd; omega
    have hy : y.height ≤ h ∧ (y.height : Int) ≤ deep - 1 := by simp only [Plan.height] at hh hd; omega
    have hnl : x.names.length + y.names.length ≤ 1000 := by
      have : (x.names ++ y.names).length ≤ 1000 := hn
      rw [List.length_append] at this
      exact this
    refine ⟨_, rfl, _, _, _, _, true, rfl, .ty _, .base (.tup hp), kit6, true, rfl, ifF rfl ?_⟩
    refine ⟨_, rfl, p, _, rfl, .inr (SqT.of hp), _, _, rfl, rfl, _, rfl, ifF rfl ?_⟩
    refine ⟨_, rfl, p, _, 0, _, rfl, rfl, SqT.of hp, at_pos (by decide) rfl, _, _, _, _, true, rfl, .ty _, .base (.str _), kit3, true, rfl, ifF rfl ?_⟩
    refine ⟨_, rfl, p, _, 0, _, rfl, rfl, SqT.of hp, at_pos (by decide) rfl, rfl, _, rfl, ifF (by decide +kernel) (ifF rfl ?_)⟩
    refine ⟨_, rfl, p, _, 0, _, rfl, rfl, SqT.of hp, at_pos (by decide) rfl, rfl, _, rfl, ifT (by decide +kernel) ?_⟩
    refine ⟨_, rfl, p, _, rfl, .inr (SqT.of hp), rfl, _, rfl, ifT rfl ?_⟩
    refine ⟨_, rfl, p, _, 1, _, rfl, rfl, SqT.of hp, at_pos (by decide) rfl, _, rfl, _, _, rfl, rfl, _, rfl, _, rfl, _, rfl, ?_⟩
    refine ⟨x, pa, kd, kr, deep - 1, size, kn, ks, N, rfl, ha, hg.1, hx.1, hx.2, by omega, by omega, wo, fun r1 H1 g1 hr1 => ?_⟩
    refine ⟨_, rfl, p, _, 2, _, rfl, rfl, SqT.of (g1 _ _ hp), at_pos (by decide) rfl, _, rfl, _, _, rfl, rfl, _, rfl, _, rfl, _, rfl, ?_⟩
    refine ⟨y, pb, kd, kr, deep - 1, size, kn, ks, N, rfl, hb.same g1, hg.2, hy.1, hy.2, by omega, by omega, wo.same g1, fun r2 H2 g2 hr2 => ?_⟩
    refine ⟨_, rfl, rfl, _, rfl, ifF (dec_ne fun e => nomatch e) ⟨_, rfl, rfl, _, rfl, ifF (dec_ne fun e => nomatch e) ?_⟩⟩
    have bx := fcb hg.1 (by omega)
    have by' := fcb hg.2 (by omega)
    have q := fun r H' (e : Same H2 H') (z : WayAt H' r (x.names ++ y.names) (fJoin (fc kn size x) (fc kn size y))) => q r H' (g1.trans (g2.trans e)) z
    have hr1 := hr1.same g2
    generalize fc kn size x = a at bx hr1 q
    generalize fc kn size y = b at by' hr2 q
    obtain ⟨l1, f1, h1, h1n, h1f⟩ := hr1
    obtain ⟨l2, f2, h2, h2n, h2f⟩ := hr2
    refine ⟨_, rfl, r1, _, 3, _, rfl, rfl, SqL.of h1, at_pos (by decide) rfl, ?_⟩
    refine ⟨fun σ H' => ∃ lf, σ = [some (.ref p), some (.int deep), some (.int size), some (.ref kd), some (.ref kr), some (.ref r1), some (.ref r2), some (.ref lf), none] ∧ H' = H2 ∧ FrAt H2 lf (fJoin a b).top (fJoin a b).bot, ?_, ?_⟩
    · refine ⟨_, rfl, _, rfl, r2, _, 3, _, rfl, rfl, SqL.of h2, at_pos (by decide) rfl, f1, f2, _, _, _, _, rfl, h1f, h2f, bx.t1.mono (by decide), bx.b1.mono (by decide), by'.t1.mono (by decide), by'.b1.mono (by decide), _, rfl, ?_⟩
      refine ite2 (fun c => ?_) (fun c => ?_)
      · obtain ⟨e1, e2⟩ := join_b' (dec_lt c)
        exact ⟨_, rfl, r2, _, 3, _, rfl, rfl, SqL.of h2, at_pos (by decide) rfl, f2, rfl, rfl, by rw [e1, e2]; exact h2f⟩
      · obtain ⟨e1, e2⟩ := join_a bx by' (not_lt c)
        exact ⟨f1, rfl, rfl, by rw [e1, e2]; exact h1f⟩
    rintro σ H3 ⟨lf, rfl, rfl, hlf⟩
    refine ⟨_, rfl, r1, _, 0, _, rfl, rfl, SqL.of h1, at_pos (by decide) rfl, _, rfl, r2, _, 0, _, rfl, rfl, SqL.of h2, at_pos (by decide) rfl, l1, l2, _, _, rfl, rfl, h1n, h2n, line_ge (by unfold nmV; rw [List.length_map, List.length_map]; omega), fun z hz => ?_⟩
    have g3 := same_new hz (.lst (nmV x.names ++ nmV y.names))
    have h1 := g3 _ _ h1
    have h2 := g3 _ _ h2
    refine ⟨_, rfl, r1, _, 1, _, rfl, rfl, SqL.of h1, at_pos (by decide) rfl, _, rfl, r2, _, 1, _, rfl, rfl, SqL.of h2, at_pos (by decide) rfl, _, _, rfl, rfl, ?_⟩
    refine ⟨_, rfl, r1, _, 1, _, rfl, rfl, SqL.of h1, at_pos (by decide) rfl, _, rfl, r2, _, 1, _, rfl, rfl, SqL.of h2, at_pos (by decide) rfl, _, _, rfl, rfl, ?_⟩
    refine ⟨_, rfl, r1, _, 2, _, rfl, rfl, SqL.of h1, at_pos (by decide) rfl, _, rfl, r2, _, 2, _, rfl, rfl, SqL.of h2, at_pos (by decide) rfl, _, _, _, rfl, ?_⟩
    refine ⟨_, rfl, line_ge (by show 4 ≤ 100000; decide), fun r hr0 => ?_⟩
    have g4 := same_new hr0 (.lst [V.ref z, V.int (a.most + b.most), V.int (imax (imax (a.most + b.most) a.peak) b.peak), V.ref lf])
    refine q r _ (g3.trans g4) ⟨z, lf, ?_, ?_, ?_⟩
    · rw [join_most, join_pk]
      exact upd_same
    · have e : nmV (x.names ++ y.names) = nmV x.names ++ nmV y.names := by unfold nmV; rw [List.map_append]
      rw [e]
      exact g4 _ _ upd_same
    · exact hlf.same (g3.trans g4)
  | thin k x =>
    obtain ⟨pa, hp, ha⟩ := hp
    obtain ⟨hk, tk, hgx⟩ := hg
    obtain ⟨k2, k10⟩ := wo.kb k hk
    have hx : x.height ≤ h ∧ (x.height : Int) ≤ deep - 1 := by simp only [Plan.height] at hh hd; omega
    refine ⟨_, rfl, _, _, _, _, true, rfl, .ty _, .base (.tup hp), kit6, true, rfl, ifF rfl ?_⟩
    refine ⟨_, rfl, p, _, rfl, .inr (SqT.of hp), _, _, rfl, rfl, _, rfl, ifF rfl ?_⟩
    refine ⟨_, rfl, p, _, 0, _, rfl, rfl, SqT.of hp, at_pos (by decide) rfl, _, _, _, _, true, rfl, .ty _, .base (.str _), kit3, true, rfl, ifF rfl ?_⟩
    refine ⟨_, rfl, p, _, 0, _, rfl, rfl, SqT.of hp, at_pos (by decide) rfl, rfl, _, rfl, ifF (by decide +kernel) (ifF rfl ?_)⟩
    refine ⟨_, rfl, p, _, 0, _, rfl, rfl, SqT.of hp, at_pos (by decide) rfl, rfl, _, rfl, ifF (by decide +kernel) (ifF rfl ?_)⟩
    refine ⟨_, rfl, p, _, 0, _, rfl, rfl, SqT.of hp, at_pos (by decide) rfl, rfl, _, rfl, ifF (by decide +kernel) ?_⟩
    refine ⟨_, rfl, p, _, rfl, .inr (SqT.of hp), rfl, _, rfl, ifF rfl ?_⟩
    refine ⟨_, rfl, p, _, 1, _, rfl, rfl, SqT.of hp, at_pos (by decide) rfl, k, rfl, true, rfl, ifF rfl ?_⟩
    refine ⟨_, rfl, p, _, 1, _, rfl, rfl, SqT.of hp, at_pos (by decide) rfl, _, rfl, kr, ks.map V.int, rfl, .inl (SqL.of wo.kr), rfl, flat_ints ks, _, rfl, ifF (by show (!inV (V.int k) (ks.map V.int)) = false; rw [inV_ints hk]; rfl) ?_⟩
    refine ⟨_, rfl, p, _, 2, _, rfl, rfl, SqT.of hp, at_pos (by decide) rfl, _, rfl, _, _, rfl, rfl, _, rfl, _, rfl, _, rfl, ?_⟩
    refine ⟨x, pa, kd, kr, deep - 1, size, kn, ks, N, rfl, ha, hgx, hx.1, hx.2, by omega, hn, wo, fun r1 H1 g1 hr1 => ?_⟩
    refine ⟨_, rfl, rfl, _, rfl, ifF (dec_ne fun e => nomatch e) ?_⟩
    have bx := fcb hgx (by omega)
    have hp1 := g1 _ _ hp
    have q := fun r H' (e : Same H1 H') (z : WayAt H' r x.names (fThin k size (fc kn size x))) => q r H' (g1.trans e) z
    have tag : ∃ t xs, H1 pa = some (.tup (V.str t :: xs)) ∧ t ≠ "thin" := by
      have ha1 := ha.same g1
      cases x with
      | take n => exact ⟨_, _, ha1, by decide +kernel⟩
      | join y z => obtain ⟨_, _, h, _⟩ := ha1; exact ⟨_, _, h, by decide +kernel⟩
      | thin k y => exact tk.elim
    obtain ⟨t, xs, htag, hne⟩ := tag
    refine ⟨_, rfl, p, _, 2, _, rfl, rfl, SqT.of hp1, at_pos (by decide) rfl, pa, _, 0, _, rfl, rfl, SqT.of htag, at_pos (by decide) rfl, rfl, _, rfl, ifF (dec_ne fun e => hne (V.str.inj e)) ?_⟩
    generalize fc kn size x = a at bx hr1 q
    obtain ⟨l1, f1, h1, h1n, h1f⟩ := hr1
    obtain ⟨p1, p2, q1, q2⟩ := grade_ok k2 k10
    have l := low_of p1 p2
    have g := gI_pos (t := gradeT k) p2
    refine ⟨_, rfl, r1, _, 0, _, rfl, rfl, SqL.of h1, at_pos (by decide) rfl, ?_⟩
    refine ⟨_, rfl, _, rfl, r1, _, 1, _, rfl, rfl, SqL.of h1, at_pos (by decide) rfl, _, rfl, p, _, 1, _, rfl, rfl, SqT.of hp1, at_pos (by decide) rfl, size, _, k, rfl, k2, k10, ?_⟩
    refine ⟨_, rfl, r1, _, 2, _, rfl, rfl, SqL.of h1, at_pos (by decide) rfl, ?_⟩
    refine ⟨_, rfl, r1, _, 3, _, rfl, rfl, SqL.of h1, at_pos (by decide) rfl, _, rfl, p, _, 1, _, rfl, rfl, SqT.of hp1, at_pos (by decide) rfl, k, rfl, k2, k10, fun r2 H2 g2 hr2 => ?_⟩
    refine ⟨f1, r2, a.top, a.bot, _, _, rfl, h1f.same g2, hr2, bx.low.tp, bx.low.bp, l.tp, l.bp, bx.t1.mono (by decide), bx.b1.mono (by decide), (B_small (by omega) q1).div (by omega) g, (B_small (by omega) q2).div (by omega) g, fun r3 H3 g3 hr3 => ?_⟩
    refine ⟨line_ge (by show 4 ≤ 100000; decide), fun r hr0 => ?_⟩
    have g4 := same_new hr0 (.lst [V.ref l1, V.int (shr size k a.most), V.int a.peak, V.ref r3])
    exact q r _ (g2.trans (g3.trans g4)) ⟨l1, r3, upd_same, g4 _ _ (g3 _ _ (g2 _ _ h1n)), hr3.same g4⟩
theorem none_way {k : Nat} : FnOk P w K mg base CX0 k f fd ["plan", "deep", "size", "known", "kinds"] (spWay 0) := by
  have no : ∀ vs H Q E, ¬ spWay 0 vs H Q E := fun vs H Q E h => by
    obtain ⟨pl, p, _, _, _, _, _, _, _, _, _, _, hh, _⟩ := h
    have := height_pos pl
    omega
  exact ⟨fun vs H Q E h => absurd h (no vs H Q E), fun A outer s H args us vs Q E _ _ _ _ h => absurd h (no vs H Q E)⟩
theorem all_way (T : Txt mg) (F : Fun K "_law_way" "_law_way" s__law_way f fd) (m : mg "_law_way" = some (.ref f)) (b : Binds K fd ["plan", "deep", "size", "known", "kinds"] []) (C__law_below : Cal P w K mg base 1 "_law_below" ["one", "two"] spBelow) (C__law_shrunk : Cal P w K mg base 1 "_law_shrunk" ["size", "number", "kind"] spShrunk) (C__law_times : Cal P w K mg base 3 "_law_times" ["one", "two"] spTimes) (C__law_whole : Cal P w K mg base 1 "_law_whole" ["value"] spLaw_whole) (C__law_grade_factor : Cal P w K mg base 3 "_law_grade_factor" ["k"] spGrade) : ∀ h : Nat, Cal P w K mg base (h + 4) "_law_way" ["plan", "deep", "size", "known", "kinds"] (spWay h)
  | 0 => ⟨f, fd, none_way, m, F.kp, b⟩
  | h + 1 => ⟨f, fd, ok__law_way F T (all_way T F m b C__law_below C__law_shrunk C__law_times C__law_whole C__law_grade_factor h) C__law_below C__law_shrunk C__law_times C__law_whole C__law_grade_factor, m, F.kp, b⟩
end
end P64
namespace P64
open PySem PySem.Spec PyProof.Rows L2 SX EX WK
/-! ### the dict of the counts -/
def kvsOf (cs : List Cnt) : List (Key × V) := cs.foldl (fun acc c => putK acc (nK c.1) (.int c.2)) []
theorem kvs_snoc {cs : List Cnt} {i : Nat} {c : Cnt} (h : cs[i]? = some c) : kvsOf (cs.take (i + 1)) = putK (kvsOf (cs.take i)) (nK c.1) (.int c.2) := by
  rw [take_snoc h]
  unfold kvsOf
  rw [List.foldl_append]
  rfl
theorem kvs_len (cs : List Cnt) : (kvsOf cs).length ≤ cs.length := by
  have go : ∀ (cs : List Cnt) (acc : List (Key × V)), (cs.foldl (fun acc c => putK acc (nK c.1) (.int c.2)) acc).length ≤ acc.length + cs.length := fun cs => by
    induction cs with
    | nil => exact fun acc => Nat.le_refl _
    | cons c cs ih =>
      intro acc
      have h1 := ih (putK acc (nK c.1) (.int c.2))
      have h2 := length_putK acc (nK c.1) (.int c.2)
      rw [List.foldl_cons, List.length_cons]
      omega
  have := go cs []
  rw [List.length_nil, Nat.zero_add] at this
  exact this
theorem nK_inj {a b : List Nat} (h : nK a = nK b) : a = b := by
  injection h with h
  have e : (S a == S b) = decide (a = b) := S_beq_eq
  have e2 : (S a == S b) = true := by rw [h]; exact beq_self_eq_true _
  rw [e2] at e
  exact of_decide_eq_true e.symm
theorem kvs_at {kn : List Nat → Int} : ∀ (cs : List Cnt) (acc : List (Key × V)) (n : List Nat), (∀ c ∈ cs, kn c.1 = c.2) → (n ∈ cs.map (·.1) ∨ valV acc (nK n) = some (.int (kn n))) → valV (cs.foldl (fun acc c => putK acc (nK c.1) (.int c.2)) acc) (nK n) = some (.int (kn n))
  | [], acc, n, _, h => h.elim (fun h => nomatch h) id
  | c :: cs, acc, n, hk, h => by
    rw [List.foldl_cons]
    refine kvs_at cs _ n (fun x hx => hk x (List.mem_cons_of_mem _ hx)) ?_
    by_cases e : n = c.1
    · refine .inr ?_
      rw [valV_put, if_pos (by rw [e]), e, hk c List.mem_cons_self]
    · rcases h with h | h
      · rw [List.map_cons] at h
        rcases List.mem_cons.mp h with h | h
        · exact absurd h e
        · exact .inl h
      · refine .inr ?_
        rw [valV_put, if_neg fun z => e (nK_inj z)]
        exact h
/-- the counts as tuples in a list -/
def TupAt (H : Hp) (b : Addr) (c : Cnt) : Prop := H b = some (.tup [.str (S c.1), .int c.2])
def CtAt (H : Hp) (a : Addr) (cs : List Cnt) : Prop := ∃ bs : List Addr, H a = some (.lst (bs.map V.ref)) ∧ Paired (TupAt H) bs cs
theorem CtAt.same {H H' : Hp} {a : Addr} {cs : List Cnt} (e : Same H H') (h : CtAt H a cs) : CtAt H' a cs := let ⟨bs, h1, h2⟩ := h; ⟨bs, e _ _ h1, L2.Paired.mapP h2 fun _ _ h => e _ _ h⟩
theorem ct_at {H : Hp} {bs : List Addr} {cs : List Cnt} {i : Nat} {x : V} (h : Paired (TupAt H) bs cs) (hx : (bs.map V.ref)[i]? = some x) : ∃ b c, x = .ref b ∧ cs[i]? = some c ∧ TupAt H b c := by
  have hi : i < cs.length := by
    have := (List.getElem?_eq_some_iff.mp hx).1
    rw [List.length_map, Paired.len h] at this
    exact this
  have he : cs[i]? = some cs[i] := List.getElem?_eq_getElem hi
  obtain ⟨p, hp, hpe⟩ := Paired.at h he
  rw [List.getElem?_map, hp] at hx
  exact ⟨p, cs[i], (Option.some.inj hx).symm, he, hpe⟩
def RN : Hp → V → List Nat → Prop := fun _ v n => v = .str (S n)
abbrev nmD (l : List (List Nat)) : PyData := .list (l.map fun n => .str (S n))
theorem nm_all {K : PySem.W.Frag} {H : Hp} : ∀ l : List (List Nat), DpAll K H (nmV l) (l.map fun n => PyData.str (S n))
  | [] => .nil
  | n :: l => .cons (.str _) (nm_all l)
theorem nm_lay : ∀ {l : List (List Nat)}, (∀ x ∈ l, Nm x) → PyData.canLayAll0 (l.map fun n => PyData.str (S n)) = true
  | [], _ => rfl
  | n :: l, h => by
    have h1 : PyData.strOk (S n) = true := by
      unfold PyData.strOk
      rw [← Array.all_toList, List.all_eq_true]
      intro d hd
      have := (h n List.mem_cons_self).2 d hd
      exact decide_eq_true (by omega)
    have h2 := nm_lay (l := l) fun x hx => h x (List.mem_cons_of_mem _ hx)
    rw [List.map_cons, PyData.canLayAll0, h2]
    simp [PyData.canLay0, h1]
theorem nm_dep : ∀ l : List (List Nat), PyData.depthAll (l.map fun n => PyData.str (S n)) ≤ 1
  | [] => Nat.zero_le _
  | n :: l => by
    have h := nm_dep l
    rw [List.map_cons]
    simp only [PyData.depthAll, PyData.depth]
    omega
theorem nm_shaped {l : List (List Nat)} (h : ∀ x ∈ l, Nm x) : SeqAt.shaped (nmD l) = true := by
  have h1 : (nmD l).canLay0 = true := by
    unfold nmD
    rw [PyData.canLay0]
    exact nm_lay h
  have h2 : (nmD l).depth ≤ 64 := by
    have := nm_dep l
    unfold nmD
    simp only [PyData.depth]
    omega
  unfold SeqAt.shaped
  rw [h1, decide_eq_true h2]
  rfl
theorem eqv_self {d : PyData} (h : SeqAt.shaped d = true) : PyData.eqv d d = true := SeqAt.eqv_refl _ (SeqAt.canLay_of_shaped h)
section
variable {P : Program} {w : World} {K : PySem.W.Frag} {mg : Str → Option Value} {base : Heap} {f : Addr} {fd : FuncData}
def spRight : Sp := fun vs H Q _ => ∃ (told : V) (cr kr : Addr) (cs : List Cnt) (kn : List Nat → Int) (ks : List Int) (size lim : Int), vs = [told, .int size, .ref cr, .int lim, .ref kr] ∧ CtAt H cr cs ∧ H kr = some (.lst (ks.map V.int)) ∧ AskOk cs kn size ks ∧ 0 ≤ lim ∧ (∀ c ∈ cs, Nm c.1) ∧ PlanV H (bestP cs size lim ks) told ∧ ∀ H', Same H H' → Q (.bl true) H'
abbrev s__law_right : Stmt := top 38
abbrev N__law_right : List Str := ["told", "size", "counts", "most", "kinds", "pair", "due", "known", "way"]
theorem sc__law_right : FnScope N__law_right ["told", "size", "counts", "most", "kinds"] (defScope s__law_right) := ⟨rfl, rfl, rfl, by decide +kernel, rfl, by decide +kernel, by decide +kernel⟩
theorem ok__law_right (F : Fun K "_law_right" "_law_right" s__law_right f fd) (T : Txt mg) (C__law_due : Cal P w K mg base 6 "_law_due" ["size", "numbers", "most", "kinds"] spDue) (C__law_way : Cal P w K mg base 16 "_law_way" ["plan", "deep", "size", "known", "kinds"] (spWay 12)) : FnOk P w K mg base CX0 17 f fd ["told", "size", "counts", "most", "kinds"] spRight := by
  refine F.ok sc__law_right (fun vs H Q E h => ?_) (fun cdv A outer s H vs Q E hr h => ?_)
  · obtain ⟨told, cr, kr, cs, kn, ks, size, lim, rfl, _⟩ := h
    rfl
  obtain ⟨told, cr, kr, cs, kn, ks, size, lim, rfl, ⟨bs, hcr, hbs⟩, hkr, ao, l0, hnm, hpl, q⟩ := h
  refine ⟨_, (pss_cons (ps_set (i := 6) sc__law_right.nd rfl (Or.inl rfl) (pe_cal C__law_due (hr.mono (by omega)) rfl (pa_cons (pv 1) (pa_cons (pe_lc (own := [("pair", 5)]) (g := gName 5) (tt := tYes) (by rfl) sc__law_right.nd (pi_list (pv 2)) (blkOk_by (N := N__law_right) (sc := defScope s__law_right) (by decide +kernel)) (fun _ _ _ _ _ => (pg_name (i := 5) sc__law_right.nd rfl (Or.inl rfl))) (fun _ _ _ _ _ => pts_nil) (fun _ _ _ _ _ => (pe_ix (ix_tupK (K := K) rfl) (pv 5) pe_int (fun _ _ => rfl)))) (pa_cons (pv 3) (pa_cons (pv 4) pa_nil))))))
  (pss_cons (ps_if (pt_cmpR op_isN (pv 6) pe_non (nomark _)) (pss_one (ps_ret (pe_cmpR op_isN (pv 0) pe_non (nomark _)))) pss_nil)
  (pss_cons (ps_set (i := 7) sc__law_right.nd rfl (Or.inl rfl) pe_dnewK)
  (pss_cons (ps_for PassesOwn.never rfl (pi_list (pv 2)) (pg_name (i := 5) sc__law_right.nd rfl (Or.inl rfl)) (pss_one (ps_dput (hu_of hr) (pv 7) (pe_ix ix_tup (pv 5) pe_int (fun _ _ => rfl)) (pe_ix ix_tup (pv 5) pe_int (fun _ _ => rfl)) rfl)))
  (pss_cons (ps_set (i := 8) sc__law_right.nd rfl (Or.inl rfl) (pe_cal C__law_way (hr.mono (by omega)) rfl (pa_cons (pv 0) (pa_cons pe_int (pa_cons (pv 1) (pa_cons (pv 7) (pa_cons (pv 4) pa_nil)))))))
  (pss_cons (ps_if (PW.pt (pw_or (pt_cmpR op_isN (pv 8) pe_non (nomark _)) (pw_or1 (pt_cmpR (op_neD hr.units) (pe_ix ix_list (pv 8) pe_int (fun _ _ => rfl)) (pe_lc (own := [("pair", 5)]) (g := gName 5) (tt := tYes) (by rfl) sc__law_right.nd (pi_list (pv 2)) (blkOk_by (N := N__law_right) (sc := defScope s__law_right) (by decide +kernel)) (fun _ _ _ _ _ => (pg_name (i := 5) sc__law_right.nd rfl (Or.inl rfl))) (fun _ _ _ _ _ => pts_nil) (fun _ _ _ _ _ => (pe_ix (ix_tupK (K := K) rfl) (pv 5) pe_int (fun _ _ => rfl)))) (nomark _))))) (pss_one (ps_ret pe_bl)) pss_nil)
  (pss_one (ps_ret (pe_and (pe_cmpR op_le (pe_ix ix_list (pv 8) pe_int (fun _ _ => rfl)) (pv 3) (nomark _)) (pe_one (pe_cmpR (op_eqD hr.units) (pe_ix ix_list (pv 8) pe_int (fun _ _ => rfl)) (pv 6) (nomark _)))))))))))), ?_⟩
  have n1 := ao.n1
  have n5 := ao.n5
  have hbl : (bs.map V.ref).length = cs.length := by rw [List.length_map, Paired.len hbs]
  have c0 : ∀ c ∈ cs, 0 ≤ c.2 := fun c hc => by rw [← ao.kn c hc]; exact (ao.k0 c.1).1
  have pgt : ∀ e, bestP cs size lim ks = some e → PG cs kn size ks lim 0 cs.length (2 * cs.length) e := fun e he => by
    have hm : e ∈ tb cs size ks lim cs.length 0 cs.length := by
      rcases best_mem _ _ _ he with h | h
      · cases h
      · exact h
    have := pg_tb (kn := kn) ao.kn cs.length 0 cs.length (by omega) (by omega) e hm
    exact ⟨this.fc_, this.nm, this.gd, by have := this.ht; omega, this.pk⟩
  refine ⟨_, rfl, _, rfl, cr, rfl, ⟨_, SqL.of hcr⟩, fun D hD => ?_⟩
  refine lc_gm walk_list RI (fun _ _ _ _ _ _ h => h) cs hbl (by omega) hD (fun H2 g2 => SqL.of (g2 _ _ hcr)) (fun i H x H' y => ys_at y) (fun c => c.2) ?_ ?_
  · rintro j c x H2 H3 hc g2 g3 ⟨rfl, hx⟩ _ A B hA
    obtain ⟨b, c', rfl, hc', hbc⟩ := ct_at hbs hx
    rw [hc] at hc'
    obtain rfl := Option.some.inj hc'
    exact ⟨rfl, lc_yes ⟨_, rfl, b, _, 1, _, rfl, rfl, SqT.of (g2 _ _ hbc), at_pos (by decide) rfl, hA _ _ (Same.refl _) rfl⟩⟩
  intro H1 vi g1 hvi rs
  have e1 : vi = numV cs := by
    rw [rs.ints, List.map_map]
    rfl
  rw [e1] at hvi
  refine ⟨_, rfl, _, rfl, D, kr, cs, ks, size, lim, rfl, hvi, g1 _ _ hkr, ao.kb, ao.k3, n1, n5, ao.s0, l0, c0, fun v H2 g2 hv => ?_⟩
  clear rs e1
  have g12 := g1.trans g2
  generalize bestP cs size lim ks = bp at hpl hv pgt
  cases bp with
  | none =>
    have e2 : v = .non := hv
    have e3 : told = .non := hpl
    subst e2
    subst e3
    refine ⟨_, rfl, rfl, _, rfl, ifT (by decide) ?_⟩
    exact ⟨_, rfl, rfl, q H2 g12⟩
  | some e =>
    have pg := pgt e rfl
    obtain ⟨pd, rfl, hpd⟩ := hv
    obtain ⟨p, rfl, hp⟩ := hpl
    refine ⟨_, rfl, rfl, _, rfl, ifF (dec_ne fun e => nomatch e) ?_⟩
    refine fun d h0 => ?_
    have g3 := same_new h0 (.dK [])
    refine ⟨_, rfl, cr, rfl, ⟨_, SqL.of (g3 _ _ (g12 _ _ hcr))⟩, for_list (K := K) (a := cr) (xs := bs.map V.ref) (fun i σ H' => ∃ v5 : Option V, σ = [some (.ref p), some (.int size), some (.ref cr), some (.int lim), some (.ref kr), v5, some (.ref pd), some (.ref d), none] ∧ Same H2 H' ∧ H' d = some (.dK (kvsOf (cs.take i)))) ⟨none, rfl, g3, upd_same⟩ (fun i σ H' _ ⟨_, _, g, _⟩ => SqL.of (g _ _ (g12 _ _ hcr))) ?_ ?_⟩
    · rintro i x σ H3 hx ⟨v5, rfl, g4, hd⟩
      obtain ⟨b, c, rfl, hc, hbc⟩ := ct_at hbs hx
      have hbc := g4 _ _ (g12 _ _ hbc)
      refine ⟨_, rfl, b, _, 1, _, rfl, rfl, SqT.of hbc, at_pos (by decide) rfl, _, rfl, _, rfl, b, _, 0, _, rfl, rfl, SqT.of hbc, at_pos (by decide) rfl, ?_⟩
      have kl := kvs_len (cs.take i)
      rw [List.length_take] at kl
      refine ⟨d, _, rfl, DPut.k (k := nK c.1) hd (small1000 (by omega)), ?_⟩
      exact ⟨_, rfl, same_at g4 h0, by rw [upd_same, kvs_snoc hc]⟩
    · rintro σ H3 ⟨v5, rfl, g4, hd⟩
      rw [hbl, List.take_length] at hd
      have g124 := g12.trans g4
      have wo : WayOk H3 d kr kn size ks (cs.map (·.1)) := by
        refine ⟨ao.s0, ao.k0, ao.kb, g124 _ _ hkr, fun n hn => ?_⟩
        have := DGet.k (k := nK n) hd
        rw [show valV (kvsOf cs) (nK n) = some (.int (kn n)) from kvs_at cs [] n ao.kn (.inl hn)] at this
        exact this
      have hnl : e.2.names.length = cs.length := by
        rw [pg.nm, List.length_map, seg_all]
      have ht := pg.ht
      refine ⟨_, rfl, _, rfl, _, rfl, _, rfl, ?_⟩
      refine ⟨e.2, p, d, kr, 12, size, kn, ks, cs.map (·.1), rfl, hp.same g124, pg.gd, by omega, by omega, by omega, by omega, wo, fun r H4 g5 hr4 => ?_⟩
      rw [← pg.fc_, pg.nm, seg_all] at hr4
      obtain ⟨ln, lf, h1, h1n, h1f⟩ := hr4
      refine ⟨_, rfl, rfl, _, rfl, ifF (dec_ne fun e => nomatch e) ?_⟩
      have hcr4 := g5 _ _ (g124 _ _ hcr)
      refine ⟨_, rfl, r, _, 0, _, rfl, rfl, SqL.of h1, at_pos (by decide) rfl, ?_⟩
      refine ⟨_, rfl, cr, rfl, ⟨_, SqL.of hcr4⟩, fun D2 hD2 => ?_⟩
      refine lc_gm walk_list RN (fun _ _ _ _ _ _ h => h) cs hbl (by omega) hD2 (fun H2 g2 => SqL.of (g2 _ _ hcr4)) (fun i H x H' y => ys_at y) (fun c => c.1) ?_ ?_
      · rintro j c x H5 H6 hc g6 g7 ⟨rfl, hx⟩ _ A B hA
        obtain ⟨b, c', rfl, hc', hbc⟩ := ct_at hbs hx
        rw [hc] at hc'
        obtain rfl := Option.some.inj hc'
        exact ⟨rfl, lc_yes ⟨_, rfl, b, _, 0, _, rfl, rfl, SqT.of (g6 _ _ (g5 _ _ (g124 _ _ hbc))), at_pos (by decide) rfl, hA _ _ (Same.refl _) rfl⟩⟩
      intro H5 nl g6 hnl5 rs
      have e2 : nl = nmV (cs.map (·.1)) := rs.maps (f := fun n => V.str (S n)) fun _ _ _ e => e
      rw [e2] at hnl5
      have sh : SeqAt.shaped (nmD (cs.map (·.1))) = true := nm_shaped fun x hx => by
        obtain ⟨c, hc, rfl⟩ := List.mem_map.mp hx
        exact hnm c hc
      refine ⟨nmD (cs.map (·.1)), nmD (cs.map (·.1)), .lst (SqL.of (g6 _ _ h1n)) (nm_all _), .lst (SqL.of hnl5) (nm_all _), sh, sh, _, rfl, ifF (by rw [eqv_self sh]; rfl) ?_⟩
      have h16 := g6 _ _ h1
      refine ⟨_, rfl, r, _, 2, _, rfl, rfl, SqL.of h16, at_pos (by decide) rfl, _, rfl, _, _, rfl, rfl, _, rfl, ifT (decide_eq_true pg.pk) ?_⟩
      refine ⟨_, rfl, r, _, 3, _, rfl, rfl, SqL.of h16, at_pos (by decide) rfl, _, rfl, ?_⟩
      refine ⟨frD (fr e), frD (fr e), dp_fr (show FrP H5 lf (fr e) from g6 _ _ h1f), dp_fr (hpd.sameT (SameT.of (g4.trans (g5.trans g6)))), fr_shaped _, fr_shaped _, ?_⟩
      rw [eqv_self (fr_shaped _)]
      exact q H5 (g124.trans (g5.trans g6))
end
end P64
namespace P64
open PySem PySem.Spec PyProof.Rows L2 SX EX WK
def cntSizes : List Int := [100, 61, 12, 3, 3, 10 ^ 60, 10 ^ 58]
theorem ten60 : (10 : Int) ^ 60 < 2 ^ 200 := by decide +kernel
theorem ten58 : (10 : Int) ^ 58 < 2 ^ 200 := by decide +kernel
theorem B_of {n : Nat} {x y : Int} (h0 : 0 ≤ x) (h : x ≤ y) (hy : y < 2 ^ n) : B n x := by
  have e : ((2 ^ n : Nat) : Int) = (2 : Int) ^ n := by
    rw [Int.natCast_pow]
    rfl
  show x.natAbs < 2 ^ n
  have h1 : ((x.natAbs : Nat) : Int) < ((2 ^ n : Nat) : Int) := by
    rw [e, Int.natAbs_of_nonneg h0]
    omega
  exact Int.ofNat_lt.mp h1
theorem B_tiny {x : Int} (h0 : 0 ≤ x) (h : x < 65536) : B 402 x := B.mono (m := 16) (by show x.natAbs < 65536; omega) (by decide)
theorem B_add {n : Nat} {x y : Int} (h0 : 0 ≤ x) (h1 : 0 ≤ y) (hx : B n x) (hy : B n y) : B (n + 1) (x + y) := by
  have h1 : x.natAbs < 2 ^ n := hx
  have h2 : y.natAbs < 2 ^ n := hy
  show (x + y).natAbs < 2 ^ (n + 1)
  rw [Nat.pow_succ]
  omega
theorem near_small {k s : Int} (k2 : 2 ≤ k) (k10 : k ≤ 10) (s0 : 0 ≤ s) (s10 : s ≤ 10) : 0 ≤ k * k * s ∧ k * k * s ≤ 1000 := by
  have h1 : 0 ≤ k * k ∧ k * k ≤ 100 := by
    have : k = 2 ∨ k = 3 ∨ k = 4 ∨ k = 5 ∨ k = 6 ∨ k = 7 ∨ k = 8 ∨ k = 9 ∨ k = 10 := by omega
    rcases this with rfl | rfl | rfl | rfl | rfl | rfl | rfl | rfl | rfl <;> decide
  refine ⟨Int.mul_nonneg h1.1 s0, ?_⟩
  have := Int.mul_le_mul h1.2 s10 s0 (by decide : (0 : Int) ≤ 100)
  omega
theorem two_at {a b j : Int} (h0 : 0 ≤ j) (h : j < 2) : ∃ z, atI [V.int a, V.int b] j = some (.int z) ∧ (z = a ∨ z = b) := by
  have : j = 0 ∨ j = 1 := by omega
  rcases this with rfl | rfl
  · exact ⟨_, at_pos (by decide) rfl, .inl rfl⟩
  · exact ⟨_, at_pos (by decide) rfl, .inr rfl⟩
theorem five_at {a b c d e j : Int} (h0 : 0 ≤ j) (h : j < 5) : ∃ z, atI [V.int a, V.int b, V.int c, V.int d, V.int e] j = some (.int z) ∧ (z = a ∨ z = b ∨ z = c ∨ z = d ∨ z = e) := by
  have : j = 0 ∨ j = 1 ∨ j = 2 ∨ j = 3 ∨ j = 4 := by omega
  rcases this with rfl | rfl | rfl | rfl | rfl
  · exact ⟨_, at_pos (by decide) rfl, .inl rfl⟩
  · exact ⟨_, at_pos (by decide) rfl, .inr (.inl rfl)⟩
  · exact ⟨_, at_pos (by decide) rfl, .inr (.inr (.inl rfl))⟩
  · exact ⟨_, at_pos (by decide) rfl, .inr (.inr (.inr (.inl rfl)))⟩
  · exact ⟨_, at_pos (by decide) rfl, .inr (.inr (.inr (.inr rfl)))⟩
section
variable {P : Program} {w : World} {K : PySem.W.Frag} {mg : Str → Option Value} {base : Heap} {f : Addr} {fd : FuncData}
def spCount : Sp := fun vs H Q _ => ∃ (r kr : Addr) (pattern size most : Int) (big : Bool) (ds ks : List Int), vs = [.ref r, .int pattern, .int size, .int most, .ref kr, .bl big] ∧ H r = some (.lst (ds.map V.int)) ∧ Dig ds cntSizes ∧ 0 ≤ size ∧ size ≤ 10 ∧ 0 ≤ most ∧ most ≤ 60 ∧ H kr = some (.lst (ks.map V.int)) ∧ (∀ k ∈ ks, 2 ≤ k ∧ k ≤ 10) ∧ ks.length ≤ 3 ∧ ∀ c H', Same H H' → 0 ≤ c → B 402 c → Q (.int c) H'
abbrev s__law_count : Stmt := top 39
abbrev N__law_count : List Str := ["row", "pattern", "size", "most", "kinds", "big", "near", "low"]
theorem sc__law_count : FnScope N__law_count ["row", "pattern", "size", "most", "kinds", "big"] (defScope s__law_count) := ⟨rfl, rfl, rfl, by decide +kernel, rfl, by decide +kernel, by decide +kernel⟩
theorem ok__law_count (F : Fun K "_law_count" "_law_count" s__law_count f fd) (T : Txt mg) : FnOk P w K mg base CX0 1 f fd ["row", "pattern", "size", "most", "kinds", "big"] spCount := by
  refine F.ok sc__law_count (fun vs H Q E h => ?_) (fun cdv A outer s H vs Q E hr h => ?_)
  · obtain ⟨r, kr, pattern, size, most, big, ds, ks, rfl, _⟩ := h
    rfl
  obtain ⟨r, kr, pattern, size, most, big, ds, ks, rfl, hrow, hd, s0, s10, m0, m60, hkr, kb, k3, q⟩ := h
  refine ⟨_, (pss_cons (ps_set (i := 6) sc__law_count.nd rfl (Or.inl rfl) (pe_op op_mul pe_int (pv 2)))
  (C8.pss_cut (ps_if (pt_cmpR op_gt (pe_callB call_len_seq (by rfl) T.b_len PySem.boot_len (pa_cons (pv 4) pa_nil)) pe_int (nomark _)) (pss_one (ps_set (i := 6) sc__law_count.nd rfl (Or.inl rfl) (pe_op op_mul (pe_op op_mul (pe_ix ix_list (pv 4) (pe_op op_mod (pe_callTy call_int1 (by rfl) T.b_int (by decide +kernel) (pa_cons (pe_ix ix_list (pv 0) pe_int (fun _ _ => rfl)) pa_nil)) (pe_callB call_len_seq (by rfl) T.b_len PySem.boot_len (pa_cons (pv 4) pa_nil))) (fun _ _ => rfl)) (pe_ix ix_list (pv 4) (pe_op op_mod (pe_callTy call_int1 (by rfl) T.b_int (by decide +kernel) (pa_cons (pe_ix ix_list (pv 0) pe_int (fun _ _ => rfl)) pa_nil)) (pe_callB call_len_seq (by rfl) T.b_len PySem.boot_len (pa_cons (pv 4) pa_nil))) (fun _ _ => rfl))) (pv 2)))) pss_nil)
  (pss_cons (ps_if (pt_cmpR op_ge (pe_ix ix_list (pv 0) pe_int (fun _ _ => rfl)) pe_int (nomark _)) (pss_one (ps_ret (pe_op op_add (pe_op op_add (pv 3) pe_int) (pe_ix ix_list (pe_lst (pa_cons (pe_ix ix_list (pv 0) pe_int (fun _ _ => rfl)) (pa_cons (pe_op op_add (pe_ix ix_list (pv 0) pe_int (fun _ _ => rfl)) (pe_op op_mulW (pe_op op_pow pe_int pe_int) (pe_ix ix_list (pv 0) pe_int (fun _ _ => rfl)))) pa_nil))) (pe_op op_sub (pe_ix ix_list (pv 0) pe_int (fun _ _ => rfl)) pe_int) (fun _ _ => rfl))))) pss_nil)
  (pss_cons (ps_if (pt_cmpR op_ge (pe_ix ix_list (pv 0) pe_int (fun _ _ => rfl)) pe_int (nomark _)) (pss_one (ps_ret (pe_ix ix_list (pe_lst (pa_cons pe_int (pa_cons (pe_callB (call_min2 rfl) (by rfl) T.b_min (by decide +kernel) (pa_cons (pv 3) (pa_cons pe_int pa_nil))) (pa_cons (pe_callB (call_min2 rfl) (by rfl) T.b_min (by decide +kernel) (pa_cons (pv 3) (pa_cons (pe_op op_mul pe_int (pv 2)) pa_nil))) (pa_cons (pe_callB (call_max2 rfl) (by rfl) T.b_max (by decide +kernel) (pa_cons pe_int (pa_cons (pe_op op_sub (pv 3) pe_int) pa_nil))) (pa_cons (pv 3) pa_nil)))))) (pe_op op_sub (pe_ix ix_list (pv 0) pe_int (fun _ _ => rfl)) pe_int) (fun _ _ => rfl)))) pss_nil)
  (pss_cons (ps_if (pt_cmpR op_eq (pv 1) pe_int (nomark _)) (pss_one (ps_ret (pe_op op_mod (pe_callTy call_int1 (by rfl) T.b_int (by decide +kernel) (pa_cons (pe_ix ix_list (pv 0) pe_int (fun _ _ => rfl)) pa_nil)) (pe_op op_add (pv 3) pe_int)))) pss_nil)
  (pss_cons (ps_if (pt_cmpR op_eq (pv 1) pe_int (nomark _)) (pss_one (ps_ret (pe_ix ix_list (pe_lst (pa_cons (pe_op op_mod (pe_callTy call_int1 (by rfl) T.b_int (by decide +kernel) (pa_cons (pe_ix ix_list (pv 0) pe_int (fun _ _ => rfl)) pa_nil)) (pe_op op_add (pe_op op_fdiv (pv 3) pe_int) pe_int)) (pa_cons (pe_op op_sub (pv 3) (pe_op op_mod (pe_callTy call_int1 (by rfl) T.b_int (by decide +kernel) (pa_cons (pe_ix ix_list (pv 0) pe_int (fun _ _ => rfl)) pa_nil)) (pe_op op_add (pe_op op_fdiv (pv 3) pe_int) pe_int))) pa_nil))) (pe_op op_mod (pe_callTy call_int1 (by rfl) T.b_int (by decide +kernel) (pa_cons (pe_ix ix_list (pv 0) pe_int (fun _ _ => rfl)) pa_nil)) pe_int) (fun _ _ => rfl)))) pss_nil)
  (pss_cons (ps_if (pt_cmpR op_eq (pv 1) pe_int (nomark _)) (pss_one (ps_ret (pe_callB (call_max2 rfl) (by rfl) T.b_max (by decide +kernel) (pa_cons pe_int (pa_cons (pe_callB (call_min2 rfl) (by rfl) T.b_min (by decide +kernel) (pa_cons (pv 3) (pa_cons (pe_op op_sub (pe_op op_add (pe_ix ix_list (pe_lst (pa_cons (pv 6) (pa_cons (pe_op op_sub (pv 3) (pv 6)) pa_nil))) (pe_op op_mod (pe_callTy call_int1 (by rfl) T.b_int (by decide +kernel) (pa_cons (pe_ix ix_list (pv 0) pe_int (fun _ _ => rfl)) pa_nil)) pe_int) (fun _ _ => rfl)) (pe_ix ix_list (pv 0) pe_int (fun _ _ => rfl))) pe_int) pa_nil))) pa_nil))))) pss_nil)
  (pss_cons (ps_if (pt_cmpR op_eq (pv 1) pe_int (nomark _)) (pss_cons (ps_set (i := 7) sc__law_count.nd rfl (Or.inl rfl) (pe_callB (call_min2 rfl) (by rfl) T.b_min (by decide +kernel) (pa_cons (pv 3) (pa_cons (pe_op op_add (pv 6) pe_int) pa_nil))))
  (pss_one (ps_ret (pe_op op_add (pv 7) (pe_op op_mod (pe_callTy call_int1 (by rfl) T.b_int (by decide +kernel) (pa_cons (pe_ix ix_list (pv 0) pe_int (fun _ _ => rfl)) pa_nil)) (pe_op op_add (pe_op op_sub (pv 3) (pv 7)) pe_int)))))) pss_nil)
  (pss_cons (ps_if (pt_val (pv 5)) (pss_one (ps_ret (pe_callB (call_max2 rfl) (by rfl) T.b_max (by decide +kernel) (pa_cons pe_int (pa_cons (pe_op op_sub (pv 3) (pe_ix ix_list (pv 0) pe_int (fun _ _ => rfl))) pa_nil))))) pss_nil)
  (pss_one (ps_ret (pe_op op_mod (pe_callTy call_int1 (by rfl) T.b_int (by decide +kernel) (pa_cons (pe_ix ix_list (pv 0) pe_int (fun _ _ => rfl)) pa_nil)) (pe_op op_add (pe_callB (call_max2 rfl) (by rfl) T.b_max (by decide +kernel) (pa_cons pe_int (pa_cons (pe_op op_sub (pv 3) (pe_op op_mul pe_int (pv 2))) pa_nil))) pe_int))))))))))))), ?_⟩
  have dig : ∀ (i : Nat) (z : Int), cntSizes[i]? = some z → ∃ n, (ds.map V.int)[i]? = some (.int n) ∧ 0 ≤ n ∧ n < z := fun i z h => by
    obtain ⟨n, h1, h2, h3⟩ := hd.get h
    exact ⟨n, int_at h1, h2, h3⟩
  obtain ⟨d0, e0, a0, b0⟩ := dig 0 100 rfl
  obtain ⟨d1, e1, a1, b1⟩ := dig 1 61 rfl
  obtain ⟨d2, e2, a2, b2⟩ := dig 2 12 rfl
  obtain ⟨d3, e3, a3, b3⟩ := dig 3 3 rfl
  obtain ⟨d4, e4, a4, b4⟩ := dig 4 3 rfl
  obtain ⟨d5, e5, a5, b5⟩ := dig 5 (10 ^ 60) rfl
  obtain ⟨d6, e6, a6, b6⟩ := dig 6 (10 ^ 58) rfl
  have kl : (ks.map V.int).length = ks.length := List.length_map ..
  have tiny : ∀ z : Int, 0 ≤ z → z < 65536 → ∀ H', Same H H' → Q (.int z) H' := fun z h1 h2 H' g => q z H' g h1 (B_tiny h1 h2)
  refine ⟨_, rfl, _, _, rfl, rfl, small_mul (by decide) (by decide), ?_⟩
  refine ⟨fun σ H' => ∃ near : Int, σ = [some (.ref r), some (.int pattern), some (.int size), some (.int most), some (.ref kr), some (.bl big), some (.int near), none] ∧ 0 ≤ near ∧ near ≤ 1000 ∧ H' = H, ?_, ?_⟩
  · refine ⟨_, rfl, kr, _, rfl, .inl (SqL.of hkr), _, _, rfl, rfl, _, rfl, ?_⟩
    refine ite2 (fun c => ?_) (fun c => ?_)
    · have c1 : (0 : Int) < (((ks.map V.int).length : Nat) : Int) := of_decide_eq_true c
      rw [kl] at c1
      have j0 : 0 ≤ d3 % (ks.length : Int) := Int.emod_nonneg _ (by omega)
      have j1 : d3 % (ks.length : Int) < ks.length := Int.emod_lt_of_pos _ c1
      obtain ⟨k, hk⟩ : ∃ k, ks[(d3 % (ks.length : Int)).toNat]? = some k := ⟨ks[(d3 % (ks.length : Int)).toNat]'(by omega), List.getElem?_eq_getElem _⟩
      obtain ⟨k2, k10⟩ := kb k (List.mem_of_getElem? hk)
      have hkv : atI (ks.map V.int) (d3 % (ks.length : Int)) = some (.int k) := at_pos j0 (int_at hk)
      obtain ⟨n0, n1⟩ := near_small k2 k10 s0 s10
      obtain ⟨s1, s2⟩ := kk_small k2 k10
      refine ⟨_, rfl, _, rfl, r, _, 3, _, rfl, rfl, SqL.of hrow, at_pos (by decide) e3, .inl ⟨_, rfl, _, rfl, kr, _, rfl, .inl (SqL.of hkr), _, _, rfl, rfl, by rw [kl]; exact c1, kr, _, _, _, rfl, rfl, SqL.of hkr, by rw [kl]; exact hkv, ?_⟩⟩
      refine ⟨_, rfl, _, rfl, r, _, 3, _, rfl, rfl, SqL.of hrow, at_pos (by decide) e3, .inl ⟨_, rfl, _, rfl, kr, _, rfl, .inl (SqL.of hkr), _, _, rfl, rfl, by rw [kl]; exact c1, kr, _, _, _, rfl, rfl, SqL.of hkr, by rw [kl]; exact hkv, ?_⟩⟩
      refine ⟨_, _, rfl, rfl, small_mul (by omega) (by omega), _, rfl, _, _, rfl, rfl, small_mul s1 s2, ?_⟩
      exact ⟨_, rfl, n0, n1, rfl⟩
    · exact ⟨4 * size, rfl, by omega, by omega, rfl⟩
  rintro σ H1 ⟨near, rfl, n0, n1, rfl⟩
  -- above the limit
  refine ⟨_, rfl, r, _, 0, _, rfl, rfl, SqL.of hrow, at_pos (by decide) e0, _, _, rfl, rfl, _, rfl, ?_⟩
  show (if decide (d0 ≥ 98) = true then _ else _)
  refine ite2 (fun c => ?_) (fun c => ?_)
  · have c1 : d0 ≥ 98 := of_decide_eq_true c
    have k1 : B 200 ((10 : Int) ^ (60 : Int).toNat) := B_of (by decide +kernel) (Int.le_refl _) ten60
    have k2 : B 200 d6 := B_of a6 (Int.le_of_lt b6) ten58
    have k3 : B 200 d5 := B_of a5 (Int.le_of_lt b5) ten60
    have p0 : 0 ≤ (10 : Int) ^ (60 : Int).toNat * d6 := Int.mul_nonneg (by decide +kernel) a6
    have p1 : B 400 (d5 + 10 ^ (60 : Int).toNat * d6) := by
      have h1 : B 399 (10 ^ (60 : Int).toNat * d6) := by
        have h2 : (10 : Int) ^ (60 : Int).toNat * d6 ≤ 10 ^ 60 * 10 ^ 58 := Int.mul_le_mul_of_nonneg_left (Int.le_of_lt b6) (by decide +kernel)
        exact B_of p0 h2 (by decide +kernel)
      exact B_add a5 p0 (k3.mono (by decide)) h1
    refine ⟨_, rfl, _, _, rfl, rfl, _, rfl, r, _, 2, _, rfl, rfl, SqL.of hrow, at_pos (by decide) e2, ?_⟩
    refine ⟨_, rfl, r, _, 5, _, rfl, rfl, SqL.of hrow, at_pos (by decide) e5, _, _, rfl, rfl, ⟨by decide, by decide, by decide⟩, _, rfl, r, _, 6, _, rfl, rfl, SqL.of hrow, at_pos (by decide) e6, _, _, rfl, rfl, wmul k1 k2 (by decide) (by decide) (by decide), _, _, rfl, rfl, two_line, fun p hp => ?_⟩
    have g1 := same_new hp (.lst [V.int d2, V.int (d5 + 10 ^ (60 : Int).toNat * d6)])
    obtain ⟨z, hz, hzv⟩ := two_at (a := d2) (b := d5 + 10 ^ (60 : Int).toNat * d6) (j := d0 - 98) (by omega) (by omega)
    refine ⟨_, rfl, r, _, 0, _, rfl, rfl, SqL.of (g1 _ _ hrow), at_pos (by decide) e0, _, _, rfl, rfl, p, _, _, _, rfl, rfl, SqL.of upd_same, hz, _, _, rfl, rfl, ?_⟩
    have z0 : 0 ≤ z := by rcases hzv with rfl | rfl <;> omega
    have zB : B 400 z := by
      rcases hzv with rfl | rfl
      · exact B.mono (m := 16) (by show Int.natAbs _ < 65536; omega) (by decide)
      · exact p1
    exact q _ _ g1 (by omega) ((B_add (n := 400) (show 0 ≤ most + 1 by omega) z0 (B.mono (m := 16) (by show (most + 1).natAbs < 65536; omega) (by decide)) zB).mono (by decide))
  have c1 : d0 < 98 := by
    have := mt decide_eq_true c
    omega
  clear c
  refine ⟨_, rfl, r, _, 0, _, rfl, rfl, SqL.of hrow, at_pos (by decide) e0, _, _, rfl, rfl, _, rfl, ?_⟩
  show (if decide (d0 ≥ 93) = true then _ else _)
  refine ite2 (fun c => ?_) (fun c => ?_)
  · have c2 : d0 ≥ 93 := of_decide_eq_true c
    refine ⟨_, rfl, _, _, rfl, _, rfl, _, rfl, _, _, rfl, rfl, small_mul (by decide) (by decide), _, _, rfl, _, rfl, _, _, rfl, rfl, _, _, rfl, _, rfl, line_ge (by show 5 ≤ 100000; decide), fun p hp => ?_⟩
    obtain ⟨z, hz, hzv⟩ := five_at (a := 0) (b := if 1 < most then 1 else most) (c := if 4 * size < most then 4 * size else most) (d := if most - 1 > 0 then most - 1 else 0) (e := most) (j := d0 - 93) (by omega) (by omega)
    have g1 := same_new hp (.lst [V.int 0, V.int (if 1 < most then 1 else most), V.int (if 4 * size < most then 4 * size else most), V.int (if most - 1 > 0 then most - 1 else 0), V.int most])
    refine ⟨_, rfl, r, _, 0, _, rfl, rfl, SqL.of (g1 _ _ hrow), at_pos (by decide) e0, _, _, rfl, rfl, p, _, _, _, rfl, rfl, SqL.of upd_same, hz, ?_⟩
    have hb : 0 ≤ z ∧ z < 65536 := by
      rcases hzv with rfl | rfl | rfl | rfl | rfl
      · omega
      · split <;> omega
      · split <;> omega
      · split <;> omega
      · omega
    exact tiny z hb.1 hb.2 _ g1
  clear c
  refine ⟨_, rfl, rfl, _, rfl, ?_⟩
  refine ite2 (fun _ => ?_) (fun _ => ?_)
  · refine ⟨_, rfl, r, _, 1, _, rfl, rfl, SqL.of hrow, at_pos (by decide) e1, .inl ⟨_, rfl, _, rfl, _, _, rfl, rfl, _, _, rfl, rfl, by omega, ?_⟩⟩
    have h1 := Int.emod_nonneg d1 (show most + 1 ≠ 0 by omega)
    have h2 := Int.emod_lt_of_pos d1 (show 0 < most + 1 by omega)
    exact tiny _ h1 (by omega) _ (Same.refl _)
  refine ⟨_, rfl, rfl, _, rfl, ?_⟩
  refine ite2 (fun _ => ?_) (fun _ => ?_)
  · have h1 := Int.emod_nonneg d1 (show most / 2 + 1 ≠ 0 by omega)
    have h2 := Int.emod_lt_of_pos d1 (show 0 < most / 2 + 1 by omega)
    refine ⟨_, rfl, r, _, 1, _, rfl, rfl, SqL.of hrow, at_pos (by decide) e1, .inl ⟨_, rfl, _, rfl, _, _, rfl, rfl, ⟨by decide, by decide⟩, _, _, rfl, rfl, _, _, rfl, rfl, (by show 0 < most / 2 + 1; omega), ?_⟩⟩
    refine ⟨_, rfl, _, rfl, r, _, 1, _, rfl, rfl, SqL.of hrow, at_pos (by decide) e1, .inl ⟨_, rfl, _, rfl, _, _, rfl, rfl, ⟨by decide, by decide⟩, _, _, rfl, rfl, _, _, rfl, rfl, (by show 0 < most / 2 + 1; omega), _, _, rfl, rfl, two_line, fun p hp => ?_⟩⟩
    have g1 := same_new hp (.lst [V.int (d1 % (most / 2 + 1)), V.int (most - d1 % (most / 2 + 1))])
    obtain ⟨z, hz, hzv⟩ := two_at (a := d1 % (most / 2 + 1)) (b := most - d1 % (most / 2 + 1)) (j := d0 % 2) (Int.emod_nonneg _ (by decide)) (Int.emod_lt_of_pos _ (by decide))
    refine ⟨_, rfl, r, _, 0, _, rfl, rfl, SqL.of (g1 _ _ hrow), at_pos (by decide) e0, .inl ⟨_, rfl, _, _, rfl, rfl, (by show (0 : Int) < 2; decide), p, _, _, _, rfl, rfl, SqL.of upd_same, hz, ?_⟩⟩
    exact tiny z (by rcases hzv with e | e <;> rw [e] <;> omega) (by rcases hzv with e | e <;> rw [e] <;> omega) _ g1
  refine ⟨_, rfl, rfl, _, rfl, ?_⟩
  refine ite2 (fun _ => ?_) (fun _ => ?_)
  · refine ⟨_, rfl, _, rfl, _, rfl, _, rfl, _, _, rfl, rfl, two_line, fun p hp => ?_⟩
    have g1 := same_new hp (.lst [V.int near, V.int (most - near)])
    obtain ⟨z, hz, hzv⟩ := two_at (a := near) (b := most - near) (j := d0 % 2) (Int.emod_nonneg _ (by decide)) (Int.emod_lt_of_pos _ (by decide))
    refine ⟨_, rfl, r, _, 0, _, rfl, rfl, SqL.of (g1 _ _ hrow), at_pos (by decide) e0, .inl ⟨_, rfl, _, _, rfl, rfl, (by show (0 : Int) < 2; decide), p, _, _, _, rfl, rfl, SqL.of upd_same, hz, ?_⟩⟩
    refine ⟨_, rfl, r, _, 4, _, rfl, rfl, SqL.of (g1 _ _ hrow), at_pos (by decide) e4, _, _, rfl, rfl, _, _, rfl, rfl, _, _, rfl, _, _, rfl, ?_⟩
    refine tiny _ ?_ ?_ _ g1
    · split <;> omega
    · split
      · split <;> omega
      · omega
  refine ⟨_, rfl, rfl, _, rfl, ?_⟩
  refine ite2 (fun _ => ?_) (fun _ => ?_)
  · refine ⟨_, rfl, _, rfl, _, _, rfl, rfl, _, _, rfl, ?_⟩
    have hlow : 0 ≤ (if near + 1 < most then near + 1 else most) ∧ (if near + 1 < most then near + 1 else most) ≤ most := by split <;> omega
    show gName 7 (V.int (if near + 1 < most then near + 1 else most)) _ _ _
    generalize (if near + 1 < most then near + 1 else most) = low at hlow
    have h1 := Int.emod_nonneg d1 (show most - low + 1 ≠ 0 by omega)
    have h2 := Int.emod_lt_of_pos d1 (show 0 < most - low + 1 by omega)
    refine ⟨_, rfl, _, rfl, r, _, 1, _, rfl, rfl, SqL.of hrow, at_pos (by decide) e1, .inl ⟨_, rfl, _, rfl, _, rfl, _, _, rfl, rfl, _, _, rfl, rfl, _, _, rfl, rfl, (by show 0 < most - low + 1; omega), _, _, rfl, rfl, ?_⟩⟩
    exact tiny _ (by omega) (by omega) _ (Same.refl _)
  refine ⟨_, rfl, _, rfl, ?_⟩
  refine ite2 (fun _ => ?_) (fun _ => ?_)
  · refine ⟨_, rfl, _, rfl, r, _, 2, _, rfl, rfl, SqL.of hrow, at_pos (by decide) e2, _, _, rfl, rfl, _, _, rfl, ?_⟩
    refine tiny _ ?_ ?_ _ (Same.refl _)
    · split <;> omega
    · split <;> omega
  · have hm : 0 ≤ (if most - 4 * size > 0 then most - 4 * size else 0) ∧ (if most - 4 * size > 0 then most - 4 * size else 0) ≤ 60 := by split <;> omega
    refine ⟨_, rfl, r, _, 1, _, rfl, rfl, SqL.of hrow, at_pos (by decide) e1, .inl ⟨_, rfl, _, rfl, _, rfl, _, _, rfl, rfl, small_mul (by decide) (by decide), _, _, rfl, rfl, _, _, rfl, _, _, rfl, rfl, _, _, rfl, rfl, ?_, ?_⟩⟩
    · show 0 < (if most - 4 * size > 0 then most - 4 * size else 0) + 1
      omega
    · show Q (V.int (d1 % ((if most - 4 * size > 0 then most - 4 * size else 0) + 1))) _
      generalize (if most - 4 * size > 0 then most - 4 * size else 0) = mm at hm
      have h1 := Int.emod_nonneg d1 (show mm + 1 ≠ 0 by omega)
      have h2 := Int.emod_lt_of_pos d1 (show 0 < mm + 1 by omega)
      exact tiny _ h1 (by omega) _ (Same.refl _)
end
end P64
namespace P64
open PySem PySem.Spec PyProof.Rows L2 SX EX WK
def sizesL : List Int := [1, 2, 3, 1, 2, 4, 3, 5, 2, 6, 1, 7, 3, 8, 4, 9, 2, 10, 1, 0]
def manyL : List Int := [3, 4, 5, 2, 4, 3, 4, 3, 4, 5, 2, 4, 3, 4, 2, 1]
theorem sizes_at {j : Int} (h0 : 0 ≤ j) (h : j < 20) : ∃ z, atI (sizesL.map V.int) j = some (.int z) ∧ 0 ≤ z ∧ z ≤ 10 := by
  have hl : j.toNat < sizesL.length := by show j.toNat < 20; omega
  have e : ∀ z ∈ sizesL, 0 ≤ z ∧ z ≤ 10 := by decide
  exact ⟨sizesL[j.toNat], at_pos h0 (int_at (List.getElem?_eq_getElem hl)), e _ (List.getElem_mem hl)⟩
theorem many_at {j : Int} (h0 : 0 ≤ j) (h : j < 16) : ∃ z, atI (manyL.map V.int) j = some (.int z) ∧ 1 ≤ z ∧ z ≤ 5 := by
  have hl : j.toNat < manyL.length := by show j.toNat < 16; omega
  have e : ∀ z ∈ manyL, 1 ≤ z ∧ z ≤ 5 := by decide
  exact ⟨manyL[j.toNat], at_pos h0 (int_at (List.getElem?_eq_getElem hl)), e _ (List.getElem_mem hl)⟩
theorem cnt_bounds : ∀ z ∈ cntSizes, 0 < z ∧ z.natAbs < 2 ^ 2000 := by decide +kernel
theorem name_bounds : ∀ z ∈ nameSizes, 0 < z ∧ z.natAbs < 2 ^ 2000 := by decide +kernel
def sixes : List Int := [6, 6, 6, 6, 6, 6, 6, 6, 6]
theorem six_bounds : ∀ z ∈ sixes, 0 < z ∧ z.natAbs < 2 ^ 2000 := by decide +kernel
theorem cut3 (ks : List Int) {a : Int} (h0 : 0 ≤ a) : ∃ ks' : List Int, cutV (ks.map V.int) (some a) (some (a + 3)) = ks'.map V.int ∧ (∀ k ∈ ks', k ∈ ks) ∧ ks'.length ≤ 3 := by
  obtain ⟨n, rfl⟩ : ∃ n : Nat, a = (n : Int) := ⟨a.toNat, by omega⟩
  have e3 : ((n : Int) + 3) = ((n + 3 : Nat) : Int) := by omega
  unfold cutV
  rw [e3, HT.sIx_nat, HT.sIx_nat]
  refine ⟨(ks.drop (min n (ks.map V.int).length)).take (min (n + 3) (ks.map V.int).length - min n (ks.map V.int).length), ?_, fun k hk => List.mem_of_mem_drop (List.mem_of_mem_take hk), ?_⟩
  · rw [List.map_take, List.map_drop]
  · rw [List.length_take]
    omega
/-- counts and names as they are drawn -/
structure Cn (H1 H : Hp) (pc pn : Addr) (bs : List Addr) (cs : List Cnt) : Prop where
  same : Same H1 H
  c : H pc = some (.lst (bs.map V.ref))
  n : H pn = some (.lst (nmV (cs.map (·.1))))
  p : Paired (TupAt H) bs cs
  ok : ∀ c ∈ cs, 0 ≤ c.2 ∧ B 402 c.2
  nm : ∀ x ∈ cs, Nm x.1
  nd : (cs.map (·.1)).Nodup
theorem Paired.snoc {α β : Type} {F : α → β → Prop} : ∀ {as : List α} {bs : List β} {a : α} {b : β}, Paired F as bs → F a b → Paired F (as ++ [a]) (bs ++ [b])
  | _, _, _, _, .nil, h => .cons h .nil
  | _, _, _, _, .cons r t, h => .cons r (Paired.snoc t h)
theorem Same.seqL {K : PySem.W.Frag} {H H' : Hp} (e : Same H H') {a : Addr} {xs : List V} (h : SqL K H a xs) : SqL K H' a xs := e.seq h
/-- what the draw gives -/
structure Drawn (H : Hp) (r : Addr) (size most flag : Int) (kr cr : Addr) (ks : List Int) (cs : List Cnt) : Prop where
  r : H r = some (.lst [.int size, .int most, .ref kr, .ref cr, .int flag])
  kr : H kr = some (.lst (ks.map V.int))
  cr : CtAt H cr cs
  s0 : 0 ≤ size
  m0 : 0 ≤ most
  kb : ∀ k ∈ ks, 2 ≤ k ∧ k ≤ 10
  k3 : ks.length ≤ 3
  n1 : 1 ≤ cs.length
  n5 : cs.length ≤ 5
  ok : ∀ c ∈ cs, 0 ≤ c.2 ∧ B 402 c.2
  nm : ∀ x ∈ cs, Nm x.1
  nd : (cs.map (·.1)).Nodup
section
variable {P : Program} {w : World} {K : PySem.W.Frag} {mg : Str → Option Value} {base : Heap} {f : Addr} {fd : FuncData}
def spDraw (K : PySem.W.Frag) : Sp := fun vs H Q _ => ∃ (a : Addr) (ns : List Int), vs = [.ref a] ∧ SqL K H a (ns.map V.int) ∧ ns.length ≤ 63 ∧ ∀ r H' size most flag kr cr ks cs, Same H H' → Drawn H' r size most flag kr cr ks cs → Q (.ref r) H'
abbrev s__law_draw : Stmt := top 40
abbrev N__law_draw : List Str := ["script", "shape", "size", "most", "k", "fit", "chance", "kinds", "first", "pattern", "many", "counts", "names", "row", "big"]
theorem sc__law_draw : FnScope N__law_draw ["script"] (defScope s__law_draw) := ⟨rfl, rfl, rfl, by decide +kernel, rfl, by decide +kernel, by decide +kernel⟩
theorem ok__law_draw (F : Fun K "_law_draw" "_law_draw" s__law_draw f fd) (T : Txt mg) (C__law_digits : Cal P w K mg base 1 "_law_digits" ["cell", "sizes"] (spDigits K)) (C__law_cell : Cal P w K mg base 1 "_law_cell" ["script", "k"] (spCell K)) (C__law_name : Cal P w K mg base 1 "_law_name" ["row", "taken"] spName) (C__law_count : Cal P w K mg base 1 "_law_count" ["row", "pattern", "size", "most", "kinds", "big"] spCount) : FnOk P w K mg base CX0 2 f fd ["script"] (spDraw K) := by
  refine F.ok sc__law_draw (fun vs H Q E h => ?_) (fun cdv A outer s H vs Q E hr h => ?_)
  · obtain ⟨a, ns, rfl, _⟩ := h
    rfl
  obtain ⟨a, ns, rfl, hS, h63, q⟩ := h
  refine ⟨_, (pss_cons (ps_set (i := 1) sc__law_draw.nd rfl (Or.inl rfl) (pe_cal C__law_digits (hr.mono (by omega)) rfl (pa_cons (pe_cal C__law_cell (hr.mono (by omega)) rfl (pa_cons (pv 0) (pa_cons pe_int pa_nil))) (pa_cons (pe_lst (pa_cons pe_int (pa_cons pe_int (pa_cons pe_int (pa_cons pe_int (pa_cons pe_int (pa_cons pe_int (pa_cons pe_int (pa_cons pe_int pa_nil))))))))) pa_nil))))
  (pss_cons (ps_set (i := 2) sc__law_draw.nd rfl (Or.inr rfl) (pe_ix ix_list (pe_lst (pa_cons pe_int (pa_cons pe_int (pa_cons pe_int (pa_cons pe_int (pa_cons pe_int (pa_cons pe_int (pa_cons pe_int (pa_cons pe_int (pa_cons pe_int (pa_cons pe_int (pa_cons pe_int (pa_cons pe_int (pa_cons pe_int (pa_cons pe_int (pa_cons pe_int (pa_cons pe_int (pa_cons pe_int (pa_cons pe_int (pa_cons pe_int (pa_cons pe_int pa_nil))))))))))))))))))))) (pe_ix ix_list (pv 1) pe_int (fun _ _ => rfl)) (fun _ _ => rfl)))
  (pss_cons (ps_set (i := 3) sc__law_draw.nd rfl (Or.inr rfl) (pe_ix ix_list (pv 1) pe_int (fun _ _ => rfl)))
  (C8.pss_cut (ps_if (pt_cmpR op_gt (pe_ix ix_list (pv 1) pe_int (fun _ _ => rfl)) pe_int (nomark _)) (pss_one (ps_set (i := 3) sc__law_draw.nd rfl (Or.inr rfl) (pe_op op_add (pe_op op_mul pe_int (pv 2)) (pe_op op_mod (pe_callTy call_int1 (by rfl) T.b_int (by decide +kernel) (pa_cons (pe_ix ix_list (pv 1) pe_int (fun _ _ => rfl)) pa_nil)) (pe_op op_sub pe_int (pe_op op_mul pe_int (pv 2))))))) pss_nil)
  (pss_cons (ps_set (i := 5) sc__law_draw.nd rfl (Or.inr rfl) (pe_op op_add pe_int (pe_callB (call_max2 rfl) (by rfl) T.b_max (by decide +kernel) (pa_cons pe_int (pa_cons (pe_callB call_len_seq (by rfl) T.b_len PySem.boot_len (pa_cons (pe_lc (own := [("k", 4)]) (g := gName 4) (by rfl) sc__law_draw.nd (pi_range2 (by rfl) T.b_range (pa_cons pe_int (pa_cons pe_int pa_nil))) (blkOk_by (N := N__law_draw) (sc := defScope s__law_draw) (by decide +kernel)) (fun _ _ _ _ _ => (pg_name (i := 4) sc__law_draw.nd rfl (Or.inl rfl))) (fun _ _ _ _ _ => (pts_one (pt_cmpR op_le (pe_op op_mul (pe_op op_mul (pe_op op_mul pe_int (pv 4)) (pv 4)) (pv 2)) (pv 3) (nomark _)))) (fun _ _ _ _ _ => (pv 4))) pa_nil)) pa_nil)))))
  (pss_cons (ps_set (i := 6) sc__law_draw.nd rfl (Or.inr rfl) (pe_cal C__law_digits (hr.mono (by omega)) rfl (pa_cons (pe_cal C__law_cell (hr.mono (by omega)) rfl (pa_cons (pv 0) (pa_cons pe_int pa_nil))) (pa_cons (pe_op op_rep (pe_lst (pa_cons pe_int pa_nil)) pe_int) pa_nil))))
  (pss_cons (ps_setLc (i := 7) (own := [("k", 4)]) (g := gName 4) (by rfl) sc__law_draw.nd rfl rfl (sw_true rfl rfl rfl (by decide +kernel)) (pi_range2 (by rfl) T.b_range (pa_cons pe_int (pa_cons pe_int pa_nil))) (blkOk_by (N := N__law_draw) (sc := defScope s__law_draw) (by decide +kernel)) (fun _ _ _ _ _ => (pg_name (i := 4) sc__law_draw.nd rfl (Or.inl rfl))) (fun _ _ _ _ _ => (pts_one (pt_cmpR op_lt (pe_ix (ix_listK (K := K) rfl) (pv 6) (pe_op op_sub (pv 4) pe_int) (fun _ _ => rfl)) (pe_op op_add (pe_op op_add pe_int (pe_op op_mul pe_int (pe_callTy call_int1 (by rfl) T.b_int (by decide +kernel) (pa_cons (pe_chain op_lt op_lt (pe_op op_sub (pv 5) pe_int) (pv 4) (pe_op op_add (pv 5) pe_int)) pa_nil)))) (pe_callTy call_int1 (by rfl) T.b_int (by decide +kernel) (pa_cons (pe_cmpR op_eq (pv 4) (pv 5) (nomark _)) pa_nil))) (nomark _)))) (fun _ _ _ _ _ => (pv 4)))
  (pss_cons (ps_set (i := 8) sc__law_draw.nd rfl (Or.inl rfl) (pe_op op_mul (pe_callTy call_int1 (by rfl) T.b_int (by decide +kernel) (pa_cons (pe_cmpR op_eq (pe_ix ix_list (pv 1) pe_int (fun _ _ => rfl)) pe_int (nomark _)) pa_nil)) (pe_callB (call_max2 rfl) (by rfl) T.b_max (by decide +kernel) (pa_cons pe_int (pa_cons (pe_op op_sub (pe_callB call_len_seq (by rfl) T.b_len PySem.boot_len (pa_cons (pv 7) pa_nil)) pe_int) pa_nil)))))
  (pss_cons (ps_set (i := 7) sc__law_draw.nd rfl (Or.inl rfl) (pe_slice sl_list (pv 7) (po_some (pv 8)) (po_some (pe_op op_add (pv 8) pe_int))))
  (pss_cons (ps_set (i := 9) sc__law_draw.nd rfl (Or.inl rfl) (pe_ix ix_list (pv 1) pe_int (fun _ _ => rfl)))
  (C8.pss_cut (ps_if (PW.pt (pw_and (pt_cmpR op_gt (pv 9) pe_int (nomark _)) (pw_and1 (pt_cmpR op_gt (pe_op op_mul pe_int (pv 2)) (pv 3) (nomark _))))) (pss_one (ps_set (i := 9) sc__law_draw.nd rfl (Or.inl rfl) pe_int)) pss_nil)
  (pss_cons (ps_set (i := 10) sc__law_draw.nd rfl (Or.inl rfl) (pe_ix ix_list (pe_lst (pa_cons pe_int (pa_cons pe_int (pa_cons pe_int (pa_cons pe_int (pa_cons pe_int (pa_cons pe_int (pa_cons pe_int (pa_cons pe_int (pa_cons pe_int (pa_cons pe_int (pa_cons pe_int (pa_cons pe_int (pa_cons pe_int (pa_cons pe_int (pa_cons pe_int (pa_cons pe_int pa_nil))))))))))))))))) (pe_ix ix_list (pv 1) pe_int (fun _ _ => rfl)) (fun _ _ => rfl)))
  (pss_cons (ps_set (i := 11) sc__law_draw.nd rfl (Or.inl rfl) (pe_lst pa_nil))
  (pss_cons (ps_set (i := 12) sc__law_draw.nd rfl (Or.inl rfl) (pe_lst pa_nil))
  (pss_cons (ps_for PassesOwn.never rfl (pi_range1 (by rfl) T.b_range (pa_cons (pv 10) pa_nil)) (pg_name (i := 4) sc__law_draw.nd rfl (Or.inl rfl)) (pss_cons (ps_set (i := 13) sc__law_draw.nd rfl (Or.inl rfl) (pe_cal C__law_digits (hr.mono (by omega)) rfl (pa_cons (pe_cal C__law_cell (hr.mono (by omega)) rfl (pa_cons (pv 0) (pa_cons (pe_op op_add pe_int (pv 4)) pa_nil))) (pa_cons (pe_lst (pa_cons pe_int (pa_cons pe_int (pa_cons pe_int (pa_cons pe_int (pa_cons pe_int (pa_cons (pe_op op_pow pe_int pe_int) (pa_cons (pe_op op_pow pe_int pe_int) pa_nil)))))))) pa_nil))))
  (pss_cons (ps_expr (pe_bm PySem.F.plainAttrs_list PySem.F.slot_list_append PySem.F.type_list_append mt_append (pv 12) (pa_cons (pe_cal C__law_name (hr.mono (by omega)) rfl (pa_cons (pe_cal C__law_digits (hr.mono (by omega)) rfl (pa_cons (pe_cal C__law_cell (hr.mono (by omega)) rfl (pa_cons (pv 0) (pa_cons (pe_op op_add pe_int (pv 4)) pa_nil))) (pa_cons (pe_op op_cat (pe_lst (pa_cons pe_int (pa_cons pe_int pa_nil))) (pe_op op_rep (pe_lst (pa_cons pe_int pa_nil)) pe_int)) pa_nil))) (pa_cons (pv 12) pa_nil))) pa_nil)))
  (pss_cons (ps_set (i := 14) sc__law_draw.nd rfl (Or.inl rfl) (pe_cmpR op_eq (pv 4) (pe_op op_mod (pe_callTy call_int1 (by rfl) T.b_int (by decide +kernel) (pa_cons (pe_ix ix_list (pv 1) pe_int (fun _ _ => rfl)) pa_nil)) (pv 10)) (nomark _)))
  (pss_one (ps_expr (pe_bm PySem.F.plainAttrs_list PySem.F.slot_list_append PySem.F.type_list_append mt_append (pv 11) (pa_cons (pe_tup (pa_cons (pe_ix ix_list (pv 12) (pv 4) (fun _ _ => rfl)) (pa_cons (pe_cal C__law_count (hr.mono (by omega)) rfl (pa_cons (pv 13) (pa_cons (pv 9) (pa_cons (pv 2) (pa_cons (pv 3) (pa_cons (pv 7) (pa_cons (pv 14) pa_nil))))))) pa_nil))) pa_nil))))))))
  (pss_one (ps_ret (pe_lst (pa_cons (pv 2) (pa_cons (pv 3) (pa_cons (pv 7) (pa_cons (pv 11) (pa_cons (pe_ix ix_list (pv 1) pe_int (fun _ _ => rfl)) pa_nil))))))))))))))))))))))), ?_⟩
  -- shape
  refine ⟨_, rfl, a, ns, 0, rfl, hS, by decide, by decide, fun c0 => ?_⟩
  refine ⟨line_ge (by show 8 ≤ _; omega), fun p1 hp1 => ?_⟩
  refine ⟨c0, p1, [20, 16, 61, 3, 6, 5, 6, 4], rfl, SqL.of upd_same, by decide, by decide +kernel, fun ps ds hps hdig => ?_⟩
  have g1 := (same_new hp1 (.lst [V.int 20, V.int 16, V.int 61, V.int 3, V.int 6, V.int 5, V.int 6, V.int 4])).trans (same_new hps (.lst (ds.map V.int)))
  have hsh : upd (upd H p1 (.lst [V.int 20, V.int 16, V.int 61, V.int 3, V.int 6, V.int 5, V.int 6, V.int 4])) ps (.lst (ds.map V.int)) ps = some (.lst (ds.map V.int)) := upd_same
  generalize upd (upd H p1 (.lst [V.int 20, V.int 16, V.int 61, V.int 3, V.int 6, V.int 5, V.int 6, V.int 4])) ps (.lst (ds.map V.int)) = H1 at g1 hsh
  have dig : ∀ (i : Nat) (z : Int), ([20, 16, 61, 3, 6, 5, 6, 4] : List Int)[i]? = some z → ∃ n, (ds.map V.int)[i]? = some (.int n) ∧ 0 ≤ n ∧ n < z := fun i z h => by
    obtain ⟨n, h1, h2, h3⟩ := hdig.get h
    exact ⟨n, int_at h1, h2, h3⟩
  obtain ⟨d0, e0, a0, b0⟩ := dig 0 20 rfl
  obtain ⟨d1, e1, a1, b1⟩ := dig 1 16 rfl
  obtain ⟨d2, e2, a2, b2⟩ := dig 2 61 rfl
  obtain ⟨d3, e3, a3, b3⟩ := dig 3 3 rfl
  obtain ⟨d4, e4, a4, b4⟩ := dig 4 6 rfl
  obtain ⟨d5, e5, a5, b5⟩ := dig 5 5 rfl
  obtain ⟨d6, e6, a6, b6⟩ := dig 6 6 rfl
  obtain ⟨d7, e7, a7, b7⟩ := dig 7 4 rfl
  clear dig hdig
  -- size
  refine ⟨line_ge (by show 20 ≤ 100000; decide), fun p2 hp2 => ?_⟩
  obtain ⟨size, hsz, s0, s10⟩ := sizes_at a0 b0
  have g2 := same_new hp2 (.lst (sizesL.map V.int))
  refine ⟨_, rfl, ps, _, 0, _, rfl, rfl, SqL.of (g2 _ _ hsh), at_pos (by decide) e0, p2, _, _, _, rfl, rfl, SqL.of (xs := sizesL.map V.int) upd_same, hsz, ?_⟩
  have hsh2 := g2 _ _ hsh
  have g12 := g1.trans g2
  show tSeq _ _ _ [some (.ref a), some (.ref ps), some (.int size), none, none, none, none, none, none, none, none, none, none, none, none] (upd H1 p2 (.lst (sizesL.map V.int)))
  generalize upd H1 p2 (.lst (sizesL.map V.int)) = H2 at g12 hsh2
  clear g2 hp2 g1 hsh
  -- most
  refine ⟨_, rfl, ps, _, 2, _, rfl, rfl, SqL.of hsh2, at_pos (by decide) e2, ?_⟩
  refine ⟨fun σ H' => ∃ most : Int, σ = [some (.ref a), some (.ref ps), some (.int size), some (.int most), none, none, none, none, none, none, none, none, none, none, none] ∧ 0 ≤ most ∧ most ≤ 60 ∧ H' = H2, ?_, ?_⟩
  · refine ⟨_, rfl, ps, _, 6, _, rfl, rfl, SqL.of hsh2, at_pos (by decide) e6, _, _, rfl, rfl, _, rfl, ?_⟩
    refine ite2 (fun _ => ?_) (fun _ => ⟨d2, rfl, a2, by omega, rfl⟩)
    have h1 := Int.emod_nonneg d2 (show 61 - 4 * size ≠ 0 by omega)
    have h2 := Int.emod_lt_of_pos d2 (show 0 < 61 - 4 * size by omega)
    refine ⟨_, rfl, _, _, rfl, rfl, small_mul (by decide) (by decide), _, rfl, ps, _, 2, _, rfl, rfl, SqL.of hsh2, at_pos (by decide) e2, .inl ⟨_, rfl, _, rfl, _, _, rfl, rfl, small_mul (by decide) (by decide), _, _, rfl, rfl, _, _, rfl, rfl, (by show 0 < 61 - 4 * size; omega), _, _, rfl, rfl, ?_⟩⟩
    exact ⟨4 * size + d2 % (61 - 4 * size), rfl, by omega, by omega, rfl⟩
  rintro σ H3 ⟨most, rfl, m0, m60, rfl⟩
  -- fit
  have rng : ∀ i : Nat, i < ((11 : Int) - 2).toNat → (2 : Int) ≤ 2 + (i : Nat) ∧ (2 : Int) + (i : Nat) ≤ 10 := fun i hi => by omega
  refine ⟨2, 11, rfl, ⟨by decide, by decide, by decide⟩, fun D hD => ?_⟩
  refine lc_range (lo := 2) (n := ((11 : Int) - 2).toNat) (fun i H' => Same H3 H' ∧ ∃ l : List V, H' D = some (.lst l) ∧ l.length ≤ i) ⟨same_new hD _, [], upd_same, Nat.le_refl _⟩ ?_ ?_
  · rintro i H4 hlt ⟨g4, l, hd4, hl4⟩
    obtain ⟨r1, r2⟩ := rng i hlt
    have sq : 2 * (2 + (i : Nat) : Int) * (2 + (i : Nat)) < 1000000 ∧ -1000000 < 2 * (2 + (i : Nat) : Int) * (2 + (i : Nat)) := by
      have : (2 + (i : Nat) : Int) = 2 ∨ (2 + (i : Nat) : Int) = 3 ∨ (2 + (i : Nat) : Int) = 4 ∨ (2 + (i : Nat) : Int) = 5 ∨ (2 + (i : Nat) : Int) = 6 ∨ (2 + (i : Nat) : Int) = 7 ∨ (2 + (i : Nat) : Int) = 8 ∨ (2 + (i : Nat) : Int) = 9 ∨ (2 + (i : Nat) : Int) = 10 := by omega
      rcases this with e | e | e | e | e | e | e | e | e <;> rw [e] <;> decide
    refine ⟨rfl, _, rfl, _, _, rfl, rfl, small_mul (by decide) (by decide), _, rfl, _, _, rfl, rfl, small_mul (by omega) (by omega), _, rfl, _, _, rfl, rfl, small_mul sq.2 sq.1, _, rfl, _, _, rfl, rfl, _, rfl, ?_⟩
    refine ite2 (fun _ => ?_) (fun _ => ⟨g4, l, hd4, by omega⟩)
    refine ⟨_, rfl, l, hd4, small1000 (by omega), same_at g4 hD, _, upd_same, by rw [List.length_append]; simp only [List.length_cons, List.length_nil]; omega⟩
  rintro H4 ⟨g4, l, hd4, _⟩
  refine ⟨D, l, rfl, .inl (SqL.of hd4), _, _, rfl, _, _, rfl, rfl, ?_⟩
  show gName 5 (V.int (1 + (if ((l.length : Nat) : Int) > 1 then ((l.length : Nat) : Int) else 1))) _ _ _
  generalize (1 + (if ((l.length : Nat) : Int) > 1 then ((l.length : Nat) : Int) else 1)) = fit
  have hsh4 := g4 _ _ hsh2
  have g34 := g12.trans g4
  clear hd4 hD
  show tSeq _ _ _ [some (.ref a), some (.ref ps), some (.int size), some (.int most), none, some (.int fit), none, none, none, none, none, none, none, none, none] H4
  -- chance
  refine ⟨_, rfl, a, ns, 11, rfl, g34.seq hS, by decide, by decide, fun c1 => ?_⟩
  refine ⟨line_ge (by show 1 ≤ _; omega), fun q2 h2 => ⟨q2, 9, _, rfl, rfl, upd_same, by decide, by decide, line_ge (by show 1 * 9 ≤ _; omega), fun q3 h3 => ?_⟩⟩
  refine ⟨c1, q3, sixes, rfl, SqL.of upd_same, by decide, six_bounds, fun pch es hpch hes => ?_⟩
  have gc := (same_new h2 (.lst [V.int 6])).trans ((same_new h3 (.lst (List.replicate (Int.toNat 9) [V.int 6]).flatten)).trans (same_new hpch (.lst (es.map V.int))))
  have hch : upd (upd (upd H4 q2 (.lst [V.int 6])) q3 (.lst (List.replicate (Int.toNat 9) [V.int 6]).flatten)) pch (.lst (es.map V.int)) pch = some (.lst (es.map V.int)) := upd_same
  have hsh5 := gc _ _ hsh4
  have g45 := g34.trans gc
  generalize upd (upd (upd H4 q2 (.lst [V.int 6])) q3 (.lst (List.replicate (Int.toNat 9) [V.int 6]).flatten)) pch (.lst (es.map V.int)) = H5 at gc hch hsh5 g45
  clear gc h2 h3 hpch g34 hsh4 hsh2 g4
  -- kinds
  refine ⟨2, 11, rfl, ⟨by decide, by decide, by decide⟩, fun D2 hD2 => ?_⟩
  refine lc_range (lo := 2) (n := ((11 : Int) - 2).toNat) (fun i H' => Same H5 H' ∧ ∃ ks : List Int, H' D2 = some (.lst (ks.map V.int)) ∧ ks.length ≤ i ∧ ∀ k ∈ ks, 2 ≤ k ∧ k ≤ 10) ⟨same_new hD2 _, [], upd_same, Nat.le_refl _, fun k h => nomatch h⟩ ?_ ?_
  · rintro i H6 hlt ⟨g6, ks, hd6, hl6, hk6⟩
    obtain ⟨r1, r2⟩ := rng i hlt
    have hi9 : i < 9 := by omega
    obtain ⟨ch, hc, _, _⟩ := hes.get (i := i) (z := 6) (by
      match i, hi9 with
      | 0, _ => rfl
      | 1, _ => rfl
      | 2, _ => rfl
      | 3, _ => rfl
      | 4, _ => rfl
      | 5, _ => rfl
      | 6, _ => rfl
      | 7, _ => rfl
      | 8, _ => rfl)
    have hcv : (es.map V.int)[((2 : Int) + (i : Nat) - 2).toNat]? = some (.int ch) := by
      rw [show ((2 : Int) + (i : Nat) - 2).toNat = i by omega]
      exact int_at hc
    refine ⟨rfl, _, rfl, _, rfl, _, _, rfl, rfl, pch, _, _, _, rfl, rfl, SqL.of (g6 _ _ hch), at_pos (by omega) hcv, ?_⟩
    refine ⟨_, rfl, _, _, rfl, rfl, _, rfl, _, _, rfl, rfl, _, rfl, ?_⟩
    have yes : ∃ acc, H6 D2 = some (.lst acc) ∧ acc.length < sizeLine ∧ Same H5 (upd H6 D2 (.lst (acc ++ [V.int (2 + (i : Nat))]))) ∧ ∃ ks : List Int, (upd H6 D2 (.lst (acc ++ [V.int (2 + (i : Nat))]))) D2 = some (.lst (ks.map V.int)) ∧ ks.length ≤ i + 1 ∧ ∀ k ∈ ks, 2 ≤ k ∧ k ≤ 10 := by
      refine ⟨_, hd6, by rw [List.length_map]; exact small1000 (by omega), same_at g6 hD2, ks ++ [(2 : Int) + (i : Nat)], by rw [upd_same, List.map_append]; rfl, by rw [List.length_append]; simp only [List.length_cons, List.length_nil]; omega, fun k hk => ?_⟩
      rcases List.mem_append.mp hk with hk | hk
      · exact hk6 k hk
      · rw [List.mem_singleton.mp hk]
        exact ⟨r1, r2⟩
    have no : Same H5 H6 ∧ ∃ ks : List Int, H6 D2 = some (.lst (ks.map V.int)) ∧ ks.length ≤ i + 1 ∧ ∀ k ∈ ks, 2 ≤ k ∧ k ≤ 10 := ⟨g6, ks, hd6, by omega, hk6⟩
    refine ite2 (fun _ => ?_) (fun _ => ?_)
    · refine ⟨_, rfl, _, _, rfl, rfl, _, _, rfl, rfl, .inr ⟨_, rfl, _, _, rfl, rfl, small_mul (by decide) (by decide), _, _, rfl, rfl, _, rfl, _, rfl, rfl, .inr ⟨_, rfl, _, _, rfl, rfl, _, _, rfl, rfl, _, rfl, ?_⟩⟩⟩
      exact ite2 (fun _ => ⟨_, rfl, yes⟩) (fun _ => no)
    · refine .inr ⟨_, rfl, _, _, rfl, rfl, small_mul (by decide) (by decide), _, _, rfl, rfl, _, rfl, _, rfl, rfl, .inr ⟨_, rfl, _, _, rfl, rfl, _, _, rfl, rfl, _, rfl, ?_⟩⟩
      exact ite2 (fun _ => ⟨_, rfl, yes⟩) (fun _ => no)
  rintro H6 ⟨g6, ks, hd6, hl6, hk6⟩
  have hsh6 := g6 _ _ hsh5
  have g46 := g45.trans g6
  clear hch hes hD2 g6 hsh5 g45
  have kl : (ks.map V.int).length = ks.length := List.length_map ..
  -- first, the slice
  refine ⟨_, rfl, ps, _, 7, _, rfl, rfl, SqL.of hsh6, at_pos (by decide) e7, rfl, .inr ⟨_, rfl, ?_⟩⟩
  refine ⟨_, rfl, D2, _, rfl, .inl (SqL.of hd6), _, _, rfl, rfl, _, _, rfl, _, _, rfl, rfl, small_mul (by split <;> decide) (by split <;> decide), ?_⟩
  have f0 : 0 ≤ (if decide (V.int d7 = V.int 0) = true then (1 : Int) else 0) * (if ((ks.map V.int).length : Int) - 3 > 0 then ((ks.map V.int).length : Int) - 3 else 0) := Int.mul_nonneg (by split <;> decide) (by split <;> omega)
  show gName 8 (V.int ((if decide (V.int d7 = V.int 0) = true then (1 : Int) else 0) * (if ((ks.map V.int).length : Int) - 3 > 0 then ((ks.map V.int).length : Int) - 3 else 0))) _ _ _
  generalize (if decide (V.int d7 = V.int 0) = true then (1 : Int) else 0) * (if ((ks.map V.int).length : Int) - 3 > 0 then ((ks.map V.int).length : Int) - 3 else 0) = first at f0
  refine ⟨_, rfl, _, rfl, _, rfl, _, rfl, _, _, rfl, rfl, _, rfl, D2, _, rfl, SqL.of hd6, fun kr hkr => ?_⟩
  obtain ⟨ks', ec, ec1, ec2⟩ := cut3 ks f0
  rw [ec]
  have hk' : ∀ k ∈ ks', 2 ≤ k ∧ k ≤ 10 := fun k h => hk6 k (ec1 k h)
  have g7 := same_new hkr (.lst (ks'.map V.int))
  have hkr7 : upd H6 kr (.lst (ks'.map V.int)) kr = some (.lst (ks'.map V.int)) := upd_same
  have hsh7 := g7 _ _ hsh6
  have g47 := g46.trans g7
  generalize upd H6 kr (.lst (ks'.map V.int)) = H7 at hkr7 hsh7 g47
  clear g7 hkr ec ec1 hsh6 g46 hd6
  -- pattern
  refine ⟨_, rfl, ps, _, 4, _, rfl, rfl, SqL.of hsh7, at_pos (by decide) e4, ?_⟩
  refine ⟨fun σ H' => ∃ pattern : Int, σ = [some (.ref a), some (.ref ps), some (.int size), some (.int most), none, some (.int fit), some (.ref pch), some (.ref kr), some (.int first), some (.int pattern), none, none, none, none, none] ∧ H' = H7, ?_, ?_⟩
  · refine ⟨_, rfl, _, _, rfl, rfl, _, rfl, ?_⟩
    refine ite2 (fun _ => ?_) (fun _ => ?_)
    · refine ⟨_, rfl, _, _, rfl, rfl, small_mul (by decide) (by decide), _, rfl, _, _, rfl, rfl, _, rfl, ?_⟩
      exact ite2 (fun _ => ⟨4, rfl, rfl⟩) (fun _ => ⟨d4, rfl, rfl⟩)
    · exact ifF rfl ⟨d4, rfl, rfl⟩
  rintro σ H8 ⟨pattern, rfl, rfl⟩
  -- many
  refine ⟨line_ge (by show 16 ≤ 100000; decide), fun p3 hp3 => ?_⟩
  obtain ⟨many, hmy, my1, my5⟩ := many_at a1 b1
  have g8 := same_new hp3 (.lst [V.int 3, V.int 4, V.int 5, V.int 2, V.int 4, V.int 3, V.int 4, V.int 3, V.int 4, V.int 5, V.int 2, V.int 4, V.int 3, V.int 4, V.int 2, V.int 1])
  refine ⟨_, rfl, ps, _, 1, _, rfl, rfl, SqL.of (g8 _ _ hsh7), at_pos (by decide) e1, p3, _, _, _, rfl, rfl, SqL.of (xs := manyL.map V.int) upd_same, hmy, ?_⟩
  have hkr9 := g8 _ _ hkr7
  have hsh9 := g8 _ _ hsh7
  have g49 := g47.trans g8
  generalize upd H8 p3 (.lst [V.int 3, V.int 4, V.int 5, V.int 2, V.int 4, V.int 3, V.int 4, V.int 3, V.int 4, V.int 5, V.int 2, V.int 4, V.int 3, V.int 4, V.int 2, V.int 1]) = H9 at hkr9 hsh9 g49
  clear g8 hp3 hkr7 hsh7 g47
  -- counts, names
  refine ⟨Nat.zero_le _, fun pc hpc => ?_⟩
  refine ⟨Nat.zero_le _, fun pn hpn => ?_⟩
  have hnc : pc ≠ pn := ne_of_none upd_same hpn
  have hpn1 : H9 pn = none := (same_new hpc _).free hpn
  have g12 := (same_new hpc (.lst [])).trans (same_new hpn (.lst []))
  refine ⟨_, rfl, many, rfl, by omega, by omega, for_range (lo := 0) (n := many.toNat) (fun i σ H' => ∃ (v4 v13 v14 : Option V) (bs : List Addr) (cs : List Cnt), σ = [some (.ref a), some (.ref ps), some (.int size), some (.int most), v4, some (.int fit), some (.ref pch), some (.ref kr), some (.int first), some (.int pattern), some (.int many), some (.ref pc), some (.ref pn), v13, v14] ∧ Cn H9 H' pc pn bs cs ∧ cs.length = i)
    ⟨none, none, none, [], [], rfl, ⟨g12, same_new hpn _ _ _ upd_same, upd_same, .nil, (fun c hc => nomatch hc), (fun c hc => nomatch hc), List.nodup_nil⟩, rfl⟩ ?_ ?_⟩
  · rintro i σ H2 hi ⟨v4, v13, v14, bs, cs, rfl, cn, hlen⟩
    have hi5 : i < 5 := by omega
    have ei : ((0 : Int) + (i : Nat)).toNat = i := by omega
    -- the row
    refine ⟨_, rfl, _, rfl, _, _, rfl, rfl, a, ns, _, rfl, cn.same.seq (g49.seq hS), by omega, by omega, fun c => ?_⟩
    refine ⟨_, _, rfl, rfl, ⟨by decide, by decide, by decide⟩, _, _, rfl, rfl, ⟨by decide, by decide, by decide⟩, line_ge (by show 7 ≤ 100000; decide), fun q6 h6 => ?_⟩
    refine ⟨c, q6, cntSizes, rfl, SqL.of upd_same, by decide, cnt_bounds, fun pr es hpr hes => ?_⟩
    have gx := (same_new h6 _).trans (same_new hpr (.lst (es.map V.int)))
    have hprn : pr ≠ pn := Ne.symm (ne_of_none (same_new h6 _ _ _ cn.n) hpr)
    have hn3 := gx _ _ cn.n
    have hnl : (nmV (cs.map (·.1))).length = cs.length := by unfold nmV; rw [List.length_map, List.length_map]
    have hpr3 : (upd (upd H2 q6 (.lst [V.int 100, V.int 61, V.int 12, V.int 3, V.int 3, V.int (10 ^ (60 : Int).toNat), V.int (10 ^ (58 : Int).toNat)])) pr (.lst (es.map V.int))) pr = some (.lst (es.map V.int)) := upd_same
    have cn3 : Cn H9 _ pc pn bs cs := ⟨cn.same.trans gx, gx _ _ cn.c, hn3, L2.Paired.mapP cn.p fun _ _ h => gx _ _ h, cn.ok, cn.nm, cn.nd⟩
    generalize (upd (upd H2 q6 (.lst [V.int 100, V.int 61, V.int 12, V.int 3, V.int 3, V.int (10 ^ (60 : Int).toNat), V.int (10 ^ (58 : Int).toNat)])) pr (.lst (es.map V.int))) = H3 at hpr3 cn3 hn3 gx
    clear cn gx hpr h6
    -- the name
    refine ⟨_, rfl, .inl ⟨rfl, _, SqL.of hn3⟩, _, rfl, _, rfl, _, _, rfl, rfl, a, ns, _, rfl, cn3.same.seq (g49.seq hS), by omega, by omega, fun c2 => ?_⟩
    refine ⟨two_line, fun q1 h1 => ⟨line_ge (by show 1 ≤ _; omega), fun q2 h2 => ⟨q2, 8, _, rfl, rfl, upd_same, by decide, by decide, line_ge (by show 1 * 8 ≤ _; omega), fun q3 h3 => ?_⟩⟩⟩
    refine ⟨q1, q3, _, _, rfl, rfl, same_new h3 _ _ _ (same_new h2 _ _ _ upd_same), upd_same, line_ge (by show 2 + 8 ≤ _; omega), fun q4 h4 => ?_⟩
    refine ⟨c2, q4, nameSizes, rfl, SqL.of upd_same, by decide, name_bounds, fun pr2 es2 hpr2 hes2 => ?_⟩
    have gy := (same_new h1 _).trans ((same_new h2 _).trans ((same_new h3 _).trans ((same_new h4 _).trans (same_new hpr2 (.lst (es2.map V.int))))))
    have hn4 := gy _ _ hn3
    refine ⟨_, rfl, pr2, pn, es2, nameSizes, cs.map (·.1), rfl, upd_same, hes2, rfl, hn4, (fun n hn => by obtain ⟨x, hx, rfl⟩ := List.mem_map.mp hn; exact cn3.nm x hx), by rw [List.length_map]; omega, fun n H4 g4 hnm hnn => ?_⟩
    have hn5 := g4 _ _ hn4
    have g34 := gy.trans g4
    refine ⟨pn, _, _, rfl, rfl, hn5, by rw [hnl]; exact small1000 (by omega), ?_⟩
    have s4 : Same H9 H4 := cn3.same.trans g34
    have s5 : Same H9 (upd H4 pn (.lst (nmV (cs.map (·.1)) ++ [.str (S n)]))) := same_at s4 hpn1
    have hc4 := g34 _ _ cn3.c
    have hc5 : (upd H4 pn (.lst (nmV (cs.map (·.1)) ++ [.str (S n)]))) pc = some (.lst (bs.map V.ref)) := by rw [upd_ne hnc]; exact hc4
    have hr5 : (upd H4 pn (.lst (nmV (cs.map (·.1)) ++ [.str (S n)]))) pr = some (.lst (es.map V.int)) := by rw [upd_ne hprn]; exact g34 _ _ hpr3
    have hn6 : (upd H4 pn (.lst (nmV (cs.map (·.1)) ++ [.str (S n)]))) pn = some (.lst (nmV (cs.map (·.1)) ++ [.str (S n)])) := upd_same
    have ht5 : Paired (TupAt (upd H4 pn (.lst (nmV (cs.map (·.1)) ++ [.str (S n)])))) bs cs := L2.Paired.mapP cn3.p fun b c h => by
      have h4 := g34 _ _ h
      have n1 : b ≠ pn := fun e => by rw [e, hn5] at h4; cases h4
      show upd _ pn _ b = _
      rw [upd_ne n1]
      exact h4
    generalize upd H4 pn (.lst (nmV (cs.map (·.1)) ++ [.str (S n)])) = H5 at s5 hc5 hr5 hn6 ht5
    -- big
    refine ⟨_, rfl, _, rfl, ps, _, 5, _, rfl, rfl, SqL.of (s5 _ _ hsh9), at_pos (by decide) e5, .inl ⟨_, rfl, _, rfl, _, _, rfl, rfl, (by show 0 < many; omega), rfl, ?_⟩⟩
    -- the count
    refine ⟨_, rfl, .inl ⟨rfl, _, SqL.of hc5⟩, ?_⟩
    refine ⟨_, rfl, _, rfl, pn, _, _, .str (S n), rfl, rfl, SqL.of hn6, at_pos (by omega) ?_, ?_⟩
    · rw [ei, List.getElem?_append_right (by omega), hnl, hlen, Nat.sub_self]
      rfl
    refine ⟨_, rfl, _, rfl, _, rfl, _, rfl, _, rfl, _, rfl, pr, kr, pattern, size, most, _, es, ks', rfl, hr5, hes, s0, s10, m0, m60, s5 _ _ hkr9, hk', ec2, fun cv H6 g6 cv0 cvB => ?_⟩
    refine ⟨two_line, fun u hu => ?_⟩
    have g7 := same_new hu (.tup [.str (S n), .int cv])
    have hc6 := g6 _ _ hc5
    have hc7 := g7 _ _ hc6
    have hbl : bs.length = cs.length := Paired.len cn3.p
    refine ⟨pc, _, _, rfl, rfl, hc7, by rw [List.length_map]; exact small1000 (by omega), ?_⟩
    have huc : u ≠ pc := Ne.symm (ne_of_none hc6 hu)
    refine ⟨_, _, _, bs ++ [u], cs ++ [(n, cv)], rfl, ⟨same_at ((s5.trans g6).trans g7) hpc, ?_, ?_, Paired.snoc (L2.Paired.mapP ht5 fun b c h => ?_) ?_, ?_, ?_, ?_⟩, by rw [List.length_append, hlen]; rfl⟩
    · rw [upd_same, List.map_append]
      rfl
    · rw [upd_ne (Ne.symm hnc)]
      refine g7 _ _ (g6 _ _ ?_)
      rw [hn6]
      simp only [nmV, List.map_append]
      rfl
    · have h6 := g6 _ _ h
      have n2 : b ≠ pc := fun e => by rw [e, hc6] at h6; cases h6
      show upd _ pc _ b = _
      rw [upd_ne n2]
      exact g7 _ _ h6
    · show upd _ pc _ u = _
      rw [upd_ne huc]
      exact upd_same
    · intro x hx
      rcases List.mem_append.mp hx with hx | hx
      · exact cn3.ok x hx
      · rw [List.mem_singleton.mp hx]
        exact ⟨cv0, cvB⟩
    · intro x hx
      rcases List.mem_append.mp hx with hx | hx
      · exact cn3.nm x hx
      · rw [List.mem_singleton.mp hx]
        exact hnm
    · rw [List.map_append, List.nodup_append]
      exact ⟨cn3.nd, by simp, fun x hx y hy => by
        have : y = n := by simpa using hy
        rw [this]
        exact fun e => hnn (by rw [← e]; exact hx)⟩
  · rintro σ H2 ⟨v4, v13, v14, bs, cs, rfl, cn, hlen⟩
    refine ⟨_, rfl, _, rfl, _, rfl, _, rfl, _, rfl, ps, _, 3, _, rfl, rfl, SqL.of (cn.same _ _ hsh9), at_pos (by decide) e3, line_ge (by show 5 ≤ 100000; decide), fun r hr0 => ?_⟩
    have g := same_new hr0 (.lst [V.int size, V.int most, V.ref kr, V.ref pc, V.int d3])
    refine q r _ size most d3 kr pc ks' cs (g49.trans (cn.same.trans g)) ⟨upd_same, g _ _ (cn.same _ _ hkr9), ⟨bs, g _ _ cn.c, L2.Paired.mapP cn.p fun _ _ h => g _ _ h⟩, s0, m0, hk', ec2, by omega, by omega, cn.ok, cn.nm, cn.nd⟩
end
end P64
namespace P64
open PySem PySem.Spec PyProof.Rows L2 SX EX WK
/-! ### plans as data -/
def plD : Plan → PyData
  | .take n => .tuple [.str "take", .str (S n)]
  | .join a b => .tuple [.str "join", plD a, plD b]
  | .thin k a => .tuple [.str "thin", .int k, plD a]
theorem dp_plan {K : PySem.W.Frag} {H : Hp} : ∀ {pl : Plan} {p : Addr}, PlanAt H pl p → Dp K H (.ref p) (plD pl)
  | .take n, _, h => .tup (SqT.of h) (.cons (.str _) (.cons (.str _) .nil))
  | .join a b, _, ⟨_, _, h, ha, hb⟩ => .tup (SqT.of h) (.cons (.str _) (.cons (dp_plan ha) (.cons (dp_plan hb) .nil)))
  | .thin k a, _, ⟨_, h, ha⟩ => .tup (SqT.of h) (.cons (.str _) (.cons (.int _) (.cons (dp_plan ha) .nil)))
theorem str_ok {n : List Nat} (h : Nm n) : PyData.strOk (S n) = true := by
  unfold PyData.strOk
  rw [← Array.all_toList, List.all_eq_true]
  intro d hd
  have := h.2 d hd
  exact decide_eq_true (by omega)
theorem pl_lay {ks : List Int} {N : List (List Nat)} (hN : ∀ n ∈ N, Nm n) : ∀ {pl : Plan}, pl.Good ks N → (plD pl).canLay0 = true
  | .take n, g => by
    have h1 : PyData.strOk "take" = true := by decide +kernel
    have h2 := str_ok (hN n g)
    simp [plD, PyData.canLay0, PyData.canLayAll0, h1, h2]
  | .join a b, g => by
    have h1 : PyData.strOk "join" = true := by decide +kernel
    have h2 := pl_lay hN (pl := a) g.1
    have h3 := pl_lay hN (pl := b) g.2
    simp [plD, PyData.canLay0, PyData.canLayAll0, h1, h2, h3]
  | .thin k a, g => by
    have h1 : PyData.strOk "thin" = true := by decide +kernel
    have h2 := pl_lay hN (pl := a) g.2.2
    simp [plD, PyData.canLay0, PyData.canLayAll0, h1, h2]
theorem pl_dep : ∀ pl : Plan, (plD pl).depth ≤ pl.height
  | .take n => by simp [plD, PyData.depth, PyData.depthAll, Plan.height]
  | .join a b => by
    have h1 := pl_dep a
    have h2 := pl_dep b
    simp only [plD, PyData.depth, PyData.depthAll, Plan.height]
    omega
  | .thin k a => by
    have h1 := pl_dep a
    simp only [plD, PyData.depth, PyData.depthAll, Plan.height]
    omega
theorem pl_shaped {ks : List Int} {N : List (List Nat)} (hN : ∀ n ∈ N, Nm n) {pl : Plan} (g : pl.Good ks N) (h : pl.height ≤ 64) : SeqAt.shaped (plD pl) = true := by
  have h2 : (plD pl).depth ≤ 64 := Nat.le_trans (pl_dep pl) h
  unfold SeqAt.shaped
  rw [pl_lay hN g, decide_eq_true h2]
  rfl
def valD : Option Ent → PyData
  | none => .none
  | some e => plD e.2
theorem dp_val {K : PySem.W.Frag} {H : Hp} : ∀ {o : Option Ent} {v : V}, PlanV H o v → Dp K H v (valD o)
  | none, _, h => by rw [show _ = V.non from h]; exact .non
  | some e, _, ⟨p, h1, h2⟩ => by rw [h1]; exact dp_plan h2
theorem PlanV.same {H H' : Hp} (e : Same H H') : ∀ {o : Option Ent} {v : V}, PlanV H o v → PlanV H' o v
  | none, _, h => h
  | some _, _, ⟨p, h1, h2⟩ => ⟨p, h1, h2.same e⟩
/-! ### counts as data -/
abbrev cD (cs : List Cnt) : PyData := .list (cs.map fun c => .tuple [.str (S c.1), .int c.2])
theorem c_lay : ∀ {cs : List Cnt}, (∀ x ∈ cs, Nm x.1) → PyData.canLayAll0 (cs.map fun c => .tuple [.str (S c.1), .int c.2]) = true
  | [], _ => rfl
  | c :: cs, h => by
    have h1 := str_ok (h c List.mem_cons_self)
    have h2 := c_lay (cs := cs) fun x hx => h x (List.mem_cons_of_mem _ hx)
    rw [List.map_cons, PyData.canLayAll0, h2]
    simp [PyData.canLay0, PyData.canLayAll0, h1]
theorem c_flat : ∀ cs : List Cnt, PyData.depthAll (cs.map fun c => PyData.tuple [.str (S c.1), .int c.2]) ≤ 1
  | [] => Nat.zero_le _
  | c :: cs => by
    have h := c_flat cs
    rw [List.map_cons]
    simp only [PyData.depthAll, PyData.depth]
    omega
theorem c_shaped {cs : List Cnt} (h : ∀ x ∈ cs, Nm x.1) : SeqAt.shaped (cD cs) = true := by
  have h1 : (cD cs).canLay0 = true := by
    unfold cD
    rw [PyData.canLay0]
    exact c_lay h
  have h2 : (cD cs).depth ≤ 64 := by
    have := c_flat cs
    unfold cD
    simp only [PyData.depth]
    omega
  unfold SeqAt.shaped
  rw [h1, decide_eq_true h2]
  rfl
theorem c_all {K : PySem.W.Frag} {H : Hp} : ∀ {bs : List Addr} {cs : List Cnt}, Paired (TupAt H) bs cs → DpAll K H (bs.map V.ref) (cs.map fun c => .tuple [.str (S c.1), .int c.2])
  | _, _, .nil => .nil
  | _, _, .cons h t => .cons (.tup (SqT.of h) (.cons (.str _) (.cons (.int _) .nil))) (c_all t)
abbrev iD (ns : List Int) : PyData := .list (ns.map PyData.int)
theorem i_lay : ∀ ns : List Int, PyData.canLayAll0 (ns.map PyData.int) = true
  | [] => rfl
  | n :: ns => by
    rw [List.map_cons, PyData.canLayAll0, i_lay ns]
    rfl
theorem i_dep : ∀ ns : List Int, PyData.depthAll (ns.map PyData.int) = 0
  | [] => rfl
  | n :: ns => by
    rw [List.map_cons, PyData.depthAll, i_dep ns]
    rfl
theorem i_shaped (ns : List Int) : SeqAt.shaped (iD ns) = true := by
  have h1 : (iD ns).canLay0 = true := by rw [PyData.canLay0]; exact i_lay ns
  have h2 : (iD ns).depth ≤ 64 := by
    simp only [PyData.depth, i_dep]
    decide
  unfold SeqAt.shaped
  rw [h1, decide_eq_true h2]
  rfl
theorem i_all {K : PySem.W.Frag} {H : Hp} : ∀ ns : List Int, DpAll K H (ns.map V.int) (ns.map PyData.int)
  | [] => .nil
  | n :: ns => .cons (.int n) (i_all ns)
/-! ### the count of a name -/
def knOf (cs : List Cnt) (n : List Nat) : Int := match cs.find? fun c => decide (c.1 = n) with
  | some c => c.2
  | none => 0
theorem kn_ok {cs : List Cnt} (h : ∀ c ∈ cs, 0 ≤ c.2 ∧ B 402 c.2) (n : List Nat) : 0 ≤ knOf cs n ∧ B 402 (knOf cs n) := by
  unfold knOf
  cases e : cs.find? fun c => decide (c.1 = n) with
  | none => exact ⟨Int.le_refl 0, (by show 0 < 2 ^ 402; exact Nat.pow_pos (by decide))⟩
  | some c => exact h c (List.mem_of_find?_eq_some e)
theorem kn_is : ∀ {cs : List Cnt}, (cs.map (·.1)).Nodup → ∀ c ∈ cs, knOf cs c.1 = c.2
  | [], _, c, h => nomatch h
  | x :: cs, hn, c, h => by
    rw [List.map_cons] at hn
    obtain ⟨h1, h2⟩ := List.nodup_cons.mp hn
    unfold knOf
    by_cases e : x.1 = c.1
    · rw [List.find?_cons, decide_eq_true e]
      rcases List.mem_cons.mp h with rfl | h
      · rfl
      · exact absurd (List.mem_map.mpr ⟨c, h, e.symm⟩) h1
    · rw [List.find?_cons, decide_eq_false e]
      rcases List.mem_cons.mp h with rfl | h
      · exact absurd rfl e
      · exact kn_is h2 c h
theorem ask_of {cs : List Cnt} {ks : List Int} {size : Int} (s0 : 0 ≤ size) (kb : ∀ k ∈ ks, 2 ≤ k ∧ k ≤ 10) (k3 : ks.length ≤ 3) (n1 : 1 ≤ cs.length) (n5 : cs.length ≤ 5) (ok : ∀ c ∈ cs, 0 ≤ c.2 ∧ B 402 c.2) (nd : (cs.map (·.1)).Nodup) : AskOk cs (knOf cs) size ks := ⟨s0, kn_ok ok, kn_is nd, kb, k3, n1, n5⟩
theorem AskOk.tail {cs : List Cnt} {kn : List Nat → Int} {size : Int} {ks : List Int} (a : AskOk cs kn size ks) (h : 1 < cs.length) : AskOk (cs.drop 1) kn size ks := ⟨a.s0, a.k0, fun c hc => a.kn c (List.mem_of_mem_drop hc), a.kb, a.k3, by rw [List.length_drop]; omega, by rw [List.length_drop]; have := a.n5; omega⟩
theorem best_shaped {cs : List Cnt} {kn : List Nat → Int} {size lim : Int} {ks : List Int} (ao : AskOk cs kn size ks) (hnm : ∀ c ∈ cs, Nm c.1) : SeqAt.shaped (valD (bestP cs size lim ks)) = true := by
  cases e : bestP cs size lim ks with
  | none => rfl
  | some x =>
    have hm : x ∈ tb cs size ks lim cs.length 0 cs.length := by
      rcases best_mem _ _ _ e with h | h
      · cases h
      · exact h
    have n1 := ao.n1
    have n5 := ao.n5
    have p := pg_tb (kn := kn) ao.kn cs.length 0 cs.length (by omega) (by omega) x hm
    have ht := p.ht
    exact pl_shaped (fun n hn => by obtain ⟨c, hc, rfl⟩ := List.mem_map.mp hn; exact hnm c hc) p.gd (by omega)
/-- a list of two apart from D -/
def RPr (D : Addr) : Hp → V → Cnt → Prop := fun H v c => ∃ p, v = .ref p ∧ p ≠ D ∧ H p = some (.lst [.str (S c.1), .int c.2])
theorem stb_RPr {D : Addr} : StbD D (RPr D) := fun _ _ _ _ _ e ⟨p, h1, h2, h3⟩ => ⟨p, h1, h2, e _ _ h2 h3⟩
def RTp : Hp → V → Cnt → Prop := fun H v c => ∃ p, v = .ref p ∧ TupAt H p c
theorem stb_RTp {D : Addr} : StbD D RTp := fun _ _ _ _ hD e ⟨p, h1, h2⟩ => ⟨p, h1, (sameT_D hD e) _ _ h2⟩
theorem Rs.refs {R : Hp → V → Cnt → Prop} {F : Hp → Addr → Cnt → Prop} (hR : ∀ H v c, R H v c → ∃ p, v = .ref p ∧ F H p c) {H : Hp} : ∀ {vs : List V} {cs : List Cnt}, Rs R H vs cs → ∃ bs : List Addr, vs = bs.map V.ref ∧ Paired (F H) bs cs
  | [], [], _ => ⟨[], rfl, .nil⟩
  | [], _ :: _, h => by have := h.1; simp at this
  | _ :: _, [], h => by have := h.1; simp at this
  | v :: vs, e :: es, h => by
    obtain ⟨bs, h1, h2⟩ := Rs.refs hR (vs := vs) (cs := es) ⟨by have := h.1; simp at this; exact this, fun i u z hu hz => h.2 (i + 1) u z hu hz⟩
    obtain ⟨p, rfl, hp⟩ := hR _ _ _ (h.2 0 v e rfl rfl)
    exact ⟨p :: bs, by rw [h1]; rfl, .cons hp h2⟩
end P64
namespace P64
open PySem PySem.Spec PyProof.Rows L2 SX EX WK
/-- the counts that are passed: a list of pairs -/
def PsAt (H : Hp) (a : Addr) (cs : List Cnt) : Prop := ∃ bs : List Addr, H a = some (.lst (bs.map V.ref)) ∧ Paired (PairAt H) bs cs
theorem PsAt.same {H H' : Hp} {a : Addr} {cs : List Cnt} (e : Same H H') (h : PsAt H a cs) : PsAt H' a cs := let ⟨bs, h1, h2⟩ := h; ⟨bs, e _ _ h1, L2.Paired.mapP h2 fun _ _ h => h.imp (e _ _) (e _ _)⟩
theorem PsAt.cnt {H : Hp} {a : Addr} {cs : List Cnt} (h : PsAt H a cs) : CntAt H a cs := let ⟨bs, h1, h2⟩ := h; ⟨bs, .inl h1, h2⟩
section
variable {P : Program} {w : World} {K : PySem.W.Frag} {mg : Str → Option Value} {base : Heap} {f : Addr} {fd : FuncData}
def spLaw (K : PySem.W.Frag) : Sp := fun vs H Q _ => ∃ (a : Addr) (ns : List Int), vs = [.ref a] ∧ SqL K H a (ns.map V.int) ∧ ns.length ≤ 63 ∧ ∀ H', Q (.bl true) H'
abbrev s_law : Stmt := top 41
abbrev N_law : List Str := ["script", "drawn", "size", "most", "kinds", "counts", "passed", "wanted", "first", "less", "pair"]
theorem sc_law : FnScope N_law ["script"] (defScope s_law) := ⟨rfl, rfl, rfl, by decide +kernel, rfl, by decide +kernel, by decide +kernel⟩
theorem ok_law (F : Fun K "law" "law" s_law f fd) (T : Txt mg) (C__law_draw : Cal P w K mg base 2 "_law_draw" ["script"] (spDraw K)) (C_best_plan : CalN P w K mg base 5 "best_plan" ["size", "counts", "limit", "grades"] 2 ["limit", "grades"] spBest) (C__law_right : Cal P w K mg base 17 "_law_right" ["told", "size", "counts", "most", "kinds"] spRight) : FnOk P w K mg base CX0 18 f fd ["script"] (spLaw K) := by
  refine F.ok sc_law (fun vs H Q E h => ?_) (fun cdv A outer s H vs Q E hr h => ?_)
  · obtain ⟨a, ns, rfl, _⟩ := h
    rfl
  obtain ⟨a, ns, rfl, hS, h63, q⟩ := h
  refine ⟨_, (pss_cons (ps_set (i := 1) sc_law.nd rfl (Or.inl rfl) (pe_cal C__law_draw (hr.mono (by omega)) rfl (pa_cons (pv 0) pa_nil)))
  (pss_cons (ps_set (i := 2) sc_law.nd rfl (Or.inl rfl) (pe_ix ix_list (pv 1) pe_int (fun _ _ => rfl)))
  (pss_cons (ps_set (i := 3) sc_law.nd rfl (Or.inl rfl) (pe_ix ix_list (pv 1) pe_int (fun _ _ => rfl)))
  (pss_cons (ps_set (i := 4) sc_law.nd rfl (Or.inl rfl) (pe_ix ix_list (pv 1) pe_int (fun _ _ => rfl)))
  (pss_cons (ps_set (i := 5) sc_law.nd rfl (Or.inl rfl) (pe_ix ix_list (pv 1) pe_int (fun _ _ => rfl)))
  (pss_cons (ps_set (i := 6) sc_law.nd rfl (Or.inl rfl) (pe_callTy call_list_of (by rfl) T.b_list (by decide +kernel) (pa_cons (pv 5) pa_nil)))
  (pss_cons (ps_set (i := 7) sc_law.nd rfl (Or.inl rfl) (pe_callTy call_list_of (by rfl) T.b_list (by decide +kernel) (pa_cons (pv 4) pa_nil)))
  (C8.pss_cut (ps_if (pt_cmpR op_eq (pe_ix ix_list (pv 1) pe_int (fun _ _ => rfl)) pe_int (nomark _)) (pss_one (ps_setLc (i := 6) (own := [("pair", 10)]) (g := gName 10) (tt := tYes) (by rfl) sc_law.nd rfl rfl (sw_true rfl rfl rfl (by decide +kernel)) (pi_list (pv 5)) (blkOk_by (N := N_law) (sc := defScope s_law) (by decide +kernel)) (fun _ _ _ _ _ => (pg_name (i := 10) sc_law.nd rfl (Or.inl rfl))) (fun _ _ _ _ _ => pts_nil) (fun _ _ _ _ _ => (pe_callTy (call_list_ofK (K := K) rfl) (by rfl) T.b_list (by decide +kernel) (pa_cons (pv 10) pa_nil))))) pss_nil)
  (pss_cons (ps_set (i := 8) sc_law.nd rfl (Or.inl rfl) (pe_calN C_best_plan (hr.mono (by omega)) rfl (pa_cons (pv 2) (pa_cons (pv 6) pa_nil)) (pk_cons (pv 3) (pk_cons (pv 7) pk_nil))))
  (pss_cons (ps_if (pt_not (pt_val (pe_cal C__law_right (hr.mono (by omega)) rfl (pa_cons (pv 8) (pa_cons (pv 2) (pa_cons (pv 5) (pa_cons (pv 3) (pa_cons (pv 4) pa_nil)))))))) (pss_one (ps_ret pe_bl)) pss_nil)
  (C8.pss_cut (ps_if (pt_cmpR op_gt (pe_callB call_len_seq (by rfl) T.b_len PySem.boot_len (pa_cons (pv 5) pa_nil)) pe_int (nomark _)) (pss_one (ps_if (pt_not (pt_val (pe_cal C__law_right (hr.mono (by omega)) rfl (pa_cons (pe_calN C_best_plan (hr.mono (by omega)) rfl (pa_cons (pv 2) (pa_cons (pe_slice sl_list (pv 6) (po_some pe_int) po_none) pa_nil)) (pk_cons (pv 3) (pk_cons (pv 7) pk_nil))) (pa_cons (pv 2) (pa_cons (pe_slice sl_list (pv 5) (po_some pe_int) po_none) (pa_cons (pv 3) (pa_cons (pv 4) pa_nil)))))))) (pss_one (ps_ret pe_bl)) pss_nil)) pss_nil)
  (C8.pss_cut (ps_if (pt_cmpR op_gt (pv 3) pe_int (nomark _)) (pss_cons (ps_set (i := 9) sc_law.nd rfl (Or.inl rfl) (pe_calN C_best_plan (hr.mono (by omega)) rfl (pa_cons (pv 2) (pa_cons (pe_callTy call_tuple_of (by rfl) T.b_tuple (by decide +kernel) (pa_cons (pv 6) pa_nil)) pa_nil)) (pk_cons (pe_op op_sub (pv 3) pe_int) (pk_cons (pe_callTy call_tuple_of (by rfl) T.b_tuple (by decide +kernel) (pa_cons (pv 7) pa_nil)) pk_nil))))
  (pss_one (ps_if (pt_not (pt_val (pe_cal C__law_right (hr.mono (by omega)) rfl (pa_cons (pv 9) (pa_cons (pv 2) (pa_cons (pv 5) (pa_cons (pe_op op_sub (pv 3) pe_int) (pa_cons (pv 4) pa_nil)))))))) (pss_one (ps_ret pe_bl)) pss_nil))) pss_nil)
  (pss_cons (ps_if (pt_cmpR (op_neD hr.units) (pe_calN C_best_plan (hr.mono (by omega)) rfl (pa_cons (pv 2) (pa_cons (pe_callTy call_tuple_of (by rfl) T.b_tuple (by decide +kernel) (pa_cons (pv 6) pa_nil)) pa_nil)) (pk_cons (pv 3) (pk_cons (pe_callTy call_tuple_of (by rfl) T.b_tuple (by decide +kernel) (pa_cons (pv 7) pa_nil)) pk_nil))) (pv 8) (nomark _)) (pss_one (ps_ret pe_bl)) pss_nil)
  (pss_one (ps_ret (pe_and (pe_cmpR (op_eqD hr.units) (pe_lc (own := [("pair", 10)]) (g := gName 10) (tt := tYes) (by rfl) sc_law.nd (pi_list (pv 6)) (blkOk_by (N := N_law) (sc := defScope s_law) (by decide +kernel)) (fun _ _ _ _ _ => (pg_name (i := 10) sc_law.nd rfl (Or.inl rfl))) (fun _ _ _ _ _ => pts_nil) (fun _ _ _ _ _ => (pe_callTy (call_tuple_ofK (K := K) rfl) (by rfl) T.b_tuple (by decide +kernel) (pa_cons (pv 10) pa_nil)))) (pv 5) (nomark _)) (pe_one (pe_cmpR (op_eqD hr.units) (pv 7) (pv 4) (nomark _))))))))))))))))))), ?_⟩
  refine ⟨_, rfl, a, ns, rfl, hS, h63, fun r H1 size most flag kr cr ks cs g1 D => ?_⟩
  obtain ⟨hr1, hkr, hct, s0, m0, kb, k3, n1, n5, ok, hnm, nd⟩ := D
  have ao := ask_of (ks := ks) s0 kb k3 n1 n5 ok nd
  refine ⟨_, rfl, r, _, 0, _, rfl, rfl, SqL.of hr1, at_pos (by decide) rfl, ?_⟩
  refine ⟨_, rfl, r, _, 1, _, rfl, rfl, SqL.of hr1, at_pos (by decide) rfl, ?_⟩
  refine ⟨_, rfl, r, _, 2, _, rfl, rfl, SqL.of hr1, at_pos (by decide) rfl, ?_⟩
  refine ⟨_, rfl, r, _, 3, _, rfl, rfl, SqL.of hr1, at_pos (by decide) rfl, ?_⟩
  obtain ⟨bs, hcr, hbs⟩ := id hct
  have hbl : bs.length = cs.length := Paired.len hbs
  refine ⟨_, rfl, cr, _, rfl, .inl (SqL.of hcr), fun pl hpl => ?_⟩
  have g2 := same_new hpl (.lst (bs.map V.ref))
  refine ⟨_, rfl, kr, _, rfl, .inl (SqL.of (g2 _ _ hkr)), fun wl hwl => ?_⟩
  have g3 := same_new hwl (.lst (ks.map V.int))
  have g23 := g2.trans g3
  have hwl3 : upd (upd H1 pl (.lst (bs.map V.ref))) wl (.lst (ks.map V.int)) wl = some (.lst (ks.map V.int)) := upd_same
  have hpl3 : PsAt (upd (upd H1 pl (.lst (bs.map V.ref))) wl (.lst (ks.map V.int))) pl cs := ⟨bs, g3 _ _ upd_same, L2.Paired.mapP hbs fun _ _ h => .inr (g23 _ _ h)⟩
  generalize upd (upd H1 pl (.lst (bs.map V.ref))) wl (.lst (ks.map V.int)) = H3 at g23 hwl3 hpl3
  clear g2 g3 hpl hwl
  have hr3 := g23 _ _ hr1
  have hkr3 := g23 _ _ hkr
  have hct3 := hct.same g23
  have hcr3 := g23 _ _ hcr
  have hbs3 : Paired (TupAt H3) bs cs := L2.Paired.mapP hbs fun _ _ h => g23 _ _ h
  clear hr1 hkr hct hcr hbs g1 hS
  refine ⟨fun σ H' => ∃ pp : Addr, σ = [some (.ref a), some (.ref r), some (.int size), some (.int most), some (.ref kr), some (.ref cr), some (.ref pp), some (.ref wl), none, none, none] ∧ Same H3 H' ∧ PsAt H' pp cs, ?_, ?_⟩
  · refine ⟨_, rfl, r, _, 4, _, rfl, rfl, SqL.of hr3, at_pos (by decide) rfl, rfl, _, rfl, ?_⟩
    refine ite2 (fun _ => ?_) (fun _ => ⟨pl, rfl, Same.refl _, hpl3⟩)
    refine ⟨_, rfl, cr, rfl, ⟨_, SqL.of hcr3⟩, fun D hD => ?_⟩
    refine lc_gm walk_list (RPr D) stb_RPr cs (by rw [List.length_map]; exact hbl) (by omega) hD (fun H2 g2 => SqL.of (g2 _ _ hcr3)) (fun i H x H' y => ys_at y) (fun c => c) ?_ ?_
    · rintro j c x H4 H5 hc g4 g5 ⟨rfl, hx⟩ ⟨lD, hlD⟩ A B hA
      obtain ⟨b, c', rfl, hc', hbc⟩ := ct_at hbs3 hx
      rw [hc] at hc'
      obtain rfl := Option.some.inj hc'
      refine ⟨rfl, lc_yes ⟨_, rfl, b, _, rfl, .inr (SqT.of (g4 _ _ hbc)), fun l hl => hA _ _ (same_new hl _) ⟨l, rfl, fun e => ?_, upd_same⟩⟩⟩
      rw [e, hlD] at hl
      cases hl
    intro H4 vi g4 hvi rs
    rw [List.map_id'] at rs
    obtain ⟨bs', e1, e2⟩ := Rs.refs (F := fun H p (c : Cnt) => H p = some (.lst [.str (S c.1), .int c.2])) (fun _ _ _ ⟨p, h1, _, h3⟩ => ⟨p, h1, h3⟩) rs
    exact ⟨D, rfl, g4, bs', by rw [hvi, e1], L2.Paired.mapP e2 fun _ _ h => .inl h⟩
  rintro σ H4 ⟨pp, rfl, g4, hpp⟩
  have hr4 := g4 _ _ hr3
  have hkr4 := g4 _ _ hkr3
  have hct4 := hct3.same g4
  have hwl4 := g4 _ _ hwl3
  clear hr3 hkr3 hct3 hcr3 hbs3 hwl3 hpl3 g4 g23
  -- first
  refine ⟨_, rfl, _, rfl, _, rfl, _, rfl, rfl, rfl, pp, wl, cs, knOf cs, ks, size, most, rfl, hpp.cnt, .inl hwl4, ao, fun v H5 g5 hv => ?_⟩
  have hct5 := hct4.same g5
  have hkr5 := g5 _ _ hkr4
  have hpp5 := hpp.same g5
  have hwl5 := g5 _ _ hwl4
  refine ⟨_, rfl, _, rfl, _, rfl, _, rfl, _, rfl, v, cr, kr, cs, knOf cs, ks, size, most, rfl, hct5, hkr5, ao, m0, hnm, hv, fun H6 g6 => ?_⟩
  refine ⟨true, rfl, ifF rfl ?_⟩
  have hct6 := hct5.same g6
  have hkr6 := g6 _ _ hkr5
  have hpp6 := hpp5.same g6
  have hwl6 := g6 _ _ hwl5
  have hv6 := hv.same g6
  clear hct5 hkr5 hpp5 hwl5 hct4 hkr4 hwl4 hpp g6 g5 hv
  -- without the first
  refine ⟨fun σ H' => σ = [some (.ref a), some (.ref r), some (.int size), some (.int most), some (.ref kr), some (.ref cr), some (.ref pp), some (.ref wl), some v, none, none] ∧ Same H6 H', ?_, ?_⟩
  · obtain ⟨bs, hcr6, hbs6⟩ := id hct6
    obtain ⟨bs2, hp6, hbp6⟩ := id hpp6
    have hbl6 : bs.length = cs.length := Paired.len hbs6
    refine ⟨_, rfl, cr, _, rfl, .inl (SqL.of hcr6), _, _, rfl, rfl, _, rfl, ?_⟩
    refine ite2 (fun c => ?_) (fun _ => ⟨rfl, Same.refl _⟩)
    have c1 : (1 : Int) < (((bs.map V.ref).length : Nat) : Int) := of_decide_eq_true c
    rw [List.length_map, hbl6] at c1
    have c2 : 1 < cs.length := by omega
    refine ⟨_, rfl, _, rfl, _, rfl, pp, _, rfl, SqL.of hp6, fun u1 hu1 => ?_⟩
    rw [cutV_from _ (by decide)]
    have s1 := same_new hu1 (.lst ((bs2.map V.ref).drop (1 : Int).toNat))
    have hq : PsAt (upd H6 u1 (.lst ((bs2.map V.ref).drop (1 : Int).toNat))) u1 (cs.drop 1) := ⟨bs2.drop 1, by rw [upd_same, ← List.map_drop]; rfl, L2.Paired.mapP (Paired.drop' 1 hbp6) fun _ _ h => h.imp (s1 _ _) (s1 _ _)⟩
    generalize upd H6 u1 (.lst ((bs2.map V.ref).drop (1 : Int).toNat)) = H7 at s1 hq
    refine ⟨_, rfl, _, rfl, rfl, rfl, u1, wl, cs.drop 1, knOf cs, ks, size, most, rfl, hq.cnt, .inl (s1 _ _ hwl6), ao.tail c2, fun v2 H8 g8 hv8 => ?_⟩
    have s18 := s1.trans g8
    refine ⟨_, rfl, _, rfl, _, rfl, cr, _, rfl, SqL.of (s18 _ _ hcr6), fun u2 hu2 => ?_⟩
    rw [cutV_from _ (by decide)]
    have s2 := same_new hu2 (.lst ((bs.map V.ref).drop (1 : Int).toNat))
    have hq2 : CtAt (upd H8 u2 (.lst ((bs.map V.ref).drop (1 : Int).toNat))) u2 (cs.drop 1) := ⟨bs.drop 1, by rw [upd_same, ← List.map_drop]; rfl, L2.Paired.mapP (Paired.drop' 1 hbs6) fun _ _ h => s2 _ _ (s18 _ _ h)⟩
    have hv9 := hv8.same s2
    generalize upd H8 u2 (.lst ((bs.map V.ref).drop (1 : Int).toNat)) = H9 at s2 hq2 hv9
    refine ⟨_, rfl, _, rfl, v2, u2, kr, cs.drop 1, knOf cs, ks, size, most, rfl, hq2, s2 _ _ (s18 _ _ hkr6), ao.tail c2, m0, fun c hc => hnm c (List.mem_of_mem_drop hc), hv9, fun H10 g10 => ?_⟩
    exact ⟨true, rfl, ifF rfl ⟨rfl, s18.trans (s2.trans g10)⟩⟩
  rintro σ H7 ⟨rfl, g7⟩
  have hct7 := hct6.same g7
  have hkr7 := g7 _ _ hkr6
  have hpp7 := hpp6.same g7
  have hwl7 := g7 _ _ hwl6
  have hv7 := hv6.same g7
  clear hct6 hkr6 hpp6 hwl6 hv6 g7
  -- one less
  refine ⟨fun σ H' => ∃ v9 : Option V, σ = [some (.ref a), some (.ref r), some (.int size), some (.int most), some (.ref kr), some (.ref cr), some (.ref pp), some (.ref wl), some v, v9, none] ∧ Same H7 H', ?_, ?_⟩
  · refine ⟨_, rfl, _, _, rfl, rfl, _, rfl, ?_⟩
    show (if decide (0 < most) = true then _ else _)
    refine ite2 (fun c => ?_) (fun _ => ⟨none, rfl, Same.refl _⟩)
    have c1 : 0 < most := of_decide_eq_true c
    obtain ⟨bs2, hp7, hbp7⟩ := id hpp7
    refine ⟨_, rfl, _, rfl, pp, _, rfl, .inl ⟨SqL.of hp7, fun u1 hu1 => ?_⟩⟩
    have s1 := same_new hu1 (.tup (bs2.map V.ref))
    have hq : CntAt (upd H7 u1 (.tup (bs2.map V.ref))) u1 cs := ⟨bs2, .inr upd_same, L2.Paired.mapP hbp7 fun _ _ h => h.imp (s1 _ _) (s1 _ _)⟩
    generalize upd H7 u1 (.tup (bs2.map V.ref)) = H8 at s1 hq
    refine ⟨_, rfl, _, _, rfl, rfl, _, rfl, wl, _, rfl, .inl ⟨SqL.of (s1 _ _ hwl7), fun u2 hu2 => ?_⟩⟩
    have s2 := same_new hu2 (.tup (ks.map V.int))
    refine ⟨rfl, rfl, u1, u2, cs, knOf cs, ks, size, most - 1, rfl, hq.same s2, .inr upd_same, ao, fun v2 H9 g9 hv9 => ?_⟩
    have s129 := s1.trans (s2.trans g9)
    refine ⟨_, rfl, _, rfl, _, rfl, _, rfl, _, _, rfl, rfl, _, rfl, v2, cr, kr, cs, knOf cs, ks, size, most - 1, rfl, hct7.same s129, s129 _ _ hkr7, ao, by omega, hnm, hv9, fun H10 g10 => ?_⟩
    exact ⟨true, rfl, ifF rfl ⟨some v2, rfl, s129.trans g10⟩⟩
  rintro σ H8 ⟨v9, rfl, g8⟩
  have hct8 := hct7.same g8
  have hkr8 := g8 _ _ hkr7
  have hpp8 := hpp7.same g8
  have hwl8 := g8 _ _ hwl7
  have hv8 := hv7.same g8
  clear hct7 hkr7 hpp7 hwl7 hv7 g8
  -- the same again
  obtain ⟨bs2, hp8, hbp8⟩ := id hpp8
  have hbl2 : (bs2.map V.ref).length = cs.length := by rw [List.length_map, Paired.len hbp8]
  refine ⟨_, rfl, _, rfl, pp, _, rfl, .inl ⟨SqL.of hp8, fun u1 hu1 => ?_⟩⟩
  have s1 := same_new hu1 (.tup (bs2.map V.ref))
  have hq : CntAt (upd H8 u1 (.tup (bs2.map V.ref))) u1 cs := ⟨bs2, .inr upd_same, L2.Paired.mapP hbp8 fun _ _ h => h.imp (s1 _ _) (s1 _ _)⟩
  generalize upd H8 u1 (.tup (bs2.map V.ref)) = H9 at s1 hq
  refine ⟨_, rfl, _, rfl, wl, _, rfl, .inl ⟨SqL.of (s1 _ _ hwl8), fun u2 hu2 => ?_⟩⟩
  have s2 := same_new hu2 (.tup (ks.map V.int))
  refine ⟨rfl, rfl, u1, u2, cs, knOf cs, ks, size, most, rfl, hq.same s2, .inr upd_same, ao, fun v2 H10 g10 hv10 => ?_⟩
  have s12 := s1.trans (s2.trans g10)
  have sh := best_shaped (lim := most) ao hnm
  refine ⟨_, rfl, valD (bestP cs size most ks), valD (bestP cs size most ks), dp_val hv10, dp_val (hv8.same s12), sh, sh, _, rfl, ifF (by rw [eqv_self sh]; rfl) ?_⟩
  -- what was passed stays
  have hp10 := s12 _ _ hp8
  have hbp10 : Paired (PairAt H10) bs2 cs := L2.Paired.mapP hbp8 fun _ _ h => h.imp (s12 _ _) (s12 _ _)
  refine ⟨_, rfl, pp, rfl, ⟨_, SqL.of hp10⟩, fun D hD => ?_⟩
  refine lc_gm walk_list RTp stb_RTp cs hbl2 (by omega) hD (fun H2 g2 => SqL.of (g2 _ _ hp10)) (fun i H x H' y => ys_at y) (fun c => c) ?_ ?_
  · rintro j c x H11 H12 hc g11 g12 ⟨rfl, hx⟩ _ A B hA
    obtain ⟨b, hb, hpr⟩ := Paired.at hbp10 hc
    rw [List.getElem?_map, hb] at hx
    obtain rfl := Option.some.inj hx
    refine ⟨rfl, lc_yes ?_⟩
    rcases hpr with hpr | hpr
    · exact ⟨_, rfl, b, _, rfl, .inl ⟨SqL.of (g11 _ _ hpr), fun l hl => hA _ _ (same_new hl _) ⟨l, rfl, upd_same⟩⟩⟩
    · exact ⟨_, rfl, b, _, rfl, .inr ⟨SqT.of (g11 _ _ hpr), hA _ _ (Same.refl _) ⟨b, rfl, g11 _ _ hpr⟩⟩⟩
  intro H11 vi g11 hvi rs
  rw [List.map_id'] at rs
  obtain ⟨bs3, e1, e2⟩ := Rs.refs (F := fun H p (c : Cnt) => TupAt H p c) (fun _ _ _ ⟨p, h1, h2⟩ => ⟨p, h1, h2⟩) rs
  rw [e1] at hvi
  have shc := c_shaped hnm
  have s11 := s12.trans g11
  obtain ⟨bs4, hc1, hc2⟩ := hct8.same s11
  refine ⟨_, rfl, cD cs, cD cs, .lst (SqL.of hvi) (c_all e2), .lst (SqL.of hc1) (c_all hc2), shc, shc, _, rfl, ifT (eqv_self shc) ?_⟩
  refine ⟨_, rfl, _, rfl, iD ks, iD ks, .lst (SqL.of (s11 _ _ hwl8)) (i_all ks), .lst (SqL.of (s11 _ _ hkr8)) (i_all ks), i_shaped ks, i_shaped ks, ?_⟩
  rw [eqv_self (i_shaped ks)]
  exact q H11
end
end P64
namespace P64
open PySem PySem.Spec PyProof.Rows L2 SX EX WK
theorem kbn_best {K : PySem.W.Frag} {f : Addr} {fd : FuncData} (F : Fun K "best_plan" "best_plan" s_best_plan f fd) : KBn K fd ["size", "counts", "limit", "grades"] 2 ["limit", "grades"] (fun us ws => us ++ ws) (fun vs zs => vs ++ zs) := by
  obtain ⟨oc, od, kV, doc, pm, an, cdv, ct, osl, rfl, lk, hcd⟩ := F.ex
  refine ⟨fun s us ws _ l1 l2 => ?_, fun r1 r2 => r1.append r2⟩
  match us, l1, ws, l2 with
  | [a, b], _, [c, d], _ => exact BindsTo.of_looks fun M => .of_pure rfl
end P64
namespace P64
open PySem PySem.Spec PyProof.Rows L2 SX EX WK
theorem all_mk {l : PySem.W.OpenLaw} {w : World} {K : PySem.W.Frag} {h : Heap} {mg : Str → Option Value} {fa f1 f2 f3 f4 f5 f6 f7 f8 f9 f10 f11 f12 f13 f14 f15 f16 f17 f18 f19 f20 f21 f22 f23 f24 f25 f26 f27 f28 f29 f30 f31 f32 f33 : Addr} (X : K.In h) (G : h.Ns mainGlobals mg) (hfa : mg "law" = some (.ref fa))
    {od1 an1 od2 an2 od3 an3 od4 an4 od5 an5 od6 an6 od7 an7 od8 an8 od9 an9 od10 an10 od11 an11 od12 an12 od13 an13 od14 an14 od15 an15 od16 an16 od17 an17 od18 an18 od19 an19 od20 an20 od21 an21 od22 an22 od23 an23 od24 an24 od25 an25 od26 an26 od27 an27 od28 an28 od29 an29 od30 an30 od31 an31 od32 an32 od33 an33 : Option Addr}
    {sl1 sl2 sl3 sl4 sl5 sl6 sl7 sl8 sl9 sl10 sl11 sl12 sl13 sl14 sl15 sl16 sl17 sl18 sl19 sl20 sl21 sl22 sl23 sl24 sl25 sl26 sl27 sl28 sl29 sl30 sl31 sl32 sl33 : Array (Option Value)} {oc1 kV1 dc1 pm1 cd1 ct1 oc2 kV2 dc2 pm2 cd2 ct2 oc3 kV3 dc3 pm3 cd3 ct3 oc4 kV4 dc4 pm4 cd4 ct4 oc5 kV5 dc5 pm5 cd5 ct5 oc6 kV6 dc6 pm6 cd6 ct6 oc7 kV7 dc7 pm7 cd7 ct7 oc8 kV8 dc8 pm8 cd8 ct8 oc9 kV9 dc9 pm9 cd9 ct9 oc10 kV10 dc10 pm10 cd10 ct10 oc11 kV11 dc11 pm11 cd11 ct11 oc12 kV12 dc12 pm12 cd12 ct12 oc13 kV13 dc13 pm13 cd13 ct13 oc14 kV14 dc14 pm14 cd14 ct14 oc15 kV15 dc15 pm15 cd15 ct15 oc16 kV16 dc16 pm16 cd16 ct16 oc17 kV17 dc17 pm17 cd17 ct17 oc18 kV18 dc18 pm18 cd18 ct18 oc19 kV19 dc19 pm19 cd19 ct19 oc20 kV20 dc20 pm20 cd20 ct20 oc21 kV21 dc21 pm21 cd21 ct21 oc22 kV22 dc22 pm22 cd22 ct22 oc23 kV23 dc23 pm23 cd23 ct23 oc24 kV24 dc24 pm24 cd24 ct24 oc25 kV25 dc25 pm25 cd25 ct25 oc26 kV26 dc26 pm26 cd26 ct26 oc27 kV27 dc27 pm27 cd27 ct27 oc28 kV28 dc28 pm28 cd28 ct28 oc29 kV29 dc29 pm29 cd29 ct29 oc30 kV30 dc30 pm30 cd30 ct30 oc31 kV31 dc31 pm31 cd31 ct31 oc32 kV32 dc32 pm32 cd32 ct32 oc33 kV33 dc33 pm33 cd33 ct33 : Value}
    (a1 : PySem.W.nsIn K mainGlobals "fraction" = some (some (.ref f1))) (l1 : K.lookup f1 = some ⟨oc1, od1, .func (PySem.W.fnOf "fraction" "fraction" (defArgs s_fraction) (defBody s_fraction) (defScope s_fraction) .none kV1 dc1 pm1 an1 cd1 ct1), sl1⟩) (c1 : PySem.W.codeIn K cd1 "fraction" = true) (k1 : PySem.W.keepIn K (.ref f1) = true)
    (a2 : PySem.W.nsIn K mainGlobals "multiplied" = some (some (.ref f2))) (l2 : K.lookup f2 = some ⟨oc2, od2, .func (PySem.W.fnOf "multiplied" "multiplied" (defArgs s_multiplied) (defBody s_multiplied) (defScope s_multiplied) .none kV2 dc2 pm2 an2 cd2 ct2), sl2⟩) (c2 : PySem.W.codeIn K cd2 "multiplied" = true) (k2 : PySem.W.keepIn K (.ref f2) = true)
    (a3 : PySem.W.nsIn K mainGlobals "compared" = some (some (.ref f3))) (l3 : K.lookup f3 = some ⟨oc3, od3, .func (PySem.W.fnOf "compared" "compared" (defArgs s_compared) (defBody s_compared) (defScope s_compared) .none kV3 dc3 pm3 an3 cd3 ct3), sl3⟩) (c3 : PySem.W.codeIn K cd3 "compared" = true) (k3 : PySem.W.keepIn K (.ref f3) = true)
    (a4 : PySem.W.nsIn K mainGlobals "grade_unit" = some (some (.ref f4))) (l4 : K.lookup f4 = some ⟨oc4, od4, .func (PySem.W.fnOf "grade_unit" "grade_unit" (defArgs s_grade_unit) (defBody s_grade_unit) (defScope s_grade_unit) .none kV4 dc4 pm4 an4 cd4 ct4), sl4⟩) (c4 : PySem.W.codeIn K cd4 "grade_unit" = true) (k4 : PySem.W.keepIn K (.ref f4) = true)
    (a5 : PySem.W.nsIn K mainGlobals "grade_factor" = some (some (.ref f5))) (l5 : K.lookup f5 = some ⟨oc5, od5, .func (PySem.W.fnOf "grade_factor" "grade_factor" (defArgs s_grade_factor) (defBody s_grade_factor) (defScope s_grade_factor) .none kV5 dc5 pm5 an5 cd5 ct5), sl5⟩) (c5 : PySem.W.codeIn K cd5 "grade_factor" = true) (k5 : PySem.W.keepIn K (.ref f5) = true)
    (a6 : PySem.W.nsIn K mainGlobals "join_step" = some (some (.ref f6))) (l6 : K.lookup f6 = some ⟨oc6, od6, .func (PySem.W.fnOf "join_step" "join_step" (defArgs s_join_step) (defBody s_join_step) (defScope s_join_step) .none kV6 dc6 pm6 an6 cd6 ct6), sl6⟩) (c6 : PySem.W.codeIn K cd6 "join_step" = true) (k6 : PySem.W.keepIn K (.ref f6) = true)
    (a7 : PySem.W.nsIn K mainGlobals "thin_step" = some (some (.ref f7))) (l7 : K.lookup f7 = some ⟨oc7, od7, .func (PySem.W.fnOf "thin_step" "thin_step" (defArgs s_thin_step) (defBody s_thin_step) (defScope s_thin_step) .none kV7 dc7 pm7 an7 cd7 ct7), sl7⟩) (c7 : PySem.W.codeIn K cd7 "thin_step" = true) (k7 : PySem.W.keepIn K (.ref f7) = true)
    (a8 : PySem.W.nsIn K mainGlobals "betters" = some (some (.ref f8))) (l8 : K.lookup f8 = some ⟨oc8, od8, .func (PySem.W.fnOf "betters" "betters" (defArgs s_betters) (defBody s_betters) (defScope s_betters) .none kV8 dc8 pm8 an8 cd8 ct8), sl8⟩) (c8 : PySem.W.codeIn K cd8 "betters" = true) (k8 : PySem.W.keepIn K (.ref f8) = true)
    (a9 : PySem.W.nsIn K mainGlobals "front" = some (some (.ref f9))) (l9 : K.lookup f9 = some ⟨oc9, od9, .func (PySem.W.fnOf "front" "front" (defArgs s_front) (defBody s_front) (defScope s_front) .none kV9 dc9 pm9 an9 cd9 ct9), sl9⟩) (c9 : PySem.W.codeIn K cd9 "front" = true) (k9 : PySem.W.keepIn K (.ref f9) = true)
    (a10 : PySem.W.nsIn K mainGlobals "joins" = some (some (.ref f10))) (l10 : K.lookup f10 = some ⟨oc10, od10, .func (PySem.W.fnOf "joins" "joins" (defArgs s_joins) (defBody s_joins) (defScope s_joins) .none kV10 dc10 pm10 an10 cd10 ct10), sl10⟩) (c10 : PySem.W.codeIn K cd10 "joins" = true) (k10 : PySem.W.keepIn K (.ref f10) = true)
    (a11 : PySem.W.nsIn K mainGlobals "steps" = some (some (.ref f11))) (l11 : K.lookup f11 = some ⟨oc11, od11, .func (PySem.W.fnOf "steps" "steps" (defArgs s_steps) (defBody s_steps) (defScope s_steps) .none kV11 dc11 pm11 an11 cd11 ct11), sl11⟩) (c11 : PySem.W.codeIn K cd11 "steps" = true) (k11 : PySem.W.keepIn K (.ref f11) = true)
    (a12 : PySem.W.nsIn K mainGlobals "bare_entries" = some (some (.ref f12))) (l12 : K.lookup f12 = some ⟨oc12, od12, .func (PySem.W.fnOf "bare_entries" "bare_entries" (defArgs s_bare_entries) (defBody s_bare_entries) (defScope s_bare_entries) .none kV12 dc12 pm12 an12 cd12 ct12), sl12⟩) (c12 : PySem.W.codeIn K cd12 "bare_entries" = true) (k12 : PySem.W.keepIn K (.ref f12) = true)
    (a13 : PySem.W.nsIn K mainGlobals "best_plan" = some (some (.ref f13))) (l13 : K.lookup f13 = some ⟨oc13, od13, .func (PySem.W.fnOf "best_plan" "best_plan" (defArgs s_best_plan) (defBody s_best_plan) (defScope s_best_plan) .none kV13 dc13 pm13 an13 cd13 ct13), sl13⟩) (c13 : PySem.W.codeIn K cd13 "best_plan" = true) (k13 : PySem.W.keepIn K (.ref f13) = true)
    (a14 : PySem.W.nsIn K mainGlobals "_law_whole" = some (some (.ref f14))) (l14 : K.lookup f14 = some ⟨oc14, od14, .func (PySem.W.fnOf "_law_whole" "_law_whole" (defArgs s__law_whole) (defBody s__law_whole) (defScope s__law_whole) .none kV14 dc14 pm14 an14 cd14 ct14), sl14⟩) (c14 : PySem.W.codeIn K cd14 "_law_whole" = true) (k14 : PySem.W.keepIn K (.ref f14) = true)
    (a15 : PySem.W.nsIn K mainGlobals "_law_cell" = some (some (.ref f15))) (l15 : K.lookup f15 = some ⟨oc15, od15, .func (PySem.W.fnOf "_law_cell" "_law_cell" (defArgs s__law_cell) (defBody s__law_cell) (defScope s__law_cell) .none kV15 dc15 pm15 an15 cd15 ct15), sl15⟩) (c15 : PySem.W.codeIn K cd15 "_law_cell" = true) (k15 : PySem.W.keepIn K (.ref f15) = true)
    (a16 : PySem.W.nsIn K mainGlobals "_law_digits" = some (some (.ref f16))) (l16 : K.lookup f16 = some ⟨oc16, od16, .func (PySem.W.fnOf "_law_digits" "_law_digits" (defArgs s__law_digits) (defBody s__law_digits) (defScope s__law_digits) .none kV16 dc16 pm16 an16 cd16 ct16), sl16⟩) (c16 : PySem.W.codeIn K cd16 "_law_digits" = true) (k16 : PySem.W.keepIn K (.ref f16) = true)
    (a17 : PySem.W.nsIn K mainGlobals "_law_gcd" = some (some (.ref f17))) (l17 : K.lookup f17 = some ⟨oc17, od17, .func (PySem.W.fnOf "_law_gcd" "_law_gcd" (defArgs s__law_gcd) (defBody s__law_gcd) (defScope s__law_gcd) .none kV17 dc17 pm17 an17 cd17 ct17), sl17⟩) (c17 : PySem.W.codeIn K cd17 "_law_gcd" = true) (k17 : PySem.W.keepIn K (.ref f17) = true)
    (a18 : PySem.W.nsIn K mainGlobals "_law_least" = some (some (.ref f18))) (l18 : K.lookup f18 = some ⟨oc18, od18, .func (PySem.W.fnOf "_law_least" "_law_least" (defArgs s__law_least) (defBody s__law_least) (defScope s__law_least) .none kV18 dc18 pm18 an18 cd18 ct18), sl18⟩) (c18 : PySem.W.codeIn K cd18 "_law_least" = true) (k18 : PySem.W.keepIn K (.ref f18) = true)
    (a19 : PySem.W.nsIn K mainGlobals "_law_times" = some (some (.ref f19))) (l19 : K.lookup f19 = some ⟨oc19, od19, .func (PySem.W.fnOf "_law_times" "_law_times" (defArgs s__law_times) (defBody s__law_times) (defScope s__law_times) .none kV19 dc19 pm19 an19 cd19 ct19), sl19⟩) (c19 : PySem.W.codeIn K cd19 "_law_times" = true) (k19 : PySem.W.keepIn K (.ref f19) = true)
    (a20 : PySem.W.nsIn K mainGlobals "_law_below" = some (some (.ref f20))) (l20 : K.lookup f20 = some ⟨oc20, od20, .func (PySem.W.fnOf "_law_below" "_law_below" (defArgs s__law_below) (defBody s__law_below) (defScope s__law_below) .none kV20 dc20 pm20 an20 cd20 ct20), sl20⟩) (c20 : PySem.W.codeIn K cd20 "_law_below" = true) (k20 : PySem.W.keepIn K (.ref f20) = true)
    (a21 : PySem.W.nsIn K mainGlobals "_law_name" = some (some (.ref f21))) (l21 : K.lookup f21 = some ⟨oc21, od21, .func (PySem.W.fnOf "_law_name" "_law_name" (defArgs s__law_name) (defBody s__law_name) (defScope s__law_name) .none kV21 dc21 pm21 an21 cd21 ct21), sl21⟩) (c21 : PySem.W.codeIn K cd21 "_law_name" = true) (k21 : PySem.W.keepIn K (.ref f21) = true)
    (a22 : PySem.W.nsIn K mainGlobals "_law_grade_factor" = some (some (.ref f22))) (l22 : K.lookup f22 = some ⟨oc22, od22, .func (PySem.W.fnOf "_law_grade_factor" "_law_grade_factor" (defArgs s__law_grade_factor) (defBody s__law_grade_factor) (defScope s__law_grade_factor) .none kV22 dc22 pm22 an22 cd22 ct22), sl22⟩) (c22 : PySem.W.codeIn K cd22 "_law_grade_factor" = true) (k22 : PySem.W.keepIn K (.ref f22) = true)
    (a23 : PySem.W.nsIn K mainGlobals "_law_shrunk" = some (some (.ref f23))) (l23 : K.lookup f23 = some ⟨oc23, od23, .func (PySem.W.fnOf "_law_shrunk" "_law_shrunk" (defArgs s__law_shrunk) (defBody s__law_shrunk) (defScope s__law_shrunk) .none kV23 dc23 pm23 an23 cd23 ct23), sl23⟩) (c23 : PySem.W.codeIn K cd23 "_law_shrunk" = true) (k23 : PySem.W.keepIn K (.ref f23) = true)
    (a24 : PySem.W.nsIn K mainGlobals "_law_levels" = some (some (.ref f24))) (l24 : K.lookup f24 = some ⟨oc24, od24, .func (PySem.W.fnOf "_law_levels" "_law_levels" (defArgs s__law_levels) (defBody s__law_levels) (defScope s__law_levels) .none kV24 dc24 pm24 an24 cd24 ct24), sl24⟩) (c24 : PySem.W.codeIn K cd24 "_law_levels" = true) (k24 : PySem.W.keepIn K (.ref f24) = true)
    (a25 : PySem.W.nsIn K mainGlobals "_law_inners" = some (some (.ref f25))) (l25 : K.lookup f25 = some ⟨oc25, od25, .func (PySem.W.fnOf "_law_inners" "_law_inners" (defArgs s__law_inners) (defBody s__law_inners) (defScope s__law_inners) .none kV25 dc25 pm25 an25 cd25 ct25), sl25⟩) (c25 : PySem.W.codeIn K cd25 "_law_inners" = true) (k25 : PySem.W.keepIn K (.ref f25) = true)
    (a26 : PySem.W.nsIn K mainGlobals "_law_stepped" = some (some (.ref f26))) (l26 : K.lookup f26 = some ⟨oc26, od26, .func (PySem.W.fnOf "_law_stepped" "_law_stepped" (defArgs s__law_stepped) (defBody s__law_stepped) (defScope s__law_stepped) .none kV26 dc26 pm26 an26 cd26 ct26), sl26⟩) (c26 : PySem.W.codeIn K cd26 "_law_stepped" = true) (k26 : PySem.W.keepIn K (.ref f26) = true)
    (a27 : PySem.W.nsIn K mainGlobals "_law_numbers" = some (some (.ref f27))) (l27 : K.lookup f27 = some ⟨oc27, od27, .func (PySem.W.fnOf "_law_numbers" "_law_numbers" (defArgs s__law_numbers) (defBody s__law_numbers) (defScope s__law_numbers) .none kV27 dc27 pm27 an27 cd27 ct27), sl27⟩) (c27 : PySem.W.codeIn K cd27 "_law_numbers" = true) (k27 : PySem.W.keepIn K (.ref f27) = true)
    (a28 : PySem.W.nsIn K mainGlobals "_law_due" = some (some (.ref f28))) (l28 : K.lookup f28 = some ⟨oc28, od28, .func (PySem.W.fnOf "_law_due" "_law_due" (defArgs s__law_due) (defBody s__law_due) (defScope s__law_due) .none kV28 dc28 pm28 an28 cd28 ct28), sl28⟩) (c28 : PySem.W.codeIn K cd28 "_law_due" = true) (k28 : PySem.W.keepIn K (.ref f28) = true)
    (a29 : PySem.W.nsIn K mainGlobals "_law_way" = some (some (.ref f29))) (l29 : K.lookup f29 = some ⟨oc29, od29, .func (PySem.W.fnOf "_law_way" "_law_way" (defArgs s__law_way) (defBody s__law_way) (defScope s__law_way) .none kV29 dc29 pm29 an29 cd29 ct29), sl29⟩) (c29 : PySem.W.codeIn K cd29 "_law_way" = true) (k29 : PySem.W.keepIn K (.ref f29) = true)
    (a30 : PySem.W.nsIn K mainGlobals "_law_right" = some (some (.ref f30))) (l30 : K.lookup f30 = some ⟨oc30, od30, .func (PySem.W.fnOf "_law_right" "_law_right" (defArgs s__law_right) (defBody s__law_right) (defScope s__law_right) .none kV30 dc30 pm30 an30 cd30 ct30), sl30⟩) (c30 : PySem.W.codeIn K cd30 "_law_right" = true) (k30 : PySem.W.keepIn K (.ref f30) = true)
    (a31 : PySem.W.nsIn K mainGlobals "_law_count" = some (some (.ref f31))) (l31 : K.lookup f31 = some ⟨oc31, od31, .func (PySem.W.fnOf "_law_count" "_law_count" (defArgs s__law_count) (defBody s__law_count) (defScope s__law_count) .none kV31 dc31 pm31 an31 cd31 ct31), sl31⟩) (c31 : PySem.W.codeIn K cd31 "_law_count" = true) (k31 : PySem.W.keepIn K (.ref f31) = true)
    (a32 : PySem.W.nsIn K mainGlobals "_law_draw" = some (some (.ref f32))) (l32 : K.lookup f32 = some ⟨oc32, od32, .func (PySem.W.fnOf "_law_draw" "_law_draw" (defArgs s__law_draw) (defBody s__law_draw) (defScope s__law_draw) .none kV32 dc32 pm32 an32 cd32 ct32), sl32⟩) (c32 : PySem.W.codeIn K cd32 "_law_draw" = true) (k32 : PySem.W.keepIn K (.ref f32) = true)
    (a33 : PySem.W.nsIn K mainGlobals "law" = some (some (.ref f33))) (l33 : K.lookup f33 = some ⟨oc33, od33, .func (PySem.W.fnOf "law" "law" (defArgs s_law) (defBody s_law) (defScope s_law) .none kV33 dc33 pm33 an33 cd33 ct33), sl33⟩) (c33 : PySem.W.codeIn K cd33 "law" = true) (k33 : PySem.W.keepIn K (.ref f33) = true)
    (z0 : PySem.W.nsIn K mainGlobals "len" = some none)
    (z1 : PySem.W.nsIn K mainGlobals "int" = some none)
    (z2 : PySem.W.nsIn K mainGlobals "str" = some none)
    (z3 : PySem.W.nsIn K mainGlobals "tuple" = some none)
    (z4 : PySem.W.nsIn K mainGlobals "list" = some none)
    (z5 : PySem.W.nsIn K mainGlobals "bool" = some none)
    (z6 : PySem.W.nsIn K mainGlobals "isinstance" = some none)
    (z7 : PySem.W.nsIn K mainGlobals "range" = some none)
    (z8 : PySem.W.nsIn K mainGlobals "any" = some none)
    (z9 : PySem.W.nsIn K mainGlobals "max" = some none)
    (z10 : PySem.W.nsIn K mainGlobals "min" = some none)
    (z11 : PySem.W.nsIn K mainGlobals "abs" = some none)
    (g_gcd : PySem.W.nsIn K mainGlobals "gcd" = some (some (.builtin "math.gcd")))
    : ∃ fd : FuncData, (∀ (s : Shared) (v : Value), BindsTo s fd ⟨[v], []⟩ [("script", v)]) ∧ ∀ base : Heap, K.In base → base.Ns mainGlobals mg → FnOk l.prog w K mg base CX0 18 fa fd ["script"] (spLaw K) := by
  have e := hfa.symm.trans (PySem.W.mg_of X G a33)
  cases e
  have T : Txt mg := { b_len := PySem.W.mg_none_of X G z0, b_int := PySem.W.mg_none_of X G z1, b_str := PySem.W.mg_none_of X G z2, b_tuple := PySem.W.mg_none_of X G z3, b_list := PySem.W.mg_none_of X G z4, b_bool := PySem.W.mg_none_of X G z5, b_isinstance := PySem.W.mg_none_of X G z6, b_range := PySem.W.mg_none_of X G z7, b_any := PySem.W.mg_none_of X G z8, b_max := PySem.W.mg_none_of X G z9, b_min := PySem.W.mg_none_of X G z10, b_abs := PySem.W.mg_none_of X G z11, g_gcd := PySem.W.mg_of X G g_gcd }
  have F_fraction := fun_mk (st := s_fraction) l1 c1 k1
  have m_fraction := PySem.W.mg_of X G a1
  have b_fraction := F_fraction.binds (ps := ["top", "bottom"]) fun _ _ _ _ _ _ us hl => match us, hl with | [_, _], _ => rfl
  have F_multiplied := fun_mk (st := s_multiplied) l2 c2 k2
  have m_multiplied := PySem.W.mg_of X G a2
  have b_multiplied := F_multiplied.binds (ps := ["one", "two"]) fun _ _ _ _ _ _ us hl => match us, hl with | [_, _], _ => rfl
  have F_compared := fun_mk (st := s_compared) l3 c3 k3
  have m_compared := PySem.W.mg_of X G a3
  have b_compared := F_compared.binds (ps := ["one", "two"]) fun _ _ _ _ _ _ us hl => match us, hl with | [_, _], _ => rfl
  have F_grade_unit := fun_mk (st := s_grade_unit) l4 c4 k4
  have m_grade_unit := PySem.W.mg_of X G a4
  have b_grade_unit := F_grade_unit.binds (ps := ["grade"]) fun _ _ _ _ _ _ us hl => match us, hl with | [_], _ => rfl
  have F_grade_factor := fun_mk (st := s_grade_factor) l5 c5 k5
  have m_grade_factor := PySem.W.mg_of X G a5
  have b_grade_factor := F_grade_factor.binds (ps := ["grade"]) fun _ _ _ _ _ _ us hl => match us, hl with | [_], _ => rfl
  have F_join_step := fun_mk (st := s_join_step) l6 c6 k6
  have m_join_step := PySem.W.mg_of X G a6
  have b_join_step := F_join_step.binds (ps := ["one", "two"]) fun _ _ _ _ _ _ us hl => match us, hl with | [_, _], _ => rfl
  have F_thin_step := fun_mk (st := s_thin_step) l7 c7 k7
  have m_thin_step := PySem.W.mg_of X G a7
  have b_thin_step := F_thin_step.binds (ps := ["grade", "size", "inner"]) fun _ _ _ _ _ _ us hl => match us, hl with | [_, _, _], _ => rfl
  have F_betters := fun_mk (st := s_betters) l8 c8 k8
  have m_betters := PySem.W.mg_of X G a8
  have b_betters := F_betters.binds (ps := ["one", "two"]) fun _ _ _ _ _ _ us hl => match us, hl with | [_, _], _ => rfl
  have F_front := fun_mk (st := s_front) l9 c9 k9
  have m_front := PySem.W.mg_of X G a9
  have b_front := F_front.binds (ps := ["entries"]) fun _ _ _ _ _ _ us hl => match us, hl with | [_], _ => rfl
  have F_joins := fun_mk (st := s_joins) l10 c10 k10
  have m_joins := PySem.W.mg_of X G a10
  have b_joins := F_joins.binds (ps := ["ones", "twos", "limit"]) fun _ _ _ _ _ _ us hl => match us, hl with | [_, _, _], _ => rfl
  have F_steps := fun_mk (st := s_steps) l11 c11 k11
  have m_steps := PySem.W.mg_of X G a11
  have b_steps := F_steps.binds (ps := ["entries", "size", "grades"]) fun _ _ _ _ _ _ us hl => match us, hl with | [_, _, _], _ => rfl
  have F_bare_entries := fun_mk (st := s_bare_entries) l12 c12 k12
  have m_bare_entries := PySem.W.mg_of X G a12
  have b_bare_entries := F_bare_entries.binds (ps := ["counts", "tables", "stretch", "limit"]) fun _ _ _ _ _ _ us hl => match us, hl with | [_, _, _, _], _ => rfl
  have F_best_plan := fun_mk (st := s_best_plan) l13 c13 k13
  have m_best_plan := PySem.W.mg_of X G a13
  have F__law_whole := fun_mk (st := s__law_whole) l14 c14 k14
  have m__law_whole := PySem.W.mg_of X G a14
  have b__law_whole := F__law_whole.binds (ps := ["value"]) fun _ _ _ _ _ _ us hl => match us, hl with | [_], _ => rfl
  have F__law_cell := fun_mk (st := s__law_cell) l15 c15 k15
  have m__law_cell := PySem.W.mg_of X G a15
  have b__law_cell := F__law_cell.binds (ps := ["script", "k"]) fun _ _ _ _ _ _ us hl => match us, hl with | [_, _], _ => rfl
  have F__law_digits := fun_mk (st := s__law_digits) l16 c16 k16
  have m__law_digits := PySem.W.mg_of X G a16
  have b__law_digits := F__law_digits.binds (ps := ["cell", "sizes"]) fun _ _ _ _ _ _ us hl => match us, hl with | [_, _], _ => rfl
  have F__law_gcd := fun_mk (st := s__law_gcd) l17 c17 k17
  have m__law_gcd := PySem.W.mg_of X G a17
  have b__law_gcd := F__law_gcd.binds (ps := ["one", "two"]) fun _ _ _ _ _ _ us hl => match us, hl with | [_, _], _ => rfl
  have F__law_least := fun_mk (st := s__law_least) l18 c18 k18
  have m__law_least := PySem.W.mg_of X G a18
  have b__law_least := F__law_least.binds (ps := ["top", "under"]) fun _ _ _ _ _ _ us hl => match us, hl with | [_, _], _ => rfl
  have F__law_times := fun_mk (st := s__law_times) l19 c19 k19
  have m__law_times := PySem.W.mg_of X G a19
  have b__law_times := F__law_times.binds (ps := ["one", "two"]) fun _ _ _ _ _ _ us hl => match us, hl with | [_, _], _ => rfl
  have F__law_below := fun_mk (st := s__law_below) l20 c20 k20
  have m__law_below := PySem.W.mg_of X G a20
  have b__law_below := F__law_below.binds (ps := ["one", "two"]) fun _ _ _ _ _ _ us hl => match us, hl with | [_, _], _ => rfl
  have F__law_name := fun_mk (st := s__law_name) l21 c21 k21
  have m__law_name := PySem.W.mg_of X G a21
  have b__law_name := F__law_name.binds (ps := ["row", "taken"]) fun _ _ _ _ _ _ us hl => match us, hl with | [_, _], _ => rfl
  have F__law_grade_factor := fun_mk (st := s__law_grade_factor) l22 c22 k22
  have m__law_grade_factor := PySem.W.mg_of X G a22
  have b__law_grade_factor := F__law_grade_factor.binds (ps := ["k"]) fun _ _ _ _ _ _ us hl => match us, hl with | [_], _ => rfl
  have F__law_shrunk := fun_mk (st := s__law_shrunk) l23 c23 k23
  have m__law_shrunk := PySem.W.mg_of X G a23
  have b__law_shrunk := F__law_shrunk.binds (ps := ["size", "number", "kind"]) fun _ _ _ _ _ _ us hl => match us, hl with | [_, _, _], _ => rfl
  have F__law_levels := fun_mk (st := s__law_levels) l24 c24 k24
  have m__law_levels := PySem.W.mg_of X G a24
  have b__law_levels := F__law_levels.binds (ps := ["factors", "many"]) fun _ _ _ _ _ _ us hl => match us, hl with | [_, _], _ => rfl
  have F__law_inners := fun_mk (st := s__law_inners) l25 c25 k25
  have m__law_inners := PySem.W.mg_of X G a25
  have b__law_inners := F__law_inners.binds (ps := ["levels", "factor"]) fun _ _ _ _ _ _ us hl => match us, hl with | [_, _], _ => rfl
  have F__law_stepped := fun_mk (st := s__law_stepped) l26 c26 k26
  have m__law_stepped := PySem.W.mg_of X G a26
  have b__law_stepped := F__law_stepped.binds (ps := ["size", "bare", "most", "kinds", "inners"]) fun _ _ _ _ _ _ us hl => match us, hl with | [_, _, _, _, _], _ => rfl
  have F__law_numbers := fun_mk (st := s__law_numbers) l27 c27 k27
  have m__law_numbers := PySem.W.mg_of X G a27
  have b__law_numbers := F__law_numbers.binds (ps := ["size", "numbers", "most", "kinds", "levels"]) fun _ _ _ _ _ _ us hl => match us, hl with | [_, _, _, _, _], _ => rfl
  have F__law_due := fun_mk (st := s__law_due) l28 c28 k28
  have m__law_due := PySem.W.mg_of X G a28
  have b__law_due := F__law_due.binds (ps := ["size", "numbers", "most", "kinds"]) fun _ _ _ _ _ _ us hl => match us, hl with | [_, _, _, _], _ => rfl
  have F__law_way := fun_mk (st := s__law_way) l29 c29 k29
  have m__law_way := PySem.W.mg_of X G a29
  have b__law_way := F__law_way.binds (ps := ["plan", "deep", "size", "known", "kinds"]) fun _ _ _ _ _ _ us hl => match us, hl with | [_, _, _, _, _], _ => rfl
  have F__law_right := fun_mk (st := s__law_right) l30 c30 k30
  have m__law_right := PySem.W.mg_of X G a30
  have b__law_right := F__law_right.binds (ps := ["told", "size", "counts", "most", "kinds"]) fun _ _ _ _ _ _ us hl => match us, hl with | [_, _, _, _, _], _ => rfl
  have F__law_count := fun_mk (st := s__law_count) l31 c31 k31
  have m__law_count := PySem.W.mg_of X G a31
  have b__law_count := F__law_count.binds (ps := ["row", "pattern", "size", "most", "kinds", "big"]) fun _ _ _ _ _ _ us hl => match us, hl with | [_, _, _, _, _, _], _ => rfl
  have F__law_draw := fun_mk (st := s__law_draw) l32 c32 k32
  have m__law_draw := PySem.W.mg_of X G a32
  have b__law_draw := F__law_draw.binds (ps := ["script"]) fun _ _ _ _ _ _ us hl => match us, hl with | [_], _ => rfl
  have F_law := fun_mk (st := s_law) l33 c33 k33
  have m_law := PySem.W.mg_of X G a33
  refine ⟨PySem.W.fnOf "law" "law" (defArgs s_law) (defBody s_law) (defScope s_law) .none kV33 dc33 pm33 an33 cd33 ct33, fun s v => .of_eq rfl, fun base _ _ => ?_⟩
  have Cfraction : Cal l.prog w K mg base 1 "fraction" ["top", "bottom"] spFraction := ⟨_, _, ok_fraction F_fraction T, m_fraction, F_fraction.kp, b_fraction⟩
  have Cmultiplied : Cal l.prog w K mg base 2 "multiplied" ["one", "two"] spTimes := ⟨_, _, ok_multiplied F_multiplied T Cfraction, m_multiplied, F_multiplied.kp, b_multiplied⟩
  have Ccompared : Cal l.prog w K mg base 1 "compared" ["one", "two"] spCompared := ⟨_, _, ok_compared F_compared T, m_compared, F_compared.kp, b_compared⟩
  have Cgrade_unit : Cal l.prog w K mg base 1 "grade_unit" ["grade"] spUnit := ⟨_, _, ok_grade_unit F_grade_unit T, m_grade_unit, F_grade_unit.kp, b_grade_unit⟩
  have Cgrade_factor : Cal l.prog w K mg base 2 "grade_factor" ["grade"] spGrade := ⟨_, _, ok_grade_factor F_grade_factor T Cfraction Cgrade_unit, m_grade_factor, F_grade_factor.kp, b_grade_factor⟩
  have Cjoin_step : Cal l.prog w K mg base 2 "join_step" ["one", "two"] spJoin := ⟨_, _, ok_join_step F_join_step T Ccompared, m_join_step, F_join_step.kp, b_join_step⟩
  have Cthin_step : Cal l.prog w K mg base 3 "thin_step" ["grade", "size", "inner"] spThin := ⟨_, _, ok_thin_step F_thin_step T Cmultiplied Cgrade_factor, m_thin_step, F_thin_step.kp, b_thin_step⟩
  have Cbetters : Cal l.prog w K mg base 2 "betters" ["one", "two"] spBetters := ⟨_, _, ok_betters F_betters T Ccompared, m_betters, F_betters.kp, b_betters⟩
  have Cfront : Cal l.prog w K mg base 3 "front" ["entries"] spFront := ⟨_, _, ok_front F_front T Cbetters, m_front, F_front.kp, b_front⟩
  have Cjoins : Cal l.prog w K mg base 3 "joins" ["ones", "twos", "limit"] spJoins := ⟨_, _, ok_joins F_joins T Cjoin_step, m_joins, F_joins.kp, b_joins⟩
  have Csteps : Cal l.prog w K mg base 4 "steps" ["entries", "size", "grades"] spSteps := ⟨_, _, ok_steps F_steps T Cthin_step, m_steps, F_steps.kp, b_steps⟩
  have Cbare : Cal l.prog w K mg base 4 "bare_entries" ["counts", "tables", "stretch", "limit"] spBare := ⟨_, _, ok_bare_entries F_bare_entries T Cfront Cjoins, m_bare_entries, F_bare_entries.kp, b_bare_entries⟩
  have Cbest : CalN l.prog w K mg base 5 "best_plan" ["size", "counts", "limit", "grades"] 2 ["limit", "grades"] spBest := ⟨_, _, ok_best_plan F_best_plan T Cbare Cfront Ccompared Csteps, m_best_plan, F_best_plan.kp, kbn_best F_best_plan⟩
  have Cwhole : Cal l.prog w K mg base 1 "_law_whole" ["value"] spLaw_whole := ⟨_, _, ok__law_whole F__law_whole T, m__law_whole, F__law_whole.kp, b__law_whole⟩
  have Ccell : Cal l.prog w K mg base 1 "_law_cell" ["script", "k"] (spCell K) := ⟨_, _, ok__law_cell F__law_cell T, m__law_cell, F__law_cell.kp, b__law_cell⟩
  have Cdigits : Cal l.prog w K mg base 1 "_law_digits" ["cell", "sizes"] (spDigits K) := ⟨_, _, ok__law_digits F__law_digits T, m__law_digits, F__law_digits.kp, b__law_digits⟩
  have Cgcd : Cal l.prog w K mg base 1 "_law_gcd" ["one", "two"] spGcd := ⟨_, _, ok__law_gcd F__law_gcd T, m__law_gcd, F__law_gcd.kp, b__law_gcd⟩
  have Cleast : Cal l.prog w K mg base 2 "_law_least" ["top", "under"] spLeast := ⟨_, _, ok__law_least F__law_least T Cgcd, m__law_least, F__law_least.kp, b__law_least⟩
  have Ctimes : Cal l.prog w K mg base 3 "_law_times" ["one", "two"] spTimes := ⟨_, _, ok__law_times F__law_times T Cleast, m__law_times, F__law_times.kp, b__law_times⟩
  have Cbelow : Cal l.prog w K mg base 1 "_law_below" ["one", "two"] spBelow := ⟨_, _, ok__law_below F__law_below T, m__law_below, F__law_below.kp, b__law_below⟩
  have Cgf : Cal l.prog w K mg base 3 "_law_grade_factor" ["k"] spGrade := ⟨_, _, ok__law_grade_factor F__law_grade_factor T Cleast, m__law_grade_factor, F__law_grade_factor.kp, b__law_grade_factor⟩
  have Cname : Cal l.prog w K mg base 1 "_law_name" ["row", "taken"] spName := ⟨_, _, ok__law_name F__law_name T, m__law_name, F__law_name.kp, b__law_name⟩
  have Cshrunk : Cal l.prog w K mg base 1 "_law_shrunk" ["size", "number", "kind"] spShrunk := ⟨_, _, ok__law_shrunk F__law_shrunk T, m__law_shrunk, F__law_shrunk.kp, b__law_shrunk⟩
  have Clevels : Cal l.prog w K mg base 4 "_law_levels" ["factors", "many"] spLevels := ⟨_, _, ok__law_levels F__law_levels T Ctimes Cbelow, m__law_levels, F__law_levels.kp, b__law_levels⟩
  have Cinners : Cal l.prog w K mg base 4 "_law_inners" ["levels", "factor"] spInners := ⟨_, _, ok__law_inners F__law_inners T Cbelow Ctimes, m__law_inners, F__law_inners.kp, b__law_inners⟩
  have Cstepped : Cal l.prog w K mg base 2 "_law_stepped" ["size", "bare", "most", "kinds", "inners"] spStepped := ⟨_, _, ok__law_stepped F__law_stepped T Cshrunk, m__law_stepped, F__law_stepped.kp, b__law_stepped⟩
  have Cnumbers : Cal l.prog w K mg base 5 "_law_numbers" ["size", "numbers", "most", "kinds", "levels"] spNumbers := ⟨_, _, ok__law_numbers F__law_numbers T Cinners Cgf Cstepped, m__law_numbers, F__law_numbers.kp, b__law_numbers⟩
  have Cdue : Cal l.prog w K mg base 6 "_law_due" ["size", "numbers", "most", "kinds"] spDue := ⟨_, _, ok__law_due F__law_due T Clevels Cnumbers Cgf, m__law_due, F__law_due.kp, b__law_due⟩
  have Cway : Cal l.prog w K mg base 16 "_law_way" ["plan", "deep", "size", "known", "kinds"] (spWay 12) := all_way T F__law_way m__law_way b__law_way Cbelow Cshrunk Ctimes Cwhole Cgf 12
  have Cright : Cal l.prog w K mg base 17 "_law_right" ["told", "size", "counts", "most", "kinds"] spRight := ⟨_, _, ok__law_right F__law_right T Cdue Cway, m__law_right, F__law_right.kp, b__law_right⟩
  have Ccount : Cal l.prog w K mg base 1 "_law_count" ["row", "pattern", "size", "most", "kinds", "big"] spCount := ⟨_, _, ok__law_count F__law_count T, m__law_count, F__law_count.kp, b__law_count⟩
  have Cdraw : Cal l.prog w K mg base 2 "_law_draw" ["script"] (spDraw K) := ⟨_, _, ok__law_draw F__law_draw T Cdigits Ccell Cname Ccount, m__law_draw, F__law_draw.kp, b__law_draw⟩
  exact ok_law F_law T Cdraw Cbest Cright
theorem walk {l : PySem.W.OpenLaw} {q : Program} {loose : List Str} {XP : (Str → Option Value) → Heap → Prop} {YP : World → Heap → Prop} {d : DefRec} {K : Params → PySem.W.Frag} (hn : l.most = some 63) (hdf : d.params.defaults = [])
    (hY : ∀ (w : World) (h : Heap), YP w h → (K w.params).In h)
    (F : ∀ (w : World) (mg : Str → Option Value) (fa : Addr) (h : Heap), (K w.params).In h → h.Ns mainGlobals mg → mg d.name = some (.ref fa) →
      ∃ fd : FuncData, (∀ (s : Shared) (u : Value), BindsTo s fd ⟨[u], []⟩ [("script", u)]) ∧ ∀ base : Heap, (K w.params).In base → base.Ns mainGlobals mg → FnOk l.prog w (K w.params) mg base CX0 18 fa fd ["script"] (spLaw (K w.params))) :
    PySem.W.WalkO q loose XP YP l.row.toRowW d [] (fun f vs => PySem.call f vs) :=
  L2.walk_of (n := 63) (k := 18) (x := "script") (CX := fun _ => CX0) (sp := fun w => spLaw (K w.params)) hn (by decide) hdf ⟨rfl, by decide, by decide⟩ hY F (fun _ _ a ns hl _ hS => ⟨a, ns, rfl, hS, hl, fun _ => rfl⟩) fun _ _ _ _ _ z => z
end P64
open PySem PySem.W PyProof.Rows
set_option maxRecDepth 100000 in
set_option maxHeartbeats 0 in
theorem PySem.Challenge.cw_wholecables_k64_best_plan_whole_holds : PySem.Challenge.rw_wholecables_k64_best_plan_whole.Holds := by
  w_on; o_law; k_head; (case hw => w_witness2)
  k_fill
  refine P64.walk (l := PySem.Challenge.rw_wholecables_k64_best_plan_whole) rfl rfl (fun w h Y => PySem.W.kIn_of Y) ?F
  case F =>
    intro w mg fa h KX G hmg
    refine' P64.all_mk KX G hmg ?a1 ?l1 ?c1 ?k1 ?a2 ?l2 ?c2 ?k2 ?a3 ?l3 ?c3 ?k3 ?a4 ?l4 ?c4 ?k4 ?a5 ?l5 ?c5 ?k5 ?a6 ?l6 ?c6 ?k6 ?a7 ?l7 ?c7 ?k7 ?a8 ?l8 ?c8 ?k8 ?a9 ?l9 ?c9 ?k9 ?a10 ?l10 ?c10 ?k10 ?a11 ?l11 ?c11 ?k11 ?a12 ?l12 ?c12 ?k12 ?a13 ?l13 ?c13 ?k13 ?a14 ?l14 ?c14 ?k14 ?a15 ?l15 ?c15 ?k15 ?a16 ?l16 ?c16 ?k16 ?a17 ?l17 ?c17 ?k17 ?a18 ?l18 ?c18 ?k18 ?a19 ?l19 ?c19 ?k19 ?a20 ?l20 ?c20 ?k20 ?a21 ?l21 ?c21 ?k21 ?a22 ?l22 ?c22 ?k22 ?a23 ?l23 ?c23 ?k23 ?a24 ?l24 ?c24 ?k24 ?a25 ?l25 ?c25 ?k25 ?a26 ?l26 ?c26 ?k26 ?a27 ?l27 ?c27 ?k27 ?a28 ?l28 ?c28 ?k28 ?a29 ?l29 ?c29 ?k29 ?a30 ?l30 ?c30 ?k30 ?a31 ?l31 ?c31 ?k31 ?a32 ?l32 ?c32 ?k32 ?a33 ?l33 ?c33 ?k33 ?z0 ?z1 ?z2 ?z3 ?z4 ?z5 ?z6 ?z7 ?z8 ?z9 ?z10 ?z11 ?g_gcd
    (case a1 => k_is)
    (case l1 => k_is)
    (case c1 => k_is)
    (case k1 => k_is)
    (case a2 => k_is)
    (case l2 => k_is)
    (case c2 => k_is)
    (case k2 => k_is)
    (case a3 => k_is)
    (case l3 => k_is)
    (case c3 => k_is)
    (case k3 => k_is)
    (case a4 => k_is)
    (case l4 => k_is)
    (case c4 => k_is)
    (case k4 => k_is)
    (case a5 => k_is)
    (case l5 => k_is)
    (case c5 => k_is)
    (case k5 => k_is)
    (case a6 => k_is)
    (case l6 => k_is)
    (case c6 => k_is)
    (case k6 => k_is)
    (case a7 => k_is)
    (case l7 => k_is)
    (case c7 => k_is)
    (case k7 => k_is)
    (case a8 => k_is)
    (case l8 => k_is)
    (case c8 => k_is)
    (case k8 => k_is)
    (case a9 => k_is)
    (case l9 => k_is)
    (case c9 => k_is)
    (case k9 => k_is)
    (case a10 => k_is)
    (case l10 => k_is)
    (case c10 => k_is)
    (case k10 => k_is)
    (case a11 => k_is)
    (case l11 => k_is)
    (case c11 => k_is)
    (case k11 => k_is)
    (case a12 => k_is)
    (case l12 => k_is)
    (case c12 => k_is)
    (case k12 => k_is)
    (case a13 => k_is)
    (case l13 => k_is)
    (case c13 => k_is)
    (case k13 => k_is)
    (case a14 => k_is)
    (case l14 => k_is)
    (case c14 => k_is)
    (case k14 => k_is)
    (case a15 => k_is)
    (case l15 => k_is)
    (case c15 => k_is)
    (case k15 => k_is)
    (case a16 => k_is)
    (case l16 => k_is)
    (case c16 => k_is)
    (case k16 => k_is)
    (case a17 => k_is)
    (case l17 => k_is)
    (case c17 => k_is)
    (case k17 => k_is)
    (case a18 => k_is)
    (case l18 => k_is)
    (case c18 => k_is)
    (case k18 => k_is)
    (case a19 => k_is)
    (case l19 => k_is)
    (case c19 => k_is)
    (case k19 => k_is)
    (case a20 => k_is)
    (case l20 => k_is)
    (case c20 => k_is)
    (case k20 => k_is)
    (case a21 => k_is)
    (case l21 => k_is)
    (case c21 => k_is)
    (case k21 => k_is)
    (case a22 => k_is)
    (case l22 => k_is)
    (case c22 => k_is)
    (case k22 => k_is)
    (case a23 => k_is)
    (case l23 => k_is)
    (case c23 => k_is)
    (case k23 => k_is)
    (case a24 => k_is)
    (case l24 => k_is)
    (case c24 => k_is)
    (case k24 => k_is)
    (case a25 => k_is)
    (case l25 => k_is)
    (case c25 => k_is)
    (case k25 => k_is)
    (case a26 => k_is)
    (case l26 => k_is)
    (case c26 => k_is)
    (case k26 => k_is)
    (case a27 => k_is)
    (case l27 => k_is)
    (case c27 => k_is)
    (case k27 => k_is)
    (case a28 => k_is)
    (case l28 => k_is)
    (case c28 => k_is)
    (case k28 => k_is)
    (case a29 => k_is)
    (case l29 => k_is)
    (case c29 => k_is)
    (case k29 => k_is)
    (case a30 => k_is)
    (case l30 => k_is)
    (case c30 => k_is)
    (case k30 => k_is)
    (case a31 => k_is)
    (case l31 => k_is)
    (case c31 => k_is)
    (case k31 => k_is)
    (case a32 => k_is)
    (case l32 => k_is)
    (case c32 => k_is)
    (case k32 => k_is)
    (case a33 => k_is)
    (case l33 => k_is)
    (case c33 => k_is)
    (case k33 => k_is)
    (case z0 => k_is)
    (case z1 => k_is)
    (case z2 => k_is)
    (case z3 => k_is)
    (case z4 => k_is)
    (case z5 => k_is)
    (case z6 => k_is)
    (case z7 => k_is)
    (case z8 => k_is)
    (case z9 => k_is)
    (case z10 => k_is)
    (case z11 => k_is)
    (case g_gcd => k_is)
