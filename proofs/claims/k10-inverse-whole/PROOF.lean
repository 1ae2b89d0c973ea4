import PyProof.Rows.All
import Wide.All
import OpenK.AllK
import Wide.FinOn
import HandS.Base
import HandS.Call
import HandS.List
import HandS.Comp
import HandS.Iter
import HandS.Walk
import HandS.Zip
import HandS.Words
import HandS.TupAny
import KE.GoesMore
import KE.GoesZip
import KE.KCallOwn
import HandS.IsInst
import HandS.Text
import HandS.Dict
import HandS.DictComp
import HandS.Flt
import HandS.TryOnly
import HandS.Ends
import HandS.WordsList
import HandS.Exc
import HandS.ExcOwn
import HandS.ExcCtx
import HandS.ExcInit
import HandS.ExcField
import HandS.ExcIs
import HandS.HotCalls
import HandS.Codes
import KE.KExcIs
import HandS.ExcValue
import KE.KOwnIter
import HandS.OwnEq
import HandS.IterNext
import HandS.Gcd
import HandS.Wide
import HandS.Rev
import HandS.MakeKwOnly
import PyProof.Rows.SumAny
import PyProof.ConsumeWalk
import HandS.TryMany
import HandS.Hot
import HandS.Conv
import PySem.Challenge.RW_wholecables_k10_inverse_whole
set_option Elab.async false
set_option linter.all false
set_option maxRecDepth 100000
set_option maxHeartbeats 4000000
set_option maxHeartbeats 4000000
/-! Nests of ints: lists and tuples of any depth, and the same as tuples alone; comprehensions by what each turn gives; a comprehension in a comprehension. -/
namespace WK
open PySem PySem.Spec PyProof.Rows L2
inductive Td where
  | int (i : Int)
  | tup (ts : List Td)
mutual
def Td.dep : Td → Nat
  | .int _ => 0
  | .tup ts => Td.deps ts + 1
def Td.deps : List Td → Nat
  | [] => 0
  | t :: ts => max t.dep (Td.deps ts)
end
mutual
def Td.sm : Td → Prop
  | .int _ => True
  | .tup ts => ts.length ≤ 16000000 ∧ Td.sms ts
def Td.sms : List Td → Prop
  | [] => True
  | t :: ts => t.sm ∧ Td.sms ts
end
mutual
def Td.py : Td → PyData
  | .int i => .int i
  | .tup ts => .tuple (Td.pys ts)
def Td.pys : List Td → List PyData
  | [] => []
  | t :: ts => t.py :: Td.pys ts
end
theorem deps_le {ts : List Td} {t : Td} {n : Nat} (h : Td.deps ts ≤ n) (m : t ∈ ts) : t.dep ≤ n := by
  induction ts with
  | nil => cases m
  | cons x ts ih =>
    simp only [Td.deps] at h
    rcases List.mem_cons.mp m with z | z
    · rw [z]; omega
    · exact ih (by omega) z
theorem sms_of {ts : List Td} {t : Td} (h : Td.sms ts) (m : t ∈ ts) : t.sm := by
  induction ts with
  | nil => cases m
  | cons x ts ih =>
    simp only [Td.sms] at h
    rcases List.mem_cons.mp m with z | z
    · rw [z]; exact h.1
    · exact ih h.2 z
theorem sms_all {ts : List Td} (h : ∀ t ∈ ts, t.sm) : Td.sms ts := by
  induction ts with
  | nil => trivial
  | cons x ts ih => exact ⟨h x List.mem_cons_self, ih fun t m => h t (List.mem_cons_of_mem _ m)⟩
theorem deps_all {ts : List Td} {n : Nat} (h : ∀ t ∈ ts, t.dep ≤ n) : Td.deps ts ≤ n := by
  induction ts with
  | nil => exact Nat.zero_le _
  | cons x ts ih =>
    have h1 := h x List.mem_cons_self
    have h2 := ih fun t m => h t (List.mem_cons_of_mem _ m)
    simp only [Td.deps]
    omega
mutual
inductive Sn (K : PySem.W.Frag) (H : Hp) : V → Td → Prop
  | int (i : Int) : Sn K H (.int i) (.int i)
  | lst {a : Addr} {vs : List V} {ts : List Td} : H a = some (.lst vs) → SnAll K H vs ts → Sn K H (.ref a) (.tup ts)
  | tup {a : Addr} {vs : List V} {ts : List Td} : SqT K H a vs → SnAll K H vs ts → Sn K H (.ref a) (.tup ts)
inductive SnAll (K : PySem.W.Frag) (H : Hp) : List V → List Td → Prop
  | nil : SnAll K H [] []
  | cons {v : V} {vs : List V} {t : Td} {ts : List Td} : Sn K H v t → SnAll K H vs ts → SnAll K H (v :: vs) (t :: ts)
end
mutual
inductive Fz (K : PySem.W.Frag) (H : Hp) : V → Td → Prop
  | int (i : Int) : Fz K H (.int i) (.int i)
  | tup {a : Addr} {vs : List V} {ts : List Td} : SqT K H a vs → FzAll K H vs ts → Fz K H (.ref a) (.tup ts)
inductive FzAll (K : PySem.W.Frag) (H : Hp) : List V → List Td → Prop
  | nil : FzAll K H [] []
  | cons {v : V} {vs : List V} {t : Td} {ts : List Td} : Fz K H v t → FzAll K H vs ts → FzAll K H (v :: vs) (t :: ts)
end
/-- tuples stay -/
def Tk (K : PySem.W.Frag) (H H' : Hp) : Prop := ∀ a xs, SqT K H a xs → SqT K H' a xs
theorem Same_seqT {K : PySem.W.Frag} {H H' : Hp} {a : Addr} {xs : List V} (e : Same H H') (h : SqT K H a xs) : SqT K H' a xs := by
  rcases h with (h | ⟨o, h⟩) | h
  · exact .inl (.inl (e _ _ h))
  · exact .inl (.inr ⟨o, e _ _ h⟩)
  · exact .inr h
theorem Same.tk {K : PySem.W.Frag} {H H' : Hp} (e : Same H H') : Tk K H H' := fun _ _ h => Same_seqT e h
theorem tk_at {K : PySem.W.Frag} {H H' : Hp} {D : Addr} {o : HO} (hD : H D = some o) (no : ∀ xs, o ≠ .tup xs) (nf : ∀ b xs, o ≠ .frz b (.tup xs)) (e : ∀ b o, b ≠ D → H b = some o → H' b = some o) : Tk K H H' := by
  intro a xs h
  rcases h with (h | ⟨b, h⟩) | h
  · exact .inl (.inl (e _ _ (fun z => by rw [z, hD] at h; cases h; exact no _ rfl) h))
  · exact .inl (.inr ⟨b, e _ _ (fun z => by rw [z, hD] at h; cases h; exact nf _ _ rfl) h⟩)
  · exact .inr h
theorem tk_lst {K : PySem.W.Frag} {H H' : Hp} {D : Addr} {l : List V} (hD : H D = some (.lst l)) (e : ∀ b o, b ≠ D → H b = some o → H' b = some o) : Tk K H H' := tk_at hD (fun _ z => by cases z) (fun _ _ z => by cases z) e
theorem tk_ins {K : PySem.W.Frag} {H H' : Hp} {D C : Addr} {dx : Addr} {l : List (Str × V)} (hD : H D = some (.ins C dx l)) (e : ∀ b o, b ≠ D → H b = some o → H' b = some o) : Tk K H H' := tk_at hD (fun _ z => by cases z) (fun _ _ z => by cases z) e
mutual
theorem Sn.same {K : PySem.W.Frag} {H H' : Hp} (e : Same H H') : ∀ {v : V} {t : Td}, Sn K H v t → Sn K H' v t
  | _, _, .int i => .int i
  | _, _, .lst h a => .lst (e _ _ h) (SnAll.same e a)
  | _, _, .tup h a => .tup (Same_seqT e h) (SnAll.same e a)
theorem SnAll.same {K : PySem.W.Frag} {H H' : Hp} (e : Same H H') : ∀ {vs : List V} {ts : List Td}, SnAll K H vs ts → SnAll K H' vs ts
  | _, _, .nil => .nil
  | _, _, .cons h t => .cons (Sn.same e h) (SnAll.same e t)
end
mutual
theorem Fz.tk {K : PySem.W.Frag} {H H' : Hp} (e : Tk K H H') : ∀ {v : V} {t : Td}, Fz K H v t → Fz K H' v t
  | _, _, .int i => .int i
  | _, _, .tup h a => .tup (e _ _ h) (FzAll.tk e a)
theorem FzAll.tk {K : PySem.W.Frag} {H H' : Hp} (e : Tk K H H') : ∀ {vs : List V} {ts : List Td}, FzAll K H vs ts → FzAll K H' vs ts
  | _, _, .nil => .nil
  | _, _, .cons h t => .cons (Fz.tk e h) (FzAll.tk e t)
end
mutual
theorem Fz.sn {K : PySem.W.Frag} {H : Hp} : ∀ {v : V} {t : Td}, Fz K H v t → Sn K H v t
  | _, _, .int i => .int i
  | _, _, .tup h a => .tup h (FzAll.sn a)
theorem FzAll.sn {K : PySem.W.Frag} {H : Hp} : ∀ {vs : List V} {ts : List Td}, FzAll K H vs ts → SnAll K H vs ts
  | _, _, .nil => .nil
  | _, _, .cons h t => .cons (Fz.sn h) (FzAll.sn t)
end
mutual
theorem Fz.dp {K : PySem.W.Frag} {H : Hp} : ∀ {v : V} {t : Td}, Fz K H v t → Dp K H v t.py
  | _, _, .int i => by simp only [Td.py]; exact .int i
  | _, _, .tup h a => by simp only [Td.py]; exact .tup h (FzAll.dp a)
theorem FzAll.dp {K : PySem.W.Frag} {H : Hp} : ∀ {vs : List V} {ts : List Td}, FzAll K H vs ts → DpAll K H vs (Td.pys ts)
  | _, _, .nil => by simp only [Td.pys]; exact .nil
  | _, _, .cons h t => by simp only [Td.pys]; exact .cons (Fz.dp h) (FzAll.dp t)
end
theorem SnAll.len {K : PySem.W.Frag} {H : Hp} {vs : List V} {ts : List Td} (h : SnAll K H vs ts) : vs.length = ts.length := by
  induction vs generalizing ts with
  | nil => cases h; rfl
  | cons v vs ih => cases h with | cons h t => simp only [List.length_cons, ih t]
theorem FzAll.len {K : PySem.W.Frag} {H : Hp} {vs : List V} {ts : List Td} (h : FzAll K H vs ts) : vs.length = ts.length := h.sn.len
theorem SnAll.get {K : PySem.W.Frag} {H : Hp} {vs : List V} {ts : List Td} (h : SnAll K H vs ts) {i : Nat} {v : V} (e : vs[i]? = some v) : ∃ t, ts[i]? = some t ∧ Sn K H v t := by
  induction vs generalizing ts i with
  | nil => simp at e
  | cons x vs ih =>
    cases h with
    | cons h t =>
      cases i with
      | zero => cases e; exact ⟨_, rfl, h⟩
      | succ i => exact ih t e
theorem FzAll.get {K : PySem.W.Frag} {H : Hp} {vs : List V} {ts : List Td} (h : FzAll K H vs ts) {i : Nat} {v : V} (e : vs[i]? = some v) : ∃ t, ts[i]? = some t ∧ Fz K H v t := by
  induction vs generalizing ts i with
  | nil => simp at e
  | cons x vs ih =>
    cases h with
    | cons h t =>
      cases i with
      | zero => cases e; exact ⟨_, rfl, h⟩
      | succ i => exact ih t e
theorem FzAll.ints {K : PySem.W.Frag} {H : Hp} : ∀ {ns : List Int} {vs : List V}, FzAll K H vs (ns.map Td.int) → vs = ns.map V.int
  | [], _, .nil => rfl
  | n :: ns, _, .cons (.int _) t => by rw [FzAll.ints t]; rfl
theorem SnAll.ints {K : PySem.W.Frag} {H : Hp} : ∀ {ns : List Int} {vs : List V}, SnAll K H vs (ns.map Td.int) → vs = ns.map V.int
  | [], _, .nil => rfl
  | n :: ns, _, .cons (.int _) t => by rw [SnAll.ints t]; rfl
theorem FzAll.of_ints {K : PySem.W.Frag} {H : Hp} : ∀ (ns : List Int), FzAll K H (ns.map V.int) (ns.map Td.int)
  | [] => .nil
  | n :: ns => .cons (.int n) (FzAll.of_ints ns)
theorem SnAll.zero {K : PySem.W.Frag} {H : Hp} : ∀ {vs : List V} {ts : List Td}, SnAll K H vs ts → Td.deps ts ≤ 0 → FzAll K H vs ts
  | _, _, .nil, _ => .nil
  | _, _, .cons (.int i) t, h => .cons (.int i) (SnAll.zero t (by simp only [Td.deps] at h; omega))
  | _, _, .cons (.lst _ _) t, h => by simp only [Td.deps, Td.dep] at h; omega
  | _, _, .cons (.tup _ _) t, h => by simp only [Td.deps, Td.dep] at h; omega
/-- lists of things, item by item -/
def Rs {α : Type} (R : Hp → V → α → Prop) (H : Hp) (vs : List V) (zs : List α) : Prop := vs.length = zs.length ∧ ∀ (i : Nat) (v : V) (z : α), vs[i]? = some v → zs[i]? = some z → R H v z
def Stb {α : Type} (K : PySem.W.Frag) (R : Hp → V → α → Prop) : Prop := ∀ H H' v z, Tk K H H' → R H v z → R H' v z
theorem Rs.tk {α : Type} {K : PySem.W.Frag} {R : Hp → V → α → Prop} (s : Stb K R) {H H' : Hp} {vs : List V} {zs : List α} (h : Rs R H vs zs) (e : Tk K H H') : Rs R H' vs zs := ⟨h.1, fun i v z a b => s _ _ _ _ e (h.2 i v z a b)⟩
theorem Rs.nil {α : Type} {R : Hp → V → α → Prop} {H : Hp} : Rs R H [] [] := ⟨rfl, fun i v z h => by simp at h⟩
theorem Rs.snoc {α : Type} {R : Hp → V → α → Prop} {H : Hp} {vs : List V} {zs : List α} {v : V} {z : α} (h : Rs R H vs zs) (r : R H v z) : Rs R H (vs ++ [v]) (zs ++ [z]) := by
  refine ⟨by rw [List.length_append, List.length_append, h.1]; rfl, fun i u y hu hy => ?_⟩
  have hl := h.1
  by_cases hi : i < vs.length
  · rw [List.getElem?_append_left hi] at hu
    rw [List.getElem?_append_left (by omega)] at hy
    exact h.2 i u y hu hy
  · rw [List.getElem?_append_right (by omega)] at hu
    rw [List.getElem?_append_right (by omega)] at hy
    have e1 : i - vs.length = 0 := by
      rcases Nat.eq_zero_or_pos (i - vs.length) with z | z
      · exact z
      · rw [List.getElem?_eq_none (by simp only [List.length_cons, List.length_nil]; omega)] at hu; cases hu
    have e2 : i - zs.length = 0 := by omega
    rw [e1] at hu
    rw [e2] at hy
    cases hu
    cases hy
    exact r
def RI : Hp → V → Int → Prop := fun _ v z => v = .int z
def RB : Hp → V → Bool → Prop := fun _ v z => v = .bl z
theorem stb_RI {K : PySem.W.Frag} : Stb K RI := fun _ _ _ _ _ h => h
theorem stb_RB {K : PySem.W.Frag} : Stb K RB := fun _ _ _ _ _ h => h
theorem stb_Fz {K : PySem.W.Frag} : Stb K (Fz K) := fun _ _ _ _ e h => h.tk e
theorem Rs.maps {α : Type} {R : Hp → V → α → Prop} {f : α → V} (hf : ∀ H v z, R H v z → v = f z) {H : Hp} : ∀ {vs : List V} {zs : List α}, Rs R H vs zs → vs = zs.map f := fun {vs zs} h => by
  refine List.ext_getElem? fun i => ?_
  rw [List.getElem?_map]
  have hl := h.1
  by_cases hi : i < vs.length
  · have hv := List.getElem?_eq_getElem hi
    have hz : zs[i]? = some zs[i] := List.getElem?_eq_getElem (by omega)
    rw [hv, hz, hf _ _ _ (h.2 i _ _ hv hz)]
    rfl
  · rw [List.getElem?_eq_none (by omega), List.getElem?_eq_none (by omega)]
    rfl
theorem Rs.ints {H : Hp} {vs : List V} {zs : List Int} (h : Rs RI H vs zs) : vs = zs.map V.int := h.maps fun _ _ _ e => e
theorem Rs.bls {H : Hp} {vs : List V} {zs : List Bool} (h : Rs RB H vs zs) : vs = zs.map V.bl := h.maps fun _ _ _ e => e
theorem Rs.fz {K : PySem.W.Frag} {H : Hp} : ∀ {vs : List V} {ts : List Td}, Rs (Fz K) H vs ts → FzAll K H vs ts
  | [], [], _ => .nil
  | [], _ :: _, h => by have := h.1; simp at this
  | _ :: _, [], h => by have := h.1; simp at this
  | v :: vs, t :: ts, h => .cons (h.2 0 v t rfl rfl) (Rs.fz ⟨by have := h.1; simp at this; exact this, fun i u z hu hz => h.2 (i + 1) u z hu hz⟩)
theorem new_same {H : Hp} {p : Addr} (h : H p = none) (o : HO) : Same H (upd H p o) := fun b u q => by rw [upd_ne (ne_of_none q h)]; exact q
theorem ys_at {xs : List V} {i : Nat} {H H' : Hp} {x : V} (y : YAt xs i H x H') : Same H H' := by rw [y.1]; exact fun _ _ h => h
theorem ys_fn {f : Nat → V} {i : Nat} {H H' : Hp} {x : V} (y : YFn f i H x H') : Same H H' := by rw [y.1]; exact fun _ _ h => h
theorem ys_pair {xs ys : Nat → Option V} {i : Nat} {H H' : Hp} {x : V} (y : YPair xs ys i H x H') : Same H H' := by
  obtain ⟨T, _, _, _, h1, h2, _⟩ := y
  rw [h2]
  exact new_same h1 _
theorem walk_zT {K : PySem.W.Frag} {a b : Addr} {xs ys : List V} {n : Nat} (hn : n = min xs.length ys.length) : Walk (RZ.ItzT K a b) n (fun H => SqT K H a xs ∧ SqT K H b ys) (YPair (fun i => xs[i]?) (fun i => ys[i]?)) := by
  subst hn
  refine ⟨fun i _ hi q => ?_, fun _ q => ⟨xs, ys, q.1, q.2, by omega⟩, fun i H v H' _ q y => ?_⟩
  · have h1 : i < xs.length := by omega
    have h2 : i < ys.length := by omega
    exact ⟨xs, ys, xs[i], ys[i], q.1, q.2, by simp [h1], by simp [h2]⟩
  · obtain ⟨T, x, z, h1, h2, h3, h4, h5⟩ := y
    exact ⟨T, x, z, h1, h2, h3, h4 xs q.1, h5 ys q.2⟩
theorem sizes {n : Nat} (h : n ≤ 16000000) : n < sizeLine := Nat.lt_of_le_of_lt h (by rw [sizeLine_eq]; decide)
/-- what stays while the list at D grows -/
def StbD {α : Type} (D : Addr) (R : Hp → V → α → Prop) : Prop := ∀ H H' v z, (∃ l, H D = some (.lst l)) → (∀ b o, b ≠ D → H b = some o → H' b = some o) → R H v z → R H' v z
theorem Stb.at {α : Type} {K : PySem.W.Frag} {R : Hp → V → α → Prop} (s : Stb K R) (D : Addr) : StbD D R := fun _ _ _ _ ⟨_, hl⟩ e r => s _ _ _ _ (tk_lst hl e) r
theorem Rs.tkD {α : Type} {D : Addr} {R : Hp → V → α → Prop} (s : StbD D R) {H H' : Hp} {vs : List V} {zs : List α} (h : Rs R H vs zs) (hD : ∃ l, H D = some (.lst l)) (e : ∀ b o, b ≠ D → H b = some o → H' b = some o) : Rs R H' vs zs := ⟨h.1, fun i v z a b => s _ _ _ _ hD e (h.2 i v z a b)⟩
/-- a list of ints apart from D -/
def RL (D : Addr) : Hp → V → List Int → Prop := fun H v r => ∃ p, v = .ref p ∧ p ≠ D ∧ H p = some (.lst (r.map V.int))
theorem stb_RL {D : Addr} : StbD D (RL D) := fun _ _ _ _ _ e ⟨p, h1, h2, h3⟩ => ⟨p, h1, h2, e _ _ h2 h3⟩
/-- a comprehension: each turn gives one thing, or nothing -/
theorem lc_g {α β : Type} {J : It} {n : Nat} {G : Hp → Prop} {Y : Nat → Hp → V → Hp → Prop} (w : Walk J n G Y) {g : TG} {tt : TT} {te : TE} {vs : List Nat} {σ : L2.St} {H1 : Hp} {D : Addr} {Qd : Hp → Prop}
    (R : Hp → V → α → Prop) (st : StbD D R) (xs : List β) (hn : n = xs.length) (hl : xs.length ≤ 16000000) (hD : H1 D = none) (hG : ∀ H, Same H1 H → G H) (hY : ∀ i H x H', Y i H x H' → Same H H') (f : β → Option α)
    (hs : ∀ i b x H H', xs[i]? = some b → Same H1 H → Same H1 H' → Y i H x H' → (∃ l, H' D = some (.lst l)) → ∀ (A : V → Hp → Prop) (B : Hp → Prop), (∀ y z H4, f b = some z → Same H' H4 → R H4 y z → A y H4) → (f b = none → ∀ H4, Same H' H4 → B H4) →
      g x (wipe σ vs) H' fun σ2 H2 => wipe σ2 vs = wipe σ vs ∧ tt σ2 H2 fun b H3 => if b = true then te σ2 H3 A else B H3)
    (hd : ∀ H l, Same H1 H → H D = some (.lst l) → Rs R H l (xs.filterMap f) → Qd H) :
    ∃ W : Nat → Nat → Hp → Prop, (∃ m, W 0 m (upd H1 D (.lst []))) ∧ ∀ i m H, W i m H →
      (J.stop i H ∧ Qd H) ∨ (J.go i H ∧ ∃ Nx : Hp → Prop, (∀ H', Nx H' → ∃ m', m' < m ∧ W (i + 1) m' H') ∧ ∀ x H', J.yld i H x H' → g x (wipe σ vs) H' fun σ2 H2 => wipe σ2 vs = wipe σ vs ∧ tt σ2 H2 fun b H3 =>
        if b = true then te σ2 H3 fun y H4 => ∃ acc, H4 D = some (.lst acc) ∧ acc.length < sizeLine ∧ Nx (upd H4 D (.lst (acc ++ [y]))) else Nx H3) := by
  subst hn
  refine lc_it w (fun i H => Same H1 H ∧ ∃ l, H D = some (.lst l) ∧ Rs R H l ((xs.take i).filterMap f) ∧ l.length ≤ i) ⟨new_same hD _, [], upd_same, by rw [List.take_zero]; exact Rs.nil, Nat.le_refl _⟩ (fun i H _ p => hG H p.1) ?_ ?_
  · rintro i x H H' hi ⟨sm, l, hl1, rs, hlen⟩ y
    have hb : xs[i]? = some xs[i] := List.getElem?_eq_getElem hi
    have sy := hY i H x H' y
    have et : xs.take (i + 1) = xs.take i ++ [xs[i]] := by rw [List.take_add_one, hb]; rfl
    refine hs i _ x H H' hb sm (sm.trans sy) y ⟨l, sy _ _ hl1⟩ _ _ (fun v z H4 hz s4 r => ?_) (fun hz H4 s4 => ?_)
    · have h4 : H4 D = some (.lst l) := s4 _ _ (sy _ _ hl1)
      refine ⟨l, h4, sizes (by omega), fun b o e => ?_, l ++ [v], upd_same, ?_, by rw [List.length_append]; simp only [List.length_cons, List.length_nil]; omega⟩
      · rw [upd_ne (ne_of_none e hD)]
        exact s4 _ _ (sy _ _ (sm _ _ e))
      · rw [et, List.filterMap_append]
        have e1 : [xs[i]].filterMap f = [z] := by rw [List.filterMap_cons, hz]; rfl
        rw [e1]
        refine Rs.snoc (rs.tkD st ⟨l, hl1⟩ fun b o hb e => ?_) (st _ _ _ _ ⟨l, h4⟩ (fun b o hb e => ?_) r)
        · rw [upd_ne hb]
          exact s4 _ _ (sy _ _ e)
        · rw [upd_ne hb]
          exact e
    · refine ⟨sm.trans (sy.trans s4), l, s4 _ _ (sy _ _ hl1), ?_, by omega⟩
      rw [et, List.filterMap_append]
      have e1 : [xs[i]].filterMap f = [] := by rw [List.filterMap_cons, hz]; rfl
      rw [e1, List.append_nil]
      exact rs.tkD st ⟨l, hl1⟩ fun b o _ e => s4 _ _ (sy _ _ e)
  · rintro H ⟨sm, l, hl1, rs, _⟩
    rw [List.take_length] at rs
    exact hd H l sm hl1 rs
/-- the same for what stays while tuples stay -/
theorem lc_f {α β : Type} {K : PySem.W.Frag} {J : It} {n : Nat} {G : Hp → Prop} {Y : Nat → Hp → V → Hp → Prop} (w : Walk J n G Y) {g : TG} {tt : TT} {te : TE} {vs : List Nat} {σ : L2.St} {H1 : Hp} {D : Addr} {Qd : Hp → Prop}
    (R : Hp → V → α → Prop) (st : Stb K R) (xs : List β) (hn : n = xs.length) (hl : xs.length ≤ 16000000) (hD : H1 D = none) (hG : ∀ H, Same H1 H → G H) (hY : ∀ i H x H', Y i H x H' → Same H H') (f : β → Option α)
    (hs : ∀ i b x H H', xs[i]? = some b → Same H1 H → Same H1 H' → Y i H x H' → ∀ (A : V → Hp → Prop) (B : Hp → Prop), (∀ y z H4, f b = some z → Same H' H4 → R H4 y z → A y H4) → (f b = none → ∀ H4, Same H' H4 → B H4) →
      g x (wipe σ vs) H' fun σ2 H2 => wipe σ2 vs = wipe σ vs ∧ tt σ2 H2 fun b H3 => if b = true then te σ2 H3 A else B H3)
    (hd : ∀ H l, Same H1 H → H D = some (.lst l) → Rs R H l (xs.filterMap f) → Qd H) :
    ∃ W : Nat → Nat → Hp → Prop, (∃ m, W 0 m (upd H1 D (.lst []))) ∧ ∀ i m H, W i m H →
      (J.stop i H ∧ Qd H) ∨ (J.go i H ∧ ∃ Nx : Hp → Prop, (∀ H', Nx H' → ∃ m', m' < m ∧ W (i + 1) m' H') ∧ ∀ x H', J.yld i H x H' → g x (wipe σ vs) H' fun σ2 H2 => wipe σ2 vs = wipe σ vs ∧ tt σ2 H2 fun b H3 =>
        if b = true then te σ2 H3 fun y H4 => ∃ acc, H4 D = some (.lst acc) ∧ acc.length < sizeLine ∧ Nx (upd H4 D (.lst (acc ++ [y]))) else Nx H3) := lc_g w R (st.at D) xs hn hl hD hG hY f (fun i b x H H' h1 h2 h3 h4 _ => hs i b x H H' h1 h2 h3 h4) hd
/-- each turn gives one thing -/
theorem lc_m {α β : Type} {K : PySem.W.Frag} {J : It} {n : Nat} {G : Hp → Prop} {Y : Nat → Hp → V → Hp → Prop} (w : Walk J n G Y) {g : TG} {tt : TT} {te : TE} {vs : List Nat} {σ : L2.St} {H1 : Hp} {D : Addr} {Qd : Hp → Prop}
    (R : Hp → V → α → Prop) (st : Stb K R) (xs : List β) (hn : n = xs.length) (hl : xs.length ≤ 16000000) (hD : H1 D = none) (hG : ∀ H, Same H1 H → G H) (hY : ∀ i H x H', Y i H x H' → Same H H') (f : β → α)
    (hs : ∀ i b x H H', xs[i]? = some b → Same H1 H → Same H1 H' → Y i H x H' → ∀ (A : V → Hp → Prop) (B : Hp → Prop), (∀ y H4, Same H' H4 → R H4 y (f b) → A y H4) →
      g x (wipe σ vs) H' fun σ2 H2 => wipe σ2 vs = wipe σ vs ∧ tt σ2 H2 fun b H3 => if b = true then te σ2 H3 A else B H3)
    (hd : ∀ H l, Same H1 H → H D = some (.lst l) → Rs R H l (xs.map f) → Qd H) :
    ∃ W : Nat → Nat → Hp → Prop, (∃ m, W 0 m (upd H1 D (.lst []))) ∧ ∀ i m H, W i m H →
      (J.stop i H ∧ Qd H) ∨ (J.go i H ∧ ∃ Nx : Hp → Prop, (∀ H', Nx H' → ∃ m', m' < m ∧ W (i + 1) m' H') ∧ ∀ x H', J.yld i H x H' → g x (wipe σ vs) H' fun σ2 H2 => wipe σ2 vs = wipe σ vs ∧ tt σ2 H2 fun b H3 =>
        if b = true then te σ2 H3 fun y H4 => ∃ acc, H4 D = some (.lst acc) ∧ acc.length < sizeLine ∧ Nx (upd H4 D (.lst (acc ++ [y]))) else Nx H3) := by
  refine lc_f w R st xs hn hl hD hG hY (fun b => some (f b)) (fun i b x H H' hb s1 s2 y A B ha _ => hs i b x H H' hb s1 s2 y A B fun v H4 s4 r => ha v _ H4 rfl s4 r) fun H l s1 hl1 rs => hd H l s1 hl1 ?_
  rw [show (fun b => some (f b)) = some ∘ f from rfl, List.filterMap_eq_map] at rs
  exact rs
theorem lc_gm {α β : Type} {J : It} {n : Nat} {G : Hp → Prop} {Y : Nat → Hp → V → Hp → Prop} (w : Walk J n G Y) {g : TG} {tt : TT} {te : TE} {vs : List Nat} {σ : L2.St} {H1 : Hp} {D : Addr} {Qd : Hp → Prop}
    (R : Hp → V → α → Prop) (st : StbD D R) (xs : List β) (hn : n = xs.length) (hl : xs.length ≤ 16000000) (hD : H1 D = none) (hG : ∀ H, Same H1 H → G H) (hY : ∀ i H x H', Y i H x H' → Same H H') (f : β → α)
    (hs : ∀ i b x H H', xs[i]? = some b → Same H1 H → Same H1 H' → Y i H x H' → (∃ l, H' D = some (.lst l)) → ∀ (A : V → Hp → Prop) (B : Hp → Prop), (∀ y H4, Same H' H4 → R H4 y (f b) → A y H4) →
      g x (wipe σ vs) H' fun σ2 H2 => wipe σ2 vs = wipe σ vs ∧ tt σ2 H2 fun b H3 => if b = true then te σ2 H3 A else B H3)
    (hd : ∀ H l, Same H1 H → H D = some (.lst l) → Rs R H l (xs.map f) → Qd H) :
    ∃ W : Nat → Nat → Hp → Prop, (∃ m, W 0 m (upd H1 D (.lst []))) ∧ ∀ i m H, W i m H →
      (J.stop i H ∧ Qd H) ∨ (J.go i H ∧ ∃ Nx : Hp → Prop, (∀ H', Nx H' → ∃ m', m' < m ∧ W (i + 1) m' H') ∧ ∀ x H', J.yld i H x H' → g x (wipe σ vs) H' fun σ2 H2 => wipe σ2 vs = wipe σ vs ∧ tt σ2 H2 fun b H3 =>
        if b = true then te σ2 H3 fun y H4 => ∃ acc, H4 D = some (.lst acc) ∧ acc.length < sizeLine ∧ Nx (upd H4 D (.lst (acc ++ [y]))) else Nx H3) := by
  refine lc_g w R st xs hn hl hD hG hY (fun b => some (f b)) (fun i b x H H' hb s1 s2 y hd2 A B ha _ => hs i b x H H' hb s1 s2 y hd2 A B fun v H4 s4 r => ha v _ H4 rfl s4 r) fun H l s1 hl1 rs => hd H l s1 hl1 ?_
  rw [show (fun b => some (f b)) = some ∘ f from rfl, List.filterMap_eq_map] at rs
  exact rs
/-- a comprehension in a comprehension -/
def rl (scope sc : Scope) : Scope := { scope with names := scope.names.map fun (n, k) => if (k == .free && sc.kind == .function && sc.names.lookup n == some .cell) then (n, .cell) else (n, k) }
theorem blk_nest {N : List Str} {scope inner sc0 : Scope} {own : List (Str × Nat)} {cl : List (Str × Addr)} {C : Addr} {env : Env} (e : env.scope = sc0) (h : blkC N (rl scope sc0) inner own = true) : BlkOk N (compEnvC scope cl C env).scope inner own := by
  subst e
  exact blkOk_by h
theorem pi_tupK {X : Cx} {K : PySem.W.Frag} {tg e : Expr} {te : TE} (hK : X.K = K) (h : PE X e te) : PI X tg e (iTup K te) := by
  subst hK
  exact pi_tup h
theorem sl_tupAK {X : Cx} {K : PySem.W.Frag} (hK : X.K = K) : SlR X (rSlA K) := by
  subst hK
  exact sl_tupA
theorem pe_fldK {X : Cx} {K : PySem.W.Frag} {e : Expr} {ta : TE} {f : Str} {p : Pos} (hK : X.K = K) (h : PE X e ta) (hb : attributeBase e f X.env (eval e X.env) = eval e X.env) : PE X (.Attribute e f p) (tFld K ta f) := by
  subst hK
  exact pe_fld h hb
theorem pi_listK {X : Cx} {K : PySem.W.Frag} {tg e : Expr} {te : TE} (hK : X.K = K) (h : PE X e te) : PI X tg e (iList K te) := by
  subst hK
  exact pi_list h
end WK
/-! Ties of a web, their strengths over the common part, rows, matrices. -/
namespace P10
open PySem L2 WK
def gI (t b : Int) : Int := ((Nat.gcd t.natAbs b.natAbs : Nat) : Int)
theorem gI_pos {t b : Int} (ht : 0 < t) : 0 < gI t b := by
  have : 0 < Nat.gcd t.natAbs b.natAbs := Nat.gcd_pos_of_pos_left _ (by omega)
  unfold gI
  omega
theorem gI_pos' {t b : Int} (hb : 0 < b) : 0 < gI t b := by
  have : 0 < Nat.gcd t.natAbs b.natAbs := Nat.gcd_pos_of_pos_right _ (by omega)
  unfold gI
  omega
theorem gI_le {t b : Int} (ht : 0 < t) : gI t b ≤ t := by
  have : Nat.gcd t.natAbs b.natAbs ≤ t.natAbs := Nat.le_of_dvd (by omega) (Nat.gcd_dvd_left _ _)
  unfold gI
  omega
theorem gI_dvd1 {t b : Int} : gI t b ∣ t := by
  unfold gI
  exact Int.ofNat_dvd_left.mpr (Nat.gcd_dvd_left _ _)
theorem gI_dvd2 {t b : Int} : gI t b ∣ b := by
  unfold gI
  exact Int.ofNat_dvd_left.mpr (Nat.gcd_dvd_right _ _)
/-- the common part of a bottom and some numbers -/
def gf (b : Int) (ns : List Int) : Int := ns.foldl gI b
theorem gf_pos {b : Int} (hb : 0 < b) : ∀ (ns : List Int), 0 < gf b ns := fun ns => by
  induction ns generalizing b with
  | nil => exact hb
  | cons n ns ih => exact ih (gI_pos hb)
theorem gf_le {b : Int} (hb : 0 < b) : ∀ (ns : List Int), gf b ns ≤ b := fun ns => by
  induction ns generalizing b with
  | nil => exact Int.le_refl _
  | cons n ns ih => exact Int.le_trans (ih (gI_pos hb)) (gI_le hb)
theorem gf_dvd {b : Int} : ∀ (ns : List Int), gf b ns ∣ b ∧ ∀ n ∈ ns, gf b ns ∣ n := fun ns => by
  induction ns generalizing b with
  | nil => exact ⟨Int.dvd_refl _, fun n h => by cases h⟩
  | cons n ns ih =>
    have h := ih (b := gI b n)
    refine ⟨Int.dvd_trans h.1 gI_dvd1, fun m hm => ?_⟩
    rcases List.mem_cons.mp hm with e | e
    · rw [e]
      exact Int.dvd_trans h.1 gI_dvd2
    · exact h.2 m e
theorem gf_snoc (b : Int) (ns : List Int) (n : Int) : gf b (ns ++ [n]) = gI (gf b ns) n := by
  unfold gf
  rw [List.foldl_append]
  rfl
abbrev B (n : Nat) (x : Int) : Prop := x.natAbs < 2 ^ n
theorem B.mono {m n : Nat} {x : Int} (h : B m x) (hl : m ≤ n) : B n x := Nat.lt_of_lt_of_le h (Nat.pow_le_pow_right (by decide) hl)
theorem B.mul {m n : Nat} {x y : Int} (hx : B m x) (hy : B n y) : B (m + n) (x * y) := by
  show (x * y).natAbs < 2 ^ (m + n)
  rw [Int.natAbs_mul, Nat.pow_add]
  exact Nat.mul_lt_mul'' hx hy
theorem B.le {n : Nat} {x y : Int} (h0 : 0 ≤ x) (h : x ≤ y) (hy : B n y) : B n x := Nat.lt_of_le_of_lt (by omega) hy
theorem B.div {n : Nat} {x g : Int} (hg : 0 < g) (hx : B n x) : B n (x / g) := by
  show (x / g).natAbs < 2 ^ n
  exact Nat.lt_of_le_of_lt (Int.natAbs_ediv_le_natAbs x g) hx
abbrev T3 := Int × Int × Int
def td3 (t : T3) : Td := .tup [.int t.1, .int t.2.1, .int t.2.2]
def imin (i j : Int) : Int := if j < i then j else i
def imax (i j : Int) : Int := if j > i then j else i
def srt (t : T3) : T3 := (imin t.1 t.2.1, imax t.1 t.2.1, t.2.2)
/-- a tie of a web with pl places -/
structure OkT (pl : Int) (t : T3) : Prop where
  ne : t.1 ≠ t.2.1
  a0 : 0 ≤ t.1
  a1 : t.1 < pl
  b0 : 0 ≤ t.2.1
  b1 : t.2.1 < pl
  s1 : 1 ≤ t.2.2
  s2 : B 400 t.2.2
/-- the ties as a web keeps them, and its bottom -/
def wg (ts : List T3) (b : Int) : Int := gf b (ts.map (·.2.2))
def wt (ts : List T3) (b : Int) : List T3 := ts.map fun t => (imin t.1 t.2.1, imax t.1 t.2.1, t.2.2 / wg ts b)
def wb (ts : List T3) (b : Int) : Int := b / wg ts b
/-- the row of a tie -/
def b2 (p : Bool) : Int := if p then 1 else 0
def trow (pl : Int) (t : T3) : List Int := (List.range pl.toNat).map fun (k : Nat) => b2 (decide (V.int (0 + (k : Int)) = V.int t.1)) - b2 (decide (V.int (0 + (k : Int)) = V.int t.2.1))
abbrev RW := List Int × Int
def tdr (p : RW) : Td := .tup [.tup (p.1.map Td.int), .int p.2]
def wsum (ps : List RW) (i j : Nat) : Int := (ps.map fun p => p.2 * p.1.getD i 0 * p.1.getD j 0).sum
def wmat (n : Nat) (ps : List RW) : List (List Int) := (List.range n).map fun i => (List.range n).map fun j => wsum ps i j
def tdm (m : List (List Int)) : Td := .tup (m.map fun r => .tup (r.map Td.int))
theorem wsum_sym (ps : List RW) (i j : Nat) : wsum ps i j = wsum ps j i := by
  unfold wsum
  congr 1
  refine List.map_congr_left fun p _ => ?_
  rw [Int.mul_assoc, Int.mul_comm (p.1.getD i 0), ← Int.mul_assoc]
end P10
set_option maxHeartbeats 4000000
/-! enumerate over a tuple. -/
namespace WE
open PySem PySem.Spec PyProof.Rows L2
/-- enumerate(v): its two new cells -/
theorem meets_enB {v : Value} {o : Obj} {G : Heap → Prop} (B : Begins v o G) :
    Meets (Builtin.«enumerate.__new__» ⟨[.type "enumerate", v], []⟩) (fun _ R s => G s.heap ∧
      R (.ok (.ret (.ref (s.heap.push o).objs.size))) { s with heap := (s.heap.push o).push { cls := .type "enumerate", data := .fields #[.none, .bool false, .ref s.heap.objs.size, rawInt 0, .none, .none] } }) :=
  .of_wp fun prog w A R s h => by
    obtain ⟨hp, g, d, tk, os⟩ := s
    obtain ⟨h1, h⟩ := h
    have hsub := sub_enumerate
    have q1 : ∀ {A' : Around} {E : Value → Shared → Prop} {Q : Value → Shared → Prop}, Q (.ref hp.objs.size) ⟨hp.push o, g, d, tk, os⟩ → wpAny (model prog w) A' (pyIter v) Q E ⟨hp, g, d, tk, os⟩ :=
      fun q => B.iter prog w _ _ ⟨hp, g, d, tk, os⟩ _ h1 q
    wp_walk using q1
    refine wpAny_stack_any fun st => wpAny_pure ?_
    split
    · rename_i c _ _ _ _ _
      cases (c == Value.type "enumerate") <;> (wp_walk using q1; exact ⟨_, rfl, h⟩)
    · wp_walk using q1
      exact ⟨_, rfl, h⟩
theorem enB {prog : Program} {w : World} {A : Around} {E : Value → Shared → Prop} {s : Shared} {v : Value} {o : Obj} {G : Heap → Prop} {Q : Value → Shared → Prop} (B : Begins v o G) (h1 : G s.heap)
    (h : ∀ h', IsEnum h' (s.heap.objs.size + 1) s.heap.objs.size 0 .none → h'.get? s.heap.objs.size = some o → h'.objs.size = s.heap.objs.size + 2 →
      (∀ b o, s.heap.get? b = some o → h'.get? b = some o) → Q (.ref (s.heap.objs.size + 1)) { s with heap := h' }) :
    wpAny (model prog w) A (call (.type "enumerate") [v]) Q E s := by
  refine callType_new F.called_enumerate (by decide) (F.typeCall_enumerate_1 _) (F.newCall_enumerate_1 _) (fun obj => F.args_object_init_2 obj _) F.entry_enumerate_new (meets_enB B) ⟨h1, ?_⟩
  have hz : (s.heap.push o).objs.size = s.heap.objs.size + 1 := Heap.size_push ..
  show _ ∧ _
  rw [hz]
  have he : IsEnum ((s.heap.push o).push { cls := .type "enumerate", data := .fields #[.none, .bool false, .ref s.heap.objs.size, rawInt 0, .none, .none] }) (s.heap.objs.size + 1) s.heap.objs.size 0 .none := by
    have := Heap.get?_push_size (s.heap.push o) (o := { cls := .type "enumerate", data := .fields #[.none, .bool false, .ref s.heap.objs.size, rawInt 0, .none, .none] }) rfl
    rw [hz] at this
    exact this
  exact ⟨⟨_, he, rfl⟩, h _ he (Heap.get?_push_of_some _ (Heap.get?_push_size _ B.free)) (by rw [Heap.size_push, hz]) fun b o x => Heap.get?_push_of_some _ (Heap.get?_push_of_some _ x)⟩
/-- the tuple at a, each item in a new pair with its place -/
def IteT (K : PySem.W.Frag) (a : Addr) : It :=
  ⟨fun i H => ∃ (xs : List V) (x : V), SqT K H a xs ∧ xs[i]? = some x, fun i H v H' => ∃ T x, v = .ref T ∧ H T = none ∧ H' = upd H T (.tup [.int (i : Nat), x]) ∧ ∀ xs, SqT K H a xs → xs[i]? = some x, fun i H => ∃ xs : List V, SqT K H a xs ∧ xs.length ≤ i⟩
theorem turn_enT {P : Program} {w : World} {K : PySem.W.Frag} {elts : List Expr} {kk : Nat} {tpos : Pos} (a e it : Addr) :
    Turn P w K (.Tuple elts kk tpos) (IteT K a) [e, it] e (fun i h => (∃ old, IsEnum h e it ((i : Nat) : Int) old) ∧ h.IsTupleIter it a i ∧ e ≠ it) where
  mem := List.mem_cons_self
  obj := fun i h st b hb => by
    obtain ⟨⟨old, he⟩, ⟨o, ho, hc, hd⟩, _⟩ := st
    rcases List.mem_cons.mp hb with z | z
    · rw [z]
      exact ⟨_, he, fun v q => nomatch q⟩
    · rw [List.mem_singleton.mp z]
      exact ⟨o, ho, fun v q => by rw [hd] at q; cases q⟩
  keep := fun i h h' st k => by
    obtain ⟨⟨old, he⟩, hi, hne⟩ := st
    exact ⟨⟨old, k e (by simp) _ he⟩, hi.at fun o q => k it (by simp) o q, hne⟩
  item := by
    intro X hP hw hK hc i pins s σ H E I hf st hg
    subst hP hw hK
    obtain ⟨⟨old, he⟩, hit, hne⟩ := st
    obtain ⟨xs, x, hq, hx⟩ := hg
    obtain ⟨its, rv, p, hz⟩ := I.tuple hq
    obtain ⟨u, hu, ru⟩ := rv.get hx
    have hel : e < s.heap.objs.size := Heap.lt_size he
    have hil : it < s.heap.objs.size := by
      obtain ⟨_, q, _⟩ := hit
      exact Heap.lt_size q
    have hai : a ≠ it := fun z => by
      obtain ⟨o1, g1, d1, _⟩ := p
      obtain ⟨o2, g2, d2, _⟩ := hit
      rw [z, g2] at g1
      cases g1
      rw [d2] at d1
      injection d1 with d3
      exact absurd d3 (by decide)
    have hae : e ∉ [it, a] := fun z => by
      rcases List.mem_cons.mp z with z | z
      · exact hne z
      · obtain ⟨o1, g1, d1, _⟩ := p
        rw [← List.mem_singleton.mp z, he] at g1
        cases g1
        injection d1 with d3
        exact absurd d3 (by decide)
    have hlt : i < its.toArray.size := by
      rw [List.size_toArray]
      exact (List.getElem?_eq_some_iff.mp hu).1
    refine wpAny_pyNext_enum_itemD (Draws.tuple (prog := X.prog) (w := X.w) (A := X.A.in1) (I.ok.hd hc) it a hai its.toArray) he ⟨hit, p⟩ hlt hne hae fun u' h' tk hP' ho hst hT hsz hk => ?_
    have eu : u' = u := by
      have e1 : its.toArray[i]? = some u := by rw [List.getElem?_toArray]; exact hu
      exact Option.some.inj ((show its.toArray[i]? = some u' from hP').symm.trans e1)
    subst eu
    refine ⟨_, rfl, wpAny_letOwnedTupleGo_enum (s := { s with heap := h', toks := tk + 1 }) ho fun h'' he' sb => ?_⟩
    have hT2 : h''.get? s.heap.objs.size = some { cls := .type "tuple", data := .seq #[.int i tk, u'] } := (sb.2 _ (Nat.ne_of_gt hel)).trans hT
    have new : ObjOk X.prog X.w (upd H s.heap.objs.size (.tup [.int (i : Nat), x])) h'' s.heap.objs.size (.tup [.int (i : Nat), x]) :=
      ⟨by show 2 ≤ sizeLine; decide, [.int i tk, u'], .cons ⟨_, rfl⟩ (.cons ru .nil), ⟨_, hT2, rfl, _, rfl⟩⟩
    have I1 : Inv X pins σ (upd H s.heap.objs.size (.tup [.int (i : Nat), x])) { s with heap := h'', toks := tk + 1 } :=
      I.turnedNew (ch := [e, it]) (fun b ob hb q => (sb.2 b (fun z => hb (by simp [z]))).trans (hk b ob (fun z => hb (by simp [z])) (fun z => hb (by simp [z])) q)) hf (Nat.le_refl _) new
    refine ⟨.ref s.heap.objs.size, _, I1, rfl, ⟨_, x, rfl, I.hok.fresh (Nat.le_refl _), rfl, fun ys hy => by rw [I.tuple_inj hy hq]; exact hx⟩, ⟨⟨u', ?_⟩, hst.1.at fun o q => (sb.2 it (Ne.symm hne)).trans q, hne⟩, fun b hb => ?_⟩
    · have e1 : ((i + 1 : Nat) : Int) = (i : Int) + 1 := by omega
      rw [e1]
      exact he'
    · have hb' : b < s.heap.objs.size := by
        rcases List.mem_cons.mp hb with z | z
        · rw [z]
          exact hel
        · rw [List.mem_singleton.mp z]
          exact hil
      rw [upd_ne (Nat.ne_of_lt hb')]
      exact (hf b hb).1
  done := by
    intro X hP hw hK hc i pins s σ H E I hf st hg
    subst hP hw hK
    obtain ⟨⟨old, he⟩, hit, hne⟩ := st
    obtain ⟨xs, hq, hx⟩ := hg
    obtain ⟨its, rv, p, hz⟩ := I.tuple hq
    obtain ⟨f0, f1, f2, f3, f4, f5⟩ := hf it (by simp)
    have hl := rv.length
    have hT : s.TypeIs (.ref e) "enumerate" := ⟨_, he, rfl⟩
    unfold pyNext
    refine wpAny_bind (wpAny_attempt (wpAny_callSpecial?_slot (name := Str.ofString "__next__") hT F.slot_enumerate_next
      (wpAny_call_entry F.slot_enumerate_next hT F.entry_enumerate_next ?_ (F.args_enumerate_next_1 _))))
    show wpAny _ _ (field (.ref e) 2 >>= _) _ _ _
    refine wpAny_bind (wpAny_field he rfl (x := .ref it) rfl ?_)
    refine wpAny_bind (wpAny_nextOf_tuple_end (I.ok.hd hc) hit p (by simp; omega) fun h' x eb hx' => ?_)
    obtain ⟨o, ho, hcl⟩ := hx'
    refine wpAny_bind (wpAny_isInstance (T := "StopIteration") (b := true) ⟨o, ho, hcl⟩ isSubtype_stop ?_)
    exact wpAny_pure ⟨rfl, I.turned (t' := s.toks) (fun b o hb q => eb b o hb q) f0 f1 f3 f4 f5⟩
  self := fun A i s Q E st h => let ⟨⟨_, he⟩, _⟩ := st; wpAny_pyIter_enum he h
def iEnT (K : PySem.W.Frag) (ta : TA) : TI := fun σ H R => ta σ H fun vs H1 => ∃ a xs, vs = [.ref a] ∧ SqT K H1 a xs ∧ R (IteT K a) H1
theorem pi_enT {X : Cx} {e : Expr} {ta : TA} {p pos tpos : Pos} {elts : List Expr} {kk : Nat} (hg : Gl X "enumerate") (hm : X.mg "enumerate" = none) (ha : PA X [e] ta) (hs : starEach [e] X.env = [(false, eval e X.env)] := by rfl) :
    PI X (.Tuple elts kk tpos) (.Call (.Name "enumerate" p) [e] [] pos) (iEnT X.K ta) := by
  refine ⟨fun pins s σ H R I h => ?_⟩
  refine Call_ (ld_blt I hg hm boot_enumerate (PyProof.Rows.callWith_type1 (thn (ha.run pos pins s σ H _ I h) fun us s1 ⟨vs, H1, I1, r1, q1⟩ => ?_) hs rfl))
  obtain ⟨a, xs, ex, hq, q⟩ := q1
  subst ex
  obtain ⟨u, rfl, ru⟩ := vals1 r1
  cases ru
  obtain ⟨its, rv, p', hz⟩ := I1.tuple hq
  refine enB (begins_tuple a its.toArray) p' fun h' he hit hsz hk => wpAny_pyIter_enum he ?_
  have I2 : Inv X pins σ H1 { s1 with heap := h' } := I1.kept (t' := s1.toks) hk
  refine ⟨s1.heap.objs.size + 1, [s1.heap.objs.size + 1, s1.heap.objs.size], _, _, H1, rfl, I2, turn_enT a (s1.heap.objs.size + 1) s1.heap.objs.size, ⟨⟨.none, he⟩, ⟨_, hit, rfl, rfl⟩, Nat.succ_ne_self _⟩, fun b hb => ?_, q⟩
  have hle : s1.heap.objs.size ≤ b := by
    rcases List.mem_cons.mp hb with z | z
    · rw [z]
      exact Nat.le_add_right _ _
    · rw [List.mem_singleton.mp z]
      exact Nat.le_refl _
  exact I1.fpOk hle (I1.hok.fresh hle)
theorem walk_enT {K : PySem.W.Frag} {a : Addr} {xs : List V} : Walk (IteT K a) xs.length (fun H => SqT K H a xs) (YPair (fun i => some (.int (i : Nat))) (fun i => xs[i]?)) := by
  refine ⟨fun i _ hi q => ⟨xs, xs[i], q, by simp [hi]⟩, fun _ q => ⟨xs, q, Nat.le_refl _⟩, fun i H v H' _ q y => ?_⟩
  obtain ⟨T, x, h1, h2, h3, h4⟩ := y
  exact ⟨T, .int (i : Nat), x, h1, h2, h3, rfl, h4 xs q⟩
end WE
set_option maxHeartbeats 4000000
/-! zip of two sequences, each of them a list or a tuple. -/
namespace WZ
open PySem PySem.Spec PyProof.Rows L2
/-- a list (true) or a tuple (false) -/
def Sq (k : Bool) (K : PySem.W.Frag) (H : Hp) (a : Addr) (xs : List V) : Prop := if k = true then SqL K H a xs else SqT K H a xs
def Ob (k : Bool) (h : Heap) (a : Addr) (its : Array Value) : Prop := if k = true then h.IsList a its else h.IsTuple a its
def Ir (k : Bool) (h : Heap) (it a : Addr) (i : Nat) : Prop := if k = true then h.IsListIter it a i else h.IsTupleIter it a i
def itO (k : Bool) (a : Addr) : Obj := if k = true then { cls := .type "list_iterator", data := .fields #[.ref a, .int 0 0] } else { cls := .type "tuple_iterator", data := .fields #[.ref a, .int 0 0] }
theorem Ir.at {k : Bool} {h h' : Heap} {it a : Addr} {i : Nat} (x : Ir k h it a i) (e : ∀ o, h.get? it = some o → h'.get? it = some o) : Ir k h' it a i := by
  cases k with
  | true => exact (show h.IsListIter it a i from x).at e
  | false => exact (show h.IsTupleIter it a i from x).at e
theorem Ir.obj {k : Bool} {h : Heap} {it a : Addr} {i : Nat} (x : Ir k h it a i) : ∃ o, h.get? it = some o ∧ ∀ v, o.data ≠ .cell v := by
  cases k with
  | true =>
    obtain ⟨o, e, _, d⟩ := (show h.IsListIter it a i from x)
    exact ⟨o, e, fun v q => by rw [d] at q; cases q⟩
  | false =>
    obtain ⟨o, e, _, d⟩ := (show h.IsTupleIter it a i from x)
    exact ⟨o, e, fun v q => by rw [d] at q; cases q⟩
theorem Ob.lt {k : Bool} {h : Heap} {a : Addr} {its : Array Value} (x : Ob k h a its) : a < h.objs.size := by
  cases k with
  | true =>
    obtain ⟨o, e, _⟩ := (show h.IsList a its from x)
    exact Heap.lt_size e
  | false =>
    obtain ⟨o, e, _⟩ := (show h.IsTuple a its from x)
    exact Heap.lt_size e
theorem draw {prog : Program} {w : World} {A : Around} (hh : A.handled = none) (k : Bool) (it a : Addr) (hne : a ≠ it) (items : Array Value) :
    Draws prog w A it [it, a] items.size (fun i v => items[i]? = some v) (fun i h => Ir k h it a i ∧ Ob k h a items) := by
  cases k with
  | true => exact Draws.list hh it a hne items
  | false => exact Draws.tuple hh it a hne items
theorem begin {k : Bool} (a : Addr) (items : Array Value) : Begins (.ref a) (itO k a) fun h => Ob k h a items := by
  cases k with
  | true => exact begins_list a items
  | false => exact begins_tuple a items
theorem obj_of {X : Cx} {pins : List (Addr × Obj)} {σ : L2.St} {H : Hp} {s : Shared} {k : Bool} {a : Addr} {xs : List V} (I : Inv X pins σ H s) (h : Sq k X.K H a xs) : ∃ its : List Value, Vals xs its ∧ Ob k s.heap a its.toArray := by
  cases k with
  | true =>
    obtain ⟨its, rv, p, _⟩ := I.list (show SqL X.K H a xs from h)
    exact ⟨its, rv, p.isList⟩
  | false =>
    obtain ⟨its, rv, p, _⟩ := I.tuple (show SqT X.K H a xs from h)
    exact ⟨its, rv, p⟩
theorem inj {X : Cx} {pins : List (Addr × Obj)} {σ : L2.St} {H : Hp} {s : Shared} {k : Bool} {a : Addr} {xs ys : List V} (I : Inv X pins σ H s) (h : Sq k X.K H a xs) (h' : Sq k X.K H a ys) : xs = ys := by
  cases k with
  | true => exact I.list_inj h h'
  | false => exact I.tuple_inj h h'
/-- the sequences at a and b as they stand at each turn, the items in new pairs -/
def ItzA (K : PySem.W.Frag) (k l : Bool) (a b : Addr) : It :=
  ⟨fun i H => ∃ (xs ys : List V) (x y : V), Sq k K H a xs ∧ Sq l K H b ys ∧ xs[i]? = some x ∧ ys[i]? = some y,
    fun i H v H' => ∃ T x y, v = .ref T ∧ H T = none ∧ H' = upd H T (.tup [x, y]) ∧ (∀ xs, Sq k K H a xs → xs[i]? = some x) ∧ ∀ ys, Sq l K H b ys → ys[i]? = some y,
    fun i H => ∃ xs ys : List V, Sq k K H a xs ∧ Sq l K H b ys ∧ i ≤ xs.length ∧ i ≤ ys.length ∧ (i = xs.length ∨ i = ys.length)⟩
theorem turn_zipA {P : Program} {w : World} {K : PySem.W.Frag} {k l : Bool} {elts : List Expr} {kk : Nat} {tpos : Pos} {a b z TI TO i1 i2 : Addr} (D : ZipSep2 z TI TO i1 i2 [i1, a] [i2, b]) :
    Turn P w K (.Tuple elts kk tpos) (ItzA K k l a b) [z, TI, TO, i1, i2] z (fun i h => IsZip h z TI TO .none ∧ IsTupOf2 h TI (.ref i1) (.ref i2) ∧ (∃ x y, IsTupOf2 h TO x y) ∧ Ir k h i1 a i ∧ Ir l h i2 b i) where
  mem := by simp
  obj := fun i h st c hc => by
    obtain ⟨hz, hTI, ⟨x, y, hTO⟩, h1, h2⟩ := st
    have e' : c = z ∨ c = TI ∨ c = TO ∨ c = i1 ∨ c = i2 := by simpa using hc
    rcases e' with q | q | q | q | q
    · rw [q]; exact ⟨_, hz, fun v q => nomatch q⟩
    · rw [q]; exact ⟨_, hTI, fun v q => nomatch q⟩
    · rw [q]; exact ⟨_, hTO, fun v q => nomatch q⟩
    · rw [q]; exact h1.obj
    · rw [q]; exact h2.obj
  keep := fun i h h' st k => by
    obtain ⟨hz, hTI, ⟨x, y, hTO⟩, h1, h2⟩ := st
    exact ⟨k z (by simp) _ hz, k TI (by simp) _ hTI, ⟨x, y, k TO (by simp) _ hTO⟩, h1.at fun o q => k i1 (by simp) o q, h2.at fun o q => k i2 (by simp) o q⟩
  item := by
    intro X hP hw hK hc i pins s σ H E I hf st hg
    subst hP hw hK
    obtain ⟨hz, hTI, ⟨x0, y0, hTO⟩, h1, h2⟩ := st
    obtain ⟨xs, ys, x, y, hqx, hqy, hx, hy⟩ := hg
    obtain ⟨its, rv, p⟩ := obj_of I hqx
    obtain ⟨its2, rv2, p2⟩ := obj_of I hqy
    obtain ⟨u, hu, ru⟩ := rv.get hx
    obtain ⟨u2, hu2, ru2⟩ := rv2.get hy
    have hzl : z < s.heap.objs.size := Heap.lt_size hz
    have l1 : i < its.toArray.size := by
      rw [List.size_toArray]
      exact (List.getElem?_eq_some_iff.mp hu).1
    have l2 : i < its2.toArray.size := by
      rw [List.size_toArray]
      exact (List.getElem?_eq_some_iff.mp hu2).1
    have n1 : a ≠ i1 := fun e => by
      have := D.sep1_2
      obtain ⟨o, ho, _⟩ := h1.obj
      cases k with
      | true =>
        obtain ⟨o1, g1, c1, d1⟩ := (show s.heap.IsListIter i1 a i from h1)
        obtain ⟨o2, g2, c2, _⟩ := (show s.heap.IsList a its.toArray from p)
        rw [e, g1] at g2
        cases g2
        rw [c1] at c2
        injection c2 with c3
        exact absurd c3 (by decide)
      | false =>
        obtain ⟨o1, g1, c1, d1⟩ := (show s.heap.IsTupleIter i1 a i from h1)
        obtain ⟨o2, g2, c2, _⟩ := (show s.heap.IsTuple a its.toArray from p)
        rw [e, g1] at g2
        cases g2
        rw [c1] at c2
        injection c2 with c3
        exact absurd c3 (by decide)
    have n2 : b ≠ i2 := fun e => by
      cases l with
      | true =>
        obtain ⟨o1, g1, c1, d1⟩ := (show s.heap.IsListIter i2 b i from h2)
        obtain ⟨o2, g2, c2, _⟩ := (show s.heap.IsList b its2.toArray from p2)
        rw [e, g1] at g2
        cases g2
        rw [c1] at c2
        injection c2 with c3
        exact absurd c3 (by decide)
      | false =>
        obtain ⟨o1, g1, c1, d1⟩ := (show s.heap.IsTupleIter i2 b i from h2)
        obtain ⟨o2, g2, c2, _⟩ := (show s.heap.IsTuple b its2.toArray from p2)
        rw [e, g1] at g2
        cases g2
        rw [c1] at c2
        injection c2 with c3
        exact absurd c3 (by decide)
    refine wpAny_pyNext_zipD2_item D (draw (prog := X.prog) (w := X.w) (A := X.A.in1) (I.ok.hd hc) k i1 a n1 its.toArray) (draw (prog := X.prog) (w := X.w) (A := X.A.in1) (I.ok.hd hc) l i2 b n2 its2.toArray) hz hTI hTO ⟨h1, p⟩ ⟨h2, p2⟩ l1 l2 fun x1 x2 h' tk hx1 hx2 z' TO' h1' h2' hT hsz hk => ?_
    have eu : x1 = u := by
      have e1 : its.toArray[i]? = some u := by rw [List.getElem?_toArray]; exact hu
      exact Option.some.inj ((show its.toArray[i]? = some x1 from hx1).symm.trans e1)
    have eu2 : x2 = u2 := by
      have e1 : its2.toArray[i]? = some u2 := by rw [List.getElem?_toArray]; exact hu2
      exact Option.some.inj ((show its2.toArray[i]? = some x2 from hx2).symm.trans e1)
    subst eu eu2
    refine ⟨_, rfl, wpAny_letOwnedTupleGo_zip (s := { s with heap := h', toks := tk }) z' fun h'' z'' sb => ?_⟩
    have hT2 : h''.get? s.heap.objs.size = some { cls := .type "tuple", data := .seq #[x1, x2] } := (sb.2 _ (Nat.ne_of_gt hzl)).trans hT
    have new : ObjOk X.prog X.w (upd H s.heap.objs.size (.tup [x, y])) h'' s.heap.objs.size (.tup [x, y]) :=
      ⟨by show 2 ≤ sizeLine; decide, [x1, x2], .cons ru (.cons ru2 .nil), ⟨_, hT2, rfl, _, rfl⟩⟩
    have I1 : Inv X pins σ (upd H s.heap.objs.size (.tup [x, y])) { s with heap := h'', toks := tk } :=
      I.turnedNew (t' := tk) (ch := [z, TI, TO, i1, i2]) (fun c o hb q => (sb.2 c (fun q' => hb (by simp [q']))).trans (hk c o (fun q' => hb (by simp [q'])) (fun q' => hb (by simp [q'])) (fun q' => hb (by simp [q'])) (fun q' => hb (by simp [q'])) q)) hf (Nat.le_refl _) new
    refine ⟨.ref s.heap.objs.size, _, I1, rfl, ⟨_, x, y, rfl, I.hok.fresh (Nat.le_refl _), rfl, fun l hl => by rw [inj I hl hqx]; exact hx, fun l hl => by rw [inj I hl hqy]; exact hy⟩, ⟨z'', ?_, ⟨x1, x2, ?_⟩, ?_, ?_⟩, fun c hcm => ?_⟩
    · exact (sb.2 _ D.TIz).trans (hk _ _ D.TIz D.TITO D.TIi1 D.TIi2 hTI)
    · exact (sb.2 _ D.TOz).trans TO'
    · exact h1'.1.at fun o q => (sb.2 _ (Ne.symm D.zi1)).trans q
    · exact h2'.1.at fun o q => (sb.2 _ (Ne.symm D.zi2)).trans q
    · have hlt : c < s.heap.objs.size := by
        have e' : c = z ∨ c = TI ∨ c = TO ∨ c = i1 ∨ c = i2 := by simpa using hcm
        rcases e' with q | q | q | q | q
        · rw [q]; exact hzl
        · rw [q]; exact Heap.lt_size hTI
        · rw [q]; exact Heap.lt_size hTO
        · rw [q]; obtain ⟨_, e1, _⟩ := h1.obj; exact Heap.lt_size e1
        · rw [q]; obtain ⟨_, e2, _⟩ := h2.obj; exact Heap.lt_size e2
      rw [upd_ne (Nat.ne_of_lt hlt)]
      exact (hf c hcm).1
  done := by
    intro X hP hw hK hc i pins s σ H E I hf st hg
    subst hP hw hK
    obtain ⟨hz, hTI, ⟨x0, y0, hTO⟩, h1, h2⟩ := st
    obtain ⟨xs, ys, hqx, hqy, g1, g2, hend⟩ := hg
    obtain ⟨its, rv, p⟩ := obj_of I hqx
    obtain ⟨its2, rv2, p2⟩ := obj_of I hqy
    have l1 := rv.length
    have l2 := rv2.length
    have n1 : a ≠ i1 := fun e => by
      cases k with
      | true =>
        obtain ⟨o1, g1, c1, d1⟩ := (show s.heap.IsListIter i1 a i from h1)
        obtain ⟨o2, g2, c2, _⟩ := (show s.heap.IsList a its.toArray from p)
        rw [e, g1] at g2
        cases g2
        rw [c1] at c2
        injection c2 with c3
        exact absurd c3 (by decide)
      | false =>
        obtain ⟨o1, g1, c1, d1⟩ := (show s.heap.IsTupleIter i1 a i from h1)
        obtain ⟨o2, g2, c2, _⟩ := (show s.heap.IsTuple a its.toArray from p)
        rw [e, g1] at g2
        cases g2
        rw [c1] at c2
        injection c2 with c3
        exact absurd c3 (by decide)
    have n2 : b ≠ i2 := fun e => by
      cases l with
      | true =>
        obtain ⟨o1, g1, c1, d1⟩ := (show s.heap.IsListIter i2 b i from h2)
        obtain ⟨o2, g2, c2, _⟩ := (show s.heap.IsList b its2.toArray from p2)
        rw [e, g1] at g2
        cases g2
        rw [c1] at c2
        injection c2 with c3
        exact absurd c3 (by decide)
      | false =>
        obtain ⟨o1, g1, c1, d1⟩ := (show s.heap.IsTupleIter i2 b i from h2)
        obtain ⟨o2, g2, c2, _⟩ := (show s.heap.IsTuple b its2.toArray from p2)
        rw [e, g1] at g2
        cases g2
        rw [c1] at c2
        injection c2 with c3
        exact absurd c3 (by decide)
    refine wpAny_pyNext_zipD2_end D (draw (prog := X.prog) (w := X.w) (A := X.A.in1) (I.ok.hd hc) k i1 a n1 its.toArray) (draw (prog := X.prog) (w := X.w) (A := X.A.in1) (I.ok.hd hc) l i2 b n2 its2.toArray) hz hTI hTO ⟨h1, p⟩ ⟨h2, p2⟩ (by rw [List.size_toArray]; omega) (by rw [List.size_toArray]; omega) (by rw [List.size_toArray, List.size_toArray]; omega) fun h' tk hk => ⟨rfl, I.turnedL (t' := tk) (ch := [z, TI, TO, i1, i2]) (fun c o hb q =>
      hk c o (fun q' => hb (by simp [q'])) (fun q' => hb (by simp [q'])) (fun q' => hb (by simp [q'])) (fun q' => hb (by simp [q'])) q) hf⟩
  self := fun A i s Q E st h => wpAny_pyIter_zip st.1 h
theorem sep {n a b : Nat} (la : a < n) (lb : b < n) : ZipSep2 (n + 4) (n + 2) (n + 3) n (n + 1) [n, a] [n + 1, b] := by
  constructor
  all_goals
    try simp only [List.mem_cons, List.not_mem_nil, or_false, not_or, ne_eq, true_or]
    try simp only [Nat.add_right_inj, Nat.reduceEqDiff, not_false_eq_true]
    try first | (refine ⟨True.intro, fun (h : n + 4 = b) => by omega⟩) | (refine ⟨True.intro, fun (h : n + 3 = b) => by omega⟩) | exact fun (h : n = n + 1) => by omega | (refine ⟨fun (h : n + 4 = n) => by omega, fun (h : n + 4 = a) => by omega⟩) | (refine ⟨fun (h : n + 3 = n) => by omega, fun (h : n + 3 = a) => by omega⟩) | (refine ⟨fun (h : n + 4 = n + 1) => by omega, fun (h : n + 4 = b) => by omega⟩) | (refine ⟨fun (h : n + 3 = n + 1) => by omega, fun (h : n + 3 = b) => by omega⟩) | (refine ⟨fun (h : n = n + 1) => by omega, fun (h : n = b) => by omega⟩) | (refine ⟨fun (h : n + 1 = n) => by omega, fun (h : n + 1 = a) => by omega⟩) | exact fun (h : n + 2 = n) => by omega | exact fun (h : n + 2 = n + 1) => by omega | exact fun (h : n + 2 = n + 4) => by omega | exact fun (h : n + 3 = n + 4) => by omega | exact fun (h : n + 2 = n + 3) => by omega
theorem walk_zA {K : PySem.W.Frag} {k l : Bool} {a b : Addr} {xs ys : List V} {n : Nat} (hx : n = xs.length) (hy : n = ys.length) : Walk (ItzA K k l a b) n (fun H => Sq k K H a xs ∧ Sq l K H b ys) (YPair (fun i => xs[i]?) (fun i => ys[i]?)) := by
  subst hx
  refine ⟨fun i _ hi q => ?_, fun _ q => ⟨xs, ys, q.1, q.2, Nat.le_refl _, by omega, .inl rfl⟩, fun i H v H' _ q y => ?_⟩
  · have h1 : i < xs.length := by omega
    have h2 : i < ys.length := by omega
    exact ⟨xs, ys, xs[i], ys[i], q.1, q.2, by simp [h1], by simp [h2]⟩
  · obtain ⟨T, x, z, h1, h2, h3, h4, h5⟩ := y
    exact ⟨T, x, z, h1, h2, h3, h4 xs q.1, h5 ys q.2⟩
def iZipB (K : PySem.W.Frag) (ta : TA) : TI := fun σ H R => ta σ H fun vs H1 => ∃ (k l : Bool) (a b : Addr) (xs ys : List V), vs = [.ref a, .ref b] ∧ Sq k K H1 a xs ∧ Sq l K H1 b ys ∧ R (ItzA K k l a b) H1
theorem pi_zipB {X : Cx} {e e2 : Expr} {ta : TA} {p pos tpos : Pos} {elts : List Expr} {kk : Nat} (hg : Gl X "zip") (hm : X.mg "zip" = none) (ha : PA X [e, e2] ta)
    (hs : starEach [e, e2] X.env = (false, eval e X.env) :: starEach [e2] X.env := by rfl) (hpl : (backTo pos (starEach [e2] X.env)).any (·.1) = false := by rfl) :
    PI X (.Tuple elts kk tpos) (.Call (.Name "zip" p) [e, e2] [] pos) (iZipB X.K ta) := by
  refine ⟨fun pins s σ H R I h => ?_⟩
  refine Call_ (ld_blt I hg hm PyProof.Rows.boot_zip (PyProof.Rows.callWith_type1 (thn (ha.run pos pins s σ H _ I h) fun us s1 ⟨vs, H1, I1, r1, q1⟩ => ?_) hs hpl))
  obtain ⟨k, l, a, b, xs, ys, ex, hqx, hqy, q⟩ := q1
  subst ex
  cases r1 with
  | cons r rr =>
    cases rr with
    | cons r' rr =>
      cases rr
      cases r
      cases r'
      obtain ⟨its, rv, p1⟩ := obj_of I1 hqx
      obtain ⟨its2, rv2, p2⟩ := obj_of I1 hqy
      have la := p1.lt
      have lb := p2.lt
      refine zip_begins2 (begin (k := k) a its.toArray) (begin (k := l) b its2.toArray) p1 p2 fun h' hz hTI hTO h1 h2 hsz hk => wpAny_pyIter_zip hz ?_
      have I2 : Inv X pins σ H1 { s1 with heap := h' } := I1.kept (t' := s1.toks) hk
      have D : ZipSep2 (s1.heap.objs.size + 4) (s1.heap.objs.size + 2) (s1.heap.objs.size + 3) s1.heap.objs.size (s1.heap.objs.size + 1) [s1.heap.objs.size, a] [s1.heap.objs.size + 1, b] := by
        exact sep la lb
      refine ⟨s1.heap.objs.size + 4, [s1.heap.objs.size + 4, s1.heap.objs.size + 2, s1.heap.objs.size + 3, s1.heap.objs.size, s1.heap.objs.size + 1], _, _, H1, rfl, I2, turn_zipA (k := k) (l := l) D, ⟨hz, hTI, ⟨_, _, hTO⟩, ?_, ?_⟩, fun c hcm => ?_, q⟩
      · cases k with
        | true => exact ⟨_, h1, rfl, rfl⟩
        | false => exact ⟨_, h1, rfl, rfl⟩
      · cases l with
        | true => exact ⟨_, h2, rfl, rfl⟩
        | false => exact ⟨_, h2, rfl, rfl⟩
      · have hle : s1.heap.objs.size ≤ c := by
          have e' : c = s1.heap.objs.size + 4 ∨ c = s1.heap.objs.size + 2 ∨ c = s1.heap.objs.size + 3 ∨ c = s1.heap.objs.size ∨ c = s1.heap.objs.size + 1 := by simpa using hcm
          rcases e' with z | z | z | z | z
          · rw [z]; exact Nat.le_add_right _ _
          · rw [z]; exact Nat.le_add_right _ _
          · rw [z]; exact Nat.le_add_right _ _
          · rw [z]; exact Nat.le_refl _
          · rw [z]; exact Nat.le_add_right _ _
        exact I1.fpOk hle (I1.hok.fresh hle)
end WZ
set_option maxHeartbeats 4000000
/-! An instance of one's own class is called: x(e, ..), where x is a local name. -/
namespace WC
open PySem PySem.Spec PyProof.Rows L2
theorem keeper_inst {M : Model} {h : Heap} {x : Addr} {o : Obj} (ho : h.get? x = some o) (hd : o.data = .plain) : PySem.W.Looks M h (keeperOf (.ref x)) .caller := by
  refine PySem.W.Looks.andThen (PySem.W.Looks.ld (part := none) ho) ?_
  rw [hd]
  exact PySem.W.Looks.now
theorem callWith_inst {M : Model} {A : Around} {E : Value → Shared → Prop} {s : Shared} {env : Env} {pos : Pos} {x : Addr} {o : Obj} {e : Expr} {es : List Expr} {Q : Value → Shared → Prop} (hd : o.data = .plain)
    (h : wpAny M A (spliced (backTo pos (starEach (e :: es) env))) (fun us s1 => s1.heap.get? x = some o ∧ wpAny M A (call (.ref x) us) Q E s1) E s)
    (he : starEach (e :: es) env = (false, eval e env) :: starEach es env) (hpl : (backTo pos (starEach es env)).any (·.1) = false) :
    wpAny M A (callWith pos (.ref x) [] (backTo pos (starEach (e :: es) env)) []) Q E s := by
  rw [he] at h ⊢
  have hs : ((backTo pos ((false, eval e env) :: starEach es env)).any (·.1) || ([] : List (Option Str × Sem Value)).any (·.1.isNone)) = false := by
    show ((false || (backTo pos (starEach es env)).any (·.1)) || false) = false
    rw [hpl]
    rfl
  unfold callWith
  refine wpAny_bind (wpAny_holding (wpAny_mono (PySem.Calls.evalArgs_plain (Q := fun a s1 => s1.heap.get? x = some o ∧ a.kw = [] ∧ wpAny M A (call (.ref x) a.pos) Q E s1) (wpAny_mono h (fun us s1 z => ⟨z.1, rfl, z.2⟩) fun _ _ y => y)) (fun a s1 z => ?_) fun _ _ y => y))
  obtain ⟨z1, z2, z3⟩ := z
  obtain ⟨ap, ak⟩ := a
  dsimp only at z2 z3
  subst z2
  refine wpAny_bind (wpAny_standAt ?_)
  dsimp only
  simp only [hs]
  refine wpAny_bind ((keeper_inst z1 hd).here ?_)
  refine wpAny_bind (wpAny_mono (wpAny_operateT (m := call (.ref x) ([] ++ ap)) z3) (fun r s2 hr => wpAny_bind (wpAny_holding (wpAny_point (wpAny_pure hr)))) fun _ _ y => y)
/-- what a class must have that its instances may be called -/
structure Cl (K : PySem.W.Frag) (C f : Addr) : Prop where
  at_ : PySem.W.findIn K (.ref C) "__call__" = some (some (.ref f))
  fn : PySem.W.isFn K (.ref f) = true
  fi : PySem.W.fnIn K f = true
/-- the i-th slot holds an instance of the class at C -/
def tCallI (i : Nat) (C : Addr) (sp : Sp) (E : XK) (t : TA) : TE := fun σ H Q => ∃ a dx fs, σ[i]? = some (some (.ref a)) ∧ H a = some (.ins C dx fs) ∧ t σ H fun vs H1 => H1 a = some (.ins C dx fs) ∧ sp (.ref a :: vs) H1 Q E
theorem pe_callI {X : Cx} {CX : CXT} {k i : Nat} {f C : Addr} {fd : FuncData} {ps : List Str} {sp : Sp} {E : XK} {x : Str} {p pos : Pos} {e : Expr} {es : List Expr} {t : TA}
    (F : FnOk X.prog X.w X.K X.mg X.base CX k f fd ps sp) (L : Cl X.K C f) (hr : Room k X.A) (hN : X.N[i]? = some x) (hv : Vis X.env.scope x) (hb : Binds X.K fd ps []) (hx : Passes CX X E) (ha : PA X (e :: es) t)
    (hdb : (x == ("__debug__" : Str)) = false := by decide) (hcd : (x == ("__classdict__" : Str)) = false := by decide)
    (he : starEach (e :: es) X.env = (false, eval e X.env) :: starEach es X.env := by rfl) (hpl : (backTo pos (starEach es X.env)).any (·.1) = false := by rfl) :
    PE X (.Call (.Name x p) (e :: es) [] pos) (tCallI i C sp E t) := by
  refine ⟨fun pins s σ H Q I h => ?_⟩
  obtain ⟨a, dx, fs, hs, hi, ht⟩ := h
  refine wpAny_Call_Name_kw (thn ((pe_var (pos := p) hN hv hdb hcd).run pins s σ H (fun v H1 => v = .ref a ∧ H1 = H) I ⟨.ref a, hs, rfl, rfl⟩) fun u s1 ⟨v, H1, I1, r1, q1⟩ => ?_)
  obtain ⟨rfl, rfl⟩ := q1
  cases r1
  refine callWith_inst (o := PySem.W.instObj C dx) rfl (thn (ha.run pos pins s1 σ _ _ I1 ht) fun us s2 ⟨vs, H2, I2, r, q⟩ => ?_) he hpl
  obtain ⟨q1, q2⟩ := q
  obtain ⟨mA, O, _⟩ := ins_get I2.hok q1
  obtain ⟨od, J, _⟩ := O.look
  refine ⟨O.obj, ?_⟩
  have r3 : Vals (.ref a :: vs) (.ref a :: us) := .cons rfl r
  have hl : ((.ref a :: us) ++ ([] : List Value)).length = ps.length := by rw [List.append_nil, ← r3.length]; exact F.len _ _ _ _ q2
  have run := F.run X.A X.stack s2 H2 ⟨.ref a :: us, []⟩ (.ref a :: us) (.ref a :: vs) Q E hr I2.env0 (by have := hb s2 (.ref a :: us) I2.kIn hl; rw [List.append_nil] at this; exact this) r3 q2
  refine wpAny_call (codeAny_mono (PySem.W.kco_code (a := ⟨us, []⟩) I2.kIn J rfl L.at_ L.fn L.fi run) fun r s' hq => ?_)
  cases r with
  | error e => exact hx pins σ H2 s2 e s' I2 hq
  | ok fl =>
    cases fl with
    | ret u => exact I2.after hq
    | next => exact False.elim hq
    | brk => exact False.elim hq
    | cont => exact False.elim hq
/-- a square of a wide int -/
def CSq (i j : Int) : Prop := j = 2 ∧ i.natAbs < 2 ^ 4000
theorem op_sq {X : Cx} : OpR X (binaryOp .Pow) (rI CSq fun i j => .int (i ^ j.toNat)) := opI fun i j _ _ _ _ _ hc q => by
  have hb := PyProof.Rows.intBits_le hc.2
  exact PyProof.Rows.pow_int (by rw [hc.1]; decide) (by rw [hc.1]; omega) q
end WC
/-! A rule for «match e: case 'a': .. case _: ..» over a text. -/
namespace L2
open PySem PySem.Spec PyProof.Rows
/-- the cases of a match, of a value -/
structure PM (X : Cx) (cs : List MatchCase) (t : V → TS) : Prop where
  run : ∀ (pins : List (Addr × Obj)) (s : Shared) (σ : St) (H : Hp) (D : Ends) (v : V) (u : Value) (first : Bool), Inv X pins σ H s → RelV v u → t v D σ H → wpAny (model X.prog X.w) X.A (matchCases cs X.env u first) (SP X pins D) X.xe s
section
variable {X : Cx}
def tMNil : V → TS := fun _ D σ H => D.nx σ H
def tMStr (x : Str) (tb : TS) (tr : V → TS) : V → TS := fun v D σ H => ∃ y, v = .str y ∧ if decide (y = x) = true then tb D σ H else tr (.str y) D σ H
def tMAny (tb : TS) : V → TS := fun _ D σ H => tb D σ H
theorem pm_nil : PM X [] tMNil := ⟨fun pins s σ H D v u first I r h => wpAny_matchCases_nil ⟨σ, H, I, h⟩⟩
theorem pm_str {x : Str} {j p1 p2} {body : List Stmt} {rest : List MatchCase} {tb : TS} {tr : V → TS} (hb : PSs X body tb) (hr : PM X rest tr) :
    PM X (⟨.MatchValue (.Constant (.str x) j p1) p2, none, body⟩ :: rest) (tMStr x tb tr) := by
  refine ⟨fun pins s σ H D v u first I r h => ?_⟩
  obtain ⟨y, rfl, q⟩ := h
  obtain ⟨t, rfl⟩ := r
  refine wpAny_matchCases_cons (wpAny_matchPattern_Value (Calls.Constant_str ?_))
  refine eq_str ?_
  refine wpAny_truthy_bool ?_
  by_cases e : y = x
  · have e1 : (y == x) = true := by rw [e]; exact beq_self_eq_true x
    rw [if_pos (decide_eq_true e)] at q
    first
      | rw [e1]
      | (rw [decide_eq_true e])
    show wpAny _ X.A (assignInOrder [] []) _ _ _
    exact wpAny_assignInOrder_none (hb.run pins _ σ H D (I.tok _) q)
  · have e1 : (y == x) = false := beq_eq_false_iff_ne.mpr e
    rw [if_neg (by rw [decide_eq_false e]; exact Bool.false_ne_true)] at q
    first
      | rw [e1]
      | (rw [decide_eq_false e])
    exact hr.run pins _ σ H D (.str y) _ false (I.tok _) ⟨t, rfl⟩ q
theorem pm_any {p2} {body : List Stmt} {tb : TS} (hb : PSs X body tb) : PM X [⟨.MatchAs none none p2, none, body⟩] (tMAny tb) := by
  refine ⟨fun pins s σ H D v u first I r h => ?_⟩
  refine wpAny_matchCases_cons (wpAny_matchPattern_Capture ?_)
  show wpAny _ X.A (assignInOrder [] []) _ _ _
  exact wpAny_assignInOrder_none (hb.run pins _ σ H D I h)
def tMatch (te : TE) (t : V → TS) : TS := fun D σ H => te σ H fun v H1 => t v D σ H1
theorem ps_match {e : Expr} {cs : List MatchCase} {pos : Pos} {te : TE} {t : V → TS} (he : PE X e te) (hc : PM X cs t) : PS X (.Match e cs pos) (tMatch te t) := by
  refine ⟨fun pins s σ H D I h => ?_⟩
  refine wpAny_Match (thn (he.run pins s σ H _ I h) fun u s1 ⟨v, H1, I1, r1, q1⟩ => ?_)
  exact hc.run pins s1 σ H1 D v u true I1 r1 q1
/-! the rules that speak of the written part, with K said outright: for a comprehension's block, where the context is bound -/
section
variable {X : Cx}
theorem ix_tupK {K : PySem.W.Frag} (h : X.K = K) : IxR X (rIxT K) := by subst h; exact ix_tup
theorem ix_listK {K : PySem.W.Frag} (h : X.K = K) : IxR X (rIxL K) := by subst h; exact ix_list
theorem sl_listK {K : PySem.W.Frag} (h : X.K = K) : SlR X (rSlL K) := by subst h; exact sl_list
theorem sl_tupK {K : PySem.W.Frag} (h : X.K = K) : SlR X (rSlT K) := by subst h; exact sl_tup
theorem op_in_seqK {K : PySem.W.Frag} (h : X.K = K) : OpR X (compareOp .In) (rIn K false) := by subst h; exact op_in_seq
theorem op_notIn_seqK {K : PySem.W.Frag} (h : X.K = K) : OpR X (compareOp .NotIn) (rIn K true) := by subst h; exact op_notIn_seq
theorem call_len_seqK {K : PySem.W.Frag} (h : X.K = K) : CallR X (.builtin "len") (fun xs H Q => ∃ p ys, xs = [.ref p] ∧ (SqL K H p ys ∨ SqT K H p ys) ∧ Q (.int ys.length) H) := by subst h; exact call_len_seq
theorem call_isiK1 {K : PySem.W.Frag} (h : X.K = K) : CallR X (.builtin "isinstance") (rIsi K) := by subst h; exact call_isi
theorem cr_allK {K : PySem.W.Frag} (h : X.K = K) (hc : X.calm = true) : CallR X (.builtin "all") (rAll K) := by subst h; exact cr_all hc
theorem cr_anyK {K : PySem.W.Frag} (h : X.K = K) (hc : X.calm = true) : CallR X (.builtin "any") (rAny K) := by subst h; exact cr_any hc
theorem cr_sumK {K : PySem.W.Frag} (h : X.K = K) (hc : X.calm = true) : CallR X (.builtin "sum") (rSum K) := by subst h; exact cr_sum hc
end
end
end L2
/-! Rules for «one or the other», max of three ints, the written part's letter said outright. -/
namespace L2
open PySem PySem.Spec PyProof.Rows
section
variable {X : Cx}
theorem pi_or {tg iter : Expr} {w1 w2 : TI} (h1 : PI X tg iter w1) (h2 : PI X tg iter w2) : PI X tg iter (fun σ H R => w1 σ H R ∨ w2 σ H R) :=
  ⟨fun pins s σ H R I h => h.elim (h1.run pins s σ H R I) (h2.run pins s σ H R I)⟩
theorem pg_or {tg : Expr} {g1 g2 : TG} (h1 : PG X tg g1) (h2 : PG X tg g2) : PG X tg (fun v σ H Q => g1 v σ H Q ∨ g2 v σ H Q) :=
  ⟨fun pins s σ H v u Q I r h => h.elim (h1.run pins s σ H v u Q I r) (h2.run pins s σ H v u Q I r)⟩
theorem ix_or : IxR X (fun x y H Q => rIxL X.K x y H Q ∨ rIxT X.K x y H Q) := ix_list.or ix_tup
theorem ix_orK {K : PySem.W.Frag} (h : X.K = K) : IxR X (fun x y H Q => rIxL K x y H Q ∨ rIxT K x y H Q) := by subst h; exact ix_or
theorem call_max3I (hc : X.calm = true) : CallR X (.builtin "max") (fun xs H Q => ∃ i j k : Int, xs = [.int i, .int j, .int k] ∧ Q (.int (if k > (if j > i then j else i) then k else (if j > i then j else i))) H) := by
  intro pins s σ H xs us Q I r h
  obtain ⟨i, j, k, rfl, q⟩ := h
  have e : nuMax3 (.int i) (.int j) (.int k) = some (.int (if k > (if j > i then j else i) then k else (if j > i then j else i))) := by
    have two : ∀ a b : Int, nuMax2 (.int a) (.int b) = some (.int (if b > a then b else a)) := fun a b => by
      show some (if decide (a < b) = true then V.int b else V.int a) = _
      by_cases h : b > a
      · rw [if_pos (decide_eq_true (show a < b from h)), if_pos h]
      · rw [if_neg (by rw [decide_eq_false (show ¬ a < b from h)]; exact Bool.false_ne_true), if_neg h]
    unfold nuMax3
    rw [two i j]
    exact two _ k
  exact call_max3Nu hc pins s σ H _ us Q I r ⟨_, _, _, _, rfl, e, q⟩
theorem call_list_ofK {K : PySem.W.Frag} (h : X.K = K) : CallR X (.type "list") (fun xs H Q => ∃ p ys, xs = [.ref p] ∧ (SqL K H p ys ∨ SqT K H p ys) ∧ ∀ l, H l = none → Q (.ref l) (upd H l (.lst ys))) := by subst h; exact call_list_of
theorem call_tuple_ofK {K : PySem.W.Frag} (h : X.K = K) : CallR X (.type "tuple") (fun xs H Q => ∃ p ys, xs = [.ref p] ∧ ((SqL K H p ys ∧ ∀ l, H l = none → Q (.ref l) (upd H l (.tup ys))) ∨ (SqT K H p ys ∧ Q (.ref p) H))) := by subst h; exact call_tuple_of
theorem pg_tupK {K : PySem.W.Frag} {es : List Expr} {k : Nat} {t : TGs} {n : Nat} {pos : Pos} (hK : X.K = K) (hc : X.calm = true) (h : PGs X es t)
    (hn : (assignEach es X.env).length = n := by rfl) (hst : (assignEach es X.env).findIdx? (·.1) = none := by rfl) : PG X (.Tuple es k pos) (gTup K n t) := by subst hK; exact pg_tup hc h hn hst
theorem pg_lstK {K : PySem.W.Frag} {es : List Expr} {k : Nat} {t : TGs} {n : Nat} {pos : Pos} (hK : X.K = K) (hc : X.calm = true) (h : PGs X es t)
    (hn : (assignEach es X.env).length = n := by rfl) (hst : (assignEach es X.env).findIdx? (·.1) = none := by rfl) : PG X (.Tuple es k pos) (gLst K n t) := by subst hK; exact pg_lst hc h hn hst
end
section
variable {X : Cx}
/-- y = {..}, a dict comprehension stored in its own statement -/
theorem ps_setDc {i : Nat} {y : Str} {py : Pos} {kx vx tg iter : Expr} {ifs : List Expr} {scope : Scope} {own : List (Str × Nat)} {pos spos : Pos} {wi : TI} {g : TG} {tt : TT} {tk tv : TE} (hc : X.calm = true) (hN : X.N.Nodup) (hy : X.N[i]? = some y) (hyl : X.env.scope.names.lookup y = some .local)
    (hsw : swapsWith (.DictComp kx vx [⟨tg, iter, ifs, 0⟩] scope pos) (some (.Name y py)) spos.line X.env = pure true) (hi : PI X tg iter wi) (ok : BlkOk X.N X.env.scope scope own)
    (hg : ∀ (s : Shared) (H : Hp) (C : Addr) (cl : List (Str × Addr)) (fp : List Addr), PG (X.blk s H scope (compEnvC scope cl C X.env) fp) tg g) (ht : ∀ (s : Shared) (H : Hp) (C : Addr) (cl : List (Str × Addr)) (fp : List Addr), PTs (X.blk s H scope (compEnvC scope cl C X.env) fp) ifs tt)
    (hk : ∀ (s : Shared) (H : Hp) (C : Addr) (cl : List (Str × Addr)) (fp : List Addr), PE (X.blk s H scope (compEnvC scope cl C X.env) fp) kx tk)
    (he : ∀ (s : Shared) (H : Hp) (C : Addr) (cl : List (Str × Addr)) (fp : List Addr), PE (X.blk s H scope (compEnvC scope cl C X.env) fp) vx tv) (hs : ∀ x, foldedSetIterable iter X.env x = pure x := by intro _; rfl) :
    PS X (.Assign [.Name y py] (.DictComp kx vx [⟨tg, iter, ifs, 0⟩] scope pos) spos) (tAsg (tDc wi g tt tk tv (own.map (·.2))) (gName i)) := by
  refine ⟨fun pins s σ H D I h => ?_⟩
  rw [exec_Assign_Name_used _ _ _ _ hsw]
  refine wpAny_bind (wpAny_standAt (wpAny_bind ?_))
  show wpAny _ X.A (do let _ ← comprehension (.DictComp kx vx [⟨tg, iter, ifs, 0⟩] scope pos) scope X.env (firstIterPos [⟨tg, iter, ifs, 0⟩] pos) newDict false (eval iter X.env) (some (assign (.Name y py) X.env))) _ _ s
  have h : tDc wi g tt tk tv (own.map (·.2)) σ H (fun x H1 => gName i x σ H1 D.nx) := h
  refine wpAny_bind (thn (dc_core (Qf := fun _ s' => SP X pins D .next s') hc hN I hi ok hg ht hk he hs h fun L C s' m H' I' q hn f => ?_) fun _ s' hq => wpAny_pure (wpAny_pure hq))
  show wpAny _ _ (assign (.Name y py) X.env (.ref L)) _ _ _
  refine wpAny_assign_Name (store_ok2 (v := V.ref L) I' hN hy (.inl hyl) rfl (fun s2 I2 hex => ?_) (.inr hyl))
  obtain ⟨a, sb, ha⟩ := hex
  obtain ⟨f0, f1, f2, f3, f4, f5⟩ := f
  have haC : C ≠ a := ha.elim (fun z => by rw [z]; exact f1) fun z e => f4 y a z e.symm
  exact ⟨m, hn.sameBut sb haC, fun h3 sb3 => ⟨_, H', I2.turned (t' := s2.toks) (fun b o hb e => (sb3.2 b hb).trans e) f0 f1 f3 f4 f5, q⟩⟩
theorem sw_trueD {kx vx : Expr} {gs : List Comprehension} {scope : Scope} {pos py : Pos} {y : Str} {l : Nat} {env : Env} (hk : env.scope.kind = .function) (hy : env.scope.names.lookup y = some .local) (hl : (py.line == pos.line) = true)
    (ha : (scope.names.any fun (n, k) => n == y && (k == .local || k == .cell)) = false) : swapsWith (.DictComp kx vx gs scope pos) (some (.Name y py)) l env = pure true := by
  have ky : env.kindOf y = some .local := hy
  have hb : env.blockKind = .function := by
    unfold Env.blockKind
    rw [hk]
    rfl
  unfold swapsWith
  simp only [hb, ky, ha, Expr.pos, hl]
  rfl
end
/-- a dict comprehension over a list that stays -/
theorem dc_list {K : PySem.W.Frag} {a : Addr} {xs : List V} {g : TG} {tt : TT} {tk tv : TE} {vs : List Nat} {σ : St} {H1 : Hp} {D : Addr} {Qd : Hp → Prop} (Pv : Nat → Hp → Prop) (h0 : Pv 0 (upd H1 D (.dK []))) (hl : ∀ i H, i ≤ xs.length → Pv i H → SqL K H a xs)
    (hs : ∀ i x H, xs[i]? = some x → Pv i H → g x (wipe σ vs) H fun σ2 H2 => wipe σ2 vs = wipe σ vs ∧ tt σ2 H2 fun b H3 =>
      if b = true then tk σ2 H3 fun y H4 => tv σ2 H4 fun z H5 => ∃ kvs k, y = kV k ∧ H5 D = some (.dK kvs) ∧ kvs.length < sizeLine ∧ Pv (i + 1) (upd H5 D (.dK (putK kvs k z))) else Pv (i + 1) H3) (hd : ∀ H, Pv xs.length H → Qd H) :
    ∃ W : Nat → Nat → Hp → Prop, (∃ m, W 0 m (upd H1 D (.dK []))) ∧ ∀ i m H, W i m H →
      ((Itl K a).stop i H ∧ Qd H) ∨ ((Itl K a).go i H ∧ ∃ Nx : Hp → Prop, (∀ H', Nx H' → ∃ m', m' < m ∧ W (i + 1) m' H') ∧ ∀ x H', (Itl K a).yld i H x H' → g x (wipe σ vs) H' fun σ2 H2 => wipe σ2 vs = wipe σ vs ∧ tt σ2 H2 fun b H3 =>
        if b = true then tk σ2 H3 fun y H4 => tv σ2 H4 fun z H5 => ∃ kvs k, y = kV k ∧ H5 D = some (.dK kvs) ∧ kvs.length < sizeLine ∧ Nx (upd H5 D (.dK (putK kvs k z))) else Nx H3) := by
  refine ⟨fun i m H => m = xs.length - i ∧ i ≤ xs.length ∧ Pv i H, ⟨xs.length, by simp, Nat.zero_le _, h0⟩, ?_⟩
  rintro i m H ⟨rfl, hi, p⟩
  have q := hl i H hi p
  rcases Nat.lt_or_ge i xs.length with hlt | hge
  · refine .inr ⟨⟨xs, xs[i], q, by simp [hlt]⟩, Pv (i + 1), fun H' p' => ⟨xs.length - (i + 1), by omega, rfl, hlt, p'⟩, ?_⟩
    rintro x H' ⟨rfl, y⟩
    exact hs i x _ (y xs q) p
  · obtain rfl : i = xs.length := Nat.le_antisymm hi hge
    exact .inl ⟨⟨xs, q, Nat.le_refl _⟩, hd H p⟩
/-- a dict comprehension over the list or the tuple in slot i, which stays -/
theorem tDc_or {K : PySem.W.Frag} {a : Addr} {xs : List V} {i : Nat} {g : TG} {tt : TT} {tk tv : TE} {vs : List Nat} {σ : St} {H : Hp} {Q : VK} (hi : σ[i]? = some (some (V.ref a))) (hx : H a = some (.lst xs) ∨ H a = some (.tup xs)) (Pv : Addr → Nat → Hp → Prop)
    (h0 : ∀ D, H D = none → Pv D 0 (upd H D (.dK []))) (hl : ∀ D, H D = none → ∀ j H', Pv D j H' → ∀ u, H a = some u → H' a = some u)
    (hs : ∀ D, H D = none → ∀ j x H', xs[j]? = some x → Pv D j H' → g x (wipe σ vs) H' fun σ2 H2 => wipe σ2 vs = wipe σ vs ∧ tt σ2 H2 fun b H3 =>
      if b = true then tk σ2 H3 fun y H4 => tv σ2 H4 fun z H5 => ∃ kvs k, y = kV k ∧ H5 D = some (.dK kvs) ∧ kvs.length < sizeLine ∧ Pv D (j + 1) (upd H5 D (.dK (putK kvs k z))) else Pv D (j + 1) H3)
    (hd : ∀ D, H D = none → ∀ H', Pv D xs.length H' → Q (.ref D) H') : tDc (fun σ H R => iList K (tVar i) σ H R ∨ iTup K (tVar i) σ H R) g tt tk tv vs σ H Q := by
  rcases hx with hx | hx
  · exact .inl ⟨_, hi, a, rfl, ⟨_, SqL.of hx⟩, fun D hD => dc_list (K := K) (a := a) (xs := xs) (Pv D) (h0 D hD) (fun j H' _ p => SqL.of (hl D hD j H' p _ hx)) (hs D hD) (hd D hD)⟩
  · exact .inr ⟨_, hi, a, rfl, ⟨_, SqT.of hx⟩, fun D hD => dc_tup (K := K) (a := a) (xs := xs) (Pv D) (h0 D hD) (fun j H' _ p => SqT.of (hl D hD j H' p _ hx)) (hs D hD) (hd D hD)⟩
/-- a loop over the list or the tuple in slot i, which stays -/
theorem tFor_or {K : PySem.W.Frag} {a : Addr} {xs : List V} {i : Nat} {g : TG} {tb : TS} {D : Ends} {σ : St} {H : Hp} (hi : σ[i]? = some (some (V.ref a))) (hx : H a = some (.lst xs) ∨ H a = some (.tup xs)) (Pv : Nat → St → Hp → Prop)
    (h0 : Pv 0 σ H) (hl : ∀ j σ' H', Pv j σ' H' → ∀ u, H a = some u → H' a = some u)
    (hs : ∀ j x σ' H', xs[j]? = some x → Pv j σ' H' → g x σ' H' fun σ2 H2 => tb { D with nx := Pv (j + 1), ct := Pv (j + 1), bk := D.nx } σ2 H2)
    (hd : ∀ σ' H', Pv xs.length σ' H' → D.nx σ' H') : tFor (fun σ H R => iList K (tVar i) σ H R ∨ iTup K (tVar i) σ H R) g tb D σ H := by
  rcases hx with hx | hx
  · exact .inl ⟨_, hi, a, rfl, ⟨_, SqL.of hx⟩, for_list (K := K) (a := a) (xs := xs) Pv h0 (fun j σ' H' _ p => SqL.of (hl j σ' H' p _ hx)) hs hd⟩
  · exact .inr ⟨_, hi, a, rfl, ⟨_, SqT.of hx⟩, for_tup (K := K) (a := a) (xs := xs) Pv h0 (fun j σ' H' _ p => SqT.of (hl j σ' H' p _ hx)) hs hd⟩
/-- a comprehension over the list or the tuple in slot i, which stays -/
theorem tLc_or {K : PySem.W.Frag} {a : Addr} {xs : List V} {i : Nat} {g : TG} {tt : TT} {te : TE} {vs : List Nat} {σ : St} {H : Hp} {Q : VK} (hi : σ[i]? = some (some (V.ref a))) (hx : H a = some (.lst xs) ∨ H a = some (.tup xs)) (Pv : Addr → Nat → Hp → Prop)
    (h0 : ∀ D, H D = none → Pv D 0 (upd H D (.lst []))) (hl : ∀ D, H D = none → ∀ j H', Pv D j H' → ∀ u, H a = some u → H' a = some u)
    (hs : ∀ D, H D = none → ∀ j x H', xs[j]? = some x → Pv D j H' → g x (wipe σ vs) H' fun σ2 H2 => wipe σ2 vs = wipe σ vs ∧ tt σ2 H2 fun b H3 =>
      if b = true then te σ2 H3 fun y H4 => ∃ acc, H4 D = some (.lst acc) ∧ acc.length < sizeLine ∧ Pv D (j + 1) (upd H4 D (.lst (acc ++ [y]))) else Pv D (j + 1) H3)
    (hd : ∀ D, H D = none → ∀ H', Pv D xs.length H' → Q (.ref D) H') : tLc (fun σ H R => iList K (tVar i) σ H R ∨ iTup K (tVar i) σ H R) g tt te vs σ H Q := by
  rcases hx with hx | hx
  · exact .inl ⟨_, hi, a, rfl, ⟨_, SqL.of hx⟩, fun D hD => lc_list (K := K) (a := a) (xs := xs) (Pv D) (h0 D hD) (fun j H' _ p => SqL.of (hl D hD j H' p _ hx)) (hs D hD) (hd D hD)⟩
  · exact .inr ⟨_, hi, a, rfl, ⟨_, SqT.of hx⟩, fun D hD => lc_tup (K := K) (a := a) (xs := xs) (Pv D) (h0 D hD) (fun j H' _ p => SqT.of (hl D hD j H' p _ hx)) (hs D hD) (hd D hD)⟩
end L2
/-! Own errors: made, raised, caught, asked of; defs that raise; defs that are called in a suite. All over the errors whose context is None. -/
namespace EX
open PySem PySem.Spec PyProof.Rows L2
/-- a def that may raise, by its body -/
theorem okR {P : Program} {w : World} {K : PySem.W.Frag} {mg : Str → Option Value} {base : Heap} {x qual : Str} {st : Stmt} {f : Addr} {fd : FuncData} {N ps : List Str} {k : Nat} {sp : Sp} (F : Fun K x qual st f fd) (S : FnScope N ps (defScope st))
    (len : ∀ vs H Q E, sp vs H Q E → vs.length = ps.length)
    (body : ∀ (cdv : Value) (A : Around) (outer : List Env) (s : Shared) (H : Hp) (vs : List V) (Q : VK) (E : XK), Room k (A.deeper (envOfC qual (defScope st) s.heap.objs.size f cdv)) → sp vs H Q E →
      ∃ t, PSs (cxOf (L2N.CX P w) P w K mg base N qual (defScope st) f cdv A outer s H E) (defBody st) t ∧ t { nx := fun _ H' => Q .non H', rt := Q } (start N vs) H) :
    FnOk P w K mg base (L2N.CX P w) (k + 1) f fd ps sp := by
  obtain ⟨oc, od, kV, doc, pm, an, cdv, ct, osl, rfl, lk, hcd⟩ := F.ex
  exact fn_of lk hcd S len fun A outer s H vs Q E hr hsp => body cdv A outer s H vs Q E hr hsp
/-- a def that does not raise, called while an error is handled, by its body -/
theorem okH {P : Program} {w : World} {K : PySem.W.Frag} {mg : Str → Option Value} {base : Heap} {x qual : Str} {st : Stmt} {f : Addr} {fd : FuncData} {N ps : List Str} {k : Nat} {sp : Sp} (F : Fun K x qual st f fd) (S : FnScope N ps (defScope st))
    (len : ∀ vs H Q E, sp vs H Q E → vs.length = ps.length)
    (body : ∀ (cdv : Value) (A : Around) (outer : List Env) (s : Shared) (H : Hp) (vs : List V) (Q : VK) (E : XK) (p : Addr × Obj), L2H.RoomH k (A.deeper (envOfC qual (defScope st) s.heap.objs.size f cdv)) → L2H.Hot1 A p → sp vs H Q E →
      ∃ t, PSs (L2H.cxH CX0 P w K mg base N qual (defScope st) f cdv A outer s H E p).nox (defBody st) t ∧ t { nx := fun _ H' => Q .non H', rt := Q } (start N vs) H) :
    L2H.FnH P w K mg base CX0 (k + 1) f fd ps sp := by
  obtain ⟨oc, od, kV, doc, pm, an, cdv, ct, osl, rfl, lk, hcd⟩ := F.ex
  refine L2H.fn_ofH lk hcd S len fun A outer s H vs Q E p hot hr hsp => ?_
  obtain ⟨t, h, q⟩ := body cdv A outer s H vs Q E p hr hot hsp
  exact ⟨t, h.nox, q⟩
/-- defs as their callers see them: one that may raise; one that is called in a suite -/
def CalX (P : Program) (w : World) (K : PySem.W.Frag) (mg : Str → Option Value) (base : Heap) (k : Nat) (x : Str) (ps : List Str) (sp : Sp) : Prop :=
  ∃ (f : Addr) (fd : FuncData), FnOk P w K mg base (L2N.CX P w) k f fd ps sp ∧ mg x = some (.ref f) ∧ PySem.W.keepIn K (.ref f) = true ∧ Binds K fd ps []
def CalH (P : Program) (w : World) (K : PySem.W.Frag) (mg : Str → Option Value) (base : Heap) (k : Nat) (x : Str) (ps : List Str) (sp : Sp) : Prop :=
  ∃ (f : Addr) (fd : FuncData), L2H.FnH P w K mg base CX0 k f fd ps sp ∧ mg x = some (.ref f) ∧ PySem.W.keepIn K (.ref f) = true ∧ Binds K fd ps []
section
variable {X : Cx} {k : Nat} {x : Str} {ps : List Str} {sp : Sp} {p pos : Pos} {e : Expr} {es : List Expr} {t : TA} {W : WX}
/-- f(..) that may raise; W: what is wished of what is raised -/
theorem pe_calX (C : CalX X.prog X.w X.K X.mg X.base k x ps sp) (hr : Room k X.A) (hg : Gl X x) (tk : L2N.Takes X W) (ha : PA X (e :: es) t)
    (hdb : (x == ("__debug__" : Str)) = false := by decide) (he : starEach (e :: es) X.env = (false, eval e X.env) :: starEach es X.env := by rfl) (hpl : (backTo pos (starEach es X.env)).any (·.1) = false := by rfl) :
    PE X (.Call (.Name x p) (e :: es) [] pos) (tCallS sp (WE W) t) := by
  obtain ⟨f, fd, G, m, kp, b⟩ := C
  exact pe_callS G hr hg m kp b (L2N.passAt tk) ha hdb he hpl
theorem passH {X : Cx} {σ : L2.St} : PassesAt CX0 X σ E0 := fun _ _ _ _ _ _ h => h.elim
/-- f(..) in a suite -/
theorem pe_calH (C : CalH X.prog X.w X.K X.mg X.base k x ps sp) (hr : L2H.RoomH k X.A) (hc : L2H.HotC X) (hg : Gl X x) (ha : PA X (e :: es) t)
    (hdb : (x == ("__debug__" : Str)) = false := by decide) (he : starEach (e :: es) X.env = (false, eval e X.env) :: starEach es X.env := by rfl) (hpl : (backTo pos (starEach es X.env)).any (·.1) = false := by rfl) :
    PE X (.Call (.Name x p) (e :: es) [] pos) (tCallS sp (fun _ => E0) t) := by
  obtain ⟨f, fd, G, m, kp, b⟩ := C
  exact L2H.pe_callH G hr hc hg m kp b (fun _ => passH) ha hdb he hpl
/-- the suite of an error whose context is None bears it -/
theorem hot_of {X : Cx} {a : Addr} {oe : Obj} {cls : Value} {d : Option Addr} {pn : List (Addr × Obj)} (hz : L2N.Zn cls d oe) (hf : ∃ vs, oe.data = .fields vs) : L2H.HotC (X.suite a ((a, oe) :: pn)) := by
  obtain ⟨vs, e⟩ := hf
  exact ⟨(a, oe), ⟨rfl, vs, e, hz.2.2 vs e⟩, List.mem_cons_self⟩
theorem roomS {X : Cx} {k : Nat} {a : Addr} {pn : List (Addr × Obj)} (hr : Room k X.A) : L2H.RoomH k (X.suite a pn).A := ⟨hr.dp, hr.un⟩
/-- nothing is let out -/
theorem takesN {X : Cx} : L2N.Takes X (fun _ _ _ _ => False) := fun _ _ h => by
  obtain ⟨_, _, _, _, _, _, _, _, _, _, _, _, _, _, _, _, z⟩ := h
  exact z.elim
theorem passN {X : Cx} {E : XK} : Passes CX0 X E := fun _ _ _ _ _ _ _ h => h.elim
end
/-! ### making -/
section
variable {X : Cx} {C : Addr} {bmB : List Value} {B newId initId : String}
/-- X(), an own class without an __init__ -/
theorem pmk0 {x : Str} {p pos : Pos} (F : ExcBaseFacts B newId initId bmB) (q : PySem.W.excIn X.K C bmB newId = true) (gC : X.mg x = some (.ref C)) (kC : PySem.W.keepIn X.K (.ref C) = true) (r : Raises X (.ref C)) (hg : Gl X x)
    (hdb : (x == ("__debug__" : Str)) = false := by decide) : L2N.PMk X (.Call (.Name x p) [] [] pos) (fun _ H Q => Q (.ref C) none H) := by
  intro pins s σ H Q I h
  refine wpAny_Call_Name_kw (ld_glob I hg gC (PySem.W.callWith_K0 I.kIn kC ?_) hdb)
  obtain ⟨bm, N, nm, qn, bs, hdct, sn, sub, ab, col, dd, k0, k1, k2, k3, k5, mN, hC, hN, hni, T⟩ := exc_obj I.kIn q
  exact wpAny_call_exc_subT F T hC hN hni (fun h' e hm => L2N.mk_of I hm r h (I.hok.gone hm.new)) (Nat.zero_le _)
/-- X(..), an own class with an __init__ -/
theorem pmkI {CX : CXT} {x : Str} {fI : Addr} {k : Nat} {fd : FuncData} {ps : List Str} {sp : Sp} {e : Expr} {es : List Expr} {ta : TA} {p pos : Pos} (T : OexC X.K C) (iC : PySem.W.findIn X.K (.ref C) "__init__" = some (some (.ref fI)))
    (tI : PySem.W.typeIn X.K (.ref fI) = some (.type "function")) (F1 : FnOk X.prog X.w X.K X.mg X.base CX k fI fd ps sp) (hr : Room (k + 1) X.A) (hb : Binds X.K fd ps []) (hx : Passes CX X (fun _ _ _ => False)) (hg : Gl X x) (hm : X.mg x = some (.ref C)) (ha : PA X (e :: es) ta)
    (hdb : (x == ("__debug__" : Str)) = false := by decide) (he : starEach (e :: es) X.env = (false, eval e X.env) :: starEach es X.env := by rfl) (hpl : (backTo pos (starEach es X.env)).any (·.1) = false := by rfl) :
    L2N.PMk X (.Call (.Name x p) (e :: es) [] pos) (tMkO C sp [] ta) := by
  intro pins s σ H Q I h
  obtain ⟨nm, q, N, bs, bm, sn, sub, ab, col, dd, k0, k1, k2, k3, k5, hC, hbm⟩ := T.cls
  refine wpAny_Call_Name_kw (ld_glob I hg hm (PySem.W.callWith_K (h₀ := X.base) I.ok.mod.kin T.kC (thn (ha.run pos pins s σ H _ I h) fun us s1 hh => ?_) he hpl) hdb)
  obtain ⟨vs, H1, I1, r1, hz, q1⟩ := hh
  refine ⟨I1.kIn, ?_⟩
  show wpAny _ _ (call (.ref C) us) _ _ _
  obtain ⟨hp, g, dr, tk, os⟩ := s1
  have fresh := I1.hok.fresh (Nat.le_succ hp.objs.size)
  have hq := q1 (hp.objs.size + 1) fresh
  rw [List.append_nil] at hq
  generalize eh : (hp.push (PySem.W.kdv_tup us)).push (PySem.HandSPX.excO C hp.objs.size) = hn
  have kk : ∀ b o, hp.get? b = some o → hn.get? b = some o := fun b o z => by
    rw [← eh]
    exact Heap.get?_push_of_some _ (Heap.get?_push_of_some _ z)
  have hget : hn.get? (hp.objs.size + 1) = some (PySem.HandSPX.excO C hp.objs.size) := by
    rw [← eh]
    heap_get
  have I2 : Inv X pins σ (upd H1 (hp.objs.size + 1) (exo (hp.objs.size + 1) C none)) ⟨hn, g, dr, tk, os⟩ := I1.laid (t' := tk) kk (Nat.le_succ _) (exo_ok hget)
  have r2 : Vals (V.ref (hp.objs.size + 1) :: vs) (Value.ref (hp.objs.size + 1) :: us) := .cons rfl r1
  have hl : (Value.ref (hp.objs.size + 1) :: us).length = ps.length := r2.length.symm.trans (F1.len _ _ _ _ hq)
  have hb' := hb _ (Value.ref (hp.objs.size + 1) :: us) I2.kIn (by rw [List.append_nil]; exact hl)
  rw [List.append_nil] at hb'
  have hus : us.length ≤ sizeLine := by
    rw [← Vals.length r1]
    exact Nat.le_trans hz (by rw [sizeLine_eq]; decide)
  have run := F1.run _ X.stack _ _ ⟨Value.ref (hp.objs.size + 1) :: us, []⟩ _ _ _ (fun _ _ _ => False) (hr.make C us []) (I2.env0.make C us []) hb' r2 hq
  rw [← eh] at run
  refine wpAny_call (PySem.HandSPX.call_own F.excBase_ValueError (fun Y => PySem.HandSPX.refsVE_contains Y bm hbm) (I1.kIn _ _ hC) (PySem.W.looks_findIn I1.kIn iC) (fun self => PySem.W.bind_fn I1.kIn self tI) hus (codeAny_mono run fun r s' hq' => ?_))
  rw [eh] at hq'
  cases r with
  | error er => exact hx pins σ _ _ er s' I2 hq'
  | ok fl =>
    cases fl with
    | next => exact hq'.elim
    | brk => exact hq'.elim
    | cont => exact hq'.elim
    | ret u =>
      obtain ⟨v, H2, os2, bare2, un2, hok2, rv, ev, d, fs, ea, ed, hd1, q2⟩ := hq'
      subst ev
      obtain ⟨h2, g2, d2, t2, os'⟩ := s'
      obtain ⟨t0, G, J, kG, ge, hoe, na⟩ := mk_end0 (d2 := d2) (t2 := t2) I1 (Nat.le_succ _) kk un2 hok2 os2 bare2 ea ed hd1
      exact ⟨rv, hp.objs.size + 1, _, _, ⟨G, g2, d2, t2, os'⟩, _, .ref C, some d, rfl, J, kG, ge, hoe, ⟨rfl, rfl, fun vs z => by cases z; rfl⟩, rfl, rfl, na, rfl, bare2, raises_own T.exC T.tyC, q2⟩
end
/-! ### asking of a caught error -/
/-- what the class at C must say for its instances to be asked of -/
structure XCls (K : PySem.W.Frag) (C : Addr) : Prop where
  cl : (PySem.W.clsIn K C).isSome = true
  ga : PySem.W.findIn K (.ref C) "__getattribute__" = some (some (.builtin "BaseException.__getattribute__"))
  gg : PySem.W.findIn K (.ref C) "__getattr__" = some none
  su : PySem.W.subIn K (.ref C) (.type "BaseException") = some true
  ca : PySem.W.findIn K (.ref C) "__class__" = some (some (.builtin "object.__class__"))
  cn : PySem.W.specialIn K (.builtin "object.__class__") "__get__" = some (some (.builtin "getset_descriptor.__get__"))
  ct : PySem.W.takesIn K (.builtin "object.__class__") = some true
  cm : PySem.W.mroIn K C (.type "object") = some true
  hd : PySem.W.hasDictIn K C = true
  ty : PySem.W.typeIn K (.ref C) = some (.type "type")
  kp : PySem.W.keepIn K (.ref C) = true
def xclsB (K : PySem.W.Frag) (C : Addr) : Bool :=
  (PySem.W.clsIn K C).isSome && decide (PySem.W.findIn K (.ref C) "__getattribute__" = some (some (.builtin "BaseException.__getattribute__"))) && decide (PySem.W.findIn K (.ref C) "__getattr__" = some none) &&
  decide (PySem.W.subIn K (.ref C) (.type "BaseException") = some true) && decide (PySem.W.findIn K (.ref C) "__class__" = some (some (.builtin "object.__class__"))) &&
  decide (PySem.W.specialIn K (.builtin "object.__class__") "__get__" = some (some (.builtin "getset_descriptor.__get__"))) && decide (PySem.W.takesIn K (.builtin "object.__class__") = some true) &&
  decide (PySem.W.mroIn K C (.type "object") = some true) && PySem.W.hasDictIn K C && decide (PySem.W.typeIn K (.ref C) = some (.type "type")) && PySem.W.keepIn K (.ref C)
theorem xcls_of {K : PySem.W.Frag} {C : Addr} (h : xclsB K C = true) : XCls K C := by
  unfold xclsB at h
  simp only [Bool.and_eq_true, decide_eq_true_eq] at h
  obtain ⟨⟨⟨⟨⟨⟨⟨⟨⟨⟨a, b⟩, c⟩, d⟩, e⟩, f⟩, g⟩, h⟩, i⟩, j⟩, k⟩ := h
  exact ⟨a, b, c, d, e, f, g, h, i, j, k⟩
theorem XCls.xf {K : PySem.W.Frag} {C : Addr} (T : XCls K C) : XfC K C := ⟨T.ga, T.gg, T.su, T.hd⟩
theorem XCls.raises {X : Cx} {C : Addr} (T : XCls X.K C) : Raises X (.ref C) := raises_own T.su T.ty
theorem XCls.kit {K : PySem.W.Frag} {C x : Addr} {ox : Obj} {od : Option Obj} (T : XCls K C) : PySem.W.KitX K (.ref x) (.ref C) (fun h => PySem.W.InstAt h x ox C od) := PySem.W.kitx_exc T.cl T.ga T.gg T.su T.ca T.cn T.ct T.cm
/-- the class at C beside the class at D, as isinstance and except see them: b tells whether C is D or stands below it -/
structure Below (K : PySem.W.Frag) (C D : Addr) (b : Bool) : Prop where
  one : PySem.W.kitOne K (.ref C) (.ref D) = some b
  exm : PySem.W.exmOne K (.ref C) (.ref D) = some b
theorem exm_kit {K : PySem.W.Frag} {C D : Addr} {b : Bool} (T : XCls K C) (hs : PySem.W.subIn K (.ref C) (.ref D) = some b) (U : XCls K D) (hne : (Value.ref C == Value.ref D) = true → b = true) : Below K C D b := by
  have h2 : ((PySem.W.clsIn K D).isSome && PySem.W.typeIn K (.ref D) == some (.type "type")) = true := by
    rw [U.cl, U.ty]
    rfl
  have h3 : PySem.W.kitCls K (.ref C) (.ref D) = some b := by
    show (if _ then _ else _) = _
    rw [if_pos h2]
    exact hs
  refine ⟨?_, ?_⟩
  · show (if _ then _ else _) = _
    by_cases e : (Value.ref C == Value.ref D) = true
    · rw [if_pos e, hne e]
    · rw [if_neg e]
      exact h3
  · show (if _ then _ else _) = _
    have e : (PySem.W.subIn K (.ref D) (.type "BaseException") == some true) = true := by rw [U.su]; rfl
    rw [if_pos e]
    exact h3
/-- isinstance and except, from what the written part says of two classes -/
theorem kit_sub {K : PySem.W.Frag} {C D : Addr} {b : Bool} (i : PySem.W.isClsIn K D = true) (t : PySem.W.typeIn K (.ref D) = some (.type "type")) (s : PySem.W.subIn K (.ref C) (.ref D) = some b) (r : PySem.W.subIn K (.ref C) (.ref C) = some true) : PySem.W.kitOne K (.ref C) (.ref D) = some b := by
  have h2 : ((PySem.W.clsIn K D).isSome && PySem.W.typeIn K (.ref D) == some (.type "type")) = true := by
    have i' : (PySem.W.clsIn K D).isSome = true := i
    rw [i', t]
    rfl
  show (if _ then _ else _) = _
  by_cases e : (Value.ref C == Value.ref D) = true
  · rw [if_pos e]
    have e' : Value.ref C = Value.ref D := eq_of_beq e
    rw [← e', r] at s
    exact s
  · rw [if_neg e]
    show (if _ then _ else _) = _
    rw [if_pos h2]
    exact s
theorem kit_blt {K : PySem.W.Frag} {C : Addr} {T : String} {b : Bool} (m : PySem.W.kitMeta T = true) (s : PySem.W.subIn K (.ref C) (.type T) = some b) : PySem.W.kitOne K (.ref C) (.type T) = some b := by
  show (if _ then _ else _) = _
  rw [if_neg (by exact Bool.false_ne_true)]
  show (if _ then _ else _) = _
  rw [if_pos m]
  exact s
theorem exm_sub {K : PySem.W.Frag} {C D : Addr} {b : Bool} (i : PySem.W.isClsIn K D = true) (t : PySem.W.typeIn K (.ref D) = some (.type "type")) (e : PySem.W.subIn K (.ref D) (.type "BaseException") = some true) (s : PySem.W.subIn K (.ref C) (.ref D) = some b) : PySem.W.exmOne K (.ref C) (.ref D) = some b := by
  have h2 : ((PySem.W.clsIn K D).isSome && PySem.W.typeIn K (.ref D) == some (.type "type")) = true := by
    have i' : (PySem.W.clsIn K D).isSome = true := i
    rw [i', t]
    rfl
  have h1 : (PySem.W.subIn K (.ref D) (.type "BaseException") == some true) = true := by
    rw [e]
    rfl
  show (if _ then _ else _) = _
  rw [if_pos h1]
  show (if _ then _ else _) = _
  rw [if_pos h2]
  exact s
/-- where the error's own dict stands -/
def DictAt (H : Hp) (d : Option Addr) : Prop := d = none ∨ ∃ (dd : Addr) (fs : List (Str × V)), d = some dd ∧ H dd = some (.xd fs)
theorem inst_of {X : Cx} {pins : List (Addr × Obj)} {σ : L2.St} {H : Hp} {s : Shared} {a D : Addr} {oe : Obj} {d : Option Addr} {pn : List (Addr × Obj)} (I : Inv (X.suite a ((a, oe) :: pn)) pins σ H s) (hz : Zc (.ref D) d oe) (hf : ∃ vs, oe.data = .fields vs) (hd : DictAt H d) :
    ∃ od, PySem.W.InstAt s.heap a oe D od := by
  obtain ⟨hget, _⟩ := I.pin (a, oe) (List.mem_append_left _ List.mem_cons_self)
  obtain ⟨vs, hv⟩ := hf
  have no : PySem.W.notCls oe = true := by unfold PySem.W.notCls; rw [hv]
  rcases hd with rfl | ⟨dd, fs, rfl, hx⟩
  · exact ⟨none, hget, hz.1, no, by rw [hz.2]; trivial⟩
  · have hx : ObjOk X.prog X.w H s.heap dd (.xd fs) := I.hok dd _ hx
    obtain ⟨mA, hns, _⟩ := hx
    obtain ⟨od, ho, _⟩ := lookIn_ns hns
    exact ⟨some od, hget, hz.1, no, by rw [hz.2]; exact ho⟩
/-- isinstance(e, c) -/
def rIsX (K : PySem.W.Frag) (a : Addr) (cls : Value) (d : Option Addr) : List V → Hp → VK → Prop := fun xs H Q => ∃ (D : Addr) (c : V) (cv : Value) (b : Bool), xs = [.ref a, c] ∧ ClsV c cv ∧ cls = .ref D ∧ XCls K D ∧ DictAt H d ∧ PySem.W.kitOne K (.ref D) cv = some b ∧ Q (.bl b) H
/-- isinstance(e, (c, ..)) -/
def rIsXT (K : PySem.W.Frag) (a : Addr) (cls : Value) (d : Option Addr) : List V → Hp → VK → Prop := fun xs H Q => ∃ (D tp : Addr) (cs : List V) (us : List Value) (b : Bool), xs = [.ref a, .ref tp] ∧ H tp = some (.tup cs) ∧ Paired ClsV cs us ∧ cls = .ref D ∧ XCls K D ∧ DictAt H d ∧
  PySem.W.kitAny K (.ref D) us = some b ∧ Q (.bl b) H
section
variable {X : Cx} {a : Addr} {oe : Obj} {cls : Value} {d : Option Addr} {pn : List (Addr × Obj)}
theorem call_isX {K : PySem.W.Frag} (hK : X.K = K) (hz : Zc cls d oe) (hf : ∃ vs, oe.data = .fields vs) : CallR (X.suite a ((a, oe) :: pn)) (.builtin "isinstance") (rIsX K a cls d) := by
  subst hK
  intro pins s σ H xs us Q I r h
  obtain ⟨D, c, cv, b, rfl, k, rfl, T, hd, e, q⟩ := h
  obtain ⟨u1, u2, rfl, r1, r2⟩ := vals2 r
  cases (show u1 = Value.ref a from r1)
  have e2 := k.eq r2
  subst e2
  obtain ⟨od, J⟩ := inst_of I hz hf hd
  exact PySem.W.kia_one T.kit I.kIn J e (fun z => nomatch z) fun tk => ⟨.bl b, H, I.tok tk, rfl, q⟩
theorem call_isXT {K : PySem.W.Frag} (hK : X.K = K) (hz : Zc cls d oe) (hf : ∃ vs, oe.data = .fields vs) : CallR (X.suite a ((a, oe) :: pn)) (.builtin "isinstance") (rIsXT K a cls d) := by
  subst hK
  intro pins s σ H xs us Q I r h
  obtain ⟨D, tp, cs, ws, b, rfl, hT, k, rfl, T, hd, e, q⟩ := h
  obtain ⟨u1, u2, rfl, r1, r2⟩ := vals2 r
  cases (show u1 = Value.ref a from r1)
  cases (show u2 = Value.ref tp from r2)
  obtain ⟨_, its, rv, o, h1, h2, n, h3⟩ := (show ObjOk X.prog X.w H s.heap tp (.tup cs) from I.hok tp _ hT)
  have e3 := ClsV.all k rv
  subst e3
  obtain ⟨oc, od', dt, sl⟩ := o
  simp only at h2 h3
  subst h2 h3
  obtain ⟨od, J⟩ := inst_of I hz hf hd
  exact PySem.W.kia_tup T.kit I.kIn J h1 e (fun z => nomatch z) fun tk => ⟨.bl b, H, I.tok tk, rfl, q⟩
end
end EX
/-! An exception object as a value; a caught error as an argument. -/
namespace EX
open PySem PySem.Spec PyProof.Rows L2
section
variable {X : Cx} {C : Addr} {bmB : List Value} {B newId initId : String}
/-- X() as a value, an own class without an __init__ -/
theorem pe_exc0 {x : Str} {p pos : Pos} (F : ExcBaseFacts B newId initId bmB) (q : PySem.W.excIn X.K C bmB newId = true) (gC : X.mg x = some (.ref C)) (kC : PySem.W.keepIn X.K (.ref C) = true) (hg : Gl X x) (hdb : (x == ("__debug__" : Str)) = false := by decide) :
    PE X (.Call (.Name x p) [] [] pos) (fun _ H Q => ∀ a, H a = none → Q (.ref a) (upd H a (ExO (.ref C) a))) := by
  refine ⟨fun pins s σ H Q I h => ?_⟩
  refine wpAny_Call_Name_kw (ld_glob I hg gC (PySem.W.callWith_K0 I.kIn kC ?_) hdb)
  obtain ⟨bm, N, nm, qn, bs, hdct, sn, sub, ab, col, dd, k0, k1, k2, k3, k5, mN, hC, hN, hni, T⟩ := exc_obj I.kIn q
  refine wpAny_call_exc_subT F T hC hN hni (fun h' e hm => ?_) (Nat.zero_le _)
  have free : H e = none := I.hok.gone hm.new
  obtain ⟨t, there, _, _⟩ := hm.there
  exact ⟨.ref e, _, I.laidN hm.keeps hm.new free (exO_ok there ⟨rfl, rfl⟩ rfl rfl rfl (show 4 < 6 by decide)), rfl, h e free⟩
end
theorem notCls_of {o : Obj} {vs : Array Value} (h : o.data = .fields vs) : PySem.W.notCls o = true := by
  unfold PySem.W.notCls
  rw [h]
/-- isinstance of an exception object that is a value -/
def rIsO (K : PySem.W.Frag) : List V → Hp → VK → Prop := fun xs H Q => ∃ (a D : Addr) (c : V) (cv : Value) (b : Bool), xs = [.ref a, c] ∧ ClsV c cv ∧ H a = some (ExO (.ref D) a) ∧ XCls K D ∧ PySem.W.kitOne K (.ref D) cv = some b ∧ Q (.bl b) H
def rIsOT (K : PySem.W.Frag) : List V → Hp → VK → Prop := fun xs H Q => ∃ (a D tp : Addr) (cs : List V) (us : List Value) (b : Bool), xs = [.ref a, .ref tp] ∧ H tp = some (.tup cs) ∧ Paired ClsV cs us ∧ H a = some (ExO (.ref D) a) ∧ XCls K D ∧ PySem.W.kitAny K (.ref D) us = some b ∧ Q (.bl b) H
section
variable {X : Cx}
theorem inst_O {pins : List (Addr × Obj)} {σ : L2.St} {H : Hp} {s : Shared} {a D : Addr} (I : Inv X pins σ H s) (h : H a = some (ExO (.ref D) a)) : ∃ oe, PySem.W.InstAt s.heap a oe D none := by
  obtain ⟨⟨oe, vs, hget, hz, hd, _⟩, _⟩ := (show ObjOk X.prog X.w H s.heap a (ExO (.ref D) a) from I.hok a _ h)
  exact ⟨oe, hget, hz.1, notCls_of hd, by rw [hz.2]; trivial⟩
theorem call_isO {K : PySem.W.Frag} (hK : X.K = K) : CallR X (.builtin "isinstance") (rIsO K) := by
  subst hK
  intro pins s σ H xs us Q I r h
  obtain ⟨a, D, c, cv, b, rfl, k, ha, T, e, q⟩ := h
  obtain ⟨u1, u2, rfl, r1, r2⟩ := vals2 r
  cases (show u1 = Value.ref a from r1)
  have e2 := k.eq r2
  subst e2
  obtain ⟨oe, J⟩ := inst_O I ha
  exact PySem.W.kia_one T.kit I.kIn J e (fun z => nomatch z) fun tk => ⟨.bl b, H, I.tok tk, rfl, q⟩
theorem call_isOT {K : PySem.W.Frag} (hK : X.K = K) : CallR X (.builtin "isinstance") (rIsOT K) := by
  subst hK
  intro pins s σ H xs us Q I r h
  obtain ⟨a, D, tp, cs, ws, b, rfl, hT, k, ha, T, e, q⟩ := h
  obtain ⟨u1, u2, rfl, r1, r2⟩ := vals2 r
  cases (show u1 = Value.ref a from r1)
  cases (show u2 = Value.ref tp from r2)
  obtain ⟨_, its, rv, o, h1, h2, n, h3⟩ := (show ObjOk X.prog X.w H s.heap tp (.tup cs) from I.hok tp _ hT)
  have e3 := ClsV.all k rv
  subst e3
  obtain ⟨oc, od', dt, sl⟩ := o
  simp only at h2 h3
  subst h2 h3
  obtain ⟨oe, J⟩ := inst_O I ha
  exact PySem.W.kia_tup T.kit I.kIn J h1 e (fun z => nomatch z) fun tk => ⟨.bl b, H, I.tok tk, rfl, q⟩
end
/-! ### isinstance of a pinned error, in any context that bears it -/
def rIsP (K : PySem.W.Frag) (a : Addr) (D : Addr) : List V → Hp → VK → Prop := fun xs H Q => ∃ (c : V) (cv : Value) (b : Bool), xs = [.ref a, c] ∧ ClsV c cv ∧ XCls K D ∧ PySem.W.kitOne K (.ref D) cv = some b ∧ Q (.bl b) H
def rIsPT (K : PySem.W.Frag) (a : Addr) (D : Addr) : List V → Hp → VK → Prop := fun xs H Q => ∃ (tp : Addr) (cs : List V) (us : List Value) (b : Bool), xs = [.ref a, .ref tp] ∧ H tp = some (.tup cs) ∧ Paired ClsV cs us ∧ XCls K D ∧ PySem.W.kitAny K (.ref D) us = some b ∧ Q (.bl b) H
section
variable {X : Cx} {p : Addr × Obj} {D : Addr}
theorem inst_P {pins : List (Addr × Obj)} {σ : L2.St} {H : Hp} {s : Shared} (I : Inv X pins σ H s) (hm : p ∈ X.pn) (hz : Zc (.ref D) none p.2) (hf : ∃ vs, p.2.data = .fields vs) : PySem.W.InstAt s.heap p.1 p.2 D none := by
  obtain ⟨hget, _⟩ := I.pin p (List.mem_append_left _ hm)
  obtain ⟨vs, hv⟩ := hf
  exact ⟨hget, hz.1, notCls_of hv, by rw [hz.2]; trivial⟩
theorem call_isP {K : PySem.W.Frag} (hK : X.K = K) (hm : p ∈ X.pn) (hz : Zc (.ref D) none p.2) (hf : ∃ vs, p.2.data = .fields vs) : CallR X (.builtin "isinstance") (rIsP K p.1 D) := by
  subst hK
  intro pins s σ H xs us Q I r h
  obtain ⟨c, cv, b, rfl, k, T, e, q⟩ := h
  obtain ⟨u1, u2, rfl, r1, r2⟩ := vals2 r
  cases (show u1 = Value.ref p.1 from r1)
  have e2 := k.eq r2
  subst e2
  exact PySem.W.kia_one T.kit I.kIn (inst_P I hm hz hf) e (fun z => nomatch z) fun tk => ⟨.bl b, H, I.tok tk, rfl, q⟩
theorem call_isPT {K : PySem.W.Frag} (hK : X.K = K) (hm : p ∈ X.pn) (hz : Zc (.ref D) none p.2) (hf : ∃ vs, p.2.data = .fields vs) : CallR X (.builtin "isinstance") (rIsPT K p.1 D) := by
  subst hK
  intro pins s σ H xs us Q I r h
  obtain ⟨tp, cs, ws, b, rfl, hT, k, T, e, q⟩ := h
  obtain ⟨u1, u2, rfl, r1, r2⟩ := vals2 r
  cases (show u1 = Value.ref p.1 from r1)
  cases (show u2 = Value.ref tp from r2)
  obtain ⟨_, its, rv, o, h1, h2, n, h3⟩ := (show ObjOk X.prog X.w H s.heap tp (.tup cs) from I.hok tp _ hT)
  have e3 := ClsV.all k rv
  subst e3
  obtain ⟨oc, od', dt, sl⟩ := o
  simp only at h2 h3
  subst h2 h3
  exact PySem.W.kia_tup T.kit I.kIn (inst_P I hm hz hf) h1 e (fun z => nomatch z) fun tk => ⟨.bl b, H, I.tok tk, rfl, q⟩
end
/-! ### a def whose one argument is the error that is handled -/
structure FnE (P : Program) (w : World) (K : PySem.W.Frag) (mg : Str → Option Value) (base : Heap) (k : Nat) (f : Addr) (fd : FuncData) (x : Str) (D : Addr) (v : V) : Prop where
  run : ∀ (A : Around) (outer : List Env) (s : Shared) (H : Hp) (Q : VK) (p : Addr × Obj), L2H.RoomH k A → L2H.Hot1 A p → Zc (.ref D) none p.2 → L2H.PinOk outer H s p → Env0 P w K mg base A outer s H → BindsTo s fd ⟨[.ref p.1], []⟩ [(x, .ref p.1)] → (∀ H', Same H H' → Q v H') →
    codeAny (model P w) A (.call (.ref f) ⟨[.ref p.1], []⟩) (CR CX0 outer P w H s Q (fun _ _ _ => False)) s
def CalE (P : Program) (w : World) (K : PySem.W.Frag) (mg : Str → Option Value) (base : Heap) (k : Nat) (n x : Str) (D : Addr) (v : V) : Prop :=
  ∃ (f : Addr) (fd : FuncData), FnE P w K mg base k f fd x D v ∧ mg n = some (.ref f) ∧ PySem.W.keepIn K (.ref f) = true ∧ Binds K fd [x] []
section
variable {P : Program} {w : World} {K : PySem.W.Frag} {mg : Str → Option Value} {base : Heap} {x n qual : Str} {st : Stmt} {f D : Addr} {fd : FuncData} {N : List Str} {k : Nat} {v : V}
/-- such a def, by its body -/
theorem okE (F : Fun K n qual st f fd) (S : FnScope N [x] (defScope st))
    (body : ∀ (cdv : Value) (A : Around) (outer : List Env) (s : Shared) (H : Hp) (Q : VK) (p : Addr × Obj), L2H.RoomH k (A.deeper (envOfC qual (defScope st) s.heap.objs.size f cdv)) → Zc (.ref D) none p.2 → (∃ vs, p.2.data = .fields vs) → (∀ H', Same H H' → Q v H') →
      ∃ t, PSs (L2H.cxH CX0 P w K mg base N qual (defScope st) f cdv A outer s H (fun _ _ _ => False) p).nox (defBody st) t ∧ t { nx := fun _ H' => Q .non H', rt := Q } (start N [.ref p.1]) H) : FnE P w K mg base (k + 1) f fd x D v := by
  obtain ⟨oc, od, kV, doc, pm, an, cdv, ct, osl, rfl, lk, hcd⟩ := F.ex
  refine ⟨fun A outer s H Q p hr hot hz pin e0 hb q => ?_⟩
  have there : ∀ b o, base.get? b = some o → s.heap.get? b = some o := fun b o e => (e0.bs b o e).1
  have kin : K.In s.heap := e0.mod.kin.keeps there
  have lims := e0.mod.nolimit.keeps there
  have kinds : ∀ y ∈ [(x, Value.ref p.1)], (defScope st).names.lookup y.1 = some .local ∨
      ((defScope st).names.lookup y.1 = some .cell ∧ ((cellsFrom (s.heap.objs.size + 1) (defScope st).names []).lookup y.1).isSome = true) := fun y hy => by
    rw [List.mem_singleton.mp hy]
    exact (S.par x List.mem_cons_self).imp id fun q => ⟨q, PySem.W.cellsFrom_some _ _ _ (.inl q)⟩
  refine codeAny_call_function hr.depth (kin _ _ lk) rfl S.co S.gen rfl
    (PySem.W.codeRec_of kin hcd) (hb _ _ _ _ ?_)
  refine wpAny_newFunctionEnv_cells S.kind kinds fun env he s1 y => ?_
  subst he
  refine ⟨lims.keeps y.toInCall.keep, codeAny_func ?_⟩
  obtain ⟨t, ht, ht2⟩ := body cdv A outer s H Q p (hr.deeper _) hz (hot.2.elim fun a h => ⟨a, h.1⟩) q
  have I := L2H.inv_startH (CX := CX0) (us := [.ref p.1]) (vs := [V.ref p.1]) (E := fun _ _ _ => False) (cd := cdv) S pin e0 rfl (.cons rfl .nil) y
  refine wpAny_mono (ht.nox.run [] s1 (L2.start N [V.ref p.1]) H _ I ht2)
    (fun fl s' hs => ?_) (fun e s' hs => hs)
  match fl, hs with
  | .ret u, ⟨v, σ', H', J, rv, q⟩ => exact ⟨v, H', J.os, J.bare, J.base, J.hok, rv, q⟩
  | .next, ⟨σ', H', J, q⟩ => exact ⟨V.non, H', J.os, J.bare, J.base, J.hok, rfl, q⟩
  | .brk, ⟨_, _, _, q⟩ => exact q.elim
  | .cont, ⟨_, _, _, q⟩ => exact q.elim
end
/-- f(e), e the error that the suite holds -/
def tCallE (D : Addr) (v : V) (a : Addr) (cls : Value) (d : Option Addr) (te : TE) : TE := fun σ H Q => te σ H fun y H1 => y = .ref a ∧ cls = .ref D ∧ d = none ∧ ∀ H', Same H1 H' → Q v H'
theorem pe_callE {X : Cx} {k : Nat} {a D : Addr} {oe : Obj} {cls : Value} {d : Option Addr} {pn : List (Addr × Obj)} {n x : Str} {v : V} {q pos : Pos} {e : Expr} {te : TE} (C : CalE X.prog X.w X.K X.mg X.base k n x D v) (hr : L2H.RoomH k (X.suite a ((a, oe) :: pn)).A) (hz : L2N.Zn cls d oe) (hf : ∃ vs, oe.data = .fields vs)
    (hg : Gl X n) (ha : PE (X.suite a ((a, oe) :: pn)) e te) (hdb : (n == ("__debug__" : Str)) = false := by decide) (he : starEach [e] X.env = [(false, eval e X.env)] := by rfl) (hpl : (backTo pos (starEach ([] : List Expr) X.env)).any (·.1) = false := by rfl) :
    PE (X.suite a ((a, oe) :: pn)) (.Call (.Name n q) [e] [] pos) (tCallE D v a cls d te) := by
  obtain ⟨f, fd, G, hm, hk, hb⟩ := C
  refine ⟨fun pins s σ H Q I h => ?_⟩
  refine wpAny_Call_Name_kw (ld_glob I hg hm ?_ hdb)
  refine PySem.W.callWith_K (h₀ := X.base) I.ok.mod.kin hk ?_ he hpl
  refine thn ((pa_cons (hs := he) ha pa_nil).run pos pins s σ H (fun ys H1 => match ys with | [y] => y = V.ref a ∧ cls = .ref D ∧ d = none ∧ ∀ H', Same H1 H' → Q v H' | _ => False) I h) fun us s1 hh => ?_
  obtain ⟨ys, H1, I1, r, q⟩ := hh
  refine ⟨I1.kIn, ?_⟩
  match ys, us, r, q with
  | [y], [u], r, q1 =>
    obtain ⟨rfl, rfl, rfl, q2⟩ := q1
    obtain rfl : u = Value.ref a := by
      cases r with
      | cons r0 _ => exact r0
    obtain ⟨z1, z2, z3, z4, z5⟩ := I1.pin (a, oe) (List.mem_append_left _ List.mem_cons_self)
    obtain ⟨vs, ev⟩ := id hf
    have pin : L2H.PinOk X.stack H1 s1 (a, oe) := ⟨z1, z2, fun hmem => (List.mem_cons.mp (I1.stkSub a hmem)).elim z3 z4, z5⟩
    have run := G.run (X.suite a ((a, oe) :: pn)).A X.stack s1 H1 Q (a, oe) hr ⟨rfl, vs, ev, hz.2.2 vs ev⟩ hz.zc pin I1.env0 (hb s1 [.ref a] I1.kIn rfl) q2
    refine wpAny_call (codeAny_mono run fun r s' hq => ?_)
    match r, hq with
    | .ok (.ret u), hq => exact I1.after hq
end EX
set_option maxHeartbeats 4000000
/-! Objects of one's own classes: len(o), iter(tuple) in __iter__, a walk over o, o == y with any answer. -/
namespace KO
open PySem PySem.Spec PyProof.Rows L2
/-! ### a promise that knows where the call begins -/
structure FnS (P : Program) (w : World) (K : PySem.W.Frag) (mg : Str → Option Value) (base : Heap) (CX : CXT) (k : Nat) (f : Addr) (fd : FuncData) (ps : List Str) (sp : Nat → Sp) : Prop where
  len : ∀ n vs H Q E, sp n vs H Q E → vs.length = ps.length
  run : ∀ (A : Around) (outer : List Env) (s : Shared) (H : Hp) (args : Args) (us : List Value) (vs : List V) (Q : VK) (E : XK), Room k A → Env0 P w K mg base A outer s H → BindsTo s fd args (ps.zip us) → Vals vs us → sp s.heap.objs.size vs H Q E →
    codeAny (model P w) A (.call (.ref f) args) (CR CX outer P w H s Q E) s
theorem fnS_of {P : Program} {w : World} {K : PySem.W.Frag} {mg : Str → Option Value} {base : Heap} {k : Nat} {f : Addr} {x qual : Str} {st : Stmt} {fd : FuncData} {N ps : List Str} {sp : Nat → Sp} (F : Fun K x qual st f fd) (S : FnScope N ps (defScope st)) (len : ∀ n vs H Q E, sp n vs H Q E → vs.length = ps.length)
    (hbody : ∀ (cdv : Value) (A : Around) (outer : List Env) (s : Shared) (H : Hp) (vs : List V) (Q : VK) (E : XK), Room k (A.deeper (envOfC qual (defScope st) s.heap.objs.size f cdv)) → sp s.heap.objs.size vs H Q E →
      ∃ t, PSs (cxOf CX0 P w K mg base N qual (defScope st) f cdv A outer s H E).nox (defBody st) t ∧ t { nx := fun _ H' => Q .non H', rt := Q } (start N vs) H) : FnS P w K mg base CX0 (k + 1) f fd ps sp := by
  obtain ⟨oc, od, kV, doc, pm, an, cdv, ct, osl, rfl, lk, hcd⟩ := F.ex
  refine ⟨len, fun A outer s H args us vs Q E hr e0 hb r hsp => ?_⟩
  have hl := len _ _ _ _ _ hsp
  have KX : K.In s.heap := e0.mod.kin.keeps fun b o e => (e0.bs b o e).1
  have lim : s.heap.NoLimit := e0.mod.nolimit.keeps fun b o e => (e0.bs b o e).1
  have hkind : ∀ y ∈ ps.zip us, (defScope st).names.lookup y.1 = some .local ∨ ((defScope st).names.lookup y.1 = some .cell ∧ ((cellsFrom (s.heap.objs.size + 1) (defScope st).names []).lookup y.1).isSome = true) := fun ⟨n, v⟩ hy => by
    rcases S.par n (List.of_mem_zip hy).1 with q | q
    · exact .inl q
    · exact .inr ⟨q, PySem.W.cellsFrom_some _ _ _ (.inl q)⟩
  refine codeAny_call_function hr.depth (KX _ _ lk) rfl S.co S.gen rfl (PySem.W.codeRec_of KX hcd) (hb _ _ _ _ ?_)
  refine wpAny_newFunctionEnv_cells S.kind hkind fun env he s1 x => ?_
  subst he
  refine ⟨lim.keeps x.toInCall.keep, codeAny_func ?_⟩
  obtain ⟨t, ht', hq⟩ := hbody cdv A outer s H vs Q E (hr.deeper _) hsp
  have ht : PSs (cxOf CX0 P w K mg base N qual (defScope st) f cdv A outer s H E) (defBody st) t := ht'.nox
  have I : Inv (cxOf CX0 P w K mg base N qual (defScope st) f cdv A outer s H E) [] (start N vs) H s1 := inv_start S hr.hd e0 hl r x
  refine wpAny_mono (ht.run [] s1 (start N vs) H _ I hq) (fun fl s' hs => ?_) fun e s' hs => hs
  have fin : ∀ {σ' : L2.St} {H' : Hp} {v : V} {u : Value}, Inv (cxOf CX0 P w K mg base N qual (defScope st) f cdv A outer s H E) [] σ' H' s' → RelV v u → Q v H' → CE outer P w H s Q u s' :=
    fun {σ' H' v u} J rv q => ⟨v, H', J.os, J.bare, J.base, J.hok, rv, q⟩
  cases fl with
  | ret u =>
    obtain ⟨v, σ', H', J, rv, q⟩ := hs
    exact fin J rv q
  | next =>
    obtain ⟨σ', H', J, q⟩ := hs
    exact fin (v := V.non) (u := Value.none) J rfl q
  | brk =>
    obtain ⟨_, _, _, q⟩ := hs
    exact False.elim q
  | cont =>
    obtain ⟨_, _, _, q⟩ := hs
    exact False.elim q
/-! ### an iterator over a tuple, as a value -/
/-- at it an iterator over the tuple at t, not yet begun -/
def ItT (t it : Addr) : HO := .ext fun h => h.IsTupleIter it t 0
section
variable {X : Cx} {pins : List (Addr × Obj)} {σ : L2.St} {H : Hp} {s : Shared}
theorem itT_ok {P : Program} {w : World} {H : Hp} {h : Heap} {t it : Addr} (e : h.IsTupleIter it t 0) : ObjOk P w H h it (ItT t it) := ⟨e, let ⟨o, ho, _⟩ := e; ⟨o, ho⟩, fun h1 h2 q k => q.at k⟩
/-- iter(t), t a tuple: the new object lies behind all that was there when the def began -/
def rIterT (K : PySem.W.Frag) (n : Nat) : List V → Hp → VK → Prop := fun xs H Q => ∃ (t : Addr) (zs : List V), xs = [.ref t] ∧ SqT K H t zs ∧ ∀ it, H it = none → n ≤ it → Q (.ref it) (upd H it (ItT t it))
theorem call_iterT : CallR X (.builtin "iter") (rIterT X.K X.s_0.heap.objs.size) := by
  intro pins s σ H xs us Q I r h
  obtain ⟨t, zs, rfl, hq, q⟩ := h
  obtain rfl := Vals.ref1 r
  obtain ⟨its, rv, p, hz⟩ := I.tuple hq
  refine Calls.call_function_entry (by decide +kernel) (by decide +kernel) PySem.W.kdk_entry_iter (PySem.W.kdk_args_iter _) ?_
  unfold Builtin.«iter»
  refine wpAny_bind (m := someArgs "iter" 1 2 _) (wpAny_of_eq (a := [Value.ref t]) (by first | rfl | kernel_rfl!) ?_)
  show wpAny _ _ (pyIter (.ref t) >>= _) _ _ _
  refine wpAny_bind (wpAny_pyIter_tuple (show s.heap.IsTuple t its.toArray from p) ?_)
  refine wpAny_pure ⟨_, rfl, ?_⟩
  exact ⟨.ref s.heap.objs.size, _, I.laid (t' := s.toks) (fun b u e => Heap.get?_push_of_some _ e) (Nat.le_refl _) (itT_ok ⟨_, Heap.get?_push_size _ rfl, rfl, rfl⟩), rfl, q _ (I.hok.fresh (Nat.le_refl _)) I.sz⟩
/-- an object that came in this def may be forgotten -/
theorem forget {a : Addr} {φ : Heap → Prop} (I : Inv X pins σ (upd H a (.ext φ)) s) (hn : H a = none) (h0 : X.s_0.heap.objs.size ≤ a) : Inv X pins σ H s := by
  have ne : ∀ {b}, (upd H a (.ext φ)) b = none → H b = none := fun {b} e => by
    by_cases z : b = a
    · rw [z]
      exact hn
    · rw [upd_ne z] at e
      exact e
  have old : ∀ {b o}, X.s_0.heap.get? b = some o → b ≠ a := fun {b o} e z => by
    have := Heap.lt_size e
    rw [z] at this
    exact absurd (Nat.lt_of_lt_of_le this h0) (Nat.lt_irrefl _)
  have some_ : ∀ {b o}, (upd H a (.ext φ)) b = some o → (∀ ψ, o ≠ .ext ψ) → H b = some o := fun {b o} e z => by
    by_cases y : b = a
    · rw [y, upd_same] at e
      cases e
      exact absurd rfl (z _)
    · rw [upd_ne y] at e
      exact e
  refine ⟨I.ok, I.os, I.bare, ⟨I.base.keep, I.base.slot, fun b o e n hx => ne (I.base.free b o e n hx), I.base.there, fun b xs e => ?_, fun b o u e => ?_, fun b ps e => ?_⟩, I.loc, I.cell, ne I.free, fun x c e => ne (I.freeC x c e), fun p hp => ?_, fun b u e => ?_, I.len⟩
  · exact some_ (I.base.tups b xs e) fun ψ z => by cases z
  · exact some_ (I.base.frzs b o u e) fun ψ z => by cases z
  · obtain ⟨m, q⟩ := I.base.tbls b ps e
    exact ⟨m, some_ q fun ψ z => by cases z⟩
  · obtain ⟨e, n, r⟩ := I.pin p hp
    exact ⟨e, ne n, r⟩
  · have hb : b ≠ a := fun z => by
      rw [z, hn] at e
      cases e
    refine (I.hok b u (by rw [upd_ne hb]; exact e)).stay (fun c v hc q => q) (fun c q => ?_) fun c xs q => ?_
    · exact some_ q fun ψ z => by cases z
    · exact some_ q fun ψ z => by cases z
/-! ### a walk over an object whose __iter__ gives an iterator over one of its tuples -/
structure ItC (K : PySem.W.Frag) (C f : Addr) : Prop where
  at_ : PySem.W.findIn K (.ref C) "__iter__" = some (some (.ref f))
  fn : PySem.W.isFn K (.ref f) = true
/-- what such an __iter__ promises -/
def spIter (K : PySem.W.Frag) (C : Addr) (fld : Str) : Nat → Sp := fun n vs H Q _ => ∃ a dx fs t xs, vs = [.ref a] ∧ H a = some (.ins C dx fs) ∧ fs.lookup fld = some (.ref t) ∧ SqT K H t xs ∧ ∀ it, H it = none → n ≤ it → Q (.ref it) (upd H it (ItT t it))
def iOwn (i : Nat) (K : PySem.W.Frag) (C : Addr) (fld : Str) : TI := fun σ H R => ∃ a dx fs t xs, σ[i]? = some (some (.ref a)) ∧ H a = some (.ins C dx fs) ∧ fs.lookup fld = some (.ref t) ∧ SqT K H t xs ∧ R (Itt K t) H
theorem pi_own {i k : Nat} {x fld : Str} {C f : Addr} {fd : FuncData} {tg : Expr} {pos : Pos} (F : FnS X.prog X.w X.K X.mg X.base CX0 k f fd ["self"] (spIter X.K C fld)) (L : ItC X.K C f) (hr : Room k X.A) (hb : Binds X.K fd ["self"] [])
    (hN : X.N[i]? = some x) (hv : Vis X.env.scope x) (hdb : (x == ("__debug__" : Str)) = false := by decide) (hcd : (x == ("__classdict__" : Str)) = false := by decide) : PI X tg (.Name x pos) (iOwn i X.K C fld) := by
  refine ⟨fun pins s σ H R I h => ?_⟩
  obtain ⟨a, dx, fs, t, xs, hs, ha, hf, ht, q⟩ := h
  refine thn ((pe_var (pos := pos) hN hv hdb hcd).run pins s σ H (fun v H1 => v = .ref a ∧ H1 = H) I ⟨.ref a, hs, rfl, rfl⟩) fun u s1 ⟨v, H1, I1, r1, q1⟩ => ?_
  obtain ⟨rfl, rfl⟩ := q1
  cases r1
  obtain ⟨mA, J, _⟩ := ins_get I1.hok ha
  obtain ⟨od, J, _⟩ := J.look
  obtain ⟨m, hF⟩ := I1.fr
  refine PySem.W.owit_iter hF I1.ok.mod.kin J L.at_ L.fn ?_
  have hsp : spIter X.K C fld s1.heap.objs.size [.ref a] H1 (fun v H' => ∃ it, v = .ref it ∧ H1 it = none ∧ s1.heap.objs.size ≤ it ∧ H' = upd H1 it (ItT t it)) (fun _ _ _ => False) := ⟨a, dx, fs, t, xs, rfl, ha, hf, ht, fun it h1 h2 => ⟨it, rfl, h1, h2, rfl⟩⟩
  have r2 : Vals [V.ref a] [Value.ref a] := .cons rfl .nil
  refine wpAny_call (codeAny_mono (F.run X.A X.stack s1 H1 ⟨[.ref a], []⟩ [.ref a] [.ref a] _ _ hr I1.env0 (by
    have := hb s1 [.ref a] I1.kIn rfl
    simpa using this) r2 hsp) fun r s' hq => ?_)
  cases r with
  | error e => exact pass0 pins σ H1 s1 e s' I1 hq
  | ok fl =>
    cases fl with
    | next => exact False.elim hq
    | brk => exact False.elim hq
    | cont => exact False.elim hq
    | ret u =>
      obtain ⟨v, H', I', rv, it, rfl, hn, hsz, rfl⟩ := I1.after hq
      cases rv
      have hit : s'.heap.IsTupleIter it t 0 := (I'.hok it _ upd_same).1
      unfold PySem.W.OwitIt
      refine wpAny_specialOf (name := Str.ofString "__next__") hit.typeIs PySem.F.slot_tuple_iterator_next.lookup ?_
      exact ⟨it, [it], _, _, H1, rfl, forget I' hn (Nat.le_trans I1.sz hsz), turn_tuple t it, hit, fun b hb => by
        have e : b = it := by simpa using hb
        subst e
        exact I1.fpOk hsz hn, q⟩
/-! ### len(o) -/
structure LnC (K : PySem.W.Frag) (C f : Addr) : Prop where
  at_ : PySem.W.findIn K (.ref C) "__len__" = some (some (.ref f))
  fn : PySem.W.isFn K (.ref f) = true
def rLen (C : Addr) (sp : Sp) : List V → Hp → VK → Prop := fun xs H Q => ∃ a dx fs, xs = [.ref a] ∧ H a = some (.ins C dx fs) ∧ sp [.ref a] H (fun v H' => ∃ n : Nat, v = .int n ∧ n < 2 ^ 62 ∧ Q (.int n) H') (fun _ _ _ => False)
theorem call_lenOwn {k : Nat} {C f : Addr} {fd : FuncData} {sp : Sp} (F : FnOk X.prog X.w X.K X.mg X.base CX0 k f fd ["self"] sp) (L : LnC X.K C f) (hr : Room (k + 1) X.A) (hb : Binds X.K fd ["self"] []) : CallR X (.builtin "len") (rLen C sp) := by
  intro pins s σ H xs us Q I r h
  obtain ⟨a, dx, fs, rfl, ha, hsp⟩ := h
  obtain rfl := Vals.ref1 r
  have sb : Sub X k X.A.in1 := Sub.in1 (⟨hr, rfl⟩ : Sub X (k + 1) X.A)
  obtain ⟨mA, J, _⟩ := ins_get I.hok ha
  obtain ⟨od, J, _⟩ := J.look
  refine Calls.call_function_entry kind_len plain_len entry_len (args_len1 _) ?_
  unfold Builtin.«len»
  refine wpAny_bind (m := oneArg "len" _) (wpAny_pure ?_)
  have e0 : Env0 X.prog X.w X.K X.mg X.base X.A.in1 X.stack s H := by
    have e := I.env0
    exact ⟨by rw [sb.fr]; exact e.frames, e.mod, e.bs, e.bsz, e.funs, e.frf, e.hok, e.bare⟩
  have r2 : Vals [V.ref a] [Value.ref a] := .cons rfl .nil
  refine wpAny_bind (m := callSpecial? (.ref a) (PySem.Str.ofString "__len__")) (PySem.W.special_fn I.kIn J L.at_ (beq_iff_eq.mp L.fn) ?_)
  refine wpAny_call (codeAny_mono (F.run X.A.in1 X.stack s H ⟨[.ref a], []⟩ [.ref a] [.ref a] _ _ sb.room e0 (by
    have := hb s [.ref a] I.kIn rfl
    simpa using this) r2 hsp) fun r s' hq => ?_)
  cases r with
  | error e => exact pass0 pins σ H s e s' I hq
  | ok fl =>
    cases fl with
    | next => exact False.elim hq
    | brk => exact False.elim hq
    | cont => exact False.elim hq
    | ret u =>
      obtain ⟨v, H', I', rv, n, rfl, hn, q⟩ := I.after hq
      obtain ⟨tk, rfl⟩ := rv
      refine wpAny_bind (wpAny_holding (wpAny_pure ?_))
      refine wpAny_bind (wpAny_letGo ?_)
      show wpAny _ _ (if ((n : Nat) : Int) < 0 then _ else _) _ _ _
      rw [if_neg (by omega)]
      show wpAny _ _ (if ((n : Nat) : Int) ≥ 2 ^ 63 then _ else _) _ _ _
      rw [if_neg (by omega)]
      exact wpAny_bind (wpAny_mkInt (wpAny_pure ⟨_, rfl, .int n, H', I'.tok _, ⟨_, rfl⟩, q⟩))
/-! ### o == y by the own __eq__, with any answer -/
/-- o of the class at C, y of a type that is no class below C -/
def rOEq (K : PySem.W.Frag) (C : Addr) (sp : Sp) : R2 := fun x y H Q => ∃ a dx fs tb, x = .ref a ∧ H a = some (.ins C dx fs) ∧ TyX K H y tb ∧ PySem.W.notFirst K C tb = true ∧ sp [x, y] H (fun v H' => (∃ b, v = .bl b) ∧ Q v H') (fun _ _ _ => False)
theorem op_oeq {k : Nat} {C f : Addr} {fd : FuncData} {sp : Sp} {ps : List Str}
    (F : FnOk X.prog X.w X.K X.mg X.base CX0 k f fd ps sp) (hs : PySem.W.findIn X.K (.ref C) "__eq__" = some (some (.ref f))) (hf : PySem.W.isFn X.K (.ref f) = true) (hr : Room k X.A) (hb : Binds X.K fd ps []) : OpR X (compareOp .Eq) (rOEq X.K C sp) := by
  intro pins s σ H x y v u Q I rx ry hq
  obtain ⟨a, dx, fs, tb, rfl, ha, hy, hnf, hsp⟩ := hq
  cases rx
  show wpAny (model X.prog X.w) X.A (richCompare .Eq (.ref a) u) (EP X pins σ Q) X.xe s
  obtain ⟨mA, J, _⟩ := ins_get I.hok ha
  obtain ⟨od, J, _⟩ := J.look
  obtain ⟨m, hF⟩ := I.fr
  refine PySem.W.cmp_K (op := .Eq) (tb := tb) hr.units0 hF I.ok.mod.kin J (let ⟨_, kx, p, _⟩ := kit_of I ry hy; kx.ty _ _ I.kIn p) hnf hs hf ?_
  have hl := F.len _ _ _ _ hsp
  have r2 : Vals [V.ref a, y] [Value.ref a, u] := .cons rfl (.cons ry .nil)
  refine wpAny_call (codeAny_mono (F.run X.A X.stack s H ⟨[.ref a, u], []⟩ [.ref a, u] [.ref a, y] _ _ hr I.env0 (by
    have := hb s [.ref a, u] I.kIn (by simpa using hl)
    simpa using this) r2 hsp) fun r s' hq => ?_)
  cases r with
  | error e => exact pass0 pins σ H s e s' I hq
  | ok fl =>
    cases fl with
    | next => exact False.elim hq
    | brk => exact False.elim hq
    | cont => exact False.elim hq
    | ret w =>
      obtain ⟨z, H', I', rz, ⟨b, rfl⟩, q⟩ := I.after hq
      cases rz
      exact ⟨.bl b, H', I', rfl, q⟩
/-! ### o.f(e), where the field f holds an object that may be called -/
theorem getmeth_fld {f : Str} {v : V} {a C dx : Addr} {fs : List (Str × V)} {A : Around} {E : Value → Shared → Prop} {pl : Sem Bool} {Q : Value × List Value → Shared → Prop} (I : Inv X pins σ H s) (e : H a = some (.ins C dx fs)) (c : Cls X.K C) (n : NoAttr X.K C f) (l : fs.lookup f = some v)
    (h : ∀ u s', Inv X pins σ H s' → RelV v u → Q (u, []) s') : wpAny (model X.prog X.w) A (getMethod (.ref a) f pl) Q E s := by
  obtain ⟨mA, O, _⟩ := ins_get I.hok e
  obtain ⟨od, J, _⟩ := O.look
  have hcan := PySem.F.canon_object_ga
  obtain ⟨h1, h2⟩ := PySem.W.plainGet_of (c.get f)
  unfold getMethod specialOf
  refine wpAny_bind (wpAny_bind (J.type.here ((PySem.W.looks_findIn I.kIn h1).here ?_)))
  dsimp only
  rw [hcan, if_neg (by decide)]
  refine wpAny_bind (wpAny_bind (J.type.here ((PySem.W.looks_findIn I.kIn h2).here ?_)))
  refine wpAny_bind (wpAny_bind (J.type.here ((PySem.W.looks_findIn I.kIn n).here ?_)))
  exact wpAny_bind (getattr_ok I e c n l fun u s' I' ru => wpAny_pure (h u s' I' ru))
def tFldCall (C : Addr) (f : Str) (D : Addr) (sp : Sp) (E : XK) (ta : TE) (t : TA) : TE := fun σ H Q => ta σ H fun x H1 => ∃ a dx fs b dy gs, x = .ref a ∧ H1 a = some (.ins C dx fs) ∧ fs.lookup f = some (.ref b) ∧ t σ H1 fun vs H2 => H2 b = some (.ins D dy gs) ∧ sp (.ref b :: vs) H2 Q E
theorem pe_fldCall {CX : CXT} {k : Nat} {fn C D : Addr} {fd : FuncData} {ps : List Str} {sp : Sp} {E : XK} {o : Expr} {m : Str} {apos pos : Pos} {e : Expr} {es : List Expr} {ta : TE} {t : TA} {pl : Sem Bool} (he : PE X o ta) (c : Cls X.K C) (n : NoAttr X.K C m)
    (F : FnOk X.prog X.w X.K X.mg X.base CX k fn fd ps sp) (L : WC.Cl X.K D fn) (hr : Room k X.A) (hb : Binds X.K fd ps []) (hx : Passes CX X E) (ha : PA X (e :: es) t)
    (hst : starEach (e :: es) X.env = (false, eval e X.env) :: starEach es X.env := by rfl) (hpl : (backTo pos (starEach es X.env)).any (·.1) = false := by rfl)
    (ht : eval (.Call (.Attribute o m apos) (e :: es) [] pos) X.env = (do
      let ov ← eval o X.env
      standAt apos.atName
      let (f, first) ← holding [ov] (getMethod ov m pl)
      callWith pos f first (backTo pos (starEach (e :: es) X.env)) (backToKw pos (keywordEach [] X.env))) := by rfl) :
    PE X (.Call (.Attribute o m apos) (e :: es) [] pos) (tFldCall C m D sp E ta t) := by
  refine ⟨fun pins s σ H Q I h => ?_⟩
  refine PySem.W.methodCall_KW (pl := pl) (thn (he.run pins s σ H _ I h) fun u s1 ⟨x, H1, I1, rx, a, dx, fs, b, dy, gs, ex, ea, l, q⟩ => ?_) ht
  subst ex
  obtain rfl : u = Value.ref a := rx
  refine getmeth_fld I1 ea c n l fun u2 s2 I2 ru2 => ?_
  obtain rfl : u2 = Value.ref b := ru2
  refine WC.callWith_inst (o := PySem.W.instObj D dy) rfl (thn (ha.run pos pins s2 σ _ _ I2 q) fun us s3 ⟨vs, H3, I3, r, q3⟩ => ?_) hst hpl
  obtain ⟨q1, q2⟩ := q3
  obtain ⟨mA, O, _⟩ := ins_get I3.hok q1
  obtain ⟨od, J, _⟩ := O.look
  refine ⟨O.obj, ?_⟩
  have r3 : Vals (.ref b :: vs) (.ref b :: us) := .cons rfl r
  have hl : ((.ref b :: us) ++ ([] : List Value)).length = ps.length := by rw [List.append_nil, ← r3.length]; exact F.len _ _ _ _ q2
  have run := F.run X.A X.stack s3 H3 ⟨.ref b :: us, []⟩ (.ref b :: us) (.ref b :: vs) Q E hr I3.env0 (by have := hb s3 (.ref b :: us) I3.kIn hl; rw [List.append_nil] at this; exact this) r3 q2
  refine wpAny_call (codeAny_mono (PySem.W.kco_code (a := ⟨us, []⟩) I3.kIn J rfl L.at_ L.fn L.fi run) fun r s' hq => ?_)
  cases r with
  | error e => exact hx pins σ H3 s3 e s' I3 hq
  | ok fl =>
    cases fl with
    | ret u => exact I3.after hq
    | next => exact False.elim hq
    | brk => exact False.elim hq
    | cont => exact False.elim hq
/-! ### o + y by the own __add__, both of one class -/
def rOAdd (C : Addr) (sp : Sp) (E : XK) : R2 := fun x y H Q => ∃ a dx fs b dy gs, x = .ref a ∧ H a = some (.ins C dx fs) ∧ y = .ref b ∧ H b = some (.ins C dy gs) ∧ sp [x, y] H (fun v H' => (∃ p, v = .ref p) ∧ Q v H') E
theorem op_oadd {CX : CXT} {k : Nat} {C f : Addr} {fd : FuncData} {sp : Sp} {ps : List Str} {E : XK} (F : FnOk X.prog X.w X.K X.mg X.base CX k f fd ps sp) (hc : PySem.W.selfFirst X.K C = true) (hs : PySem.W.findIn X.K (.ref C) "__add__" = some (some (.ref f))) (hf : PySem.W.isFn X.K (.ref f) = true)
    (hr : Room k X.A) (hb : Binds X.K fd ps []) (hx : Passes CX X E) : OpR X (binaryOp .Add) (rOAdd C sp E) := by
  intro pins s σ H x y v u Q I rx ry hq
  obtain ⟨a, dx, fs, b, dy, gs, rfl, ha, rfl, hb2, hsp⟩ := hq
  cases rx
  cases ry
  obtain ⟨mA, J, _⟩ := ins_get I.hok ha
  obtain ⟨od, J, _⟩ := J.look
  obtain ⟨mB, J', _⟩ := ins_get I.hok hb2
  obtain ⟨od', J', _⟩ := J'.look
  obtain ⟨m, hF⟩ := I.fr
  refine PySem.W.binop_K (op := .Add) hF I.ok.mod.kin J J'.type hc hs hf ?_
  have hl := F.len _ _ _ _ hsp
  have r2 : Vals [V.ref a, V.ref b] [Value.ref a, Value.ref b] := .cons rfl (.cons rfl .nil)
  refine wpAny_call (codeAny_mono (F.run X.A X.stack s H ⟨[.ref a, .ref b], []⟩ [.ref a, .ref b] [.ref a, .ref b] _ E hr I.env0 (by
    have := hb s [.ref a, .ref b] I.kIn (by simpa using hl)
    simpa using this) r2 hsp) fun r s' hq => ?_)
  cases r with
  | error e => exact hx pins σ H s e s' I hq
  | ok fl =>
    cases fl with
    | next => exact False.elim hq
    | brk => exact False.elim hq
    | cont => exact False.elim hq
    | ret w =>
      obtain ⟨z, H', I', rz, ⟨p, rfl⟩, q⟩ := I.after hq
      cases rz
      exact ⟨.ref p, H', I', rfl, q⟩
end
end KO
/-! What the walks share. -/
namespace P10
open PySem PySem.Spec PyProof.Rows L2 SX EX WK
def top (i : Nat) : Stmt := PySem.Challenge.pw_wholecables_k10_inverse_whole.main.body.getD i (.Pass ⟨0, 0, 0, 0⟩)
def clsBody : Stmt → List Stmt
  | .ClassDef _ _ _ b _ _ _ _ _ _ _ => b
  | _ => []
def mth (i j : Nat) : Stmt := (clsBody (top i)).getD j (.Pass ⟨0, 0, 0, 0⟩)
/-- a def as its callers see it -/
def Cal (P : Program) (w : World) (K : PySem.W.Frag) (mg : Str → Option Value) (base : Heap) (k : Nat) (x : Str) (ps : List Str) (sp : Sp) : Prop :=
  ∃ (f : Addr) (fd : FuncData), FnOk P w K mg base CX0 k f fd ps sp ∧ mg x = some (.ref f) ∧ PySem.W.keepIn K (.ref f) = true ∧ Binds K fd ps []
theorem pe_cal {X : Cx} {k : Nat} {x : Str} {ps : List Str} {sp : Sp} {p pos : Pos} {e : Expr} {es : List Expr} {t : TA} (C : Cal X.prog X.w X.K X.mg X.base k x ps sp) (hr : Room k X.A) (hg : Gl X x) (ha : PA X (e :: es) t)
    (hdb : (x == ("__debug__" : Str)) = false := by decide) (he : starEach (e :: es) X.env = (false, eval e X.env) :: starEach es X.env := by rfl) (hpl : (backTo pos (starEach es X.env)).any (·.1) = false := by rfl) :
    PE X (.Call (.Name x p) (e :: es) [] pos) (tCall sp [] E0 t) := by
  obtain ⟨f, fd, G, m, kp, b⟩ := C
  exact pe_call G hr hg m kp b .nil pass0 ha hdb he hpl
/-- a class as its makers see it: n values and keywords ks -/
def CalK (P : Program) (w : World) (K : PySem.W.Frag) (mg : Str → Option Value) (base : Heap) (k : Nat) (x : Str) (C : Addr) (n : Nat) (ks : List Str) (sp : Sp) : Prop :=
  ∃ (f : Addr) (fd : FuncData) (ps : List Str) (g : List Value → List Value → List Value), Mk K C f ∧ FnOk P w K mg base CX0 k f fd ps sp ∧ mg x = some (.ref C) ∧ KBn K fd ps (n + 1) ks g (fun vs zs => vs ++ zs)
theorem pe_calK {X : Cx} {k n : Nat} {C : Addr} {x : Str} {ks : List Str} {sp : Sp} {p pos : Pos} {e : Expr} {es : List Expr} {kws : List Keyword} {t tk : TA} (M : CalK X.prog X.w X.K X.mg X.base k x C n ks sp) (hr : Room (k + 1) X.A) (hg : Gl X x) (ha : PA X (e :: es) t) (hkw : PK X kws tk)
    (hall : (backToKw pos (keywordEach kws X.env)).all (·.1.isSome) = true := by rfl) (hks : (backToKw pos (keywordEach kws X.env)).filterMap (·.1) = ks := by rfl) (hdb : (x == ("__debug__" : Str)) = false := by decide)
    (he : starEach (e :: es) X.env = (false, eval e X.env) :: starEach es X.env := by rfl) (hpl : ((backTo pos (starEach (e :: es) X.env)).any (·.1) || (backToKw pos (keywordEach kws X.env)).any (·.1.isNone)) = false := by rfl) :
    PE X (.Call (.Name x p) (e :: es) kws pos) (tMakeK C n ks.length sp (fun vs zs => vs ++ zs) E0 t tk) := by
  obtain ⟨f, fd, ps, g, M, F, hm, hb⟩ := M
  exact pe_makeK M F hr hg hm hb pass0 ha hkw hall hks hdb he hpl
/-- a method as its callers see it -/
def CalM (P : Program) (w : World) (K : PySem.W.Frag) (mg : Str → Option Value) (base : Heap) (k : Nat) (C : Addr) (m : Str) (ps : List Str) (sp : Sp) : Prop :=
  ∃ (f : Addr) (fd : FuncData), FnOk P w K mg base CX0 k f fd ps sp ∧ Meth K C m f ∧ Binds K fd ps []
theorem pe_calM {X : Cx} {k : Nat} {C : Addr} {m : Str} {ps : List Str} {sp : Sp} {apos pos : Pos} {o e : Expr} {es : List Expr} {ta : TE} {t : TA} {pl : Sem Bool} (c : Cls X.K C) (M : CalM X.prog X.w X.K X.mg X.base k C m ps sp) (hr : Room k X.A) (he : PE X o ta) (ha : PA X (e :: es) t)
    (hst : starEach (e :: es) X.env = (false, eval e X.env) :: starEach es X.env := by rfl) (hpl : (backTo pos (starEach es X.env)).any (·.1) = false := by rfl)
    (ht : eval (.Call (.Attribute o m apos) (e :: es) [] pos) X.env = (do
      let ov ← eval o X.env
      standAt apos.atName
      let (f, first) ← holding [ov] (getMethod ov m pl)
      callWith pos f first (backTo pos (starEach (e :: es) X.env)) (backToKw pos (keywordEach [] X.env))) := by rfl) :
    PE X (.Call (.Attribute o m apos) (e :: es) [] pos) (tMeth C m sp [] E0 ta t) := by
  obtain ⟨f, fd, F, hm, hb⟩ := M
  exact pe_meth he c hm F hr hb .nil pass0 ha hst hpl ht
/-- an instance of the class at C as its callers see it -/
def CalI (P : Program) (w : World) (K : PySem.W.Frag) (mg : Str → Option Value) (base : Heap) (k : Nat) (C : Addr) (ps : List Str) (sp : Sp) : Prop :=
  ∃ (f : Addr) (fd : FuncData), FnOk P w K mg base CX0 k f fd ps sp ∧ WC.Cl K C f ∧ Binds K fd ps []
theorem pe_calI {X : Cx} {k i : Nat} {C : Addr} {x : Str} {ps : List Str} {sp : Sp} {p pos : Pos} {e : Expr} {es : List Expr} {t : TA} (M : CalI X.prog X.w X.K X.mg X.base k C ps sp) (hr : Room k X.A) (hN : X.N[i]? = some x) (hv : Vis X.env.scope x) (ha : PA X (e :: es) t)
    (hdb : (x == ("__debug__" : Str)) = false := by decide) (hcd : (x == ("__classdict__" : Str)) = false := by decide)
    (he : starEach (e :: es) X.env = (false, eval e X.env) :: starEach es X.env := by rfl) (hpl : (backTo pos (starEach es X.env)).any (·.1) = false := by rfl) :
    PE X (.Call (.Name x p) (e :: es) [] pos) (WC.tCallI i C sp E0 t) := by
  obtain ⟨f, fd, F, hm, hb⟩ := M
  exact WC.pe_callI F hm hr hN hv hb pass0 ha hdb hcd he hpl
/-- the built-in names that the text asks for are the built-in ones -/
structure Txt (mg : Str → Option Value) : Prop where
  b_len : mg "len" = none
  b_int : mg "int" = none
  b_bool : mg "bool" = none
  b_tuple : mg "tuple" = none
  b_list : mg "list" = none
  b_isinstance : mg "isinstance" = none
  b_range : mg "range" = none
  b_enumerate : mg "enumerate" = none
  b_zip : mg "zip" = none
  b_sum : mg "sum" = none
  b_min : mg "min" = none
  b_abs : mg "abs" = none
  b_ValueError : mg "ValueError" = none
  b_all : mg "all" = none
  b_any : mg "any" = none
  b_max : mg "max" = none
  b_reversed : mg "reversed" = none
  g_gcd : mg "gcd" = some (.builtin "math.gcd")
/-- the classes of the text -/
structure Obs (K : PySem.W.Frag) (cF cR : Addr) : Prop where
  clF : Cls K cF
  F_size : NoAttr K cF "size"
  F_entries : NoAttr K cF "entries"
  F_bottom : NoAttr K cF "bottom"
theorem line_ge {n : Nat} (h : n ≤ 100000) : n ≤ sizeLine := Nat.le_trans h (by rw [sizeLine_eq]; decide)
theorem two_line : 2 ≤ sizeLine := line_ge (by omega)
theorem three_line : 3 ≤ sizeLine := line_ge (by omega)
theorem at_pos {α : Type} {xs : List α} {z : Int} {v : α} (h0 : 0 ≤ z) (h : xs[z.toNat]? = some v) : atI xs z = some v := by
  have e : z = ((z.toNat : Nat) : Int) := by omega
  rw [e]
  exact atI_nat h
theorem same_new {H : Hp} {p : Addr} (h : H p = none) (o : HO) : Same H (upd H p o) := new_same h o
theorem lc_yes {σ : L2.St} {H : Hp} {A B : Hp → Prop} (h : A H) : tYes σ H (fun b H3 => if b = true then A H3 else B H3) := by
  show (if true = true then A H else B H)
  exact iteT h
theorem ifT {c : Bool} {A B : Prop} (hc : c = true) (h : A) : if c = true then A else B := by rw [if_pos hc]; exact h
theorem ifF {c : Bool} {A B : Prop} (hc : c = false) (h : B) : if c = true then A else B := by rw [hc, if_neg Bool.false_ne_true]; exact h
theorem dec_ne {a b : V} (h : a ≠ b) : decide (a = b) = false := decide_eq_false h
theorem int_ne {a b : Int} (h : a ≠ b) : decide (V.int a = V.int b) = false := decide_eq_false fun e => h (V.int.inj e)
theorem int_eq {a b : Int} (h : a = b) : decide (V.int a = V.int b) = true := decide_eq_true (by rw [h])
theorem same_at {H H' : Hp} {D : Addr} {o : HO} (e : Same H H') (h : H D = none) : Same H (upd H' D o) := fun b u q => by
  have hne : b ≠ D := fun z => by
    rw [z, h] at q
    cases q
  rw [upd_ne hne]
  exact e _ _ q
theorem dec_lt {a b : Int} (h : decide (a < b) = true) : a < b := of_decide_eq_true h
theorem not_lt {a b : Int} (h : ¬ decide (a < b) = true) : ¬ a < b := of_decide_eq_false (Bool.eq_false_iff.mpr h)
theorem kitLT {K : PySem.W.Frag} : PySem.W.kitOne K (.type "list") (.type "list") = some true := kit_ty (by decide +kernel)
theorem wmul {m n : Nat} {x y : Int} (hx : B m x) (hy : B n y) (h0 : 0 < m) (h1 : 0 < n) (h : m + n ≤ 1000000) : CMulW x y := wide_mul hx hy h0 h1 h
theorem wdiv {n : Nat} {x g : Int} (hg : 0 < g) (h : B n g) (h0 : 0 < n) (h9 : n ≤ 9000) : CDivW x g := wide_div hg h h0 h9
theorem lk_hit {n : Str} {v : V} {l : List (Str × V)} : ((n, v) :: l).lookup n = some v := by rw [List.lookup_cons, beq_self_eq_true]
theorem lk_skip {n m : Str} {v : V} {l : List (Str × V)} (h : ¬ m = n) : ((n, v) :: l).lookup m = l.lookup m := by
  rw [List.lookup_cons]
  have : (m == n) = false := beq_eq_false_iff_ne.mpr h
  rw [this]
/-- a pair of ints -/
def FrAt (H : Hp) (a : Addr) (t b : Int) : Prop := H a = some (.tup [.int t, .int b])
theorem FrAt.same {H H' : Hp} {a : Addr} {t b : Int} (e : Same H H') (h : FrAt H a t b) : FrAt H' a t b := e _ _ h
end P10
namespace P10
open PySem PySem.Spec PyProof.Rows L2 SX EX WK
theorem kLT {K : PySem.W.Frag} : PySem.W.kitAny K (.type "list") [.type "list", .type "tuple"] = some true := by
  unfold PySem.W.kitAny
  rw [show PySem.W.kitOne K (.type "list") (.type "list") = some true from kit_ty (by decide +kernel)]
theorem kTT {K : PySem.W.Frag} : PySem.W.kitAny K (.type "tuple") [.type "list", .type "tuple"] = some true := by
  unfold PySem.W.kitAny
  rw [show PySem.W.kitOne K (.type "tuple") (.type "list") = some false from kit_ty (by decide +kernel)]
  unfold PySem.W.kitAny
  rw [show PySem.W.kitOne K (.type "tuple") (.type "tuple") = some true from kit_ty (by decide +kernel)]
theorem kIT {K : PySem.W.Frag} : PySem.W.kitAny K (.type "int") [.type "list", .type "tuple"] = some false := by
  unfold PySem.W.kitAny
  rw [show PySem.W.kitOne K (.type "int") (.type "list") = some false from kit_ty (by decide +kernel)]
  unfold PySem.W.kitAny
  rw [show PySem.W.kitOne K (.type "int") (.type "tuple") = some false from kit_ty (by decide +kernel)]
  rfl
theorem ty_tup {K : PySem.W.Frag} {H : Hp} {a : Addr} {xs : List V} (h : SqT K H a xs) : TyX K H (.ref a) (.type "tuple") := by
  rcases h with (h | ⟨o, h⟩) | ⟨o, its, n, h, c, _⟩
  · exact .base (.tup h)
  · exact .fTuple h
  · exact .kTuple h c
def spFz (K : PySem.W.Frag) (n : Nat) : Sp := fun vs H Q _ => ∃ (v : V) (t : Td), vs = [v] ∧ Sn K H v t ∧ t.dep ≤ n ∧ t.sm ∧ ∀ v' H', Same H H' → Fz K H' v' t → Q v' H'
theorem pairLT : Paired ClsV [V.ty "list", V.ty "tuple"] [.type "list", .type "tuple"] := .cons (.ty _) (.cons (.ty _) .nil)
section
variable {P : Program} {w : World} {K : PySem.W.Frag} {mg : Str → Option Value} {base : Heap} {f : Addr} {fd : FuncData}
abbrev s_frozen_numbers : Stmt := top 12
abbrev N_frozen_numbers : List Str := ["value"]
theorem sc_frozen_numbers : FnScope N_frozen_numbers ["value"] (defScope s_frozen_numbers) := ⟨rfl, rfl, rfl, by decide +kernel, rfl, by decide +kernel, by decide +kernel⟩
theorem ok_frozen_numbers (F : Fun K "frozen_numbers" "frozen_numbers" s_frozen_numbers f fd) (T : Txt mg) : FnOk P w K mg base CX0 1 f fd ["value"] (spFz K 1) := by
  refine F.ok sc_frozen_numbers (fun vs H Q E h => ?_) (fun cdv A outer s H vs Q E hr h => ?_)
  · obtain ⟨v, t, rfl, _⟩ := h
    rfl
  obtain ⟨v, t, rfl, hs, hd, hm, q⟩ := h
  refine ⟨_, (pss_cons (ps_if (pt_val (pe_callB call_isiT (by rfl) T.b_isinstance (by decide +kernel) (pa_cons (pv 0) (pa_cons (pe_tup (pa_cons (pe_bltn (v := .ty "list") (by rfl) T.b_list (by decide +kernel) rfl) (pa_cons (pe_bltn (v := .ty "tuple") (by rfl) T.b_tuple (by decide +kernel) rfl) pa_nil))) pa_nil)))) (pss_one (ps_ret (pe_callTy call_tuple_of (by rfl) T.b_tuple (by decide +kernel) (pa_cons (pv 0) pa_nil)))) pss_nil)
  (pss_one (ps_ret (pv 0)))), ?_⟩
  refine ⟨_, rfl, two_line, fun tp htp => ?_⟩
  have g := same_new htp (.tup [V.ty "list", V.ty "tuple"])
  have hs' := hs.same g
  cases hs' with
  | int i => exact ⟨_, tp, _, _, _, _, rfl, upd_same, pairLT, .base (.int i), kIT, _, rfl, ifF rfl ⟨_, rfl, q _ _ g (.int i)⟩⟩
  | @lst a vs ts ha hall =>
    simp only [Td.dep] at hd
    refine ⟨_, tp, _, _, _, _, rfl, upd_same, pairLT, .base (.lst ha), kLT, _, rfl, ifT rfl ⟨_, rfl, a, _, rfl, .inl ⟨SqL.of ha, fun l hl => ?_⟩⟩⟩
    have g2 := same_new hl (.tup vs)
    exact q _ _ (g.trans g2) (.tup (SqT.of upd_same) ((hall.zero (by omega)).tk (WK.Same.tk g2)))
  | @tup a vs ts ha hall =>
    simp only [Td.dep] at hd
    exact ⟨_, tp, _, _, _, _, rfl, upd_same, pairLT, ty_tup ha, kTT, _, rfl, ifT rfl ⟨_, rfl, a, _, rfl, .inr ⟨ha, q _ _ g (.tup ha (hall.zero (by omega)))⟩⟩⟩
abbrev s_frozen_part : Stmt := top 13
abbrev N_frozen_part : List Str := ["value", "part"]
theorem sc_frozen_part : FnScope N_frozen_part ["value"] (defScope s_frozen_part) := ⟨rfl, rfl, rfl, by decide +kernel, rfl, by decide +kernel, by decide +kernel⟩
theorem ok_frozen_part (F : Fun K "frozen_part" "frozen_part" s_frozen_part f fd) (T : Txt mg) (C_frozen_numbers : Cal P w K mg base 1 "frozen_numbers" ["value"] (spFz K 1)) : FnOk P w K mg base CX0 2 f fd ["value"] (spFz K 2) := by
  refine F.ok sc_frozen_part (fun vs H Q E h => ?_) (fun cdv A outer s H vs Q E hr h => ?_)
  · obtain ⟨v, t, rfl, _⟩ := h
    rfl
  obtain ⟨v, t, rfl, hs, hd, hm, q⟩ := h
  refine ⟨_, (pss_cons (ps_if (pt_val (pe_callB call_isiT (by rfl) T.b_isinstance (by decide +kernel) (pa_cons (pv 0) (pa_cons (pe_tup (pa_cons (pe_bltn (v := .ty "list") (by rfl) T.b_list (by decide +kernel) rfl) (pa_cons (pe_bltn (v := .ty "tuple") (by rfl) T.b_tuple (by decide +kernel) rfl) pa_nil))) pa_nil)))) (pss_one (ps_ret (pe_callTy call_tuple_of (by rfl) T.b_tuple (by decide +kernel) (pa_cons (pe_lc (own := [("part", 1)]) (g := gName 1) (tt := tYes) (by rfl) sc_frozen_part.nd (pi_or (pi_list (pv 0)) (pi_tup (pv 0))) (blkOk_by (N := N_frozen_part) (sc := defScope s_frozen_part) (by decide +kernel)) (fun _ _ _ _ _ => (pg_name (i := 1) sc_frozen_part.nd rfl (Or.inl rfl))) (fun _ _ _ _ _ => pts_nil) (fun _ _ _ _ _ => (pe_cal C_frozen_numbers (hr.mono (by omega)) rfl (pa_cons (pv 1) pa_nil)))) pa_nil)))) pss_nil)
  (pss_one (ps_ret (pv 0)))), ?_⟩
  refine ⟨_, rfl, two_line, fun tp htp => ?_⟩
  have g := same_new htp (.tup [V.ty "list", V.ty "tuple"])
  have hs' := hs.same g
  cases hs' with
  | int i => exact ⟨_, tp, _, _, _, _, rfl, upd_same, pairLT, .base (.int i), kIT, _, rfl, ifF rfl ⟨_, rfl, q _ _ g (.int i)⟩⟩
  | @lst a vs ts ha hall =>
    simp only [Td.dep] at hd
    simp only [Td.sm] at hm
    have hl := hall.len
    refine ⟨_, tp, _, _, _, _, rfl, upd_same, pairLT, .base (.lst ha), kLT, _, rfl, ifT rfl (.inl ⟨_, rfl, a, rfl, ⟨_, SqL.of ha⟩, fun D hD => ?_⟩)⟩
    refine lc_m (walk_list (K := K) (a := a) (xs := vs)) (Fz K) stb_Fz ts hl hm.1 hD (fun H' s => s.seq (SqL.of ha)) (fun _ _ _ _ => ys_at) id (fun i b x H1 H2 hb s1 s2 y A B hA => ?_) (fun H' l s1 hl1 rs => ?_)
    · obtain ⟨t1, ht1, hx⟩ := hall.get y.2
      rw [hb] at ht1
      cases ht1
      have mb := List.mem_of_getElem? hb
      exact ⟨rfl, lc_yes ⟨_, rfl, _, b, rfl, hx.same s2, Nat.le_trans (deps_le (n := 1) (by omega) mb) (Nat.le_refl _), sms_of hm.2 mb, fun v' H' s h => hA _ _ s h⟩⟩
    · rw [List.map_id] at rs
      refine ⟨D, l, rfl, .inl ⟨SqL.of hl1, fun l2 hl2 => ?_⟩⟩
      have g2 := same_new hl2 (.tup l)
      exact q _ _ (g.trans (s1.trans g2)) (.tup (SqT.of upd_same) (rs.fz.tk (WK.Same.tk g2)))
  | @tup a vs ts ha hall =>
    simp only [Td.dep] at hd
    simp only [Td.sm] at hm
    have hl := hall.len
    refine ⟨_, tp, _, _, _, _, rfl, upd_same, pairLT, ty_tup ha, kTT, _, rfl, ifT rfl (.inr ⟨_, rfl, a, rfl, ⟨_, ha⟩, fun D hD => ?_⟩)⟩
    refine lc_m (walk_tup (K := K) (a := a) (xs := vs)) (Fz K) stb_Fz ts hl hm.1 hD (fun H' s => Same_seqT s ha) (fun _ _ _ _ => ys_at) id (fun i b x H1 H2 hb s1 s2 y A B hA => ?_) (fun H' l s1 hl1 rs => ?_)
    · obtain ⟨t1, ht1, hx⟩ := hall.get y.2
      rw [hb] at ht1
      cases ht1
      have mb := List.mem_of_getElem? hb
      exact ⟨rfl, lc_yes ⟨_, rfl, _, b, rfl, hx.same s2, Nat.le_trans (deps_le (n := 1) (by omega) mb) (Nat.le_refl _), sms_of hm.2 mb, fun v' H' s h => hA _ _ s h⟩⟩
    · rw [List.map_id] at rs
      refine ⟨D, l, rfl, .inl ⟨SqL.of hl1, fun l2 hl2 => ?_⟩⟩
      have g2 := same_new hl2 (.tup l)
      exact q _ _ (g.trans (s1.trans g2)) (.tup (SqT.of upd_same) (rs.fz.tk (WK.Same.tk g2)))
abbrev s_frozen : Stmt := top 14
abbrev N_frozen : List Str := ["value", "part"]
theorem sc_frozen : FnScope N_frozen ["value"] (defScope s_frozen) := ⟨rfl, rfl, rfl, by decide +kernel, rfl, by decide +kernel, by decide +kernel⟩
theorem ok_frozen (F : Fun K "frozen" "frozen" s_frozen f fd) (T : Txt mg) (C_frozen_part : Cal P w K mg base 2 "frozen_part" ["value"] (spFz K 2)) : FnOk P w K mg base CX0 3 f fd ["value"] (spFz K 3) := by
  refine F.ok sc_frozen (fun vs H Q E h => ?_) (fun cdv A outer s H vs Q E hr h => ?_)
  · obtain ⟨v, t, rfl, _⟩ := h
    rfl
  obtain ⟨v, t, rfl, hs, hd, hm, q⟩ := h
  refine ⟨_, (pss_cons (ps_if (pt_val (pe_callB call_isiT (by rfl) T.b_isinstance (by decide +kernel) (pa_cons (pv 0) (pa_cons (pe_tup (pa_cons (pe_bltn (v := .ty "list") (by rfl) T.b_list (by decide +kernel) rfl) (pa_cons (pe_bltn (v := .ty "tuple") (by rfl) T.b_tuple (by decide +kernel) rfl) pa_nil))) pa_nil)))) (pss_one (ps_ret (pe_callTy call_tuple_of (by rfl) T.b_tuple (by decide +kernel) (pa_cons (pe_lc (own := [("part", 1)]) (g := gName 1) (tt := tYes) (by rfl) sc_frozen.nd (pi_or (pi_list (pv 0)) (pi_tup (pv 0))) (blkOk_by (N := N_frozen) (sc := defScope s_frozen) (by decide +kernel)) (fun _ _ _ _ _ => (pg_name (i := 1) sc_frozen.nd rfl (Or.inl rfl))) (fun _ _ _ _ _ => pts_nil) (fun _ _ _ _ _ => (pe_cal C_frozen_part (hr.mono (by omega)) rfl (pa_cons (pv 1) pa_nil)))) pa_nil)))) pss_nil)
  (pss_one (ps_ret (pv 0)))), ?_⟩
  refine ⟨_, rfl, two_line, fun tp htp => ?_⟩
  have g := same_new htp (.tup [V.ty "list", V.ty "tuple"])
  have hs' := hs.same g
  cases hs' with
  | int i => exact ⟨_, tp, _, _, _, _, rfl, upd_same, pairLT, .base (.int i), kIT, _, rfl, ifF rfl ⟨_, rfl, q _ _ g (.int i)⟩⟩
  | @lst a vs ts ha hall =>
    simp only [Td.dep] at hd
    simp only [Td.sm] at hm
    have hl := hall.len
    refine ⟨_, tp, _, _, _, _, rfl, upd_same, pairLT, .base (.lst ha), kLT, _, rfl, ifT rfl (.inl ⟨_, rfl, a, rfl, ⟨_, SqL.of ha⟩, fun D hD => ?_⟩)⟩
    refine lc_m (walk_list (K := K) (a := a) (xs := vs)) (Fz K) stb_Fz ts hl hm.1 hD (fun H' s => s.seq (SqL.of ha)) (fun _ _ _ _ => ys_at) id (fun i b x H1 H2 hb s1 s2 y A B hA => ?_) (fun H' l s1 hl1 rs => ?_)
    · obtain ⟨t1, ht1, hx⟩ := hall.get y.2
      rw [hb] at ht1
      cases ht1
      have mb := List.mem_of_getElem? hb
      exact ⟨rfl, lc_yes ⟨_, rfl, _, b, rfl, hx.same s2, Nat.le_trans (deps_le (n := 2) (by omega) mb) (Nat.le_refl _), sms_of hm.2 mb, fun v' H' s h => hA _ _ s h⟩⟩
    · rw [List.map_id] at rs
      refine ⟨D, l, rfl, .inl ⟨SqL.of hl1, fun l2 hl2 => ?_⟩⟩
      have g2 := same_new hl2 (.tup l)
      exact q _ _ (g.trans (s1.trans g2)) (.tup (SqT.of upd_same) (rs.fz.tk (WK.Same.tk g2)))
  | @tup a vs ts ha hall =>
    simp only [Td.dep] at hd
    simp only [Td.sm] at hm
    have hl := hall.len
    refine ⟨_, tp, _, _, _, _, rfl, upd_same, pairLT, ty_tup ha, kTT, _, rfl, ifT rfl (.inr ⟨_, rfl, a, rfl, ⟨_, ha⟩, fun D hD => ?_⟩)⟩
    refine lc_m (walk_tup (K := K) (a := a) (xs := vs)) (Fz K) stb_Fz ts hl hm.1 hD (fun H' s => Same_seqT s ha) (fun _ _ _ _ => ys_at) id (fun i b x H1 H2 hb s1 s2 y A B hA => ?_) (fun H' l s1 hl1 rs => ?_)
    · obtain ⟨t1, ht1, hx⟩ := hall.get y.2
      rw [hb] at ht1
      cases ht1
      have mb := List.mem_of_getElem? hb
      exact ⟨rfl, lc_yes ⟨_, rfl, _, b, rfl, hx.same s2, Nat.le_trans (deps_le (n := 2) (by omega) mb) (Nat.le_refl _), sms_of hm.2 mb, fun v' H' s h => hA _ _ s h⟩⟩
    · rw [List.map_id] at rs
      refine ⟨D, l, rfl, .inl ⟨SqL.of hl1, fun l2 hl2 => ?_⟩⟩
      have g2 := same_new hl2 (.tup l)
      exact q _ _ (g.trans (s1.trans g2)) (.tup (SqT.of upd_same) (rs.fz.tk (WK.Same.tk g2)))
end
end P10
namespace P10
open PySem PySem.Spec PyProof.Rows L2 SX EX WK
theorem take_one {α : Type} {xs : List α} {i : Nat} {x : α} (h : xs[i]? = some x) : xs.take (i + 1) = xs.take i ++ [x] := by
  rw [List.take_add_one, h]
  rfl
theorem ints_at {ns : List Int} {i : Nat} {x : V} (h : (ns.map V.int)[i]? = some x) : ∃ n, ns[i]? = some n ∧ x = V.int n := by
  rw [List.getElem?_map] at h
  cases e : ns[i]? with
  | none => rw [e] at h; cases h
  | some n => rw [e] at h; exact ⟨n, rfl, (Option.some.inj h).symm⟩
def spLow : Sp := fun vs H Q _ => ∃ (l : Addr) (ns : List Int) (b : Int), vs = [.ref l, .int b] ∧ H l = some (.lst (ns.map V.int)) ∧ 0 < b ∧ B 9000 b ∧ ns.length ≤ 16000000 ∧
  ∀ r t H', Same H H' → H' r = some (.tup [.ref t, .int (b / gf b ns)]) → H' t = some (.tup ((ns.map fun n => n / gf b ns).map V.int)) → Q (.ref r) H'
section
variable {P : Program} {w : World} {K : PySem.W.Frag} {mg : Str → Option Value} {base : Heap} {f : Addr} {fd : FuncData}
abbrev s_lowered : Stmt := top 15
abbrev N_lowered : List Str := ["numbers", "bottom", "shared", "number"]
theorem sc_lowered : FnScope N_lowered ["numbers", "bottom"] (defScope s_lowered) := ⟨rfl, rfl, rfl, by decide +kernel, rfl, by decide +kernel, by decide +kernel⟩
theorem ok_lowered (F : Fun K "lowered" "lowered" s_lowered f fd) (T : Txt mg) : FnOk P w K mg base CX0 1 f fd ["numbers", "bottom"] spLow := by
  refine F.ok sc_lowered (fun vs H Q E h => ?_) (fun cdv A outer s H vs Q E hr h => ?_)
  · obtain ⟨l, ns, b, rfl, _⟩ := h
    rfl
  obtain ⟨l, ns, b, rfl, hl, hb, hB, hn, q⟩ := h
  refine ⟨_, (pss_cons (ps_set (i := 2) sc_lowered.nd rfl (Or.inr rfl) (pv 1))
  (pss_cons (ps_for PassesOwn.never rfl (pi_list (pv 0)) (pg_name (i := 3) sc_lowered.nd rfl (Or.inl rfl)) (pss_one (ps_set (i := 2) sc_lowered.nd rfl (Or.inr rfl) (pe_callBfun cr_gcd rfl T.g_gcd (pa_cons (pv 2) (pa_cons (pv 3) pa_nil))))))
  (pss_one (ps_ret (pe_tup (pa_cons (pe_callTy call_tuple_of (by rfl) T.b_tuple (by decide +kernel) (pa_cons (pe_lc (own := [("number", 3)]) (g := gName 3) (tt := tYes) (by rfl) sc_lowered.nd (pi_list (pv 0)) (blkOk_by (N := N_lowered) (sc := defScope s_lowered) (by decide +kernel)) (fun _ _ _ _ _ => (pg_name (i := 3) sc_lowered.nd rfl (Or.inl rfl))) (fun _ _ _ _ _ => pts_nil) (fun _ _ _ _ _ => (pe_op op_fdivW (pv 3) (pv 2)))) pa_nil)) (pa_cons (pe_op op_fdivW (pv 1) (pv 2)) pa_nil))))))), ?_⟩
  have hg := gf_pos hb ns
  have hgB : B 9000 (gf b ns) := B.le (Int.le_of_lt hg) (gf_le hb ns) hB
  refine ⟨_, rfl, _, rfl, l, rfl, ⟨_, SqL.of hl⟩, for_list (K := K) (a := l) (xs := ns.map V.int) (fun i σ H' => ∃ v : Option V, σ = [some (.ref l), some (.int b), some (.int (gf b (ns.take i))), v] ∧ H' = H)
    ⟨none, rfl, rfl⟩ (fun i σ H' _ ⟨_, _, e⟩ => by rw [e]; exact SqL.of hl) ?_ ?_⟩
  · rintro i x σ H' hi ⟨v, rfl, rfl⟩
    obtain ⟨n, hni, rfl⟩ := ints_at hi
    refine ⟨_, rfl, _, rfl, _, _, rfl, some (V.int n), ?_, rfl⟩
    rw [take_one hni, gf_snoc]
    rfl
  · rintro σ H' ⟨v, rfl, rfl⟩
    rw [List.length_map, List.take_length]
    refine ⟨_, rfl, l, rfl, ⟨_, SqL.of hl⟩, fun D hD => ?_⟩
    refine lc_m (walk_list (K := K) (a := l) (xs := ns.map V.int)) RI (stb_RI (K := K)) ns (List.length_map ..) (by omega) hD (fun H' s => s.seq (SqL.of hl)) (fun _ _ _ _ => ys_at) (fun n => n / gf b ns) (fun i n x H1 H2 hb s1 s2 y A B hA => ?_) (fun H2 l1 s1 hl1 rs => ?_)
    · obtain ⟨n', hn', rfl⟩ := ints_at y.2
      rw [hb] at hn'
      cases hn'
      exact ⟨rfl, lc_yes ⟨_, rfl, _, rfl, _, _, rfl, rfl, wdiv hg hgB (by decide) (by decide), hA _ _ (fun _ _ h => h) rfl⟩⟩
    · refine ⟨D, l1, rfl, .inl ⟨SqL.of hl1, fun t ht => ?_⟩⟩
      refine ⟨_, rfl, _, rfl, _, _, rfl, rfl, wdiv hg hgB (by decide) (by decide), two_line, fun r hr' => ?_⟩
      refine q r t _ (s1.trans ((same_new ht _).trans (same_new hr' _))) upd_same ?_
      rw [upd_ne (ne_of_none (upd_same (H := H2) (a := t)) hr'), upd_same, rs.ints]
/-! ### fractions -/
def spFraction : Sp := fun vs H Q _ => ∃ t b : Int, vs = [.int t, .int b] ∧ 0 < b ∧ B 9000 b ∧ ∀ r H', Same H H' → FrAt H' r (t / gI t b) (b / gI t b) → Q (.ref r) H'
abbrev s_fraction : Stmt := top 16
abbrev N_fraction : List Str := ["top", "bottom", "shared"]
theorem sc_fraction : FnScope N_fraction ["top", "bottom"] (defScope s_fraction) := ⟨rfl, rfl, rfl, by decide +kernel, rfl, by decide +kernel, by decide +kernel⟩
theorem ok_fraction (F : Fun K "fraction" "fraction" s_fraction f fd) (T : Txt mg) : FnOk P w K mg base CX0 1 f fd ["top", "bottom"] spFraction := by
  refine F.ok sc_fraction (fun vs H Q E h => ?_) (fun cdv A outer s H vs Q E hr h => ?_)
  · obtain ⟨t, b, rfl, _⟩ := h
    rfl
  obtain ⟨t, b, rfl, hb, hB, q⟩ := h
  refine ⟨_, (pss_cons (ps_if (pt_cmpR op_eq (pv 1) pe_int (nomark _)) (pss_one ps_never) pss_nil)
  (pss_cons (ps_set (i := 2) sc_fraction.nd rfl (Or.inl rfl) (pe_callBfun cr_gcd rfl T.g_gcd (pa_cons (pv 0) (pa_cons (pv 1) pa_nil))))
  (pss_cons (ps_if (pt_cmpR op_lt (pv 1) pe_int (nomark _)) (pss_one (ps_set (i := 2) sc_fraction.nd rfl (Or.inl rfl) (pe_un un_neg (pv 2)))) pss_nil)
  (pss_one (ps_ret (pe_tup (pa_cons (pe_op op_fdivW (pv 0) (pv 2)) (pa_cons (pe_op op_fdivW (pv 1) (pv 2)) pa_nil)))))))), ?_⟩
  refine ⟨_, rfl, rfl, _, rfl, ifF (int_ne (by omega)) ?_⟩
  refine ⟨_, rfl, _, rfl, t, b, rfl, ?_⟩
  refine ⟨_, rfl, _, _, rfl, rfl, _, rfl, ifF (decide_eq_false (by omega)) ?_⟩
  have g := gI_pos' (t := t) hb
  have gB : B 9000 (gI t b) := B.le (Int.le_of_lt g) (by
    have : Nat.gcd t.natAbs b.natAbs ≤ b.natAbs := Nat.le_of_dvd (by omega) (Nat.gcd_dvd_right _ _)
    unfold gI
    omega) hB
  refine ⟨_, rfl, _, rfl, _, _, rfl, rfl, wdiv g gB (by decide) (by decide), _, rfl, _, rfl, _, _, rfl, rfl, wdiv g gB (by decide) (by decide), two_line, fun r hr' => q r _ (same_new hr' _) upd_same⟩
end
end P10
namespace P10
open PySem PySem.Spec PyProof.Rows L2 SX EX WK
theorem inV_ints (x : Int) (ns : List Int) : inV (.int x) (ns.map V.int) = decide (x ∈ ns) := by
  unfold inV
  rw [Bool.eq_iff_iff, List.any_eq_true, decide_eq_true_iff]
  constructor
  · rintro ⟨v, hv, e⟩
    obtain ⟨n, hn, rfl⟩ := List.mem_map.mp hv
    have e1 : (n == x) = true := e
    rw [← eq_of_beq e1]
    exact hn
  · intro h
    exact ⟨.int x, List.mem_map.mpr ⟨x, h, rfl⟩, by show (x == x) = true; exact beq_self_eq_true x⟩
theorem flat_ints (ns : List Int) : (ns.map V.int).all flatV = true := by
  rw [List.all_eq_true]
  intro v hv
  obtain ⟨n, _, rfl⟩ := List.mem_map.mp hv
  rfl
/-- the matrix at v -/
theorem fz_mat {K : PySem.W.Frag} {H : Hp} {v : V} {m : List (List Int)} (h : Fz K H v (tdm m)) : ∃ (a : Addr) (vs : List V), v = .ref a ∧ SqT K H a vs ∧ vs.length = m.length ∧ ∀ (i : Nat) (r : List Int), m[i]? = some r → ∃ p : Addr, vs[i]? = some (.ref p) ∧ SqT K H p (r.map V.int) := by
  cases h with
  | @tup a vs ts ha hall =>
    have hl : vs.length = m.length := by rw [hall.len, List.length_map]
    refine ⟨a, vs, rfl, ha, hl, fun i r hr => ?_⟩
    have hi : i < vs.length := by
      have := (List.getElem?_eq_some_iff.mp hr).1
      omega
    obtain ⟨t, ht, hz⟩ := hall.get (List.getElem?_eq_getElem hi)
    rw [List.getElem?_map, hr] at ht
    cases ht
    generalize hv : vs[i] = u at hz
    cases hz with
    | @tup p us ts hp hq =>
      refine ⟨p, by rw [List.getElem?_eq_getElem hi, hv], ?_⟩
      rw [← hq.ints]
      exact hp
/-- the pairs at v -/
theorem fz_prs {K : PySem.W.Frag} {H : Hp} {v : V} {ps : List RW} (h : Fz K H v (.tup (ps.map tdr))) : ∃ (a : Addr) (vs : List V), v = .ref a ∧ SqT K H a vs ∧ vs.length = ps.length ∧ ∀ (i : Nat) (p : RW), ps[i]? = some p → ∃ q r : Addr, vs[i]? = some (.ref q) ∧ SqT K H q [.ref r, .int p.2] ∧ SqT K H r (p.1.map V.int) := by
  cases h with
  | @tup a vs ts ha hall =>
    have hl : vs.length = ps.length := by rw [hall.len, List.length_map]
    refine ⟨a, vs, rfl, ha, hl, fun i p hp => ?_⟩
    have hi : i < vs.length := by
      have := (List.getElem?_eq_some_iff.mp hp).1
      omega
    obtain ⟨t, ht, hz⟩ := hall.get (List.getElem?_eq_getElem hi)
    rw [List.getElem?_map, hp] at ht
    cases ht
    generalize hv : vs[i] = u at hz
    cases hz with
    | @tup q us ts hq hal =>
      cases hal with
      | cons h1 h2 =>
        cases h2 with
        | cons h3 h4 =>
          cases h4
          cases h3
          cases h1 with
          | @tup r rs ts hr hrs =>
            refine ⟨q, r, by rw [List.getElem?_eq_getElem hi, hv], hq, ?_⟩
            rw [← hrs.ints]
            exact hr
/-- three ints at v -/
theorem fz_tie {K : PySem.W.Frag} {H : Hp} {v : V} {t : T3} (h : Fz K H v (td3 t)) : ∃ a, v = .ref a ∧ SqT K H a [.int t.1, .int t.2.1, .int t.2.2] := by
  cases h with
  | @tup a vs ts ha hall =>
    cases hall with
    | cons h1 h2 =>
      cases h2 with
      | cons h3 h4 =>
        cases h4 with
        | cons h5 h6 =>
          cases h6
          cases h1
          cases h3
          cases h5
          exact ⟨a, rfl, ha⟩
theorem fz_ints {K : PySem.W.Frag} {H : Hp} {v : V} {ns : List Int} (h : Fz K H v (.tup (ns.map Td.int))) : ∃ a, v = .ref a ∧ SqT K H a (ns.map V.int) := by
  cases h with
  | @tup a vs ts ha hall =>
    rw [← hall.ints]
    exact ⟨a, rfl, ha⟩
def Sqr (m : List (List Int)) : Prop := ∀ r ∈ m, r.length = m.length
def ent (m : List (List Int)) (i j : Nat) : Int := (m.getD i []).getD j 0
def Sym (m : List (List Int)) : Prop := ∀ i j, ent m i j = ent m j i
section
variable {P : Program} {w : World} {K : PySem.W.Frag} {mg : Str → Option Value} {base : Heap} {f : Addr} {fd : FuncData}
def spSquare (K : PySem.W.Frag) : Sp := fun vs H Q _ => ∃ (v : V) (m : List (List Int)), vs = [v] ∧ Fz K H v (tdm m) ∧ Sqr m ∧ ∀ H', Same H H' → Q .non H'
abbrev s_check_square : Stmt := top 19
abbrev N_check_square : List Str := ["lines", "row", "line"]
theorem sc_check_square : FnScope N_check_square ["lines"] (defScope s_check_square) := ⟨rfl, rfl, rfl, by decide +kernel, rfl, by decide +kernel, by decide +kernel⟩
theorem ok_check_square (F : Fun K "check_square" "check_square" s_check_square f fd) (T : Txt mg) : FnOk P w K mg base CX0 1 f fd ["lines"] (spSquare K) := by
  refine F.ok sc_check_square (fun vs H Q E h => ?_) (fun cdv A outer s H vs Q E hr h => ?_)
  · obtain ⟨v, m, rfl, _⟩ := h
    rfl
  obtain ⟨v, m, rfl, hz, hs, q⟩ := h
  obtain ⟨a, vs, rfl, ha, hl, hrow⟩ := fz_mat hz
  refine ⟨_, (pss_one (ps_for PassesOwn.never rfl (WE.pi_enT (by rfl) T.b_enumerate (pa_cons (pv 0) pa_nil)) (pg_tup rfl (pgs_cons (pg_name (i := 1) sc_check_square.nd rfl (Or.inl rfl)) (pgs_cons (pg_name (i := 2) sc_check_square.nd rfl (Or.inl rfl)) pgs_nil))) (pss_one (ps_if (pt_cmpR op_ne (pe_callB call_len_seq (by rfl) T.b_len PySem.boot_len (pa_cons (pv 2) pa_nil)) (pe_callB call_len_seq (by rfl) T.b_len PySem.boot_len (pa_cons (pv 0) pa_nil)) (nomark _)) (pss_one ps_never) pss_nil)))), ?_⟩
  refine ⟨_, rfl, a, vs, rfl, ha, for_it (WE.walk_enT (K := K) (a := a) (xs := vs)) (fun i σ H' => ∃ v1 v2 : Option V, σ = [some (.ref a), v1, v2] ∧ Same H H') ⟨none, none, rfl, fun _ _ h => h⟩ (fun i σ H' _ ⟨_, _, _, s⟩ => Same_seqT s ha) ?_ ?_⟩
  · rintro i x σ H1 H2 hi ⟨v1, v2, rfl, s1⟩ y
    have s2 := ys_pair y
    obtain ⟨Tp, x1, x2, rfl, hT, rfl, e1, e2⟩ := y
    cases e1
    obtain ⟨r, hr1⟩ : ∃ r, m[i]? = some r := ⟨_, List.getElem?_eq_getElem (by omega)⟩
    obtain ⟨p, hp, hpr⟩ := hrow i r hr1
    rw [show vs[i]? = some x2 from e2] at hp
    cases hp
    have s3 := s1.trans s2
    refine ⟨_, _, rfl, SqT.of upd_same, rfl, _, _, rfl, _, _, rfl, rfl, ?_⟩
    refine ⟨_, rfl, _, _, rfl, .inr (Same_seqT s3 hpr), _, rfl, _, _, rfl, .inr (Same_seqT s3 ha), rfl, _, rfl, ifF ?_ ⟨_, _, rfl, s3⟩⟩
    have e : (((r.map V.int).length : Nat) : Int) = ((vs.length : Nat) : Int) := by rw [List.length_map, hl, hs r (List.mem_of_getElem? hr1)]
    rw [e]
    simp
  · rintro σ H' ⟨_, _, rfl, s1⟩
    exact q H' s1
def spSymm (K : PySem.W.Frag) : Sp := fun vs H Q _ => ∃ (v : V) (m : List (List Int)), vs = [v] ∧ Fz K H v (tdm m) ∧ Sqr m ∧ Sym m ∧ m.length ≤ 1000 ∧ Q .non H
theorem ent_at {m : List (List Int)} {i j : Nat} {r : List Int} (h : m[i]? = some r) (hj : j < r.length) : r[j]? = some (ent m i j) := by
  unfold ent
  rw [show m.getD i [] = r from by rw [List.getD_eq_getElem?_getD, h]; rfl, List.getD_eq_getElem?_getD, List.getElem?_eq_getElem hj]
  rfl
theorem at_int {ns : List Int} {j : Nat} {x : Int} (h : ns[j]? = some x) : (ns.map V.int)[j]? = some (.int x) := by
  rw [List.getElem?_map, h]
  rfl
abbrev s_check_symmetric : Stmt := top 20
abbrev N_check_symmetric : List Str := ["lines", "row", "column"]
theorem sc_check_symmetric : FnScope N_check_symmetric ["lines"] (defScope s_check_symmetric) := ⟨rfl, rfl, rfl, by decide +kernel, rfl, by decide +kernel, by decide +kernel⟩
theorem ok_check_symmetric (F : Fun K "check_symmetric" "check_symmetric" s_check_symmetric f fd) (T : Txt mg) : FnOk P w K mg base CX0 1 f fd ["lines"] (spSymm K) := by
  refine F.ok sc_check_symmetric (fun vs H Q E h => ?_) (fun cdv A outer s H vs Q E hr h => ?_)
  · obtain ⟨v, m, rfl, _⟩ := h
    rfl
  obtain ⟨v, m, rfl, hz, hs, hsy, h1000, q⟩ := h
  obtain ⟨a, vs, rfl, ha, hl, hrow⟩ := fz_mat hz
  refine ⟨_, (pss_one (ps_for PassesOwn.never rfl (pi_range1 (by rfl) T.b_range (pa_cons (pe_callB call_len_seq (by rfl) T.b_len PySem.boot_len (pa_cons (pv 0) pa_nil)) pa_nil)) (pg_name (i := 1) sc_check_symmetric.nd rfl (Or.inl rfl)) (pss_one (ps_for PassesOwn.never rfl (pi_range2 (by rfl) T.b_range (pa_cons (pe_op op_add (pv 1) pe_int) (pa_cons (pe_callB call_len_seq (by rfl) T.b_len PySem.boot_len (pa_cons (pv 0) pa_nil)) pa_nil))) (pg_name (i := 2) sc_check_symmetric.nd rfl (Or.inl rfl)) (pss_one (ps_if (pt_cmpR op_ne (pe_ix ix_tup (pe_ix ix_tup (pv 0) (pv 1) (fun _ _ => rfl)) (pv 2) (fun _ _ => rfl)) (pe_ix ix_tup (pe_ix ix_tup (pv 0) (pv 2) (fun _ _ => rfl)) (pv 1) (fun _ _ => rfl)) (nomark _)) (pss_one ps_never) pss_nil)))))), ?_⟩
  have row : ∀ i, i < m.length → ∃ (p : Addr) (r : List Int), vs[i]? = some (.ref p) ∧ SqT K H p (r.map V.int) ∧ ∀ j, j < m.length → r[j]? = some (ent m i j) := fun i hi => by
    have e := List.getElem?_eq_getElem hi
    obtain ⟨p, h1, h2⟩ := hrow i _ e
    exact ⟨p, _, h1, h2, fun j hj => ent_at e (by rw [hs _ (List.mem_of_getElem? e)]; exact hj)⟩
  refine ⟨_, rfl, _, _, rfl, .inr ha, (m.length : Int), by rw [hl], by omega, by omega, for_range (lo := 0) (n := m.length) (fun i σ H' => ∃ v1 v2 : Option V, σ = [some (.ref a), v1, v2] ∧ H' = H) ⟨none, none, rfl, rfl⟩ ?_ ?_⟩
  · rintro i σ H' hi ⟨v1, v2, rfl, rfl⟩
    obtain ⟨p, r, hp, hpr, hent⟩ := row i hi
    refine ⟨_, rfl, _, _, rfl, rfl, _, rfl, _, _, rfl, .inr ha, 0 + (i : Int) + 1, (m.length : Int), by rw [hl], ⟨by omega, by omega, by omega, by omega⟩, ?_⟩
    refine for_range (lo := 0 + (i : Int) + 1) (n := ((m.length : Int) - (0 + (i : Int) + 1)).toNat) (fun j σ H1 => ∃ v2 : Option V, σ = [some (.ref a), some (.int (0 + (i : Int))), v2] ∧ H1 = H') ⟨v2, rfl, rfl⟩ ?_ ?_
    · rintro j σ H1 hj ⟨v2, rfl, rfl⟩
      have hk : i + 1 + j < m.length := by omega
      obtain ⟨p2, r2, hp2, hpr2, hent2⟩ := row (i + 1 + j) hk
      have ei : (0 + (i : Int)).toNat = i := by omega
      have ej : (0 + (i : Int) + 1 + (j : Int)).toNat = i + 1 + j := by omega
      refine ⟨_, rfl, _, rfl, a, _, _, _, rfl, rfl, ha, at_pos (by omega) (by rw [ei]; exact hp), _, rfl, p, _, _, _, rfl, rfl, hpr, at_pos (by omega) (by rw [ej]; exact at_int (hent _ hk)), ?_⟩
      refine ⟨_, rfl, _, rfl, a, _, _, _, rfl, rfl, ha, at_pos (by omega) (by rw [ej]; exact hp2), _, rfl, p2, _, _, _, rfl, rfl, hpr2, at_pos (by omega) (by rw [ei]; exact at_int (hent2 _ hi)), ?_⟩
      refine ⟨rfl, _, rfl, ifF ?_ ⟨_, rfl, rfl⟩⟩
      rw [hsy i (i + 1 + j)]
      simp
    · rintro σ H1 ⟨v2, rfl, rfl⟩
      exact ⟨_, _, rfl, rfl⟩
  · rintro σ H' ⟨_, _, rfl, rfl⟩
    exact q
end
end P10
namespace P10
open PySem PySem.Spec PyProof.Rows L2 SX EX WK
theorem putF_ne {f g : Str} {x v : V} {r : List (Str × V)} (h : ¬ g = f) : putF f v ((g, x) :: r) = (g, x) :: putF f v r := if_neg h
theorem flF (n e b : V) : putF "bottom" b (putF "entries" e (putF "size" n [])) = ([("size", n), ("entries", e), ("bottom", b)] : List (Str × V)) := by
  show putF "bottom" b (putF "entries" e [("size", n)]) = _
  rw [putF_ne (by decide +kernel)]
  show putF "bottom" b [("size", n), ("entries", e)] = _
  rw [putF_ne (by decide +kernel), putF_ne (by decide +kernel)]
  rfl
theorem dep_tdm {m : List (List Int)} : (tdm m).dep ≤ 2 := by
  simp only [tdm, Td.dep]
  have : Td.deps (m.map fun r => .tup (r.map Td.int)) ≤ 1 := deps_all fun t h => by
    obtain ⟨r, _, rfl⟩ := List.mem_map.mp h
    simp only [Td.dep]
    have : Td.deps (r.map Td.int) ≤ 0 := deps_all fun t h => by
      obtain ⟨n, _, rfl⟩ := List.mem_map.mp h
      exact Nat.le_refl _
    omega
  omega
theorem sm_ints {ns : List Int} (h : ns.length ≤ 16000000) : (Td.tup (ns.map Td.int)).sm := by
  simp only [Td.sm]
  refine ⟨by rw [List.length_map]; exact h, sms_all fun t h => ?_⟩
  obtain ⟨n, _, rfl⟩ := List.mem_map.mp h
  simp only [Td.sm]
theorem sm_tdm {m : List (List Int)} (h : m.length ≤ 16000000) (hr : ∀ r ∈ m, r.length ≤ 16000000) : (tdm m).sm := by
  simp only [tdm, Td.sm]
  refine ⟨by rw [List.length_map]; exact h, sms_all fun t h => ?_⟩
  obtain ⟨r, hm, rfl⟩ := List.mem_map.mp h
  exact sm_ints (hr r hm)
theorem flat_len {n : Nat} : ∀ {m : List (List Int)}, (∀ r ∈ m, r.length = n) → m.flatten.length = m.length * n
  | [], _ => by simp
  | r :: m, h => by
    rw [List.flatten_cons, List.length_append, flat_len fun x hx => h x (List.mem_cons_of_mem _ hx), h r List.mem_cons_self, List.length_cons, Nat.succ_mul]
    omega
theorem flat_row {n : Nat} : ∀ {m : List (List Int)} {i : Nat} {r : List Int}, (∀ r ∈ m, r.length = n) → m[i]? = some r → (m.flatten.drop (i * n)).take n = r
  | [], i, r, _, h => by simp at h
  | x :: m, 0, r, hl, h => by
    cases h
    rw [Nat.zero_mul, List.drop_zero, List.flatten_cons, List.take_left' (hl x List.mem_cons_self)]
  | x :: m, i + 1, r, hl, h => by
    have hx := hl x List.mem_cons_self
    rw [List.flatten_cons, Nat.succ_mul, Nat.add_comm, List.drop_append, List.drop_of_length_le (by omega), List.nil_append]
    have e : n + i * n - x.length = i * n := by omega
    rw [e]
    exact flat_row (fun y hy => hl y (List.mem_cons_of_mem _ hy)) (by simpa using h)
theorem flat_take {m : List (List Int)} {i : Nat} {r : List Int} (h : m[i]? = some r) : (m.take (i + 1)).flatten = (m.take i).flatten ++ r := by
  rw [take_one h, List.flatten_append]
  simp
/-- a form -/
def FormAt (K : PySem.W.Frag) (H : Hp) (C p : Addr) (n : Nat) (m : List (List Int)) (b : Int) : Prop := ∃ dx e, H p = some (.ins C dx [("size", .int n), ("entries", .ref e), ("bottom", .int b)]) ∧ Fz K H (.ref e) (tdm m)
/-- all but the thing at a stays -/
def But (a : Addr) (H H' : Hp) : Prop := ∀ c o, H c = some o → c ≠ a → H' c = some o
theorem But.of {a : Addr} {H H' : Hp} (s : Same H H') : But a H H' := fun c o e _ => s c o e
theorem But.put {a : Addr} {H H' : Hp} (s : But a H H') (o : HO) : But a H (upd H' a o) := fun c u e h => by rw [upd_ne h]; exact s c u e h
theorem But.then {a : Addr} {H H' H2 : Hp} (s : But a H H') (t : Same H' H2) : But a H H2 := fun c u e h => t c u (s c u e h)
def dm (m : List (List Int)) (g : Int) : List (List Int) := m.map fun r => r.map fun x => x / g
theorem sIx_of {n d : Nat} {z : Int} {k : Nat} (e : z = (k : Int)) (h : k ≤ n) : HT.sIx n d (some z) = k := by
  rw [e, HT.sIx_nat]
  omega
def spForm (K : PySem.W.Frag) (C : Addr) : Sp := fun vs H Q _ => ∃ (a dx : Addr) (v : V) (m : List (List Int)) (b : Int), vs = [.ref a, v, .int b] ∧ H a = some (.ins C dx []) ∧ Sn K H v (tdm m) ∧ Sqr m ∧ Sym m ∧ m.length ≤ 300 ∧ 0 < b ∧ B 9000 b ∧
  ∀ H', FormAt K H' C a m.length (dm m (gf b m.flatten)) (b / gf b m.flatten) → But a H H' → Q .non H'
section
variable {P : Program} {w : World} {K : PySem.W.Frag} {mg : Str → Option Value} {base : Heap} {f : Addr} {fd : FuncData} {cF cR : Addr}
abbrev s_iForm : Stmt := mth 24 0
abbrev N_iForm : List Str := ["self", "entries", "bottom", "lines", "size", "numbers", "least_bottom", "line", "number", "row"]
theorem sc_iForm : FnScope N_iForm ["self", "entries", "bottom"] (defScope s_iForm) := ⟨rfl, rfl, rfl, by decide +kernel, rfl, by decide +kernel, by decide +kernel⟩
theorem ok_iForm {kws : List (Str × V)} (F : FunD K "__init__" "Form.__init__" (defArgs s_iForm) (defBody s_iForm) (defScope s_iForm) [] kws f fd) (T : Txt mg) (O : Obs K cF cR) (C_frozen : Cal P w K mg base 3 "frozen" ["value"] (spFz K 3)) (C_check_square : Cal P w K mg base 1 "check_square" ["lines"] (spSquare K))
    (C_check_symmetric : Cal P w K mg base 1 "check_symmetric" ["lines"] (spSymm K)) (C_lowered : Cal P w K mg base 1 "lowered" ["numbers", "bottom"] spLow) : FnOk P w K mg base CX0 4 f fd ["self", "entries", "bottom"] (spForm K cF) := by
  refine F.ok sc_iForm (fun vs H Q E h => ?_) (fun cdv A outer s H vs Q E hr h => ?_)
  · obtain ⟨a, dx, v, m, b, rfl, _⟩ := h
    rfl
  obtain ⟨a, dx, v, m, b, rfl, hself, hv, hsq, hsy, hn, hb, hB, q⟩ := h
  refine ⟨_, (pss_cons (ps_set (i := 3) sc_iForm.nd rfl (Or.inl rfl) (pe_cal C_frozen (hr.mono (by omega)) rfl (pa_cons (pv 1) pa_nil)))
  (pss_cons (ps_expr (pe_cal C_check_square (hr.mono (by omega)) rfl (pa_cons (pv 3) pa_nil)))
  (pss_cons (ps_expr (pe_cal C_check_symmetric (hr.mono (by omega)) rfl (pa_cons (pv 3) pa_nil)))
  (pss_cons (ps_set (i := 4) sc_iForm.nd rfl (Or.inr rfl) (pe_callB call_len_seq (by rfl) T.b_len PySem.boot_len (pa_cons (pv 3) pa_nil)))
  (pss_cons (ps_asg (pe_cal C_lowered (hr.mono (by omega)) rfl (pa_cons (pe_lc2 (own := [("line", 7), ("number", 8)]) (vs1 := [8]) (g := gName 7) (tt := tYes) (g1 := gName 8) (tt1 := tYes) (by rfl) sc_iForm.nd (pi_tup (pv 3)) (blkOk_by (N := N_iForm) (sc := defScope s_iForm) (by decide +kernel)) (by decide) (fun _ _ _ _ _ => (pg_name (i := 7) sc_iForm.nd rfl (Or.inl rfl))) (fun _ _ _ _ _ => pts_nil) (fun _ _ _ _ _ => (pi_tupK (K := K) rfl (pv 7))) (fun _ _ _ _ _ => (pg_name (i := 8) sc_iForm.nd rfl (Or.inl rfl))) (fun _ _ _ _ _ => pts_nil) (fun _ _ _ _ _ => (pv 8))) (pa_cons (pv 2) pa_nil))) (pg_tup rfl (pgs_cons (pg_name (i := 5) sc_iForm.nd rfl (Or.inr rfl)) (pgs_cons (pg_name (i := 6) sc_iForm.nd rfl (Or.inl rfl)) pgs_nil))))
  (pss_cons (ps_fld (pv 0) (pv 4) rfl)
  (pss_cons (ps_fld (pv 0) (pe_callTy call_tuple_of (by rfl) T.b_tuple (by decide +kernel) (pa_cons (pe_lc (own := [("row", 9)]) (g := gName 9) (tt := tYes) (by rfl) sc_iForm.nd (pi_range1 (by rfl) T.b_range (pa_cons (pv 4) pa_nil)) (blkOk_by (N := N_iForm) (sc := defScope s_iForm) (by decide +kernel)) (fun _ _ _ _ _ => (pg_name (i := 9) sc_iForm.nd rfl (Or.inl rfl))) (fun _ _ _ _ _ => pts_nil) (fun _ _ _ _ _ => (pe_slice (sl_tupAK (K := K) rfl) (pv 5) (po_some (pe_op op_mulW (pv 9) (pv 4))) (po_some (pe_op op_add (pe_op op_mulW (pv 9) (pv 4)) (pv 4)))))) pa_nil)) rfl)
  (pss_one (ps_fld (pv 0) (pv 6) rfl))))))))), ?_⟩
  have hrl : ∀ r ∈ m, r.length ≤ 16000000 := fun r hr => by rw [hsq r hr]; omega
  refine ⟨_, rfl, _, tdm m, rfl, hv, Nat.le_trans dep_tdm (by omega), sm_tdm (by omega) hrl, fun v1 H1 s1 hz1 => ?_⟩
  refine ⟨_, rfl, _, m, rfl, hz1, hsq, fun H2 s2 => ?_⟩
  have hz2 := hz1.tk (WK.Same.tk s2)
  refine ⟨_, rfl, _, m, rfl, hz2, hsq, hsy, by omega, ?_⟩
  obtain ⟨e, vs, rfl, he, hl, hrow⟩ := fz_mat hz2
  refine ⟨_, rfl, _, _, rfl, .inr he, ?_⟩
  have hfl := flat_len hsq
  have hfn : m.flatten.length ≤ 16000000 := by
    rw [hfl]
    exact Nat.le_trans (Nat.mul_le_mul hn hn) (by decide)
  refine ⟨_, rfl, e, rfl, ⟨_, he⟩, fun D hD => ?_⟩
  refine ⟨fun i k H3 => k = m.length - i ∧ i ≤ m.length ∧ Same H2 H3 ∧ H3 D = some (.lst (((m.take i).flatten).map V.int)), ⟨_, rfl, Nat.zero_le _, same_new hD _, by rw [upd_same, List.take_zero]; rfl⟩, ?_⟩
  rintro i k H3 ⟨rfl, hi, s3, h3⟩
  by_cases hlt : i < m.length
  · obtain ⟨r, hr1⟩ : ∃ r, m[i]? = some r := ⟨_, List.getElem?_eq_getElem hlt⟩
    obtain ⟨p, hp, hpr⟩ := hrow i r hr1
    have hrn := hsq r (List.mem_of_getElem? hr1)
    refine .inr ⟨⟨vs, _, Same_seqT s3 he, hp⟩, fun H4 => Same H2 H4 ∧ H4 D = some (.lst (((m.take (i + 1)).flatten).map V.int)), fun H4 h4 => ⟨_, by omega, rfl, hlt, h4.1, h4.2⟩, ?_⟩
    rintro x H4 ⟨rfl, hx⟩
    have hx2 := hx vs (Same_seqT s3 he)
    rw [hp] at hx2
    cases hx2
    refine ⟨rfl, lc_yes ⟨_, rfl, p, rfl, ⟨_, Same_seqT s3 hpr⟩, ?_⟩⟩
    refine ⟨fun j k H5 => k = r.length - j ∧ j ≤ r.length ∧ Same H2 H5 ∧ H5 D = some (.lst (((m.take i).flatten ++ r.take j).map V.int)), ⟨_, rfl, Nat.zero_le _, s3, by rw [List.take_zero, List.append_nil]; exact h3⟩, ?_⟩
    rintro j k H5 ⟨rfl, hj, s5, h5⟩
    by_cases hjlt : j < r.length
    · have hy : r[j]? = some r[j] := List.getElem?_eq_getElem hjlt
      refine .inr ⟨⟨r.map V.int, .int r[j], Same_seqT s5 hpr, at_int hy⟩, fun H6 => Same H2 H6 ∧ H6 D = some (.lst (((m.take i).flatten ++ r.take (j + 1)).map V.int)), fun H6 h6 => ⟨_, by omega, rfl, hjlt, h6.1, h6.2⟩, ?_⟩
      rintro x H6 ⟨rfl, hx⟩
      have hx2 := hx _ (Same_seqT s5 hpr)
      rw [at_int hy] at hx2
      cases hx2
      refine ⟨rfl, lc_yes ⟨_, rfl, _, h5, ?_, same_at s5 hD, ?_⟩⟩
      · refine sizes (Nat.le_trans ?_ hfn)
        rw [List.length_map, List.length_append, List.length_take, flat_len (n := m.length) (fun x hx => hsq x (List.mem_of_mem_take hx)), List.length_take, hfl]
        have h1 : (min i m.length + 1) * m.length ≤ m.length * m.length := Nat.mul_le_mul_right _ (by omega)
        rw [Nat.add_mul, Nat.one_mul] at h1
        omega
      · rw [upd_same, take_one hy, ← List.append_assoc, List.map_append (l₂ := [r[j]])]
        rfl
    · have ej : j = r.length := by omega
      refine .inl ⟨⟨_, Same_seqT s5 hpr, by rw [List.length_map, ej]; exact Nat.le_refl _⟩, s5, ?_⟩
      rw [h5, ej, List.take_length, flat_take hr1]
  · have ei : i = m.length := by omega
    refine .inl ⟨⟨vs, Same_seqT s3 he, by omega⟩, ?_⟩
    rw [ei, List.take_length] at h3
    clear hlt hi
    refine ⟨_, rfl, D, m.flatten, b, rfl, h3, hb, hB, hfn, fun r t H5 s5 hr5 ht5 => ?_⟩
    have hg := gf_pos hb m.flatten
    refine ⟨_, _, rfl, SqT.of hr5, rfl, _, _, rfl, _, _, rfl, rfl, ?_⟩
    have sA : Same H H5 := s1.trans (s2.trans (s3.trans s5))
    refine ⟨_, rfl, _, rfl, a, cF, dx, _, rfl, sA _ _ hself, O.clF, O.F_size, (by show 0 < 1000; decide), ?_⟩
    generalize hH6 : upd H5 a _ = H6
    have hs6 : H6 a = some (.ins cF dx (putF "size" (.int (vs.length : Nat)) [])) := by rw [← hH6, upd_same]
    have b6 : But a H H6 := by rw [← hH6]; exact (But.of sA).put _
    have ht6 : SqT K H6 t ((m.flatten.map fun n => n / gf b m.flatten).map V.int) := by
      refine .inl (.inl ?_)
      rw [← hH6, upd_ne (ne_of ht5 (sA _ _ hself) (by intro z; cases z))]
      exact ht5
    refine ⟨_, rfl, _, rfl, by omega, by omega, fun D2 hD2 => ?_⟩
    refine lc_m (walk_range (lo := 0) (n := (vs.length : Int).toNat)) (Fz K) stb_Fz (List.range m.length) (by rw [List.length_range]; omega) (by rw [List.length_range]; omega) hD2 (fun _ _ => trivial) (fun _ _ _ _ => ys_fn) (fun i => .tup (((dm m (gf b m.flatten)).getD i []).map Td.int)) (fun k i x H7 H8 hb2 s7 s8 y A2 B2 hA => ?_) (fun H7 l s7 hl7 rs => ?_)
    · have ek : k < m.length ∧ i = k := by
        have h1 := (List.getElem?_eq_some_iff.mp hb2).1
        rw [List.length_range] at h1
        rw [List.getElem?_range h1] at hb2
        exact ⟨h1, (Option.some.inj hb2).symm⟩
      obtain ⟨hk, rfl⟩ := ek
      rw [y.2]
      have cm : CMulW (0 + (i : Int)) ((vs.length : Nat) : Int) := wmul (m := 20) (n := 20) (by show (0 + (i : Int)).natAbs < 2 ^ 20; omega) (by show ((vs.length : Nat) : Int).natAbs < 2 ^ 20; omega) (by decide) (by decide) (by decide)
      refine ⟨rfl, lc_yes ⟨_, rfl, _, rfl, _, rfl, _, _, rfl, rfl, cm, _, rfl, _, rfl, _, rfl, _, _, rfl, rfl, cm, _, rfl, _, _, rfl, rfl, _, rfl, ?_⟩⟩
      have hdr : (dm m (gf b m.flatten))[i]? = some (((m[i]).map fun x => x / gf b m.flatten)) := by
        unfold dm
        rw [List.getElem?_map, List.getElem?_eq_getElem hk]
        rfl
      have hdl : ∀ r ∈ dm m (gf b m.flatten), r.length = m.length := fun r hr => by
        obtain ⟨r0, h0, rfl⟩ := List.mem_map.mp hr
        rw [List.length_map]
        exact hsq r0 h0
      have hfr := flat_row hdl hdr
      have hff : (dm m (gf b m.flatten)).flatten = m.flatten.map fun n => n / gf b m.flatten := by
        unfold dm
        rw [List.map_flatten]
      rw [hff] at hfr
      have hgd : (dm m (gf b m.flatten)).getD i [] = (m[i]).map fun x => x / gf b m.flatten := by
        rw [List.getD_eq_getElem?_getD, hdr]
        rfl
      have hN : ((m.flatten.map fun n => n / gf b m.flatten).map V.int).length = m.length * m.length := by rw [List.length_map, List.length_map, hfl]
      have hmul : i * m.length + m.length ≤ m.length * m.length := by
        have h1 : (i + 1) * m.length ≤ m.length * m.length := Nat.mul_le_mul_right _ hk
        rw [Nat.add_mul, Nat.one_mul] at h1
        exact h1
      have e1 : HT.sIx ((m.flatten.map fun n => n / gf b m.flatten).map V.int).length 0 (some ((0 + (i : Int)) * ((vs.length : Nat) : Int))) = i * m.length := sIx_of (by rw [hl, Int.zero_add]; exact (Int.natCast_mul _ _).symm) (by rw [hN]; omega)
      have e2 : HT.sIx ((m.flatten.map fun n => n / gf b m.flatten).map V.int).length ((m.flatten.map fun n => n / gf b m.flatten).map V.int).length (some ((0 + (i : Int)) * ((vs.length : Nat) : Int) + ((vs.length : Nat) : Int))) = i * m.length + m.length := sIx_of (by rw [hl, Int.zero_add, ← Int.natCast_mul, ← Int.natCast_add]) (by rw [hN]; exact hmul)
      have hcut : cutV ((m.flatten.map fun n => n / gf b m.flatten).map V.int) (some ((0 + (i : Int)) * ((vs.length : Nat) : Int))) (some ((0 + (i : Int)) * ((vs.length : Nat) : Int) + ((vs.length : Nat) : Int))) = ((m[i]).map fun x => x / gf b m.flatten).map V.int := by
        unfold cutV
        rw [e1, e2, Nat.add_sub_cancel_left, ← List.map_drop, ← List.map_take, hfr]
      have hfz : ∀ {H9 : Hp} {p : Addr}, SqT K H9 p (((m[i]).map fun x => x / gf b m.flatten).map V.int) → Fz K H9 (.ref p) (.tup (((dm m (gf b m.flatten)).getD i []).map Td.int)) := fun h => by
        rw [hgd]
        exact .tup h (FzAll.of_ints _)
      refine ⟨t, _, rfl, Same_seqT s8 ht6, fun hw => ?_, fun _ p hp => ?_⟩
      · refine hA _ _ (fun _ _ h => h) (hfz ?_)
        rw [e1, e2] at hw
        rw [← hcut]
        unfold cutV
        rw [e1, e2, hw.2, hw.1, List.drop_zero, Nat.sub_zero, List.take_length]
        exact Same_seqT s8 ht6
      · refine hA _ _ (same_new hp _) (hfz (SqT.of ?_))
        rw [upd_same, hcut]
    · refine ⟨D2, l, rfl, .inl ⟨SqL.of hl7, fun t2 ht2 => ?_⟩⟩
      have sB : Same H6 (upd H7 t2 (.tup l)) := s7.trans (same_new ht2 _)
      refine ⟨_, rfl, a, cF, dx, _, rfl, sB _ _ hs6, O.clF, O.F_entries, (by show 1 < 1000; decide), ?_⟩
      refine ⟨_, rfl, _, rfl, a, cF, dx, _, rfl, upd_same, O.clF, O.F_bottom, (by show 2 < 1000; decide), ?_⟩
      have hfz : FzAll K H7 l ((dm m (gf b m.flatten)).map fun r => .tup (r.map Td.int)) := by
        have e : ((List.range m.length).map fun i => Td.tup (((dm m (gf b m.flatten)).getD i []).map Td.int)) = (dm m (gf b m.flatten)).map fun r => .tup (r.map Td.int) := by
          refine List.ext_getElem? fun i => ?_
          rw [List.getElem?_map, List.getElem?_map]
          have hdl : (dm m (gf b m.flatten)).length = m.length := by unfold dm; rw [List.length_map]
          by_cases hi : i < m.length
          · rw [List.getElem?_range hi, List.getElem?_eq_getElem (by omega : i < (dm m (gf b m.flatten)).length)]
            show some (Td.tup (((dm m (gf b m.flatten)).getD i []).map Td.int)) = _
            rw [List.getD_eq_getElem?_getD, List.getElem?_eq_getElem (by omega : i < (dm m (gf b m.flatten)).length)]
            rfl
          · rw [List.getElem?_eq_none (by rw [List.length_range]; omega), List.getElem?_eq_none (by omega)]
            rfl
        rw [← e]
        exact rs.fz
      have tkB : Tk K H7 (upd (upd (upd H7 t2 (.tup l)) a (.ins cF dx (putF "entries" (.ref t2) (putF "size" (.int (vs.length : Nat)) [])))) a (.ins cF dx (putF "bottom" (.int (b / gf b m.flatten)) (putF "entries" (.ref t2) (putF "size" (.int (vs.length : Nat)) []))))) := fun x ys h => by
        have h1 := Same_seqT (same_new ht2 (.tup l)) h
        have h2 : (upd H7 t2 (.tup l)) a = some (.ins cF dx (putF "size" (.int (vs.length : Nat)) [])) := sB _ _ hs6
        have h3 := tk_ins (K := K) h2 (H' := upd (upd H7 t2 (.tup l)) a (.ins cF dx (putF "entries" (.ref t2) (putF "size" (.int (vs.length : Nat)) [])))) (fun c o hc e => by rw [upd_ne hc]; exact e) _ _ h1
        exact tk_ins (K := K) (upd_same (H := upd H7 t2 (.tup l)) (a := a)) (fun c o hc e => by rw [upd_ne hc]; exact e) _ _ h3
      refine q _ ⟨dx, t2, ?_, .tup ?_ (hfz.tk tkB)⟩ (((b6.then sB).put _).put _)
      · rw [upd_same, hl, flF]
      · have h1 : SqT K (upd H7 t2 (.tup l)) t2 l := SqT.of upd_same
        have h2 : (upd H7 t2 (.tup l)) a = some (.ins cF dx (putF "size" (.int (vs.length : Nat)) [])) := sB _ _ hs6
        have h3 := tk_ins (K := K) h2 (H' := upd (upd H7 t2 (.tup l)) a (.ins cF dx (putF "entries" (.ref t2) (putF "size" (.int (vs.length : Nat)) [])))) (fun c o hc e => by rw [upd_ne hc]; exact e) _ _ h1
        exact tk_ins (K := K) (upd_same (H := upd H7 t2 (.tup l)) (a := a)) (fun c o hc e => by rw [upd_ne hc]; exact e) _ _ h3
end
end P10
/-! Sums, square tables as functions, lowest terms. -/
namespace P10
open PySem PySem.Spec PyProof.Rows L2 SX EX WK
theorem quot_pos {x g : Int} (hg : 0 < g) (hd : g ∣ x) (hx : 1 ≤ x) : 1 ≤ x / g := by
  obtain ⟨k, rfl⟩ := hd
  rw [Int.mul_ediv_cancel_left _ (by omega)]
  rcases Int.lt_or_le k 1 with h | h
  · have : g * k ≤ 0 := Int.mul_nonpos_of_nonneg_of_nonpos (by omega) (by omega)
    omega
  · exact h
def Ls {α : Type} (l : List α) (f : α → Int) : Int := (l.map f).sum
theorem Ls_nil {α : Type} (f : α → Int) : Ls [] f = 0 := rfl
theorem Ls_cons {α : Type} (a : α) (l : List α) (f : α → Int) : Ls (a :: l) f = f a + Ls l f := by
  unfold Ls
  rw [List.map_cons, List.sum_cons]
theorem Ls_snoc {α : Type} (l : List α) (a : α) (f : α → Int) : Ls (l ++ [a]) f = Ls l f + f a := by
  unfold Ls
  rw [List.map_append, List.sum_append]
  simp
theorem Ls_congr {α : Type} {l : List α} {f g : α → Int} (h : ∀ a ∈ l, f a = g a) : Ls l f = Ls l g := by
  unfold Ls
  rw [List.map_congr_left h]
theorem Ls_zero {α : Type} (l : List α) : Ls l (fun _ => 0) = 0 := by
  induction l with
  | nil => rfl
  | cons a l ih => rw [Ls_cons, ih]; rfl
theorem Ls_add {α : Type} (l : List α) (f g : α → Int) : Ls l (fun a => f a + g a) = Ls l f + Ls l g := by
  induction l with
  | nil => rfl
  | cons a l ih => rw [Ls_cons, Ls_cons, Ls_cons, ih]; omega
theorem Ls_mul {α : Type} (c : Int) (l : List α) (f : α → Int) : Ls l (fun a => c * f a) = c * Ls l f := by
  induction l with
  | nil => simp [Ls_nil]
  | cons a l ih => rw [Ls_cons, Ls_cons, ih, Int.mul_add]
theorem Ls_mulr {α : Type} (c : Int) (l : List α) (f : α → Int) : Ls l (fun a => f a * c) = Ls l f * c := by
  rw [Int.mul_comm, ← Ls_mul]
  exact Ls_congr fun a _ => Int.mul_comm _ _
theorem Ls_swap {α β : Type} (l : List α) (m : List β) (f : α → β → Int) : Ls l (fun a => Ls m (f a)) = Ls m fun b => Ls l fun a => f a b := by
  induction l with
  | nil =>
    rw [Ls_nil]
    exact (Ls_zero m).symm
  | cons a l ih =>
    rw [Ls_cons, ih, ← Ls_add]
    exact Ls_congr fun b _ => (Ls_cons a l fun a => f a b).symm
abbrev S (n : Nat) (f : Nat → Int) : Int := Ls (List.range n) f
theorem S_congr {n : Nat} {f g : Nat → Int} (h : ∀ i, i < n → f i = g i) : S n f = S n g := Ls_congr fun i hi => h i (List.mem_range.mp hi)
theorem S_congr2 {n m : Nat} {f g : Nat → Nat → Int} (h : ∀ i j, i < n → j < m → f i j = g i j) : S n (fun i => S m (f i)) = S n (fun i => S m (g i)) := S_congr fun i hi => S_congr fun j hj => h i j hi hj
theorem S_succ (n : Nat) (f : Nat → Int) : S (n + 1) f = S n f + f n := by
  show Ls (List.range (n + 1)) f = _
  rw [List.range_succ, Ls_snoc]
theorem BS {k c n : Nat} {f : Nat → Int} (h : ∀ i, i < n → B k (f i)) (hn : n ≤ 2 ^ c) : B (k + c) (S n f) := by
  have e : ∀ m, m ≤ n → (S m f).natAbs + m ≤ m * 2 ^ k := fun m hm => by
    induction m with
    | zero =>
      rw [show S 0 f = 0 from rfl]
      simp
    | succ m ih =>
      rw [S_succ, Nat.succ_mul]
      have h1 := ih (by omega)
      have h2 : (f m).natAbs < 2 ^ k := h m (by omega)
      have h3 := Int.natAbs_add_le (S m f) (f m)
      omega
  have h0 := e n (Nat.le_refl _)
  show (S n f).natAbs < 2 ^ (k + c)
  have p : 0 < 2 ^ k := Nat.two_pow_pos k
  rw [Nat.pow_add]
  have h1 : n * 2 ^ k ≤ 2 ^ k * 2 ^ c := by
    rw [Nat.mul_comm]
    exact Nat.mul_le_mul_left _ hn
  have p2 : 0 < 2 ^ k * 2 ^ c := Nat.mul_pos p (Nat.two_pow_pos c)
  rcases Nat.eq_zero_or_pos n with z | z
  · subst z
    show (Ls [] f).natAbs < _
    rw [Ls_nil]
    exact p2
  · omega
theorem BLs {α : Type} {k c : Nat} {l : List α} {f : α → Int} (h : ∀ a ∈ l, B k (f a)) (hn : l.length ≤ 2 ^ c) : B (k + c) (Ls l f) := by
  have e : ∀ m : List α, (∀ a ∈ m, a ∈ l) → (Ls m f).natAbs + m.length ≤ m.length * 2 ^ k := fun m hm => by
    induction m with
    | nil => simp [Ls_nil]
    | cons a m ih =>
      rw [Ls_cons, List.length_cons, Nat.succ_mul]
      have h1 := ih (fun a ha => hm a (List.mem_cons_of_mem _ ha))
      have h2 : (f a).natAbs < 2 ^ k := h a (hm a List.mem_cons_self)
      have h3 := Int.natAbs_add_le (f a) (Ls m f)
      omega
  have h0 := e l fun _ h => h
  show (Ls l f).natAbs < 2 ^ (k + c)
  have p : 0 < 2 ^ k := Nat.two_pow_pos k
  rw [Nat.pow_add]
  have h1 : l.length * 2 ^ k ≤ 2 ^ k * 2 ^ c := by
    rw [Nat.mul_comm]
    exact Nat.mul_le_mul_left _ hn
  have p2 : 0 < 2 ^ k * 2 ^ c := Nat.mul_pos p (Nat.two_pow_pos c)
  cases l with
  | nil =>
    rw [Ls_nil]
    exact p2
  | cons a l =>
    rw [List.length_cons] at h0 h1
    omega
/-! ### vectors, tables -/
def vec (n : Nat) (x : Nat → Int) : List Int := (List.range n).map x
def mat (n : Nat) (f : Nat → Nat → Int) : List (List Int) := (List.range n).map fun i => vec n (f i)
theorem vec_len {n : Nat} {x : Nat → Int} : (vec n x).length = n := by unfold vec; rw [List.length_map, List.length_range]
theorem mat_len {n : Nat} {f : Nat → Nat → Int} : (mat n f).length = n := by unfold mat; rw [List.length_map, List.length_range]
theorem vec_at {n i : Nat} {x : Nat → Int} (h : i < n) : (vec n x)[i]? = some (x i) := by
  unfold vec
  rw [List.getElem?_map, List.getElem?_range h]
  rfl
theorem vecV_at {n i : Nat} {x : Nat → Int} (h : i < n) : ((vec n x).map V.int)[i]? = some (.int (x i)) := by
  rw [List.getElem?_map, vec_at h]
  rfl
theorem mat_at {n i : Nat} {f : Nat → Nat → Int} (h : i < n) : (mat n f)[i]? = some (vec n (f i)) := by
  unfold mat
  rw [List.getElem?_map, List.getElem?_range h]
  rfl
theorem vec_congr {n : Nat} {x y : Nat → Int} (h : ∀ i, i < n → x i = y i) : vec n x = vec n y := List.map_congr_left fun i hi => h i (List.mem_range.mp hi)
theorem mat_congr {n : Nat} {f g : Nat → Nat → Int} (h : ∀ i j, i < n → j < n → f i j = g i j) : mat n f = mat n g := List.map_congr_left fun i hi => vec_congr fun j hj => h i j (List.mem_range.mp hi) hj
theorem vec_of {n : Nat} {ns : List Int} (h : ns.length = n) : ns = vec n fun i => ns.getD i 0 := by
  refine List.ext_getElem? fun i => ?_
  by_cases hi : i < n
  · rw [vec_at hi, List.getD_eq_getElem?_getD, List.getElem?_eq_getElem (by omega)]
    rfl
  · rw [List.getElem?_eq_none (by omega), List.getElem?_eq_none (by rw [vec_len]; omega)]
theorem mat_sqr {n : Nat} {f : Nat → Nat → Int} : Sqr (mat n f) := fun r hr => by
  rw [mat_len]
  obtain ⟨i, _, rfl⟩ := List.mem_map.mp hr
  exact vec_len
theorem mat_ent {n : Nat} {f : Nat → Nat → Int} {i j : Nat} : ent (mat n f) i j = if i < n ∧ j < n then f i j else 0 := by
  unfold ent
  by_cases hi : i < n
  · rw [show (mat n f).getD i [] = vec n (f i) from by rw [List.getD_eq_getElem?_getD, mat_at hi]; rfl]
    by_cases hj : j < n
    · rw [List.getD_eq_getElem?_getD, vec_at hj, if_pos ⟨hi, hj⟩]
      rfl
    · rw [List.getD_eq_getElem?_getD, List.getElem?_eq_none (by rw [vec_len]; omega), if_neg (fun h => hj h.2)]
      rfl
  · rw [if_neg (fun h => hi h.1), show (mat n f).getD i [] = [] from by
      rw [List.getD_eq_getElem?_getD, List.getElem?_eq_none (by rw [mat_len]; omega)]
      rfl]
    rfl
theorem mat_sym {n : Nat} {f : Nat → Nat → Int} (h : ∀ i j, i < n → j < n → f i j = f j i) : Sym (mat n f) := fun i j => by
  rw [mat_ent, mat_ent]
  by_cases c : i < n ∧ j < n
  · rw [if_pos c, if_pos ⟨c.2, c.1⟩, h i j c.1 c.2]
  · rw [if_neg c, if_neg fun g => c ⟨g.2, g.1⟩]
theorem mat_mem {n : Nat} {f : Nat → Nat → Int} {i j : Nat} (hi : i < n) (hj : j < n) : f i j ∈ (mat n f).flatten :=
  List.mem_flatten.mpr ⟨_, List.mem_of_getElem? (mat_at hi), List.mem_of_getElem? (vec_at hj)⟩
theorem dm_mat {n : Nat} {f : Nat → Nat → Int} {g : Int} : dm (mat n f) g = mat n fun i j => f i j / g := by
  unfold dm mat vec
  rw [List.map_map]
  refine List.map_congr_left fun i _ => ?_
  show ((List.range n).map (f i)).map _ = _
  rw [List.map_map]
  rfl
/-! ### lowest terms -/
theorem gI_one {t b : Int} (hb : 0 < b) : gI (t / gI t b) (b / gI t b) = 1 := by
  have g := gI_pos' (t := t) hb
  have g2 : 0 < Nat.gcd t.natAbs b.natAbs := Nat.gcd_pos_of_pos_right _ (by omega)
  have e1 : (t / gI t b).natAbs = t.natAbs / Nat.gcd t.natAbs b.natAbs := by
    unfold gI
    obtain ⟨k, hk⟩ := (gI_dvd1 : gI t b ∣ t)
    unfold gI at hk
    generalize Nat.gcd t.natAbs b.natAbs = d at *
    subst hk
    rw [Int.mul_ediv_cancel_left _ (by omega), Int.natAbs_mul, Int.natAbs_natCast, Nat.mul_div_cancel_left _ g2]
  have e2 : (b / gI t b).natAbs = b.natAbs / Nat.gcd t.natAbs b.natAbs := by
    unfold gI
    obtain ⟨k, hk⟩ := (gI_dvd2 : gI t b ∣ b)
    unfold gI at hk
    generalize Nat.gcd t.natAbs b.natAbs = d at *
    subst hk
    rw [Int.mul_ediv_cancel_left _ (by omega), Int.natAbs_mul, Int.natAbs_natCast, Nat.mul_div_cancel_left _ g2]
  show ((Nat.gcd (t / gI t b).natAbs (b / gI t b).natAbs : Nat) : Int) = 1
  rw [e1, e2, Nat.gcd_div_gcd_div_gcd_of_pos_right (by omega)]
  rfl
theorem cross {t b g : Int} (hg : 0 < g) (h1 : g ∣ t) (h2 : g ∣ b) : t / g * b = t * (b / g) := by
  obtain ⟨k, rfl⟩ := h1
  obtain ⟨l, rfl⟩ := h2
  rw [Int.mul_ediv_cancel_left _ (by omega), Int.mul_ediv_cancel_left _ (by omega), Int.mul_comm g k, Int.mul_assoc]
/-- two quotients of the same number -/
theorem cross2 {t b g u v : Int} (hg : 0 < g) (h1 : g ∣ t) (h2 : g ∣ b) (h : t * v = u * b) : t / g * v = u * (b / g) := by
  obtain ⟨k, rfl⟩ := h1
  obtain ⟨l, rfl⟩ := h2
  rw [Int.mul_ediv_cancel_left _ (by omega), Int.mul_ediv_cancel_left _ (by omega)]
  have e : g * (k * v) = g * (u * l) := by
    rw [← Int.mul_assoc, h, Int.mul_left_comm]
  exact Int.eq_of_mul_eq_mul_left (by omega) e
theorem gI_scale {t b g : Int} (hg : 0 < g) (h1 : g ∣ t) (h2 : g ∣ b) : gI t b = g * gI (t / g) (b / g) := by
  obtain ⟨k, rfl⟩ := h1
  obtain ⟨l, rfl⟩ := h2
  rw [Int.mul_ediv_cancel_left _ (by omega), Int.mul_ediv_cancel_left _ (by omega)]
  unfold gI
  rw [Int.natAbs_mul, Int.natAbs_mul, Nat.gcd_mul_left]
  have : ((g.natAbs : Nat) : Int) = g := by omega
  rw [Int.natCast_mul, this]
theorem gf_scale {g : Int} (hg : 0 < g) : ∀ {ns : List Int} {b : Int}, g ∣ b → (∀ n ∈ ns, g ∣ n) → gf b ns = g * gf (b / g) (ns.map (· / g))
  | [], b, h, _ => by
    obtain ⟨k, rfl⟩ := h
    show g * k = g * (g * k / g)
    rw [Int.mul_ediv_cancel_left _ (by omega)]
  | n :: ns, b, h, hn => by
    have h1 := hn n List.mem_cons_self
    have e := gI_scale hg h h1
    have hd : g ∣ gI b n := ⟨_, e⟩
    show gf (gI b n) ns = g * gf (gI (b / g) (n / g)) (ns.map (· / g))
    rw [gf_scale hg hd fun m hm => hn m (List.mem_cons_of_mem _ hm)]
    congr 2
    rw [e, Int.mul_ediv_cancel_left _ (by omega)]
theorem gf_one {b : Int} (hb : 0 < b) (ns : List Int) : gf (b / gf b ns) (ns.map (· / gf b ns)) = 1 := by
  have hg := gf_pos hb ns
  have h := gf_scale hg (ns := ns) (b := b) (gf_dvd ns).1 (gf_dvd ns).2
  have e : gf b ns * 1 = gf b ns * gf (b / gf b ns) (ns.map (· / gf b ns)) := by rw [Int.mul_one]; exact h
  exact (Int.eq_of_mul_eq_mul_left (by omega) e).symm
theorem flat_mat {n : Nat} {f : Nat → Nat → Int} {g : Int} : (mat n fun i j => f i j / g).flatten = (mat n f).flatten.map (· / g) := by
  rw [← dm_mat]
  unfold dm
  rw [List.map_flatten]
/-- a form in lowest terms, of T over U -/
structure Red (n : Nat) (f : Nat → Nat → Int) (b : Int) (k : Nat) : Prop where
  pos : 0 < b
  bb : B k b
  fb : ∀ i j, i < n → j < n → B k (f i j)
  sym : ∀ i j, i < n → j < n → f i j = f j i
  one : gf b (mat n f).flatten = 1
def Is (n : Nat) (f : Nat → Nat → Int) (b : Int) (T : Nat → Nat → Int) (U : Int) : Prop := ∀ i j, i < n → j < n → f i j * U = T i j * b
theorem red_of {n k : Nat} {T : Nat → Nat → Int} {U : Int} (hU : 0 < U) (hB : B k U) (hT : ∀ i j, i < n → j < n → B k (T i j)) (hs : ∀ i j, i < n → j < n → T i j = T j i) :
    Red n (fun i j => T i j / gf U (mat n T).flatten) (U / gf U (mat n T).flatten) k ∧ Is n (fun i j => T i j / gf U (mat n T).flatten) (U / gf U (mat n T).flatten) T U := by
  have hg := gf_pos hU (mat n T).flatten
  have hd := gf_dvd (b := U) (mat n T).flatten
  refine ⟨⟨quot_pos hg hd.1 (by omega), B.div hg hB, fun i j hi hj => B.div hg (hT i j hi hj), fun i j hi hj => by rw [hs i j hi hj], ?_⟩, fun i j hi hj => cross hg (hd.2 _ (mat_mem hi hj)) hd.1⟩
  rw [flat_mat]
  exact gf_one hU _
/-- the same form by other terms -/
theorem Is.of {n : Nat} {f T T' : Nat → Nat → Int} {b U U' : Int} (h : Is n f b T U) (hU : 0 < U) (e : ∀ i j, i < n → j < n → T i j * U' = T' i j * U) : Is n f b T' U' := fun i j hi hj => by
  have h1 := h i j hi hj
  have h2 := e i j hi hj
  have e1 : U * (f i j * U') = U * (T' i j * b) := by
    have a1 : U * (f i j * U') = f i j * U * U' := by rw [Int.mul_left_comm, Int.mul_assoc]
    have a2 : U * (T' i j * b) = T' i j * U * b := by rw [Int.mul_left_comm, Int.mul_assoc]
    rw [a1, a2, h1, ← h2, Int.mul_assoc, Int.mul_assoc, Int.mul_comm b]
  exact Int.eq_of_mul_eq_mul_left (by omega) e1
end P10
namespace P10
open PySem PySem.Spec PyProof.Rows L2 SX EX WK
/-! ### the steps of the greatest common divisor -/
/-- behind i steps from (a0, b0): (a, b) -/
def Eu (a0 b0 : Nat) (i a b : Nat) : Prop := Nat.gcd a b = Nat.gcd a0 b0 ∧ ((i = 0 ∧ a = a0 ∧ b = b0) ∨ (1 ≤ i ∧ b < a ∧ a * b * 2 ^ (i - 1) ≤ 2 ^ 80000))
theorem eu_start {a0 b0 : Nat} : Eu a0 b0 0 a0 b0 := ⟨rfl, .inl ⟨rfl, rfl, rfl⟩⟩
theorem eu_step {a0 b0 i a b : Nat} (hb0 : b0 < 2 ^ 40000) (h : Eu a0 b0 i a b) (hb : b ≠ 0) : Eu a0 b0 (i + 1) b (a % b) := by
  obtain ⟨g, h⟩ := h
  have hlt : a % b < b := Nat.mod_lt _ (by omega)
  refine ⟨by rw [← g, Nat.gcd_comm b, ← Nat.gcd_rec b a, Nat.gcd_comm], .inr ⟨by omega, hlt, ?_⟩⟩
  rw [show i + 1 - 1 = i by omega]
  rcases h with ⟨rfl, rfl, rfl⟩ | ⟨hi, hab, hm⟩
  · have h1 : b * (a % b) ≤ b * b := Nat.mul_le_mul_left b (by omega)
    have h2 : b * b ≤ 2 ^ 40000 * 2 ^ 40000 := Nat.mul_le_mul (by omega) (by omega)
    rw [← Nat.pow_add] at h2
    rw [Nat.pow_zero, Nat.mul_one]
    exact Nat.le_trans h1 h2
  · have h1 : 2 * (a % b) ≤ a := by
      have e := Nat.div_add_mod a b
      have q : 1 ≤ a / b := Nat.div_pos (by omega) (by omega)
      have := Nat.mul_le_mul_left b q
      omega
    have h2 : b * (a % b) * 2 ≤ a * b := by
      rw [Nat.mul_assoc, Nat.mul_comm a b, Nat.mul_comm (a % b) 2]
      exact Nat.mul_le_mul_left b h1
    have e : 2 ^ i = 2 * 2 ^ (i - 1) := by
      rw [← Nat.pow_succ', Nat.succ_eq_add_one, show i - 1 + 1 = i by omega]
    rw [e, ← Nat.mul_assoc]
    exact Nat.le_trans (Nat.mul_le_mul_right _ h2) hm
theorem eu_end {a0 b0 a b : Nat} (h : Eu a0 b0 100000 a b) : b = 0 := by
  obtain ⟨_, h⟩ := h
  rcases h with ⟨h, _⟩ | ⟨_, hab, hm⟩
  · exact absurd h (by decide)
  · rcases Nat.eq_zero_or_pos b with h | h
    · exact h
    · exfalso
      have h1 : 1 ≤ a * b := Nat.mul_pos (by omega) h
      have h2 : 2 ^ (100000 - 1) ≤ a * b * 2 ^ (100000 - 1) := Nat.le_mul_of_pos_left _ h1
      have h3 : (2 : Nat) ^ 13000 < 2 ^ (100000 - 1) := Nat.pow_lt_pow_right (by decide) (by decide)
      omega
theorem eu_gcd {a0 b0 i a : Nat} (h : Eu a0 b0 i a 0) : a = Nat.gcd a0 b0 := by
  rw [← h.1, Nat.gcd_zero_right]
theorem gI_leb {t b : Int} (hb : 0 < b) : gI t b ≤ b := by
  have : Nat.gcd t.natAbs b.natAbs ≤ b.natAbs := Nat.le_of_dvd (by omega) (Nat.gcd_dvd_right _ _)
  unfold gI
  omega
theorem seq_asg {te : TE} {i : Nat} {u : TS} {D : Ends} {σ : L2.St} {H : Hp} (h : te σ H fun x H1 => u D (σ.set i (some x)) H1) : tSeq (tAsg te (gName i)) u D σ H := h
theorem kit1 {K : PySem.W.Frag} : PySem.W.kitOne K (.type "int") (.type "int") = some true := kit_ty (by decide +kernel)
theorem kit2 {K : PySem.W.Frag} : PySem.W.kitOne K (.type "int") (.type "bool") = some false := kit_ty (by decide +kernel)
theorem kit6 {K : PySem.W.Frag} : PySem.W.kitOne K (.type "tuple") (.type "tuple") = some true := kit_ty (by decide +kernel)
/-! ### _law_cell: some int -/
def spCell (K : PySem.W.Frag) : Sp := fun vs H Q _ => ∃ (a : Addr) (ns : List Int) (k : Int), vs = [.ref a, .int k] ∧ SqL K H a (ns.map V.int) ∧ 0 ≤ k ∧ k ≤ 1000 ∧ ∀ i : Int, Q (.int i) H
abbrev s__law_cell : Stmt := top 44
abbrev N__law_cell : List Str := ["script", "k", "seed", "cell"]
theorem sc__law_cell : FnScope N__law_cell ["script", "k"] (defScope s__law_cell) := ⟨rfl, rfl, rfl, by decide +kernel, rfl, by decide +kernel, by decide +kernel⟩
/-- digits: each is below its size -/
abbrev Dig (ns zs : List Int) : Prop := Paired (fun n z => 0 ≤ n ∧ n < z) ns zs
theorem Dig.snoc : ∀ {ns zs : List Int} {n z : Int}, Dig ns zs → 0 ≤ n → n < z → Dig (ns ++ [n]) (zs ++ [z])
  | _, _, _, _, .nil, h1, h2 => .cons ⟨h1, h2⟩ .nil
  | _, _, _, _, .cons r t, h1, h2 => .cons r (Dig.snoc t h1 h2)
theorem Dig.get : ∀ {ns zs : List Int} {i : Nat} {z : Int}, Dig ns zs → zs[i]? = some z → ∃ n, ns[i]? = some n ∧ 0 ≤ n ∧ n < z
  | _, _, _, _, .nil, e => by simp at e
  | _, _, 0, _, .cons r _, e => by cases e; exact ⟨_, rfl, r.1, r.2⟩
  | _, _, i + 1, z, .cons _ t, e => by
    obtain ⟨n, h1, h2⟩ := Dig.get (i := i) (z := z) t (by simpa using e)
    exact ⟨n, by simpa using h1, h2⟩
theorem Dig.len {ns zs : List Int} (d : Dig ns zs) : ns.length = zs.length := Paired.length d
theorem take_snoc {α : Type} {l : List α} {i : Nat} {x : α} (h : l[i]? = some x) : l.take (i + 1) = l.take i ++ [x] := by
  rw [List.take_add_one, h]
  rfl
theorem map_int {ns : List Int} {i : Nat} {x : V} (h : (ns.map V.int)[i]? = some x) : ∃ z, ns[i]? = some z ∧ x = .int z := by
  rw [List.getElem?_map] at h
  cases e : ns[i]? with
  | none => rw [e] at h; cases h
  | some z => rw [e] at h; exact ⟨z, rfl, (Option.some.inj h).symm⟩
theorem int_at {ns : List Int} {i : Nat} {z : Int} (h : ns[i]? = some z) : (ns.map V.int)[i]? = some (.int z) := by
  rw [List.getElem?_map, h]
  rfl
theorem snoc_int (ns : List Int) (n : Int) : ns.map V.int ++ [V.int n] = (ns ++ [n]).map V.int := by
  rw [List.map_append]
  rfl
/-! ### _law_digits: one digit for each size -/
def spDigits (K : PySem.W.Frag) : Sp := fun vs H Q _ => ∃ (c : Int) (a : Addr) (zs : List Int), vs = [.int c, .ref a] ∧ SqL K H a (zs.map V.int) ∧ zs.length ≤ 1000 ∧ (∀ z ∈ zs, 0 < z ∧ z.natAbs < 2 ^ 2000) ∧
  ∀ p ns, H p = none → Dig ns zs → Q (.ref p) (upd H p (.lst (ns.map V.int)))
abbrev s__law_digits : Stmt := top 45
abbrev N__law_digits : List Str := ["cell", "sizes", "row", "rest", "size", "seed", "k", "twice"]
theorem sc__law_digits : FnScope N__law_digits ["cell", "sizes"] (defScope s__law_digits) := ⟨rfl, rfl, rfl, by decide +kernel, rfl, by decide +kernel, by decide +kernel⟩
section
variable {P : Program} {w : World} {K : PySem.W.Frag} {mg : Str → Option Value} {base : Heap} {f : Addr} {fd : FuncData}
theorem ok__law_cell (F : Fun K "_law_cell" "_law_cell" s__law_cell f fd) (T : Txt mg) : FnOk P w K mg base CX0 1 f fd ["script", "k"] (spCell K) := by
  refine F.ok sc__law_cell (fun vs H Q E h => ?_) (fun cdv A outer s H vs Q E hr h => ?_)
  · obtain ⟨a, ns, k, rfl, _⟩ := h
    rfl
  obtain ⟨a, ns, k, rfl, hs, h0, h1, q⟩ := h
  refine ⟨_, (pss_cons (ps_if (pt_cmpR op_lt (pv 1) (pe_callB call_len_seq (by rfl) T.b_len PySem.boot_len (pa_cons (pv 0) pa_nil)) (nomark _)) (pss_one (ps_ret (pe_ix ix_list (pv 0) (pv 1) (fun _ _ => rfl)))) pss_nil)
  (pss_cons (ps_set (i := 2) sc__law_cell.nd rfl (Or.inl rfl) pe_int)
  (pss_cons (ps_for PassesOwn.never rfl (pi_list (pv 0)) (pg_name (i := 3) sc__law_cell.nd rfl (Or.inl rfl)) (pss_one (ps_set (i := 2) sc__law_cell.nd rfl (Or.inl rfl) (pe_op op_mod (pe_callTy call_int1 (by rfl) T.b_int (by decide +kernel) (pa_cons (pe_op op_add (pe_op op_mul (pv 2) pe_int) (pe_op op_mod (pe_callTy call_int1 (by rfl) T.b_int (by decide +kernel) (pa_cons (pv 3) pa_nil)) pe_int)) pa_nil)) pe_int))))
  (pss_one (ps_ret (pe_op op_mod (pe_callTy call_int1 (by rfl) T.b_int (by decide +kernel) (pa_cons (pe_op op_mul (pe_op op_mul (pe_op op_add (pv 2) pe_int) (pe_op op_add (pv 1) pe_int)) pe_int) pa_nil)) pe_int)))))), ?_⟩
  refine ⟨_, rfl, _, rfl, a, _, rfl, .inl hs, _, _, rfl, rfl, _, rfl, ?_⟩
  refine ite2 (fun c => ?_) (fun c => ?_)
  · have c' : k < (((ns.map V.int).length : Nat) : Int) := of_decide_eq_true c
    rw [List.length_map] at c'
    obtain ⟨z, hz⟩ : ∃ z, ns[k.toNat]? = some z := ⟨ns[k.toNat]'(by omega), List.getElem?_eq_getElem (by omega)⟩
    exact ⟨_, rfl, _, rfl, a, _, k, _, rfl, rfl, hs, at_pos h0 (int_at hz), q z⟩
  · refine ⟨_, rfl, a, rfl, ⟨_, hs⟩, for_list (K := K) (a := a) (xs := ns.map V.int) (fun i σ H' => ∃ (z : Int) (v : Option V), σ = [some (.ref a), some (.int k), some (.int z), v] ∧ H' = H)
      ⟨17, none, rfl, rfl⟩ (fun i σ H' _ ⟨_, _, _, e⟩ => by rw [e]; exact hs) ?_ ?_⟩
    · rintro i y σ H' hi ⟨z, v, rfl, rfl⟩
      obtain ⟨x, hx, rfl⟩ := map_int hi
      refine ⟨_, rfl, _, _, rfl, rfl, .inr (by decide), _, rfl, .inl ⟨_, rfl, _, _, rfl, rfl, (by show (0 : Int) < 1000003; decide), _, _, rfl, rfl, .inl ⟨_, rfl, _, _, rfl, rfl, (by show (0 : Int) < 1000003; decide), ?_⟩⟩⟩
      exact ⟨_, _, rfl, rfl⟩
    · rintro σ H' ⟨z, v, rfl, rfl⟩
      refine ⟨_, rfl, _, _, rfl, rfl, _, rfl, _, _, rfl, rfl, _, _, rfl, rfl, .inr (by omega), _, _, rfl, rfl, .inr (by decide), .inl ⟨_, rfl, _, _, rfl, rfl, (by show (0 : Int) < 2147483647; decide), ?_⟩⟩
      exact q _
theorem ok__law_digits (F : Fun K "_law_digits" "_law_digits" s__law_digits f fd) (T : Txt mg) : FnOk P w K mg base CX0 1 f fd ["cell", "sizes"] (spDigits K) := by
  refine F.ok sc__law_digits (fun vs H Q E h => ?_) (fun cdv A outer s H vs Q E hr h => ?_)
  · obtain ⟨c, a, zs, rfl, _⟩ := h
    rfl
  obtain ⟨c, a, zs, rfl, hs, hz9, hz, q⟩ := h
  refine ⟨_, (pss_cons (ps_set (i := 2) sc__law_digits.nd rfl (Or.inl rfl) (pe_lst pa_nil))
  (pss_cons (ps_set (i := 3) sc__law_digits.nd rfl (Or.inl rfl) (pe_callTy call_int1 (by rfl) T.b_int (by decide +kernel) (pa_cons (pv 0) pa_nil)))
  (pss_cons (ps_if (pt_cmpR op_ge (pv 3) (pe_op op_pow pe_int pe_int) (nomark _)) (pss_cons (ps_set (i := 3) sc__law_digits.nd rfl (Or.inl rfl) (pe_op op_sub (pv 3) (pe_op op_pow pe_int pe_int)))
  (pss_cons (ps_for PassesOwn.never rfl (pi_list (pv 1)) (pg_name (i := 4) sc__law_digits.nd rfl (Or.inl rfl)) (pss_cons (ps_expr (pe_bm PySem.F.plainAttrs_list PySem.F.slot_list_append PySem.F.type_list_append mt_append (pv 2) (pa_cons (pe_op op_mod (pe_callTy call_int1 (by rfl) T.b_int (by decide +kernel) (pa_cons (pv 3) pa_nil)) (pv 4)) pa_nil)))
  (pss_one (ps_set (i := 3) sc__law_digits.nd rfl (Or.inl rfl) (pe_op op_fdivW (pe_callTy call_int1 (by rfl) T.b_int (by decide +kernel) (pa_cons (pv 3) pa_nil)) (pv 4))))))
  (pss_one (ps_ret (pv 2))))) pss_nil)
  (pss_cons (ps_set (i := 5) sc__law_digits.nd rfl (Or.inl rfl) (pe_op op_mod (pe_callTy call_int1 (by rfl) T.b_int (by decide +kernel) (pa_cons (pv 3) pa_nil)) pe_int))
  (pss_cons (ps_for PassesOwn.never rfl (pi_range1 (by rfl) T.b_range (pa_cons (pe_callB call_len_seq (by rfl) T.b_len PySem.boot_len (pa_cons (pv 1) pa_nil)) pa_nil)) (pg_name (i := 6) sc__law_digits.nd rfl (Or.inl rfl)) (pss_cons (ps_set (i := 5) sc__law_digits.nd rfl (Or.inl rfl) (pe_op op_mod (pe_callTy call_int1 (by rfl) T.b_int (by decide +kernel) (pa_cons (pe_op op_add (pe_op op_add (pe_op op_mul (pv 5) pe_int) (pe_op op_mul pe_int (pv 6))) pe_int) pa_nil)) pe_int))
  (pss_cons (ps_set (i := 7) sc__law_digits.nd rfl (Or.inl rfl) (pe_op op_mod (pe_callTy call_int1 (by rfl) T.b_int (by decide +kernel) (pa_cons (pe_op op_mul (pv 5) (pe_op op_add (pe_op op_fdiv (pv 5) pe_int) pe_int)) pa_nil)) pe_int))
  (pss_one (ps_expr (pe_bm PySem.F.plainAttrs_list PySem.F.slot_list_append PySem.F.type_list_append mt_append (pv 2) (pa_cons (pe_op op_mod (pe_op op_fdiv (pv 7) pe_int) (pe_ix ix_list (pv 1) (pv 6) (fun _ _ => rfl))) pa_nil)))))))
  (pss_one (ps_ret (pv 2)))))))), ?_⟩
  have keep : ∀ {p : Addr} {o : HO}, H p = none → SqL K (upd H p o) a (zs.map V.int) := fun hp => (same_new hp _).seq hs
  refine ⟨(by show 0 ≤ sizeLine; exact Nat.zero_le _), fun p hp => ?_⟩
  refine ⟨_, rfl, .inl ⟨_, rfl, ?_⟩⟩
  refine ⟨_, rfl, _, _, rfl, rfl, ⟨by decide, by decide, by decide⟩, _, _, rfl, rfl, _, rfl, ?_⟩
  refine ite2 (fun _ => ?_) (fun _ => ?_)
  · refine ⟨_, rfl, _, _, rfl, rfl, ⟨by decide, by decide, by decide⟩, _, _, rfl, rfl, ?_⟩
    refine ⟨_, rfl, a, rfl, ⟨_, keep hp⟩, for_list (K := K) (a := a) (xs := zs.map V.int) (fun i σ H' => ∃ (z : Int) (v : Option V) (ns : List Int), σ = [some (.int c), some (.ref a), some (.ref p), some (.int z), v, none, none, none] ∧ H' = upd H p (.lst (ns.map V.int)) ∧ Dig ns (zs.take i))
      ⟨_, none, [], rfl, rfl, .nil⟩ (fun i σ H' _ ⟨_, _, _, _, e, _⟩ => by rw [e]; exact keep hp) ?_ ?_⟩
    · rintro i y σ H' hi ⟨z, v, ns, rfl, rfl, hd⟩
      obtain ⟨x, hx, rfl⟩ := map_int hi
      have hx2 := hz x (List.mem_of_getElem? hx)
      have hlen : ns.length ≤ 1000 := by
        have := hd.len
        rw [List.length_take] at this
        omega
      refine ⟨_, rfl, .inl ⟨rfl, _, SqL.of upd_same⟩, _, rfl, .inl ⟨_, rfl, _, rfl, _, _, rfl, rfl, hx2.1, p, _, _, rfl, rfl, upd_same, by rw [List.length_map]; exact small1000 hlen, ?_⟩⟩
      refine ⟨_, rfl, .inl ⟨_, rfl, _, rfl, _, _, rfl, rfl, wide_div hx2.1 hx2.2 (by decide) (by decide), ?_⟩⟩
      exact ⟨_, _, ns ++ [z % x], rfl, by rw [upd_upd, snoc_int], by rw [take_snoc hx]; exact hd.snoc (Int.emod_nonneg _ (by omega)) (Int.emod_lt_of_pos _ hx2.1)⟩
    · rintro σ H' ⟨z, v, ns, rfl, rfl, hd⟩
      rw [List.length_map, List.take_length] at hd
      exact ⟨_, rfl, q p ns hp hd⟩
  · refine ⟨_, rfl, .inl ⟨_, rfl, _, _, rfl, rfl, (by show (0 : Int) < 2147483629; decide), ?_⟩⟩
    refine ⟨_, rfl, a, _, rfl, .inl (keep hp), _, rfl, by rw [List.length_map]; omega, by rw [List.length_map]; omega, for_range (lo := 0) (n := (((zs.map V.int).length : Nat) : Int).toNat)
      (fun i σ H' => ∃ (sd : Int) (v6 v7 : Option V) (r : Int) (ns : List Int), σ = [some (.int c), some (.ref a), some (.ref p), some (.int r), none, some (.int sd), v6, v7] ∧ 0 ≤ sd ∧ sd < 2147483648 ∧ H' = upd H p (.lst (ns.map V.int)) ∧ Dig ns (zs.take i))
      ⟨_, none, none, _, [], rfl, Int.emod_nonneg _ (by decide), Int.lt_trans (Int.emod_lt_of_pos _ (by decide)) (by decide), rfl, .nil⟩ ?_ ?_⟩
    · rintro i σ H' hi ⟨sd, v6, v7, r, ns, rfl, hs0, hs1, rfl, hd⟩
      rw [Int.toNat_natCast, List.length_map] at hi
      obtain ⟨x, hx⟩ : ∃ x, zs[i]? = some x := ⟨zs[i], List.getElem?_eq_getElem hi⟩
      have hx2 := hz x (List.mem_of_getElem? hx)
      have hlen : ns.length ≤ 1000 := by
        have := hd.len
        rw [List.length_take] at this
        omega
      refine ⟨_, rfl, _, _, rfl, rfl, .inr (by decide), _, rfl, _, _, rfl, rfl, .inl (by decide), _, _, rfl, rfl, _, _, rfl, rfl, .inl ⟨_, rfl, _, _, rfl, rfl, (by show (0 : Int) < 2147483647; decide), ?_⟩⟩
      have b0 : 0 ≤ (sd * 48271 + 974711 * (0 + (i : Int)) + 12345) % 2147483647 := Int.emod_nonneg _ (by decide)
      have b1 : (sd * 48271 + 974711 * (0 + (i : Int)) + 12345) % 2147483647 < 2147483648 := Int.lt_trans (Int.emod_lt_of_pos _ (by decide)) (by decide)
      refine ⟨_, rfl, _, rfl, _, _, rfl, rfl, ⟨by decide, by decide⟩, _, _, rfl, rfl, _, _, rfl, rfl, .inl ⟨Int.lt_of_lt_of_le (by decide) b0, Int.lt_trans b1 (by decide)⟩, .inl ⟨_, rfl, _, _, rfl, rfl, (by show (0 : Int) < 2147483629; decide), ?_⟩⟩
      refine ⟨_, rfl, .inl ⟨rfl, _, SqL.of upd_same⟩, _, rfl, _, _, rfl, rfl, ⟨by decide, by decide⟩, _, rfl, _, rfl, a, _, _, _, rfl, rfl, keep hp, at_pos (by omega) (int_at (by rw [show ((0 : Int) + (i : Nat)).toNat = i by omega]; exact hx)), _, _, rfl, rfl, hx2.1, p, _, _, rfl, rfl, upd_same, by rw [List.length_map]; exact small1000 hlen, ?_⟩
      exact ⟨_, _, _, r, _, rfl, b0, b1, by rw [upd_upd, snoc_int], by rw [take_snoc hx]; exact hd.snoc (Int.emod_nonneg _ (by omega)) (Int.emod_lt_of_pos _ hx2.1)⟩
    · rintro σ H' ⟨sd, v6, v7, r, ns, rfl, hs0, hs1, rfl, hd⟩
      rw [Int.toNat_natCast, List.length_map, List.take_length] at hd
      exact ⟨_, rfl, q p ns hp hd⟩
end
section
variable {P : Program} {w : World} {K : PySem.W.Frag} {mg : Str → Option Value} {base : Heap} {f : Addr} {fd : FuncData}
def spLaw_whole : Sp := fun vs H Q _ => ∃ i : Int, vs = [.int i] ∧ Q (.bl true) H
abbrev s__law_whole : Stmt := top 43
abbrev N__law_whole : List Str := ["value"]
theorem sc__law_whole : FnScope N__law_whole ["value"] (defScope s__law_whole) := ⟨rfl, rfl, rfl, by decide +kernel, rfl, by decide +kernel, by decide +kernel⟩
theorem ok__law_whole (F : Fun K "_law_whole" "_law_whole" s__law_whole f fd) (T : Txt mg) : FnOk P w K mg base CX0 1 f fd ["value"] spLaw_whole := by
  refine F.ok sc__law_whole (fun vs H Q E h => ?_) (fun cdv A outer s H vs Q E hr h => ?_)
  · obtain ⟨i, rfl, _⟩ := h
    rfl
  obtain ⟨i, rfl, q⟩ := h
  refine ⟨_, (pss_one (ps_ret (pe_and (pe_callB call_isi (by rfl) T.b_isinstance (by decide +kernel) (pa_cons (pv 0) (pa_cons (pe_bltn (v := .ty "int") (by rfl) T.b_int (by decide +kernel) rfl) pa_nil))) (pe_one (pe_not (pe_callB call_isi (by rfl) T.b_isinstance (by decide +kernel) (pa_cons (pv 0) (pa_cons (pe_bltn (v := .ty "bool") (by rfl) T.b_bool (by decide +kernel) rfl) pa_nil)))))))), ?_⟩
  refine ⟨_, rfl, _, _, _, _, true, rfl, .ty _, .base (.int i), kit1, true, rfl, ifT rfl ?_⟩
  exact ⟨_, rfl, _, _, _, _, false, rfl, .ty _, .base (.int i), kit2, false, rfl, q⟩
theorem okH__law_whole (F : Fun K "_law_whole" "_law_whole" s__law_whole f fd) (T : Txt mg) : L2H.FnH P w K mg base CX0 1 f fd ["value"] spLaw_whole := by
  refine okH F sc__law_whole (fun vs H Q E h => ?_) (fun cdv A outer s H vs Q E p hr hot h => ?_)
  · obtain ⟨i, rfl, _⟩ := h
    rfl
  obtain ⟨i, rfl, q⟩ := h
  refine ⟨_, (pss_one (ps_ret (pe_and (pe_callB call_isi (by rfl) T.b_isinstance (by decide +kernel) (pa_cons (pv 0) (pa_cons (pe_bltn (v := .ty "int") (by rfl) T.b_int (by decide +kernel) rfl) pa_nil))) (pe_one (pe_not (pe_callB call_isi (by rfl) T.b_isinstance (by decide +kernel) (pa_cons (pv 0) (pa_cons (pe_bltn (v := .ty "bool") (by rfl) T.b_bool (by decide +kernel) rfl) pa_nil)))))))), ?_⟩
  refine ⟨_, rfl, _, _, _, _, true, rfl, .ty _, .base (.int i), kit1, true, rfl, ifT rfl ?_⟩
  exact ⟨_, rfl, _, _, _, _, false, rfl, .ty _, .base (.int i), kit2, false, rfl, q⟩
def spGcd : Sp := fun vs H Q _ => ∃ a b : Int, vs = [.int a, .int b] ∧ B 40000 b ∧ Q (.int (gI a b)) H
abbrev s__law_gcd : Stmt := top 46
abbrev N__law_gcd : List Str := ["one", "two", "turn", "rest"]
theorem sc__law_gcd : FnScope N__law_gcd ["one", "two"] (defScope s__law_gcd) := ⟨rfl, rfl, rfl, by decide +kernel, rfl, by decide +kernel, by decide +kernel⟩
theorem abs_nat (a : Int) : (if a < 0 then -a else a) = ((a.natAbs : Nat) : Int) := by
  split <;> omega
theorem ok__law_gcd (F : Fun K "_law_gcd" "_law_gcd" s__law_gcd f fd) (T : Txt mg) : FnOk P w K mg base CX0 1 f fd ["one", "two"] spGcd := by
  refine F.ok sc__law_gcd (fun vs H Q E h => ?_) (fun cdv A outer s H vs Q E hr h => ?_)
  · obtain ⟨a, b, rfl, _⟩ := h
    rfl
  obtain ⟨a, b, rfl, hB, q⟩ := h
  refine ⟨_, (pss_cons (ps_set (i := 0) sc__law_gcd.nd rfl (Or.inl rfl) (pe_callB call_abs (by rfl) T.b_abs (by decide +kernel) (pa_cons (pv 0) pa_nil)))
  (pss_cons (ps_set (i := 1) sc__law_gcd.nd rfl (Or.inl rfl) (pe_callB call_abs (by rfl) T.b_abs (by decide +kernel) (pa_cons (pv 1) pa_nil)))
  (pss_cons (ps_for PassesOwn.never rfl (pi_range1 (by rfl) T.b_range (pa_cons pe_int pa_nil)) (pg_name (i := 2) sc__law_gcd.nd rfl (Or.inl rfl)) (pss_cons (ps_if (pt_cmpR op_eq (pv 1) pe_int (nomark _)) (pss_one ps_break) pss_nil)
  (pss_cons (ps_set (i := 3) sc__law_gcd.nd rfl (Or.inl rfl) (pe_op op_mod (pe_callTy call_int1 (by rfl) T.b_int (by decide +kernel) (pa_cons (pv 0) pa_nil)) (pv 1)))
  (pss_cons (ps_set (i := 0) sc__law_gcd.nd rfl (Or.inl rfl) (pv 1))
  (pss_one (ps_set (i := 1) sc__law_gcd.nd rfl (Or.inl rfl) (pv 3)))))))
  (pss_one (ps_ret (pv 0)))))), ?_⟩
  refine seq_asg ⟨_, rfl, _, rfl, ?_⟩
  rw [abs_nat a]
  refine seq_asg ⟨_, rfl, _, rfl, ?_⟩
  rw [abs_nat b]
  refine ⟨100000, rfl, by decide, by decide, for_range (lo := 0) (n := (100000 : Int).toNat) (fun i σ H' => ∃ (x y : Nat) (v2 v3 : Option V), σ = [some (.int (x : Nat)), some (.int (y : Nat)), v2, v3] ∧ H' = H ∧ Eu a.natAbs b.natAbs i x y) ⟨a.natAbs, b.natAbs, none, none, rfl, rfl, eu_start⟩ ?_ ?_⟩
  · rintro i σ H' hi ⟨x, y, v2, v3, rfl, rfl, e⟩
    refine ⟨_, rfl, rfl, _, rfl, ?_⟩
    refine ite2 (fun c => ?_) (fun c => ?_)
    · have hy : y = 0 := by
        have := V.int.inj (of_decide_eq_true c)
        omega
      subst hy
      refine ⟨_, rfl, ?_⟩
      rw [eu_gcd e]
      exact q
    · have hy : y ≠ 0 := fun z => c (by subst z; exact decide_eq_true rfl)
      refine ⟨_, rfl, .inl ⟨_, rfl, _, rfl, _, _, rfl, rfl, by omega, ?_⟩⟩
      refine ⟨_, rfl, _, rfl, ?_⟩
      exact ⟨y, x % y, _, _, rfl, rfl, eu_step hB e hy⟩
  · rintro σ H' ⟨x, y, v2, v3, rfl, rfl, e⟩
    have hy := eu_end e
    subst hy
    refine ⟨_, rfl, ?_⟩
    rw [eu_gcd e]
    exact q
/-! ### _law_is_fraction -/
end
end P10
namespace P10
open PySem PySem.Spec PyProof.Rows L2 SX EX WK
abbrev tv (n : Nat) (x : Nat → Int) : Td := .tup ((vec n x).map Td.int)
abbrev tm (n : Nat) (f : Nat → Nat → Int) : Td := tdm (mat n f)
theorem sq_same {K : PySem.W.Frag} {H H' : Hp} {k : Bool} {a : Addr} {xs : List V} (s : Same H H') (h : WZ.Sq k K H a xs) : WZ.Sq k K H' a xs := by
  cases k with
  | true => exact s.seq h
  | false => exact Same_seqT s h
theorem sq_or {K : PySem.W.Frag} {H : Hp} {k : Bool} {a : Addr} {xs : List V} (h : WZ.Sq k K H a xs) : SqL K H a xs ∨ SqT K H a xs := by
  cases k with
  | true => exact .inl h
  | false => exact .inr h
theorem sn_ints {K : PySem.W.Frag} {H : Hp} {v : V} {ns : List Int} (h : Sn K H v (.tup (ns.map Td.int))) : ∃ (k : Bool) (a : Addr), v = .ref a ∧ WZ.Sq k K H a (ns.map V.int) := by
  cases h with
  | @lst a vs ts ha hall =>
    rw [hall.ints] at ha
    exact ⟨true, a, rfl, SqL.of ha⟩
  | @tup a vs ts ha hall =>
    rw [hall.ints] at ha
    exact ⟨false, a, rfl, ha⟩
theorem sn_mat {K : PySem.W.Frag} {H : Hp} {v : V} {n : Nat} {f : Nat → Nat → Int} (h : Sn K H v (tm n f)) : ∃ (k : Bool) (a : Addr) (vs : List V), v = .ref a ∧ WZ.Sq k K H a vs ∧ vs.length = n ∧ ∀ i, i < n → ∃ u, vs[i]? = some u ∧ Sn K H u (tv n (f i)) := by
  have row : ∀ {vs : List V}, SnAll K H vs ((mat n f).map fun r => .tup (r.map Td.int)) → vs.length = n ∧ ∀ i, i < n → ∃ u, vs[i]? = some u ∧ Sn K H u (tv n (f i)) := fun {vs} hall => by
    have hl : vs.length = n := by rw [hall.len, List.length_map, mat_len]
    refine ⟨hl, fun i hi => ?_⟩
    have e := List.getElem?_eq_getElem (l := vs) (i := i) (by omega)
    obtain ⟨t, ht, hz⟩ := hall.get e
    rw [List.getElem?_map, mat_at hi] at ht
    cases ht
    exact ⟨_, e, hz⟩
  cases h with
  | @lst a vs ts ha hall => exact ⟨true, a, vs, rfl, SqL.of ha, row hall⟩
  | @tup a vs ts ha hall => exact ⟨false, a, vs, rfl, ha, row hall⟩
theorem in_range {n c i : Nat} (h : (List.range n)[c]? = some i) : c < n ∧ i = c := by
  have h1 := (List.getElem?_eq_some_iff.mp h).1
  rw [List.length_range] at h1
  rw [List.getElem?_range h1] at h
  exact ⟨h1, (Option.some.inj h).symm⟩
theorem vec_lenV {n : Nat} {x : Nat → Int} : ((vec n x).map V.int).length = n := by rw [List.length_map, vec_len]
def LTab (H : Hp) (a : Addr) (n : Nat) (f : Nat → Nat → Int) : Prop := ∃ rs : List Addr, H a = some (.lst (rs.map V.ref)) ∧ rs.length = n ∧ ∀ i, i < n → ∃ p, rs[i]? = some p ∧ H p = some (.lst ((vec n (f i)).map V.int))
theorem LTab.same {H H' : Hp} {a : Addr} {n : Nat} {f : Nat → Nat → Int} (e : Same H H') (h : LTab H a n f) : LTab H' a n f := by
  obtain ⟨rs, h1, h2, h3⟩ := h
  refine ⟨rs, e _ _ h1, h2, fun i hi => ?_⟩
  obtain ⟨p, h4, h5⟩ := h3 i hi
  exact ⟨p, h4, e _ _ h5⟩
theorem LTab.at {H : Hp} {a : Addr} {n : Nat} {f : Nat → Nat → Int} (h : LTab H a n f) : ∃ vs : List V, H a = some (.lst vs) ∧ vs.length = n ∧ ∀ i, i < n → ∃ p, vs[i]? = some (.ref p) ∧ H p = some (.lst ((vec n (f i)).map V.int)) := by
  obtain ⟨rs, h1, h2, h3⟩ := h
  refine ⟨_, h1, by rw [List.length_map]; exact h2, fun i hi => ?_⟩
  obtain ⟨p, h4, h5⟩ := h3 i hi
  exact ⟨p, by rw [List.getElem?_map, h4]; rfl, h5⟩
theorem snall_of {K : PySem.W.Frag} {H : Hp} : ∀ {vs : List V} {ts : List Td}, vs.length = ts.length → (∀ (i : Nat) (v : V) (t : Td), vs[i]? = some v → ts[i]? = some t → Sn K H v t) → SnAll K H vs ts
  | [], [], _, _ => .nil
  | [], _ :: _, h, _ => by simp at h
  | _ :: _, [], h, _ => by simp at h
  | v :: vs, t :: ts, h, g => .cons (g 0 v t rfl rfl) (snall_of (by simpa using h) fun i v t a b => g (i + 1) v t a b)
theorem LTab.sn {K : PySem.W.Frag} {H : Hp} {a : Addr} {n : Nat} {f : Nat → Nat → Int} (h : LTab H a n f) : Sn K H (.ref a) (tm n f) := by
  obtain ⟨vs, h1, h2, h3⟩ := h.at
  refine .lst h1 (snall_of (by rw [List.length_map, mat_len]; exact h2) fun i v t hv ht => ?_)
  have hi : i < n := by
    have := (List.getElem?_eq_some_iff.mp hv).1
    omega
  obtain ⟨p, h4, h5⟩ := h3 i hi
  rw [hv] at h4
  cases h4
  rw [List.getElem?_map, mat_at hi] at ht
  cases ht
  exact .lst h5 (FzAll.of_ints _).sn
def adr : V → Addr
  | .ref p => p
  | _ => 0
theorem LTab.of {H : Hp} {D : Addr} {l : List V} {n : Nat} {f : Nat → Nat → Int} (h : H D = some (.lst l)) (r : Rs (RL D) H l ((List.range n).map fun i => vec n (f i))) : LTab H D n f := by
  have hl : l.length = n := by rw [r.1, List.length_map, List.length_range]
  have at_ : ∀ i, i < n → ∃ p, l[i]? = some (.ref p) ∧ H p = some (.lst ((vec n (f i)).map V.int)) := fun i hi => by
    have e := List.getElem?_eq_getElem (l := l) (i := i) (by omega)
    obtain ⟨p, h1, _, h2⟩ := r.2 i _ (vec n (f i)) e (by rw [List.getElem?_map, List.getElem?_range hi]; rfl)
    exact ⟨p, by rw [e, h1], h2⟩
  refine ⟨l.map adr, ?_, by rw [List.length_map]; exact hl, fun i hi => ?_⟩
  · rw [h]
    congr 2
    refine List.ext_getElem? fun i => ?_
    rw [List.getElem?_map, List.getElem?_map]
    by_cases hi : i < n
    · obtain ⟨p, h1, _⟩ := at_ i hi
      rw [h1]
      rfl
    · rw [List.getElem?_eq_none (by omega)]
      rfl
  · obtain ⟨p, h1, h2⟩ := at_ i hi
    exact ⟨p, by rw [List.getElem?_map, h1]; rfl, h2⟩
theorem ix_any {K : PySem.W.Frag} {H : Hp} {k : Bool} {a : Addr} {xs : List V} {z : Int} {v : V} {Q : VK} (h : WZ.Sq k K H a xs) (e : atI xs z = some v) (q : Q v H) : rIxL K (.ref a) (.int z) H Q ∨ rIxT K (.ref a) (.int z) H Q := by
  cases k with
  | true => exact .inl ⟨a, xs, z, v, rfl, rfl, h, e, q⟩
  | false => exact .inr ⟨a, xs, z, v, rfl, rfl, h, e, q⟩
theorem ne_T {a b : Int} (h : a ≠ b) : (!decide (V.int a = V.int b)) = true := by rw [int_ne h]; rfl
theorem ne_F {a b : Int} (h : a = b) : (!decide (V.int a = V.int b)) = false := by rw [int_eq h]; rfl
theorem gI_unit (x : Int) : gI 1 x = 1 := by
  unfold gI
  rw [show (1 : Int).natAbs = 1 from rfl, Nat.gcd_one_left]
  rfl
theorem ixv {n i : Nat} {x : Nat → Int} (hi : i < n) : atI ((vec n x).map V.int) (0 + (i : Int)) = some (.int (x i)) := at_pos (by omega) (by rw [show (0 + (i : Int)).toNat = i by omega]; exact vecV_at hi)
section
variable {P : Program} {w : World} {K : PySem.W.Frag} {mg : Str → Option Value} {base : Heap} {f : Addr} {fd : FuncData} {cF cR : Addr}
def spDot (K : PySem.W.Frag) : Sp := fun vs H Q _ => ∃ (v1 v2 : V) (n k1 k2 : Nat) (x y : Nat → Int), vs = [v1, v2] ∧ Sn K H v1 (tv n x) ∧ Sn K H v2 (tv n y) ∧ n ≤ 1000 ∧ (∀ i, i < n → B k1 (x i)) ∧ (∀ i, i < n → B k2 (y i)) ∧ 0 < k1 ∧ 0 < k2 ∧ k1 + k2 ≤ 100000 ∧
  ∀ H', Same H H' → Q (.int (S n fun i => x i * y i)) H'
def spIsPoint (K : PySem.W.Frag) : Sp := fun vs H Q _ => ∃ (a : Addr) (n : Nat) (x : Nat → Int), vs = [.ref a, .int n] ∧ SqT K H a ((vec n x).map V.int) ∧ n ≤ 1000 ∧ ∀ H', Same H H' → Q (.bl true) H'
abbrev s__law_is_point : Stmt := top 47
abbrev N__law_is_point : List Str := ["value", "size", "number"]
theorem sc__law_is_point : FnScope N__law_is_point ["value", "size"] (defScope s__law_is_point) := ⟨rfl, rfl, rfl, by decide +kernel, rfl, by decide +kernel, by decide +kernel⟩
theorem ok__law_is_point (F : Fun K "_law_is_point" "_law_is_point" s__law_is_point f fd) (T : Txt mg) (C__law_whole : Cal P w K mg base 1 "_law_whole" ["value"] spLaw_whole) : FnOk P w K mg base CX0 2 f fd ["value", "size"] (spIsPoint K) := by
  refine F.ok sc__law_is_point (fun vs H Q E h => ?_) (fun cdv A outer s H vs Q E hr h => ?_)
  · obtain ⟨a, n, x, rfl, _⟩ := h
    rfl
  obtain ⟨a, n, x, rfl, ha, hn, q⟩ := h
  refine ⟨_, (pss_one (ps_ret (pe_and (pe_callB call_isi (by rfl) T.b_isinstance (by decide +kernel) (pa_cons (pv 0) (pa_cons (pe_bltn (v := .ty "tuple") (by rfl) T.b_tuple (by decide +kernel) rfl) pa_nil))) (pe_and (pe_cmpR op_eq (pe_callB call_len_seq (by rfl) T.b_len PySem.boot_len (pa_cons (pv 0) pa_nil)) (pv 1) (nomark _)) (pe_one (pe_callB (cr_all rfl) (by rfl) T.b_all (by decide +kernel) (pa_cons (pe_lc (own := [("number", 2)]) (g := gName 2) (tt := tYes) (by rfl) sc__law_is_point.nd (pi_tup (pv 0)) (blkOk_by (N := N__law_is_point) (sc := defScope s__law_is_point) (by decide +kernel)) (fun _ _ _ _ _ => (pg_name (i := 2) sc__law_is_point.nd rfl (Or.inl rfl))) (fun _ _ _ _ _ => pts_nil) (fun _ _ _ _ _ => (pe_cal C__law_whole (hr.mono (by omega)) rfl (pa_cons (pv 2) pa_nil)))) pa_nil))))))), ?_⟩
  refine ⟨_, rfl, _, _, _, _, true, rfl, .ty _, ty_tup ha, kit6, true, rfl, ifT rfl ?_⟩
  refine ⟨_, rfl, a, _, rfl, .inr ha, _, rfl, rfl, _, rfl, ifT (by rw [vec_lenV]; exact int_eq rfl) ?_⟩
  refine ⟨_, rfl, a, rfl, ⟨_, ha⟩, fun D hD => ?_⟩
  refine lc_m (walk_tup (K := K) (a := a) (xs := (vec n x).map V.int)) RB (stb_RB (K := K)) (List.range n) (by rw [vec_lenV, List.length_range]) (by rw [List.length_range]; omega) hD (fun H' s => Same_seqT s ha) (fun _ _ _ _ => ys_at) (fun _ => true) (fun c i v H1 H2 hc s1 s2 y A B hA => ?_) (fun H' l s1 hl1 rs => ?_)
  · obtain ⟨hc1, rfl⟩ := in_range hc
    have e := y.2
    rw [vecV_at hc1] at e
    cases e
    exact ⟨rfl, lc_yes ⟨_, rfl, x i, rfl, hA _ _ (fun _ _ h => h) rfl⟩⟩
  · refine ⟨D, _, rfl, SqL.of (by rw [hl1, rs.bls]), ?_⟩
    have e : (((List.range n).map fun _ => true).all id) = true := by
      rw [List.all_map]
      exact List.all_eq_true.mpr fun _ _ => rfl
    rw [e]
    exact q H' s1
abbrev s__law_dot : Stmt := top 48
abbrev N__law_dot : List Str := ["one", "two", "k"]
theorem sc__law_dot : FnScope N__law_dot ["one", "two"] (defScope s__law_dot) := ⟨rfl, rfl, rfl, by decide +kernel, rfl, by decide +kernel, by decide +kernel⟩
theorem ok__law_dot (F : Fun K "_law_dot" "_law_dot" s__law_dot f fd) (T : Txt mg) : FnOk P w K mg base CX0 1 f fd ["one", "two"] (spDot K) := by
  refine F.ok sc__law_dot (fun vs H Q E h => ?_) (fun cdv A outer s H vs Q E hr h => ?_)
  · obtain ⟨v1, v2, n, k1, k2, x, y, rfl, _⟩ := h
    rfl
  obtain ⟨v1, v2, n, k1, k2, x, y, rfl, h1, h2, hn, hx, hy, p1, p2, hk, q⟩ := h
  refine ⟨_, (pss_one (ps_ret (pe_callB (cr_sum rfl) (by rfl) T.b_sum (by decide +kernel) (pa_cons (pe_lc (own := [("k", 2)]) (g := gName 2) (tt := tYes) (by rfl) sc__law_dot.nd (pi_range1 (by rfl) T.b_range (pa_cons (pe_callB call_len_seq (by rfl) T.b_len PySem.boot_len (pa_cons (pv 0) pa_nil)) pa_nil)) (blkOk_by (N := N__law_dot) (sc := defScope s__law_dot) (by decide +kernel)) (fun _ _ _ _ _ => (pg_name (i := 2) sc__law_dot.nd rfl (Or.inl rfl))) (fun _ _ _ _ _ => pts_nil) (fun _ _ _ _ _ => (pe_op op_mulW (pe_ix (ix_orK (K := K) rfl) (pv 0) (pv 2) (fun _ _ => rfl)) (pe_ix (ix_orK (K := K) rfl) (pv 1) (pv 2) (fun _ _ => rfl))))) pa_nil)))), ?_⟩
  obtain ⟨k, a, rfl, ha⟩ := sn_ints h1
  obtain ⟨l, b, rfl, hb⟩ := sn_ints h2
  refine ⟨_, rfl, _, _, rfl, sq_or ha, (n : Int), by rw [vec_lenV], by omega, by omega, fun D hD => ?_⟩
  refine lc_m (walk_range (lo := 0) (n := n)) RI (stb_RI (K := K)) (List.range n) (by rw [List.length_range]) (by rw [List.length_range]; omega) hD (fun _ _ => trivial) (fun _ _ _ _ => ys_fn) (fun i => x i * y i) (fun c i v H1 H2 hc s1 s2 yl A B hA => ?_) (fun H' l1 s1 hl1 rs => ?_)
  · obtain ⟨hc1, rfl⟩ := in_range hc
    rw [yl.2]
    exact ⟨rfl, lc_yes ⟨_, rfl, _, rfl, ix_any (sq_same s2 ha) (ixv hc1) ⟨_, rfl, _, rfl, ix_any (sq_same s2 hb) (ixv hc1) ⟨_, _, rfl, rfl, wmul (hx i hc1) (hy i hc1) p1 p2 (by omega), hA _ _ (fun _ _ h => h) rfl⟩⟩⟩⟩
  · exact ⟨D, _, rfl, SqL.of (by rw [hl1, rs.ints]), q H' s1⟩
end
/-- a table under work: all that stood at H0 stands -/
structure MT (H0 H : Hp) (a : Addr) (rs : List Addr) (n : Nat) (f : Nat → Nat → Int) : Prop where
  same : Same H0 H
  at_ : H a = some (.lst (rs.map V.ref))
  len : rs.length = n
  nd : rs.Nodup
  na : a ∉ rs
  fr : ∀ r ∈ rs, H0 r = none
  row : ∀ (i : Nat), i < n → ∃ p, rs[i]? = some p ∧ H p = some (.lst ((vec n (f i)).map V.int))
theorem MT.ltab {H0 H : Hp} {a : Addr} {rs : List Addr} {n : Nat} {f : Nat → Nat → Int} (h : MT H0 H a rs n f) : LTab H a n f := ⟨rs, h.at_, h.len, h.row⟩
theorem MT.keep {H0 H H' : Hp} {a : Addr} {rs : List Addr} {n : Nat} {f : Nat → Nat → Int} (h : MT H0 H a rs n f) (s : Same H H') : MT H0 H' a rs n f := by
  refine ⟨h.same.trans s, s _ _ h.at_, h.len, h.nd, h.na, h.fr, fun i hi => ?_⟩
  obtain ⟨p, h1, h2⟩ := h.row i hi
  exact ⟨p, h1, s _ _ h2⟩
theorem MT.congr {H0 H : Hp} {a : Addr} {rs : List Addr} {n : Nat} {f g : Nat → Nat → Int} (h : MT H0 H a rs n f) (e : ∀ i j, i < n → j < n → f i j = g i j) : MT H0 H a rs n g := by
  refine ⟨h.same, h.at_, h.len, h.nd, h.na, h.fr, fun i hi => ?_⟩
  obtain ⟨p, h1, h2⟩ := h.row i hi
  exact ⟨p, h1, by rw [← vec_congr fun j hj => e i j hi hj]; exact h2⟩
def put (f : Nat → Nat → Int) (i j : Nat) (v : Int) : Nat → Nat → Int := fun a b => if a = i ∧ b = j then v else f a b
theorem vec_set {n j : Nat} {x : Nat → Int} {v : Int} (hj : j < n) : ((vec n x).map V.int).set j (.int v) = ((vec n fun b => if b = j then v else x b).map V.int) := by
  refine List.ext_getElem? fun b => ?_
  by_cases hb : b < n
  · rw [vecV_at hb, List.getElem?_set]
    by_cases e : j = b
    · subst e
      rw [if_pos rfl, if_pos rfl, if_pos (by rw [vec_lenV]; exact hb)]
    · rw [if_neg e, vecV_at hb, if_neg (Ne.symm e)]
  · rw [List.getElem?_eq_none (by rw [List.length_set, vec_lenV]; omega), List.getElem?_eq_none (by rw [vec_lenV]; omega)]
theorem MT.set {H0 H : Hp} {a p : Addr} {rs : List Addr} {n i j : Nat} {f : Nat → Nat → Int} {v : Int} (h : MT H0 H a rs n f) (hi : i < n) (hj : j < n) (hp : rs[i]? = some p) : MT H0 (upd H p (.lst (((vec n (f i)).map V.int).set j (.int v)))) a rs n (put f i j v) := by
  have mp := List.mem_of_getElem? hp
  refine ⟨same_at h.same (h.fr p mp), ?_, h.len, h.nd, h.na, h.fr, fun b hb => ?_⟩
  · rw [upd_ne (fun z => h.na (by rw [z]; exact mp))]
    exact h.at_
  · obtain ⟨r, h1, h2⟩ := h.row b hb
    refine ⟨r, h1, ?_⟩
    by_cases e : b = i
    · subst e
      rw [hp] at h1
      cases h1
      rw [upd_same, vec_set hj]
      congr 3
      refine vec_congr fun c hc => ?_
      unfold put
      by_cases ec : c = j
      · rw [if_pos ec, if_pos ⟨rfl, ec⟩]
      · rw [if_neg ec, if_neg fun z => ec z.2]
    · have hr : r ≠ p := fun z => by
        have hib : i < rs.length := (List.getElem?_eq_some_iff.mp hp).1
        have e1 := (List.getElem?_inj hib h.nd).mp (hp.trans (by rw [h1, z]))
        exact e e1.symm
      rw [upd_ne hr, h2]
      congr 3
      refine vec_congr fun c hc => ?_
      unfold put
      rw [if_neg fun z => e z.1]
theorem MT.start {H0 : Hp} {D : Addr} (h : H0 D = none) : MT H0 (upd H0 D (.lst [])) D [] 0 (fun _ _ => 0) := ⟨new_same h _, upd_same, rfl, List.nodup_nil, by simp, by simp, fun i hi => by omega⟩
theorem zero_vec {m n : Nat} {l : List V} {H : Hp} (h : Rs RI H l ((List.range n).map fun _ => (0 : Int))) : l = (vec n fun _ => 0).map V.int := h.ints
/-- rows of zeros, so far i of them -/
structure ZT (H0 H : Hp) (a : Addr) (rs : List Addr) (n i : Nat) : Prop where
  same : Same H0 H
  at_ : H a = some (.lst (rs.map V.ref))
  len : rs.length = i
  nd : rs.Nodup
  na : a ∉ rs
  fr : ∀ r ∈ rs, H0 r = none
  row : ∀ r ∈ rs, H r = some (.lst ((vec n fun _ => 0).map V.int))
theorem ZT.mt {H0 H : Hp} {a : Addr} {rs : List Addr} {n : Nat} (h : ZT H0 H a rs n n) : MT H0 H a rs n (fun _ _ => 0) :=
  ⟨h.same, h.at_, h.len, h.nd, h.na, h.fr, fun i hi => ⟨rs[i]'(by rw [h.len]; exact hi), List.getElem?_eq_getElem _, h.row _ (List.getElem_mem _)⟩⟩
theorem ZT.snoc {H0 H H' : Hp} {a p : Addr} {rs : List Addr} {n i : Nat} (h : ZT H0 H a rs n i) (h0 : H0 a = none) (s : Same H H') (hp : H p = none) (hr : H' p = some (.lst ((vec n fun _ => 0).map V.int))) : ZT H0 (upd H' a (.lst (rs.map V.ref ++ [.ref p]))) a (rs ++ [p]) n (i + 1) := by
  have hpa : p ≠ a := fun z => by rw [z, h.at_] at hp; cases hp
  refine ⟨same_at (h.same.trans s) h0, ?_, by rw [List.length_append, h.len]; rfl, ?_, ?_, fun r hr' => ?_, fun r hr' => ?_⟩
  · rw [upd_same, List.map_append]
    rfl
  · refine List.nodup_append.mpr ⟨h.nd, by simp, fun x hx y hy z => ?_⟩
    rw [List.mem_singleton] at hy
    subst hy
    subst z
    rw [h.row _ hx] at hp
    cases hp
  · intro hm
    rcases List.mem_append.mp hm with m | m
    · exact h.na m
    · exact hpa (List.mem_singleton.mp m).symm
  · rcases List.mem_append.mp hr' with m | m
    · exact h.fr r m
    · rw [List.mem_singleton.mp m]
      cases e : H0 p with
      | none => rfl
      | some u => rw [h.same _ _ e] at hp; cases hp
  · rcases List.mem_append.mp hr' with m | m
    · rw [upd_ne (fun z => h.na (by rw [← z]; exact m))]
      exact s _ _ (h.row r m)
    · rw [List.mem_singleton.mp m, upd_ne hpa]
      exact hr
end P10
namespace PySem.El

/-- Rows of a matrix: a row tells its number at each column. -/
abbrev Row := Nat → Int

def E (c : Nat) (f : List Row → Int) : List Row → List Row → Int
  | _, [] => 0
  | pre, r :: rs => r c * f (pre ++ rs) - E c f (pre ++ [r]) rs

def D : List Nat → List Row → Int
  | [], rows => match rows with | [] => 1 | _ :: _ => 0
  | c :: cs, rows => E c (D cs) [] rows

def comb (u : Row) (k : Int) (v : Row) : Row := fun j => u j + k * v j

def Lin (f : List Row → Int) : Prop :=
  ∀ a b u v k, f (a ++ comb u k v :: b) = f (a ++ u :: b) + k * f (a ++ v :: b)

def Alt (f : List Row → Int) : Prop := ∀ a b u, f (a ++ u :: u :: b) = 0

theorem E_lin_pre {c : Nat} {f : List Row → Int} (hf : Lin f) (u v : Row) (k : Int) :
    ∀ (b p q : List Row), E c f (p ++ comb u k v :: q) b = E c f (p ++ u :: q) b + k * E c f (p ++ v :: q) b := by
  intro b
  induction b with
  | nil => intro p q; simp [E]
  | cons r b ih =>
    intro p q
    have h1 := hf p (q ++ b) u v k
    have h2 := ih p (q ++ [r])
    simp only [E, List.append_assoc, List.cons_append] at *
    rw [h1, h2, Int.mul_add, Int.mul_sub]
    have : r c * (k * f (p ++ v :: (q ++ b))) = k * (r c * f (p ++ v :: (q ++ b))) := by
      rw [← Int.mul_assoc, Int.mul_comm (r c) k, Int.mul_assoc]
    rw [this]; omega

theorem E_lin {c : Nat} {f : List Row → Int} (hf : Lin f) (u v : Row) (k : Int) :
    ∀ (a pre b : List Row), E c f pre (a ++ comb u k v :: b) = E c f pre (a ++ u :: b) + k * E c f pre (a ++ v :: b) := by
  intro a
  induction a with
  | nil =>
    intro pre b
    have h := E_lin_pre (c := c) hf u v k b pre []
    simp only [E, List.nil_append] at *
    rw [h]
    have : comb u k v c = u c + k * v c := rfl
    rw [this, Int.add_mul, Int.mul_sub, Int.mul_assoc]; omega
  | cons r a ih =>
    intro pre b
    have h1 := hf (pre ++ a) b u v k
    have h2 := ih (pre ++ [r]) b
    simp only [E, List.append_assoc, List.cons_append] at *
    rw [h1, h2, Int.mul_add, Int.mul_sub]
    have : r c * (k * f (pre ++ (a ++ v :: b))) = k * (r c * f (pre ++ (a ++ v :: b))) := by
      rw [← Int.mul_assoc, Int.mul_comm (r c) k, Int.mul_assoc]
    rw [this]; omega

theorem E_alt_pre {c : Nat} {f : List Row → Int} (hf : Alt f) (u : Row) :
    ∀ (b p q : List Row), E c f (p ++ u :: u :: q) b = 0 := by
  intro b
  induction b with
  | nil => intro p q; rfl
  | cons r b ih =>
    intro p q
    have h1 := hf p (q ++ b) u
    have h2 := ih p (q ++ [r])
    simp only [E, List.append_assoc, List.cons_append] at *
    rw [h1, h2]; simp

theorem E_alt {c : Nat} {f : List Row → Int} (hf : Alt f) (u : Row) :
    ∀ (a pre b : List Row), E c f pre (a ++ u :: u :: b) = 0 := by
  intro a
  induction a with
  | nil =>
    intro pre b
    have h := E_alt_pre (c := c) hf u b pre []
    simp only [E, List.nil_append, List.append_assoc, List.cons_append] at *
    rw [h]; omega
  | cons r a ih =>
    intro pre b
    have h1 := hf (pre ++ a) b u
    have h2 := ih (pre ++ [r]) b
    simp only [E, List.append_assoc, List.cons_append] at *
    rw [h1, h2]; simp

theorem D_lin : ∀ cs, Lin (D cs) := by
  intro cs
  induction cs with
  | nil => intro a b u v k; cases a <;> simp [D]
  | cons c cs ih => intro a b u v k; exact E_lin ih u v k a [] b

theorem D_alt : ∀ cs, Alt (D cs) := by
  intro cs
  induction cs with
  | nil => intro a b u; cases a <;> simp [D]
  | cons c cs ih => intro a b u; exact E_alt ih u a [] b

theorem comb_one (u v : Row) : comb u 1 v = comb v 1 u := by
  funext j; simp only [comb]; omega

theorem D_swap (cs : List Nat) (a b : List Row) (u v : Row) :
    D cs (a ++ u :: v :: b) = - D cs (a ++ v :: u :: b) := by
  have h0 := D_alt cs a b (comb u 1 v)
  have h1 := D_lin cs a (comb u 1 v :: b) u v 1
  have h2 := D_lin cs (a ++ [u]) b u v 1
  have h3 := D_lin cs (a ++ [v]) b u v 1
  have h4 := D_alt cs a b u
  have h5 := D_alt cs a b v
  simp only [List.append_assoc, List.cons_append, List.nil_append] at h2 h3
  rw [h1, h2, h3, h4, h5] at h0
  omega

theorem D_far (cs : List Nat) (u : Row) : ∀ (a p b : List Row), D cs (p ++ u :: (a ++ u :: b)) = 0 := by
  intro a
  induction a with
  | nil => intro p b; exact D_alt cs p b u
  | cons r a ih =>
    intro p b
    have h1 := D_swap cs p (a ++ u :: b) u r
    have h2 := ih (p ++ [r]) b
    simp only [List.append_assoc, List.cons_append, List.nil_append] at *
    rw [h1, h2]; rfl

theorem D_mem (cs : List Nat) (u : Row) (rows : List Row) (h : u ∈ rows) : D cs (u :: rows) = 0 := by
  obtain ⟨a, b, rfl⟩ := List.append_of_mem h
  exact D_far cs u a [] b

/-- What rows span. -/
inductive Sp (rows : List Row) : Row → Prop
  | zero : Sp rows (fun _ => 0)
  | add (w : Row) (k : Int) (v : Row) : Sp rows w → v ∈ rows → Sp rows (comb w k v)

theorem comb_assoc (u w v : Row) (k : Int) : (fun j => u j + comb w k v j) = comb (fun j => u j + w j) k v := by
  funext j; simp only [comb]; omega

theorem D_sp (cs : List Nat) (rows : List Row) (u w : Row) (h : Sp rows w) :
    D cs ((fun j => u j + w j) :: rows) = D cs (u :: rows) := by
  induction h with
  | zero => simp
  | add w k v _ hv ih =>
    rw [comb_assoc]
    have := D_lin cs [] rows (fun j => u j + w j) v k
    simp only [List.nil_append] at this
    rw [this, D_mem cs v rows hv, ih]; omega

theorem D_zero : ∀ (cs : List Nat) (a b : List Row) (r : Row), (∀ j ∈ cs, r j = 0) → D cs (a ++ r :: b) = 0 := by
  intro cs
  induction cs with
  | nil => intro a b r _; cases a <;> simp [D]
  | cons c cs ih =>
    intro a b r h
    have hc : r c = 0 := h c (List.mem_cons_self ..)
    have hr : ∀ j ∈ cs, r j = 0 := fun j hj => h j (List.mem_cons_of_mem _ hj)
    have q1 : ∀ (b p q : List Row), E c (D cs) (p ++ r :: q) b = 0 := by
      intro b
      induction b with
      | nil => intro p q; rfl
      | cons s b ihb =>
        intro p q
        have h1 := ih p (q ++ b) r hr
        have h2 := ihb p (q ++ [s])
        simp only [E, List.append_assoc, List.cons_append] at *
        rw [h1, h2]; simp
    have q2 : ∀ (a p : List Row), E c (D cs) p (a ++ r :: b) = 0 := by
      intro a
      induction a with
      | nil =>
        intro p
        have h2 := q1 b p []
        simp only [E, List.nil_append] at *
        rw [h2, hc]; simp
      | cons s a iha =>
        intro p
        have h1 := ih (p ++ a) b r hr
        have h2 := iha (p ++ [s])
        simp only [E, List.append_assoc, List.cons_append] at *
        rw [h1, h2]; simp
    exact q2 a []

theorem D_first (c : Nat) (cs : List Nat) (rows : List Row) (r : Row) (h : ∀ j ∈ cs, r j = 0) :
    D (c :: cs) (r :: rows) = r c * D cs rows := by
  have q1 : ∀ (b p q : List Row), E c (D cs) (p ++ r :: q) b = 0 := by
    intro b
    induction b with
    | nil => intro p q; rfl
    | cons s b ihb =>
      intro p q
      have h1 := D_zero cs p (q ++ b) r h
      have h2 := ihb p (q ++ [s])
      simp only [E, List.append_assoc, List.cons_append] at *
      rw [h1, h2]; simp
  have := q1 rows [] []
  simp only [D, E, List.nil_append] at *
  rw [this]; omega

/-- A row times a number. -/
theorem D_scale (cs : List Nat) (rows : List Row) (k : Int) (v : Row) :
    D cs ((fun j => k * v j) :: rows) = k * D cs (v :: rows) := by
  have h := D_lin cs [] rows (fun _ => 0) v k
  have hz := D_zero cs [] rows (fun _ => 0) (fun _ _ => rfl)
  have he : comb (fun _ => 0) k v = fun j => k * v j := by funext j; simp [comb]
  simp only [List.nil_append] at *
  rw [he, hz] at h
  rw [h]; omega

/-- The heart: a row made zero at the columns of S tells the bordered minor. -/
theorem D_border (S : List Nat) (rows : List Row) (u w b : Row) (m : Int) (j : Nat)
    (hw : Sp rows w) (hb : ∀ x, m * u x + w x = b x) (hz : ∀ x ∈ S, b x = 0) :
    m * D (j :: S) (u :: rows) = b j * D S rows := by
  rw [← D_scale, ← D_sp (j :: S) rows (fun x => m * u x) w hw]
  have : (fun x => m * u x + w x) = b := funext hb
  rw [this, D_first j S rows b hz]

theorem Sp_mono {rows rows' : List Row} (h : ∀ r ∈ rows, r ∈ rows') {w : Row} (hw : Sp rows w) : Sp rows' w := by
  induction hw with
  | zero => exact .zero
  | add w k v _ hv ih => exact .add w k v ih (h v hv)

theorem Sp_scale {rows : List Row} {w : Row} (hw : Sp rows w) (c : Int) : Sp rows (fun j => c * w j) := by
  induction hw with
  | zero => simpa using Sp.zero
  | add w k v _ hv ih =>
    have := Sp.add _ (c * k) v ih hv
    have e : comb (fun j => c * w j) (c * k) v = fun j => c * comb w k v j := by
      funext j; simp only [comb]; rw [Int.mul_add, Int.mul_assoc]
    rwa [e] at this

theorem Sp_add {rows : List Row} {w w' : Row} (hw : Sp rows w) (hw' : Sp rows w') : Sp rows (fun j => w j + w' j) := by
  induction hw' with
  | zero => simpa using hw
  | add w' k v _ hv ih =>
    have := Sp.add _ k v ih hv
    rwa [← comb_assoc] at this

end PySem.El
namespace PySem.El

def redu (B : Nat → Row) (k : Nat) (d : Int) : Nat → Row := fun i j =>
  if k < i ∧ k < j then (B k k * B i j - B k i * B k j) / d else 0

/-- How the rest stands ahead of the index k: S are the pivots found (the newest first), d is the last pivot. -/
structure Inv (A : Nat → Row) (S : List Nat) (k : Nat) (d : Int) (B : Nat → Row) : Prop where
  small : ∀ s ∈ S, s < k
  dpos : 0 < d
  det : D S (S.map A) = d
  sym : ∀ i j, B i j = B j i
  low : ∀ i j, j < k → B i j = 0
  span : ∀ i, k ≤ i → ∃ m w, m ≠ 0 ∧ Sp (S.map A) w ∧ ∀ x, m * (d * A i x) + w x = m * B i x

theorem Inv.begin (A : Nat → Row) (h : ∀ i j, A i j = A j i) : Inv A [] 0 1 A where
  small := by simp
  dpos := by decide
  det := rfl
  sym := h
  low := by intro i j h; omega
  span := by
    intro i _
    exact ⟨1, fun _ => 0, by decide, .zero, by intro x; simp⟩

theorem Inv.skip {A : Nat → Row} {S k d B} (h : Inv A S k d B) (hz : ∀ x, B k x = 0) : Inv A S (k + 1) d B where
  small := fun s hs => Nat.lt_succ_of_lt (h.small s hs)
  dpos := h.dpos
  det := h.det
  sym := h.sym
  low := by
    intro i j hj
    by_cases e : j = k
    · rw [e, h.sym, hz]
    · exact h.low i j (by omega)
  span := fun i hi => h.span i (by omega)

theorem Inv.minor {A : Nat → Row} {S k d B} (h : Inv A S k d B) {i : Nat} (hi : k ≤ i) (j : Nat) :
    B i j = D (j :: S) (A i :: S.map A) := by
  obtain ⟨m, w, hm, hw, he⟩ := h.span i hi
  have hb := D_border S (S.map A) (A i) w (fun x => m * B i x) (m * d) j hw
    (by intro x; rw [← he x, Int.mul_assoc]) (by intro x hx; rw [h.low i x (h.small x hx)]; simp)
  rw [h.det] at hb
  have hne : m * d ≠ 0 := Int.mul_ne_zero hm (by have := h.dpos; omega)
  apply Int.eq_of_mul_eq_mul_left hne
  rw [hb]; grind

theorem Inv.pivotDet {A : Nat → Row} {S k d B} (h : Inv A S k d B) :
    D (k :: S) ((k :: S).map A) = B k k := (h.minor (Nat.le_refl k) k).symm

/-- The elimination step leaves no remainder. -/
theorem Inv.exact {A : Nat → Row} {S k d B} (h : Inv A S k d B) (hp : 0 < B k k) (i j : Nat) :
    d * redu B k d i j = B k k * B i j - B k i * B k j := by
  have hd := h.dpos
  unfold redu
  by_cases c : k < i ∧ k < j
  · rw [if_pos c]
    obtain ⟨m, w, hm, hw, he⟩ := h.span i (by omega)
    obtain ⟨mk, wk, hmk, hwk, hek⟩ := h.span k (Nat.le_refl k)
    have hsub : ∀ r ∈ S.map A, r ∈ (k :: S).map A := fun r hr => List.mem_cons_of_mem _ hr
    have hW : Sp ((k :: S).map A) (comb (fun x => (B k k * mk) * w x + (-(B k i * m)) * wk x) (-(B k i * m * mk * d)) (A k)) :=
      .add _ _ _ (Sp_add (Sp_scale (Sp_mono hsub hw) _) (Sp_scale (Sp_mono hsub hwk) _)) (List.mem_cons_self ..)
    have hb := D_border (k :: S) ((k :: S).map A) (A i) _ (fun x => m * mk * (B k k * B i x - B k i * B k x))
      (m * mk * B k k * d) j hW
      (by intro x; simp only [comb]; have e1 := he x; have e2 := hek x; grind)
      (by
        intro x hx
        rcases List.mem_cons.1 hx with e | hx
        · subst e; have := h.sym i x; grind
        · have l1 := h.low i x (h.small x hx); have l2 := h.low k x (h.small x hx); simp [l1, l2])
    rw [h.pivotDet] at hb
    have hne : m * mk * B k k ≠ 0 := Int.mul_ne_zero (Int.mul_ne_zero hm hmk) (by omega)
    have hN : d * D (j :: k :: S) (A i :: (k :: S).map A) = B k k * B i j - B k i * B k j := by
      apply Int.eq_of_mul_eq_mul_left hne
      grind
    rw [← hN, Int.mul_ediv_cancel_left _ (by omega)]
  · rw [if_neg c]
    by_cases ci : k < i
    · have cj : j ≤ k := by omega
      rcases Nat.lt_or_eq_of_le cj with l | e
      · have l1 := h.low i j l; have l2 := h.low k j l; simp [l1, l2]
      · subst e; have := h.sym i j; grind
    · rcases Nat.lt_or_eq_of_le (Nat.le_of_not_lt ci) with l | e
      · have l1 := h.sym i j; have l2 := h.low j i l; have l3 := h.low k i l; rw [l1, l2, l3]; simp
      · subst e; grind

theorem Inv.pivot {A : Nat → Row} {S k d B} (h : Inv A S k d B) (hp : 0 < B k k) :
    Inv A (k :: S) (k + 1) (B k k) (redu B k d) where
  small := by
    intro s hs
    rcases List.mem_cons.1 hs with e | hs
    · omega
    · have := h.small s hs; omega
  dpos := hp
  det := h.pivotDet
  sym := by
    intro i j
    have hd := h.dpos
    apply Int.eq_of_mul_eq_mul_left (show d ≠ 0 by omega)
    rw [h.exact hp, h.exact hp, h.sym i j]; grind
  low := by
    intro i j hj
    unfold redu
    rw [if_neg (by omega)]
  span := by
    intro i hi
    obtain ⟨m, w, hm, hw, he⟩ := h.span i (by omega)
    obtain ⟨mk, wk, hmk, hwk, hek⟩ := h.span k (Nat.le_refl k)
    have hd := h.dpos
    have hsub : ∀ r ∈ S.map A, r ∈ (k :: S).map A := fun r hr => List.mem_cons_of_mem _ hr
    refine ⟨m * mk * d, comb (fun x => (B k k * mk) * w x + (-(B k i * m)) * wk x) (-(B k i * m * mk * d)) (A k),
      Int.mul_ne_zero (Int.mul_ne_zero hm hmk) (by omega),
      .add _ _ _ (Sp_add (Sp_scale (Sp_mono hsub hw) _) (Sp_scale (Sp_mono hsub hwk) _)) (List.mem_cons_self ..), ?_⟩
    intro x
    have e := h.exact hp i x
    have e1 := he x
    have e2 := hek x
    simp only [comb]
    grind

/-- A bound of minors. -/
def bnd (M : Int) : Nat → Int
  | 0 => 1
  | n + 1 => ((n : Int) + 1) * (M * bnd M n)

theorem bnd_nonneg {M : Int} (hM : 0 ≤ M) : ∀ n, 0 ≤ bnd M n
  | 0 => by simp [bnd]
  | n + 1 => Int.mul_nonneg (by omega) (Int.mul_nonneg hM (bnd_nonneg hM n))

theorem abs_mul_le {a b x y : Int} (ha : -x ≤ a ∧ a ≤ x) (hb : -y ≤ b ∧ b ≤ y) : -(x * y) ≤ a * b ∧ a * b ≤ x * y := by
  have hx : 0 ≤ x := by omega
  have hy : 0 ≤ y := by omega
  have h1 : a.natAbs * b.natAbs ≤ x.natAbs * y.natAbs := Nat.mul_le_mul (by omega) (by omega)
  rw [← Int.natAbs_mul, ← Int.natAbs_mul] at h1
  have := Int.mul_nonneg hx hy
  omega

theorem E_bound {c : Nat} {f : List Row → Int} {M G : Int} (n : Nat) : ∀ (rs pre : List Row), (∀ r ∈ rs, -M ≤ r c ∧ r c ≤ M) →
    (∀ q : List Row, q.length = n → (∀ r ∈ q, r ∈ pre ++ rs) → -G ≤ f q ∧ f q ≤ G) → pre.length + rs.length = n + 1 →
    -((rs.length : Int) * (M * G)) ≤ E c f pre rs ∧ E c f pre rs ≤ (rs.length : Int) * (M * G) := by
  intro rs
  induction rs with
  | nil => intro pre _ _ _; simp [E]
  | cons r rs ih =>
    intro pre hr hf hl
    have h1 := ih (pre ++ [r]) (fun s hs => hr s (List.mem_cons_of_mem _ hs))
      (by intro q hq hm; apply hf q hq; intro s hs; have := hm s hs; simpa using this)
      (by simp at *; omega)
    have h2 := hf (pre ++ rs) (by simp at *; omega) (by
      intro s hs; rcases List.mem_append.1 hs with a | a
      · exact List.mem_append_left _ a
      · exact List.mem_append_right _ (List.mem_cons_of_mem _ a))
    have h3 := abs_mul_le (hr r (List.mem_cons_self ..)) h2
    have e : ((r :: rs).length : Int) * (M * G) = (rs.length : Int) * (M * G) + M * G := by
      simp [Int.add_mul]
    simp only [E]
    rw [e]
    omega

theorem D_bound {M : Int} (hM : 0 ≤ M) : ∀ (cs : List Nat) (rows : List Row), rows.length = cs.length →
    (∀ r ∈ rows, ∀ c ∈ cs, -M ≤ r c ∧ r c ≤ M) →
    -(bnd M cs.length) ≤ D cs rows ∧ D cs rows ≤ bnd M cs.length := by
  intro cs
  induction cs with
  | nil =>
    intro rows hl _
    cases rows with
    | nil => simp [D, bnd]
    | cons r rs => simp at hl
  | cons c cs ih =>
    intro rows hl h
    have := E_bound (c := c) (f := D cs) (M := M) (G := bnd M cs.length) cs.length rows []
      (fun r hr => h r hr c (List.mem_cons_self ..))
      (by
        intro q hq hm
        exact ih q hq (fun r hr x hx => h r (by simpa using hm r hr) x (List.mem_cons_of_mem _ hx)))
      (by simpa using hl)
    simp only [D, bnd, List.length_cons]
    rw [hl] at this
    simpa using this

theorem Inv.bound {A : Nat → Row} {S k d B} (h : Inv A S k d B) {M : Int} (hM : 0 ≤ M)
    (hA : ∀ i j, -M ≤ A i j ∧ A i j ≤ M) {i : Nat} (hi : k ≤ i) (j : Nat) :
    -(bnd M (S.length + 1)) ≤ B i j ∧ B i j ≤ bnd M (S.length + 1) := by
  rw [h.minor hi j]
  have := D_bound hM (j :: S) (A i :: S.map A) (by simp) (by
    intro r hr c _
    rcases List.mem_cons.1 hr with e | hr
    · subst e; exact hA i c
    · obtain ⟨s, _, rfl⟩ := List.mem_map.1 hr; exact hA s c)
  simpa using this

end PySem.El
namespace PySem.El

/-- The pivots of an elimination, newest first: index, row, scale. -/
abbrev Pv := Nat × Row × Int

/-- The elimination without fractions up to the index k. -/
inductive Run (A : Nat → Row) : Nat → List Nat → Int → (Nat → Row) → List Pv → Prop
  | begin : Run A 0 [] 1 A []
  | skip {k S d B ps} : Run A k S d B ps → (∀ x, B k x = 0) → Run A (k + 1) S d B ps
  | pivot {k S d B ps} : Run A k S d B ps → 0 < B k k →
      Run A (k + 1) (k :: S) (B k k) (redu B k d) ((k, B k, d * B k k) :: ps)

theorem Run.inv {A : Nat → Row} (hA : ∀ i j, A i j = A j i) {k S d B ps} (h : Run A k S d B ps) : Inv A S k d B := by
  induction h with
  | begin => exact .begin A hA
  | skip _ hz ih => exact ih.skip hz
  | pivot _ hp ih => exact ih.pivot hp

theorem Run.same {A : Nat → Row} {k S d B ps} (h : Run A k S d B ps) :
    ∀ {S' d' B' ps'}, Run A k S' d' B' ps' → S = S' ∧ d = d' ∧ B = B' ∧ ps = ps' := by
  induction h with
  | begin => intro _ _ _ _ h; cases h; exact ⟨rfl, rfl, rfl, rfl⟩
  | @skip k S d B ps _ hz ih =>
    intro _ _ _ _ h
    cases h with
    | skip h' _ => exact ih h'
    | @pivot _ _ _ B' _ h' hp =>
      obtain ⟨_, _, e, _⟩ := ih h'
      subst e; have := hz k; omega
  | @pivot k S d B ps _ hp ih =>
    intro _ _ _ _ h
    cases h with
    | @skip _ _ _ B' _ h' hz =>
      obtain ⟨_, _, e, _⟩ := ih h'
      subst e; have := hz k; omega
    | pivot h' _ =>
      obtain ⟨e1, e2, e3, e4⟩ := ih h'
      subst e1; subst e2; subst e3; subst e4
      exact ⟨rfl, rfl, rfl, rfl⟩

theorem Run.leads {A : Nat → Row} {k S d B ps} (h : Run A k S d B ps) : ps.map (·.1) = S := by
  induction h with
  | begin => rfl
  | skip _ _ ih => exact ih
  | pivot _ _ ih => simp [ih]

theorem Run.many {A : Nat → Row} {k S d B ps} (h : Run A k S d B ps) : S.length ≤ k := by
  induction h with
  | begin => simp
  | skip _ _ ih => omega
  | pivot _ _ ih => simp; omega

/-- What a step of the elimination with common divisors leaves, times g. -/
def numer (R : Nat → Row) (k : Nat) : Nat → Row := fun i j => R k k * R i j - R k i * R k j

/-- Two rests that tell the same from k on. -/
structure Tie (k : Nat) (R B : Nat → Row) : Prop where
  ex : ∃ a b : Int, 0 < a ∧ 0 < b ∧ ∀ i j, k ≤ i → k ≤ j → a * R i j = b * B i j

theorem Tie.zero {k R B} (h : Tie k R B) {i j : Nat} (hi : k ≤ i) (hj : k ≤ j) : R i j = 0 ↔ B i j = 0 := by
  obtain ⟨a, b, ha, hb, he⟩ := h.ex
  have := he i j hi hj
  constructor
  · intro z
    rw [z, Int.mul_zero] at this
    rcases Int.mul_eq_zero.1 this.symm with q | q <;> omega
  · intro z
    rw [z, Int.mul_zero] at this
    rcases Int.mul_eq_zero.1 this with q | q <;> omega

theorem Tie.pos {k R B} (h : Tie k R B) {i j : Nat} (hi : k ≤ i) (hj : k ≤ j) : 0 < R i j ↔ 0 < B i j := by
  obtain ⟨a, b, ha, hb, he⟩ := h.ex
  have e := he i j hi hj
  constructor
  · intro z
    have := Int.mul_pos ha z
    rw [e] at this
    exact Int.pos_of_mul_pos_right this hb
  · intro z
    have := Int.mul_pos hb z
    rw [← e] at this
    exact Int.pos_of_mul_pos_right this ha

theorem Tie.skip {k R B} (h : Tie k R B) : Tie (k + 1) R B := by
  obtain ⟨a, b, ha, hb, he⟩ := h.ex
  exact ⟨a, b, ha, hb, fun i j hi hj => he i j (by omega) (by omega)⟩

/-- A step of the law's elimination: g is the common divisor of what is left behind k (0 if all is 0). -/
theorem Tie.pivot {A : Nat → Row} {S k d B R R'} (h : Inv A S k d B) (hp : 0 < B k k) (t : Tie k R B)
    (g : Int) (hg0 : 0 ≤ g)
    (hg : ∀ a c : Int, (∀ i j, k < i → k < j → c ∣ a * numer R k i j) → c ∣ a * g)
    (hR : ∀ i j, k < i → k < j → numer R k i j = g * R' i j)
    (hz : g = 0 → ∀ i j, k < i → k < j → R' i j = 0) :
    Tie (k + 1) R' (redu B k d) ∧ ∀ i j, k < i → k < j → (R' i j).natAbs ≤ (redu B k d i j).natAbs := by
  obtain ⟨a, b, ha, hb, he⟩ := t.ex
  have hd := h.dpos
  have key : ∀ i j, k < i → k < j → (a * a) * numer R k i j = (b * b * d) * redu B k d i j := by
    intro i j hi hj
    have e := h.exact hp i j
    have e1 := he k k (by omega) (by omega)
    have e2 := he i j (by omega) (by omega)
    have e3 := he k i (by omega) (by omega)
    have e4 := he k j (by omega) (by omega)
    rw [show (b * b * d) * redu B k d i j = b * b * (d * redu B k d i j) by grind, e]
    unfold numer
    have : (a * a) * (R k k * R i j - R k i * R k j) = (a * R k k) * (a * R i j) - (a * R k i) * (a * R k j) := by grind
    rw [this, e1, e2, e3, e4]; grind
  have hbd : 0 < b * b * d := Int.mul_pos (Int.mul_pos hb hb) hd
  have fin : ∃ q : Int, 0 < q ∧ ∀ i j, k < i → k < j → q * R' i j = redu B k d i j := by
    by_cases g0 : g = 0
    · refine ⟨1, by decide, ?_⟩
      intro i j hi hj
      have e := key i j hi hj
      rw [hR i j hi hj, g0] at e
      rw [hz g0 i j hi hj]
      simp only [Int.zero_mul, Int.mul_zero] at e
      rcases Int.mul_eq_zero.1 e.symm with q | q
      · omega
      · omega
    · have hdv := hg (a * a) (b * b * d) (fun i j hi hj => ⟨redu B k d i j, key i j hi hj⟩)
      obtain ⟨q, hq⟩ := hdv
      have hpos : 0 < a * a * g := Int.mul_pos (Int.mul_pos ha ha) (by omega)
      refine ⟨q, ?_, ?_⟩
      · rw [hq] at hpos
        exact Int.pos_of_mul_pos_right hpos hbd
      · intro i j hi hj
        have e := key i j hi hj
        rw [hR i j hi hj] at e
        apply Int.eq_of_mul_eq_mul_left (show b * b * d ≠ 0 by omega)
        rw [← e, ← Int.mul_assoc, ← hq]; grind
  obtain ⟨q, hq, hqe⟩ := fin
  refine ⟨⟨q, 1, hq, by decide, ?_⟩, ?_⟩
  · intro i j hi hj
    rw [hqe i j (by omega) (by omega)]; simp
  · intro i j hi hj
    rw [← hqe i j hi hj, Int.natAbs_mul]
    exact Nat.le_mul_of_pos_left _ (by omega)

/-- The greatest common divisor of numbers. -/
def gl (l : List Int) : Nat := l.foldl (fun g x => Nat.gcd g x.natAbs) 0

theorem gl_fold (l : List Int) : ∀ g, l.foldl (fun g x => Nat.gcd g x.natAbs) g = Nat.gcd g (gl l) := by
  unfold gl
  induction l with
  | nil => intro g; simp
  | cons x l ih =>
    intro g
    simp only [List.foldl_cons]
    rw [ih, ih (Nat.gcd 0 x.natAbs)]
    simp [Nat.gcd_assoc]

theorem gl_cons (x : Int) (l : List Int) : gl (x :: l) = Nat.gcd x.natAbs (gl l) := by
  have := gl_fold l (Nat.gcd 0 x.natAbs)
  unfold gl at *
  simp only [List.foldl_cons]
  rw [this]; simp

theorem nat_dvd {n : Nat} {x : Int} : (n : Int) ∣ x ↔ n ∣ x.natAbs := by
  rw [← Int.natAbs_dvd_natAbs, Int.natAbs_natCast]

theorem gl_dvd {l : List Int} {x : Int} (h : x ∈ l) : (gl l : Int) ∣ x := by
  induction l with
  | nil => simp at h
  | cons y l ih =>
    rw [gl_cons]
    rcases List.mem_cons.1 h with e | h
    · subst e
      exact nat_dvd.2 (Nat.gcd_dvd_left _ _)
    · have h1 := nat_dvd.1 (ih h)
      exact nat_dvd.2 (Nat.dvd_trans (Nat.gcd_dvd_right _ _) h1)

theorem dvd_gl {l : List Int} (a c : Int) (h : ∀ x ∈ l, c ∣ a * x) : c ∣ a * (gl l : Int) := by
  induction l with
  | nil => simp [gl]
  | cons y l ih =>
    have h1 := h y (List.mem_cons_self ..)
    have h2 := ih (fun x hx => h x (List.mem_cons_of_mem _ hx))
    rw [gl_cons]
    have g1 : c.natAbs ∣ a.natAbs * y.natAbs := by rw [← Int.natAbs_mul]; exact Int.natAbs_dvd_natAbs.2 h1
    have g2 : c.natAbs ∣ a.natAbs * gl l := by
      have := Int.natAbs_dvd_natAbs.2 h2
      rwa [Int.natAbs_mul, Int.natAbs_natCast] at this
    have g3 : c.natAbs ∣ a.natAbs * Nat.gcd y.natAbs (gl l) := by
      rw [← Nat.gcd_mul_left]; exact Nat.dvd_gcd g1 g2
    apply Int.natAbs_dvd_natAbs.1
    rwa [Int.natAbs_mul, Int.natAbs_natCast]

end PySem.El
namespace PySem.El

/-- The sum of f below n. -/
def sm : Nat → (Nat → Int) → Int
  | 0, _ => 0
  | n + 1, f => sm n f + f n

theorem sm_congr {n : Nat} {f g : Nat → Int} (h : ∀ i, i < n → f i = g i) : sm n f = sm n g := by
  induction n with
  | zero => rfl
  | succ n ih => simp only [sm]; rw [ih (fun i hi => h i (by omega)), h n (by omega)]

theorem sm_add (n : Nat) (f g : Nat → Int) : sm n (fun i => f i + g i) = sm n f + sm n g := by
  induction n with
  | zero => rfl
  | succ n ih => simp only [sm]; rw [ih]; omega

theorem sm_sub (n : Nat) (f g : Nat → Int) : sm n (fun i => f i - g i) = sm n f - sm n g := by
  induction n with
  | zero => rfl
  | succ n ih => simp only [sm]; rw [ih]; omega

theorem sm_mul (n : Nat) (c : Int) (f : Nat → Int) : sm n (fun i => c * f i) = c * sm n f := by
  induction n with
  | zero => simp [sm]
  | succ n ih => simp only [sm]; rw [ih, Int.mul_add]

theorem sm_zero (n : Nat) : sm n (fun _ => 0) = 0 := by
  induction n with
  | zero => rfl
  | succ n ih => simp only [sm]; rw [ih]; rfl

theorem sm_one {n k : Nat} (f : Nat → Int) (hk : k < n) : sm n (fun i => if i = k then f i else 0) = f k := by
  induction n with
  | zero => omega
  | succ n ih =>
    simp only [sm]
    by_cases e : k = n
    · subst e
      have : sm k (fun i => if i = k then f i else 0) = sm k (fun _ => 0) :=
        sm_congr (fun i hi => if_neg (by omega))
      rw [this, sm_zero]; simp
    · rw [ih (by omega), if_neg (by omega)]; omega

def lin (n : Nat) (r x : Row) : Int := sm n (fun j => r j * x j)

/-- The value of a matrix at a point. -/
def Q (n : Nat) (B : Nat → Row) (x : Row) : Int := sm n (fun i => sm n (fun j => B i j * (x i * x j)))

theorem Q_congr {n B B' x x'} (h : ∀ i j, i < n → j < n → B i j * (x i * x j) = B' i j * (x' i * x' j)) :
    Q n B x = Q n B' x' := sm_congr (fun i hi => sm_congr (fun j hj => h i j hi hj))

theorem Q_mul (n : Nat) (c : Int) (B : Nat → Row) (x : Row) : Q n (fun i j => c * B i j) x = c * Q n B x := by
  unfold Q
  rw [← sm_mul]
  apply sm_congr; intro i _
  rw [← sm_mul]
  apply sm_congr; intro j _
  rw [Int.mul_assoc]

theorem Q_add (n : Nat) (B C : Nat → Row) (x : Row) : Q n (fun i j => B i j + C i j) x = Q n B x + Q n C x := by
  unfold Q
  rw [← sm_add]
  apply sm_congr; intro i _
  rw [← sm_add]
  apply sm_congr; intro j _
  rw [Int.add_mul]

theorem Q_square (n : Nat) (r x : Row) : Q n (fun i j => r i * r j) x = lin n r x * lin n r x := by
  unfold Q
  have : ∀ i, sm n (fun j => r i * r j * (x i * x j)) = lin n r x * (r i * x i) := by
    intro i
    rw [Int.mul_comm]
    unfold lin
    rw [← sm_mul]
    apply sm_congr; intro j _; grind
  rw [sm_congr (fun i _ => this i), sm_mul]
  rfl

/-- One step tells the value: the square of the pivot's row, and the rest. -/
theorem Inv.value {A : Nat → Row} {S k d B} (h : Inv A S k d B) (hp : 0 < B k k) (n : Nat) (x : Row) :
    B k k * Q n B x = lin n (B k) x * lin n (B k) x + d * Q n (redu B k d) x := by
  rw [← Q_square, ← Q_mul, ← Q_mul, ← Q_add]
  apply Q_congr
  intro i j _ _
  rw [h.exact hp]; grind

theorem Run.value {A : Nat → Row} (hA : ∀ i j, A i j = A j i) {k S d B ps} (h : Run A k S d B ps) (n : Nat) (x : Row)
    (hx : ∀ p ∈ ps, lin n p.2.1 x = 0) : ∃ u v : Int, 0 < u ∧ 0 < v ∧ u * Q n A x = v * Q n B x := by
  induction h with
  | begin => exact ⟨1, 1, by decide, by decide, rfl⟩
  | skip _ _ ih => exact ih hx
  | @pivot k S d B ps h hp ih =>
    obtain ⟨u, v, hu, hv, he⟩ := ih (fun p hp => hx p (List.mem_cons_of_mem _ hp))
    have hI := h.inv hA
    have e := hI.value hp n x
    have hl := hx _ (List.mem_cons_self ..)
    simp only at hl
    rw [hl] at e
    refine ⟨B k k * u, v * d, Int.mul_pos hp hu, Int.mul_pos hv hI.dpos, ?_⟩
    grind

def rest (n k : Nat) (row x : Row) : Int := sm n (fun j => if k < j then row j * x j else 0)

/-- A point at which one more pivot's row is 0. -/
def sett1 (n k : Nat) (row x : Row) : Row := fun i =>
  if i = k then -rest n k row x / (Int.gcd (rest n k row x) (row k) : Int)
  else row k / (Int.gcd (rest n k row x) (row k) : Int) * x i

def setl (n : Nat) : List Pv → Row → Row
  | [], x => x
  | p :: ps, x => setl n ps (sett1 n p.1 p.2.1 x)

theorem lin_split {n k : Nat} (row x : Row) (hk : k < n) (hz : ∀ j, j < k → row j = 0) :
    lin n row x = row k * x k + rest n k row x := by
  unfold lin rest
  rw [← sm_one (fun j => row j * x j) hk, ← sm_add]
  apply sm_congr
  intro j _
  by_cases c : j = k
  · rw [if_pos c, if_neg (by omega)]; omega
  · rw [if_neg c]
    by_cases c2 : k < j
    · rw [if_pos c2]; omega
    · rw [if_neg c2, hz j (by omega)]; simp

theorem sett1_zero {n k : Nat} (row x : Row) (hk : k < n) (hz : ∀ j, j < k → row j = 0) (hp : 0 < row k) :
    lin n row (sett1 n k row x) = 0 ∧
      ∃ f, 0 < f ∧ ∀ i, i ≠ k → sett1 n k row x i = f * x i := by
  let g : Int := (Int.gcd (rest n k row x) (row k) : Int)
  have hg : 0 < g := by
    have : 0 < Int.gcd (rest n k row x) (row k) := Int.gcd_pos_of_ne_zero_right _ (by omega)
    show (0 : Int) < (Int.gcd (rest n k row x) (row k) : Int)
    omega
  obtain ⟨r1, h1⟩ : g ∣ rest n k row x := Int.gcd_dvd_left ..
  obtain ⟨p1, h2⟩ : g ∣ row k := Int.gcd_dvd_right ..
  have hp1 : 0 < p1 := by rw [h2] at hp; exact Int.pos_of_mul_pos_right hp hg
  have e1 : -rest n k row x / g = -r1 := by
    rw [h1, ← Int.mul_neg, Int.mul_ediv_cancel_left _ (by omega)]
  have e2 : row k / g = p1 := by
    rw [h2, Int.mul_ediv_cancel_left _ (by omega)]
  have hs : ∀ i, sett1 n k row x i = if i = k then -r1 else p1 * x i := by
    intro i
    show (if i = k then -rest n k row x / g else row k / g * x i) = _
    rw [e1, e2]
  refine ⟨?_, p1, hp1, ?_⟩
  · rw [lin_split row _ hk hz, hs k, if_pos rfl]
    have : rest n k row (sett1 n k row x) = p1 * rest n k row x := by
      unfold rest
      rw [← sm_mul]
      apply sm_congr
      intro j _
      by_cases c : k < j
      · rw [if_pos c, if_pos c, hs j, if_neg (by omega)]; grind
      · rw [if_neg c, if_neg c]; simp
    rw [this, h1, h2]; grind
  · intro i hi
    rw [hs i, if_neg hi]

theorem lin_mul (n : Nat) (r x y : Row) (c : Int) (h : ∀ i, i < n → r i = 0 ∨ y i = c * x i) : lin n r y = c * lin n r x := by
  unfold lin
  rw [← sm_mul]
  apply sm_congr
  intro j hj
  rcases h j hj with e | e
  · rw [e]; simp
  · rw [e]; grind

theorem Run.settled {A : Nat → Row} (hA : ∀ i j, A i j = A j i) {k S d B ps} (h : Run A k S d B ps) (n : Nat) (hk : k ≤ n) :
    ∀ x, (∀ p ∈ ps, lin n p.2.1 (setl n ps x) = 0) ∧ ∃ f, 0 < f ∧ ∀ i, i ∉ S → setl n ps x i = f * x i := by
  induction h with
  | begin => intro x; exact ⟨by simp, 1, by decide, by intro i _; simp [setl]⟩
  | skip _ _ ih => exact ih (by omega)
  | @pivot k S d B ps h hp ih =>
    intro x
    have hI := h.inv hA
    obtain ⟨i1, f, hf, i2⟩ := ih (by omega) (sett1 n k (B k) x)
    obtain ⟨j1, q, hq, j2⟩ := sett1_zero (B k) x (show k < n by omega) (fun j hj => hI.low k j hj) hp
    refine ⟨?_, f * q, Int.mul_pos hf hq, ?_⟩
    · intro p hp'
      rcases List.mem_cons.1 hp' with e | hp'
      · subst e
        show lin n (B k) (setl n ps (sett1 n k (B k) x)) = 0
        rw [lin_mul n (B k) (sett1 n k (B k) x) _ f, j1, Int.mul_zero]
        intro i _
        by_cases c : i ∈ S
        · exact .inl (hI.low k i (hI.small i c))
        · exact .inr (i2 i c)
      · exact i1 p hp'
    · intro i hi
      have h1 : i ≠ k := fun e => hi (by rw [e]; exact List.mem_cons_self ..)
      have h2 : i ∉ S := fun e => hi (List.mem_cons_of_mem _ e)
      show setl n ps (sett1 n k (B k) x) i = _
      rw [i2 i h2, j2 i h1]; grind

/-- The value at a settled point has the sign of the rest's value at the point. -/
theorem Run.negAt {A : Nat → Row} (hA : ∀ i j, A i j = A j i) {k S d B ps} (h : Run A k S d B ps) (n : Nat)
    (x z : Row) (hz : ∀ p ∈ ps, lin n p.2.1 z = 0) (a b : Int) (ha : 0 < a) (hb : 0 < b)
    (hs : ∀ i, i < n → i ∉ S → a * z i = b * x i) (hq : Q n B x < 0) : Q n A z < 0 := by
  obtain ⟨u, v, hu, hv, he⟩ := h.value hA n z hz
  have hI := h.inv hA
  have e : (a * a) * Q n B z = (b * b) * Q n B x := by
    rw [← Q_mul, ← Q_mul]
    apply Q_congr
    intro i j hi hj
    by_cases ci : i ∈ S
    · rw [hI.sym i j, hI.low j i (hI.small i ci)]; simp
    · by_cases cj : j ∈ S
      · rw [hI.low i j (hI.small j cj)]; simp
      · have e1 := hs i hi ci
        have e2 := hs j hj cj
        have : a * a * B i j * (z i * z j) = B i j * ((a * z i) * (a * z j)) := by grind
        rw [this, e1, e2]; grind
  have haa : 0 < a * a := Int.mul_pos ha ha
  have hbb : 0 < b * b := Int.mul_pos hb hb
  have h1 : Q n B z < 0 := by
    have : (b * b) * Q n B x < 0 := Int.mul_neg_of_pos_of_neg hbb hq
    rw [← e] at this
    rcases Int.lt_or_le (Q n B z) 0 with c | c
    · exact c
    · have := Int.mul_nonneg (Int.le_of_lt haa) c; omega
  have h2 : u * Q n A z < 0 := by rw [he]; exact Int.mul_neg_of_pos_of_neg hv h1
  rcases Int.lt_or_le (Q n A z) 0 with c | c
  · exact c
  · have := Int.mul_nonneg (Int.le_of_lt hu) c; omega

def unitP (k : Nat) : Row := fun i => if i = k then 1 else 0

theorem Q_unit {n k : Nat} (B : Nat → Row) (hk : k < n) : Q n B (unitP k) = B k k := by
  unfold Q unitP
  have : ∀ i, sm n (fun j => B i j * ((if i = k then 1 else 0) * (if j = k then 1 else 0))) = if i = k then B i k else 0 := by
    intro i
    by_cases c : i = k
    · subst c
      rw [if_pos rfl, if_pos rfl, ← sm_one (fun j => B i j) hk]
      apply sm_congr; intro j _
      by_cases cj : j = i <;> simp [cj]
    · simp [c, sm_zero]
  rw [sm_congr (fun i _ => this i), sm_one (fun i => B i k) hk]

/-- The point of a zero pivot with a number beside it. -/
def sideP (a : Int) (k q : Nat) : Row := fun i => a * (if i = k then 1 else 0) + (if i = q then 1 else 0)

theorem Q_side {n k q : Nat} (B : Nat → Row) (a : Int) (hk : k < n) (hq : q < n) (hs : B k q = B q k) :
    Q n B (sideP a k q) = a * a * B k k + 2 * a * B k q + B q q := by
  have hsum : ∀ (f : Nat → Int), sm n (fun j => f j * sideP a k q j) = a * f k + f q := by
    intro f
    rw [← sm_one f hk, ← sm_one f hq, ← sm_mul, ← sm_add]
    apply sm_congr; intro j _
    unfold sideP
    by_cases c1 : j = k <;> by_cases c2 : j = q <;> simp [c1, c2] <;> grind
  unfold Q
  have : ∀ i, sm n (fun j => B i j * (sideP a k q i * sideP a k q j)) = (a * B i k + B i q) * sideP a k q i := by
    intro i
    rw [← hsum (fun j => B i j), Int.mul_comm, ← sm_mul]
    apply sm_congr; intro j _; grind
  rw [sm_congr (fun i _ => this i), hsum]
  rw [← hs]; grind

theorem Q_side_neg {n k q : Nat} (B : Nat → Row) (hk : k < n) (hq : q < n) (hs : B k q = B q k) (h0 : B k k = 0)
    (hne : B k q ≠ 0) (a : Int)
    (ha : a = if 0 < B k q then -((B q q).natAbs + 1 : Int) else ((B q q).natAbs + 1 : Int)) :
    Q n B (sideP a k q) < 0 := by
  rw [Q_side B a hk hq hs, h0]
  have key : a * B k q ≤ -((B q q).natAbs + 1 : Int) := by
    by_cases c : 0 < B k q
    · rw [if_pos c] at ha
      have h1 : (B q q).natAbs + 1 ≤ ((B q q).natAbs + 1 : Int) * B k q := by
        have := Int.mul_le_mul_of_nonneg_left (show (1 : Int) ≤ B k q by omega) (show 0 ≤ ((B q q).natAbs + 1 : Int) by omega)
        omega
      rw [ha, Int.neg_mul]; omega
    · rw [if_neg c] at ha
      have h1 : ((B q q).natAbs + 1 : Int) ≤ ((B q q).natAbs + 1 : Int) * (-(B k q)) := by
        have := Int.mul_le_mul_of_nonneg_left (show (1 : Int) ≤ -(B k q) by omega) (show 0 ≤ ((B q q).natAbs + 1 : Int) by omega)
        omega
      rw [Int.mul_neg] at h1
      rw [ha]; omega
  have e : 2 * a * B k q = 2 * (a * B k q) := by grind
  rw [e]; omega

end PySem.El
namespace PySem.El

/-- What is known of each pivot. -/
structure PvOk (R : Nat → Int) (G : Nat → Int) (k : Nat) (p : Pv) : Prop where
  small : p.1 < k
  zero : ∀ j, j < p.1 → p.2.1 j = 0
  pos : 0 < p.2.1 p.1
  spos : 0 < p.2.2
  row : ∀ j, -R p.1 ≤ p.2.1 j ∧ p.2.1 j ≤ R p.1
  scale : p.2.2 ≤ G p.1

theorem bnd_pos {M : Int} (hM : 1 ≤ M) : ∀ n, 1 ≤ bnd M n
  | 0 => by simp [bnd]
  | n + 1 => by
    have h := bnd_pos hM n
    have h1 : 1 * 1 ≤ M * bnd M n := Int.mul_le_mul hM h (by decide) (by omega)
    have h2 : 1 * 1 ≤ ((n : Int) + 1) * (M * bnd M n) := Int.mul_le_mul (by omega) (by simpa using h1) (by decide) (by omega)
    simpa [bnd] using h2

theorem bnd_succ {M : Int} (hM : 1 ≤ M) (n : Nat) : bnd M n ≤ bnd M (n + 1) := by
  have h := bnd_pos hM n
  have h1 : 1 * bnd M n ≤ M * bnd M n := Int.mul_le_mul_of_nonneg_right hM (by omega)
  have h2 : 1 * (M * bnd M n) ≤ ((n : Int) + 1) * (M * bnd M n) := Int.mul_le_mul_of_nonneg_right (by omega) (by omega)
  simp only [bnd]; omega

theorem bnd_mono {M : Int} (hM : 1 ≤ M) {a b : Nat} (h : a ≤ b) : bnd M a ≤ bnd M b := by
  induction h with
  | refl => exact Int.le_refl _
  | step _ ih => exact Int.le_trans ih (bnd_succ hM _)

theorem Run.dbound {A : Nat → Row} {k S d B ps} (h : Inv A S k d B) (hk : S.length ≤ k) (M : Int) (hM : 1 ≤ M)
    (hb : ∀ i j, -M ≤ A i j ∧ A i j ≤ M) (_ : Run A k S d B ps) : d ≤ bnd M k := by
  have := (D_bound (M := M) (by omega) S (S.map A) (by simp) (by
    intro r hr c _
    obtain ⟨s, _, rfl⟩ := List.mem_map.1 hr; exact hb s c)).2
  rw [h.det] at this
  exact Int.le_trans this (bnd_mono hM hk)

theorem Run.rbound {A : Nat → Row} (hA : ∀ i j, A i j = A j i) {k S d B ps} (h : Run A k S d B ps) (M : Int) (hM : 1 ≤ M)
    (hb : ∀ i j, -M ≤ A i j ∧ A i j ≤ M) {i : Nat} (hi : k ≤ i) (j : Nat) :
    -bnd M (k + 1) ≤ B i j ∧ B i j ≤ bnd M (k + 1) := by
  have h1 := (h.inv hA).bound (M := M) (by omega) hb hi j
  have h2 := bnd_mono hM (show S.length + 1 ≤ k + 1 by have := h.many; omega)
  omega

theorem Run.pivots {A : Nat → Row} (hA : ∀ i j, A i j = A j i) {k S d B ps} (h : Run A k S d B ps) (M : Int) (hM : 1 ≤ M)
    (hb : ∀ i j, -M ≤ A i j ∧ A i j ≤ M) :
    ∀ p ∈ ps, PvOk (fun k => bnd M (k + 1)) (fun k => bnd M k * bnd M (k + 1)) k p := by
  induction h with
  | begin => intro p hp; simp at hp
  | skip _ _ ih =>
    intro p hp
    have := ih p hp
    exact { this with small := Nat.lt_succ_of_lt this.small }
  | @pivot k S d B ps h hp ih =>
    intro p hq
    rcases List.mem_cons.1 hq with e | hq
    · subst e
      have hI := h.inv hA
      have hr := fun j => h.rbound hA M hM hb (Nat.le_refl k) j
      exact {
        small := Nat.lt_succ_self _
        zero := fun j hj => hI.low k j hj
        pos := hp
        spos := Int.mul_pos hI.dpos hp
        row := hr
        scale := Int.mul_le_mul (Run.dbound hI h.many M hM hb h) (hr k).2 (Int.le_of_lt hp) (by have := bnd_pos hM k; show 0 ≤ bnd M k; omega) }
    · have := ih p hq
      exact { this with small := Nat.lt_succ_of_lt this.small }

def lsum (ps : List Pv) (f : Pv → Int) : Int := ps.foldr (fun p t => f p + t) 0

theorem lsum_mul (ps : List Pv) (c : Int) (f : Pv → Int) : lsum ps (fun p => c * f p) = c * lsum ps f := by
  induction ps with
  | nil => simp [lsum]
  | cons p ps ih => simp only [lsum, List.foldr_cons] at *; rw [ih, Int.mul_add]

theorem lsum_congr {ps : List Pv} {f g : Pv → Int} (h : ∀ p ∈ ps, f p = g p) : lsum ps f = lsum ps g := by
  induction ps with
  | nil => rfl
  | cons p ps ih =>
    simp only [lsum, List.foldr_cons] at *
    rw [ih (fun q hq => h q (List.mem_cons_of_mem _ hq)), h p (List.mem_cons_self ..)]

/-- The squares of the pivots and the rest are the matrix. -/
theorem Run.squares {A : Nat → Row} (hA : ∀ i j, A i j = A j i) {k S d B ps} (h : Run A k S d B ps) (W : Int) (c : Pv → Int)
    (hc : ∀ p ∈ ps, c p * p.2.2 = W) (i j : Nat) :
    d * (W * A i j) = d * lsum ps (fun p => c p * (p.2.1 i * p.2.1 j)) + W * B i j := by
  induction h with
  | begin => simp [lsum]
  | skip _ _ ih => exact ih hc
  | @pivot k S d B ps h hp ih =>
    have hI := h.inv hA
    have e := ih (fun p hq => hc p (List.mem_cons_of_mem _ hq))
    have e2 := hI.exact hp i j
    have e3 := hc _ (List.mem_cons_self ..)
    have hd := hI.dpos
    simp only [lsum, List.foldr_cons] at *
    apply Int.eq_of_mul_eq_mul_left (show d ≠ 0 by omega)
    grind

theorem Run.whole {A : Nat → Row} (hA : ∀ i j, A i j = A j i) {n S d B ps} (h : Run A n S d B ps) (W : Int) (c : Pv → Int)
    (hc : ∀ p ∈ ps, c p * p.2.2 = W) (i j : Nat) (hj : j < n) :
    W * A i j = lsum ps (fun p => c p * (p.2.1 i * p.2.1 j)) := by
  have e := h.squares hA W c hc i j
  have hI := h.inv hA
  rw [hI.low i j hj] at e
  have hd := hI.dpos
  apply Int.eq_of_mul_eq_mul_left (show d ≠ 0 by omega)
  omega

def wprod (ps : List Pv) : Int := ps.foldr (fun p t => p.2.2 * t) 1

theorem wprod_pos {ps : List Pv} (h : ∀ p ∈ ps, 0 < p.2.2) : 0 < wprod ps := by
  induction ps with
  | nil => decide
  | cons p ps ih =>
    simp only [wprod, List.foldr_cons] at *
    exact Int.mul_pos (h p (List.mem_cons_self ..)) (ih (fun q hq => h q (List.mem_cons_of_mem _ hq)))

theorem wprod_dvd {ps : List Pv} {p : Pv} (hp : p ∈ ps) : p.2.2 ∣ wprod ps := by
  induction ps with
  | nil => simp at hp
  | cons q ps ih =>
    simp only [wprod, List.foldr_cons] at *
    rcases List.mem_cons.1 hp with e | hp
    · subst e; exact ⟨_, rfl⟩
    · exact Int.dvd_trans (ih hp) ⟨q.2.2, by rw [Int.mul_comm]⟩

/-- The told squares expand to the matrix: g times the told row is the pivot's row, top over div is the weight. -/
theorem Run.expands {A : Nat → Row} (hA : ∀ i j, A i j = A j i) {n S d B ps} (h : Run A n S d B ps)
    (hs : ∀ p ∈ ps, 0 < p.2.2) (low L : Int) (top div g : Pv → Int) (pr : Pv → Row)
    (hpr : ∀ p ∈ ps, ∀ j, g p * pr p j = p.2.1 j) (hw : ∀ p ∈ ps, top p * (p.2.2 * low) = g p * g p * div p)
    (hd : ∀ p ∈ ps, 0 < div p ∧ div p ∣ L) (i j : Nat) (hj : j < n) :
    lsum ps (fun p => top p * (L / div p) * (pr p i * pr p j)) * low = L * A i j := by
  have hW := wprod_pos hs
  have e := h.whole hA (wprod ps) (fun p => wprod ps / p.2.2)
    (fun p hp => by rw [Int.mul_comm]; exact Int.mul_ediv_cancel' (wprod_dvd hp)) i j hj
  apply Int.eq_of_mul_eq_mul_left (show wprod ps ≠ 0 by omega)
  have e1 : wprod ps * (L * A i j) = L * (wprod ps * A i j) := by grind
  rw [e1, e, ← lsum_mul, Int.mul_comm (lsum _ _) low, ← lsum_mul, ← lsum_mul]
  apply lsum_congr
  intro p hp
  obtain ⟨c, hc⟩ := wprod_dvd hp
  obtain ⟨hdp, q, hq⟩ := hd p hp
  have s0 := hs p hp
  have r1 : wprod ps / p.2.2 = c := by rw [hc]; exact Int.mul_ediv_cancel_left _ (by omega)
  have r2 : L / div p = q := by rw [hq]; exact Int.mul_ediv_cancel_left _ (by omega)
  rw [r1, r2, ← hpr p hp i, ← hpr p hp j, hq, hc]
  have := hw p hp
  grind

/-- Bounds of settled points. -/
def tb (R : Nat → Int) (n : Int) : Nat → Int
  | 0 => 1
  | k + 1 => tb R n k * (n * R k)

theorem rest_bound {n k : Nat} (row x : Row) {R X : Int} (hr : ∀ j, -R ≤ row j ∧ row j ≤ R) (hx : ∀ j, -X ≤ x j ∧ x j ≤ X) :
    -((n : Int) * (R * X)) ≤ rest n k row x ∧ rest n k row x ≤ (n : Int) * (R * X) := by
  unfold rest
  induction n with
  | zero => simp [sm]
  | succ n ih =>
    have h := abs_mul_le (hr n) (hx n)
    have e : ((n + 1 : Nat) : Int) * (R * X) = (n : Int) * (R * X) + R * X := by
      simp [Int.add_mul]
    have hp : 0 ≤ R * X := Int.mul_nonneg (by have := hr 0; omega) (by have := hx 0; omega)
    simp only [sm]
    rw [e]
    by_cases c : k < n
    · rw [if_pos c]; omega
    · rw [if_neg c]; omega

theorem div_bound {a g X : Int} (hg : 0 < g) (h : -X ≤ a ∧ a ≤ X) (hd : g ∣ a) : -X ≤ a / g ∧ a / g ≤ X := by
  obtain ⟨q, rfl⟩ := hd
  rw [Int.mul_ediv_cancel_left _ (by omega)]
  rcases Int.lt_or_le q 0 with c | c
  · have h1 : q ≥ g * q := by
      have := Int.mul_le_mul_of_nonneg_right (show (1 : Int) ≤ g by omega) (show 0 ≤ -q by omega)
      simp only [Int.mul_neg] at this; omega
    omega
  · have h1 : q ≤ g * q := by
      have := Int.mul_le_mul_of_nonneg_right (show (1 : Int) ≤ g by omega) c
      omega
    omega

theorem sett1_bound {n k : Nat} (row x : Row) {R X : Int} (hk : k < n) (hp : 0 < row k)
    (hr : ∀ j, -R ≤ row j ∧ row j ≤ R) (hx : ∀ j, -X ≤ x j ∧ x j ≤ X) (i : Nat) :
    -((n : Int) * R * X) ≤ sett1 n k row x i ∧ sett1 n k row x i ≤ (n : Int) * R * X := by
  have hb := rest_bound (n := n) (k := k) row x hr hx
  have hR : 0 ≤ R := by have := hr 0; omega
  have hX : 0 ≤ X := by have := hx 0; omega
  have hg : (0 : Int) < (Int.gcd (rest n k row x) (row k) : Int) := by
    have : 0 < Int.gcd (rest n k row x) (row k) := Int.gcd_pos_of_ne_zero_right _ (by omega)
    omega
  unfold sett1
  by_cases c : i = k
  · rw [if_pos c]
    have := div_bound hg (X := (n : Int) * (R * X)) (a := -rest n k row x) (by omega)
      (by rw [Int.dvd_neg]; exact Int.gcd_dvd_left ..)
    rw [← Int.mul_assoc] at this
    exact this
  · rw [if_neg c]
    have h1 := div_bound hg (hr k) (Int.gcd_dvd_right ..)
    have h2 := abs_mul_le h1 (hx i)
    have h3 : 1 * (R * X) ≤ (n : Int) * (R * X) := Int.mul_le_mul_of_nonneg_right (by omega) (Int.mul_nonneg hR hX)
    rw [Int.mul_assoc]
    omega

theorem tb_pos {R : Nat → Int} {n : Int} (hn : 1 ≤ n) (hR : ∀ k, 1 ≤ R k) : ∀ k, 1 ≤ tb R n k
  | 0 => by simp [tb]
  | k + 1 => by
    have h := tb_pos hn hR k
    have h1 : 1 * 1 ≤ n * R k := Int.mul_le_mul hn (hR k) (by decide) (by omega)
    have h2 : 1 * 1 ≤ tb R n k * (n * R k) := Int.mul_le_mul h (by simpa using h1) (by decide) (by omega)
    simpa [tb] using h2

theorem Run.setl_bound {A : Nat → Row} {k S d B ps} (h : Run A k S d B ps) (R G : Nat → Int) (n : Nat)
    (hR : ∀ k, 1 ≤ R k) (hp : ∀ p ∈ ps, PvOk R G n p) (hn : k ≤ n) :
    ∀ (x : Row) (X : Int), 0 ≤ X → (∀ i, -X ≤ x i ∧ x i ≤ X) →
      ∀ i, -(X * tb R n k) ≤ setl n ps x i ∧ setl n ps x i ≤ X * tb R n k := by
  induction h with
  | begin => intro x X _ hx i; simpa [setl, tb] using hx i
  | @skip k S d B ps _ _ ih =>
    intro x X hX hx i
    have h1 := ih hp (by omega) x X hX hx i
    have h2 : tb R n k * 1 ≤ tb R n (k + 1) := by
      have a := tb_pos (R := R) (n := (n : Int)) (by omega) hR k
      have b : 1 * 1 ≤ (n : Int) * R k := Int.mul_le_mul (by omega) (hR k) (by decide) (by omega)
      simp only [tb]
      exact Int.mul_le_mul_of_nonneg_left (by simpa using b) (by omega)
    have h3 := Int.mul_le_mul_of_nonneg_left h2 hX
    simp only [Int.mul_one] at h3
    omega
  | @pivot k S d B ps _ hpos ih =>
    intro x X hX hx i
    have h0 := hp _ (List.mem_cons_self ..)
    have hb := sett1_bound (n := n) (B k) x (show k < n by omega) hpos h0.row hx
    have hnR : 0 ≤ (n : Int) * R k * X := Int.mul_nonneg (Int.mul_nonneg (by omega) (by have := hR k; omega)) hX
    have h1 := ih (fun p hq => hp p (List.mem_cons_of_mem _ hq)) (by omega) _ _ hnR hb i
    have e : (n : Int) * R k * X * tb R n k = X * tb R n (k + 1) := by simp only [tb]; grind
    rw [e] at h1
    exact h1

end PySem.El
namespace P10
open PySem PySem.Spec PyProof.Rows L2 SX EX WK
section
variable {P : Program} {w : World} {K : PySem.W.Frag} {mg : Str → Option Value} {base : Heap} {f : Addr} {fd : FuncData} {cF cR : Addr}
/-- a tuple of n numbers -/
def TV (K : PySem.W.Frag) (H : Hp) (a : Addr) (n : Nat) (x : Nat → Int) : Prop := SqT K H a ((vec n x).map V.int)
def spUnit (K : PySem.W.Frag) : Sp := fun vs H Q _ => ∃ (n k : Nat), vs = [.int n, .int k] ∧ n ≤ 1000 ∧ ∀ a H', Same H H' → TV K H' a n (El.unitP k) → Q (.ref a) H'
abbrev s_unit_point : Stmt := top 26
abbrev N_unit_point : List Str := ["size", "index", "place"]
theorem sc_unit_point : FnScope N_unit_point ["size", "index"] (defScope s_unit_point) := ⟨rfl, rfl, rfl, by decide +kernel, rfl, by decide +kernel, by decide +kernel⟩
theorem ok_unit_point (F : Fun K "unit_point" "unit_point" s_unit_point f fd) (T : Txt mg) : FnOk P w K mg base CX0 1 f fd ["size", "index"] (spUnit K) := by
  refine F.ok sc_unit_point (fun vs H Q E h => ?_) (fun cdv A outer s H vs Q E hr h => ?_)
  · obtain ⟨n, k, rfl, _⟩ := h
    rfl
  obtain ⟨n, k, rfl, hn, q⟩ := h
  refine ⟨_, (pss_one (ps_ret (pe_callTy call_tuple_of (by rfl) T.b_tuple (by decide +kernel) (pa_cons (pe_lc (own := [("place", 2)]) (g := gName 2) (tt := tYes) (by rfl) sc_unit_point.nd (pi_range1 (by rfl) T.b_range (pa_cons (pv 0) pa_nil)) (blkOk_by (N := N_unit_point) (sc := defScope s_unit_point) (by decide +kernel)) (fun _ _ _ _ _ => (pg_name (i := 2) sc_unit_point.nd rfl (Or.inl rfl))) (fun _ _ _ _ _ => pts_nil) (fun _ _ _ _ _ => (pe_callTy call_int1 (by rfl) T.b_int (by decide +kernel) (pa_cons (pe_cmpR op_eq (pv 2) (pv 1) (nomark _)) pa_nil)))) pa_nil)))), ?_⟩
  refine ⟨_, rfl, (n : Int), rfl, by omega, by omega, fun D hD => ?_⟩
  refine lc_m (walk_range (lo := 0) (n := n)) RI (stb_RI (K := K)) (List.range n) (by rw [List.length_range]) (by rw [List.length_range]; omega) hD (fun _ _ => trivial) (fun _ _ _ _ => ys_fn) (fun i => El.unitP k i) (fun c i v H1 H2 hc s1 s2 yl A B hA => ?_) (fun H' l1 s1 hl1 rs => ?_)
  · obtain ⟨hc1, rfl⟩ := in_range hc
    rw [yl.2]
    refine ⟨rfl, lc_yes ⟨_, rfl, _, rfl, rfl, .inr ⟨_, rfl, hA _ _ (fun _ _ h => h) ?_⟩⟩⟩
    show V.int _ = V.int (El.unitP k i)
    unfold El.unitP
    by_cases e : i = k
    · rw [if_pos e, int_eq (by omega), if_pos rfl]
    · rw [if_neg e, int_ne (by omega), if_neg Bool.false_ne_true]
  · refine ⟨D, _, rfl, .inl ⟨SqL.of hl1, fun t ht => ?_⟩⟩
    refine q _ _ (s1.trans (same_new ht _)) ?_
    unfold TV
    rw [← show l1 = (vec n (El.unitP k)).map V.int from rs.ints]
    exact SqT.of upd_same
def spSide (K : PySem.W.Frag) : Sp := fun vs H Q _ => ∃ (a : Addr) (n k : Nat) (x : Nat → Int), vs = [.ref a, .int k] ∧ H a = some (.lst ((vec n x).map V.int)) ∧ n ≤ 1000 ∧ k < n ∧
  (∀ p, k < p → p < n → x p ≠ 0 → (∀ q, k < q → q < p → x q = 0) → Q (.int p) H) ∧ ((∀ p, k < p → p < n → x p = 0) → Q .non H)
abbrev s_side_index : Stmt := top 27
abbrev N_side_index : List Str := ["line", "index", "place"]
theorem sc_side_index : FnScope N_side_index ["line", "index"] (defScope s_side_index) := ⟨rfl, rfl, rfl, by decide +kernel, rfl, by decide +kernel, by decide +kernel⟩
theorem ok_side_index (F : Fun K "side_index" "side_index" s_side_index f fd) (T : Txt mg) : FnOk P w K mg base CX0 1 f fd ["line", "index"] (spSide K) := by
  refine F.ok sc_side_index (fun vs H Q E h => ?_) (fun cdv A outer s H vs Q E hr h => ?_)
  · obtain ⟨a, n, k, x, rfl, _⟩ := h
    rfl
  obtain ⟨a, n, k, x, rfl, ha, hn, hk, q1, q2⟩ := h
  refine ⟨_, (pss_cons (ps_for PassesOwn.never rfl (pi_range2 (by rfl) T.b_range (pa_cons (pe_op op_add (pv 1) pe_int) (pa_cons (pe_callB call_len_seq (by rfl) T.b_len PySem.boot_len (pa_cons (pv 0) pa_nil)) pa_nil))) (pg_name (i := 2) sc_side_index.nd rfl (Or.inl rfl)) (pss_one (ps_if (pt_cmpR op_ne (pe_ix ix_list /-?-/ (pv 0) (pv 2) (fun _ _ => rfl)) pe_int (nomark _)) (pss_one (ps_ret (pv 2))) pss_nil)))
  (pss_one (ps_ret pe_non))), ?_⟩
  refine ⟨_, rfl, _, _, rfl, rfl, _, rfl, _, _, rfl, .inl (SqL.of ha), (k : Int) + 1, (n : Int), by rw [vec_lenV], ⟨by omega, by omega, by omega, by omega⟩, ?_⟩
  refine for_range (lo := (k : Int) + 1) (n := ((n : Int) - ((k : Int) + 1)).toNat) (fun j σ H1 => ∃ v2 : Option V, σ = [some (.ref a), some (.int (k : Int)), v2] ∧ H1 = H ∧ ∀ p, k < p → p < k + 1 + j → x p = 0) ⟨none, rfl, rfl, fun p h1 h2 => by omega⟩ ?_ ?_
  · rintro j σ H1 hj ⟨v2, rfl, rfl, hz⟩
    have hp : k + 1 + j < n := by omega
    refine ⟨_, rfl, _, rfl, a, _, _, _, rfl, rfl, SqL.of ha, at_pos (by omega) (by rw [show ((k : Int) + 1 + (j : Int)).toNat = k + 1 + j by omega]; exact vecV_at hp), rfl, _, rfl, ?_⟩
    by_cases e : x (k + 1 + j) = 0
    · refine ifF (ne_F e) ⟨_, rfl, rfl, fun p h1 h2 => ?_⟩
      by_cases c : p = k + 1 + j
      · rw [c]; exact e
      · exact hz p h1 (by omega)
    · refine ifT (ne_T e) ⟨_, rfl, ?_⟩
      have := q1 _ (by omega) hp e hz
      rw [show (k : Int) + 1 + (j : Int) = ((k + 1 + j : Nat) : Int) by omega]
      exact this
  · rintro σ H1 ⟨v2, rfl, rfl, hz⟩
    exact q2 fun p h1 h2 => hz p h1 (by omega)
/-- what keeps a rest from being below 0 at the index -/
def Fine (n k : Nat) (M : Nat → Nat → Int) : Prop := 0 < M k k ∨ (M k k = 0 ∧ ∀ p, k < p → p < n → M k p = 0)
def amt (k p : Nat) (M : Nat → Nat → Int) : Int := if 0 < M k p then -((M p p).natAbs + 1 : Int) else ((M p p).natAbs + 1 : Int)
/-- the bad point at the index -/
def BadAt (n k : Nat) (M : Nat → Nat → Int) (x : Nat → Int) : Prop :=
  (M k k < 0 ∧ x = El.unitP k) ∨ (M k k = 0 ∧ ∃ p, k < p ∧ p < n ∧ M k p ≠ 0 ∧ (∀ q, k < q → q < p → M k q = 0) ∧ x = El.sideP (amt k p M) k p)
def spBad (K : PySem.W.Frag) : Sp := fun vs H Q _ => ∃ (a : Addr) (n k w : Nat) (M : Nat → Nat → Int), vs = [.ref a, .int k] ∧ LTab H a n M ∧ n ≤ 1000 ∧ k < n ∧ (∀ i j, i < n → j < n → B w (M i j)) ∧ 0 < w ∧ w ≤ 9000 ∧
  (Fine n k M → Q .non H) ∧ ∀ x t H', BadAt n k M x → Same H H' → TV K H' t n x → Q (.ref t) H'
abbrev s_bad_point : Stmt := top 28
abbrev N_bad_point : List Str := ["table", "index", "size", "place", "amount", "other"]
theorem sc_bad_point : FnScope N_bad_point ["table", "index"] (defScope s_bad_point) := ⟨rfl, rfl, rfl, by decide +kernel, rfl, by decide +kernel, by decide +kernel⟩
theorem ok_bad_point (F : Fun K "bad_point" "bad_point" s_bad_point f fd) (T : Txt mg) (C_unit_point : Cal P w K mg base 1 "unit_point" ["size", "index"] (spUnit K)) (C_side_index : Cal P w K mg base 1 "side_index" ["line", "index"] (spSide K)) : FnOk P w K mg base CX0 2 f fd ["table", "index"] (spBad K) := by
  refine F.ok sc_bad_point (fun vs H Q E h => ?_) (fun cdv A outer s H vs Q E hr h => ?_)
  · obtain ⟨a, n, k, w, M, rfl, _⟩ := h
    rfl
  obtain ⟨a, n, k, w, M, rfl, ht, hn, hk, hB, hw, hw9, q1, q2⟩ := h
  refine ⟨_, (pss_cons (ps_set (i := 2) sc_bad_point.nd rfl (Or.inl rfl) (pe_callB call_len_seq (by rfl) T.b_len PySem.boot_len (pa_cons (pv 0) pa_nil)))
  (pss_cons (ps_if (pt_cmpR op_lt (pe_ix ix_list /-?-/ (pe_ix ix_list (pv 0) (pv 1) (fun _ _ => rfl)) (pv 1) (fun _ _ => rfl)) pe_int (nomark _)) (pss_one (ps_ret (pe_cal C_unit_point (hr.mono (by omega)) rfl (pa_cons (pv 2) (pa_cons (pv 1) pa_nil))))) pss_nil)
  (pss_cons (ps_set (i := 3) sc_bad_point.nd rfl (Or.inr rfl) (pe_cal C_side_index (hr.mono (by omega)) rfl (pa_cons (pe_ix ix_list (pv 0) (pv 1) (fun _ _ => rfl)) (pa_cons (pv 1) pa_nil))))
  (pss_cons (ps_if (PW.pt (pw_or (pt_cmpR op_gt (pe_ix ix_list /-?-/ (pe_ix ix_list (pv 0) (pv 1) (fun _ _ => rfl)) (pv 1) (fun _ _ => rfl)) pe_int (nomark _)) (pw_or1 (pt_cmpR op_isN (pv 3) pe_non (nomark _))))) (pss_one (ps_ret pe_non)) pss_nil)
  (pss_cons (ps_set (i := 4) sc_bad_point.nd rfl (Or.inr rfl) (pe_op op_add (pe_callB call_abs (by rfl) T.b_abs (by decide +kernel) (pa_cons (pe_ix ix_list /-?-/ (pe_ix ix_list (pv 0) (pv 3) (fun _ _ => rfl)) (pv 3) (fun _ _ => rfl)) pa_nil)) pe_int))
  (C8.pss_cut (ps_if (pt_cmpR op_gt (pe_ix ix_list /-?-/ (pe_ix ix_list (pv 0) (pv 1) (fun _ _ => rfl)) (pv 3) (fun _ _ => rfl)) pe_int (nomark _)) (pss_one (ps_set (i := 4) sc_bad_point.nd rfl (Or.inr rfl) (pe_un un_neg (pv 4)))) pss_nil)
  (pss_one (ps_ret (pe_callTy call_tuple_of (by rfl) T.b_tuple (by decide +kernel) (pa_cons (pe_lc (own := [("other", 5)]) (g := gName 5) (tt := tYes) (by rfl) sc_bad_point.nd (pi_range1 (by rfl) T.b_range (pa_cons (pv 2) pa_nil)) (blkOk_by (N := N_bad_point) (sc := defScope s_bad_point) (by decide +kernel)) (fun _ _ _ _ _ => (pg_name (i := 5) sc_bad_point.nd rfl (Or.inl rfl))) (fun _ _ _ _ _ => pts_nil) (fun _ _ _ _ _ => (pe_op op_add (pe_op op_mulW (pv 4) (pe_callTy call_int1 (by rfl) T.b_int (by decide +kernel) (pa_cons (pe_cmpR op_eq (pv 5) (pv 1) (nomark _)) pa_nil))) (pe_callTy call_int1 (by rfl) T.b_int (by decide +kernel) (pa_cons (pe_cmpR op_eq (pv 5) (pv 3) (nomark _)) pa_nil))))) pa_nil)))))))))), ?_⟩
  obtain ⟨rs, ha, hl, row⟩ := ht
  have hlen : (rs.map V.ref).length = n := by rw [List.length_map, hl]
  obtain ⟨p, hp, hpr⟩ := row k hk
  have hpv : (rs.map V.ref)[k]? = some (V.ref p) := by rw [List.getElem?_map, hp]; rfl
  have atk : ∀ {j : Nat}, j < n → atI ((vec n (M k)).map V.int) (j : Int) = some (.int (M k j)) := fun hj => at_pos (by omega) (by rw [Int.toNat_natCast]; exact vecV_at hj)
  refine ⟨_, rfl, _, _, rfl, .inl (SqL.of ha), ?_⟩
  refine ⟨_, rfl, _, rfl, a, _, _, _, rfl, rfl, SqL.of ha, at_pos (by omega) (by rw [Int.toNat_natCast]; exact hpv), _, rfl, p, _, _, _, rfl, rfl, SqL.of hpr, atk hk, ?_⟩
  have gcall : ∀ {x : Nat → Int} {t : Addr} {H' : Hp}, BadAt n k M x → Same H H' → TV K H' t n x → Q (.ref t) H' := fun h s ht => q2 _ _ _ h s ht
  refine ⟨_, _, rfl, rfl, _, rfl, ?_⟩
  by_cases c0 : M k k < 0
  · refine ifT (decide_eq_true c0) ⟨_, rfl, _, rfl, n, k, by rw [hlen]; rfl, hn, fun t H' s ht => ?_⟩
    exact gcall (.inl ⟨c0, rfl⟩) s ht
  refine ifF (decide_eq_false c0) ?_
  refine ⟨_, rfl, _, rfl, a, _, _, _, rfl, rfl, SqL.of ha, at_pos (by omega) (by rw [Int.toNat_natCast]; exact hpv), _, rfl, p, n, k, M k, rfl, hpr, hn, hk, fun q hq hqn hne hfirst => ?_, fun hz => ?_⟩
  · refine ⟨_, rfl, _, rfl, a, _, _, _, rfl, rfl, SqL.of ha, at_pos (by omega) (by rw [Int.toNat_natCast]; exact hpv), _, rfl, p, _, _, _, rfl, rfl, SqL.of hpr, atk hk, ?_⟩
    refine ⟨_, _, rfl, rfl, _, rfl, ?_⟩
    by_cases c1 : 0 < M k k
    · exact ifT (decide_eq_true c1) (ifT rfl (q1 (.inl c1)))
    refine ifF (decide_eq_false c1) ⟨_, rfl, rfl, _, rfl, ifF (decide_eq_false fun e => by cases e) ?_⟩
    have c2 : M k k = 0 := by omega
    obtain ⟨p2, hp2, hpr2⟩ := row q hqn
    have hpv2 : (rs.map V.ref)[q]? = some (V.ref p2) := by rw [List.getElem?_map, hp2]; rfl
    refine ⟨_, rfl, _, rfl, a, _, _, _, rfl, rfl, SqL.of ha, at_pos (by omega) (by rw [Int.toNat_natCast]; exact hpv2), _, rfl, p2, _, _, _, rfl, rfl, SqL.of hpr2, at_pos (by omega) (by rw [Int.toNat_natCast]; exact vecV_at hqn), _, rfl, _, _, rfl, rfl, ?_⟩
    have hB2 : B (w + 1) (amt k q M) := by
      have h1 : (M q q).natAbs < 2 ^ w := hB q q hqn hqn
      show (amt k q M).natAbs < 2 ^ (w + 1)
      have : 1 ≤ 2 ^ w := Nat.one_le_two_pow
      rw [Nat.pow_succ]
      unfold amt
      split <;> omega
    refine ⟨fun σ H1 => σ = [some (.ref a), some (.int (k : Int)), some (.int (n : Int)), some (.int (q : Int)), some (.int (amt k q M)), none] ∧ H1 = H, ?_, ?_⟩
    · refine ⟨_, rfl, _, rfl, a, _, _, _, rfl, rfl, SqL.of ha, at_pos (by omega) (by rw [Int.toNat_natCast]; exact hpv), _, rfl, p, _, _, _, rfl, rfl, SqL.of hpr, atk hqn, _, _, rfl, rfl, _, rfl, ?_⟩
      have e0 : (if M q q < 0 then -M q q else M q q) = ((M q q).natAbs : Int) := by split <;> omega
      by_cases c3 : 0 < M k q
      · refine ifT (decide_eq_true c3) ⟨_, rfl, _, rfl, ?_, rfl⟩
        show [_, _, some (V.int ((rs.map V.ref).length : Nat)), _, some (V.int (-((if M q q < 0 then -M q q else M q q) + 1))), _] = _
        unfold amt
        rw [if_pos c3, hlen, e0]
      · refine ifF (decide_eq_false c3) ⟨?_, rfl⟩
        show [_, _, some (V.int ((rs.map V.ref).length : Nat)), _, some (V.int ((if M q q < 0 then -M q q else M q q) + 1)), _] = _
        unfold amt
        rw [if_neg c3, hlen, e0]
    · rintro σ H1 ⟨rfl, rfl⟩
      refine ⟨_, rfl, (n : Int), rfl, by omega, by omega, fun D hD => ?_⟩
      refine lc_m (walk_range (lo := 0) (n := n)) RI (stb_RI (K := K)) (List.range n) (by rw [List.length_range]) (by rw [List.length_range]; omega) hD (fun _ _ => trivial) (fun _ _ _ _ => ys_fn) (fun i => El.sideP (amt k q M) k q i) (fun c i v H2 H3 hc s1 s2 yl A B hA => ?_) (fun H' l1 s1 hl1 rs => ?_)
      · obtain ⟨hc1, rfl⟩ := in_range hc
        rw [yl.2]
        refine ⟨rfl, lc_yes ⟨_, rfl, _, rfl, _, rfl, rfl, .inr ⟨_, rfl, _, _, rfl, rfl, ?_, _, rfl, _, rfl, rfl, .inr ⟨_, rfl, _, _, rfl, rfl, hA _ _ (fun _ _ h => h) ?_⟩⟩⟩⟩
        · refine wmul hB2 (n := 1) ?_ (by omega) (by omega) (by omega)
          split <;> decide
        · show V.int _ = V.int (El.sideP (amt k q M) k q i)
          unfold El.sideP
          congr 2
          · by_cases e : i = k
            · rw [if_pos e, int_eq (by omega), if_pos rfl]
            · rw [if_neg e, int_ne (by omega), if_neg Bool.false_ne_true]
          · by_cases e : i = q
            · rw [if_pos e, int_eq (by omega), if_pos rfl]
            · rw [if_neg e, int_ne (by omega), if_neg Bool.false_ne_true]
      · refine ⟨D, _, rfl, .inl ⟨SqL.of hl1, fun t ht => ?_⟩⟩
        refine gcall (.inr ⟨c2, q, hq, hqn, hne, hfirst, rfl⟩) (s1.trans (same_new ht _)) ?_
        unfold TV
        rw [← show l1 = (vec n (El.sideP (amt k q M) k q)).map V.int from rs.ints]
        exact SqT.of upd_same
  · refine ⟨_, rfl, _, rfl, a, _, _, _, rfl, rfl, SqL.of ha, at_pos (by omega) (by rw [Int.toNat_natCast]; exact hpv), _, rfl, p, _, _, _, rfl, rfl, SqL.of hpr, atk hk, ?_⟩
    refine ⟨_, _, rfl, rfl, _, rfl, ?_⟩
    by_cases c1 : 0 < M k k
    · exact ifT (decide_eq_true c1) (ifT rfl (q1 (.inl c1)))
    exact ifF (decide_eq_false c1) ⟨_, rfl, rfl, _, rfl, ifT (decide_eq_true rfl) (q1 (.inr ⟨by omega, hz⟩))⟩
end
end P10
namespace P10
open PySem PySem.Spec PyProof.Rows L2 SX EX WK
/-- a list of rows that grows: so far i rows of n numbers -/
structure GT (H0 H : Hp) (a : Addr) (rs : List Addr) (n i : Nat) (f : Nat → Nat → Int) : Prop where
  same : Same H0 H
  at_ : H a = some (.lst (rs.map V.ref))
  len : rs.length = i
  row : ∀ (j : Nat), j < i → ∃ p, rs[j]? = some p ∧ H p = some (.lst ((vec n (f j)).map V.int))
theorem GT.tab {H0 H : Hp} {a : Addr} {rs : List Addr} {n : Nat} {f : Nat → Nat → Int} (h : GT H0 H a rs n n f) : LTab H a n f := ⟨rs, h.at_, h.len, h.row⟩
theorem GT.start {H0 : Hp} {D : Addr} {n : Nat} {f : Nat → Nat → Int} (h : H0 D = none) : GT H0 (upd H0 D (.lst [])) D [] n 0 f := ⟨new_same h _, upd_same, rfl, fun i hi => by omega⟩
theorem GT.snoc {H0 H H' : Hp} {a p : Addr} {rs : List Addr} {n i : Nat} {f : Nat → Nat → Int} (h : GT H0 H a rs n i f) (h0 : H0 a = none) (s : Same H H') (hr : H' p = some (.lst ((vec n (f i)).map V.int))) (hpa : p ≠ a) : GT H0 (upd H' a (.lst (rs.map V.ref ++ [.ref p]))) a (rs ++ [p]) n (i + 1) f := by
  have hra : ∀ r ∈ rs, ∀ x, H r = some (.lst ((vec n x).map V.int)) → r ≠ a := fun r hr' x hx z => by
    rw [z, h.at_] at hx
    cases rs with
    | nil => cases hr'
    | cons b l =>
      have hx := Option.some.inj hx
      injection hx with hx
      have : (vec n x).map V.int ≠ [] := by rw [← hx]; simp
      cases hv : vec n x with
      | nil => rw [hv] at this; exact this rfl
      | cons c m => rw [hv] at hx; simp at hx
  refine ⟨same_at (h.same.trans s) h0, ?_, by rw [List.length_append, h.len]; rfl, fun j hj => ?_⟩
  · rw [upd_same, List.map_append]
    rfl
  · by_cases e : j = i
    · subst e
      refine ⟨p, ?_, ?_⟩
      · rw [List.getElem?_append_right (by rw [h.len]; omega), h.len, Nat.sub_self]
        rfl
      · rw [upd_ne hpa]
        exact hr
    · obtain ⟨q, e1, e2⟩ := h.row j (by omega)
      refine ⟨q, ?_, ?_⟩
      · rw [List.getElem?_append_left (by rw [h.len]; omega)]
        exact e1
      · rw [upd_ne (hra q (List.mem_of_getElem? e1) _ e2)]
        exact s _ _ e2
theorem tyV_of {K : PySem.W.Frag} {H : Hp} {a : Addr} {xs : List V} (h : H a = some (.lst xs)) : tyV K "list" (.ref a) H := .inl ⟨rfl, xs, SqL.of h⟩
section
variable {P : Program} {w : World} {K : PySem.W.Frag} {mg : Str → Option Value} {base : Heap} {f : Addr} {fd : FuncData} {cF cR : Addr}
def spReduced (K : PySem.W.Frag) : Sp := fun vs H Q _ => ∃ (a : Addr) (n k w : Nat) (d : Int) (M : Nat → Nat → Int), vs = [.ref a, .int k, .int d] ∧ LTab H a n M ∧ n ≤ 1000 ∧ k < n ∧ (∀ i j, i < n → j < n → B w (M i j)) ∧ 0 < d ∧ B w d ∧ 0 < w ∧ w ≤ 9000 ∧
  ∀ r H', Same H H' → LTab H' r n (El.redu M k d) → Q (.ref r) H'
abbrev s_reduced : Stmt := top 29
abbrev N_reduced : List Str := ["table", "index", "divisor", "size", "main", "pivot", "lines", "row", "column", "line"]
theorem sc_reduced : FnScope N_reduced ["table", "index", "divisor"] (defScope s_reduced) := ⟨rfl, rfl, rfl, by decide +kernel, rfl, by decide +kernel, by decide +kernel⟩
theorem ok_reduced (F : Fun K "reduced" "reduced" s_reduced f fd) (T : Txt mg) : FnOk P w K mg base CX0 1 f fd ["table", "index", "divisor"] (spReduced K) := by
  refine F.ok sc_reduced (fun vs H Q E h => ?_) (fun cdv A outer s H vs Q E hr h => ?_)
  · obtain ⟨a, n, k, w, d, M, rfl, _⟩ := h
    rfl
  obtain ⟨a, n, k, w, d, M, rfl, ht, hn, hk, hB, hd, hdB, hw, hw4, q⟩ := h
  refine ⟨_, (pss_cons (ps_set (i := 3) sc_reduced.nd rfl (Or.inl rfl) (pe_callB call_len_seq (by rfl) T.b_len PySem.boot_len (pa_cons (pv 0) pa_nil)))
  (pss_cons (ps_set (i := 4) sc_reduced.nd rfl (Or.inl rfl) (pe_ix ix_list (pv 0) (pv 1) (fun _ _ => rfl)))
  (pss_cons (ps_set (i := 5) sc_reduced.nd rfl (Or.inl rfl) (pe_ix ix_list /-?-/ (pv 4) (pv 1) (fun _ _ => rfl)))
  (pss_cons (ps_set (i := 6) sc_reduced.nd rfl (Or.inl rfl) (pe_lst pa_nil))
  (pss_cons (ps_for PassesOwn.never rfl (pi_range1 (by rfl) T.b_range (pa_cons (pv 3) pa_nil)) (pg_name (i := 7) sc_reduced.nd rfl (Or.inl rfl)) (pss_cons (ps_setLc (i := 9) (own := [("column", 8)]) (g := gName 8) (tt := tYes) (by rfl) sc_reduced.nd rfl rfl (sw_true rfl rfl rfl (by decide +kernel)) (pi_range1 (by rfl) T.b_range (pa_cons (pv 3) pa_nil)) (blkOk_by (N := N_reduced) (sc := defScope s_reduced) (by decide +kernel)) (fun _ _ _ _ _ => (pg_name (i := 8) sc_reduced.nd rfl (Or.inl rfl))) (fun _ _ _ _ _ => pts_nil) (fun _ _ _ _ _ => pe_int))
  (C8.pss_cut (ps_if (pt_cmpR op_gt (pv 7) (pv 1) (nomark _)) (pss_one (ps_for PassesOwn.never rfl (pi_range2 (by rfl) T.b_range (pa_cons (pe_op op_add (pv 1) pe_int) (pa_cons (pv 3) pa_nil))) (pg_name (i := 8) sc_reduced.nd rfl (Or.inl rfl)) (pss_one (ps_asg (pe_op op_fdivW (pe_op op_sub (pe_op op_mulW (pv 5) (pe_ix ix_list /-?-/ (pe_ix ix_list (pv 0) (pv 7) (fun _ _ => rfl)) (pv 8) (fun _ _ => rfl))) (pe_op op_mulW (pe_ix ix_list /-?-/ (pv 4) (pv 7) (fun _ _ => rfl)) (pe_ix ix_list /-?-/ (pv 4) (pv 8) (fun _ _ => rfl)))) (pv 2)) (pg_sub (pv 9) (pv 8) set_list))))) pss_nil)
  (pss_one (ps_expr (pe_bm PySem.F.plainAttrs_list PySem.F.slot_list_append PySem.F.type_list_append mt_append (pv 6) (pa_cons (pv 9) pa_nil)))))))
  (pss_one (ps_ret (pv 6)))))))), ?_⟩
  obtain ⟨rs, ha, hl, row⟩ := ht
  have hlen : (rs.map V.ref).length = n := by rw [List.length_map, hl]
  have rowV : ∀ i, i < n → ∃ p, (rs.map V.ref)[i]? = some (V.ref p) ∧ H p = some (.lst ((vec n (M i)).map V.int)) := fun i hi => by
    obtain ⟨p, h1, h2⟩ := row i hi
    exact ⟨p, by rw [List.getElem?_map, h1]; rfl, h2⟩
  obtain ⟨pk, hpk, hpkr⟩ := rowV k hk
  refine ⟨_, rfl, _, _, rfl, .inl (SqL.of ha), ?_⟩
  refine ⟨_, rfl, _, rfl, a, _, _, _, rfl, rfl, SqL.of ha, at_pos (by omega) (by rw [Int.toNat_natCast]; exact hpk), ?_⟩
  refine ⟨_, rfl, _, rfl, pk, _, _, _, rfl, rfl, SqL.of hpkr, at_pos (by omega) (by rw [Int.toNat_natCast]; exact vecV_at hk), ?_⟩
  refine ⟨line_ge (by decide), fun L hL => ?_⟩
  refine ⟨_, rfl, (n : Int), by rw [hlen], by omega, by omega, ?_⟩
  refine for_range (lo := 0) (n := n) (fun i σ H1 => ∃ (v7 v8 v9 : Option V) (ps : List Addr), σ = [some (.ref a), some (.int (k : Int)), some (.int d), some (.int (n : Int)), some (.ref pk), some (.int (M k k)), some (.ref L), v7, v8, v9] ∧ GT H H1 L ps n i (El.redu M k d)) ⟨none, none, none, [], by rw [← hlen]; rfl, GT.start hL⟩ ?_ ?_
  · rintro i σ H1 hi ⟨v7, v8, v9, ps, rfl, g⟩
    have hLk : GT H H1 L ps n i (El.redu M k d) := g
    refine ⟨_, rfl, (n : Int), rfl, by omega, by omega, fun D hD => ?_⟩
    refine lc_m (walk_range (lo := 0) (n := n)) RI (stb_RI (K := K)) (List.range n) (by rw [List.length_range]) (by rw [List.length_range]; omega) hD (fun _ _ => trivial) (fun _ _ _ _ => ys_fn) (fun _ => (0 : Int)) (fun c j v H2 H3 hc s1 s2 yl A B hA => ?_) (fun H2 l1 s1 hl1 rz => ?_)
    · exact ⟨rfl, lc_yes (hA _ _ (fun _ _ h => h) rfl)⟩
    · have hDL : D ≠ L := fun z => by rw [z, g.at_] at hD; cases hD
      have hz : l1 = (vec n fun _ => 0).map V.int := rz.ints
      have hrow0 : ∀ j, El.redu M k d i j = if k < i ∧ k < j then (M k k * M i j - M k i * M k j) / d else 0 := fun j => rfl
      obtain ⟨pi, hpi, hpir⟩ := rowV i hi
      have sH : Same H H2 := g.same.trans s1
      refine ⟨fun σ H3 => ∃ (v8 : Option V) (y : Nat → Int), σ = [some (.ref a), some (.int (k : Int)), some (.int d), some (.int (n : Int)), some (.ref pk), some (.int (M k k)), some (.ref L), some (.int (0 + (i : Int))), v8, some (.ref D)] ∧ Same H1 H3 ∧ H3 D = some (.lst ((vec n y).map V.int)) ∧ ∀ j, j < n → y j = El.redu M k d i j, ?_, ?_⟩
      · refine ⟨_, rfl, _, rfl, _, _, rfl, rfl, _, rfl, ?_⟩
        by_cases c : k < i
        · refine ifT (decide_eq_true (by omega)) ⟨_, rfl, _, _, rfl, rfl, _, rfl, (k : Int) + 1, (n : Int), rfl, ⟨by omega, by omega, by omega, by omega⟩, ?_⟩
          refine for_range (lo := (k : Int) + 1) (n := ((n : Int) - ((k : Int) + 1)).toNat) (fun j σ H3 => ∃ (v8 : Option V) (y : Nat → Int), σ = [some (.ref a), some (.int (k : Int)), some (.int d), some (.int (n : Int)), some (.ref pk), some (.int (M k k)), some (.ref L), some (.int (0 + (i : Int))), v8, some (.ref D)] ∧ Same H1 H3 ∧ H3 D = some (.lst ((vec n y).map V.int)) ∧ (∀ q, q < k + 1 + j → q < n → y q = El.redu M k d i q)) ⟨_, fun _ => 0, rfl, s1, by rw [hl1, hz], fun q hq _ => by rw [hrow0, if_neg (by omega)]⟩ ?_ ?_
          · rintro j σ H3 hj ⟨v8, y, rfl, s3, h3, hy⟩
            have hjn : k + 1 + j < n := by omega
            have ej : ((k : Int) + 1 + (j : Int)).toNat = k + 1 + j := by omega
            have ei : (0 + (i : Int)).toNat = i := by omega
            have sx : Same H H3 := g.same.trans s3
            refine ⟨_, rfl, _, rfl, _, rfl, a, _, _, _, rfl, rfl, SqL.of (sx _ _ ha), at_pos (by omega) (by rw [ei]; exact hpi), _, rfl, pi, _, _, _, rfl, rfl, SqL.of (sx _ _ hpir), at_pos (by omega) (by rw [ej]; exact vecV_at hjn), ?_⟩
            have num : (M k k * M i (k + 1 + j) - M k i * M k (k + 1 + j)) / d = El.redu M k d i (k + 1 + j) := by rw [hrow0, if_pos ⟨c, by omega⟩]
            refine ⟨_, _, rfl, rfl, wmul (hB k k hk hk) (hB i _ hi hjn) hw hw (by omega), _, rfl, _, rfl, pk, _, _, _, rfl, rfl, SqL.of (sx _ _ hpkr), at_pos (by omega) (by rw [ei]; exact vecV_at hi), _, rfl, _, rfl, pk, _, _, _, rfl, rfl, SqL.of (sx _ _ hpkr), at_pos (by omega) (by rw [ej]; exact vecV_at hjn), _, _, rfl, rfl, wmul (hB k i hk hi) (hB k _ hk hjn) hw hw (by omega), _, _, rfl, rfl, _, rfl, _, _, rfl, rfl, wdiv hd hdB hw (by omega), ?_⟩
            refine ⟨_, rfl, _, rfl, D, _, _, k + 1 + j, rfl, rfl, h3, by rw [vec_lenV]; unfold ixN; rw [if_pos (by omega), if_pos (by omega)]; congr 1, ?_⟩
            refine ⟨_, _, rfl, same_at s3 hD, by rw [upd_same, vec_set hjn], fun q hq hqn => ?_⟩
            by_cases e : q = k + 1 + j
            · rw [if_pos e, num, e]
            · rw [if_neg e]
              exact hy q (by omega) hqn
          · rintro σ H3 ⟨v8, y, rfl, s3, h3, hy⟩
            exact ⟨_, y, rfl, s3, h3, fun q hq => hy q (by omega) hq⟩
        · exact ifF (decide_eq_false (by omega)) ⟨_, fun _ => 0, rfl, s1, by rw [hl1, hz], fun q hq => by rw [hrow0, if_neg (by omega)]⟩
      · rintro σ H3 ⟨v8, y, rfl, s3, h3, hy⟩
        have e : (vec n y).map V.int = (vec n (El.redu M k d i)).map V.int := by rw [vec_congr hy]
        rw [e] at h3
        refine ⟨_, rfl, tyV_of (s3 _ _ g.at_), _, rfl, L, _, _, rfl, rfl, s3 _ _ g.at_, ?_, ?_⟩
        · rw [List.length_map, g.len]
          exact Nat.lt_of_lt_of_le (by omega : i < 1001) (line_ge (by decide))
        · exact ⟨_, _, _, ps ++ [D], rfl, g.snoc hL s3 h3 hDL⟩
  · rintro σ H1 ⟨v7, v8, v9, ps, rfl, g⟩
    exact ⟨_, rfl, q _ _ g.same g.tab⟩
end
end P10
namespace P10
open PySem PySem.Spec PyProof.Rows L2 SX EX WK
/-- a pivot: index, row, scale -/
def PvAt (K : PySem.W.Frag) (n : Nat) : Hp → V → El.Pv → Prop := fun H v p => ∃ t r, v = .ref t ∧ SqT K H t [.int (p.1 : Int), .ref r, .int p.2.2] ∧ TV K H r n p.2.1
theorem stb_PvAt {K : PySem.W.Frag} {n : Nat} : Stb K (PvAt K n) := fun _ _ _ _ s ⟨t, r, h1, h2, h3⟩ => ⟨t, r, h1, s _ _ h2, s _ _ h3⟩
/-- numbers outside the table are 0, the table is symmetric -/
structure Whole (n : Nat) (M : Nat → Nat → Int) : Prop where
  sym : ∀ i j, M i j = M j i
  out : ∀ i j, n ≤ j → M i j = 0
theorem run_out {n : Nat} {M : Nat → Nat → Int} (h : Whole n M) {k : Nat} {S : List Nat} {d : Int} {B' : Nat → Nat → Int} {ps : List El.Pv} (r : El.Run M k S d B' ps) : ∀ i j, n ≤ j → B' i j = 0 := by
  induction r with
  | begin => exact h.out
  | skip _ _ ih => exact ih
  | pivot _ _ ih =>
    intro i j hj
    unfold El.redu
    rw [ih _ _ hj, ih _ _ hj, Int.mul_zero, Int.mul_zero, Int.sub_zero, Int.zero_ediv]
    split <;> rfl
theorem run_row {n : Nat} {M : Nat → Nat → Int} (h : Whole n M) {k : Nat} {S : List Nat} {d : Int} {B' : Nat → Nat → Int} {ps : List El.Pv} (r : El.Run M k S d B' ps) (h0 : B' k k = 0) (hz : ∀ p, k < p → p < n → B' k p = 0) : ∀ x, B' k x = 0 := fun x => by
  rcases Nat.lt_trichotomy x k with c | c | c
  · exact (r.inv h.sym).low k x c
  · rw [c]; exact h0
  · by_cases e : x < n
    · exact hz x c e
    · exact run_out h r k x (by omega)
/-- the bounds of the rests -/
theorem run_bound {n w : Nat} {M : Nat → Nat → Int} (h : Whole n M) {b : Int} (hb1 : 1 ≤ b) (hb : ∀ i j, -b ≤ M i j ∧ M i j ≤ b) (hw : B w (El.bnd b n)) {k : Nat} {S : List Nat} {d : Int} {B' : Nat → Nat → Int} {ps : List El.Pv} (r : El.Run M k S d B' ps) (hk : k < n) : (∀ i j, B w (B' i j)) ∧ 0 < d ∧ B w d := by
  have inv := r.inv h.sym
  have m1 := El.bnd_mono hb1 (show k + 1 ≤ n by omega)
  have m2 := El.bnd_mono hb1 (show k ≤ n by omega)
  have hw' : (El.bnd b n).natAbs < 2 ^ w := hw
  refine ⟨fun i j => ?_, inv.dpos, ?_⟩
  · show (B' i j).natAbs < 2 ^ w
    by_cases c : k ≤ i
    · have := r.rbound h.sym b hb1 hb c j
      omega
    · rw [inv.sym, inv.low j i (by omega)]
      show 0 < 2 ^ w
      exact Nat.lt_of_le_of_lt (Nat.zero_le _) hw'
  · have := El.Run.dbound inv r.many b hb1 hb r
    have := inv.dpos
    show d.natAbs < 2 ^ w
    omega
theorem LTab.put {K : PySem.W.Frag} {H : Hp} {L tb : Addr} {n : Nat} {f : Nat → Nat → Int} {pv pv' : List V} {ps : List El.Pv} (h : LTab H tb n f) (hL : H L = some (.lst pv)) (r : Rs (PvAt K n) H pv ps) (hl : pv.length < n) : LTab (upd H L (.lst pv')) tb n f := by
  obtain ⟨rs, h1, h2, h3⟩ := h
  refine ⟨rs, ?_, h2, fun i hi => ?_⟩
  · rw [upd_ne (fun z => ?_)]
    · exact h1
    · rw [z, hL] at h1
      have := HO.lst.inj (Option.some.inj h1)
      rw [this, List.length_map] at hl
      omega
  · obtain ⟨p, e1, e2⟩ := h3 i hi
    refine ⟨p, e1, ?_⟩
    rw [upd_ne (fun z => ?_)]
    · exact e2
    · rw [z, hL] at e2
      have := HO.lst.inj (Option.some.inj e2)
      rw [this, vec_lenV] at hl
      omega
section
variable {P : Program} {w : World} {K : PySem.W.Frag} {mg : Str → Option Value} {base : Heap} {f : Addr} {fd : FuncData} {cF cR : Addr}
/-- what the elimination tells -/
def spElim (K : PySem.W.Frag) : Sp := fun vs H Q _ => ∃ (v : V) (n w : Nat) (b : Int) (M : Nat → Nat → Int), vs = [v] ∧ Fz K H v (tm n M) ∧ n ≤ 1000 ∧ Whole n M ∧ 1 ≤ b ∧ (∀ i j, -b ≤ M i j ∧ M i j ≤ b) ∧ B w (El.bnd b n) ∧ 0 < w ∧ w ≤ 9000 ∧
  (∀ r t pv H' S d B' ps, Same H H' → El.Run M n S d B' ps → SqT K H' r [.ref t, .non] → SqT K H' t pv → Rs (PvAt K n) H' pv ps.reverse → Q (.ref r) H') ∧
  (∀ r t z pv H' k S d B' ps x, Same H H' → k < n → El.Run M k S d B' ps → BadAt n k B' x → SqT K H' r [.ref t, .ref z] → SqT K H' t pv → Rs (PvAt K n) H' pv ps.reverse → TV K H' z n x → Q (.ref r) H')
abbrev s_eliminated : Stmt := top 30
abbrev N_eliminated : List Str := ["entries", "table", "pivots", "divisor", "index", "point", "pivot", "line"]
theorem sc_eliminated : FnScope N_eliminated ["entries"] (defScope s_eliminated) := ⟨rfl, rfl, rfl, by decide +kernel, rfl, by decide +kernel, by decide +kernel⟩
theorem ok_eliminated (F : Fun K "eliminated" "eliminated" s_eliminated f fd) (T : Txt mg) (C_bad_point : Cal P w K mg base 2 "bad_point" ["table", "index"] (spBad K)) (C_reduced : Cal P w K mg base 1 "reduced" ["table", "index", "divisor"] (spReduced K)) : FnOk P w K mg base CX0 3 f fd ["entries"] (spElim K) := by
  refine F.ok sc_eliminated (fun vs H Q E h => ?_) (fun cdv A outer s H vs Q E hr h => ?_)
  · obtain ⟨v, n, w, b, M, rfl, _⟩ := h
    rfl
  obtain ⟨v, n, w, b, M, rfl, hz, hn, hW, hb1, hb, hw, hw0, hw4, q1, q2⟩ := h
  obtain ⟨a, vs, rfl, ha, hl, hrow⟩ := fz_mat hz
  rw [mat_len] at hl
  refine ⟨_, (pss_cons (ps_setLc (i := 1) (own := [("line", 7)]) (g := gName 7) (tt := tYes) (by rfl) sc_eliminated.nd rfl rfl (sw_true rfl rfl rfl (by decide +kernel)) (pi_tup (pv 0)) (blkOk_by (N := N_eliminated) (sc := defScope s_eliminated) (by decide +kernel)) (fun _ _ _ _ _ => (pg_name (i := 7) sc_eliminated.nd rfl (Or.inl rfl))) (fun _ _ _ _ _ => pts_nil) (fun _ _ _ _ _ => (pe_callTy (call_list_ofK (K := K) rfl) (by rfl) T.b_list (by decide +kernel) (pa_cons (pv 7) pa_nil))))
  (pss_cons (ps_set (i := 2) sc_eliminated.nd rfl (Or.inl rfl) (pe_lst pa_nil))
  (pss_cons (ps_set (i := 3) sc_eliminated.nd rfl (Or.inl rfl) pe_int)
  (pss_cons (ps_for PassesOwn.never rfl (pi_range1 (by rfl) T.b_range (pa_cons (pe_callB call_len_seq (by rfl) T.b_len PySem.boot_len (pa_cons (pv 1) pa_nil)) pa_nil)) (pg_name (i := 4) sc_eliminated.nd rfl (Or.inl rfl)) (pss_cons (ps_set (i := 5) sc_eliminated.nd rfl (Or.inl rfl) (pe_cal C_bad_point (hr.mono (by omega)) rfl (pa_cons (pv 1) (pa_cons (pv 4) pa_nil))))
  (pss_cons (ps_if (pt_cmpR op_notN (pv 5) pe_non (nomark _)) (pss_one (ps_ret (pe_tup (pa_cons (pe_callTy call_tuple_of (by rfl) T.b_tuple (by decide +kernel) (pa_cons (pv 2) pa_nil)) (pa_cons (pv 5) pa_nil))))) pss_nil)
  (pss_cons (ps_set (i := 6) sc_eliminated.nd rfl (Or.inl rfl) (pe_ix ix_list /-?-/ (pe_ix ix_list (pv 1) (pv 4) (fun _ _ => rfl)) (pv 4) (fun _ _ => rfl)))
  (pss_one (ps_if (pt_cmpR op_gt (pv 6) pe_int (nomark _)) (pss_cons (ps_expr (pe_bm PySem.F.plainAttrs_list PySem.F.slot_list_append PySem.F.type_list_append mt_append (pv 2) (pa_cons (pe_tup (pa_cons (pv 4) (pa_cons (pe_callTy call_tuple_of (by rfl) T.b_tuple (by decide +kernel) (pa_cons (pe_ix ix_list (pv 1) (pv 4) (fun _ _ => rfl)) pa_nil)) (pa_cons (pe_op op_mulW (pv 3) (pv 6)) pa_nil)))) pa_nil)))
  (pss_cons (ps_set (i := 1) sc_eliminated.nd rfl (Or.inl rfl) (pe_cal C_reduced (hr.mono (by omega)) rfl (pa_cons (pv 1) (pa_cons (pv 4) (pa_cons (pv 3) pa_nil)))))
  (pss_one (ps_set (i := 3) sc_eliminated.nd rfl (Or.inl rfl) (pv 6))))) pss_nil))))))
  (pss_one (ps_ret (pe_tup (pa_cons (pe_callTy call_tuple_of (by rfl) T.b_tuple (by decide +kernel) (pa_cons (pv 2) pa_nil)) (pa_cons pe_non pa_nil))))))))), ?_⟩
  refine ⟨_, rfl, a, rfl, ⟨_, ha⟩, fun D hD => ?_⟩
  refine lc_gm (walk_tup (K := K) (a := a) (xs := vs)) (RL D) stb_RL (List.range n) (by rw [List.length_range]; exact hl) (by rw [List.length_range]; omega) hD (fun H' s => Same_seqT s ha) (fun _ _ _ _ => ys_at) (fun i => vec n (M i)) (fun c i x H1 H2 hc s1 s2 y hdl A B hA => ?_) (fun H' l s1 hl1 rs => ?_)
  · obtain ⟨hc1, rfl⟩ := in_range hc
    obtain ⟨p, h1, h2⟩ := hrow i _ (mat_at hc1)
    have e := y.2
    rw [h1] at e
    cases e
    refine ⟨rfl, lc_yes ⟨_, rfl, p, _, rfl, .inr (Same_seqT s2 h2), fun t ht => ?_⟩⟩
    refine hA _ _ (same_new ht _) ⟨t, rfl, fun z => ?_, upd_same⟩
    obtain ⟨l, hl⟩ := hdl
    rw [z, hl] at ht
    cases ht
  have tab0 : LTab H' D n M := LTab.of hl1 rs
  refine ⟨line_ge (by decide), fun L hL => ?_⟩
  refine ⟨_, rfl, D, l, rfl, .inl (SqL.of (same_new hL _ _ _ hl1)), (n : Int), by rw [rs.1, List.length_map, List.length_range], by omega, by omega, ?_⟩
  refine for_range (lo := 0) (n := n) (fun k σ H1 => ∃ (v4 v5 v6 : Option V) (tb : Addr) (d : Int) (pv : List V) (S : List Nat) (B' : Nat → Nat → Int) (ps : List El.Pv), σ = [some (.ref a), some (.ref tb), some (.ref L), some (.int d), v4, v5, v6, none] ∧ El.Run M k S d B' ps ∧ Same H H1 ∧ H L = none ∧ H1 L = some (.lst pv) ∧ Rs (PvAt K n) H1 pv ps.reverse ∧ LTab H1 tb n B') ⟨none, none, none, D, 1, [], [], M, [], rfl, .begin, s1.trans (same_new hL _), s1.free hL, upd_same, Rs.nil, tab0.same (same_new hL _)⟩ ?_ ?_
  · rintro k σ H1 hk ⟨v4, v5, v6, tb, d, pv, S, B', ps, rfl, run, sH, hL0, hLv, rps, tab⟩
    obtain ⟨hB, hd, hdB⟩ := run_bound hW hb1 hb hw run hk
    refine ⟨_, rfl, _, rfl, tb, n, k, w, B', by rw [Int.zero_add]; rfl, tab, hn, hk, fun i j _ _ => hB i j, hw0, by omega, fun fine => ?_, fun x t H2 hbad s2 htv => ?_⟩
    · refine ⟨_, rfl, rfl, _, rfl, ifF (by rw [decide_eq_true rfl]; rfl) ?_⟩
      have tab' := tab
      obtain ⟨rs2, h1, h2, h3⟩ := tab'
      obtain ⟨p, hp, hpr⟩ := h3 k hk
      have hpv : (rs2.map V.ref)[k]? = some (V.ref p) := by rw [List.getElem?_map, hp]; rfl
      have e0 : (0 + (k : Int)).toNat = k := by omega
      refine ⟨_, rfl, _, rfl, tb, _, _, _, rfl, rfl, SqL.of h1, at_pos (by omega) (by rw [e0]; exact hpv), _, rfl, p, _, _, _, rfl, rfl, SqL.of hpr, at_pos (by omega) (by rw [e0]; exact vecV_at hk), ?_⟩
      refine ⟨_, rfl, _, _, rfl, rfl, _, rfl, ?_⟩
      have hpl : pv.length < n := by
        have m := run.many
        have l := run.leads
        have := rps.1
        rw [List.length_reverse, ← List.length_map (as := ps) (f := (·.1)), l] at this
        omega
      by_cases c : 0 < B' k k
      · refine ifT (decide_eq_true c) ?_
        refine ⟨_, rfl, tyV_of hLv, _, rfl, _, rfl, _, rfl, tb, _, _, _, rfl, rfl, SqL.of h1, at_pos (by omega) (by rw [e0]; exact hpv), p, _, rfl, .inl ⟨SqL.of hpr, fun u hu => ⟨_, rfl, _, rfl, _, _, rfl, rfl, wmul hdB (hB k k) hw0 hw0 (by omega), three_line, fun z hz => ?_⟩⟩⟩
        have s3 := (same_new hu (.tup ((vec n (B' k)).map V.int))).trans (same_new hz (.tup [.int (0 + (k : Int)), .ref u, .int (d * B' k k)]))
        refine ⟨L, pv, _, rfl, rfl, s3 _ _ hLv, Nat.lt_of_lt_of_le hpl (line_ge (by omega)), ?_⟩
        have tk3 : Tk K H1 (upd (upd H1 u (.tup ((vec n (B' k)).map V.int))) z (.tup [.int (0 + (k : Int)), .ref u, .int (d * B' k k)])) := fun _ _ h => Same_seqT s3 h
        have tab3 := (tab.same s3).put (K := K) (pv' := pv ++ [.ref z]) (s3 _ _ hLv) (rps.tk stb_PvAt tk3) hpl
        refine ⟨_, rfl, _, rfl, _, rfl, tb, n, k, w, d, B', by rw [Int.zero_add]; rfl, tab3, hn, hk, fun i j _ _ => hB i j, hd, hdB, hw0, hw4, fun r H3 s4 hr => ?_⟩
        have sz : SqT K (upd (upd H1 u (.tup ((vec n (B' k)).map V.int))) z (.tup [.int (0 + (k : Int)), .ref u, .int (d * B' k k)])) z [.int (k : Int), .ref u, .int (d * B' k k)] := by
          have el : V.int (0 + (k : Int)) = V.int (k : Int) := by rw [Int.zero_add]
          exact Eq.mp (congrArg (fun x => SqT K (upd (upd H1 u (.tup ((vec n (B' k)).map V.int))) z (.tup [.int (0 + (k : Int)), .ref u, .int (d * B' k k)])) z [x, .ref u, .int (d * B' k k)]) el) (SqT.of upd_same)
        have su : SqT K (upd (upd H1 u (.tup ((vec n (B' k)).map V.int))) z (.tup [.int (0 + (k : Int)), .ref u, .int (d * B' k k)])) u ((vec n (B' k)).map V.int) := Same_seqT (same_new hz _) (SqT.of upd_same)
        have r3 : Rs (PvAt K n) (upd (upd H1 u (.tup ((vec n (B' k)).map V.int))) z (.tup [.int (0 + (k : Int)), .ref u, .int (d * B' k k)])) (pv ++ [.ref z]) (((k, B' k, d * B' k k) :: ps).reverse) := by
          rw [List.reverse_cons]
          exact (rps.tk stb_PvAt tk3).snoc ⟨z, u, rfl, sz, su⟩
        have tk4 := tk_lst (K := K) (s3 _ _ hLv) (H' := upd (upd (upd H1 u (.tup ((vec n (B' k)).map V.int))) z (.tup [.int (0 + (k : Int)), .ref u, .int (d * B' k k)])) L (.lst (pv ++ [.ref z]))) (fun b o hb e => by rw [upd_ne hb]; exact e)
        have tk5 : Tk K (upd (upd (upd H1 u (.tup ((vec n (B' k)).map V.int))) z (.tup [.int (0 + (k : Int)), .ref u, .int (d * B' k k)])) L (.lst (pv ++ [.ref z]))) H3 := fun _ _ h => Same_seqT s4 h
        exact ⟨_, rfl, _, _, _, r, B' k k, pv ++ [.ref z], k :: S, El.redu B' k d, (k, B' k, d * B' k k) :: ps, rfl, run.pivot c, (same_at (sH.trans s3) hL0).trans s4, hL0, s4 _ _ upd_same, (r3.tk stb_PvAt tk4).tk stb_PvAt tk5, hr⟩
      · refine ifF (decide_eq_false c) ?_
        have h0 : B' k k = 0 ∧ ∀ p, k < p → p < n → B' k p = 0 := by
          rcases fine with g | g
          · exact absurd g c
          · exact g
        exact ⟨_, _, _, tb, d, pv, S, B', ps, rfl, run.skip (run_row hW run h0.1 h0.2), sH, hL0, hLv, rps, tab⟩
    · refine ⟨_, rfl, rfl, _, rfl, ifT (by rw [decide_eq_false (fun e => by cases e)]; rfl) ?_⟩
      refine ⟨_, rfl, L, pv, rfl, .inl ⟨SqL.of (s2 _ _ hLv), fun t2 ht2 => ⟨_, rfl, two_line, fun r hr => ?_⟩⟩⟩
      have s3 := (s2.trans (same_new ht2 (.tup pv))).trans (same_new hr (.tup [.ref t2, .ref t]))
      exact q2 r t2 t pv _ k S d B' ps x (sH.trans s3) hk run hbad (SqT.of upd_same) (Same_seqT (same_new hr _) (SqT.of upd_same)) (rps.tk stb_PvAt fun _ _ h => Same_seqT s3 h) (Same_seqT ((same_new ht2 _).trans (same_new hr _)) htv)
  · rintro σ H1 ⟨v4, v5, v6, tb, d, pv, S, B', ps, rfl, run, sH, hL0, hLv, rps, tab⟩
    refine ⟨_, rfl, L, pv, rfl, .inl ⟨SqL.of hLv, fun t ht => ⟨two_line, fun r hr => ?_⟩⟩⟩
    have s3 := (same_new ht (.tup pv)).trans (same_new hr (.tup [.ref t, .non]))
    exact q1 r t pv _ S d B' ps (sH.trans s3) run (SqT.of upd_same) (Same_seqT (same_new hr _) (SqT.of upd_same)) (rps.tk stb_PvAt fun _ _ h => Same_seqT s3 h)
end
end P10
namespace PySem.El
/-- the bounds at the sizes of the laws: entries up to 2 ^ 96 -/
theorem nums : (List.range 11).all (fun n => decide (tb (fun k => bnd (2 ^ 96) (k + 1)) n n < 2 ^ 7900) && decide ((bnd (2 ^ 96) n).natAbs < 2 ^ 1000)) = true := by decide +kernel
end PySem.El
namespace PySem.El
/-- g is the common divisor of the numbers P -/
structure Gcd (P : Int → Prop) (g : Int) : Prop where
  nn : 0 ≤ g
  dv : ∀ x, P x → g ∣ x
  mx : ∀ a c : Int, (∀ x, P x → c ∣ a * x) → c ∣ a * g
theorem Gcd.none {P : Int → Prop} (h : ∀ x, ¬ P x) : Gcd P 0 := ⟨by decide, fun x hx => absurd hx (h x), fun a c _ => by rw [Int.mul_zero]; exact Int.dvd_zero c⟩
theorem Gcd.more {P P' : Int → Prop} {g x : Int} (h : Gcd P g) (e : ∀ y, P' y ↔ P y ∨ y = x) : Gcd P' ((Nat.gcd g.natAbs x.natAbs : Nat) : Int) := by
  have d1 : ((Nat.gcd g.natAbs x.natAbs : Nat) : Int) ∣ g := nat_dvd.2 (Nat.gcd_dvd_left _ _)
  have d2 : ((Nat.gcd g.natAbs x.natAbs : Nat) : Int) ∣ x := nat_dvd.2 (Nat.gcd_dvd_right _ _)
  refine ⟨Int.natCast_nonneg _, fun y hy => ?_, fun a c hc => ?_⟩
  · rcases (e y).1 hy with p | p
    · exact Int.dvd_trans d1 (h.dv y p)
    · rw [p]; exact d2
  · have h1 := h.mx a c fun y hy => hc y ((e y).2 (.inl hy))
    have h2 := hc x ((e x).2 (.inr rfl))
    have g1 : c.natAbs ∣ a.natAbs * g.natAbs := by rw [← Int.natAbs_mul]; exact Int.natAbs_dvd_natAbs.2 h1
    have g2 : c.natAbs ∣ a.natAbs * x.natAbs := by rw [← Int.natAbs_mul]; exact Int.natAbs_dvd_natAbs.2 h2
    have g3 : c.natAbs ∣ a.natAbs * Nat.gcd g.natAbs x.natAbs := by
      rw [← Nat.gcd_mul_left]; exact Nat.dvd_gcd g1 g2
    apply Int.natAbs_dvd_natAbs.1
    rwa [Int.natAbs_mul, Int.natAbs_natCast]
theorem Gcd.cong {P P' : Int → Prop} {g : Int} (h : Gcd P g) (e : ∀ y, P' y ↔ P y) : Gcd P' g := ⟨h.nn, fun x hx => h.dv x ((e x).1 hx), fun a c hc => h.mx a c fun x hx => hc x ((e x).2 hx)⟩
/-- numbers outside are 0 -/
def Out (n : Nat) (R : Nat → Row) : Prop := ∀ i j, n ≤ i ∨ n ≤ j → R i j = 0
theorem numer_out {n k : Nat} {R : Nat → Row} (h : Out n R) : Out n (numer R k) := fun i j c => by
  unfold numer
  rcases c with c | c
  · rw [h i j (.inl c), h k i (.inr c)]; simp
  · rw [h i j (.inr c), h k j (.inr c)]; simp
/-- the numbers of a step -/
def Nums (n k : Nat) (R : Nat → Row) (x : Int) : Prop := ∃ i j, k < i ∧ k < j ∧ i < n ∧ j < n ∧ x = numer R k i j
def next (k : Nat) (R : Nat → Row) (g : Int) : Nat → Row := fun a b => if k < a ∧ k < b then (if 1 < g then numer R k a b / g else numer R k a b) else R a b
theorem next_out {n k : Nat} {R : Nat → Row} {g : Int} (h : Out n R) : Out n (next k R g) := fun i j c => by
  unfold next
  rw [numer_out h i j c, h i j c, Int.zero_ediv]
  simp
theorem Tie.next {A : Nat → Row} {S k d B R} {n : Nat} (h : Inv A S k d B) (hp : 0 < B k k) (t : Tie k R B) (out : Out n R) (g : Int) (hg : Gcd (Nums n k R) g) :
    Tie (k + 1) (next k R g) (redu B k d) ∧ ∀ i j, k < i → k < j → (next k R g i j).natAbs ≤ (redu B k d i j).natAbs := by
  refine Tie.pivot h hp t g hg.nn (fun a c hc => hg.mx a c fun x ⟨i, j, hi, hj, _, _, e⟩ => e ▸ hc i j hi hj) (fun i j hi hj => ?_) (fun g0 i j hi hj => ?_)
  · unfold El.next
    rw [if_pos ⟨hi, hj⟩]
    by_cases c : i < n ∧ j < n
    · have hd := hg.dv _ ⟨i, j, hi, hj, c.1, c.2, rfl⟩
      by_cases c1 : 1 < g
      · rw [if_pos c1, Int.mul_ediv_cancel' hd]
      · rw [if_neg c1]
        have := hg.nn
        rcases (show g = 0 ∨ g = 1 by omega) with e | e
        · rw [e] at hd ⊢
          rw [Int.zero_dvd.1 hd]; rfl
        · rw [e, Int.one_mul]
    · have z := numer_out (k := k) out i j (by omega)
      rw [z, Int.zero_ediv]
      simp
  · unfold El.next
    rw [if_pos ⟨hi, hj⟩, if_neg (by omega)]
    by_cases c : i < n ∧ j < n
    · have hd := hg.dv _ ⟨i, j, hi, hj, c.1, c.2, rfl⟩
      rw [g0] at hd
      exact Int.zero_dvd.1 hd
    · exact numer_out out i j (by omega)
/-- where a whole elimination stands at an index -/
theorem Run.upto {A : Nat → Row} {m S d B ps} (h : Run A m S d B ps) : ∀ k, k < m → ∃ S' d' B' ps', Run A k S' d' B' ps' ∧ (0 < B' k k ∨ ∀ x, B' k x = 0) := by
  induction h with
  | begin => intro k hk; omega
  | @skip m S d B ps h hz ih =>
    intro k hk
    by_cases e : k = m
    · subst e; exact ⟨_, _, _, _, h, .inr hz⟩
    · exact ih k (by omega)
  | @pivot m S d B ps h hp ih =>
    intro k hk
    by_cases e : k = m
    · subst e; exact ⟨_, _, _, _, h, .inl hp⟩
    · exact ih k (by omega)
end PySem.El
namespace PySem.El
/-- no value below 0 -/
def Psd (n : Nat) (A : Nat → Row) : Prop := ∀ x : Row, 0 ≤ Q n A x
theorem Q_zero {n : Nat} {A : Nat → Row} (h : ∀ i j, i < n → j < n → A i j = 0) (x : Row) : Q n A x = 0 := by
  rw [Q_congr (B' := fun _ _ => 0) (x' := x) (fun i j hi hj => by rw [h i j hi hj])]
  unfold Q
  simp [sm_zero]
theorem Run.psd_back {A : Nat → Row} (hA : ∀ i j, A i j = A j i) {k S d B ps} (h : Run A k S d B ps) (n : Nat) : Psd n B → Psd n A := by
  induction h with
  | begin => exact id
  | skip _ _ ih => exact ih
  | @pivot k S d B ps h hp ih =>
    intro hP
    refine ih fun x => ?_
    have hI := h.inv hA
    have e := hI.value hp n x
    have a := hP x
    have b : 0 ≤ lin n (B k) x * lin n (B k) x := by
      rcases Int.le_total 0 (lin n (B k) x) with c | c
      · exact Int.mul_nonneg c c
      · exact Int.mul_nonneg_of_nonpos_of_nonpos c c
    have c := Int.mul_nonneg (Int.le_of_lt hI.dpos) a
    rcases Int.lt_or_le (Q n B x) 0 with q | q
    · have := Int.mul_neg_of_pos_of_neg hp q
      omega
    · exact q
/-- a whole elimination: no value is below 0 -/
theorem Run.psd {A : Nat → Row} (hA : ∀ i j, A i j = A j i) {n S d B ps} (h : Run A n S d B ps) : Psd n A :=
  h.psd_back hA n fun x => by rw [Q_zero fun i j _ hj => (h.inv hA).low i j hj]; exact Int.le_refl _
theorem Psd.scale {n : Nat} {A B : Nat → Row} {a b : Int} (ha : 0 < a) (hb : 0 < b) (e : ∀ i j, i < n → j < n → a * A i j = b * B i j) (h : Psd n B) : Psd n A := fun x => by
  have h1 : a * Q n A x = b * Q n B x := by
    rw [← Q_mul, ← Q_mul]
    exact Q_congr fun i j hi hj => by rw [e i j hi hj]
  have h2 := Int.mul_nonneg (Int.le_of_lt hb) (h x)
  rw [← h1] at h2
  rcases Int.lt_or_le (Q n A x) 0 with q | q
  · have := Int.mul_neg_of_pos_of_neg ha q
    omega
  · exact q
theorem Psd.diag {n : Nat} {A : Nat → Row} (h : Psd n A) {k : Nat} (hk : k < n) : 0 ≤ A k k := by
  rw [← Q_unit A hk]
  exact h _
/-- what is ahead of the first pivot -/
theorem Run.empty {A : Nat → Row} {k S d B ps} (h : Run A k S d B ps) : S = [] → B = A := by
  induction h with
  | begin => intro _; rfl
  | skip _ _ ih => exact ih
  | pivot _ _ _ => intro e; cases e
theorem Run.diag {A : Nat → Row} {k S d B ps} (h : Run A k S d B ps) : S ≠ [] → ∃ i, i < k ∧ 0 < A i i := by
  induction h with
  | begin => intro e; exact absurd rfl e
  | skip _ _ ih => intro e; obtain ⟨i, h1, h2⟩ := ih e; exact ⟨i, by omega, h2⟩
  | @pivot k S d B ps h hp ih =>
    intro _
    by_cases e : S = []
    · rw [h.empty e] at hp
      exact ⟨k, by omega, hp⟩
    · obtain ⟨i, h1, h2⟩ := ih e
      exact ⟨i, by omega, h2⟩
/-- the numbers of a point -/
def Pts (n : Nat) (x : Row) (y : Int) : Prop := ∃ i, i < n ∧ y = x i
/-- one step of settling keeps a point primitive -/
theorem sett1_prim {n k : Nat} (row x : Row) (_ : k < n) (hp : 0 < row k) (h0 : x k = 0) (h : Gcd (Pts n x) 1) {g : Int} (hg : Gcd (Pts n (sett1 n k row x)) g) (hk : k < n) : g = 1 := by
  have hG : 0 < Int.gcd (rest n k row x) (row k) := Int.gcd_pos_of_ne_zero_right _ (by omega)
  have d1 : g ∣ row k / (Int.gcd (rest n k row x) (row k) : Int) := by
    have := h.mx (row k / (Int.gcd (rest n k row x) (row k) : Int)) g (fun y ⟨i, hi, e⟩ => by
      rw [e]
      by_cases c : i = k
      · rw [c, h0, Int.mul_zero]; exact Int.dvd_zero g
      · have := hg.dv _ ⟨i, hi, rfl⟩
        unfold sett1 at this
        rwa [if_neg c] at this)
    rwa [Int.mul_one] at this
  have d2 : g ∣ rest n k row x / (Int.gcd (rest n k row x) (row k) : Int) := by
    have := hg.dv _ ⟨k, hk, rfl⟩
    unfold sett1 at this
    rw [if_pos rfl] at this
    have e : -rest n k row x / (Int.gcd (rest n k row x) (row k) : Int) = -(rest n k row x / (Int.gcd (rest n k row x) (row k) : Int)) := Int.neg_ediv_of_dvd (Int.gcd_dvd_left ..)
    rw [e] at this
    exact Int.dvd_neg.mp this
  have d3 : Int.gcd (rest n k row x / (Int.gcd (rest n k row x) (row k) : Int)) (row k / (Int.gcd (rest n k row x) (row k) : Int)) = 1 := Int.gcd_ediv_gcd_ediv_gcd hG
  have d4 := Int.dvd_coe_gcd d2 d1
  rw [d3] at d4
  have := Int.le_of_dvd (by decide) d4
  have n0 := hg.nn
  rcases (show g = 0 ∨ g = 1 by omega) with e | e
  · rw [e] at d4
    have := Int.zero_dvd.1 d4
    omega
  · exact e
/-- a settled point is primitive -/
theorem Run.prim {A : Nat → Row} {k S d B ps} (h : Run A k S d B ps) (n : Nat) (hk : k ≤ n) (gc : ∀ y : Row, ∃ g, Gcd (Pts n y) g) : ∀ x, (∀ i ∈ S, x i = 0) → Gcd (Pts n x) 1 → Gcd (Pts n (setl n ps x)) 1 := by
  induction h with
  | begin => intro x _ h; exact h
  | skip _ _ ih => exact ih (by omega)
  | @pivot k S d B ps h hp ih =>
    intro x h0 h1
    refine ih (by omega) _ (fun i hi => ?_) ?_
    · unfold sett1
      by_cases c : i = k
      · exfalso
        have : ∀ {k S d B ps}, Run A k S d B ps → ∀ i ∈ S, i < k := fun r => by
          induction r with
          | begin => simp
          | skip _ _ ih => intro i hi; have := ih i hi; omega
          | pivot _ _ ih =>
            intro i hi
            rcases List.mem_cons.1 hi with e | m
            · omega
            · have := ih i m; omega
        have := this h i hi
        omega
      · rw [if_neg c, h0 i (List.mem_cons_of_mem _ hi), Int.mul_zero]
    · obtain ⟨g, hg⟩ := gc (sett1 n k (B k) x)
      have e := sett1_prim (B k) x (by omega) hp (h0 k (List.mem_cons_self ..)) h1 hg (by omega)
      rw [e] at hg
      exact hg
theorem Gcd.one {P : Int → Prop} (h : P 1) : Gcd P 1 := ⟨by decide, fun x _ => Int.one_dvd x, fun a c hc => hc 1 h⟩
end PySem.El
namespace P10
open PySem PySem.Spec PyProof.Rows L2 SX EX WK
/-- a point behind some pivots -/
def seti (n : Nat) (ps : List El.Pv) (x : El.Row) : El.Row := ps.foldl (fun x p => El.sett1 n p.1 p.2.1 x) x
theorem seti_setl {n : Nat} : ∀ {ps : List El.Pv} {x : El.Row}, El.setl n ps x = seti n ps x
  | [], _ => rfl
  | p :: ps, x => by
    show El.setl n ps (El.sett1 n p.1 p.2.1 x) = _
    rw [seti_setl]
    rfl
theorem seti_snoc {n : Nat} {ps : List El.Pv} {i : Nat} {p : El.Pv} {x : El.Row} (h : ps[i]? = some p) : seti n (ps.take (i + 1)) x = El.sett1 n p.1 p.2.1 (seti n (ps.take i) x) := by
  unfold seti
  rw [take_one h, List.foldl_append]
  rfl
/-- the settled point -/
def setd (n : Nat) (ps : List El.Pv) (x : El.Row) : El.Row := fun i => seti n ps x i / gf 0 (vec n (seti n ps x))
theorem gf_nn {b : Int} (h : 0 ≤ b) : ∀ (ns : List Int), 0 ≤ gf b ns := fun ns => by
  unfold gf
  induction ns generalizing b with
  | nil => exact h
  | cons a l ih => exact ih (Int.natCast_nonneg _)
theorem gf_nz {ns : List Int} {m : Int} (hm : m ∈ ns) (h0 : m ≠ 0) : 0 < gf 0 ns ∧ gf 0 ns ≤ (m.natAbs : Int) := by
  have h := (gf_dvd (b := 0) ns).2 m hm
  have h1 : gf 0 ns ≠ 0 := fun e => by
    rw [e] at h
    exact h0 (Int.zero_dvd.mp h)
  have h2 := gf_nn (b := 0) (by decide) ns
  refine ⟨by omega, ?_⟩
  have := Nat.le_of_dvd (by omega) (Int.natAbs_dvd_natAbs.mpr h)
  omega
theorem ten_bound {n a b : Nat} {v : Int} (hn : n ≤ 10) (ha : 0 < a) (hb : 0 < b) (h : -((n : Int) * (a : Int) * (b : Int)) ≤ v ∧ v ≤ (n : Int) * (a : Int) * (b : Int)) : v.natAbs < 2 ^ 10 * (a * b) := by
  have e : (n : Int) * (a : Int) * (b : Int) = ((n * (a * b) : Nat) : Int) := by
    rw [Int.mul_assoc, Int.natCast_mul, Int.natCast_mul]
  rw [e] at h
  have h1 : n * (a * b) ≤ 10 * (a * b) := Nat.mul_le_mul_right _ hn
  have h2 : 0 < a * b := Nat.mul_pos ha hb
  have h3 : (2 : Nat) ^ 10 = 1024 := by decide
  rw [h3]
  omega
theorem rest_S {n k : Nat} {row x : El.Row} : El.rest n k row x = S (n - (k + 1)) fun j => row (k + 1 + j) * x (k + 1 + j) := by
  unfold El.rest
  induction n with
  | zero =>
    rw [show 0 - (k + 1) = 0 by omega]
    rfl
  | succ n ih =>
    show El.sm n _ + (if k < n then row n * x n else 0) = _
    by_cases c : k < n
    · rw [if_pos c, ih, show n + 1 - (k + 1) = (n - (k + 1)) + 1 by omega, S_succ, show k + 1 + (n - (k + 1)) = n by omega]
    · rw [if_neg c, ih, show n + 1 - (k + 1) = 0 by omega, show n - (k + 1) = 0 by omega, Int.add_zero]
theorem gf_more {ns : List Int} : ∀ {P : Int → Prop} {b : Int}, El.Gcd P b → El.Gcd (fun y => P y ∨ y ∈ ns) (gf b ns) := by
  induction ns with
  | nil => intro P b h; exact h.cong fun y => by simp
  | cons m ns ih =>
    intro P b h
    have h1 : El.Gcd (fun y => P y ∨ y = m) (gI b m) := h.more fun y => Iff.rfl
    exact (ih h1).cong fun y => by simp [or_assoc]
theorem gf_gcd {n : Nat} (x : El.Row) : El.Gcd (El.Pts n x) (gf 0 (vec n x)) := (gf_more (El.Gcd.none (P := fun _ => False) fun _ h => h)).cong fun y => by
  constructor
  · rintro ⟨i, hi, rfl⟩
    exact .inr (List.mem_map.mpr ⟨i, List.mem_range.mpr hi, rfl⟩)
  · rintro (h | h)
    · exact h.elim
    · obtain ⟨i, hi, rfl⟩ := List.mem_map.mp h
      exact ⟨i, List.mem_range.mp hi, rfl⟩
theorem gcd_one {P : Int → Prop} {g : Int} (h : El.Gcd P 1) (hg : El.Gcd P g) : g = 1 := by
  have := h.mx 1 g fun x hx => by rw [Int.one_mul]; exact hg.dv x hx
  have a := Int.le_of_dvd (by decide) this
  have b := hg.nn
  rcases (show g = 0 ∨ g = 1 by omega) with e | e
  · rw [e] at this
    have := Int.zero_dvd.1 this
    omega
  · exact e
section
variable {P : Program} {w : World} {K : PySem.W.Frag} {mg : Str → Option Value} {base : Heap} {f : Addr} {fd : FuncData} {cF cR : Addr}
def spSettled (K : PySem.W.Frag) : Sp := fun vs H Q _ => ∃ (t z : Addr) (n w : Nat) (pv : List V) (ps : List El.Pv) (x : El.Row), vs = [.ref t, .ref z] ∧ SqT K H t pv ∧ Rs (PvAt K n) H pv ps.reverse ∧ TV K H z n x ∧ n ≤ 10 ∧ ps.length ≤ 10 ∧
  (∀ p ∈ ps, p.1 < n ∧ 0 < p.2.1 p.1 ∧ ∀ j, B w (p.2.1 j)) ∧ (∀ i, B w (x i)) ∧ 0 < w ∧ w ≤ 8000 ∧ gf 0 (vec n (seti n ps x)) = 1 ∧ ∀ r H', Same H H' → TV K H' r n (setd n ps x) → Q (.ref r) H'
abbrev s_settled : Stmt := top 31
abbrev N_settled : List Str := ["pivots", "point", "numbers", "index", "row", "_", "rest", "shared", "factor", "number", "place"]
theorem sc_settled : FnScope N_settled ["pivots", "point"] (defScope s_settled) := ⟨rfl, rfl, rfl, by decide +kernel, rfl, by decide +kernel, by decide +kernel⟩
theorem ok_settled (F : Fun K "settled" "settled" s_settled f fd) (T : Txt mg) : FnOk P w K mg base CX0 1 f fd ["pivots", "point"] (spSettled K) := by
  refine F.ok sc_settled (fun vs H Q E h => ?_) (fun cdv A outer s H vs Q E hr h => ?_)
  · obtain ⟨t, z, n, w, us, ps, x, rfl, _⟩ := h
    rfl
  obtain ⟨t, z, n, w, us, ps, x, rfl, ht, rps, hx, hn, hps, hp, hxB, hw0, hw4, h9, q⟩ := h
  refine ⟨_, (pss_cons (ps_set (i := 2) sc_settled.nd rfl (Or.inr rfl) (pe_callTy call_list_of (by rfl) T.b_list (by decide +kernel) (pa_cons (pv 1) pa_nil)))
  (pss_cons (ps_for PassesOwn.never rfl (RT.pi_revA rfl T.b_reversed (pv 0)) (pg_tup rfl (pgs_cons (pg_name (i := 3) sc_settled.nd rfl (Or.inl rfl)) (pgs_cons (pg_name (i := 4) sc_settled.nd rfl (Or.inr rfl)) (pgs_cons (pg_name (i := 5) sc_settled.nd rfl (Or.inl rfl)) pgs_nil)))) (pss_cons (ps_set (i := 6) sc_settled.nd rfl (Or.inl rfl) (pe_callB (cr_sum rfl) (by rfl) T.b_sum (by decide +kernel) (pa_cons (pe_lc (own := [("place", 10)]) (g := gName 10) (tt := tYes) (by rfl) sc_settled.nd (pi_range2 (by rfl) T.b_range (pa_cons (pe_op op_add (pv 3) pe_int) (pa_cons (pe_callB call_len_seq (by rfl) T.b_len PySem.boot_len (pa_cons (pv 2) pa_nil)) pa_nil))) (blkOk_by (N := N_settled) (sc := defScope s_settled) (by decide +kernel)) (fun _ _ _ _ _ => (pg_name (i := 10) sc_settled.nd rfl (Or.inl rfl))) (fun _ _ _ _ _ => pts_nil) (fun _ _ _ _ _ => (pe_op op_mulW (pe_ix (ix_tupK (K := K) rfl) (pv 4) (pv 10) (fun _ _ => rfl)) (pe_ix (ix_listK (K := K) rfl) (pv 2) (pv 10) (fun _ _ => rfl))))) pa_nil)))
  (pss_cons (ps_set (i := 7) sc_settled.nd rfl (Or.inr rfl) (pe_callBfun cr_gcd rfl T.g_gcd (pa_cons (pv 6) (pa_cons (pe_ix ix_tup (pv 4) (pv 3) (fun _ _ => rfl)) pa_nil))))
  (pss_cons (ps_set (i := 8) sc_settled.nd rfl (Or.inr rfl) (pe_op op_fdivW (pe_ix ix_tup (pv 4) (pv 3) (fun _ _ => rfl)) (pv 7)))
  (pss_cons (ps_set (i := 2) sc_settled.nd rfl (Or.inr rfl) (pe_lc (own := [("number", 9)]) (g := gName 9) (tt := tYes) (by rfl) sc_settled.nd (pi_list (pv 2)) (blkOk_by (N := N_settled) (sc := defScope s_settled) (by decide +kernel)) (fun _ _ _ _ _ => (pg_name (i := 9) sc_settled.nd rfl (Or.inl rfl))) (fun _ _ _ _ _ => pts_nil) (fun _ _ _ _ _ => (pe_op op_mulW (pv 8) (pv 9)))))
  (pss_one (ps_asg (pe_op op_fdivW (pe_un un_neg (pv 6)) (pv 7)) (pg_sub (pv 2) (pv 3) set_list))))))))
  (pss_cons (ps_set (i := 7) sc_settled.nd rfl (Or.inr rfl) pe_int)
  (pss_cons (ps_for PassesOwn.never rfl (pi_list (pv 2)) (pg_name (i := 9) sc_settled.nd rfl (Or.inl rfl)) (pss_one (ps_set (i := 7) sc_settled.nd rfl (Or.inr rfl) (pe_callBfun cr_gcd rfl T.g_gcd (pa_cons (pv 7) (pa_cons (pv 9) pa_nil))))))
  (pss_one (ps_ret (pe_callTy call_tuple_of (by rfl) T.b_tuple (by decide +kernel) (pa_cons (pe_lc (own := [("number", 9)]) (g := gName 9) (tt := tYes) (by rfl) sc_settled.nd (pi_list (pv 2)) (blkOk_by (N := N_settled) (sc := defScope s_settled) (by decide +kernel)) (fun _ _ _ _ _ => (pg_name (i := 9) sc_settled.nd rfl (Or.inl rfl))) (fun _ _ _ _ _ => pts_nil) (fun _ _ _ _ _ => (pe_op op_fdivW (pv 9) (pv 7)))) pa_nil)))))))), ?_⟩
  refine ⟨_, rfl, z, _, rfl, .inr hx, fun N hN => ?_⟩
  have hlen : us.length = ps.length := by rw [rps.1, List.length_reverse]
  refine ⟨_, rfl, t, us, rfl, .inr ⟨Same_seqT (same_new hN _) ht, RT.for_ItvT (fun i σ H1 => ∃ (N : Addr) (v3 v4 v5 v6 v7 v8 v9 : Option V), σ = [some (.ref t), some (.ref z), some (.ref N), v3, v4, v5, v6, v7, v8, v9, none] ∧ Same H H1 ∧ H1 N = some (.lst ((vec n (seti n (ps.take i) x)).map V.int)) ∧ ∀ j, B (w + i * (w + 10)) (seti n (ps.take i) x j)) ⟨N, none, none, none, none, none, none, none, rfl, same_new hN _, upd_same, fun j => by rw [Nat.zero_mul, Nat.add_zero]; exact hxB j⟩ (fun i σ H1 ⟨N, v3, v4, v5, v6, v7, v8, v9, e, s, _⟩ => Same_seqT s ht) ?_ ?_⟩⟩
  · rintro i v σ H1 hi hv ⟨N, v3, v4, v5, v6, v7, v8, v9, rfl, sH, hNv, hyB⟩
    have hi' : i < ps.length := by omega
    have hrev : ps.reverse[us.length - 1 - i]? = some ps[i] := by
      rw [hlen, List.getElem?_reverse (by omega), show ps.length - 1 - (ps.length - 1 - i) = i by omega, List.getElem?_eq_getElem hi']
    obtain ⟨tp, r, rfl, htp, hr2⟩ := rps.2 _ _ _ hv hrev
    obtain ⟨hk, hpos, hrB⟩ := hp _ (List.getElem_mem hi')
    have hsn := seti_snoc (n := n) (x := x) (List.getElem?_eq_getElem hi')
    generalize ps[i] = p at *
    obtain ⟨k, row, sc⟩ := p
    generalize seti n (ps.take i) x = y at *
    have hexp : w + (w + i * (w + 10)) ≤ 1000000 := by
      have : i * (w + 10) ≤ 10 * 8010 := Nat.mul_le_mul (by omega) (by omega)
      omega
    have hr3 : SqT K H1 r ((vec n row).map V.int) := Same_seqT sH hr2
    refine ⟨tp, _, rfl, Same_seqT sH htp, rfl, _, _, rfl, _, _, rfl, _, _, rfl, rfl, ?_⟩
    refine ⟨_, rfl, _, _, rfl, rfl, _, rfl, _, _, rfl, .inl (SqL.of hNv), (k : Int) + 1, (n : Int), by rw [vec_lenV], ⟨by omega, by omega, by omega, by omega⟩, fun D hD => ?_⟩
    refine lc_m (walk_range (lo := (k : Int) + 1) (n := ((n : Int) - ((k : Int) + 1)).toNat)) RI (stb_RI (K := K)) (List.range (n - (k + 1))) (by rw [List.length_range]; omega) (by rw [List.length_range]; omega) hD (fun _ _ => trivial) (fun _ _ _ _ => ys_fn) (fun j => row (k + 1 + j) * y (k + 1 + j)) (fun c j v H2 H3 hc s1 s2 yl A B hA => ?_) (fun H2 l1 s1 hl1 rz => ?_)
    · obtain ⟨hc1, rfl⟩ := in_range hc
      rw [yl.2]
      have ec : ((k : Int) + 1 + (j : Int)).toNat = k + 1 + j := by omega
      refine ⟨rfl, lc_yes ⟨_, rfl, _, rfl, r, _, _, _, rfl, rfl, Same_seqT s2 hr3, at_pos (by omega) (by rw [ec]; exact vecV_at (by omega)), _, rfl, _, rfl, N, _, _, _, rfl, rfl, SqL.of (s2 _ _ hNv), at_pos (by omega) (by rw [ec]; exact vecV_at (by omega)), _, _, rfl, rfl, wmul (hrB _) (hyB _) hw0 (by omega) ?_, hA _ _ (fun _ _ h => h) rfl⟩⟩
      exact hexp
    · have hs : ((List.range (n - (k + 1))).map fun j => row (k + 1 + j) * y (k + 1 + j)).sum = El.rest n k row y := rest_S.symm
      have hl1' : H2 D = some (.lst (((List.range (n - (k + 1))).map fun j => row (k + 1 + j) * y (k + 1 + j)).map V.int)) := by rw [hl1, rz.ints]
      refine ⟨D, _, rfl, SqL.of hl1', ?_⟩
      rw [hs]
      have hr4 : SqT K H2 r ((vec n row).map V.int) := Same_seqT s1 hr3
      have hkk : atI ((vec n row).map V.int) (k : Int) = some (.int (row k)) := at_pos (by omega) (by rw [Int.toNat_natCast]; exact vecV_at hk)
      have hg0 : (0 : Int) < ((Nat.gcd (El.rest n k row y).natAbs (row k).natAbs : Nat) : Int) := by
        have : 0 < Nat.gcd (El.rest n k row y).natAbs (row k).natAbs := Nat.gcd_pos_of_pos_right _ (by have := hpos; simp only at this; omega)
        omega
      have hgB : B w ((Nat.gcd (El.rest n k row y).natAbs (row k).natAbs : Nat) : Int) := by
        have h1 : Nat.gcd (El.rest n k row y).natAbs (row k).natAbs ≤ (row k).natAbs := Nat.le_of_dvd (by have := hpos; simp only at this; omega) (Nat.gcd_dvd_right _ _)
        have h2 : (row k).natAbs < 2 ^ w := hrB k
        show Int.natAbs _ < 2 ^ w
        rw [Int.natAbs_natCast]
        omega
      refine ⟨_, rfl, _, rfl, _, rfl, r, _, _, _, rfl, rfl, hr4, hkk, _, _, rfl, ?_⟩
      refine ⟨_, rfl, _, rfl, r, _, _, _, rfl, rfl, hr4, hkk, _, rfl, _, _, rfl, rfl, wdiv hg0 hgB hw0 (by omega), ?_⟩
      refine ⟨_, rfl, N, rfl, ⟨_, SqL.of (s1 _ _ hNv)⟩, fun D2 hD2 => ?_⟩
      generalize hgg : ((Nat.gcd (El.rest n k row y).natAbs (row k).natAbs : Nat) : Int) = g at *
      refine lc_m (walk_list (K := K) (a := N) (xs := (vec n y).map V.int)) RI (stb_RI (K := K)) (List.range n) (by rw [vec_lenV, List.length_range]) (by rw [List.length_range]; omega) hD2 (fun H' s => s.seq (SqL.of (s1 _ _ hNv))) (fun _ _ _ _ => ys_at) (fun j => row k / g * y j) (fun c j v H3 H4 hc s3 s4 yl A B hA => ?_) (fun H3 l3 s3 hl3 rz3 => ?_)
      · obtain ⟨hc1, rfl⟩ := in_range hc
        have e := yl.2
        rw [vecV_at hc1] at e
        cases e
        exact ⟨rfl, lc_yes ⟨_, rfl, _, rfl, _, _, rfl, rfl, wmul (P10.B.div hg0 (hrB k)) (hyB _) hw0 (by omega) hexp, hA _ _ (fun _ _ h => h) rfl⟩⟩
      · have hl3' : H3 D2 = some (.lst ((vec n fun j => row k / g * y j).map V.int)) := by rw [hl3, rz3.ints]; rfl
        refine ⟨_, rfl, _, rfl, _, rfl, _, _, rfl, rfl, wdiv hg0 hgB hw0 (by omega), _, rfl, _, rfl, D2, _, _, k, rfl, rfl, hl3', by rw [vec_lenV]; unfold ixN; rw [if_pos (by omega), if_pos (by omega)]; congr 1, ?_⟩
        have sN : Same H (upd H3 D2 (.lst (((vec n fun j => row k / g * y j).map V.int).set k (.int (-El.rest n k row y / g))))) := same_at (sH.trans (s1.trans s3)) ((sH.trans s1).free hD2)
        refine ⟨D2, _, _, _, _, _, _, _, rfl, sN, ?_, fun j => ?_⟩
        · rw [upd_same, vec_set hk, hsn]
          congr 3
          refine vec_congr fun b _ => ?_
          show _ = El.sett1 n k row y b
          unfold El.sett1
          rw [show (Int.gcd (El.rest n k row y) (row k) : Int) = g from hgg]
        · rw [hsn]
          have hb := El.sett1_bound (n := n) (k := k) row y (R := 2 ^ w) (X := 2 ^ (w + i * (w + 10))) hk hpos (fun j => by
            have h : (row j).natAbs < 2 ^ w := hrB j
            have : (((2 : Nat) ^ w : Nat) : Int) = (2 : Int) ^ w := by norm_cast
            omega) (fun j => by
            have h : (y j).natAbs < 2 ^ (w + i * (w + 10)) := hyB j
            have : (((2 : Nat) ^ (w + i * (w + 10)) : Nat) : Int) = (2 : Int) ^ (w + i * (w + 10)) := by norm_cast
            omega) j
          have hR : (((2 : Nat) ^ w : Nat) : Int) = (2 : Int) ^ w := by norm_cast
          have hX : (((2 : Nat) ^ (w + i * (w + 10)) : Nat) : Int) = (2 : Int) ^ (w + i * (w + 10)) := by norm_cast
          rw [← hR, ← hX] at hb
          show (El.sett1 n k row y j).natAbs < 2 ^ (w + (i + 1) * (w + 10))
          have e1 : w + (i + 1) * (w + 10) = 10 + (w + (w + i * (w + 10))) := by
            rw [Nat.add_mul]
            omega
          rw [e1, Nat.pow_add, Nat.pow_add 2 w]
          exact ten_bound hn (Nat.two_pow_pos _) (Nat.two_pow_pos _) hb
  · rintro σ H1 ⟨N, v3, v4, v5, v6, v7, v8, v9, rfl, sH, hNv, hyB⟩
    rw [hlen, List.take_length] at hNv
    obtain ⟨y, hy⟩ : ∃ y, y = seti n ps x := ⟨_, rfl⟩
    have hd : setd n ps x = fun i => y i / gf 0 (vec n y) := by rw [hy]; rfl
    rw [← hy] at hNv h9
    have hg : 0 < gf 0 (vec n y) := by rw [h9]; decide
    have hgB : B 9000 (gf 0 (vec n y)) := by
      rw [h9]
      exact Nat.one_lt_two_pow (by decide)
    refine ⟨_, rfl, N, rfl, ⟨_, SqL.of hNv⟩, for_list (K := K) (a := N) (xs := (vec n y).map V.int) (fun i σ H' => ∃ v9 : Option V, σ = [some (.ref t), some (.ref z), some (.ref N), v3, v4, v5, v6, some (.int (gf 0 ((vec n y).take i))), v8, v9, none] ∧ H' = H1) ⟨v9, rfl, rfl⟩ (fun i σ H' _ ⟨_, _, e⟩ => by rw [e]; exact SqL.of hNv) ?_ ?_⟩
    · rintro i v σ H' hi ⟨v9, rfl, rfl⟩
      obtain ⟨m, hmi, rfl⟩ := ints_at hi
      refine ⟨_, rfl, _, rfl, _, _, rfl, some (V.int m), ?_, rfl⟩
      rw [take_one hmi, gf_snoc]
      rfl
    · rintro σ H' ⟨v9, rfl, rfl⟩
      rw [List.length_map, List.take_length]
      refine ⟨_, rfl, N, rfl, ⟨_, SqL.of hNv⟩, fun D hD => ?_⟩
      refine lc_m (walk_list (K := K) (a := N) (xs := (vec n y).map V.int)) RI (stb_RI (K := K)) (List.range n) (by rw [vec_lenV, List.length_range]) (by rw [List.length_range]; omega) hD (fun H' s => s.seq (SqL.of hNv)) (fun _ _ _ _ => ys_at) (fun j => y j / gf 0 (vec n y)) (fun c j v H3 H4 hc s3 s4 yl A B hA => ?_) (fun H2 l1 s1 hl1 rz => ?_)
      · obtain ⟨hc1, rfl⟩ := in_range hc
        have e := yl.2
        rw [vecV_at hc1] at e
        cases e
        exact ⟨rfl, lc_yes ⟨_, rfl, _, rfl, _, _, rfl, rfl, wdiv hg hgB (by decide) (by decide), hA _ _ (fun _ _ h => h) rfl⟩⟩
      · refine ⟨D, l1, rfl, .inl ⟨SqL.of hl1, fun u hu => ?_⟩⟩
        refine q u _ (sH.trans (s1.trans (same_new hu _))) ?_
        unfold TV
        rw [hd, ← show l1 = (vec n fun i => y i / gf 0 (vec n y)).map V.int from rz.ints]
        exact SqT.of upd_same
end
end P10
namespace P10
open PySem PySem.Spec PyProof.Rows L2 SX EX WK
theorem made_same {H1 H5 : Hp} {x dx : Addr} {o : HO} (h1 : H1 x = none) (h2 : H1 dx = none) (hb : But x (upd (upd H1 dx (.own x)) x o) H5) : Same H1 H5 := fun c u e => by
  have c1 : c ≠ x := fun z => by rw [z, h1] at e; cases e
  have c2 : c ≠ dx := fun z => by rw [z, h2] at e; cases e
  exact hb c u (by rw [upd_ne c1, upd_ne c2]; exact e) c1
/-- the sizes at which a form is judged -/
structure JOk (n w : Nat) (bd : Int) (M : Nat → Nat → Int) : Prop where
  n10 : n ≤ 10
  whole : Whole n M
  bd1 : 1 ≤ bd
  abs : ∀ i j, -bd ≤ M i j ∧ M i j ≤ bd
  bB : B w (El.bnd bd n)
  w0 : 0 < w
  w1 : w ≤ 4475
theorem JOk.piv {n w : Nat} {bd : Int} {M : Nat → Nat → Int} (h : JOk n w bd M) {k : Nat} {S : List Nat} {d : Int} {B' : Nat → Nat → Int} {ps : List El.Pv} (r : El.Run M k S d B' ps) (hk : k ≤ n) : ∀ p ∈ ps, p.1 < n ∧ 0 < p.2.1 p.1 ∧ (∀ j, B w (p.2.1 j)) ∧ 0 < p.2.2 ∧ B 9000 p.2.2 := fun p hp => by
  have q := r.pivots h.whole.sym bd h.bd1 h.abs p hp
  have hlt : p.1 < n := Nat.lt_of_lt_of_le q.small hk
  have m1 := El.bnd_mono h.bd1 (show p.1 + 1 ≤ n by omega)
  have m0 := El.bnd_mono h.bd1 (show p.1 ≤ n by omega)
  have p0 := El.bnd_pos h.bd1 p.1
  have p1 := El.bnd_pos h.bd1 (p.1 + 1)
  have hw : (El.bnd bd n).natAbs < 2 ^ w := h.bB
  refine ⟨hlt, q.pos, fun j => ?_, q.spos, ?_⟩
  · have a := q.row j
    show (p.2.1 j).natAbs < 2 ^ w
    omega
  · have a := q.scale
    have b := q.spos
    have c : El.bnd bd p.1 * El.bnd bd (p.1 + 1) ≤ El.bnd bd n * El.bnd bd n := Int.mul_le_mul m0 m1 (by omega) (by omega)
    show p.2.2.natAbs < 2 ^ 9000
    have e : p.2.2.natAbs ≤ (El.bnd bd n).natAbs * (El.bnd bd n).natAbs := by
      rw [← Int.natAbs_mul]
      omega
    have f : (El.bnd bd n).natAbs * (El.bnd bd n).natAbs < 2 ^ w * 2 ^ w := Nat.mul_lt_mul'' hw hw
    rw [← Nat.pow_add] at f
    have g : (2 : Nat) ^ (w + w) ≤ 2 ^ 9000 := Nat.pow_le_pow_right (by decide) (by have := h.w1; omega)
    exact Nat.lt_of_lt_of_le (Nat.lt_of_le_of_lt e f) g
theorem JOk.bad {n w : Nat} {bd : Int} {M : Nat → Nat → Int} (h : JOk n w bd M) {k : Nat} {S : List Nat} {d : Int} {B' : Nat → Nat → Int} {ps : List El.Pv} (r : El.Run M k S d B' ps) (hk : k < n) {x : El.Row} (bad : BadAt n k B' x) :
    (∀ i, B (w + 1) (x i)) ∧ gf 0 (vec n (seti n ps x)) = 1 := by
  obtain ⟨hB, _, _⟩ := run_bound h.whole h.bd1 h.abs h.bB r hk
  have two : 1 ≤ 2 ^ w := Nat.one_le_two_pow
  have facts : (∀ i, (x i).natAbs ≤ 2 ^ w) ∧ (∃ i, i < n ∧ x i = 1) ∧ ∀ i, i < k → x i = 0 := by
    rcases bad with ⟨_, rfl⟩ | ⟨_, p, hp, hpn, _, _, rfl⟩
    · refine ⟨fun i => ?_, ⟨k, hk, if_pos rfl⟩, fun i hi => ?_⟩
      · unfold El.unitP
        split
        · exact two
        · exact Nat.zero_le _
      · unfold El.unitP
        rw [if_neg (by omega)]
    · refine ⟨fun i => ?_, ⟨p, hpn, ?_⟩, fun i hi => ?_⟩
      · have hb : (B' p p).natAbs < 2 ^ w := hB p p
        unfold El.sideP
        have ha : (amt k p B').natAbs ≤ 2 ^ w := by
          unfold amt
          split <;> omega
        by_cases c1 : i = k
        · rw [if_pos c1, if_neg (by omega)]
          omega
        · rw [if_neg c1]
          split <;> omega
      · unfold El.sideP
        rw [if_neg (by omega), if_pos rfl]
        omega
      · unfold El.sideP
        rw [if_neg (by omega), if_neg (by omega)]
        omega
  obtain ⟨f1, ⟨i0, hi, hx1⟩, f0⟩ := facts
  have f2 : ∀ i, (x i).natAbs < 2 ^ (w + 1) := fun i => by
    have := f1 i
    rw [Nat.pow_succ]
    omega
  refine ⟨f2, gcd_one ?_ (gf_gcd _)⟩
  rw [← seti_setl]
  exact r.prim n (by omega) (fun y => ⟨_, gf_gcd y⟩) x (fun i hm => f0 i ((r.inv h.whole.sym).small i hm)) (El.Gcd.one ⟨i0, hi, hx1.symm⟩)
end P10
namespace P10
open PySem PySem.Spec PyProof.Rows L2 SX EX WK
theorem FormAt.same {K : PySem.W.Frag} {H H' : Hp} {C p : Addr} {n : Nat} {m : List (List Int)} {b : Int} (h : FormAt K H C p n m b) (s : Same H H') : FormAt K H' C p n m b := let ⟨dx, e, h1, h2⟩ := h; ⟨dx, e, s _ _ h1, h2.tk (WK.Same.tk s)⟩
/-- the errors of the text -/
structure Err (K : PySem.W.Frag) (mg : Str → Option Value) (cF cB cN cC cT cS cZ fB : Addr) : Prop where
  g_Form : mg "Form" = some (.ref cF)
  g_BelowZero : mg "BelowZero" = some (.ref cB)
  g_NoSolution : mg "NoSolution" = some (.ref cN)
  g_CableError : mg "CableError" = some (.ref cC)
  g_TooNear : mg "TooNear" = some (.ref cT)
  g_SizesDiffer : mg "SizesDiffer" = some (.ref cS)
  g_ZeroBottom : mg "ZeroBottom" = some (.ref cZ)
  o_BelowZero : OexC K cB
  i_BelowZero : PySem.W.findIn K (.ref cB) "__init__" = some (some (.ref fB))
  t_BelowZero : PySem.W.typeIn K (.ref fB) = some (.type "function")
  xB : XCls K cB
  no_BelowZero_point : PySem.W.findIn K (.ref cB) "point" = some none
  eBC : PySem.W.exmOne K (.ref cB) (.ref cC) = some true
  kBV : PySem.W.kitOne K (.ref cB) (.type "ValueError") = some true
  kBT : PySem.W.kitOne K (.ref cB) (.ref cT) = some false
  kBS : PySem.W.kitOne K (.ref cB) (.ref cS) = some false
  kBB : PySem.W.kitOne K (.ref cB) (.ref cB) = some true
  kBN : PySem.W.kitOne K (.ref cB) (.ref cN) = some false
  kBZ : PySem.W.kitOne K (.ref cB) (.ref cZ) = some false
section
variable {K : PySem.W.Frag} {mg : Str → Option Value} {cF cB cN cC cT cS cZ fB : Addr}
theorem Err.x_BelowZero (U : Err K mg cF cB cN cC cT cS cZ fB) : XfC K cB := U.xB.xf
end
/-- a point where the table M is below 0 -/
def Below (K : PySem.W.Frag) (H : Hp) (n : Nat) (M : Nat → El.Row) (z : Addr) : Prop := ∃ (k : Nat) (S : List Nat) (d : Int) (B' : Nat → El.Row) (ps : List El.Pv) (x : El.Row), k < n ∧ El.Run M k S d B' ps ∧ BadAt n k B' x ∧ TV K H z n (setd n ps x)
theorem Below.same {K : PySem.W.Frag} {H H' : Hp} {n : Nat} {M : Nat → El.Row} {z : Addr} (s : Same H H') (h : Below K H n M z) : Below K H' n M z := let ⟨k, S, d, B', ps, x, h1, h2, h3, h4⟩ := h; ⟨k, S, d, B', ps, x, h1, h2, h3, Same_seqT s h4⟩
/-- what is raised of a table below 0, and of two sizes -/
def BelX (K : PySem.W.Frag) (cB : Addr) (n : Nat) (M : Nat → El.Row) (H : Hp) (E : XK) : Prop := ∀ (z d : Addr) H', Same H H' → Below K H' n M z → H' d = some (.xd [("point", .ref z)]) → E (.ref cB) (some d) H'
theorem BelX.same {K : PySem.W.Frag} {cB : Addr} {n : Nat} {M : Nat → El.Row} {H H' : Hp} {E : XK} (h : BelX K cB n M H E) (s : Same H H') : BelX K cB n M H' E := fun z d H2 s2 => h z d H2 (s.trans s2)
section
variable {P : Program} {w : World} {K : PySem.W.Frag} {mg : Str → Option Value} {base : Heap} {f : Addr} {fd : FuncData} {cR cF cB cN cC cT cS cZ fB : Addr} {fdB fdN : FuncData}
def spInitP (K : PySem.W.Frag) (C : Addr) : Sp := fun vs H Q _ => ∃ (a z : Addr) (us : List V), vs = [.ref a, .ref z] ∧ SqT K H z us ∧ H a = some (exo a C none) ∧ ∀ dx, H dx = none → dx ≠ a → Q .non (upd (upd H dx (exd dx [("point", .ref z)])) a (exo a C (some dx)))
abbrev s_iBZ : Stmt := mth 8 0
abbrev N_iBZ : List Str := ["self", "point"]
theorem sc_iBZ : FnScope N_iBZ ["self", "point"] (defScope s_iBZ) := ⟨rfl, rfl, rfl, by decide +kernel, rfl, by decide +kernel, by decide +kernel⟩
theorem ok_iBZ (F : Fun K "__init__" "BelowZero.__init__" s_iBZ f fd) (T : Txt mg) (U : Err K mg cF cB cN cC cT cS cZ fB) : FnOk P w K mg base CX0 1 f fd ["self", "point"] (spInitP K cB) := by
  refine F.ok sc_iBZ (fun vs H Q E h => ?_) (fun cdv A outer s H vs Q E hr h => ?_)
  · obtain ⟨a, z, us, rfl, _⟩ := h
    rfl
  obtain ⟨a, z, us, rfl, hz, ha, q⟩ := h
  refine ⟨_, (pss_one (ps_ost (pv 0) (pe_callTy call_tuple_of (by rfl) T.b_tuple (by decide +kernel) (pa_cons (pv 1) pa_nil)))), ?_⟩
  refine ⟨_, rfl, z, _, rfl, .inr ⟨hz, ?_⟩⟩
  exact ⟨_, rfl, a, cB, rfl, U.o_BelowZero, U.no_BelowZero_point, .inl ⟨ha, q⟩⟩
def spChecked (K : PySem.W.Frag) (cF cB : Addr) : Sp := fun vs H Q E => ∃ (p : Addr) (n w : Nat) (b bd : Int) (M : Nat → Nat → Int), vs = [.ref p] ∧ FormAt K H cF p n (mat n M) b ∧ JOk n w bd M ∧
  (∀ t us H' S d B' ps, Same H H' → El.Run M n S d B' ps → SqT K H' t us → Rs (PvAt K n) H' us ps.reverse → Q (.ref t) H') ∧ BelX K cB n M H E
abbrev s_checked : Stmt := top 33
abbrev N_checked : List Str := ["form", "pivots", "point"]
theorem sc_checked : FnScope N_checked ["form"] (defScope s_checked) := ⟨rfl, rfl, rfl, by decide +kernel, rfl, by decide +kernel, by decide +kernel⟩
theorem ok_checked (F : Fun K "checked" "checked" s_checked f fd) (T : Txt mg) (U : Err K mg cF cB cN cC cT cS cZ fB) (O : Obs K cF cR) (IN_BelowZero : FnOk P w K mg base CX0 1 fB fdB ["self", "point"] (spInitP K cB)) (B_BelowZero : Binds K fdB ["self", "point"] []) (C_eliminated : Cal P w K mg base 3 "eliminated" ["entries"] (spElim K)) (C_settled : Cal P w K mg base 1 "settled" ["pivots", "point"] (spSettled K)) : FnOk P w K mg base (L2N.CX P w) 5 f fd ["form"] (spChecked K cF cB) := by
  refine okR F sc_checked (fun vs H Q E h => ?_) (fun cdv A outer s H vs Q E hr h => ?_)
  · obtain ⟨p, n, w, b, bd, M, rfl, _⟩ := h
    rfl
  obtain ⟨p, n, w, b, bd, M, rfl, ⟨dx, e, hf, hz⟩, jo, q1, q2⟩ := h
  refine ⟨_, (pss_cons (ps_asg (pe_cal C_eliminated (hr.mono (by omega)) rfl (pa_cons (pe_fld (pv 0) rfl) pa_nil)) (pg_tup rfl (pgs_cons (pg_name (i := 1) sc_checked.nd rfl (Or.inl rfl)) (pgs_cons (pg_name (i := 2) sc_checked.nd rfl (Or.inl rfl)) pgs_nil))))
  (pss_cons (ps_if (pt_cmpR op_notN (pv 2) pe_non (nomark _)) (pss_one (L2N.ps_raise rfl (L2N.takes_of rfl rfl rfl rfl) (pmkI U.o_BelowZero U.i_BelowZero U.t_BelowZero IN_BelowZero (hr.mono (by omega)) B_BelowZero passN rfl U.g_BelowZero (pa_cons (pe_cal C_settled (hr.mono (by omega)) rfl (pa_cons (pv 1) (pa_cons (pv 2) pa_nil))) pa_nil)))) pss_nil)
  (pss_one (ps_ret (pv 1))))), ?_⟩
  refine ⟨_, rfl, p, cF, dx, _, _, rfl, hf, O.clF, O.F_entries, rfl, _, n, w, bd, M, rfl, hz, by have := jo.n10; omega, jo.whole, jo.bd1, jo.abs, jo.bB, jo.w0, by have := jo.w1; omega, fun r t us H1 S d B' ps s1 run hr1 ht1 rps => ?_, fun r t z us H1 k S d B' ps x s1 hk run bad hr1 ht1 rps htv => ?_⟩
  · refine ⟨r, _, rfl, hr1, rfl, _, _, rfl, _, _, rfl, rfl, ?_⟩
    refine ⟨_, rfl, rfl, _, rfl, ifF (by rw [decide_eq_true rfl]; rfl) ⟨_, rfl, ?_⟩⟩
    exact q1 t us H1 S d B' ps s1 run ht1 rps
  · refine ⟨r, _, rfl, hr1, rfl, _, _, rfl, _, _, rfl, rfl, ?_⟩
    refine ⟨_, rfl, rfl, _, rfl, ifT (by rw [decide_eq_false (fun e => by cases e)]; rfl) ?_⟩
    obtain ⟨hxB, hi0⟩ := jo.bad run hk bad
    refine ⟨_, rfl, _, rfl, t, z, n, w + 1, us, ps, x, rfl, ht1, rps, htv, jo.n10, ?_, fun p hp => ?_, hxB, by omega, by have := jo.w1; omega, hi0, fun r3 H3 s3 hv => ?_⟩
    · have := run.many
      have l := run.leads
      rw [← List.length_map (as := ps) (f := (·.1)), l]
      have := jo.n10
      omega
    · obtain ⟨g1, g2, g3, _⟩ := jo.piv run (by omega) p hp
      exact ⟨g1, g2, fun j => (g3 j).mono (by omega)⟩
    · refine ⟨by show 1 ≤ 1000; decide, fun a ha => ?_⟩
      refine ⟨a, r3, _, rfl, Same_seqT (same_new ha _) hv, upd_same, fun dx hdx hne => ⟨rfl, dx, [("point", V.ref r3)], upd_same, ?_, ?_, ?_⟩⟩
      · rw [upd_ne hne, upd_same]
      · have := hdx
        rw [upd_ne hne] at this
        exact this
      · have key : ∀ H5, Same H3 H5 → H5 dx = some (.xd [("point", V.ref r3)]) → E (.ref cB) (some dx) H5 := fun H5 sx e => q2 r3 dx H5 (s1.trans (s3.trans sx)) ⟨k, S, d, B', ps, x, hk, run, bad, Same_seqT sx hv⟩ e
        refine key _ (fun b o e => ?_) upd_same
        have h1 : b ≠ a := ne_of_none e ha
        have h2 : b ≠ dx := ne_of_none e (by
          have := hdx
          rw [upd_ne hne] at this
          exact this)
        rw [upd_ne h2, del_ne h1, upd_ne h1, upd_ne h2, upd_ne h1]
        exact e
end
end P10
namespace P10
open PySem PySem.Spec PyProof.Rows L2 SX EX WK
theorem stb_PvAt' {K : PySem.W.Frag} {n : Nat} {H H' : Hp} {vs : List V} {ps : List El.Pv} (h : Rs (PvAt K n) H vs ps) (s : Same H H') : Rs (PvAt K n) H' vs ps := h.tk stb_PvAt fun _ _ h => Same_seqT s h
section
variable {P : Program} {w : World} {K : PySem.W.Frag} {mg : Str → Option Value} {base : Heap} {f : Addr} {fd : FuncData} {cF cR cB cN cC cT cS fB fN : Addr} {fdB fdN : FuncData}
def spLeadsF (K : PySem.W.Frag) (cF cB : Addr) : Sp := fun vs H Q E => ∃ (p : Addr) (n w : Nat) (b bd : Int) (M : Nat → Nat → Int), vs = [.ref p] ∧ FormAt K H cF p n (mat n M) b ∧ JOk n w bd M ∧
  (∀ t H' S d B' ps, Same H H' → El.Run M n S d B' ps → SqT K H' t ((ps.reverse.map fun p => (p.1 : Int)).map V.int) → Q (.ref t) H') ∧ BelX K cB n M H E
abbrev s_leads : Stmt := top 34
abbrev N_leads : List Str := ["form", "pivot"]
theorem sc_leads : FnScope N_leads ["form"] (defScope s_leads) := ⟨rfl, rfl, rfl, by decide +kernel, rfl, by decide +kernel, by decide +kernel⟩
theorem ok_leads (F : Fun K "leads" "leads" s_leads f fd) (T : Txt mg) (C_checked : CalX P w K mg base 5 "checked" ["form"] (spChecked K cF cB)) : FnOk P w K mg base (L2N.CX P w) 6 f fd ["form"] (spLeadsF K cF cB) := by
  refine okR F sc_leads (fun vs H Q E h => ?_) (fun cdv A outer s H vs Q E hr h => ?_)
  · obtain ⟨p, n, w, b, bd, M, rfl, _⟩ := h
    rfl
  obtain ⟨p, n, w, b, bd, M, rfl, hF, jo, q1, q2⟩ := h
  refine ⟨_, (pss_one (ps_ret (pe_callTy call_tuple_of (by rfl) T.b_tuple (by decide +kernel) (pa_cons (pe_lc (own := [("pivot", 1)]) (g := gName 1) (tt := tYes) (by rfl) sc_leads.nd (pi_tup (pe_calX C_checked (hr.mono (by omega)) rfl (L2N.takes_of rfl rfl rfl rfl) (pa_cons (pv 0) pa_nil))) (blkOk_by (N := N_leads) (sc := defScope s_leads) (by decide +kernel)) (fun _ _ _ _ _ => (pg_name (i := 1) sc_leads.nd rfl (Or.inl rfl))) (fun _ _ _ _ _ => pts_nil) (fun _ _ _ _ _ => (pe_ix (ix_tupK (K := K) rfl) (pv 1) pe_int (fun _ _ => rfl)))) pa_nil)))), ?_⟩
  refine ⟨_, rfl, p, n, w, b, bd, M, rfl, hF, jo, fun t us H1 S d B' ps s1 run ht rps => ?_, q2⟩
  refine ⟨t, rfl, ⟨_, ht⟩, fun D hD => ?_⟩
  have hlen : ps.reverse.length ≤ n := by
    have := run.many
    rw [← run.leads, List.length_map] at this
    rw [List.length_reverse]
    exact this
  have n10 := jo.n10
  refine lc_m (walk_tup (K := K) (a := t) (xs := us)) RI (stb_RI (K := K)) ps.reverse (by rw [rps.1]) (by omega) hD (fun H' s => Same_seqT s ht) (fun _ _ _ _ => ys_at) (fun p => (p.1 : Int)) (fun c p' v H2 H3 hc s2 s3 yl A B hA => ?_) (fun H2 l1 s2 hl1 rz => ?_)
  · obtain ⟨q1', q2', rfl, hq, _⟩ := rps.2 _ _ _ yl.2 hc
    exact ⟨rfl, lc_yes ⟨_, rfl, q1', _, 0, _, rfl, rfl, Same_seqT s3 hq, at_pos (by decide) rfl, hA _ _ (fun _ _ h => h) rfl⟩⟩
  · refine ⟨D, l1, rfl, .inl ⟨SqL.of hl1, fun u hu => ?_⟩⟩
    refine q1 u _ S d B' ps (s1.trans (s2.trans (same_new hu _))) run ?_
    rw [← rz.ints]
    exact SqT.of upd_same
end
end P10
namespace PySem.El
/-- indexes below a, the newest first -/
def rs (a : Nat) : List Nat := (List.range a).reverse
theorem rs_succ (a : Nat) : rs (a + 1) = a :: rs a := by
  unfold rs
  rw [List.range_succ, List.reverse_append]
  rfl
theorem mem_rs {a s : Nat} : s ∈ rs a ↔ s < a := by
  unfold rs
  rw [List.mem_reverse, List.mem_range]
theorem rs_length (a : Nat) : (rs a).length = a := by
  unfold rs
  rw [List.length_reverse, List.length_range]
/-- a block of a table beside further columns -/
def Au (A : Nat → Row) (l : Nat → Nat) (r : Nat) (C : Nat → Row) : Nat → Row := fun i j =>
  if i < r then (if j < r then A (l i) (l j) else C i (j - r)) else (if j < r then C j (i - r) else 0)
theorem Au_sym {A : Nat → Row} (hA : ∀ i j, A i j = A j i) (l : Nat → Nat) (r : Nat) (C : Nat → Row) : ∀ i j, Au A l r C i j = Au A l r C j i := fun i j => by
  unfold Au
  by_cases c1 : i < r <;> by_cases c2 : j < r <;> simp [c1, c2, hA]
theorem Run.aug {A : Nat → Row} {k S d B ps} (h : Run A k S d B ps) (l : Nat → Nat) (r : Nat) (C : Nat → Row) (hl : ∀ i j, i < j → j < r → l i < l j) :
    ∀ a, a ≤ r → S = (rs a).map l → ∃ B' ps', Run (Au A l r C) a (rs a) d B' ps' ∧ ∀ i j, a ≤ i → i < r → a ≤ j → j < r → B' i j = B (l i) (l j) := by
  induction h with
  | begin =>
    intro a _ e
    have h0 : a = 0 := by
      have := congrArg List.length e
      rw [List.length_map, rs_length] at this
      exact this.symm
    subst h0
    refine ⟨Au A l r C, [], .begin, fun i j _ hi _ hj => ?_⟩
    unfold Au
    rw [if_pos hi, if_pos hj]
  | skip _ _ ih => exact ih
  | @pivot k S d B ps h hp ih =>
    intro a ha e
    cases a with
    | zero => cases e
    | succ a =>
      rw [rs_succ, List.map_cons] at e
      have e1 := (List.cons.inj e).1
      have e2 := (List.cons.inj e).2
      obtain ⟨B', ps', run', hB⟩ := ih a (by omega) e2
      have hk : B' a a = B k k := by rw [hB a a (by omega) (by omega) (by omega) (by omega), e1]
      have hp' : 0 < B' a a := by rw [hk]; exact hp
      have := run'.pivot hp'
      rw [← rs_succ] at this
      refine ⟨_, _, by rw [← hk]; exact this, fun i j hi hir hj hjr => ?_⟩
      unfold redu
      rw [if_pos ⟨by omega, by omega⟩, if_pos ⟨by rw [e1]; exact hl a i (by omega) hir, by rw [e1]; exact hl a j (by omega) hjr⟩, hk]
      rw [hB i j (by omega) hir (by omega) hjr, hB a i (by omega) (by omega) (by omega) hir, hB a j (by omega) (by omega) (by omega) hjr, e1]
/-- a sum over a list of indexes -/
theorem sm_rs (r : Nat) (f : Nat → Int) : ((rs r).map f).sum = sm r f := by
  induction r with
  | zero => rfl
  | succ r ih =>
    rw [rs_succ, List.map_cons, List.sum_cons, ih]
    show _ = sm r f + f r
    omega
/-- what spans is told by the unit columns -/
theorem Sp.unit {M : Nat → Row} {r : Nat} (hu : ∀ s t, s < r → t < r → M s (r + t) = if s = t then 1 else 0) {w : Row} (h : Sp ((rs r).map M) w) : ∀ x, w x = sm r fun s => w (r + s) * M s x := by
  induction h with
  | zero => intro x; simp [sm_zero]
  | add w k v _ hv ih =>
    intro x
    obtain ⟨t, ht, rfl⟩ := List.mem_map.1 hv
    have htr := mem_rs.1 ht
    show w x + k * M t x = sm r fun s => (w (r + s) + k * M t (r + s)) * M s x
    rw [ih x]
    have e : (sm r fun s => (w (r + s) + k * M t (r + s)) * M s x) = (sm r fun s => w (r + s) * M s x) + sm r fun s => if s = t then k * M s x else 0 := by
      rw [← sm_add]
      apply sm_congr
      intro s hs
      rw [hu t s htr hs]
      by_cases c : s = t
      · rw [if_pos c.symm, if_pos c]; grind
      · rw [if_neg (fun z => c z.symm), if_neg c]; grind
    rw [e, sm_one (fun s => k * M s x) htr]
/-- the rows behind the block: combinations of the block's rows -/
theorem Run.comb {M : Nat → Row} (hM : ∀ i j, M i j = M j i) {r : Nat} {d : Int} {B : Nat → Row} {ps : List Pv} (h : Run M r (rs r) d B ps) (hu : ∀ s t, s < r → t < r → M s (r + t) = if s = t then 1 else 0) (hz : ∀ i j, r ≤ i → r ≤ j → M i j = 0) {i : Nat} (hi : r ≤ i) (x : Nat) :
    d * M i x + sm r (fun s => B i (r + s) * M s x) = B i x := by
  obtain ⟨m, w, hm, hw, he⟩ := (h.inv hM).span i hi
  have hc : ∀ s, w (r + s) = m * B i (r + s) := fun s => by
    have := he (r + s)
    rw [hz i (r + s) hi (by omega), Int.mul_zero, Int.mul_zero, Int.zero_add] at this
    exact this
  have h1 := hw.unit hu x
  have h2 := he x
  have h3 : w x = m * sm r (fun s => B i (r + s) * M s x) := by
    rw [h1, ← sm_mul]
    exact sm_congr fun s _ => by rw [hc s, Int.mul_assoc]
  rw [h3, ← Int.mul_add] at h2
  exact Int.eq_of_mul_eq_mul_left hm h2
end PySem.El
namespace PySem.El
/-- unit columns beside a block of r rows -/
structure Beside (M : Nat → Row) (r : Nat) : Prop where
  sym : ∀ i j, M i j = M j i
  one : ∀ s t, s < r → t < r → M s (r + t) = if s = t then 1 else 0
  zero : ∀ i j, r ≤ i → r ≤ j → M i j = 0
/-- the table while its first k columns are cleared -/
def GJ (B : Nat → Row) (r k : Nat) (d : Int) : Nat → Row := fun i j =>
  if i < k then (if j < k then (if i = j then d else 0) else -B (r + i) j) else B i j
/-- one clearing -/
def clr (T : Nat → Row) (k : Nat) (d : Int) : Nat → Row := fun i j =>
  if i = k then T k j else (T k k * T i j - T i k * T k j) / d
theorem Run.units {M : Nat → Row} {r : Nat} (hM : Beside M r) {k S d B ps} (h : Run M k S d B ps) : ∀ s, k ≤ s → s < r → ∀ i, k ≤ i → B i (r + s) = d * M i (r + s) := by
  induction h with
  | begin => intro s _ _ i _; rw [Int.one_mul]
  | skip _ _ ih => intro s hs hr i hi; exact ih s (by omega) hr i (by omega)
  | @pivot k S d B ps h hp ih =>
    intro s hs hr i hi
    have hd := (h.inv hM.sym).dpos
    have e1 := ih s (by omega) hr i (by omega)
    have e2 := ih s (by omega) hr k (by omega)
    rw [hM.one k s (by omega) hr, if_neg (by omega), Int.mul_zero] at e2
    unfold redu
    rw [if_pos ⟨by omega, by omega⟩, e1, e2, Int.mul_zero, Int.sub_zero, Int.mul_left_comm, Int.mul_ediv_cancel_left _ (by omega)]
theorem Run.cleared {M : Nat → Row} {r : Nat} (hM : Beside M r) {k : Nat} {d : Int} {B ps} (h : Run M k (rs k) d B ps) (hp : 0 < B k k) (hk : k < r) {i : Nat} (hi : i < r) (j : Nat) :
    clr (GJ B r k d) k d i j = GJ (redu B k d) r (k + 1) (B k k) i j := by
  have hI := h.inv hM.sym
  have hd := hI.dpos
  have low : ∀ i j, j < k → B i j = 0 := hI.low
  have Tk : ∀ j, GJ B r k d k j = B k j := fun j => by unfold GJ; rw [if_neg (by omega)]
  unfold clr
  rw [Tk, Tk]
  by_cases c1 : i = k
  · subst c1
    rw [if_pos rfl]
    unfold GJ
    rw [if_pos (by omega)]
    by_cases c2 : j < i
    · rw [if_pos (by omega), if_neg (by omega), low i j c2]
    · by_cases c3 : j = i
      · subst c3
        rw [if_pos (by omega), if_pos rfl]
      · rw [if_neg (by omega)]
        have e := hI.exact hp (r + i) j
        have u1 := h.units hM i (by omega) hi j (by omega)
        have u2 := h.units hM i (by omega) hi i (by omega)
        have z : M j (r + i) = 0 := by
          by_cases c : j < r
          · rw [hM.one j i c hi, if_neg c3]
          · exact hM.zero j (r + i) (by omega) (by omega)
        rw [hM.one i i hi hi, if_pos rfl, Int.mul_one] at u2
        rw [z, Int.mul_zero] at u1
        rw [hI.sym (r + i) j, u1, u2] at e
        have : d * redu B i d (r + i) j = d * (-B i j) := by rw [e]; grind
        have := Int.eq_of_mul_eq_mul_left (by omega) this
        rw [this, Int.neg_neg]
  · rw [if_neg c1]
    by_cases c2 : i < k
    · have Ti : ∀ j, GJ B r k d i j = if j < k then (if i = j then d else 0) else -B (r + i) j := fun j => by unfold GJ; rw [if_pos c2]
      have Ri : GJ (redu B k d) r (k + 1) (B k k) i j = if j < k + 1 then (if i = j then B k k else 0) else -redu B k d (r + i) j := by unfold GJ; rw [if_pos (by omega)]
      rw [Ri, Ti, Ti, if_neg (show ¬ k < k by omega)]
      by_cases c3 : j < k
      · rw [if_pos c3, if_pos (show j < k + 1 by omega), low k j c3, Int.mul_zero, Int.sub_zero]
        by_cases c4 : i = j
        · rw [if_pos c4, if_pos c4, Int.mul_ediv_cancel _ (by omega)]
        · rw [if_neg c4, if_neg c4, Int.mul_zero, Int.zero_ediv]
      · rw [if_neg c3]
        by_cases c4 : j = k
        · subst c4
          rw [if_pos (show j < j + 1 by omega), if_neg c1]
          have : B j j * -B (r + i) j - -B (r + i) j * B j j = 0 := by grind
          rw [this, Int.zero_ediv]
        · rw [if_neg (show ¬ j < k + 1 by omega)]
          have e := hI.exact hp (r + i) j
          have : B k k * -B (r + i) j - -B (r + i) k * B k j = d * (-redu B k d (r + i) j) := by
            rw [show d * (-redu B k d (r + i) j) = -(d * redu B k d (r + i) j) from Int.mul_neg _ _, e, hI.sym k (r + i)]
            grind
          rw [this, Int.mul_ediv_cancel_left _ (by omega)]
    · have Ti : ∀ j, GJ B r k d i j = B i j := fun j => by unfold GJ; rw [if_neg c2]
      have Ri : GJ (redu B k d) r (k + 1) (B k k) i j = redu B k d i j := by unfold GJ; rw [if_neg (by omega)]
      rw [Ri, Ti, Ti]
      unfold redu
      by_cases c3 : k < j
      · rw [if_pos ⟨by omega, c3⟩, hI.sym k i]
      · rw [if_neg (by omega)]
        by_cases c4 : j = k
        · subst c4
          rw [Int.mul_comm, Int.sub_self, Int.zero_ediv]
        · rw [low i j (by omega), low k j (by omega), Int.mul_zero, Int.mul_zero, Int.sub_self, Int.zero_ediv]
/-- the steps of an elimination all of whose indexes are leads -/
theorem Run.steps {M : Nat → Row} (hM : ∀ i j, M i j = M j i) {r : Nat} : ∀ {d B ps}, Run M r (rs r) d B ps → ∀ k, k < r → ∃ d' B' ps', Run M k (rs k) d' B' ps' ∧ 0 < B' k k := by
  induction r with
  | zero => intro _ _ _ _ k hk; omega
  | succ r ih =>
    intro d B ps h k hk
    have key : ∃ d' B' ps', Run M r (rs r) d' B' ps' ∧ 0 < B' r r := by
      rw [rs_succ] at h
      cases h with
      | skip h' _ =>
        have := (h'.inv hM).small r (List.mem_cons_self ..)
        omega
      | pivot h' hp => exact ⟨_, _, _, h', hp⟩
    by_cases e : k = r
    · rw [e]; exact key
    · obtain ⟨_, _, _, h', _⟩ := key
      exact ih h' k (by omega)
/-- what the clearing leaves is an inverse, up to d -/
theorem Run.inverse {M : Nat → Row} {r : Nat} (hM : Beside M r) {d : Int} {B ps} (h : Run M r (rs r) d B ps) {i x : Nat} (hi : i < r) (hx : x < r) :
    sm r (fun s => -B (r + i) (r + s) * M s x) = if i = x then d else 0 := by
  have e := h.comb hM.sym hM.one hM.zero (i := r + i) (by omega) x
  rw [(h.inv hM.sym).low (r + i) x hx, hM.sym (r + i) x, hM.one x i hx hi] at e
  have : sm r (fun s => -B (r + i) (r + s) * M s x) = -sm r (fun s => B (r + i) (r + s) * M s x) := by
    rw [show (fun s => -B (r + i) (r + s) * M s x) = fun s => (-1) * (B (r + i) (r + s) * M s x) from funext fun s => by grind, sm_mul]
    grind
  rw [this]
  by_cases c : i = x
  · rw [if_pos c.symm] at e
    rw [if_pos c]
    omega
  · rw [if_neg (Ne.symm c)] at e
    rw [if_neg c]
    omega
/-- leads stand in falling order -/
theorem Run.fall {A : Nat → Row} {k S d B ps} (h : Run A k S d B ps) : S.Pairwise (fun a b => b < a) ∧ ∀ s ∈ S, s < k := by
  induction h with
  | begin => exact ⟨.nil, by simp⟩
  | skip _ _ ih => exact ⟨ih.1, fun s hs => by have := ih.2 s hs; omega⟩
  | pivot _ _ ih =>
    refine ⟨List.pairwise_cons.2 ⟨fun s hs => ih.2 s hs, ih.1⟩, fun s hs => ?_⟩
    rcases List.mem_cons.1 hs with e | m
    · omega
    · have := ih.2 s m; omega
/-- the i-th lead -/
def led (S : List Nat) (i : Nat) : Nat := S.reverse.getD i 0
theorem led_map (S : List Nat) : (rs S.length).map (led S) = S := by
  have h : ∀ T : List Nat, (List.range T.length).map (fun i => T.getD i 0) = T := fun T => by
    refine List.ext_getElem? fun i => ?_
    rw [List.getElem?_map]
    by_cases hi : i < T.length
    · rw [List.getElem?_range hi]
      simp [List.getElem?_eq_getElem hi, hi]
    · rw [List.getElem?_eq_none (by simpa using hi), List.getElem?_eq_none (by omega)]
      rfl
  unfold rs led
  have := h S.reverse
  rw [List.length_reverse] at this
  rw [List.map_reverse, this, List.reverse_reverse]
theorem led_mem {S : List Nat} {i : Nat} (hi : i < S.length) : led S i ∈ S := by
  unfold led
  rw [← List.mem_reverse, List.getD_eq_getElem?_getD, List.getElem?_eq_getElem (by rw [List.length_reverse]; exact hi)]
  exact List.getElem_mem _
theorem led_of {S : List Nat} {s : Nat} (hs : s ∈ S) : ∃ i, i < S.length ∧ led S i = s := by
  rw [← List.mem_reverse] at hs
  obtain ⟨i, hi, e⟩ := List.getElem_of_mem hs
  refine ⟨i, by rw [List.length_reverse] at hi; exact hi, ?_⟩
  unfold led
  rw [List.getD_eq_getElem?_getD, List.getElem?_eq_getElem hi]
  exact e
theorem led_mono {S : List Nat} (h : S.Pairwise (fun a b => b < a)) {i j : Nat} (hij : i < j) (hj : j < S.length) : led S i < led S j := by
  have h2 : S.reverse.Pairwise (fun a b => a < b) := by rw [List.pairwise_reverse]; exact h
  unfold led
  have l : S.reverse.length = S.length := List.length_reverse
  rw [List.getD_eq_getElem?_getD, List.getD_eq_getElem?_getD, List.getElem?_eq_getElem (by omega), List.getElem?_eq_getElem (by omega)]
  exact List.pairwise_iff_getElem.1 h2 i j (by omega) (by omega) hij
end PySem.El
namespace PySem.El
theorem sm_swap (n m : Nat) (f : Nat → Nat → Int) : sm n (fun i => sm m (fun j => f i j)) = sm m (fun j => sm n (fun i => f i j)) := by
  induction n with
  | zero => simp [sm, sm_zero]
  | succ n ih => simp only [sm]; rw [ih, ← sm_add]
/-- a sum over the leads alone -/
theorem sm_leads {l : Nat → Nat} {f : Nat → Int} : ∀ {n r : Nat}, (∀ i, i < r → l i < n) → (∀ i j, i < j → j < r → l i < l j) → (∀ j, j < n → (∀ i, i < r → l i ≠ j) → f j = 0) → sm n f = sm r (fun i => f (l i)) := fun {n} => by
  induction n with
  | zero =>
    intro r h _ _
    cases r with
    | zero => rfl
    | succ r => exact absurd (h 0 (by omega)) (by omega)
  | succ n ih =>
    intro r h hm h0
    cases r with
    | zero =>
      show sm n f + f n = 0
      rw [h0 n (by omega) (fun i hi => by omega), ih (r := 0) (fun i hi => by omega) (fun i j _ hj => by omega) (fun j hj _ => h0 j (by omega) (fun i hi => by omega))]
      rfl
    | succ r =>
      by_cases e : l r = n
      · show sm n f + f n = sm r _ + f (l r)
        rw [e, ih (r := r) (fun i hi => by have := hm i r hi (by omega); omega) (fun i j a b => hm i j a (by omega)) (fun j hj hne => h0 j (by omega) (fun i hi => by
          by_cases c : i = r
          · rw [c]; omega
          · exact hne i (by omega)))]
      · have hlt : ∀ i, i < r + 1 → l i < n := fun i hi => by
          have a := h i hi
          by_cases c : i = r
          · rw [c] at a ⊢; omega
          · have := hm i r (by omega) (by omega)
            have := h r (by omega)
            omega
        show sm n f + f n = _
        rw [h0 n (by omega) (fun i hi => by have := hlt i hi; omega), ih (r := r + 1) hlt hm (fun j hj hne => h0 j (by omega) hne)]
        omega
theorem lin_congr {n : Nat} {r x r' x' : Row} (h : ∀ j, j < n → r j * x j = r' j * x' j) : lin n r x = lin n r' x' := sm_congr h
theorem lin_comb (n : Nat) (r x y : Row) (a b : Int) : lin n r (fun j => a * x j + b * y j) = a * lin n r x + b * lin n r y := by
  unfold lin
  rw [← sm_mul, ← sm_mul, ← sm_add]
  exact sm_congr fun j _ => by grind
theorem lin_comm (n : Nat) (r x : Row) : lin n r x = lin n x r := sm_congr fun j _ => Int.mul_comm _ _
/-- what spans tells 0 where the spanning rows do -/
theorem Sp.lin {rows : List Row} {w : Row} (h : Sp rows w) {n : Nat} {z : Row} (hz : ∀ r ∈ rows, lin n r z = 0) : lin n w z = 0 := by
  induction h with
  | zero => unfold El.lin; rw [sm_congr (g := fun _ => 0) (fun j _ => by simp), sm_zero]
  | add w k v _ hv ih =>
    have : El.lin n (comb w k v) z = El.lin n w z + k * El.lin n v z := by
      unfold El.lin
      rw [← sm_mul, ← sm_add]
      exact sm_congr fun j _ => by simp only [comb]; grind
    rw [this, ih, hz v hv]
    simp
/-- no point but 0 that stands on leads alone is told 0 by all rows -/
theorem Run.ker {A : Nat → Row} (hA : ∀ i j, A i j = A j i) {k S d B ps} (h : Run A k S d B ps) {n : Nat} (hk : k ≤ n) : ∀ {z : Row}, (∀ i, i < n → lin n (A i) z = 0) → (∀ i, i ∉ S → z i = 0) → ∀ i, z i = 0 := by
  induction h with
  | begin => intro z _ h0 i; exact h0 i (by simp)
  | skip _ _ ih => intro z hz h0; exact ih (by omega) hz h0
  | @pivot k S d B ps h hp ih =>
    intro z hz h0
    have hI := h.inv hA
    obtain ⟨m, w, hm, hw, he⟩ := hI.span k (Nat.le_refl k)
    have e1 : lin n w z = 0 := hw.lin fun r hr => by
      obtain ⟨s, hs, rfl⟩ := List.mem_map.1 hr
      exact hz s (by have := hI.small s hs; omega)
    have e2 : m * lin n (B k) z = 0 := by
      have : m * lin n (B k) z = m * d * lin n (A k) z + lin n w z := by
        unfold lin
        rw [← sm_mul, ← sm_mul, ← sm_add]
        exact sm_congr fun j _ => by have := he j; grind
      rw [this, hz k (by omega), e1]
      simp
    have e3 : lin n (B k) z = 0 := by
      rcases Int.mul_eq_zero.1 e2 with c | c
      · exact absurd c hm
      · exact c
    have e4 : lin n (B k) z = B k k * z k := by
      unfold lin
      rw [← sm_one (fun j => B k j * z j) (show k < n by omega)]
      refine sm_congr fun j _ => ?_
      by_cases c : j = k
      · rw [if_pos c]
      · rw [if_neg c]
        by_cases c2 : j < k
        · rw [hI.low k j c2]; simp
        · rw [h0 j (fun m => by
            rcases List.mem_cons.1 m with e | m
            · exact c e
            · have := hI.small j m; omega)]
          simp
    rw [e3] at e4
    have e5 : z k = 0 := by
      rcases Int.mul_eq_zero.1 e4.symm with c | c
      · omega
      · exact c
    refine ih (by omega) hz fun i hi => ?_
    by_cases c : i = k
    · rw [c]; exact e5
    · exact h0 i fun m => by
        rcases List.mem_cons.1 m with e | m
        · exact c e
        · exact hi m
/-- a point beside the leads that all rows tell 0 -/
structure Ker (n : Nat) (A : Nat → Row) (S : List Nat) (k : Nat) (y : Row) : Prop where
  zero : ∀ i, i < n → lin n (A i) y = 0
  pos : 0 < y k
  on : ∀ i, i ∉ S → i ≠ k → y i = 0
theorem Ker.more {n : Nat} {A : Nat → Row} {S S' : List Nat} {k : Nat} {y : Row} (h : Ker n A S k y) (hs : ∀ s ∈ S, s ∈ S') : Ker n A S' k y := ⟨h.zero, h.pos, fun i hi hne => h.on i (fun m => hi (hs i m)) hne⟩
theorem Ker.same {n : Nat} {A : Nat → Row} (hA : ∀ i j, A i j = A j i) {S d B ps} (h : Run A n S d B ps) {k : Nat} {y z : Row} (hy : Ker n A S k y) (hz : Ker n A S k z) (w : Row) : z k * lin n w y = y k * lin n w z := by
  have e : ∀ i, z k * y i + (-(y k)) * z i = 0 := h.ker hA (Nat.le_refl n) (z := fun i => z k * y i + (-(y k)) * z i) (fun i hi => by
    rw [lin_comb, hy.zero i hi, hz.zero i hi]; simp) (fun i hi => by
    by_cases c : i = k
    · rw [c]; grind
    · rw [hy.on i hi c, hz.on i hi c]; simp)
  unfold lin
  rw [← sm_mul, ← sm_mul]
  exact sm_congr fun i _ => by have := e i; grind
theorem Ker.same0 {n : Nat} {A : Nat → Row} (hA : ∀ i j, A i j = A j i) {S d B ps} (h : Run A n S d B ps) {k : Nat} {y z : Row} (hy : Ker n A S k y) (hz : Ker n A S k z) (w : Row) : lin n w y = 0 ↔ lin n w z = 0 := by
  have e := hy.same hA h hz w
  have p1 := hy.pos
  have p2 := hz.pos
  constructor
  · intro c
    rw [c, Int.mul_zero] at e
    rcases Int.mul_eq_zero.1 e.symm with q | q
    · omega
    · exact q
  · intro c
    rw [c, Int.mul_zero] at e
    rcases Int.mul_eq_zero.1 e with q | q
    · omega
    · exact q
theorem lsum_lin (n : Nat) (ps : List Pv) (c : Pv → Int) (i : Nat) (z : Row) : sm n (fun j => lsum ps (fun p => c p * (p.2.1 i * p.2.1 j)) * z j) = lsum ps (fun p => c p * p.2.1 i * lin n p.2.1 z) := by
  induction ps with
  | nil => simp [lsum, sm_zero]
  | cons p ps ih =>
    have e : ∀ j, lsum (p :: ps) (fun p => c p * (p.2.1 i * p.2.1 j)) * z j = c p * p.2.1 i * (p.2.1 j * z j) + lsum ps (fun p => c p * (p.2.1 i * p.2.1 j)) * z j := fun j => by
      simp only [lsum, List.foldr_cons]; grind
    rw [sm_congr fun j _ => e j, sm_add, sm_mul, ih]
    rfl
/-- a settled point beside the leads -/
theorem Run.kerSet {A : Nat → Row} (hA : ∀ i j, A i j = A j i) {n S d B ps} (h : Run A n S d B ps) (hs : ∀ p ∈ ps, 0 < p.2.2) {k : Nat} (hk : k ∉ S) : Ker n A S k (setl n ps (unitP k)) := by
  obtain ⟨h1, f, hf, h2⟩ := h.settled hA n (Nat.le_refl n) (unitP k)
  refine ⟨fun i _ => ?_, ?_, fun i hi hne => ?_⟩
  · have hW := wprod_pos hs
    have e : wprod ps * lin n (A i) (setl n ps (unitP k)) = 0 := by
      unfold lin
      rw [← sm_mul]
      have := lsum_lin n ps (fun p => wprod ps / p.2.2) i (setl n ps (unitP k))
      rw [sm_congr (g := fun j => lsum ps (fun p => wprod ps / p.2.2 * (p.2.1 i * p.2.1 j)) * setl n ps (unitP k) j) (fun j hj => by
        rw [← Int.mul_assoc, h.whole hA (wprod ps) (fun p => wprod ps / p.2.2) (fun p hp => by rw [Int.mul_comm]; exact Int.mul_ediv_cancel' (wprod_dvd hp)) i j hj]), this]
      rw [lsum_congr (g := fun p => 0 * (0 : Int)) (fun p hp => by rw [h1 p hp]; simp), lsum_mul, Int.zero_mul]
    rcases Int.mul_eq_zero.1 e with c | c
    · omega
    · exact c
  · rw [h2 k hk]
    unfold unitP
    rw [if_pos rfl]
    omega
  · rw [h2 i hi]
    unfold unitP
    rw [if_neg hne, Int.mul_zero]
/-- the solution solves -/
theorem Run.solves {A : Nat → Row} (hA : ∀ i j, A i j = A j i) {n S d B ps} (h : Run A n S d B ps) {N : Nat → Row} (hN : ∀ i x, i < S.length → x < S.length → sm S.length (fun s => N i s * A (led S s) (led S x)) = if i = x then d else 0) (hNs : ∀ i j, i < S.length → j < S.length → N i j = N j i)
    {z w : Row} {c1 c2 : Int} (hz0 : ∀ j, j < n → j ∉ S → z j = 0) (hz : ∀ i, i < S.length → c1 * z (led S i) = c2 * sm S.length (fun s => N i s * w (led S s)))
    (hf : ∀ k, k < n → k ∉ S → ∃ y, Ker n A S k y ∧ lin n w y = 0) : ∀ k, k < n → c1 * lin n (A k) z = c2 * d * w k := by
  have hfall := h.fall
  have sml : ∀ {f : Nat → Int}, (∀ j, j < n → j ∉ S → f j = 0) → sm n f = sm S.length (fun i => f (led S i)) := fun {f} h0 => sm_leads (fun i hi => hfall.2 _ (led_mem hi)) (fun i j a b => led_mono hfall.1 a b) (fun j hj hne => h0 j hj fun m => by
    obtain ⟨i, hi, e⟩ := led_of m
    exact hne i hi e)
  have lead : ∀ k, k ∈ S → c1 * lin n (A k) z = c2 * d * w k := fun k hk => by
    obtain ⟨x, hx, rfl⟩ := led_of hk
    unfold lin
    rw [sml (fun j hj hjS => by rw [hz0 j hj hjS, Int.mul_zero]), ← sm_mul]
    rw [sm_congr (g := fun i => c2 * sm S.length (fun s => N i s * A (led S x) (led S i) * w (led S s))) (fun i hi => by
      have := hz i hi
      rw [show c1 * (A (led S x) (led S i) * z (led S i)) = A (led S x) (led S i) * (c1 * z (led S i)) by grind, this, Int.mul_left_comm, ← sm_mul]
      congr 1
      exact sm_congr fun s _ => by grind), sm_mul, sm_swap]
    rw [sm_congr (g := fun s => if s = x then d * w (led S s) else 0) (fun s hs => by
      have := hN s x hs hx
      rw [sm_congr (g := fun i => w (led S s) * (N s i * A (led S i) (led S x))) (fun i hi => by rw [hNs i s hi hs, hA (led S x) (led S i)]; grind), sm_mul, this]
      by_cases c : s = x
      · rw [if_pos c, if_pos c, Int.mul_comm]
      · rw [if_neg c, if_neg c, Int.mul_zero]), sm_one (fun s => d * w (led S s)) hx]
    grind
  intro k hk
  by_cases m : k ∈ S
  · exact lead k m
  · obtain ⟨y, hy, hw⟩ := hf k hk m
    have e1 : lin n (fun j => c1 * lin n (A j) z + (-(c2 * d)) * w j) y = 0 := by
      rw [lin_comm, lin_comb, lin_comm n y w, hw, Int.mul_zero, Int.add_zero]
      have : lin n y (fun j => lin n (A j) z) = 0 := by
        unfold lin
        rw [sm_congr (g := fun j => sm n (fun i => z i * (A i j * y j))) (fun j _ => by rw [← sm_mul]; exact sm_congr fun i _ => by rw [hA j i]; grind), sm_swap]
        rw [sm_congr (g := fun i => 0) (fun i hi => by
          rw [sm_mul]
          have := hy.zero i hi
          unfold lin at this
          rw [this, Int.mul_zero]), sm_zero]
      rw [this, Int.mul_zero]
    have e2 : lin n (fun j => c1 * lin n (A j) z + (-(c2 * d)) * w j) y = (c1 * lin n (A k) z + (-(c2 * d)) * w k) * y k := by
      unfold lin
      rw [← sm_one (fun j => (c1 * sm n (fun i => A j i * z i) + (-(c2 * d)) * w j) * y j) hk]
      refine sm_congr fun j hj => ?_
      by_cases c : j = k
      · rw [if_pos c]
      · rw [if_neg c]
        by_cases m2 : j ∈ S
        · have := lead j m2
          unfold lin at this
          show (c1 * sm n (fun i => A j i * z i) + (-(c2 * d)) * w j) * y j = 0
          rw [this]
          grind
        · rw [hy.on j m2 c, Int.mul_zero]
    rw [e1] at e2
    rcases Int.mul_eq_zero.1 e2.symm with c | c
    · grind
    · have := hy.pos; omega
end PySem.El
namespace PySem.El
/-- one step of the law's elimination; the column n is the demand -/
def lst (R : Nat → Row) (k : Nat) : Nat → Row := fun i j => if k < i then R k k * R i j - R i k * R k j else R i j
structure LI (A : Nat → Row) (w : Row) (n : Nat) (S : List Nat) (k : Nat) (B R : Nat → Row) : Prop where
  ex : ∃ c : Int, 0 < c ∧ ∀ i j, k ≤ i → i < n → j < n → R i j = c * B i j
  comb : ∀ i, k ≤ i → i < n → ∃ y : Row, 0 < y i ∧ (∀ x, x ∉ S → x ≠ i → y x = 0) ∧ (∀ j, j < n → R i j = lin n (A j) y) ∧ R i n = lin n w y
theorem lin_unit {n i : Nat} (r : Row) (hi : i < n) : lin n r (unitP i) = r i := by
  unfold lin unitP
  rw [← sm_one r hi]
  exact sm_congr fun j _ => by
    by_cases c : j = i
    · rw [if_pos c, if_pos c, Int.mul_one]
    · rw [if_neg c, if_neg c, Int.mul_zero]
theorem LI.begin {A M : Nat → Row} {g : Int} (hg : 0 < g) (hA : ∀ i j, A i j = A j i) {w : Row} {n : Nat} {R : Nat → Row} (h0 : ∀ i j, i < n → j < n → A i j = g * M i j) (h1 : ∀ i j, i < n → j < n → R i j = A i j) (h2 : ∀ i, i < n → R i n = w i) : LI A w n [] 0 M R where
  ex := ⟨g, hg, fun i j _ hi hj => by rw [h1 i j hi hj, h0 i j hi hj]⟩
  comb := fun i _ hi => ⟨unitP i, by unfold unitP; rw [if_pos rfl]; decide, fun x _ hx => by unfold unitP; rw [if_neg hx], fun j hj => by rw [lin_unit _ hi, h1 i j hi hj, hA], by rw [lin_unit _ hi, h2 i hi]⟩
theorem LI.skip {A : Nat → Row} {w : Row} {n : Nat} {S k B R} (h : LI A w n S k B R) : LI A w n S (k + 1) B R where
  ex := let ⟨c, h0, h1⟩ := h.ex; ⟨c, h0, fun i j hi => h1 i j (by omega)⟩
  comb := fun i hi => h.comb i (by omega)
theorem LI.pivot {A M : Nat → Row} {w : Row} {n : Nat} {S k d B R} (h : LI A w n S k B R) (hI : Inv M S k d B) (hp : 0 < B k k) (hk : k < n) : LI A w n (k :: S) (k + 1) (redu B k d) (lst R k) where
  ex := by
    obtain ⟨c, h0, h1⟩ := h.ex
    refine ⟨c * c * d, Int.mul_pos (Int.mul_pos h0 h0) hI.dpos, fun i j hi hin hj => ?_⟩
    unfold lst
    rw [if_pos (by omega), h1 k k (by omega) hk hk, h1 i j (by omega) hin hj, h1 i k (by omega) hin hk, h1 k j (by omega) hk hj, Int.mul_assoc (c * c), hI.exact hp, hI.sym k i]
    grind
  comb := fun i hi hin => by
    obtain ⟨c, h0, h1⟩ := h.ex
    obtain ⟨y, y1, y2, y3, y4⟩ := h.comb i (by omega) hin
    obtain ⟨z, z1, z2, z3, z4⟩ := h.comb k (by omega) hk
    have hkk : 0 < R k k := by rw [h1 k k (by omega) hk hk]; exact Int.mul_pos h0 hp
    refine ⟨fun x => R k k * y x + (-(R i k)) * z x, ?_, fun x hx hne => ?_, fun j hj => ?_, ?_⟩
    · show 0 < R k k * y i + (-(R i k)) * z i
      rw [z2 i (fun m => by have := hI.small i m; omega) (by omega), Int.mul_zero, Int.add_zero]
      exact Int.mul_pos hkk y1
    · show R k k * y x + (-(R i k)) * z x = 0
      rw [y2 x (fun m => hx (List.mem_cons_of_mem _ m)) hne, z2 x (fun m => hx (List.mem_cons_of_mem _ m)) (fun e => hx (by rw [e]; exact List.mem_cons_self ..))]
      simp
    · unfold lst
      rw [if_pos (by omega), lin_comb, ← y3 j hj, ← z3 j hj]
      grind
    · unfold lst
      rw [if_pos (by omega), lin_comb, ← y4, ← z4]
      grind
theorem LI.ker {A : Nat → Row} {w : Row} {n : Nat} {S k B R} (h : LI A w n S k B R) (hk : k < n) (hz : ∀ j, j < n → R k j = 0) : ∃ y, Ker n A S k y ∧ lin n w y = R k n := by
  obtain ⟨y, y1, y2, y3, y4⟩ := h.comb k (Nat.le_refl k) hk
  exact ⟨y, ⟨fun i hi => by rw [← y3 i hi, hz i hi], y1, fun i hi hne => y2 i hi hne⟩, y4.symm⟩
/-- the first place beside the leads that misses the demand -/
def Mi (A : Nat → Row) (w : Row) (n : Nat) (S : List Nat) (k : Nat) : Option Nat → Prop
  | none => ∀ f, f < k → f ∉ S → ∃ y, Ker n A S f y ∧ lin n w y = 0
  | some m => m < k ∧ m ∉ S ∧ (∃ y, Ker n A S m y ∧ lin n w y ≠ 0) ∧ ∀ f, f < m → f ∉ S → ∃ y, Ker n A S f y ∧ lin n w y = 0
theorem Mi.pivot {A : Nat → Row} {w : Row} {n : Nat} {S k m} (h : Mi A w n S k m) : Mi A w n (k :: S) (k + 1) m := by
  cases m with
  | none =>
    intro f hf hS
    have hne : f ≠ k := fun e => hS (by rw [e]; exact List.mem_cons_self ..)
    obtain ⟨y, h1, h2⟩ := h f (by omega) (fun m => hS (List.mem_cons_of_mem _ m))
    exact ⟨y, h1.more fun s hs => List.mem_cons_of_mem _ hs, h2⟩
  | some m =>
    obtain ⟨h1, h2, ⟨y, h3, h4⟩, h5⟩ := h
    refine ⟨by omega, fun c => ?_, ⟨y, h3.more fun s hs => List.mem_cons_of_mem _ hs, h4⟩, fun f hf hS => ?_⟩
    · rcases List.mem_cons.1 c with e | c
      · omega
      · exact h2 c
    · obtain ⟨y, h1, h2⟩ := h5 f hf (fun m => hS (List.mem_cons_of_mem _ m))
      exact ⟨y, h1.more fun s hs => List.mem_cons_of_mem _ hs, h2⟩
theorem Mi.keep {A : Nat → Row} {w : Row} {n : Nat} {S k} {m : Option Nat} (h : Mi A w n S k m) (hy : m = none → ∃ y, Ker n A S k y ∧ lin n w y = 0) : Mi A w n S (k + 1) m := by
  cases m with
  | none =>
    intro f hf hS
    by_cases e : f = k
    · rw [e]; exact hy rfl
    · exact h f (by omega) hS
  | some m =>
    obtain ⟨h1, h2, h3, h5⟩ := h
    exact ⟨by omega, h2, h3, h5⟩
theorem Mi.set {A : Nat → Row} {w : Row} {n : Nat} {S k} (h : Mi A w n S k none) (hS : k ∉ S) (hy : ∃ y, Ker n A S k y ∧ lin n w y ≠ 0) : Mi A w n S (k + 1) (some k) := ⟨by omega, hS, hy, fun f hf hS => h f hf hS⟩
theorem Ker.scale {A M : Nat → Row} {g : Int} (hg : 0 < g) {n : Nat} {S : List Nat} {k : Nat} {y : Row} (e : ∀ i j, A i j = g * M i j) (h : Ker n A S k y) : Ker n M S k y := by
  refine ⟨fun i hi => ?_, h.2, h.3⟩
  have h1 := h.1 i hi
  have h2 : lin n (A i) y = g * lin n (M i) y := by
    unfold lin
    rw [← sm_mul]
    exact sm_congr fun j _ => by rw [e i j, Int.mul_assoc]
  rw [h2] at h1
  rcases Int.mul_eq_zero.mp h1 with h3 | h3
  · omega
  · exact h3
theorem Mi.scale {A M : Nat → Row} {g : Int} (hg : 0 < g) {w : Row} {n : Nat} {S k m} (e : ∀ i j, A i j = g * M i j) (h : Mi A w n S k m) : Mi M w n S k m := by
  cases m with
  | none =>
    intro f hf hS
    obtain ⟨y, h1, h2⟩ := h f hf hS
    exact ⟨y, h1.scale hg e, h2⟩
  | some m =>
    obtain ⟨h1, h2, ⟨y, h3, h4⟩, h5⟩ := h
    exact ⟨h1, h2, ⟨y, h3.scale hg e, h4⟩, fun f hf hS => let ⟨y, h1, h2⟩ := h5 f hf hS; ⟨y, h1.scale hg e, h2⟩⟩
end PySem.El
set_option exponentiation.threshold 70000
namespace P10
open PySem PySem.Spec PyProof.Rows L2 SX EX WK
def frs (n : Nat) (S : List Nat) : List Nat := (List.range n).filter fun i => !decide (i ∈ S)
theorem mem_frs {n : Nat} {S : List Nat} {k : Nat} : k ∈ frs n S ↔ k < n ∧ k ∉ S := by
  unfold frs
  rw [List.mem_filter, List.mem_range]
  simp
theorem frs_fm {S : List Nat} : ∀ (l : List Nat), l.filterMap (fun i => if i ∈ S then none else some (i : Int)) = (l.filter fun i => !decide (i ∈ S)).map (fun (i : Nat) => (i : Int))
  | [] => rfl
  | i :: l => by
    by_cases c : i ∈ S
    · rw [List.filterMap_cons, if_pos c, List.filter_cons, if_neg (by simp [c])]
      exact frs_fm l
    · rw [List.filterMap_cons, if_neg c, List.filter_cons, if_pos (by simp [c]), List.map_cons]
      exact congrArg _ (frs_fm l)
theorem frs_len {n : Nat} {S : List Nat} : (frs n S).length ≤ n := by
  have := List.length_filter_le (fun i => !decide (i ∈ S)) (List.range n)
  rw [List.length_range] at this
  exact this
/-- a settled point beside the leads -/
def FreeAt (K : PySem.W.Frag) (n : Nat) (ps : List El.Pv) : Hp → V → Nat → Prop := fun H v k => ∃ a, v = .ref a ∧ TV K H a n (setd n ps (El.unitP k))
theorem stb_FreeAt {K : PySem.W.Frag} {n : Nat} {ps : List El.Pv} : Stb K (FreeAt K n ps) := fun _ _ _ _ s ⟨a, h1, h2⟩ => ⟨a, h1, s _ _ h2⟩
theorem unit_one {n : Nat} {M : Nat → El.Row} (sy : ∀ i j, M i j = M j i) {S : List Nat} {d : Int} {B' : Nat → El.Row} {ps : List El.Pv} (run : El.Run M n S d B' ps) {k : Nat} (hk : k < n) (hS : k ∉ S) : gf 0 (vec n (seti n ps (El.unitP k))) = 1 := by
  refine gcd_one ?_ (gf_gcd _)
  rw [← seti_setl]
  refine run.prim n (Nat.le_refl n) (fun y => ⟨_, gf_gcd y⟩) _ (fun i hm => ?_) (El.Gcd.one ⟨k, hk, ?_⟩)
  · unfold El.unitP
    rw [if_neg fun e => hS (by rw [← e]; exact hm)]
  · unfold El.unitP
    rw [if_pos rfl]
theorem run_pos {A : Nat → El.Row} (hA : ∀ i j, A i j = A j i) {k : Nat} {S : List Nat} {d : Int} {B' : Nat → El.Row} {ps : List El.Pv} (h : El.Run A k S d B' ps) : ∀ p ∈ ps, 0 < p.2.2 := by
  induction h with
  | begin => intro p hp; cases hp
  | skip _ _ ih => exact ih
  | pivot h hp ih =>
    intro p hm
    rcases List.mem_cons.mp hm with e | e
    · rw [e]
      exact Int.mul_pos (h.inv hA).dpos hp
    · exact ih p e
theorem setd_ker {n : Nat} {M : Nat → El.Row} (sy : ∀ i j, M i j = M j i) {S : List Nat} {d : Int} {B' : Nat → El.Row} {ps : List El.Pv} (run : El.Run M n S d B' ps) {k : Nat} (hk : k < n) (hS : k ∉ S) : El.Ker n M S k (setd n ps (El.unitP k)) := by
  have e : setd n ps (El.unitP k) = El.setl n ps (El.unitP k) := by
    funext i
    show seti n ps (El.unitP k) i / gf 0 (vec n (seti n ps (El.unitP k))) = _
    rw [unit_one sy run hk hS, Int.ediv_one, seti_setl]
  rw [e]
  exact run.kerSet sy (run_pos sy run) hS
theorem ps_len {M : Nat → El.Row} {k : Nat} {S : List Nat} {d : Int} {B' : Nat → El.Row} {ps : List El.Pv} (run : El.Run M k S d B' ps) : ps.length ≤ k := by
  have m := run.many
  rw [← run.leads, List.length_map] at m
  exact m
theorem tb_con {w n : Nat} (hn : n ≤ 10) : ∀ k, El.tb (fun _ => ((2 ^ w : Nat) : Int)) n k ≤ ((2 ^ (k * (w + 4)) : Nat) : Int)
  | 0 => by simp [El.tb]
  | k + 1 => by
    have ih := tb_con (w := w) hn k
    have h1 : (n : Int) * ((2 ^ w : Nat) : Int) ≤ ((2 ^ (w + 4) : Nat) : Int) := by
      rw [← Int.natCast_mul, Nat.pow_add, Nat.mul_comm n]
      exact Int.ofNat_le.mpr (Nat.mul_le_mul_left _ (by omega))
    have h2 : 0 ≤ (n : Int) * ((2 ^ w : Nat) : Int) := Int.mul_nonneg (by omega) (Int.natCast_nonneg _)
    show El.tb (fun _ => ((2 ^ w : Nat) : Int)) n k * ((n : Int) * ((2 ^ w : Nat) : Int)) ≤ _
    have h3 := Int.mul_le_mul ih h1 h2 (Int.natCast_nonneg _)
    have h4 : ((2 ^ (k * (w + 4)) : Nat) : Int) * ((2 ^ (w + 4) : Nat) : Int) = ((2 ^ ((k + 1) * (w + 4)) : Nat) : Int) := by
      rw [← Int.natCast_mul, ← Nat.pow_add, show k * (w + 4) + (w + 4) = (k + 1) * (w + 4) by rw [Nat.add_mul, Nat.one_mul]]
    rw [h4] at h3
    exact h3
/-- the bound of a settled point beside the leads -/
theorem free_B {n w : Nat} {bd : Int} {M : Nat → Nat → Int} (jo : JOk n w bd M) {S : List Nat} {d : Int} {B' : Nat → Nat → Int} {ps : List El.Pv} (run : El.Run M n S d B' ps) {k : Nat} (hk : k < n) (hS : k ∉ S) : ∀ i, B 60000 (setd n ps (El.unitP k) i) := fun i => by
  have e : setd n ps (El.unitP k) i = El.setl n ps (El.unitP k) i := by
    show seti n ps (El.unitP k) i / gf 0 (vec n (seti n ps (El.unitP k))) = _
    rw [unit_one jo.whole.sym run hk hS, Int.ediv_one, seti_setl]
  rw [e]
  have n10 := jo.n10
  have w1 := jo.w1
  have pv := run.pivots jo.whole.sym bd jo.bd1 jo.abs
  have hb := run.setl_bound (fun _ => ((2 ^ w : Nat) : Int)) (fun k => El.bnd bd k * El.bnd bd (k + 1)) n (fun _ => by have : 0 < 2 ^ w := Nat.two_pow_pos w; omega) (fun p hp => by
    have q := pv p hp
    refine { q with row := fun j => ?_ }
    have a := q.row j
    have m := El.bnd_mono jo.bd1 (show p.1 + 1 ≤ n by have := q.small; omega)
    have c : (El.bnd bd n).natAbs < 2 ^ w := jo.bB
    omega) (Nat.le_refl n) (El.unitP k) ((1 : Nat) : Int) (Int.natCast_nonneg _) (fun j => by unfold El.unitP; split <;> decide) i
  have tc := tb_con (w := w) n10 n
  have h4 : n * (w + 4) ≤ 10 * (w + 4) := Nat.mul_le_mul_right _ (by omega)
  have h5 : (2 : Nat) ^ (n * (w + 4)) < 2 ^ 60000 := Nat.pow_lt_pow_right (by decide) (by omega)
  show (El.setl n ps (El.unitP k) i).natAbs < 2 ^ 60000
  generalize (2 : Nat) ^ (n * (w + 4)) = a1 at *
  generalize (2 : Nat) ^ 60000 = a2 at *
  omega
section
theorem lkFs (n e b : V) : ([("size", n), ("entries", e), ("bottom", b)] : List (Str × V)).lookup ("size" : Str) = some n := by rw [lk_hit]
theorem lkFe (n e b : V) : ([("size", n), ("entries", e), ("bottom", b)] : List (Str × V)).lookup ("entries" : Str) = some e := by rw [lk_skip (by decide +kernel), lk_hit]
theorem lkFb (n e b : V) : ([("size", n), ("entries", e), ("bottom", b)] : List (Str × V)).lookup ("bottom" : Str) = some b := by rw [lk_skip (by decide +kernel), lk_skip (by decide +kernel), lk_hit]
theorem lkFx {x : Str} (n e b : V) (h1 : ¬ x = ("size" : Str)) (h2 : ¬ x = ("entries" : Str)) (h3 : ¬ x = ("bottom" : Str)) : ([("size", n), ("entries", e), ("bottom", b)] : List (Str × V)).lookup x = none := by
  rw [lk_skip h1, lk_skip h2, lk_skip h3]
  rfl
end
end P10
namespace P10
open PySem PySem.Spec PyProof.Rows L2 SX EX WK
/-- a table of r rows of m numbers -/
def RTab (H : Hp) (a : Addr) (r m : Nat) (f : Nat → Nat → Int) : Prop := ∃ rs : List Addr, H a = some (.lst (rs.map V.ref)) ∧ rs.length = r ∧ ∀ i, i < r → ∃ p, rs[i]? = some p ∧ H p = some (.lst ((vec m (f i)).map V.int))
theorem GT.rtab {H0 H : Hp} {a : Addr} {rs : List Addr} {n i : Nat} {f : Nat → Nat → Int} (h : GT H0 H a rs n i f) : RTab H a i n f := ⟨rs, h.at_, h.len, h.row⟩
theorem RTab.same {H H' : Hp} {a : Addr} {r m : Nat} {f : Nat → Nat → Int} (h : RTab H a r m f) (s : Same H H') : RTab H' a r m f := let ⟨rs, h1, h2, h3⟩ := h; ⟨rs, s _ _ h1, h2, fun i hi => let ⟨p, e1, e2⟩ := h3 i hi; ⟨p, e1, s _ _ e2⟩⟩
theorem RTab.congr {H : Hp} {a : Addr} {r m : Nat} {f g : Nat → Nat → Int} (h : RTab H a r m f) (e : ∀ i j, i < r → j < m → f i j = g i j) : RTab H a r m g := let ⟨rs, h1, h2, h3⟩ := h; ⟨rs, h1, h2, fun i hi => let ⟨p, e1, e2⟩ := h3 i hi; ⟨p, e1, by rw [e2, vec_congr fun j hj => e i j hi hj]⟩⟩
section
variable {P : Program} {w : World} {K : PySem.W.Frag} {mg : Str → Option Value} {base : Heap} {f : Addr} {fd : FuncData} {cF cR : Addr}
def spCleared (K : PySem.W.Frag) : Sp := fun vs H Q _ => ∃ (a : Addr) (r m k w : Nat) (d : Int) (M : Nat → Nat → Int), vs = [.ref a, .int k, .int d] ∧ RTab H a r m M ∧ r ≤ 1000 ∧ m ≤ 2000 ∧ k < r ∧ k < m ∧ (∀ i j, i < r → j < m → B w (M i j)) ∧ 0 < d ∧ B w d ∧ 0 < w ∧ w ≤ 9000 ∧
  ∀ t H', Same H H' → RTab H' t r m (El.clr M k d) → Q (.ref t) H'
abbrev s_cleared : Stmt := top 36
abbrev N_cleared : List Str := ["table", "at", "divisor", "main", "pivot", "changed", "index", "line", "off", "number", "other"]
theorem sc_cleared : FnScope N_cleared ["table", "at", "divisor"] (defScope s_cleared) := ⟨rfl, rfl, rfl, by decide +kernel, rfl, by decide +kernel, by decide +kernel⟩
theorem ok_cleared (F : Fun K "cleared" "cleared" s_cleared f fd) (T : Txt mg) : FnOk P w K mg base CX0 1 f fd ["table", "at", "divisor"] (spCleared K) := by
  refine F.ok sc_cleared (fun vs H Q E h => ?_) (fun cdv A outer s H vs Q E hr h => ?_)
  · obtain ⟨a, r, m, k, w, d, M, rfl, _⟩ := h
    rfl
  obtain ⟨a, r, m, k, w, d, M, rfl, ht, hr10, hm10, hk, hkm, hB, hd, hdB, hw, hw9, q⟩ := h
  refine ⟨_, (pss_cons (ps_set (i := 3) sc_cleared.nd rfl (Or.inl rfl) (pe_ix ix_list (pv 0) (pv 1) (fun _ _ => rfl)))
  (pss_cons (ps_set (i := 4) sc_cleared.nd rfl (Or.inr rfl) (pe_ix ix_list /-?-/ (pv 3) (pv 1) (fun _ _ => rfl)))
  (pss_cons (ps_set (i := 5) sc_cleared.nd rfl (Or.inl rfl) (pe_lst pa_nil))
  (pss_cons (ps_for PassesOwn.never rfl (pi_enum (by rfl) T.b_enumerate (pa_cons (pv 0) pa_nil)) (pg_tup rfl (pgs_cons (pg_name (i := 6) sc_cleared.nd rfl (Or.inl rfl)) (pgs_cons (pg_name (i := 7) sc_cleared.nd rfl (Or.inl rfl)) pgs_nil))) (pss_one (ps_if (pt_cmpR op_eq (pv 6) (pv 1) (nomark _)) (pss_one (ps_expr (pe_bm PySem.F.plainAttrs_list PySem.F.slot_list_append PySem.F.type_list_append mt_append (pv 5) (pa_cons (pv 3) pa_nil)))) (pss_cons (ps_set (i := 8) sc_cleared.nd rfl (Or.inr rfl) (pe_ix ix_list /-?-/ (pv 7) (pv 1) (fun _ _ => rfl)))
  (pss_one (ps_expr (pe_bm PySem.F.plainAttrs_list PySem.F.slot_list_append PySem.F.type_list_append mt_append (pv 5) (pa_cons (pe_lc (own := [("number", 9), ("other", 10)]) (tt := tYes) (by rfl) sc_cleared.nd (WZ.pi_zipB (by rfl) T.b_zip (pa_cons (pv 7) (pa_cons (pv 3) pa_nil))) (blkOk_by (N := N_cleared) (sc := defScope s_cleared) (by decide +kernel)) (fun _ _ _ _ _ => (pg_tupK (K := K) (n := 2) rfl rfl (pgs_cons (pg_name (i := 9) sc_cleared.nd rfl (Or.inl rfl)) (pgs_cons (pg_name (i := 10) sc_cleared.nd rfl (Or.inl rfl)) pgs_nil)))) (fun _ _ _ _ _ => pts_nil) (fun _ _ _ _ _ => (pe_op op_fdivW (pe_op op_sub (pe_op op_mulW (pv 4) (pv 9)) (pe_op op_mulW (pv 8) (pv 10))) (pv 2)))) pa_nil))))))))
  (pss_one (ps_ret (pv 5))))))), ?_⟩
  obtain ⟨rs, ha, hl, row⟩ := ht
  have rowV : ∀ i, i < r → ∃ p, (rs.map V.ref)[i]? = some (V.ref p) ∧ H p = some (.lst ((vec m (M i)).map V.int)) := fun i hi => by
    obtain ⟨p, h1, h2⟩ := row i hi
    exact ⟨p, by rw [List.getElem?_map, h1]; rfl, h2⟩
  obtain ⟨pk, hpk, hpkr⟩ := rowV k hk
  refine ⟨_, rfl, _, rfl, a, _, _, _, rfl, rfl, SqL.of ha, at_pos (by omega) (by rw [Int.toNat_natCast]; exact hpk), ?_⟩
  refine ⟨_, rfl, _, rfl, pk, _, _, _, rfl, rfl, SqL.of hpkr, at_pos (by omega) (by rw [Int.toNat_natCast]; exact vecV_at hkm), ?_⟩
  refine ⟨line_ge (by decide), fun L hL => ?_⟩
  have hLk : pk ≠ L := fun z => by rw [z, hL] at hpkr; cases hpkr
  refine ⟨_, rfl, a, _, rfl, SqL.of (same_new hL _ _ _ ha), for_it (walk_enum (K := K) (a := a) (xs := rs.map V.ref)) (fun i σ H1 => ∃ (v6 v7 v8 : Option V) (ps : List Addr), σ = [some (.ref a), some (.int (k : Int)), some (.int d), some (.ref pk), some (.int (M k k)), some (.ref L), v6, v7, v8, none, none] ∧ GT H H1 L ps m i (El.clr M k d)) ⟨none, none, none, [], rfl, GT.start hL⟩ (fun i σ H' _ ⟨_, _, _, _, _, g⟩ => SqL.of (g.same _ _ ha)) ?_ ?_⟩
  · rintro i x σ H1 H2 hi ⟨v6, v7, v8, ps, rfl, g⟩ y
    have s2 := ys_pair y
    obtain ⟨Tp, x1, x2, rfl, hT, rfl, e1, e2⟩ := y
    cases e1
    have hir : i < r := by rw [List.length_map] at hi; omega
    obtain ⟨pi, hpi, hpir⟩ := rowV i hir
    rw [show (rs.map V.ref)[i]? = some x2 from e2] at hpi
    cases hpi
    have s02 := g.same.trans s2
    have hpiL : pi ≠ L := fun z => by rw [z, hL] at hpir; cases hpir
    have gl := g.len
    refine ⟨_, _, rfl, SqT.of upd_same, rfl, _, _, rfl, _, _, rfl, rfl, ?_⟩
    refine ⟨_, rfl, _, rfl, rfl, _, rfl, ?_⟩
    by_cases e : i = k
    · subst e
      refine ifT (int_eq rfl) ?_
      refine ⟨_, rfl, tyV_of (s2 _ _ g.at_), _, rfl, L, _, _, rfl, rfl, s2 _ _ g.at_, ?_, ?_⟩
      · rw [List.length_map, gl]
        exact Nat.lt_of_lt_of_le (by omega : i < 1001) (line_ge (by decide))
      · refine ⟨_, _, _, ps ++ [pk], rfl, g.snoc hL s2 ?_ hLk⟩
        rw [s02 _ _ hpkr]
        congr 3
        refine vec_congr fun j _ => ?_
        unfold El.clr
        rw [if_pos rfl]
    · refine ifF (int_ne fun z => e (Int.ofNat_inj.mp z)) ?_
      refine ⟨_, rfl, _, rfl, pi, _, _, _, rfl, rfl, SqL.of (s02 _ _ hpir), at_pos (by omega) (by rw [Int.toNat_natCast]; exact vecV_at hkm), ?_⟩
      refine ⟨_, rfl, tyV_of (s2 _ _ g.at_), _, rfl, _, rfl, true, true, pi, pk, _, _, rfl, SqL.of (s02 _ _ hpir), SqL.of (s02 _ _ hpkr), fun D hD => ?_⟩
      refine lc_m (WZ.walk_zA (K := K) (k := true) (l := true) (a := pi) (b := pk) (xs := (vec m (M i)).map V.int) (ys := (vec m (M k)).map V.int) (n := m) vec_lenV.symm vec_lenV.symm) RI (stb_RI (K := K)) (List.range m) (by rw [List.length_range]) (by rw [List.length_range]; omega) hD (fun H' s => ⟨SqL.of (s _ _ (s02 _ _ hpir)), SqL.of (s _ _ (s02 _ _ hpkr))⟩) (fun _ _ _ _ => ys_pair) (fun j => (M k k * M i j - M i k * M k j) / d) (fun c j v H3 H4 hc s3 s4 yl A B hA => ?_) (fun H3 l1 s3 hl1 rz => ?_)
      · obtain ⟨hc1, rfl⟩ := in_range hc
        obtain ⟨Tq, x3, x4, rfl, hT2, rfl, e3, e4⟩ := yl
        have e5 := (show ((vec m (M i)).map V.int)[j]? = some x3 from e3).symm.trans (vecV_at hc1)
        have e6 := (show ((vec m (M k)).map V.int)[j]? = some x4 from e4).symm.trans (vecV_at hc1)
        cases e5
        cases e6
        exact ⟨_, _, rfl, SqT.of upd_same, rfl, _, _, rfl, _, _, rfl, rfl, rfl, lc_yes ⟨_, rfl, _, rfl, _, _, rfl, rfl, wmul (hB k k hk hkm) (hB i j hir hc1) hw hw (by omega), _, rfl, _, rfl, _, _, rfl, rfl, wmul (hB i k hir hkm) (hB k j hk hc1) hw hw (by omega), _, _, rfl, rfl, _, rfl, _, _, rfl, rfl, wdiv hd hdB hw hw9, hA _ _ (fun _ _ h => h) rfl⟩⟩
      · have hDL : D ≠ L := fun z => by rw [z, s2 _ _ g.at_] at hD; cases hD
        refine ⟨L, _, _, rfl, rfl, s3 _ _ (s2 _ _ g.at_), ?_, ?_⟩
        · rw [List.length_map, gl]
          exact Nat.lt_of_lt_of_le (by omega : i < 1001) (line_ge (by decide))
        · refine ⟨_, _, _, ps ++ [D], rfl, g.snoc hL (s2.trans s3) ?_ hDL⟩
          rw [hl1, rz.ints]
          show some (HO.lst (List.map V.int (vec m fun j => (M k k * M i j - M i k * M k j) / d))) = _
          congr 3
          refine vec_congr fun j _ => ?_
          unfold El.clr
          rw [if_neg e]
  · rintro σ H1 ⟨v6, v7, v8, ps, rfl, g⟩
    rw [List.length_map, hl] at g
    exact ⟨_, rfl, q L H1 g.same g.rtab⟩
end
end P10
namespace P10
open PySem PySem.Spec PyProof.Rows L2 SX EX WK
theorem vec_cat {a b : Nat} {x y : Nat → Int} : (vec a x).map V.int ++ (vec b y).map V.int = (vec (a + b) fun i => if i < a then x i else y (i - a)).map V.int := by
  refine List.ext_getElem? fun i => ?_
  by_cases hi : i < a
  · rw [List.getElem?_append_left (by rw [vec_lenV]; exact hi), vecV_at hi, vecV_at (by omega), if_pos hi]
  · rw [List.getElem?_append_right (by rw [vec_lenV]; omega), vec_lenV]
    by_cases h2 : i < a + b
    · rw [vecV_at (by omega), vecV_at h2, if_neg hi]
    · rw [List.getElem?_eq_none (by rw [vec_lenV]; omega), List.getElem?_eq_none (by rw [vec_lenV]; omega)]
theorem cut_tail {m a b : Nat} {y : Nat → Int} (h : m = a + b) : cutV ((vec m y).map V.int) (some (a : Int)) none = (vec b fun i => y (a + i)).map V.int := by
  subst h
  unfold cutV
  rw [vec_lenV, sIx_of rfl (by omega)]
  have e : HT.sIx (a + b) (a + b) none = a + b := rfl
  rw [e]
  refine List.ext_getElem? fun i => ?_
  by_cases hi : i < b
  · rw [vecV_at hi, List.getElem?_take, if_pos (by omega), List.getElem?_drop, vecV_at (by omega)]
  · rw [List.getElem?_eq_none (by rw [List.length_take, List.length_drop, vec_lenV]; omega), List.getElem?_eq_none (by rw [vec_lenV]; omega)]
/-- unit columns -/
def one : Nat → El.Row := fun i j => if i = j then 1 else 0
theorem au_beside {A : Nat → El.Row} (hA : ∀ i j, A i j = A j i) (l : Nat → Nat) (r : Nat) : El.Beside (El.Au A l r one) r where
  sym := El.Au_sym hA l r one
  one := fun s t hs ht => by
    unfold El.Au one
    rw [if_pos hs, if_neg (by omega), Nat.add_sub_cancel_left]
  zero := fun i j hi hj => by
    unfold El.Au
    rw [if_neg (by omega), if_neg (by omega)]
theorem au_abs {A : Nat → El.Row} {l : Nat → Nat} {r : Nat} {bd : Int} (b1 : 1 ≤ bd) (hA : ∀ i j, -bd ≤ A i j ∧ A i j ≤ bd) (i j : Nat) : -bd ≤ El.Au A l r one i j ∧ El.Au A l r one i j ≤ bd := by
  unfold El.Au one
  by_cases c1 : i < r <;> by_cases c2 : j < r <;> simp only [c1, c2, if_true, if_false]
  · exact hA _ _
  · split <;> omega
  · split <;> omega
  · omega
/-- the bounds of the table while it is cleared -/
theorem gj_B {A : Nat → El.Row} (hA : ∀ i j, A i j = A j i) {l : Nat → Nat} {r w : Nat} {bd : Int} (b1 : 1 ≤ bd) (hb : ∀ i j, -bd ≤ A i j ∧ A i j ≤ bd) (hw : B w (El.bnd bd (r + 1))) {k : Nat} {d : Int} {B' : Nat → El.Row} {ps : List El.Pv} (run : El.Run (El.Au A l r one) k (El.rs k) d B' ps) (hk : k ≤ r) : (∀ i j, i < r → B w (El.GJ B' r k d i j)) ∧ 0 < d ∧ B w d := by
  have sy := El.Au_sym hA l r one
  have inv := run.inv sy
  have m1 := El.bnd_mono b1 (show k + 1 ≤ r + 1 by omega)
  have m2 := El.bnd_mono b1 (show k ≤ r + 1 by omega)
  have hw' : (El.bnd bd (r + 1)).natAbs < 2 ^ w := hw
  have db := El.Run.dbound inv run.many bd b1 (au_abs b1 hb) run
  have dp := inv.dpos
  have p0 := El.bnd_pos b1 (r + 1)
  have dB : B w d := by show d.natAbs < 2 ^ w; omega
  have rB : ∀ i j, k ≤ i → B w (B' i j) := fun i j hi => by
    have := run.rbound sy bd b1 (au_abs b1 hb) hi j
    show (B' i j).natAbs < 2 ^ w
    omega
  refine ⟨fun i j hi => ?_, dp, dB⟩
  unfold El.GJ
  by_cases c1 : i < k
  · rw [if_pos c1]
    by_cases c2 : j < k
    · rw [if_pos c2]
      split
      · exact dB
      · show Int.natAbs 0 < 2 ^ w
        exact Nat.two_pow_pos w
    · rw [if_neg c2]
      show (-B' (r + i) j).natAbs < 2 ^ w
      rw [Int.natAbs_neg]
      exact rB (r + i) j (by omega)
  · rw [if_neg c1]
    exact rB i j (by omega)
theorem tm_rows {K : PySem.W.Frag} {H : Hp} {u : Addr} {vs : List V} {r : Nat} {N : Nat → El.Row} (hu : SqT K H u vs) (h : Rs (Fz K) H vs ((List.range r).map fun i => .tup ((vec r (N i)).map Td.int))) : Fz K H (.ref u) (tm r N) := by
  have e : (List.range r).map (fun i => Td.tup ((vec r (N i)).map Td.int)) = (mat r N).map fun x => .tup (x.map Td.int) := by
    unfold mat
    rw [List.map_map]
    rfl
  rw [e] at h
  exact .tup hu h.fz
section
variable {P : Program} {w : World} {K : PySem.W.Frag} {mg : Str → Option Value} {base : Heap} {f : Addr} {fd : FuncData} {cF cR : Addr}
def spBlock (K : PySem.W.Frag) : Sp := fun vs H Q _ => ∃ (v : V) (x : Addr) (n r w : Nat) (bd d : Int) (A : Nat → Nat → Int) (l : Nat → Nat) (B' : Nat → El.Row) (ps : List El.Pv), vs = [v, .ref x] ∧ Fz K H v (tm n A) ∧ SqT K H x ((vec r fun i => (l i : Int)).map V.int) ∧ r ≤ n ∧ n ≤ 10 ∧ (∀ i, i < r → l i < n) ∧ (∀ i j, A i j = A j i) ∧
  El.Run (El.Au A l r one) r (El.rs r) d B' ps ∧ 1 ≤ bd ∧ (∀ i j, -bd ≤ A i j ∧ A i j ≤ bd) ∧ B w (El.bnd bd (r + 1)) ∧ 0 < w ∧ w ≤ 9000 ∧
  ∀ t u H', Same H H' → SqT K H' t [.ref u, .int d] → Fz K H' (.ref u) (tm r fun i s => -B' (r + i) (r + s)) → Q (.ref t) H'
abbrev s_block_inverse : Stmt := top 37
abbrev N_block_inverse : List Str := ["entries", "indexes", "many", "table", "place", "index", "unit", "det", "pivot", "other", "line", "column"]
theorem sc_block_inverse : FnScope N_block_inverse ["entries", "indexes"] (defScope s_block_inverse) := ⟨rfl, rfl, rfl, by decide +kernel, rfl, by decide +kernel, by decide +kernel⟩
theorem ok_block_inverse (F : Fun K "block_inverse" "block_inverse" s_block_inverse f fd) (T : Txt mg) (C_cleared : Cal P w K mg base 1 "cleared" ["table", "at", "divisor"] (spCleared K)) : FnOk P w K mg base CX0 2 f fd ["entries", "indexes"] (spBlock K) := by
  refine F.ok sc_block_inverse (fun vs H Q E h => ?_) (fun cdv A outer s H vs Q E hr h => ?_)
  · obtain ⟨v, x, n, r, w, bd, d, M, l, B', ps, rfl, _⟩ := h
    rfl
  obtain ⟨v, x, n, r, w, bd, d, M, l, B', ps, rfl, hz, hx, hrn, n10, hl, sy, run, b1, hb, hw, w0, w9, q⟩ := h
  refine ⟨_, (pss_cons (ps_set (i := 2) sc_block_inverse.nd rfl (Or.inr rfl) (pe_callB call_len_seq (by rfl) T.b_len PySem.boot_len (pa_cons (pv 1) pa_nil)))
  (pss_cons (ps_set (i := 3) sc_block_inverse.nd rfl (Or.inl rfl) (pe_lst pa_nil))
  (pss_cons (ps_for PassesOwn.never rfl (WE.pi_enT (by rfl) T.b_enumerate (pa_cons (pv 1) pa_nil)) (pg_tup rfl (pgs_cons (pg_name (i := 4) sc_block_inverse.nd rfl (Or.inr rfl)) (pgs_cons (pg_name (i := 5) sc_block_inverse.nd rfl (Or.inr rfl)) pgs_nil))) (pss_cons (ps_setLc (i := 6) (own := [("other", 9)]) (g := gName 9) (tt := tYes) (by rfl) sc_block_inverse.nd rfl rfl (sw_true rfl rfl rfl (by decide +kernel)) (pi_range1 (by rfl) T.b_range (pa_cons (pv 2) pa_nil)) (blkOk_by (N := N_block_inverse) (sc := defScope s_block_inverse) (by decide +kernel)) (fun _ _ _ _ _ => (pg_name (i := 9) sc_block_inverse.nd rfl (Or.inl rfl))) (fun _ _ _ _ _ => pts_nil) (fun _ _ _ _ _ => (pe_callTy call_int1 (by rfl) T.b_int (by decide +kernel) (pa_cons (pe_cmpR op_eq (pv 4) (pv 9) (nomark _)) pa_nil))))
  (pss_one (ps_expr (pe_bm PySem.F.plainAttrs_list PySem.F.slot_list_append PySem.F.type_list_append mt_append (pv 3) (pa_cons (pe_op op_cat (pe_lc (own := [("column", 11)]) (g := gName 11) (tt := tYes) (by rfl) sc_block_inverse.nd (pi_tup (pv 1)) (blkOk_by (N := N_block_inverse) (sc := defScope s_block_inverse) (by decide +kernel)) (fun _ _ _ _ _ => (pg_name (i := 11) sc_block_inverse.nd rfl (Or.inl rfl))) (fun _ _ _ _ _ => pts_nil) (fun _ _ _ _ _ => (pe_ix (ix_tupK (K := K) rfl) (pe_ix (ix_tupK (K := K) rfl) (pv 0) (pv 5) (fun _ _ => rfl)) (pv 11) (fun _ _ => rfl)))) (pv 6)) pa_nil))))))
  (pss_cons (ps_set (i := 7) sc_block_inverse.nd rfl (Or.inl rfl) pe_int)
  (pss_cons (ps_for PassesOwn.never rfl (pi_range1 (by rfl) T.b_range (pa_cons (pv 2) pa_nil)) (pg_name (i := 4) sc_block_inverse.nd rfl (Or.inr rfl)) (pss_cons (ps_set (i := 8) sc_block_inverse.nd rfl (Or.inl rfl) (pe_ix ix_list /-?-/ (pe_ix ix_list (pv 3) (pv 4) (fun _ _ => rfl)) (pv 4) (fun _ _ => rfl)))
  (pss_cons (ps_set (i := 3) sc_block_inverse.nd rfl (Or.inl rfl) (pe_cal C_cleared (hr.mono (by omega)) rfl (pa_cons (pv 3) (pa_cons (pv 4) (pa_cons (pv 7) pa_nil)))))
  (pss_one (ps_set (i := 7) sc_block_inverse.nd rfl (Or.inl rfl) (pv 8))))))
  (pss_one (ps_ret (pe_tup (pa_cons (pe_callTy call_tuple_of (by rfl) T.b_tuple (by decide +kernel) (pa_cons (pe_lc (own := [("line", 10)]) (g := gName 10) (tt := tYes) (by rfl) sc_block_inverse.nd (pi_list (pv 3)) (blkOk_by (N := N_block_inverse) (sc := defScope s_block_inverse) (by decide +kernel)) (fun _ _ _ _ _ => (pg_name (i := 10) sc_block_inverse.nd rfl (Or.inl rfl))) (fun _ _ _ _ _ => pts_nil) (fun _ _ _ _ _ => (pe_callTy (call_tuple_ofK (K := K) rfl) (by rfl) T.b_tuple (by decide +kernel) (pa_cons (pe_slice (sl_listK (K := K) rfl) /-?-/ (pv 10) (po_some (pv 2)) po_none) pa_nil)))) pa_nil)) (pa_cons (pv 7) pa_nil)))))))))), ?_⟩
  obtain ⟨a, vs, rfl, ha, hvl, hrow⟩ := fz_mat hz
  rw [mat_len] at hvl
  have bs := au_beside sy l r
  refine ⟨_, rfl, _, _, rfl, .inr hx, ?_⟩
  rw [vec_lenV]
  refine ⟨line_ge (by decide), fun L hL => ?_⟩
  have sL := same_new hL (.lst [])
  refine ⟨_, rfl, x, _, rfl, Same_seqT sL hx, for_it (WE.walk_enT (K := K) (a := x) (xs := (vec r fun i => (l i : Int)).map V.int)) (fun i σ H1 => ∃ (v4 v5 v6 : Option V) (ps : List Addr), σ = [some (.ref a), some (.ref x), some (.int (r : Int)), some (.ref L), v4, v5, v6, none, none, none, none, none] ∧ GT H H1 L ps (r + r) i (El.Au M l r one)) ⟨none, none, none, [], rfl, GT.start hL⟩ (fun i σ H' _ ⟨_, _, _, _, _, g⟩ => Same_seqT g.same hx) ?_ ?_⟩
  · rintro i y σ H1 H2 hi ⟨v4, v5, v6, ps, rfl, g⟩ yl
    have s2 := ys_pair yl
    obtain ⟨Tp, x1, x2, rfl, hT, rfl, e1, e2⟩ := yl
    cases e1
    rw [vec_lenV] at hi
    have ex := (show ((vec r fun i => (l i : Int)).map V.int)[i]? = some x2 from e2).symm.trans (vecV_at hi)
    cases ex
    have gl := g.len
    have s02 := g.same.trans s2
    refine ⟨_, _, rfl, SqT.of upd_same, rfl, _, _, rfl, _, _, rfl, rfl, ?_⟩
    refine ⟨_, rfl, (r : Int), rfl, by omega, by omega, fun D hD => ?_⟩
    refine lc_m (walk_range (lo := 0) (n := r)) RI (stb_RI (K := K)) (List.range r) (by rw [List.length_range]) (by rw [List.length_range]; omega) hD (fun _ _ => trivial) (fun _ _ _ _ => ys_fn) (fun j => one i j) (fun c j u H3 H4 hc s3 s4 yl A B hA => ?_) (fun H3 l1 s3 hl1 rz => ?_)
    · obtain ⟨hc1, rfl⟩ := in_range hc
      rw [yl.2]
      refine ⟨rfl, lc_yes ⟨_, rfl, _, rfl, rfl, .inr ⟨_, rfl, hA _ _ (fun _ _ h => h) ?_⟩⟩⟩
      show V.int _ = V.int (one i j)
      unfold one
      by_cases e : i = j
      · rw [if_pos e, int_eq (by omega), if_pos rfl]
      · rw [if_neg e, int_ne (by omega), if_neg Bool.false_ne_true]
    · have hDL : D ≠ L := fun z => by rw [z, s2 _ _ g.at_] at hD; cases hD
      have hD3 : H3 D = some (.lst ((vec r (one i)).map V.int)) := by rw [hl1, rz.ints]; rfl
      have s03 := s02.trans s3
      refine ⟨_, rfl, tyV_of (s3 _ _ (s2 _ _ g.at_)), _, rfl, x, rfl, ⟨_, Same_seqT s03 hx⟩, fun D2 hD2 => ?_⟩
      obtain ⟨pe, hpe, hpr⟩ := hrow (l i) _ (mat_at (hl i hi))
      refine lc_m (walk_tup (K := K) (a := x) (xs := (vec r fun i => (l i : Int)).map V.int)) RI (stb_RI (K := K)) (List.range r) (by rw [vec_lenV, List.length_range]) (by rw [List.length_range]; omega) hD2 (fun H' s => Same_seqT (s03.trans s) hx) (fun _ _ _ _ => ys_at) (fun j => M (l i) (l j)) (fun c j u H4 H5 hc s4 s5 yl A B hA => ?_) (fun H4 l2 s4 hl2 rz2 => ?_)
      · obtain ⟨hc1, rfl⟩ := in_range hc
        have e := yl.2
        rw [vecV_at hc1] at e
        cases e
        have s05 := s03.trans s5
        exact ⟨rfl, lc_yes ⟨_, rfl, _, rfl, a, _, _, _, rfl, rfl, Same_seqT s05 ha, at_pos (by omega) (by rw [Int.toNat_natCast]; exact hpe), _, rfl, pe, _, _, _, rfl, rfl, Same_seqT s05 hpr, at_pos (by omega) (by rw [Int.toNat_natCast]; exact vecV_at (hl j hc1)), hA _ _ (fun _ _ h => h) rfl⟩⟩
      · have hD4 : H4 D2 = some (.lst ((vec r fun j => M (l i) (l j)).map V.int)) := by rw [hl2, rz2.ints]; rfl
        refine ⟨_, rfl, D2, D, _, _, rfl, rfl, hD4, s4 _ _ hD3, ?_, fun R hR => ?_⟩
        · rw [vec_lenV, vec_lenV]
          exact line_ge (by omega)
        have hRL : R ≠ L := fun z => by rw [z, s4 _ _ (s3 _ _ (s2 _ _ g.at_))] at hR; cases hR
        have sR := same_new hR (.lst ((vec r fun j => M (l i) (l j)).map V.int ++ (vec r (one i)).map V.int))
        have s6 := s2.trans (s3.trans (s4.trans sR))
        refine ⟨L, _, _, rfl, rfl, (s3.trans (s4.trans sR)) _ _ (s2 _ _ g.at_), ?_, ?_⟩
        · rw [List.length_map, gl]
          exact Nat.lt_of_lt_of_le (by omega : i < 1001) (line_ge (by decide))
        · refine ⟨_, _, _, ps ++ [R], rfl, g.snoc hL s6 ?_ hRL⟩
          rw [upd_same, vec_cat]
          congr 3
          refine vec_congr fun j hj => ?_
          unfold El.Au
          rw [if_pos hi]
  rintro σ H1 ⟨v4, v5, v6, ps0, rfl, g⟩
  rw [vec_lenV] at g
  refine ⟨_, rfl, (r : Int), rfl, by omega, by omega, for_range (lo := 0) (n := r) (fun k σ H2 => ∃ (v4 v8 : Option V) (tb : Addr) (d : Int) (B' : Nat → El.Row) (ps : List El.Pv), σ = [some (.ref a), some (.ref x), some (.int (r : Int)), some (.ref tb), v4, v5, v6, some (.int d), v8, none, none, none] ∧ El.Run (El.Au M l r one) k (El.rs k) d B' ps ∧ Same H H2 ∧ RTab H2 tb r (r + r) (El.GJ B' r k d)) ⟨v4, none, L, 1, _, _, rfl, .begin, g.same, g.rtab.congr fun i j _ _ => by unfold El.GJ; rw [if_neg (by omega)]⟩ ?_ ?_⟩
  · rintro k σ H2 hk ⟨v4, v8, tb, dk, Bk, psk, rfl, rk, sH, ht⟩
    obtain ⟨d2, B2, ps2, r2, hp⟩ := run.steps bs.sym k hk
    obtain ⟨_, e1, e2, _⟩ := r2.same rk
    subst e1 e2
    obtain ⟨gB, dp, dB⟩ := gj_B sy b1 hb hw rk (by omega)
    obtain ⟨rs2, h1, h2, h3⟩ := id ht
    obtain ⟨pk, hpk, hpkr⟩ := h3 k hk
    have e0 : (0 + (k : Int)).toNat = k := by omega
    refine ⟨_, rfl, _, rfl, tb, _, _, _, rfl, rfl, SqL.of h1, at_pos (by omega) (by rw [e0, List.getElem?_map, hpk]; rfl), _, rfl, pk, _, _, _, rfl, rfl, SqL.of hpkr, at_pos (by omega) (by rw [e0]; exact vecV_at (by omega)), ?_⟩
    refine ⟨_, rfl, _, rfl, _, rfl, tb, r, r + r, k, w, d2, _, by rw [Int.zero_add]; rfl, ht, by omega, by omega, hk, by omega, fun i j hi _ => gB i j hi, dp, dB, w0, w9, fun t H3 s3 ht3 => ?_⟩
    have pv := rk.pivot hp
    rw [← El.rs_succ] at pv
    have eg : El.GJ B2 r k d2 k k = B2 k k := by unfold El.GJ; rw [if_neg (by omega)]
    exact ⟨_, rfl, _, _, t, El.GJ B2 r k d2 k k, El.redu B2 k d2, _, rfl, by rw [eg]; exact pv, sH.trans s3, by rw [eg]; exact ht3.congr fun i j hi _ => rk.cleared bs hp hk hi j⟩
  rintro σ H2 ⟨v4, v8, tb, d2, B2, ps2, rfl, r2, sH, ht⟩
  obtain ⟨_, e1, e2, _⟩ := r2.same run
  subst e1 e2
  obtain ⟨rs2, h1, h2, h3⟩ := ht
  refine ⟨_, rfl, tb, rfl, ⟨_, SqL.of h1⟩, fun D hD => ?_⟩
  refine lc_m (walk_list (K := K) (a := tb) (xs := rs2.map V.ref)) (Fz K) stb_Fz (List.range r) (by rw [List.length_map, List.length_range, h2]) (by rw [List.length_range]; omega) hD (fun H' s => s.seq (SqL.of h1)) (fun _ _ _ _ => ys_at) (fun i => .tup ((vec r fun s => -B2 (r + i) (r + s)).map Td.int)) (fun c i u H3 H4 hc s3 s4 yl A B hA => ?_) (fun H3 l1 s3 hl1 rz => ?_)
  · obtain ⟨hc1, rfl⟩ := in_range hc
    obtain ⟨p, hp1, hp2⟩ := h3 i hc1
    have e := yl.2
    rw [List.getElem?_map, hp1] at e
    cases e
    refine ⟨rfl, lc_yes ⟨_, rfl, _, rfl, _, rfl, p, _, rfl, SqL.of (s4 _ _ hp2), fun l2 hl2 => ?_⟩⟩
    refine ⟨l2, _, rfl, .inl ⟨SqL.of upd_same, fun t ht => ?_⟩⟩
    refine hA _ _ ((same_new hl2 _).trans (same_new ht _)) (.tup (SqT.of ?_) (FzAll.of_ints _))
    rw [upd_same, cut_tail (a := r) (b := r) rfl]
    congr 3
    refine vec_congr fun s hs => ?_
    unfold El.GJ
    rw [if_pos hc1, if_neg (by omega)]
  · refine ⟨D, l1, rfl, .inl ⟨SqL.of hl1, fun u hu => ?_⟩⟩
    have su := same_new hu (.tup l1)
    refine ⟨_, rfl, two_line, fun t ht => ?_⟩
    have st := same_new ht (.tup [.ref u, .int d2])
    exact q t u _ (sH.trans (s3.trans (su.trans st))) (SqT.of upd_same) (tm_rows (Same_seqT st (SqT.of upd_same)) (rz.tk stb_Fz fun _ _ h => Same_seqT (su.trans st) h))
end
end P10
namespace P10
open PySem PySem.Spec PyProof.Rows L2 SX EX WK
theorem new_two {H : Hp} {x dx : Addr} {u o : HO} (hx : H x = none) (hd : H dx = none) : Same H (upd (upd H dx u) x o) := fun c v h => by
  have c1 : c ≠ x := fun z => by rw [z, hx] at h; cases h
  have c2 : c ≠ dx := fun z => by rw [z, hd] at h; cases h
  rw [upd_ne c1, upd_ne c2]
  exact h
/-- the form of the table T over U, in lowest terms -/
def FAt (K : PySem.W.Frag) (H : Hp) (cF p : Addr) (n : Nat) (T : Nat → Nat → Int) (U : Int) : Prop := FormAt K H cF p n (mat n fun i j => T i j / gf U (mat n T).flatten) (U / gf U (mat n T).flatten)
/-- the places that are filled behind k rows and m numbers of the next -/
structure Pr (r k m : Nat) (l : Nat → Nat) (V : Nat → Nat → Int) (f : Nat → Nat → Int) : Prop where
  val : ∀ p q, p < r → q < r → (p < k ∨ (p = k ∧ q < m)) → f (l p) (l q) = V p q
  zero : ∀ a b, (∀ p q, p < r → q < r → (p < k ∨ (p = k ∧ q < m)) → ¬ (l p = a ∧ l q = b)) → f a b = 0
theorem Pr.put {r k m : Nat} {l : Nat → Nat} {V f : Nat → Nat → Int} (h : Pr r k m l V f) (hl : ∀ i j, i < r → j < r → l i = l j → i = j) (hk : k < r) (hm : m < r) : Pr r k (m + 1) l V (put f (l k) (l m) (V k m)) where
  val := fun p q hp hq c => by
    unfold P10.put
    by_cases e : l p = l k ∧ l q = l m
    · rw [if_pos e, hl p k hp hk e.1, hl q m hq hm e.2]
    · rw [if_neg e]
      refine h.val p q hp hq ?_
      rcases c with c | ⟨c1, c2⟩
      · exact .inl c
      · refine .inr ⟨c1, ?_⟩
        have : q ≠ m := fun z => e ⟨by rw [c1], by rw [z]⟩
        omega
  zero := fun a b c => by
    unfold P10.put
    by_cases e : a = l k ∧ b = l m
    · exact absurd ⟨e.1.symm, e.2.symm⟩ (c k m hk hm (.inr ⟨rfl, by omega⟩))
    · rw [if_neg e]
      exact h.zero a b fun p q hp hq c2 => c p q hp hq (c2.imp id fun ⟨x, y⟩ => ⟨x, by omega⟩)
theorem Pr.row {r k : Nat} {l : Nat → Nat} {V f : Nat → Nat → Int} (h : Pr r k r l V f) : Pr r (k + 1) 0 l V f where
  val := fun p q hp hq c => h.val p q hp hq (by omega)
  zero := fun a b c => h.zero a b fun p q hp hq c2 => c p q hp hq (by omega)
theorem Pr.start {r : Nat} {l : Nat → Nat} {V : Nat → Nat → Int} : Pr r 0 0 l V (fun _ _ => 0) := ⟨fun p q _ _ c => by omega, fun _ _ _ => rfl⟩
theorem Pr.congr {r k m n : Nat} {l : Nat → Nat} {V f g : Nat → Nat → Int} (h : Pr r k m l V f) (hl : ∀ i, i < r → l i < n) (e : ∀ i j, i < n → j < n → f i j = g i j) (o : ∀ i j, ¬ (i < n ∧ j < n) → g i j = 0) : Pr r k m l V g where
  val := fun p q hp hq c => by rw [← e _ _ (hl p hp) (hl q hq)]; exact h.val p q hp hq c
  zero := fun a b c => by
    by_cases z : a < n ∧ b < n
    · rw [← e a b z.1 z.2]; exact h.zero a b c
    · exact o a b z
theorem Pr.sym {r : Nat} {l : Nat → Nat} {V f : Nat → Nat → Int} (h : Pr r r 0 l V f) (hV : ∀ p q, p < r → q < r → V p q = V q p) : ∀ a b, f a b = f b a := fun a b => by
  by_cases c : ∃ p q, p < r ∧ q < r ∧ l p = a ∧ l q = b
  · obtain ⟨p, q, hp, hq, rfl, rfl⟩ := c
    rw [h.val p q hp hq (.inl hp), h.val q p hq hp (.inl hq), hV p q hp hq]
  · rw [h.zero a b fun p q hp hq _ z => c ⟨p, q, hp, hq, z⟩, h.zero b a fun p q hp hq _ z => c ⟨q, p, hq, hp, z.2, z.1⟩]
theorem Pr.B {r k : Nat} {l : Nat → Nat} {V f : Nat → Nat → Int} (h : Pr r r 0 l V f) (hV : ∀ p q, p < r → q < r → B k (V p q)) : ∀ a b, B k (f a b) := fun a b => by
  by_cases c : ∃ p q, p < r ∧ q < r ∧ l p = a ∧ l q = b
  · obtain ⟨p, q, hp, hq, rfl, rfl⟩ := c
    rw [h.val p q hp hq (.inl hp)]
    exact hV p q hp hq
  · rw [h.zero a b fun p q hp hq _ z => c ⟨p, q, hp, hq, z⟩]
    exact Nat.two_pow_pos k
section
variable {P : Program} {w : World} {K : PySem.W.Frag} {mg : Str → Option Value} {base : Heap} {f : Addr} {fd : FuncData} {cF cR cB cS : Addr}
def spPlain (K : PySem.W.Frag) (cF : Addr) : Sp := fun vs H Q _ => ∃ (p x : Addr) (n r w kb : Nat) (b bd d : Int) (A : Nat → Nat → Int) (l : Nat → Nat) (B' : Nat → El.Row) (ps : List El.Pv), vs = [.ref p, .ref x] ∧ FormAt K H cF p n (mat n A) b ∧ SqT K H x ((vec r fun i => (l i : Int)).map V.int) ∧ r ≤ n ∧ n ≤ 10 ∧ (∀ i, i < r → l i < n) ∧ (∀ i j, i < r → j < r → l i = l j → i = j) ∧ (∀ i j, A i j = A j i) ∧
  El.Run (El.Au A l r one) r (El.rs r) d B' ps ∧ 1 ≤ bd ∧ (∀ i j, -bd ≤ A i j ∧ A i j ≤ bd) ∧ B w (El.bnd bd (r + 1)) ∧ 0 < w ∧ w ≤ 9000 ∧ B kb b ∧ 0 < kb ∧ kb ≤ 9000 ∧
  ∀ q H' T, Same H H' → FAt K H' cF q n T d → Pr r r 0 l (fun i s => -B' (r + i) (r + s) * b) T → Q (.ref q) H'
abbrev s_plain_inverse : Stmt := top 38
abbrev N_plain_inverse : List Str := ["form", "indexes", "numbers", "det", "column", "table", "place", "index", "other", "line"]
theorem sc_plain_inverse : FnScope N_plain_inverse ["form", "indexes"] (defScope s_plain_inverse) := ⟨rfl, rfl, rfl, by decide +kernel, rfl, by decide +kernel, by decide +kernel⟩
theorem ok_plain_inverse (F : Fun K "plain_inverse" "plain_inverse" s_plain_inverse f fd) (T : Txt mg) (O : Obs K cF cR) (C_block_inverse : Cal P w K mg base 2 "block_inverse" ["entries", "indexes"] (spBlock K)) (C_Form : CalK P w K mg base 4 "Form" cF 1 ["bottom"] (spForm K cF)) : FnOk P w K mg base CX0 6 f fd ["form", "indexes"] (spPlain K cF) := by
  refine F.ok sc_plain_inverse (fun vs H Q E h => ?_) (fun cdv A outer s H vs Q E hr h => ?_)
  · obtain ⟨p, x, n, r, w, kb, b, bd, d, M, l, B', ps, rfl, _⟩ := h
    rfl
  obtain ⟨p, x, n, r, w, kb, b, bd, d, M, l, B', ps, rfl, hF, hx, hrn, n10, hl, hinj, sy, run, b1, hb, hw, w0, w9, hbB, kb0, kb9, q⟩ := h
  refine ⟨_, (pss_cons (ps_asg (pe_cal C_block_inverse (hr.mono (by omega)) rfl (pa_cons (pe_fld (pv 0) rfl) (pa_cons (pv 1) pa_nil))) (pg_tup rfl (pgs_cons (pg_name (i := 2) sc_plain_inverse.nd rfl (Or.inl rfl)) (pgs_cons (pg_name (i := 3) sc_plain_inverse.nd rfl (Or.inl rfl)) pgs_nil))))
  (pss_cons (ps_setLc (i := 5) (own := [("line", 9)]) (g := gName 9) (tt := tYes) (by rfl) sc_plain_inverse.nd rfl rfl (sw_true rfl rfl rfl (by decide +kernel)) (pi_range1 (by rfl) T.b_range (pa_cons (pe_fld (pv 0) rfl) pa_nil)) (blkOk_by (N := N_plain_inverse) (sc := defScope s_plain_inverse) (by decide +kernel)) (fun _ _ _ _ _ => (pg_name (i := 9) sc_plain_inverse.nd rfl (Or.inl rfl))) (fun _ _ _ _ _ => pts_nil) (fun _ _ _ _ _ => (pe_lc (own := [("column", 4)]) (g := gName 4) (tt := tYes) (by rfl) sc_plain_inverse.nd (pi_range1 (by rfl) T.b_range (pa_cons (pe_fldK (K := K) rfl (pv 0) rfl) pa_nil)) (blk_nest (N := N_plain_inverse) (sc0 := defScope s_plain_inverse) rfl (by decide +kernel)) (fun _ _ _ _ _ => (pg_name (i := 4) sc_plain_inverse.nd rfl (Or.inl rfl))) (fun _ _ _ _ _ => pts_nil) (fun _ _ _ _ _ => pe_int))))
  (pss_cons (ps_for PassesOwn.never rfl (WE.pi_enT (by rfl) T.b_enumerate (pa_cons (pv 1) pa_nil)) (pg_tup rfl (pgs_cons (pg_name (i := 6) sc_plain_inverse.nd rfl (Or.inl rfl)) (pgs_cons (pg_name (i := 7) sc_plain_inverse.nd rfl (Or.inl rfl)) pgs_nil))) (pss_one (ps_for PassesOwn.never rfl (WE.pi_enT (by rfl) T.b_enumerate (pa_cons (pv 1) pa_nil)) (pg_tup rfl (pgs_cons (pg_name (i := 8) sc_plain_inverse.nd rfl (Or.inl rfl)) (pgs_cons (pg_name (i := 4) sc_plain_inverse.nd rfl (Or.inl rfl)) pgs_nil))) (pss_one (ps_asg (pe_op op_mulW (pe_ix ix_tup (pe_ix ix_tup (pv 2) (pv 6) (fun _ _ => rfl)) (pv 8) (fun _ _ => rfl)) (pe_fld (pv 0) rfl)) (pg_sub (pe_ix ix_list (pv 5) (pv 7) (fun _ _ => rfl)) (pv 4) set_list))))))
  (pss_one (ps_ret (pe_calK C_Form (hr.mono (by omega)) rfl (pa_cons (pv 5) pa_nil) (pk_cons (pv 3) pk_nil))))))), ?_⟩
  obtain ⟨dx, e, hi, hz⟩ := id hF
  obtain ⟨gB, dp, dB⟩ := gj_B sy b1 hb hw run (Nat.le_refl r)
  have bs := au_beside sy l r
  have nB : ∀ i s, i < r → B w (-B' (r + i) (r + s)) := fun i s hi => by
    have := gB i (r + s) hi
    unfold El.GJ at this
    rw [if_pos hi, if_neg (by omega)] at this
    exact this
  refine ⟨_, rfl, p, cF, dx, _, _, rfl, hi, O.clF, O.F_entries, rfl, _, rfl, _, x, n, r, w, bd, d, M, l, B', ps, rfl, hz, hx, hrn, n10, hl, sy, run, b1, hb, hw, w0, w9, fun t u H1 s1 ht hu => ?_⟩
  refine ⟨t, _, rfl, ht, rfl, _, _, rfl, _, _, rfl, rfl, ?_⟩
  refine ⟨_, rfl, p, cF, dx, _, _, rfl, s1 _ _ hi, O.clF, O.F_size, rfl, (n : Int), rfl, by omega, by omega, fun D hD => ?_⟩
  refine ⟨fun i m H' => m = n - i ∧ i ≤ n ∧ ∃ rs, ZT H1 H' D rs n i, ⟨_, rfl, Nat.zero_le _, [], new_same hD _, upd_same, rfl, List.nodup_nil, by simp, by simp, by simp⟩, ?_⟩
  rintro i m H2 ⟨rfl, hin, rs, z⟩
  by_cases hlt : i < n
  · refine .inr ⟨by show i < (n : Int).toNat; omega, fun H' => ∃ rs, ZT H1 H' D rs n (i + 1), fun H' h' => ⟨_, by omega, rfl, hlt, h'⟩, ?_⟩
    rintro y H3 ⟨rfl, rfl⟩
    refine ⟨rfl, lc_yes ⟨_, rfl, p, cF, dx, _, _, rfl, z.same _ _ (s1 _ _ hi), O.clF, O.F_size, rfl, (n : Int), rfl, by omega, by omega, fun D2 hD2 => ?_⟩⟩
    refine lc_m (walk_range (lo := 0) (n := n)) RI (stb_RI (K := K)) (List.range n) (by rw [List.length_range]) (by rw [List.length_range]; omega) hD2 (fun _ _ => trivial) (fun _ _ _ _ => ys_fn) (fun _ => (0 : Int)) (fun c j x2 H4 H5 hc s4 s5 y A B hA => ?_) (fun H4 l1 s4 hl1 rz => ?_)
    · rw [y.2]
      exact ⟨rfl, lc_yes (hA _ _ (fun _ _ h => h) rfl)⟩
    · have hz0 := zero_vec (m := n) rz
      refine ⟨rs.map V.ref, s4 _ _ z.at_, sizes (by rw [List.length_map, z.len]; omega), rs ++ [D2], ?_⟩
      exact z.snoc hD s4 hD2 (by rw [hl1, hz0])
  have ein : i = n := by omega
  subst ein
  refine .inl ⟨by show (i : Int).toNat ≤ i; omega, ?_⟩
  clear hlt
  have mt := z.mt
  obtain ⟨au, vu, eu, hu1, hul, hurow⟩ := fz_mat hu
  cases eu
  rw [mat_len] at hul
  have hx1 : ∀ {H'}, Same H1 H' → SqT K H' x ((vec r fun i => (l i : Int)).map V.int) := fun s => Same_seqT (s1.trans s) hx
  refine ⟨_, rfl, x, _, rfl, hx1 mt.same, for_it (WE.walk_enT (K := K) (a := x) (xs := (vec r fun i => (l i : Int)).map V.int)) (fun k σ H3 => ∃ (v4 v6 v7 v8 : Option V) (g : Nat → Nat → Int), σ = [some (.ref p), some (.ref x), some (.ref u), some (.int d), v4, some (.ref D), v6, v7, v8, none] ∧ MT H1 H3 D rs i g ∧ Pr r k 0 l (fun i s => -B' (r + i) (r + s) * b) g) ⟨none, none, none, none, _, rfl, mt, Pr.start⟩ (fun i σ H' _ ⟨_, _, _, _, _, _, g, _⟩ => hx1 g.same) ?_ ?_⟩
  · rintro k y σ H3 H4 hk ⟨v4, v6, v7, v8, g, rfl, mt3, pr3⟩ yl
    have s4 := ys_pair yl
    obtain ⟨Tp, x1, x2, rfl, hT, rfl, e1, e2⟩ := yl
    cases e1
    rw [vec_lenV] at hk
    have ex := (show ((vec r fun i => (l i : Int)).map V.int)[k]? = some x2 from e2).symm.trans (vecV_at hk)
    cases ex
    refine ⟨_, _, rfl, SqT.of upd_same, rfl, _, _, rfl, _, _, rfl, rfl, ?_⟩
    have mt4 := mt3.keep s4
    generalize hH4 : upd H3 Tp _ = H4 at mt4 ⊢
    refine ⟨_, rfl, x, _, rfl, hx1 mt4.same, for_it (WE.walk_enT (K := K) (a := x) (xs := (vec r fun i => (l i : Int)).map V.int)) (fun m σ H5 => ∃ (v4 v8 : Option V) (g : Nat → Nat → Int), σ = [some (.ref p), some (.ref x), some (.ref u), some (.int d), v4, some (.ref D), some (.int (k : Int)), some (.int (l k : Int)), v8, none] ∧ MT H1 H5 D rs i g ∧ Pr r k m l (fun i s => -B' (r + i) (r + s) * b) g) ⟨_, _, g, rfl, mt4, pr3⟩ (fun i σ H' _ ⟨_, _, _, _, g, _⟩ => hx1 g.same) ?_ ?_⟩
    · rintro m y2 σ H5 H6 hm ⟨v4, v8, g, rfl, mt5, pr5⟩ yl2
      have s6 := ys_pair yl2
      obtain ⟨Tq, x3, x4, rfl, hT2, rfl, e3, e4⟩ := yl2
      cases e3
      rw [vec_lenV] at hm
      have ex2 := (show ((vec r fun i => (l i : Int)).map V.int)[m]? = some x4 from e4).symm.trans (vecV_at hm)
      cases ex2
      refine ⟨_, _, rfl, SqT.of upd_same, rfl, _, _, rfl, _, _, rfl, rfl, ?_⟩
      have mt6 := mt5.keep s6
      generalize hH6 : upd H5 Tq _ = H6 at mt6 ⊢
      obtain ⟨pn, hpn1, hpn2⟩ := hurow k _ (mat_at hk)
      obtain ⟨pr, hpr1, hpr2⟩ := mt6.row (l k) (hl k hk)
      refine ⟨_, rfl, _, rfl, u, _, _, _, rfl, rfl, Same_seqT mt6.same hu1, at_pos (by omega) (by rw [Int.toNat_natCast]; exact hpn1), _, rfl, pn, _, _, _, rfl, rfl, Same_seqT mt6.same hpn2, at_pos (by omega) (by rw [Int.toNat_natCast]; exact vecV_at hm), _, rfl, p, cF, dx, _, _, rfl, mt6.same _ _ (s1 _ _ hi), O.clF, O.F_bottom, rfl, _, _, rfl, rfl, wmul (nB k m hk) hbB w0 kb0 (by omega), ?_⟩
      refine ⟨_, rfl, _, rfl, D, _, _, _, rfl, rfl, SqL.of mt6.at_, at_pos (by omega) (by rw [Int.toNat_natCast, List.getElem?_map, hpr1]; rfl), _, rfl, pr, _, _, l m, rfl, rfl, hpr2, by rw [vec_lenV]; have := hl m hm; unfold ixN; rw [if_pos (by omega), if_pos (by omega)]; congr 1, ?_⟩
      exact ⟨_, _, _, rfl, mt6.set (v := -B' (r + k) (r + m) * b) (hl k hk) (hl m hm) hpr1, pr5.put hinj hk hm⟩
    · rintro σ H5 ⟨v4, v8, g, rfl, mt5, pr5⟩
      rw [vec_lenV] at pr5
      exact ⟨_, _, _, _, g, rfl, mt5, pr5.row⟩
  rintro σ H3 ⟨v4, v6, v7, v8, g, rfl, mt3, pr3⟩
  rw [vec_lenV] at pr3
  have gs := pr3.sym fun a c ha hc => by rw [(run.inv bs.sym).sym]
  refine ⟨_, rfl, _, rfl, rfl, rfl, fun y dy hy hdy hne => ?_⟩
  refine ⟨y, dy, _, mat i g, d, rfl, upd_same, mt3.ltab.sn.same (new_two hy hdy), mat_sqr, mat_sym (fun a c _ _ => gs a c), by rw [mat_len]; omega, dp, dB.mono w9, fun H4 hG hbut => ⟨rfl, ?_⟩⟩
  rw [mat_len, dm_mat] at hG
  exact q y H4 g (s1.trans (mt3.same.trans (made_same hy hdy hbut))) hG pr3
end
end P10
namespace P10
open PySem PySem.Spec PyProof.Rows L2 SX EX WK
theorem led_inj {S : List Nat} (h : S.Pairwise (fun a b => b < a)) {i j : Nat} (hi : i < S.length) (hj : j < S.length) (e : El.led S i = El.led S j) : i = j := by
  rcases Nat.lt_trichotomy i j with c | c | c
  · have := El.led_mono h c hj
    omega
  · exact c
  · have := El.led_mono h c hi
    omega
theorem led_vec (S : List Nat) : (S.reverse.map fun (s : Nat) => (s : Int)) = vec S.length fun i => (El.led S i : Int) := by
  unfold vec
  refine List.ext_getElem? fun i => ?_
  rw [List.getElem?_map, List.getElem?_map]
  by_cases hi : i < S.length
  · rw [List.getElem?_range hi, List.getElem?_eq_getElem (by rw [List.length_reverse]; exact hi)]
    show some _ = some _
    congr 1
    show ((S.reverse[i]'(by rw [List.length_reverse]; exact hi) : Nat) : Int) = ((S.reverse.getD i 0 : Nat) : Int)
    rw [List.getD_eq_getElem?_getD, List.getElem?_eq_getElem (by rw [List.length_reverse]; exact hi)]
    rfl
  · rw [List.getElem?_eq_none (by rw [List.length_reverse]; omega), List.getElem?_eq_none (by rw [List.length_range]; omega)]
    rfl
/-- a table that undoes another one on the leads -/
structure InvF (w kb : Nat) (S : List Nat) (M : Nat → El.Row) (b dd : Int) (T : Nat → Nat → Int) : Prop where
  dp : 0 < dd
  dB : B w dd
  tB : ∀ i j, B (w + kb) (T i j)
  sym : ∀ i j, T i j = T j i
  ex : ∃ N : Nat → El.Row, (∀ p q, p < S.length → q < S.length → T (El.led S p) (El.led S q) = N p q * b) ∧ (∀ i x, i < S.length → x < S.length → El.sm S.length (fun s => N i s * M (El.led S s) (El.led S x)) = if i = x then dd else 0) ∧ ∀ i j, i < S.length → j < S.length → N i j = N j i
  zero : ∀ a c, a ∉ S ∨ c ∉ S → T a c = 0
section
variable {P : Program} {w : World} {K : PySem.W.Frag} {mg : Str → Option Value} {base : Heap} {f : Addr} {fd : FuncData} {cF cR cB cS : Addr}
def spInv (K : PySem.W.Frag) (cF cB : Addr) : Sp := fun vs H Q E => ∃ (p : Addr) (n w kb : Nat) (b bd : Int) (M : Nat → Nat → Int), vs = [.ref p] ∧ FormAt K H cF p n (mat n M) b ∧ JOk n w bd M ∧ B w (El.bnd bd (n + 1)) ∧ B kb b ∧ 0 < kb ∧ kb ≤ 9000 ∧
  (∀ q H' S d B' ps T, Same H H' → El.Run M n S d B' ps → FAt K H' cF q n T d → InvF w kb S M b d T → Q (.ref q) H') ∧ BelX K cB n M H E
abbrev s_inverse : Stmt := top 39
abbrev N_inverse : List Str := ["form"]
theorem sc_inverse : FnScope N_inverse ["form"] (defScope s_inverse) := ⟨rfl, rfl, rfl, by decide +kernel, rfl, by decide +kernel, by decide +kernel⟩
theorem ok_inverse (F : Fun K "inverse" "inverse" s_inverse f fd) (T : Txt mg) (C_plain_inverse : Cal P w K mg base 6 "plain_inverse" ["form", "indexes"] (spPlain K cF)) (C_leads : CalX P w K mg base 6 "leads" ["form"] (spLeadsF K cF cB)) : FnOk P w K mg base (L2N.CX P w) 7 f fd ["form"] (spInv K cF cB) := by
  refine okR F sc_inverse (fun vs H Q E h => ?_) (fun cdv A outer s H vs Q E hr h => ?_)
  · obtain ⟨p, n, w, kb, b, bd, M, rfl, _⟩ := h
    rfl
  obtain ⟨p, n, w, kb, b, bd, M, rfl, hF, jo, hw2, hbB, kb0, kb9, q1, q2⟩ := h
  refine ⟨_, (pss_one (ps_ret (pe_cal C_plain_inverse (hr.mono (by omega)) rfl (pa_cons (pv 0) (pa_cons (pe_calX C_leads (hr.mono (by omega)) rfl (L2N.takes_of rfl rfl rfl rfl) (pa_cons (pv 0) pa_nil)) pa_nil))))), ?_⟩
  have n10 := jo.n10
  have w1 := jo.w1
  have w0 := jo.w0
  have sy := jo.whole.sym
  refine ⟨_, rfl, _, rfl, p, n, w, b, bd, M, rfl, hF, jo, fun t H1 S d B' ps s1 run ht => ?_, q2⟩
  have fall := run.fall
  obtain ⟨B2, ps2, r2, _⟩ := run.aug (El.led S) S.length one (fun i j a b => El.led_mono fall.1 a b) S.length (Nat.le_refl _) (El.led_map S).symm
  have hlen : S.length ≤ n := run.many
  have hw3 : B w (El.bnd bd (S.length + 1)) := by
    have m := El.bnd_mono jo.bd1 (show S.length + 1 ≤ n + 1 by omega)
    have p0 := El.bnd_pos jo.bd1 (S.length + 1)
    have h : (El.bnd bd (n + 1)).natAbs < 2 ^ w := hw2
    show (El.bnd bd (S.length + 1)).natAbs < 2 ^ w
    omega
  have ht' : SqT K H1 t ((vec S.length fun i => (El.led S i : Int)).map V.int) := by
    have e : (ps.reverse.map fun p => (p.1 : Int)) = vec S.length fun i => (El.led S i : Int) := by
      rw [← led_vec, ← run.leads, ← List.map_reverse, List.map_map]
      rfl
    rw [← e]
    exact ht
  obtain ⟨gB, dp, dB⟩ := gj_B sy jo.bd1 jo.abs hw3 r2 (Nat.le_refl _)
  have bs := au_beside sy (El.led S) S.length
  refine ⟨p, t, n, S.length, w, kb, b, bd, d, M, El.led S, B2, ps2, rfl, hF.same s1, ht', hlen, n10, fun i hi => fall.2 _ (El.led_mem hi), fun i j hi hj e => led_inj fall.1 hi hj e, sy, r2, jo.bd1, jo.abs, hw3, w0, by omega, hbB, kb0, kb9, fun q H2 T s2 hT pr => ?_⟩
  refine q1 q H2 S d B' ps T (s1.trans s2) run hT ⟨dp, dB, pr.B fun i s hi hs => ?_, pr.sym fun a c ha hc => by rw [(r2.inv bs.sym).sym], ⟨fun i s => -B2 (S.length + i) (S.length + s), fun i s hi hs => pr.val i s hi hs (.inl hi), fun i x hi hx => ?_, fun i j _ _ => congrArg (fun z => -z) ((r2.inv bs.sym).sym _ _)⟩, fun a c hac => ?_⟩
  · refine P10.B.mul ?_ hbB
    have := gB i (S.length + s) hi
    unfold El.GJ at this
    rw [if_pos hi, if_neg (by omega)] at this
    exact this
  · have := r2.inverse bs hi hx
    rw [El.sm_congr (g := fun s => -B2 (S.length + i) (S.length + s) * M (El.led S s) (El.led S x)) (fun s hs => by
      have : El.Au M (El.led S) S.length one s x = M (El.led S s) (El.led S x) := by
        unfold El.Au
        rw [if_pos hs, if_pos hx]
      rw [this])] at this
    exact this
  · refine pr.zero a c fun i s hi hs _ z => ?_
    rcases hac with h | h
    · exact h (by rw [← z.1]; exact El.led_mem hi)
    · exact h (by rw [← z.2]; exact El.led_mem hs)
end
end P10
namespace P10
open PySem PySem.Spec PyProof.Rows L2 SX EX WK
theorem S_sm (n : Nat) (f : Nat → Int) : S n f = El.sm n f := by
  induction n with
  | zero => rfl
  | succ n ih => rw [S_succ, ih]; rfl
theorem S_Q {n : Nat} {M : Nat → Nat → Int} {x : Nat → Int} : (S n fun i => x i * S n fun j => M i j * x j) = El.Q n M x := by
  rw [S_sm]
  refine El.sm_congr fun i _ => ?_
  rw [S_sm, ← El.sm_mul]
  refine El.sm_congr fun j _ => ?_
  grind
section
variable {P : Program} {w : World} {K : PySem.W.Frag} {mg : Str → Option Value} {base : Heap} {f : Addr} {fd : FuncData} {cF cR : Addr}
def spLawV (K : PySem.W.Frag) : Sp := fun vs H Q _ => ∃ (a p : Addr) (n : Nat) (M : Nat → Nat → Int) (x : Nat → Int), vs = [.ref a, .ref p, .ref p] ∧ LTab H a n M ∧ TV K H p n x ∧ n ≤ 1000 ∧ (∀ i j, i < n → j < n → B 9000 (M i j)) ∧ (∀ i, i < n → B 60000 (x i)) ∧ ∀ H', Same H H' → Q (.int (El.Q n M x)) H'
abbrev s__law_value : Stmt := top 50
abbrev N__law_value : List Str := ["table", "one", "two", "total", "i"]
theorem sc__law_value : FnScope N__law_value ["table", "one", "two"] (defScope s__law_value) := ⟨rfl, rfl, rfl, by decide +kernel, rfl, by decide +kernel, by decide +kernel⟩
theorem ok__law_value (F : Fun K "_law_value" "_law_value" s__law_value f fd) (T : Txt mg) (C__law_dot : Cal P w K mg base 1 "_law_dot" ["one", "two"] (spDot K)) : FnOk P w K mg base CX0 2 f fd ["table", "one", "two"] (spLawV K) := by
  refine F.ok sc__law_value (fun vs H Q E h => ?_) (fun cdv A outer s H vs Q E hr h => ?_)
  · obtain ⟨a, p, n, M, x, rfl, _⟩ := h
    rfl
  obtain ⟨a, p, n, M, x, rfl, ht, hp, hn, hM, hx, q⟩ := h
  refine ⟨_, (pss_cons (ps_set (i := 3) sc__law_value.nd rfl (Or.inl rfl) pe_int)
  (pss_cons (ps_for PassesOwn.never rfl (pi_range1 (by rfl) T.b_range (pa_cons (pe_callB call_len_seq (by rfl) T.b_len PySem.boot_len (pa_cons (pv 0) pa_nil)) pa_nil)) (pg_name (i := 4) sc__law_value.nd rfl (Or.inl rfl)) (pss_one (ps_if (pt_cmpR op_ne (pe_ix ix_tup (pv 1) (pv 4) (fun _ _ => rfl)) pe_int (nomark _)) (pss_one (ps_set (i := 3) sc__law_value.nd rfl (Or.inl rfl) (pe_op op_add (pv 3) (pe_op op_mulW (pe_ix ix_tup (pv 1) (pv 4) (fun _ _ => rfl)) (pe_cal C__law_dot (hr.mono (by omega)) rfl (pa_cons (pe_ix ix_list (pv 0) (pv 4) (fun _ _ => rfl)) (pa_cons (pv 2) pa_nil))))))) pss_nil)))
  (pss_one (ps_ret (pv 3))))), ?_⟩
  have ht' := ht
  obtain ⟨rs, ha, hl, row⟩ := ht'
  have hlen : (rs.map V.ref).length = n := by rw [List.length_map, hl]
  refine ⟨_, rfl, a, _, rfl, .inl (SqL.of ha), (n : Int), by rw [hlen], by omega, by omega, ?_⟩
  refine for_range (lo := 0) (n := n) (fun i σ H1 => ∃ v4 : Option V, σ = [some (.ref a), some (.ref p), some (.ref p), some (.int (S i fun i => x i * S n fun j => M i j * x j)), v4] ∧ Same H H1) ⟨none, rfl, fun _ _ h => h⟩ ?_ ?_
  · rintro i σ H1 hi ⟨v4, rfl, sH⟩
    have e0 : (0 + (i : Int)).toNat = i := by omega
    have hp1 : SqT K H1 p ((vec n x).map V.int) := Same_seqT sH hp
    refine ⟨_, rfl, _, rfl, p, _, _, _, rfl, rfl, hp1, at_pos (by omega) (by rw [e0]; exact vecV_at hi), rfl, _, rfl, ?_⟩
    by_cases c : x i = 0
    · refine ifF (ne_F c) ⟨some (.int (0 + (i : Int))), ?_, sH⟩
      rw [S_succ, c, Int.zero_mul, Int.add_zero]
      rfl
    · obtain ⟨r, h1, h2⟩ := row i hi
      refine ifT (ne_T c) ⟨_, rfl, _, rfl, _, rfl, p, _, _, _, rfl, rfl, hp1, at_pos (by omega) (by rw [e0]; exact vecV_at hi), ?_⟩
      refine ⟨_, rfl, _, rfl, a, _, _, _, rfl, rfl, SqL.of (sH _ _ ha), at_pos (by omega) (by rw [e0, List.getElem?_map, h1]; rfl), _, rfl, .ref r, .ref p, n, 9000, 60000, M i, x, rfl, .lst (sH _ _ h2) ((FzAll.of_ints _).sn), .tup hp1 ((FzAll.of_ints _).sn), hn, fun j hj => hM i j hi hj, hx, by decide, by decide, by decide, fun H2 s2 => ?_⟩
      refine ⟨_, _, rfl, rfl, wmul (hx i hi) (BS (k := 69000) (c := 10) (fun j hj => ?_) (by omega)) (by decide) (by decide) (by decide), _, _, rfl, rfl, some (.int (0 + (i : Int))), ?_, sH.trans s2⟩
      · exact (P10.B.mul (m := 9000) (n := 60000) (hM i j hi hj) (hx j hj)).mono (Nat.le_of_ble_eq_true rfl)
      · rw [S_succ]
        rfl
  · rintro σ H1 ⟨v4, rfl, sH⟩
    refine ⟨_, rfl, ?_⟩
    rw [S_Q]
    exact q H1 sH
end
end P10
namespace P10
open PySem PySem.Spec PyProof.Rows L2 SX EX WK
/-- a drawn line -/
def Ln (H : Hp) (p : Addr) (m : Nat) (y : Nat → Int) : Prop := H p = some (.lst ((vec m y).map V.int)) ∧ ∀ i, i < m → 0 ≤ y i ∧ y i < 1000000000
theorem Ln.same {H H' : Hp} {p : Addr} {m : Nat} {y : Nat → Int} (h : Ln H p m y) (e : Same H H') : Ln H' p m y := ⟨e _ _ h.1, h.2⟩
theorem ixa {m k : Nat} {x : Nat → Int} {z : Int} (h0 : 0 ≤ z) (e : z.toNat = k) (hk : k < m) : atI ((vec m x).map V.int) z = some (.int (x k)) := at_pos h0 (by rw [e]; exact vecV_at hk)
theorem p108 : (10 : Int) ^ (8 : Int).toNat = 100000000 := by decide
theorem none_of {H H' : Hp} {r : Addr} (s : Same H H') (h : H' r = none) : H r = none := by
  cases e : H r with
  | none => rfl
  | some o => rw [s _ _ e] at h; cases h
/-- the even numbers of a line -/
def Ev (y : Nat → Int) : Prop := ∀ k, k < 10 → y (2 * k) < 20000
theorem B40 {x : Int} (h : -1099511627776 < x ∧ x < 1099511627776) : B 40 x := by
  show x.natAbs < 2 ^ 40
  omega
theorem B60 {x : Int} (h : -1000000000000000000 < x ∧ x < 1000000000000000000) : B 60 x := by
  show x.natAbs < 2 ^ 60
  omega
def fW (y : Nat → Int) (k : Nat) : Int := (y (2 * k) - 10000) * 10 ^ (8 : Int).toNat + y (2 * k + 1)
theorem md {x m : Int} (hm : 0 < m) : 0 ≤ x % m ∧ x % m < m := ⟨Int.emod_nonneg _ (by omega), Int.emod_lt_of_pos _ hm⟩
theorem cut_head {m a : Nat} {y : Nat → Int} {z : Int} (e : z = (a : Int)) (h : a ≤ m) : cutV ((vec m y).map V.int) none (some z) = (vec a y).map V.int := by
  unfold cutV
  rw [vec_lenV, sIx_of e h]
  have e0 : HT.sIx m 0 none = 0 := rfl
  rw [e0]
  refine List.ext_getElem? fun i => ?_
  by_cases hi : i < a
  · rw [vecV_at hi, List.getElem?_take, if_pos (by omega), List.drop_zero, vecV_at (by omega)]
  · rw [List.getElem?_eq_none (by rw [List.length_take, List.length_drop, vec_lenV]; omega), List.getElem?_eq_none (by rw [vec_lenV]; omega)]
section
variable {P : Program} {w : World} {K : PySem.W.Frag} {mg : Str → Option Value} {base : Heap} {f : Addr} {fd : FuncData} {cF cR : Addr}
def spWide : Sp := fun vs H Q _ => ∃ (p : Addr) (n : Nat) (y : Nat → Int), vs = [.int n, .ref p] ∧ Ln H p 23 y ∧ Ev y ∧ n ≤ 10 ∧ ∀ r H' x, H r = none → Same H H' → H' r = some (.lst ((vec n x).map V.int)) → (∀ i, i < n → B 40 (x i)) → Q (.ref r) H'
abbrev s__law_wide : Stmt := top 57
abbrev N__law_wide : List Str := ["size", "line", "k"]
theorem sc__law_wide : FnScope N__law_wide ["size", "line"] (defScope s__law_wide) := ⟨rfl, rfl, rfl, by decide +kernel, rfl, by decide +kernel, by decide +kernel⟩
theorem ok__law_wide (F : Fun K "_law_wide" "_law_wide" s__law_wide f fd) (T : Txt mg) : FnOk P w K mg base CX0 1 f fd ["size", "line"] spWide := by
  refine F.ok sc__law_wide (fun vs H Q E h => ?_) (fun cdv A outer s H vs Q E hr h => ?_)
  · obtain ⟨p, n, y, rfl, _⟩ := h
    rfl
  obtain ⟨p, n, y, rfl, hp, ev, hn, q⟩ := h
  refine ⟨_, (pss_one (ps_ret (pe_lc (own := [("k", 2)]) (g := gName 2) (tt := tYes) (by rfl) sc__law_wide.nd (pi_range1 (by rfl) T.b_range (pa_cons (pv 0) pa_nil)) (blkOk_by (N := N__law_wide) (sc := defScope s__law_wide) (by decide +kernel)) (fun _ _ _ _ _ => (pg_name (i := 2) sc__law_wide.nd rfl (Or.inl rfl))) (fun _ _ _ _ _ => pts_nil) (fun _ _ _ _ _ => (pe_op op_add (pe_op op_mul (pe_op op_sub (pe_ix (ix_listK (K := K) rfl) (pv 1) (pe_op op_mul pe_int (pv 2)) (fun _ _ => rfl)) pe_int) (pe_op op_pow pe_int pe_int)) (pe_ix (ix_listK (K := K) rfl) (pv 1) (pe_op op_add (pe_op op_mul pe_int (pv 2)) pe_int) (fun _ _ => rfl))))))), ?_⟩
  refine ⟨_, rfl, (n : Int), rfl, by omega, by omega, fun D hD => ?_⟩
  refine lc_m (walk_range (lo := 0) (n := n)) RI (stb_RI (K := K)) (List.range n) (by rw [List.length_range]) (by rw [List.length_range]; omega) hD (fun _ _ => trivial) (fun _ _ _ _ => ys_fn) (fun k => fW y k) (fun c i x H1 H2 hc s1 s2 yl A B hA => ?_) (fun H' l s1 hl1 rs => ?_)
  · obtain ⟨hc1, rfl⟩ := in_range hc
    rw [yl.2]
    have b1 := hp.2 (2 * i) (by omega)
    have p2 := s2 _ _ hp.1
    refine ⟨rfl, lc_yes ⟨_, rfl, _, rfl, _, _, rfl, rfl, .inl (by decide), p, _, _, _, rfl, rfl, SqL.of p2, ixa (k := 2 * i) (by omega) (by omega) (by omega), _, _, rfl, rfl, _, _, rfl, rfl, ⟨by decide, by decide, by decide⟩, _, _, rfl, rfl, .inl ⟨by omega, by omega⟩, ?_⟩⟩
    exact ⟨_, rfl, _, rfl, _, _, rfl, rfl, .inl (by decide), _, _, rfl, rfl, p, _, _, _, rfl, rfl, SqL.of p2, ixa (k := 2 * i + 1) (by omega) (by omega) (by omega), _, _, rfl, rfl, hA _ _ (fun _ _ h => h) rfl⟩
  · refine q D H' _ hD s1 (by rw [hl1, rs.ints]; rfl) fun i hi => B40 ?_
    have b1 := hp.2 (2 * i) (by omega)
    have b3 := ev i (by omega)
    have b2 := hp.2 (2 * i + 1) (by omega)
    unfold fW
    rw [p108]
    omega
def fS (y : Nat → Int) (i : Nat) : Int := if i < 10 then y (2 * i) % 7 else y (20 + (i - 10))
def spSeven : Sp := fun vs H Q _ => ∃ (p : Addr) (y : Nat → Int), vs = [.ref p] ∧ Ln H p 23 y ∧ ∀ r H', Same H H' → Ln H' r 13 (fS y) → Q (.ref r) H'
abbrev s__law_seven : Stmt := top 56
abbrev N__law_seven : List Str := ["line", "k"]
theorem sc__law_seven : FnScope N__law_seven ["line"] (defScope s__law_seven) := ⟨rfl, rfl, rfl, by decide +kernel, rfl, by decide +kernel, by decide +kernel⟩
theorem ok__law_seven (F : Fun K "_law_seven" "_law_seven" s__law_seven f fd) (T : Txt mg) : FnOk P w K mg base CX0 1 f fd ["line"] spSeven := by
  refine F.ok sc__law_seven (fun vs H Q E h => ?_) (fun cdv A outer s H vs Q E hr h => ?_)
  · obtain ⟨p, y, rfl, _⟩ := h
    rfl
  obtain ⟨p, y, rfl, hp, q⟩ := h
  refine ⟨_, (pss_one (ps_ret (pe_op op_cat (pe_lc (own := [("k", 1)]) (g := gName 1) (tt := tYes) (by rfl) sc__law_seven.nd (pi_range1 (by rfl) T.b_range (pa_cons pe_int pa_nil)) (blkOk_by (N := N__law_seven) (sc := defScope s__law_seven) (by decide +kernel)) (fun _ _ _ _ _ => (pg_name (i := 1) sc__law_seven.nd rfl (Or.inl rfl))) (fun _ _ _ _ _ => pts_nil) (fun _ _ _ _ _ => (pe_op op_mod (pe_callTy call_int1 (by rfl) T.b_int (by decide +kernel) (pa_cons (pe_ix (ix_listK (K := K) rfl) (pv 0) (pe_op op_mul pe_int (pv 1)) (fun _ _ => rfl)) pa_nil)) pe_int))) (pe_slice sl_list (pv 0) (po_some pe_int) po_none)))), ?_⟩
  refine ⟨10, rfl, by decide, by decide, fun D hD => ?_⟩
  refine lc_m (walk_range (lo := 0) (n := 10)) RI (stb_RI (K := K)) (List.range 10) (by rw [List.length_range]) (by rw [List.length_range]; omega) hD (fun _ _ => trivial) (fun _ _ _ _ => ys_fn) (fun k => y (2 * k) % 7) (fun c i x H1 H2 hc s1 s2 yl A B hA => ?_) (fun H' l s1 hl1 rs => ?_)
  · obtain ⟨hc1, rfl⟩ := in_range hc
    rw [yl.2]
    exact ⟨rfl, lc_yes ⟨_, rfl, _, rfl, _, _, rfl, rfl, .inl (by decide), p, _, _, _, rfl, rfl, SqL.of (s2 _ _ hp.1), ixa (k := 2 * i) (by omega) (by omega) (by omega), .inl ⟨_, rfl, _, _, rfl, rfl, (by show (0 : Int) < 7; decide), hA _ _ (fun _ _ h => h) rfl⟩⟩⟩
  have e1 : H' D = some (.lst ((vec 10 fun k => y (2 * k) % 7).map V.int)) := by rw [hl1, rs.ints]; rfl
  refine ⟨_, rfl, _, rfl, p, _, rfl, SqL.of (s1 _ _ hp.1), fun l2 hl2 => ?_⟩
  have s2 := same_new (H := H') hl2 (.lst (cutV ((vec 23 y).map V.int) (some 20) none))
  refine ⟨D, l2, _, _, rfl, rfl, s2 _ _ e1, upd_same, ?_, fun r hr' => ?_⟩
  · rw [show (some (20 : Int)) = some ((20 : Nat) : Int) from rfl, cut_tail (a := 20) (b := 3) rfl, vec_lenV, vec_lenV]
    exact line_ge (by decide)
  · refine q r _ (s1.trans (s2.trans (same_new hr' _))) ⟨?_, fun i hi => ?_⟩
    · rw [upd_same, show (some (20 : Int)) = some ((20 : Nat) : Int) from rfl, cut_tail (a := 20) (b := 3) rfl, vec_cat]
      rfl
    · unfold fS
      split
      · have := md (x := y (2 * i)) (m := 7) (by decide)
        omega
      · exact hp.2 _ (by omega)
def spDrow : Sp := fun vs H Q _ => ∃ (p : Addr) (n : Nat) (k : Int) (z : Nat → Int), vs = [.int n, .int k, .ref p] ∧ Ln H p 13 z ∧ n ≤ 10 ∧ ∀ r H' x, H r = none → Same H H' → H' r = some (.lst ((vec n x).map V.int)) → (∀ i, i < n → B 40 (x i)) → Q (.ref r) H'
theorem b2_le (p : Bool) : 0 ≤ b2 p ∧ b2 p ≤ 1 := by cases p <;> decide
theorem b2_01 (p : Bool) : b2 p = 0 ∨ b2 p = 1 := by cases p <;> simp [b2]
theorem bi_le (p : Bool) : 0 ≤ (if p = true then (1 : Int) else 0) ∧ (if p = true then (1 : Int) else 0) ≤ 1 := by cases p <;> decide
theorem mulb {x b : Int} (hx : -1000000000000 < x ∧ x < 1000000000000) (hb : b = 0 ∨ b = 1) : -1000000000000 < x * b ∧ x * b < 1000000000000 := by
  rcases hb with h | h
  · rw [h, Int.mul_zero]
    omega
  · rw [h, Int.mul_one]
    exact hx
theorem bi01 (p : Bool) : (if p = true then (1 : Int) else 0) = 0 ∨ (if p = true then (1 : Int) else 0) = 1 := by cases p <;> simp
abbrev s__law_draw_row : Stmt := top 53
abbrev N__law_draw_row : List Str := ["size", "kind", "row", "small", "one", "two", "k"]
theorem sc__law_draw_row : FnScope N__law_draw_row ["size", "kind", "row"] (defScope s__law_draw_row) := ⟨rfl, rfl, rfl, by decide +kernel, rfl, by decide +kernel, by decide +kernel⟩
theorem ok__law_draw_row (F : Fun K "_law_draw_row" "_law_draw_row" s__law_draw_row f fd) (T : Txt mg) : FnOk P w K mg base CX0 1 f fd ["size", "kind", "row"] spDrow := by
  refine F.ok sc__law_draw_row (fun vs H Q E h => ?_) (fun cdv A outer s H vs Q E hr h => ?_)
  · obtain ⟨p, n, k, z, rfl, _⟩ := h
    rfl
  obtain ⟨p, n, k, z, rfl, hp, hn, q⟩ := h
  refine ⟨_, (pss_cons (ps_setLc (i := 3) (own := [("k", 6)]) (g := gName 6) (tt := tYes) (by rfl) sc__law_draw_row.nd rfl rfl (sw_true rfl rfl rfl (by decide +kernel)) (pi_range1 (by rfl) T.b_range (pa_cons (pv 0) pa_nil)) (blkOk_by (N := N__law_draw_row) (sc := defScope s__law_draw_row) (by decide +kernel)) (fun _ _ _ _ _ => (pg_name (i := 6) sc__law_draw_row.nd rfl (Or.inl rfl))) (fun _ _ _ _ _ => pts_nil) (fun _ _ _ _ _ => (pe_op op_sub (pe_ix (ix_listK (K := K) rfl) (pv 2) (pv 6) (fun _ _ => rfl)) pe_int)))
  (C8.pss_cut (ps_if (PW.pt (pw_and (pt_cmpR op_gt (pv 0) pe_int (nomark _)) (pw_and1 (pt_cmpR op_eq (pv 1) pe_int (nomark _))))) (pss_cons (ps_set (i := 4) sc__law_draw_row.nd rfl (Or.inr rfl) (pe_op op_mod (pe_callTy call_int1 (by rfl) T.b_int (by decide +kernel) (pa_cons (pe_ix ix_list (pv 2) pe_int (fun _ _ => rfl)) pa_nil)) (pv 0)))
  (pss_cons (ps_set (i := 5) sc__law_draw_row.nd rfl (Or.inr rfl) (pe_op op_mod (pe_callTy call_int1 (by rfl) T.b_int (by decide +kernel) (pa_cons (pe_op op_add (pe_op op_add (pv 4) pe_int) (pe_op op_mod (pe_callTy call_int1 (by rfl) T.b_int (by decide +kernel) (pa_cons (pe_ix ix_list (pv 2) pe_int (fun _ _ => rfl)) pa_nil)) (pe_op op_sub (pv 0) pe_int))) pa_nil)) (pv 0)))
  (pss_one (ps_ret (pe_lc (own := [("k", 6)]) (g := gName 6) (tt := tYes) (by rfl) sc__law_draw_row.nd (pi_range1 (by rfl) T.b_range (pa_cons (pv 0) pa_nil)) (blkOk_by (N := N__law_draw_row) (sc := defScope s__law_draw_row) (by decide +kernel)) (fun _ _ _ _ _ => (pg_name (i := 6) sc__law_draw_row.nd rfl (Or.inl rfl))) (fun _ _ _ _ _ => pts_nil) (fun _ _ _ _ _ => (pe_op op_sub (pe_callTy call_int1 (by rfl) T.b_int (by decide +kernel) (pa_cons (pe_cmpR op_eq (pv 6) (pv 4) (nomark _)) pa_nil)) (pe_callTy call_int1 (by rfl) T.b_int (by decide +kernel) (pa_cons (pe_cmpR op_eq (pv 6) (pv 5) (nomark _)) pa_nil))))))))) pss_nil)
  (C8.pss_cut (ps_if (PW.pt (pw_and (pt_cmpR op_gt (pv 0) pe_int (nomark _)) (pw_and1 (pt_cmpR op_eq (pv 1) pe_int (nomark _))))) (pss_one (ps_ret (pe_op op_cat (pe_slice sl_list (pv 3) po_none (po_some (pe_op op_sub (pv 0) pe_int))) (pe_lst (pa_cons (pe_ix ix_list (pv 3) pe_int (fun _ _ => rfl)) pa_nil))))) pss_nil)
  (pss_cons (ps_if (pt_cmpR op_eq (pv 1) pe_int (nomark _)) (pss_one (ps_ret (pe_ifExp (pt_cmpR op_lt (pv 0) pe_int (nomark _)) (pe_lc (own := [("k", 6)]) (g := gName 6) (tt := tYes) (by rfl) sc__law_draw_row.nd (pi_range1 (by rfl) T.b_range (pa_cons (pv 0) pa_nil)) (blkOk_by (N := N__law_draw_row) (sc := defScope s__law_draw_row) (by decide +kernel)) (fun _ _ _ _ _ => (pg_name (i := 6) sc__law_draw_row.nd rfl (Or.inl rfl))) (fun _ _ _ _ _ => pts_nil) (fun _ _ _ _ _ => (pe_op op_add (pe_op op_mul (pe_op op_sub (pe_ix (ix_listK (K := K) rfl) (pv 2) (pv 6) (fun _ _ => rfl)) pe_int) pe_int) (pe_ix (ix_listK (K := K) rfl) (pv 2) (pe_op op_add (pv 6) pe_int) (fun _ _ => rfl))))) (pv 3)))) pss_nil)
  (pss_cons (ps_if (pt_cmpR op_eq (pv 1) pe_int (nomark _)) (pss_one (ps_ret (pe_lc (own := [("k", 6)]) (g := gName 6) (tt := tYes) (by rfl) sc__law_draw_row.nd (pi_range1 (by rfl) T.b_range (pa_cons (pv 0) pa_nil)) (blkOk_by (N := N__law_draw_row) (sc := defScope s__law_draw_row) (by decide +kernel)) (fun _ _ _ _ _ => (pg_name (i := 6) sc__law_draw_row.nd rfl (Or.inl rfl))) (fun _ _ _ _ _ => pts_nil) (fun _ _ _ _ _ => (pe_op op_mul (pe_op op_sub (pe_ix (ix_listK (K := K) rfl) (pv 2) (pv 6) (fun _ _ => rfl)) pe_int) (pe_callTy call_int1 (by rfl) T.b_int (by decide +kernel) (pa_cons (pe_cmpR op_ge (pe_ix (ix_listK (K := K) rfl) (pv 2) (pv 6) (fun _ _ => rfl)) pe_int (nomark _)) pa_nil))))))) pss_nil)
  (C8.pss_cut (ps_if (PW.pt (pw_and (pt_cmpR op_gt (pv 0) pe_int (nomark _)) (pw_and1 (pt_cmpR op_eq (pv 1) pe_int (nomark _))))) (pss_one (ps_ret (pe_lc (own := [("k", 6)]) (g := gName 6) (tt := tYes) (by rfl) sc__law_draw_row.nd (pi_range1 (by rfl) T.b_range (pa_cons (pv 0) pa_nil)) (blkOk_by (N := N__law_draw_row) (sc := defScope s__law_draw_row) (by decide +kernel)) (fun _ _ _ _ _ => (pg_name (i := 6) sc__law_draw_row.nd rfl (Or.inl rfl))) (fun _ _ _ _ _ => pts_nil) (fun _ _ _ _ _ => (pe_op op_mul (pe_callTy call_int1 (by rfl) T.b_int (by decide +kernel) (pa_cons (pe_cmpR op_eq (pv 6) (pe_op op_mod (pe_callTy call_int1 (by rfl) T.b_int (by decide +kernel) (pa_cons (pe_ix (ix_listK (K := K) rfl) (pv 2) pe_int (fun _ _ => rfl)) pa_nil)) (pv 0)) (nomark _)) pa_nil)) (pe_op op_add pe_int (pe_op op_mod (pe_callTy call_int1 (by rfl) T.b_int (by decide +kernel) (pa_cons (pe_ix (ix_listK (K := K) rfl) (pv 2) pe_int (fun _ _ => rfl)) pa_nil)) pe_int))))))) pss_nil)
  (C8.pss_cut (ps_if (PW.pt (pw_and (pt_cmpR op_eq (pv 1) pe_int (nomark _)) (pw_and1 (pt_cmpR op_eq (pe_ix ix_list (pv 2) pe_int (fun _ _ => rfl)) pe_int (nomark _))))) (pss_one (ps_ret (pe_lc (own := [("k", 6)]) (g := gName 6) (tt := tYes) (by rfl) sc__law_draw_row.nd (pi_range1 (by rfl) T.b_range (pa_cons (pv 0) pa_nil)) (blkOk_by (N := N__law_draw_row) (sc := defScope s__law_draw_row) (by decide +kernel)) (fun _ _ _ _ _ => (pg_name (i := 6) sc__law_draw_row.nd rfl (Or.inl rfl))) (fun _ _ _ _ _ => pts_nil) (fun _ _ _ _ _ => pe_int)))) pss_nil)
  (pss_one (ps_ret (pv 3)))))))))), ?_⟩
  refine ⟨_, rfl, (n : Int), rfl, by omega, by omega, fun D hD => ?_⟩
  refine lc_m (walk_range (lo := 0) (n := n)) RI (stb_RI (K := K)) (List.range n) (by rw [List.length_range]) (by rw [List.length_range]; omega) hD (fun _ _ => trivial) (fun _ _ _ _ => ys_fn) (fun k => z k - 3) (fun c i x H1 H2 hc s1 s2 yl A B hA => ?_) (fun H1 l s1 hl1 rs => ?_)
  · obtain ⟨hc1, rfl⟩ := in_range hc
    rw [yl.2]
    exact ⟨rfl, lc_yes ⟨_, rfl, _, rfl, p, _, _, _, rfl, rfl, SqL.of (s2 _ _ hp.1), ixv (by omega), _, _, rfl, rfl, hA _ _ (fun _ _ h => h) rfl⟩⟩
  have hs : H1 D = some (.lst ((vec n fun k => z k - 3).map V.int)) := by rw [hl1, rs.ints]; rfl
  have bs : ∀ i, i < n → B 40 (z i - 3) := fun i hi => B40 (by have := hp.2 i (by omega); omega)
  have hp1 := s1 _ _ hp.1
  have pst : ∀ i, i < 13 → -1000 < z i ∧ z i < 1000000000 := fun i hi => by have := hp.2 i hi; omega
  have rg : (-(2 ^ 62) : Int) ≤ (n : Int) ∧ (n : Int) < 2 ^ 62 := ⟨by omega, by omega⟩
  -- 4
  refine ⟨fun σ' H' => σ' = [some (.int n), some (.int k), some (.ref p), some (.ref D), none, none, none] ∧ H' = H1, ?_, ?_⟩
  · refine ⟨_, rfl, _, _, rfl, rfl, _, rfl, ite2 (fun c1 => ?_) (fun _ => ⟨rfl, rfl⟩)⟩
    have hn1 : 1 < (n : Int) := of_decide_eq_true c1
    refine ⟨_, rfl, rfl, _, rfl, ite2 (fun _ => ?_) (fun _ => ⟨rfl, rfl⟩)⟩
    refine ⟨_, rfl, p, _, 0, _, rfl, rfl, SqL.of hp1, ixa (k := 0) (by decide) rfl (by decide), .inl ⟨_, rfl, _, rfl, _, _, rfl, rfl, (by show (0 : Int) < n; omega), ?_⟩⟩
    refine ⟨_, rfl, _, _, rfl, rfl, _, rfl, p, _, 1, _, rfl, rfl, SqL.of hp1, ixa (k := 1) (by decide) rfl (by decide), .inl ⟨_, rfl, _, rfl, _, _, rfl, rfl, _, _, rfl, rfl, (by show (0 : Int) < (n : Int) - 1; omega), _, _, rfl, rfl, .inl ⟨_, rfl, _, rfl, _, _, rfl, rfl, (by show (0 : Int) < n; omega), ?_⟩⟩⟩
    refine ⟨_, rfl, (n : Int), rfl, rg.1, rg.2, fun D2 hD2 => ?_⟩
    refine lc_m (walk_range (lo := 0) (n := n)) RI (stb_RI (K := K)) (List.range n) (by rw [List.length_range]) (by rw [List.length_range]; omega) hD2 (fun _ _ => trivial) (fun _ _ _ _ => ys_fn) (fun (i : Nat) => b2 (decide (V.int (0 + (i : Int)) = V.int (z 0 % (n : Int)))) - b2 (decide (V.int (0 + (i : Int)) = V.int ((z 0 % (n : Int) + 1 + z 1 % ((n : Int) - 1)) % (n : Int))))) (fun c i x H3 H4 hc s3 s4 yl A B hA => ?_) (fun H3 l s3 hl3 rs => ?_)
    · obtain ⟨hc1, rfl⟩ := in_range hc
      rw [yl.2]
      exact ⟨rfl, lc_yes ⟨_, rfl, _, rfl, rfl, .inr ⟨_, rfl, _, rfl, _, rfl, rfl, .inr ⟨_, rfl, _, _, rfl, rfl, hA _ _ (fun _ _ h => h) rfl⟩⟩⟩⟩
    · refine q D2 H3 _ (none_of s1 hD2) (s1.trans s3) (by rw [hl3, rs.ints]; rfl) fun i hi => B40 ?_
      have h1 := b2_le (decide (V.int (0 + (i : Int)) = V.int (z 0 % (n : Int))))
      have h2 := b2_le (decide (V.int (0 + (i : Int)) = V.int ((z 0 % (n : Int) + 1 + z 1 % ((n : Int) - 1)) % (n : Int))))
      omega
  rintro σ H' ⟨rfl, rfl⟩
  -- 5
  refine ⟨fun σ' H2 => σ' = [some (.int n), some (.int k), some (.ref p), some (.ref D), none, none, none] ∧ H2 = H', ?_, ?_⟩
  · refine ⟨_, rfl, _, _, rfl, rfl, _, rfl, ite2 (fun c1 => ?_) (fun _ => ⟨rfl, rfl⟩)⟩
    have hn1 : 1 < (n : Int) := of_decide_eq_true c1
    refine ⟨_, rfl, rfl, _, rfl, ite2 (fun _ => ?_) (fun _ => ⟨rfl, rfl⟩)⟩
    refine ⟨_, rfl, _, rfl, _, _, rfl, rfl, _, rfl, D, _, rfl, SqL.of hs, fun l2 hl2 => ?_⟩
    have s2 := same_new (H := H') hl2 (.lst (cutV ((vec n fun k => z k - 3).map V.int) none (some ((n : Int) - 1))))
    refine ⟨_, rfl, D, _, 0, _, rfl, rfl, SqL.of (s2 _ _ hs), ixa (k := 0) (by decide) rfl (by omega), line_ge (by show 1 ≤ 100000; decide), fun l3 hl3 => ?_⟩
    have s3 := same_new hl3 (.lst [V.int (z 0 - 3)])
    have hc := cut_head (m := n) (y := fun k => z k - 3) (a := n - 1) (z := (n : Int) - 1) (by omega) (by omega)
    refine ⟨l2, l3, _, _, rfl, rfl, s3 _ _ upd_same, upd_same, ?_, fun r hr' => ?_⟩
    · rw [hc, vec_lenV]
      exact line_ge (by show n - 1 + 1 ≤ 100000; omega)
    · refine q r _ (fun i => if i < n - 1 then z i - 3 else z 0 - 3) (none_of (s1.trans (s2.trans s3)) hr') (s1.trans (s2.trans (s3.trans (same_new hr' _)))) ?_ fun i hi => ?_
      · rw [upd_same, hc, show [V.int (z 0 - 3)] = (vec 1 fun _ => z 0 - 3).map V.int from rfl, vec_cat, show n - 1 + 1 = n by omega]
      · show B 40 (if i < n - 1 then z i - 3 else z 0 - 3)
        split
        · exact bs i hi
        · exact bs 0 (by omega)
  rintro σ H2 ⟨rfl, rfl⟩
  -- 6
  refine ⟨_, rfl, rfl, _, rfl, ite2 (fun _ => ?_) (fun _ => ?_)⟩
  · refine ⟨_, rfl, _, _, rfl, rfl, _, rfl, ite2 (fun c => ?_) (fun _ => ⟨_, rfl, q D H2 _ hD s1 hs bs⟩)⟩
    have hn9 : (n : Int) < 10 := of_decide_eq_true c
    refine ⟨_, rfl, (n : Int), rfl, rg.1, rg.2, fun D2 hD2 => ?_⟩
    refine lc_m (walk_range (lo := 0) (n := n)) RI (stb_RI (K := K)) (List.range n) (by rw [List.length_range]) (by rw [List.length_range]; omega) hD2 (fun _ _ => trivial) (fun _ _ _ _ => ys_fn) (fun i => (z i - 3) * 37 + z (i + 1)) (fun c i x H3 H4 hc s3 s4 yl A B hA => ?_) (fun H3 l s3 hl3 rs => ?_)
    · obtain ⟨hc1, rfl⟩ := in_range hc
      rw [yl.2]
      have b1 := pst i (by omega)
      exact ⟨rfl, lc_yes ⟨_, rfl, _, rfl, p, _, _, _, rfl, rfl, SqL.of (s4 _ _ hp1), ixv (by omega), _, _, rfl, rfl, _, _, rfl, rfl, .inr (by decide), _, rfl, _, rfl, _, _, rfl, rfl, p, _, _, _, rfl, rfl, SqL.of (s4 _ _ hp1), ixa (k := i + 1) (by omega) (by omega) (by omega), _, _, rfl, rfl, hA _ _ (fun _ _ h => h) rfl⟩⟩
    · refine q D2 H3 _ (none_of s1 hD2) (s1.trans s3) (by rw [hl3, rs.ints]; rfl) fun i hi => B40 ?_
      have b1 := pst i (by omega)
      have b2 := pst (i + 1) (by omega)
      omega
  -- 7
  refine ⟨_, rfl, rfl, _, rfl, ite2 (fun _ => ?_) (fun _ => ?_)⟩
  · refine ⟨_, rfl, (n : Int), rfl, rg.1, rg.2, fun D2 hD2 => ?_⟩
    refine lc_m (walk_range (lo := 0) (n := n)) RI (stb_RI (K := K)) (List.range n) (by rw [List.length_range]) (by rw [List.length_range]; omega) hD2 (fun _ _ => trivial) (fun _ _ _ _ => ys_fn) (fun i => (z i - 3) * b2 (decide (z i ≥ 4))) (fun c i x H3 H4 hc s3 s4 yl A B hA => ?_) (fun H3 l s3 hl3 rs => ?_)
    · obtain ⟨hc1, rfl⟩ := in_range hc
      rw [yl.2]
      have b1 := pst i (by omega)
      exact ⟨rfl, lc_yes ⟨_, rfl, _, rfl, p, _, _, _, rfl, rfl, SqL.of (s4 _ _ hp1), ixv (by omega), _, _, rfl, rfl, _, rfl, _, rfl, p, _, _, _, rfl, rfl, SqL.of (s4 _ _ hp1), ixv (by omega), _, _, rfl, rfl, .inr ⟨_, rfl, _, _, rfl, rfl, .inl ⟨by omega, by omega⟩, hA _ _ (fun _ _ h => h) rfl⟩⟩⟩
    · refine q D2 H3 _ (none_of s1 hD2) (s1.trans s3) (by rw [hl3, rs.ints]; rfl) fun i hi => B40 ?_
      have b1 := pst i (by omega)
      have := mulb (x := z i - 3) (by omega) (b2_01 (decide (z i ≥ 4)))
      omega
  -- 8
  refine ⟨fun σ' H3 => σ' = [some (.int n), some (.int k), some (.ref p), some (.ref D), none, none, none] ∧ H3 = H2, ?_, ?_⟩
  · refine ⟨_, rfl, _, _, rfl, rfl, _, rfl, ite2 (fun c1 => ?_) (fun _ => ⟨rfl, rfl⟩)⟩
    have hn1 : 0 < (n : Int) := of_decide_eq_true c1
    refine ⟨_, rfl, rfl, _, rfl, ite2 (fun _ => ?_) (fun _ => ⟨rfl, rfl⟩)⟩
    refine ⟨_, rfl, (n : Int), rfl, rg.1, rg.2, fun D2 hD2 => ?_⟩
    refine lc_m (walk_range (lo := 0) (n := n)) RI (stb_RI (K := K)) (List.range n) (by rw [List.length_range]) (by rw [List.length_range]; omega) hD2 (fun _ _ => trivial) (fun _ _ _ _ => ys_fn) (fun (i : Nat) => b2 (decide (V.int (0 + (i : Int)) = V.int (z 0 % (n : Int)))) * (1 + z 1 % 3)) (fun c i x H3 H4 hc s3 s4 yl A B hA => ?_) (fun H3 l s3 hl3 rs => ?_)
    · obtain ⟨hc1, rfl⟩ := in_range hc
      rw [yl.2]
      have h1 := b2_le (decide (V.int (0 + (i : Int)) = V.int (z 0 % (n : Int))))
      refine ⟨rfl, lc_yes ⟨_, rfl, _, rfl, p, _, 0, _, rfl, rfl, SqL.of (s4 _ _ hp1), ixa (k := 0) (by decide) rfl (by decide), .inl ⟨_, rfl, _, rfl, _, _, rfl, rfl, hn1, rfl, .inr ⟨_, rfl, ?_⟩⟩⟩⟩
      exact ⟨_, rfl, p, _, 1, _, rfl, rfl, SqL.of (s4 _ _ hp1), ixa (k := 1) (by decide) rfl (by decide), .inl ⟨_, rfl, _, _, rfl, rfl, (by show (0 : Int) < 3; decide), _, _, rfl, rfl, _, _, rfl, rfl, .inl (by have h2 : (if decide (V.int (0 + (i : Int)) = V.int (z 0 % (n : Int))) = true then (1 : Int) else 0) = b2 (decide (V.int (0 + (i : Int)) = V.int (z 0 % (n : Int)))) := rfl; first | (constructor <;> omega) | (rw [h2]; constructor <;> omega)), hA _ _ (fun _ _ h => h) rfl⟩⟩
    · refine q D2 H3 _ (none_of s1 hD2) (s1.trans s3) (by rw [hl3, rs.ints]; rfl) fun i hi => B40 ?_
      have h0 := md (x := z 1) (m := 3) (by decide)
      rw [Int.mul_comm]
      have := mulb (x := 1 + z 1 % 3) (by omega) (b2_01 (decide (V.int (0 + (i : Int)) = V.int (z 0 % (n : Int)))))
      omega
  rintro σ H3 ⟨rfl, rfl⟩
  -- 9
  refine ⟨fun σ' H4 => σ' = [some (.int n), some (.int k), some (.ref p), some (.ref D), none, none, none] ∧ H4 = H3, ?_, ?_⟩
  · refine ⟨_, rfl, rfl, _, rfl, ite2 (fun _ => ?_) (fun _ => ⟨rfl, rfl⟩)⟩
    refine ⟨_, rfl, p, _, 0, _, rfl, rfl, SqL.of hp1, ixa (k := 0) (by decide) rfl (by decide), rfl, _, rfl, ite2 (fun _ => ?_) (fun _ => ⟨rfl, rfl⟩)⟩
    refine ⟨_, rfl, (n : Int), rfl, rg.1, rg.2, fun D2 hD2 => ?_⟩
    refine lc_m (walk_range (lo := 0) (n := n)) RI (stb_RI (K := K)) (List.range n) (by rw [List.length_range]) (by rw [List.length_range]; omega) hD2 (fun _ _ => trivial) (fun _ _ _ _ => ys_fn) (fun _ => (0 : Int)) (fun c i x H5 H4 hc s3 s4 yl A B hA => ?_) (fun H4 l s3 hl3 rs => ?_)
    · rw [yl.2]
      exact ⟨rfl, lc_yes (hA _ _ (fun _ _ h => h) rfl)⟩
    · exact q D2 H4 _ (none_of s1 hD2) (s1.trans s3) (by rw [hl3, rs.ints]; rfl) fun i hi => B40 (by decide)
  rintro σ H4 ⟨rfl, rfl⟩
  exact ⟨_, rfl, q D H4 _ hD s1 hs bs⟩
end
end P10
namespace P10
open PySem PySem.Spec PyProof.Rows L2 SX EX WK
theorem szs {zs : List Int} (h : ∀ z ∈ zs, 0 < z ∧ z < 9223372036854775808) : ∀ z ∈ zs, 0 < z ∧ z.natAbs < 2 ^ 2000 := fun z hz => by
  have h1 := h z hz
  refine ⟨h1.1, ?_⟩
  have h2 : z.natAbs < 2 ^ 63 := by omega
  exact Nat.lt_of_lt_of_le h2 (Nat.pow_le_pow_right (by decide) (by decide))
theorem pick {cs : List Int} {d : Int} (h0 : 0 ≤ d) (h1 : d < (cs.length : Nat)) : ∃ x, x ∈ cs ∧ (cs.map V.int)[d.toNat]? = some (.int x) := by
  have hl : d.toNat < cs.length := by omega
  exact ⟨cs[d.toNat], List.getElem_mem hl, at_int (List.getElem?_eq_getElem hl)⟩
/-- the lines of a script -/
def LLn (H : Hp) (a : Addr) (m : Nat) : Prop := ∃ vs : List V, H a = some (.lst vs) ∧ vs.length = m ∧ ∀ (i : Nat), i < m → ∃ p y, vs[i]? = some (.ref p) ∧ Ln H p 23 y ∧ Ev y
theorem LLn.same {H H' : Hp} {a : Addr} {m : Nat} (h : LLn H a m) (e : Same H H') : LLn H' a m := by
  obtain ⟨vs, h1, h2, h3⟩ := h
  refine ⟨vs, e _ _ h1, h2, fun i hi => ?_⟩
  obtain ⟨p, y, h4, h5, h6⟩ := h3 i hi
  exact ⟨p, y, h4, h5.same e, h6⟩
theorem put_sym {n i j : Nat} {f : Nat → Nat → Int} {v : Int} (h : ∀ a b, a < n → b < n → f a b = f b a) : ∀ a b, a < n → b < n → put (put f i j v) j i v a b = put (put f i j v) j i v b a := fun a b ha hb => by
  unfold put
  by_cases c1 : a = i ∧ b = j
  · by_cases c2 : a = j ∧ b = i
    · rw [if_pos c2, if_pos (by omega)]
    · rw [if_neg c2, if_pos c1, if_pos (by omega)]
  · by_cases c2 : a = j ∧ b = i
    · rw [if_pos c2]
      by_cases c3 : b = j ∧ a = i
      · omega
      · rw [if_neg c3, if_pos (by omega)]
    · rw [if_neg c2, if_neg c1, if_neg (by omega), if_neg (by omega)]
      exact h a b ha hb
theorem put_B {n i j k : Nat} {f : Nat → Nat → Int} {v : Int} (h : ∀ a b, a < n → b < n → B k (f a b)) (hv : B k v) : ∀ a b, a < n → b < n → B k (put f i j v a b) := fun a b ha hb => by
  unfold put
  split
  · exact hv
  · exact h a b ha hb
theorem B80 {x : Int} (h : -1000000000000000000000 < x ∧ x < 1000000000000000000000) : B 80 x := by
  show x.natAbs < 2 ^ 80
  omega
theorem p1012 : (10 : Int) ^ (12 : Int).toNat = 1000000000000 := by decide
section
variable {P : Program} {w : World} {K : PySem.W.Frag} {mg : Str → Option Value} {base : Heap} {f : Addr} {fd : FuncData} {cF cR : Addr}
def spAny : Sp := fun vs H Q _ => ∃ (a : Addr) (n : Nat) (k : Int), vs = [.int n, .int k, .ref a] ∧ LLn H a 10 ∧ n ≤ 10 ∧ ∀ r H' g, Same H H' → LTab H' r n g → (∀ i j, i < n → j < n → g i j = g j i) → (∀ i j, i < n → j < n → B 80 (g i j)) → Q (.ref r) H'
abbrev s__law_any_table : Stmt := top 59
abbrev N__law_any_table : List Str := ["size", "kind", "lines", "i", "j", "table", "wide", "number"]
theorem sc__law_any_table : FnScope N__law_any_table ["size", "kind", "lines"] (defScope s__law_any_table) := ⟨rfl, rfl, rfl, by decide +kernel, rfl, by decide +kernel, by decide +kernel⟩
theorem ok__law_any_table (F : Fun K "_law_any_table" "_law_any_table" s__law_any_table f fd) (T : Txt mg) (C__law_wide : Cal P w K mg base 1 "_law_wide" ["size", "line"] spWide) : FnOk P w K mg base CX0 2 f fd ["size", "kind", "lines"] spAny := by
  refine F.ok sc__law_any_table (fun vs H Q E h => ?_) (fun cdv A outer s H vs Q E hr h => ?_)
  · obtain ⟨a, n, k, rfl, _⟩ := h
    rfl
  obtain ⟨a, n, kd, rfl, hll, hn, q⟩ := h
  refine ⟨_, (pss_cons (ps_setLc (i := 5) (own := [("i", 3)]) (g := gName 3) (tt := tYes) (by rfl) sc__law_any_table.nd rfl rfl (sw_true rfl rfl rfl (by decide +kernel)) (pi_range1 (by rfl) T.b_range (pa_cons (pv 0) pa_nil)) (blkOk_by (N := N__law_any_table) (sc := defScope s__law_any_table) (by decide +kernel)) (fun _ _ _ _ _ => (pg_name (i := 3) sc__law_any_table.nd rfl (Or.inl rfl))) (fun _ _ _ _ _ => pts_nil) (fun _ _ _ _ _ => (pe_lc (own := [("j", 4)]) (g := gName 4) (tt := tYes) (by rfl) sc__law_any_table.nd (pi_range1 (by rfl) T.b_range (pa_cons (pv 0) pa_nil)) (blk_nest (N := N__law_any_table) (sc0 := defScope s__law_any_table) rfl (by decide +kernel)) (fun _ _ _ _ _ => (pg_name (i := 4) sc__law_any_table.nd rfl (Or.inl rfl))) (fun _ _ _ _ _ => pts_nil) (fun _ _ _ _ _ => pe_int))))
  (pss_cons (ps_for PassesOwn.never rfl (pi_range1 (by rfl) T.b_range (pa_cons (pv 0) pa_nil)) (pg_name (i := 3) sc__law_any_table.nd rfl (Or.inl rfl)) (pss_cons (ps_set (i := 6) sc__law_any_table.nd rfl (Or.inl rfl) (pe_cal C__law_wide (hr.mono (by omega)) rfl (pa_cons (pv 0) (pa_cons (pe_ix ix_list (pv 2) (pv 3) (fun _ _ => rfl)) pa_nil))))
  (pss_one (ps_for PassesOwn.never rfl (pi_range2 (by rfl) T.b_range (pa_cons (pv 3) (pa_cons (pv 0) pa_nil))) (pg_name (i := 4) sc__law_any_table.nd rfl (Or.inl rfl)) (pss_cons (ps_set (i := 7) sc__law_any_table.nd rfl (Or.inl rfl) (pe_op op_sub (pe_op op_mod (pe_callTy call_int1 (by rfl) T.b_int (by decide +kernel) (pa_cons (pe_ix ix_list /-?-/ (pe_ix ix_list (pv 2) (pv 3) (fun _ _ => rfl)) (pe_op op_mul pe_int (pv 4)) (fun _ _ => rfl)) pa_nil)) pe_int) pe_int))
  (C8.pss_cut (ps_if (PW.pt (pw_or (pt_cmpR op_eq (pv 1) pe_int (nomark _)) (pw_or1 (pt_cmpR op_eq (pv 1) pe_int (nomark _))))) (pss_one (ps_set (i := 7) sc__law_any_table.nd rfl (Or.inl rfl) (pe_ix ix_list (pv 6) (pv 4) (fun _ _ => rfl)))) pss_nil)
  (C8.pss_cut (ps_if (pt_cmpR op_eq (pv 1) pe_int (nomark _)) (pss_one (ps_set (i := 7) sc__law_any_table.nd rfl (Or.inl rfl) (pe_ix ix_list (pe_lst (pa_cons pe_int (pa_cons pe_int (pa_cons pe_int (pa_cons pe_int (pa_cons (pe_un un_neg pe_int) (pa_cons pe_int pa_nil))))))) (pe_op op_mod (pe_callTy call_int1 (by rfl) T.b_int (by decide +kernel) (pa_cons (pe_ix ix_list /-?-/ (pe_ix ix_list (pv 2) (pv 3) (fun _ _ => rfl)) (pe_op op_mul pe_int (pv 4)) (fun _ _ => rfl)) pa_nil)) pe_int) (fun _ _ => rfl)))) pss_nil)
  (C8.pss_cut (ps_if (PW.pt (pw_and (pt_cmpR op_eq (pv 3) (pv 4) (nomark _)) (pw_and1 (pt_cmpR op_eq (pv 1) pe_int (nomark _))))) (pss_one (ps_set (i := 7) sc__law_any_table.nd rfl (Or.inl rfl) (pe_op op_add (pv 7) (pe_op op_mul pe_int (pv 0))))) pss_nil)
  (C8.pss_cut (ps_if (PW.pt (pw_and (pt_cmpR op_eq (pv 3) (pv 4) (nomark _)) (pw_and1 (pt_cmpR op_eq (pv 1) pe_int (nomark _))))) (pss_one (ps_set (i := 7) sc__law_any_table.nd rfl (Or.inl rfl) (pe_op op_add (pv 7) (pe_op op_mul (pe_op op_pow pe_int pe_int) (pv 0))))) pss_nil)
  (pss_cons (ps_asg (pv 7) (pg_sub (pe_ix ix_list (pv 5) (pv 3) (fun _ _ => rfl)) (pv 4) set_list))
  (pss_one (ps_asg (pv 7) (pg_sub (pe_ix ix_list (pv 5) (pv 4) (fun _ _ => rfl)) (pv 3) set_list)))))))))))))
  (pss_one (ps_ret (pv 5))))), ?_⟩
  obtain ⟨vs, ha, hl, hrow⟩ := hll
  refine ⟨_, rfl, (n : Int), rfl, by omega, by omega, fun D hD => ?_⟩
  refine ⟨fun i m H' => m = n - i ∧ i ≤ n ∧ ∃ rs, ZT H H' D rs n i, ⟨_, rfl, Nat.zero_le _, [], new_same hD _, upd_same, rfl, List.nodup_nil, by simp, by simp, by simp⟩, ?_⟩
  rintro i m H1 ⟨rfl, hi, rs, z⟩
  by_cases hlt : i < n
  · refine .inr ⟨by show i < (n : Int).toNat; omega, fun H' => ∃ rs, ZT H H' D rs n (i + 1), fun H' h' => ⟨_, by omega, rfl, hlt, h'⟩, ?_⟩
    rintro x H2 ⟨rfl, rfl⟩
    refine ⟨rfl, lc_yes ⟨_, rfl, (n : Int), rfl, by omega, by omega, fun D2 hD2 => ?_⟩⟩
    refine lc_m (walk_range (lo := 0) (n := n)) RI (stb_RI (K := K)) (List.range n) (by rw [List.length_range]) (by rw [List.length_range]; omega) hD2 (fun _ _ => trivial) (fun _ _ _ _ => ys_fn) (fun _ => (0 : Int)) (fun c j x2 H3 H4 hc s3 s4 y A B hA => ?_) (fun H3 l s3 hl3 rs3 => ?_)
    · rw [y.2]
      exact ⟨rfl, lc_yes (hA _ _ (fun _ _ h => h) rfl)⟩
    · have hz := zero_vec (m := n) rs3
      refine ⟨rs.map V.ref, s3 _ _ z.at_, sizes (by rw [List.length_map, z.len]; omega), rs ++ [D2], ?_⟩
      exact z.snoc hD s3 hD2 (by rw [hl3, hz])
  · have ei : i = n := by omega
    subst ei
    refine .inl ⟨by show (i : Int).toNat ≤ i; omega, ?_⟩
    clear hlt
    have mt := z.mt
    refine ⟨_, rfl, (i : Int), rfl, by omega, by omega, for_range (lo := 0) (n := i) (fun r σ H' => ∃ (v3 v4 v6 v7 : Option V) (g : Nat → Nat → Int), σ = [some (.int i), some (.int kd), some (.ref a), v3, v4, some (.ref D), v6, v7] ∧ MT H H' D rs i g ∧ (∀ a b, a < i → b < i → g a b = g b a) ∧ (∀ a b, a < i → b < i → B 80 (g a b))) ⟨none, none, none, none, _, rfl, mt, fun _ _ _ _ => rfl, fun _ _ _ _ => by decide⟩ ?_ ?_⟩
    · rintro r σ H2 hr ⟨v3, v4, v6, v7, g, rfl, mt2, sy, bd⟩
      obtain ⟨pl, y, hpl, hln, hev⟩ := hrow r (by omega)
      have er : (0 + (r : Int)).toNat = r := by omega
      refine ⟨_, rfl, _, rfl, _, rfl, a, _, _, _, rfl, rfl, SqL.of (mt2.same _ _ ha), at_pos (by omega) (by rw [er]; exact hpl), pl, i, y, rfl, hln.same mt2.same, hev, hn, fun wd H3 x hwf s3 hwd hwb => ?_⟩
      have mt3 := mt2.keep s3
      have hln3 := hln.same mt3.same
      refine ⟨_, rfl, _, rfl, 0 + (r : Int), (i : Int), rfl, ⟨by omega, by omega, by omega, by omega⟩, ?_⟩
      refine for_range (lo := 0 + (r : Int)) (n := ((i : Int) - (0 + (r : Int))).toNat) (fun c σ H' => ∃ (v4 v7 : Option V) (g : Nat → Nat → Int), σ = [some (.int i), some (.int kd), some (.ref a), some (.int (0 + (r : Int))), v4, some (.ref D), some (.ref wd), v7] ∧ H' wd = some (.lst ((vec i x).map V.int)) ∧ MT H H' D rs i g ∧ (∀ a b, a < i → b < i → g a b = g b a) ∧ (∀ a b, a < i → b < i → B 80 (g a b))) ⟨v4, v7, g, rfl, hwd, mt3, sy, bd⟩ ?_ ?_
      · rintro c σ H4 hc ⟨v4, v7, g, rfl, s4, mt4, sy, bd⟩
        have hri : r < i := by omega
        have hj : r + c < i := by omega
        have ej : (0 + (r : Int) + (c : Int)).toNat = r + c := by omega
        have ha4 := SqL.of (K := K) (mt4.same _ _ ha)
        have hl4 := SqL.of (K := K) (hln.same mt4.same).1
        have by4 := hln.2 (2 * (r + c)) (by omega)
        have ixl : atI ((vec 23 y).map V.int) (2 * (0 + (r : Int) + (c : Int))) = some (.int (y (2 * (r + c)))) := ixa (by omega) (by omega) (by omega)
        have ixj : ∀ x : Nat → Int, atI ((vec i x).map V.int) (0 + (r : Int) + (c : Int)) = some (.int (x (r + c))) := fun x => ixa (by omega) ej hj
        refine ⟨_, rfl, _, rfl, a, _, _, _, rfl, rfl, ha4, at_pos (by omega) (by rw [er]; exact hpl), _, rfl, _, _, rfl, rfl, .inl (by decide), pl, _, _, _, rfl, rfl, hl4, ixl, .inl ⟨_, rfl, _, _, rfl, rfl, (by show (0 : Int) < 19; decide), _, _, rfl, rfl, ?_⟩⟩
        have b0 := md (x := y (2 * (r + c))) (m := 19) (by decide)
        refine ⟨fun σ' H' => ∃ nb : Int, σ' = [some (.int i), some (.int kd), some (.ref a), some (.int (0 + (r : Int))), some (.int (0 + (r : Int) + (c : Int))), some (.ref D), some (.ref wd), some (.int nb)] ∧ Same H4 H' ∧ -2000000000000000000 < nb ∧ nb < 2000000000000000000, ?_, ?_⟩
        · have body : (x (r + c)).natAbs < 2 ^ 60 := (show B 40 (x (r + c)) from hwb _ hj).mono (show 40 ≤ 60 by decide)
          have b1 : -2000000000000000000 < x (r + c) ∧ x (r + c) < 2000000000000000000 := by omega
          refine ⟨_, rfl, rfl, _, rfl, ite2 (fun _ => ?_) (fun _ => ⟨_, rfl, rfl, _, rfl, ite2 (fun _ => ?_) (fun _ => ⟨_, rfl, fun _ _ h => h, by omega, by omega⟩)⟩)⟩
          · exact ⟨_, rfl, _, rfl, wd, _, _, _, rfl, rfl, SqL.of s4, ixj x, _, rfl, fun _ _ h => h, b1.1, b1.2⟩
          · exact ⟨_, rfl, _, rfl, wd, _, _, _, rfl, rfl, SqL.of s4, ixj x, _, rfl, fun _ _ h => h, b1.1, b1.2⟩
        rintro σ H5 ⟨nb, rfl, s5, n1, n2⟩
        refine ⟨fun σ' H' => ∃ nb : Int, σ' = [some (.int i), some (.int kd), some (.ref a), some (.int (0 + (r : Int))), some (.int (0 + (r : Int) + (c : Int))), some (.ref D), some (.ref wd), some (.int nb)] ∧ Same H4 H' ∧ -2000000000000000000 < nb ∧ nb < 2000000000000000000, ?_, ?_⟩
        · refine ⟨_, rfl, rfl, _, rfl, ite2 (fun _ => ?_) (fun _ => ⟨nb, rfl, s5, n1, n2⟩)⟩
          refine ⟨_, rfl, line_ge (by show 6 ≤ 100000; decide), fun l hl6 => ?_⟩
          have s6 := same_new hl6 (.lst [V.int 0, V.int 0, V.int 0, V.int 1, V.int (-1), V.int 2])
          have g0 := md (x := y (2 * (r + c))) (m := 6) (by decide)
          obtain ⟨u, hu, hp⟩ := pick (cs := [0, 0, 0, 1, -1, 2]) g0.1 g0.2
          have hb : ∀ x ∈ ([0, 0, 0, 1, -1, 2] : List Int), -2 < x ∧ x < 3 := by decide
          have hub := hb u hu
          refine ⟨_, rfl, _, rfl, a, _, _, _, rfl, rfl, (s5.trans s6).seq ha4, at_pos (by omega) (by rw [er]; exact hpl), _, rfl, _, _, rfl, rfl, .inl (by decide), pl, _, _, _, rfl, rfl, (s5.trans s6).seq hl4, ixl, .inl ⟨_, rfl, _, _, rfl, rfl, (by show (0 : Int) < 6; decide), l, _, _, _, rfl, rfl, SqL.of upd_same, at_pos g0.1 hp, u, rfl, s5.trans s6, by omega, by omega⟩⟩
        rintro σ H6 ⟨nb, rfl, s6, n1, n2⟩
        refine ⟨fun σ' H' => ∃ nb : Int, σ' = [some (.int i), some (.int kd), some (.ref a), some (.int (0 + (r : Int))), some (.int (0 + (r : Int) + (c : Int))), some (.ref D), some (.ref wd), some (.int nb)] ∧ Same H4 H' ∧ -3000000000000000000 < nb ∧ nb < 3000000000000000000, ?_, ?_⟩
        · refine ⟨_, rfl, _, rfl, rfl, _, rfl, ite2 (fun _ => ?_) (fun _ => ⟨nb, rfl, s6, by omega, by omega⟩)⟩
          refine ⟨_, rfl, rfl, _, rfl, ite2 (fun _ => ?_) (fun _ => ⟨nb, rfl, s6, by omega, by omega⟩)⟩
          exact ⟨_, rfl, _, rfl, _, _, rfl, rfl, .inl (by decide), _, _, rfl, rfl, nb + 4 * (i : Int), rfl, s6, by omega, by omega⟩
        rintro σ H7 ⟨nb, rfl, s7, n1, n2⟩
        refine ⟨fun σ' H' => ∃ nb : Int, σ' = [some (.int i), some (.int kd), some (.ref a), some (.int (0 + (r : Int))), some (.int (0 + (r : Int) + (c : Int))), some (.ref D), some (.ref wd), some (.int nb)] ∧ Same H4 H' ∧ -4000000000000000000 < nb ∧ nb < 4000000000000000000, ?_, ?_⟩
        · refine ⟨_, rfl, _, rfl, rfl, _, rfl, ite2 (fun _ => ?_) (fun _ => ⟨nb, rfl, s7, by omega, by omega⟩)⟩
          refine ⟨_, rfl, rfl, _, rfl, ite2 (fun _ => ?_) (fun _ => ⟨nb, rfl, s7, by omega, by omega⟩)⟩
          refine ⟨_, rfl, _, _, rfl, rfl, ⟨by decide, by decide, by decide⟩, _, rfl, _, _, rfl, rfl, .inl (by decide), _, _, rfl, rfl, nb + 10 ^ (12 : Int).toNat * (i : Int), rfl, s7, ?_, ?_⟩
          · rw [p1012]
            omega
          · rw [p1012]
            omega
        rintro σ H8 ⟨nb, rfl, s8, n1, n2⟩
        have hb : B 80 nb := B80 (by omega)
        have mt8 := mt4.keep s8
        obtain ⟨pr, hpr1, hpr2⟩ := mt8.row r hri
        have ix : atI (rs.map V.ref) (0 + (r : Int)) = some (.ref pr) := at_pos (by omega) (by rw [er, List.getElem?_map, hpr1]; rfl)
        refine ⟨_, rfl, _, rfl, _, rfl, D, _, _, _, rfl, rfl, SqL.of mt8.at_, ix, _, rfl, pr, _, _, r + c, rfl, rfl, hpr2, by rw [vec_lenV]; unfold ixN; rw [if_pos (by omega), if_pos (by omega)]; congr 1, ?_⟩
        have st := mt8.set (v := nb) hri hj hpr1
        obtain ⟨pq, hpq1, hpq2⟩ := st.row (r + c) hj
        have ix2 : atI (rs.map V.ref) (0 + (r : Int) + (c : Int)) = some (.ref pq) := at_pos (by omega) (by rw [ej, List.getElem?_map, hpq1]; rfl)
        refine ⟨_, rfl, _, rfl, _, rfl, D, _, _, _, rfl, rfl, SqL.of st.at_, ix2, _, rfl, pq, _, _, r, rfl, rfl, hpq2, by rw [vec_lenV]; unfold ixN; rw [if_pos (by omega), if_pos (by omega)]; congr 1, ?_⟩
        have st2 := st.set (v := nb) hj hri hpq1
        have hw8 := s8 _ _ s4
        have wne : ∀ p0 ∈ rs, wd ≠ p0 := fun p0 m0 z => by
          obtain ⟨ii, hii, e⟩ := List.getElem_of_mem m0
          obtain ⟨p1, h1, h2⟩ := mt2.row ii (by have := mt2.len; omega)
          rw [List.getElem?_eq_getElem hii, e] at h1
          cases h1
          rw [← z, hwf] at h2
          cases h2
        have hw9 : upd (upd H8 pr (.lst (((vec i (g r)).map V.int).set (r + c) (.int nb)))) pq (.lst (((vec i (put g r (r + c) nb (r + c))).map V.int).set r (.int nb))) wd = some (.lst ((vec i x).map V.int)) := by
          rw [upd_ne (wne pq (List.mem_of_getElem? hpq1)), upd_ne (wne pr (List.mem_of_getElem? hpr1))]
          exact hw8
        exact ⟨some (.int (0 + (r : Int) + (c : Int))), some (.int nb), _, rfl, hw9, st2, put_sym sy, put_B (put_B bd hb) hb⟩
      · rintro σ H4 ⟨v4, v7, g, rfl, s4, mt4, sy, bd⟩
        exact ⟨some (.int (0 + (r : Int))), v4, some (.ref wd), v7, g, rfl, mt4, sy, bd⟩
    · rintro σ H2 ⟨v3, v4, v6, v7, g, rfl, mt2, sy, bd⟩
      exact ⟨_, rfl, q D H2 g mt2.same mt2.ltab sy bd⟩
end
end P10
namespace P10
open PySem PySem.Spec PyProof.Rows L2 SX EX WK
theorem dg {ns zs : List Int} {i : Nat} {z : Int} (d : Dig ns zs) (e : zs[i]? = some z) : ∃ n, (ns.map V.int)[i]? = some (.int n) ∧ 0 ≤ n ∧ n < z := by
  obtain ⟨n, h1, h2, h3⟩ := d.get e
  exact ⟨n, at_int h1, h2, h3⟩
theorem Dig.mem {ns zs : List Int} (d : Dig ns zs) {m : Int} (h : ∀ z ∈ zs, z ≤ m) : ∀ n ∈ ns, 0 ≤ n ∧ n < m := fun n hn => by
  obtain ⟨i, hi⟩ := List.mem_iff_getElem?.mp hn
  have hl : i < zs.length := by
    have := (List.getElem?_eq_some_iff.mp hi).1
    have := d.len
    omega
  obtain ⟨n', h1, h2, h3⟩ := d.get (List.getElem?_eq_getElem hl)
  rw [hi] at h1
  cases h1
  have := h _ (List.getElem_mem hl)
  omega
/-- a list that grows -/
structure Gr {α : Type} (R : Hp → V → α → Prop) (H0 : Hp) (D : Addr) (zs : List α) (H : Hp) : Prop where
  same : Same H0 H
  at_ : ∃ vs, H D = some (.lst vs) ∧ Rs R H vs zs
theorem Gr.start {α : Type} {R : Hp → V → α → Prop} {H : Hp} {D : Addr} (h : H D = none) : Gr R H D [] (upd H D (.lst [])) := ⟨new_same h _, [], upd_same, Rs.nil⟩
theorem Gr.keep {α : Type} {R : Hp → V → α → Prop} {H0 H H' : Hp} {D : Addr} {zs : List α} (st : StbD D R) (g : Gr R H0 D zs H) (e : Same H H') : Gr R H0 D zs H' := by
  obtain ⟨s, vs, h1, h2⟩ := g
  exact ⟨s.trans e, vs, e _ _ h1, h2.tkD st ⟨vs, h1⟩ fun b o _ h => e _ _ h⟩
theorem Gr.push {α : Type} {R : Hp → V → α → Prop} {H0 H : Hp} {D : Addr} {zs : List α} {vs : List V} {v : V} {z : α} (st : StbD D R) (s : Same H0 H) (hD : H0 D = none) (h1 : H D = some (.lst vs)) (h2 : Rs R H vs zs) (r : R H v z) : Gr R H0 D (zs ++ [z]) (upd H D (.lst (vs ++ [v]))) := by
  refine ⟨same_at s hD, _, upd_same, Rs.snoc (h2.tkD st ⟨vs, h1⟩ fun b o hb h => ?_) (st _ _ _ _ ⟨vs, h1⟩ (fun b o hb h => ?_) r)⟩
  all_goals
    rw [upd_ne hb]
    exact h
theorem B50 {x : Int} (h : -1125899906842624 < x ∧ x < 1125899906842624) : B 50 x := by
  show x.natAbs < 2 ^ 50
  omega
theorem vec_mem {n : Nat} {x : Nat → Int} {k : Nat} (h : ∀ i, i < n → B k (x i)) : ∀ y ∈ vec n x, B k y := fun y hy => by
  obtain ⟨i, hi, rfl⟩ := List.mem_map.mp hy
  exact h i (List.mem_range.mp hi)
section
variable {P : Program} {w : World} {K : PySem.W.Frag} {mg : Str → Option Value} {base : Heap} {f : Addr} {fd : FuncData} {cF cR : Addr}
def spWt : Sp := fun vs H Q _ => ∃ (k : Int) (p : Addr) (z : Nat → Int), vs = [.int k, .ref p] ∧ Ln H p 13 z ∧ ∀ s H', Same H H' → 1 ≤ s → B 50 s → Q (.int s) H'
abbrev s__law_draw_weight : Stmt := top 54
abbrev N__law_draw_weight : List Str := ["kind", "row"]
theorem sc__law_draw_weight : FnScope N__law_draw_weight ["kind", "row"] (defScope s__law_draw_weight) := ⟨rfl, rfl, rfl, by decide +kernel, rfl, by decide +kernel, by decide +kernel⟩
theorem ok__law_draw_weight (F : Fun K "_law_draw_weight" "_law_draw_weight" s__law_draw_weight f fd) (T : Txt mg) : FnOk P w K mg base CX0 1 f fd ["kind", "row"] spWt := by
  refine F.ok sc__law_draw_weight (fun vs H Q E h => ?_) (fun cdv A outer s H vs Q E hr h => ?_)
  · obtain ⟨k, p, z, rfl, _⟩ := h
    rfl
  obtain ⟨k, a, z, rfl, hp, q⟩ := h
  refine ⟨_, (pss_cons (ps_if (pt_cmpR op_eq (pv 0) pe_int (nomark _)) (pss_one (ps_ret pe_int)) pss_nil)
  (pss_cons (ps_if (pt_cmpR op_eq (pv 0) pe_int (nomark _)) (pss_one (ps_ret (pe_op op_add (pe_op op_add pe_int (pe_ix ix_list (pv 1) pe_int (fun _ _ => rfl))) (pe_op op_mul pe_int (pe_ix ix_list (pv 1) pe_int (fun _ _ => rfl)))))) pss_nil)
  (pss_cons (ps_if (pt_cmpR op_eq (pv 0) pe_int (nomark _)) (pss_one (ps_ret (pe_op op_add pe_int (pe_ix ix_list (pv 1) pe_int (fun _ _ => rfl))))) pss_nil)
  (pss_cons (ps_if (pt_cmpR op_eq (pv 0) pe_int (nomark _)) (pss_one (ps_ret (pe_ix ix_list (pe_lst (pa_cons pe_int (pa_cons pe_int pa_nil))) (pe_op op_mod (pe_callTy call_int1 (by rfl) T.b_int (by decide +kernel) (pa_cons (pe_ix ix_list (pv 1) pe_int (fun _ _ => rfl)) pa_nil)) pe_int) (fun _ _ => rfl)))) pss_nil)
  (pss_cons (ps_if (pt_cmpR op_eq (pv 0) pe_int (nomark _)) (pss_one (ps_ret (pe_op op_add pe_int (pe_op op_mul (pe_ix ix_list (pv 1) pe_int (fun _ _ => rfl)) pe_int)))) pss_nil)
  (pss_one (ps_ret (pe_op op_add pe_int (pe_ix ix_list (pv 1) pe_int (fun _ _ => rfl)))))))))), ?_⟩
  have sm : Same H H := fun _ _ h => h
  have ha := SqL.of (K := K) hp.1
  have b0 := hp.2 10 (by decide)
  have b1 := hp.2 11 (by decide)
  have b2 := hp.2 12 (by decide)
  have i0 : atI ((vec 13 z).map V.int) 10 = some (.int (z 10)) := ixa (k := 10) (by decide) rfl (by decide)
  have i1 : atI ((vec 13 z).map V.int) 11 = some (.int (z 11)) := ixa (k := 11) (by decide) rfl (by decide)
  have i2 : atI ((vec 13 z).map V.int) 12 = some (.int (z 12)) := ixa (k := 12) (by decide) rfl (by decide)
  refine ⟨_, rfl, rfl, _, rfl, ite2 (fun _ => q 1 H sm (by decide) (B50 (by decide))) (fun _ => ?_)⟩
  refine ⟨_, rfl, rfl, _, rfl, ite2 (fun _ => ?_) (fun _ => ?_)⟩
  · exact ⟨_, rfl, a, _, 11, _, rfl, rfl, ha, i1, _, _, rfl, rfl, _, rfl, a, _, 12, _, rfl, rfl, ha, i2, _, _, rfl, rfl, .inl (by decide), _, _, rfl, rfl, q _ H sm (by omega) (B50 (by omega))⟩
  refine ⟨_, rfl, rfl, _, rfl, ite2 (fun _ => ?_) (fun _ => ?_)⟩
  · exact ⟨_, rfl, a, _, 11, _, rfl, rfl, ha, i1, _, _, rfl, rfl, q _ H sm (by omega) (B50 (by omega))⟩
  refine ⟨_, rfl, rfl, _, rfl, ite2 (fun _ => ?_) (fun _ => ?_)⟩
  · refine ⟨two_line, fun l hl => ⟨_, rfl, a, _, 11, _, rfl, rfl, (same_new hl _).seq ha, i1, .inl ⟨_, rfl, _, _, rfl, rfl, (by show (0 : Int) < 2; decide), ?_⟩⟩⟩
    have g := md (x := z 11) (m := 2) (by decide)
    obtain ⟨x, hx, hp⟩ := pick (cs := [1, 1000000]) g.1 g.2
    have hb : ∀ x ∈ ([1, 1000000] : List Int), 1 ≤ x ∧ x ≤ 1000000 := by decide
    exact ⟨l, _, _, _, rfl, rfl, SqL.of upd_same, at_pos g.1 hp, q _ _ (same_new hl _) (hb x hx).1 (B50 (by have := hb x hx; omega))⟩
  refine ⟨_, rfl, rfl, _, rfl, ite2 (fun _ => ?_) (fun _ => ?_)⟩
  · exact ⟨_, rfl, a, _, 11, _, rfl, rfl, ha, i1, _, _, rfl, rfl, .inr (by decide), _, _, rfl, rfl, q _ H sm (by omega) (B50 (by omega))⟩
  exact ⟨_, rfl, a, _, 10, _, rfl, rfl, ha, i0, _, _, rfl, rfl, q _ H sm (by omega) (B50 (by omega))⟩
def spLine : Sp := fun vs H Q _ => ∃ c : Int, vs = [.int c] ∧ ∀ r H' y, H r = none → Same H H' → Ln H' r 23 y → Ev y → Q (.ref r) H'
def zsL : List Int := [20000, 100000000, 20000, 100000000, 20000, 100000000, 20000, 100000000, 20000, 100000000, 20000, 100000000, 20000, 100000000, 20000, 100000000, 20000, 100000000, 20000, 100000000, 9, 1000, 100000000]
abbrev s__law_line : Stmt := top 55
abbrev N__law_line : List Str := ["cell"]
theorem sc__law_line : FnScope N__law_line ["cell"] (defScope s__law_line) := ⟨rfl, rfl, rfl, by decide +kernel, rfl, by decide +kernel, by decide +kernel⟩
theorem ok__law_line (F : Fun K "_law_line" "_law_line" s__law_line f fd) (T : Txt mg) (C__law_digits : Cal P w K mg base 1 "_law_digits" ["cell", "sizes"] (spDigits K)) : FnOk P w K mg base CX0 2 f fd ["cell"] spLine := by
  refine F.ok sc__law_line (fun vs H Q E h => ?_) (fun cdv A outer s H vs Q E hr h => ?_)
  · obtain ⟨c, rfl, _⟩ := h
    rfl
  obtain ⟨c, rfl, q⟩ := h
  refine ⟨_, (pss_one (ps_ret (pe_cal C__law_digits (hr.mono (by omega)) rfl (pa_cons (pv 0) (pa_cons (pe_op op_cat (pe_op op_rep (pe_lst (pa_cons pe_int (pa_cons (pe_op op_pow pe_int pe_int) pa_nil))) pe_int) (pe_lst (pa_cons pe_int (pa_cons pe_int (pa_cons (pe_op op_pow pe_int pe_int) pa_nil))))) pa_nil))))), ?_⟩
  refine ⟨_, rfl, _, _, rfl, rfl, ⟨by decide, by decide, by decide⟩, two_line, fun l1 hl1 => ⟨l1, 10, _, rfl, rfl, upd_same, by decide, by decide, line_ge (by decide), fun l2 hl2 => ?_⟩⟩
  refine ⟨_, _, rfl, rfl, ⟨by decide, by decide, by decide⟩, three_line, fun l3 hl3 => ?_⟩
  refine ⟨l2, l3, _, _, rfl, rfl, same_new hl3 _ _ _ upd_same, upd_same, line_ge (by decide), fun l4 hl4 => ?_⟩
  have s4 := fun o => (same_new hl1 _).trans ((same_new hl2 _).trans ((same_new hl3 _).trans (same_new hl4 o)))
  refine ⟨c, l4, zsL, rfl, SqL.of (by rw [upd_same]; rfl), by decide, szs (by decide), fun p ns hp hd => ?_⟩
  have hl : ns.length = 23 := hd.len
  refine q p _ (fun i => ns.getD i 0) ?_ ((s4 _).trans (same_new hp _)) ⟨by rw [upd_same, ← vec_of hl], fun i hi => ?_⟩ (fun k hk => ?_)
  · cases e : H p with
    | none => rfl
    | some u => rw [s4 _ _ _ e] at hp; cases hp
  · have hi2 : i < ns.length := by omega
    have e : ns.getD i 0 = ns[i] := by rw [List.getD_eq_getElem?_getD, List.getElem?_eq_getElem hi2]; rfl
    show 0 ≤ ns.getD i 0 ∧ ns.getD i 0 < 1000000000
    rw [e]
    have := hd.mem (m := 1000000000) (by decide) _ (List.getElem_mem hi2)
    exact this
  · have hz : ∀ k, k < 10 → zsL[2 * k]? = some 20000 := by decide
    obtain ⟨m, h1, _, h3⟩ := hd.get (hz k hk)
    show ns.getD (2 * k) 0 < 20000
    rw [List.getD_eq_getElem?_getD, h1]
    exact h3
def spRowD : Sp := fun vs H Q _ => ∃ (p : Addr) (n : Nat) (k : Int) (y : Nat → Int), vs = [.int n, .int k, .ref p] ∧ Ln H p 23 y ∧ Ev y ∧ n ≤ 10 ∧ ∀ r H' x, H r = none → Same H H' → H' r = some (.lst ((vec n x).map V.int)) → (∀ i, i < n → B 40 (x i)) → Q (.ref r) H'
abbrev s__law_row : Stmt := top 58
abbrev N__law_row : List Str := ["size", "kind", "line"]
theorem sc__law_row : FnScope N__law_row ["size", "kind", "line"] (defScope s__law_row) := ⟨rfl, rfl, rfl, by decide +kernel, rfl, by decide +kernel, by decide +kernel⟩
theorem ok__law_row (F : Fun K "_law_row" "_law_row" s__law_row f fd) (T : Txt mg) (C__law_wide : Cal P w K mg base 1 "_law_wide" ["size", "line"] spWide) (C__law_seven : Cal P w K mg base 1 "_law_seven" ["line"] spSeven) (C__law_draw_row : Cal P w K mg base 1 "_law_draw_row" ["size", "kind", "row"] spDrow) : FnOk P w K mg base CX0 2 f fd ["size", "kind", "line"] spRowD := by
  refine F.ok sc__law_row (fun vs H Q E h => ?_) (fun cdv A outer s H vs Q E hr h => ?_)
  · obtain ⟨p, n, k, y, rfl, _⟩ := h
    rfl
  obtain ⟨p, n, k, y, rfl, hp, ev, hn, q⟩ := h
  refine ⟨_, (pss_cons (ps_if (pt_cmpR op_ge (pv 1) pe_int (nomark _)) (pss_one (ps_ret (pe_cal C__law_wide (hr.mono (by omega)) rfl (pa_cons (pv 0) (pa_cons (pv 2) pa_nil))))) pss_nil)
  (pss_one (ps_ret (pe_cal C__law_draw_row (hr.mono (by omega)) rfl (pa_cons (pv 0) (pa_cons (pv 1) (pa_cons (pe_cal C__law_seven (hr.mono (by omega)) rfl (pa_cons (pv 2) pa_nil)) pa_nil))))))), ?_⟩
  refine ⟨_, rfl, _, _, rfl, rfl, _, rfl, ite2 (fun _ => ?_) (fun _ => ?_)⟩
  · exact ⟨_, rfl, _, rfl, p, n, y, rfl, hp, ev, hn, fun r H' x hf s h1 h2 => q r H' x hf s h1 h2⟩
  · refine ⟨_, rfl, _, rfl, _, rfl, p, y, rfl, hp, fun r H' s hr' => ?_⟩
    exact ⟨r, n, k, _, rfl, hr', hn, fun r2 H2 x hf s2 h1 h2 => q r2 H2 x (none_of s hf) (s.trans s2) h1 h2⟩
end
end P10
namespace P10
open PySem PySem.Spec PyProof.Rows L2 SX EX WK
/-- between two states: the rows below i are done, of the row i the first j -/
def mix (f g : Nat → Nat → Int) (i j : Nat) : Nat → Nat → Int := fun a b => if a < i ∨ (a = i ∧ b < j) then g a b else f a b
theorem mix_put (f g : Nat → Nat → Int) (i j : Nat) : ∀ a b, put (mix f g i j) i j (g i j) a b = mix f g i (j + 1) a b := fun a b => by
  unfold put mix
  by_cases h : a = i ∧ b = j
  · rw [if_pos h, if_pos (.inr ⟨h.1, by omega⟩), h.1, h.2]
  · rw [if_neg h]
    by_cases h2 : a < i ∨ (a = i ∧ b < j)
    · rw [if_pos h2, if_pos (by omega)]
    · rw [if_neg h2, if_neg (by omega)]
theorem mix_at (f g : Nat → Nat → Int) (i j : Nat) : mix f g i j i j = f i j := by
  unfold mix
  rw [if_neg (by omega)]
theorem mix_row (f g : Nat → Nat → Int) (n i : Nat) : ∀ a b, a < n → b < n → mix f g i n a b = mix f g (i + 1) 0 a b := fun a b ha hb => by
  unfold mix
  by_cases h : a < i + 1
  · rw [if_pos (by omega), if_pos (by omega)]
  · rw [if_neg (by omega), if_neg (by omega)]
/-- a row and its weight -/
abbrev RZ := (Nat → Int) × Int
def wsz (ps : List RZ) (i j : Nat) : Int := (ps.map fun p => p.2 * p.1 i * p.1 j).sum
theorem wsz_snoc {ps : List RZ} {k : Nat} {p : RZ} (h : ps[k]? = some p) (i j : Nat) : wsz (ps.take (k + 1)) i j = wsz (ps.take k) i j + p.2 * p.1 i * p.1 j := by
  unfold wsz
  rw [take_one h, List.map_append, List.sum_append]
  simp
def LT (H : Hp) (r : Addr) (xs : List V) : Prop := H r = some (.lst xs) ∨ H r = some (.tup xs)
theorem LT.same {H H' : Hp} {r : Addr} {xs : List V} (h : LT H r xs) (s : Same H H') : LT H' r xs := h.imp (s _ _) (s _ _)
/-- a pair: a row, as a list or a tuple, and a weight of at most wb bits -/
def PrR (n wb : Nat) : Hp → V → RZ → Prop := fun H v z => ∃ q r : Addr, v = .ref q ∧ H q = some (.tup [.ref r, .int z.2]) ∧ LT H r ((vec n z.1).map V.int) ∧ B wb z.2 ∧ ∀ i, i < n → B 42 (z.1 i)
def PrD (D : Addr) (n wb : Nat) : Hp → V → RZ → Prop := fun H v z => ∃ q r : Addr, v = .ref q ∧ q ≠ D ∧ r ≠ D ∧ H q = some (.tup [.ref r, .int z.2]) ∧ LT H r ((vec n z.1).map V.int) ∧ B wb z.2 ∧ ∀ i, i < n → B 42 (z.1 i)
theorem PrD.pr {D : Addr} {n wb : Nat} {H : Hp} {v : V} {z : RZ} (h : PrD D n wb H v z) : PrR n wb H v z := let ⟨q, r, h1, _, _, h2, h3, h4, h5⟩ := h; ⟨q, r, h1, h2, h3, h4, h5⟩
theorem stb_PrD {D : Addr} {n wb : Nat} : StbD D (PrD D n wb) := fun _ _ _ _ _ e ⟨q, r, h1, h2, h3, h4, h5, h6, h7⟩ => ⟨q, r, h1, h2, h3, e _ _ h2 h4, h5.imp (e _ _ h3) (e _ _ h3), h6, h7⟩
/-- a list of pairs -/
def PsZ (n wb : Nat) (H : Hp) (a : Addr) (ps : List RZ) : Prop := ∃ vs, H a = some (.lst vs) ∧ Rs (PrR n wb) H vs ps
theorem PsZ.same {n wb : Nat} {H H' : Hp} {a : Addr} {ps : List RZ} (h : PsZ n wb H a ps) (s : Same H H') : PsZ n wb H' a ps := by
  obtain ⟨vs, h1, h2, h3⟩ := h
  exact ⟨vs, s _ _ h1, h2, fun i v z a b => let ⟨q, r, e1, e2, e3, e4, e5⟩ := h3 i v z a b; ⟨q, r, e1, s _ _ e2, e3.same s, e4, e5⟩⟩
theorem or_ix {K : PySem.W.Frag} {H : Hp} {r : Addr} {n i : Nat} {x : Nat → Int} {Q : VK} (h : LT H r ((vec n x).map V.int)) (hi : i < n) (q : Q (.int (x i)) H) : rIxL K (.ref r) (.int (0 + (i : Int))) H Q ∨ rIxT K (.ref r) (.int (0 + (i : Int))) H Q := by
  rcases h with h | h
  · exact .inl ⟨r, _, _, _, rfl, rfl, SqL.of h, ixv hi, q⟩
  · exact .inr ⟨r, _, _, _, rfl, rfl, SqT.of h, ixv hi, q⟩
section
variable {P : Program} {w : World} {K : PySem.W.Frag} {mg : Str → Option Value} {base : Heap} {f : Addr} {fd : FuncData} {cF cR : Addr}
def spTab (K : PySem.W.Frag) : Sp := fun vs H Q _ => ∃ (a : Addr) (n wb : Nat) (ps : List RZ), vs = [.int n, .ref a] ∧ PsZ n wb H a ps ∧ 0 < wb ∧ wb ≤ 100 ∧ n ≤ 16 ∧ ∀ r H' rs, MT H H' r rs n (wsz ps) → Q (.ref r) H'
abbrev s__law_table : Stmt := top 49
abbrev N__law_table : List Str := ["size", "pairs", "i", "j", "table", "pair"]
theorem sc__law_table : FnScope N__law_table ["size", "pairs"] (defScope s__law_table) := ⟨rfl, rfl, rfl, by decide +kernel, rfl, by decide +kernel, by decide +kernel⟩
theorem ok__law_table (F : Fun K "_law_table" "_law_table" s__law_table f fd) (T : Txt mg) : FnOk P w K mg base CX0 1 f fd ["size", "pairs"] (spTab K) := by
  refine F.ok sc__law_table (fun vs H Q E h => ?_) (fun cdv A outer s H vs Q E hr h => ?_)
  · obtain ⟨a, n, wb, ps, rfl, _⟩ := h
    rfl
  obtain ⟨a, n, wb, ps, rfl, hps, wb0, wb1, hn, q⟩ := h
  refine ⟨_, (pss_cons (ps_setLc (i := 4) (own := [("i", 2)]) (g := gName 2) (tt := tYes) (by rfl) sc__law_table.nd rfl rfl (sw_true rfl rfl rfl (by decide +kernel)) (pi_range1 (by rfl) T.b_range (pa_cons (pv 0) pa_nil)) (blkOk_by (N := N__law_table) (sc := defScope s__law_table) (by decide +kernel)) (fun _ _ _ _ _ => (pg_name (i := 2) sc__law_table.nd rfl (Or.inl rfl))) (fun _ _ _ _ _ => pts_nil) (fun _ _ _ _ _ => (pe_lc (own := [("j", 3)]) (g := gName 3) (tt := tYes) (by rfl) sc__law_table.nd (pi_range1 (by rfl) T.b_range (pa_cons (pv 0) pa_nil)) (blk_nest (N := N__law_table) (sc0 := defScope s__law_table) rfl (by decide +kernel)) (fun _ _ _ _ _ => (pg_name (i := 3) sc__law_table.nd rfl (Or.inl rfl))) (fun _ _ _ _ _ => pts_nil) (fun _ _ _ _ _ => pe_int))))
  (pss_cons (ps_for PassesOwn.never rfl (pi_list (pv 1)) (pg_name (i := 5) sc__law_table.nd rfl (Or.inl rfl)) (pss_one (ps_for PassesOwn.never rfl (pi_range1 (by rfl) T.b_range (pa_cons (pv 0) pa_nil)) (pg_name (i := 2) sc__law_table.nd rfl (Or.inl rfl)) (pss_one (ps_for PassesOwn.never rfl (pi_range1 (by rfl) T.b_range (pa_cons (pv 0) pa_nil)) (pg_name (i := 3) sc__law_table.nd rfl (Or.inl rfl)) (pss_one (ps_asg (pe_op op_add (pe_ix ix_list /-?-/ (pe_ix ix_list (pv 4) (pv 2) (fun _ _ => rfl)) (pv 3) (fun _ _ => rfl)) (pe_op op_mulW (pe_op op_mulW (pe_ix ix_tup (pv 5) pe_int (fun _ _ => rfl)) (pe_ix ix_or (pe_ix ix_tup (pv 5) pe_int (fun _ _ => rfl)) (pv 2) (fun _ _ => rfl))) (pe_ix ix_or (pe_ix ix_tup (pv 5) pe_int (fun _ _ => rfl)) (pv 3) (fun _ _ => rfl)))) (pg_sub (pe_ix ix_list (pv 4) (pv 2) (fun _ _ => rfl)) (pv 3) set_list))))))))
  (pss_one (ps_ret (pv 4))))), ?_⟩
  obtain ⟨vs, ha, hl, hrow⟩ := hps
  refine ⟨_, rfl, (n : Int), rfl, by omega, by omega, fun D hD => ?_⟩
  refine ⟨fun i m H' => m = n - i ∧ i ≤ n ∧ ∃ rs, ZT H H' D rs n i, ⟨_, rfl, Nat.zero_le _, [], new_same hD _, upd_same, rfl, List.nodup_nil, by simp, by simp, by simp⟩, ?_⟩
  rintro i m H1 ⟨rfl, hi, rs, z⟩
  by_cases hlt : i < n
  · refine .inr ⟨by show i < (n : Int).toNat; omega, fun H' => ∃ rs, ZT H H' D rs n (i + 1), fun H' h' => ⟨_, by omega, rfl, hlt, h'⟩, ?_⟩
    rintro x H2 ⟨rfl, rfl⟩
    refine ⟨rfl, lc_yes ⟨_, rfl, (n : Int), rfl, by omega, by omega, fun D2 hD2 => ?_⟩⟩
    refine lc_m (walk_range (lo := 0) (n := n)) RI (stb_RI (K := K)) (List.range n) (by rw [List.length_range]) (by rw [List.length_range]; omega) hD2 (fun _ _ => trivial) (fun _ _ _ _ => ys_fn) (fun _ => (0 : Int)) (fun c j x2 H3 H4 hc s3 s4 y A B hA => ?_) (fun H3 l s3 hl3 rs3 => ?_)
    · rw [y.2]
      exact ⟨rfl, lc_yes (hA _ _ (fun _ _ h => h) rfl)⟩
    · have hz := zero_vec (m := n) rs3
      refine ⟨rs.map V.ref, s3 _ _ z.at_, sizes (by rw [List.length_map, z.len]; omega), rs ++ [D2], ?_⟩
      exact z.snoc hD s3 hD2 (by rw [hl3, hz])
  · have ei : i = n := by omega
    subst ei
    refine .inl ⟨by show (i : Int).toNat ≤ i; omega, ?_⟩
    clear hlt
    have mt := z.mt
    refine ⟨_, rfl, a, rfl, ⟨_, SqL.of (mt.same _ _ ha)⟩, for_list (K := K) (a := a) (xs := vs) (fun k σ H' => ∃ v2 v3 v5 : Option V, σ = [some (.int i), some (.ref a), v2, v3, some (.ref D), v5] ∧ MT H H' D rs i (wsz (ps.take k))) ⟨none, none, none, rfl, mt⟩ (fun k σ H' _ ⟨_, _, _, _, s⟩ => SqL.of (s.same _ _ ha)) ?_ ?_⟩
    · rintro k x σ H2 hx ⟨v2, v3, v5, rfl, mt2⟩
      obtain ⟨p, hp⟩ : ∃ p, ps[k]? = some p := ⟨_, List.getElem?_eq_getElem (by have := (List.getElem?_eq_some_iff.mp hx).1; omega)⟩
      obtain ⟨r1, r2, rfl, hr2, hr3, b1, b17⟩ := hrow k x p hx hp
      refine ⟨_, rfl, (i : Int), rfl, by omega, by omega, for_range (lo := 0) (n := i) (fun r σ H' => ∃ v2 v3 : Option V, σ = [some (.int i), some (.ref a), v2, v3, some (.ref D), some (.ref r1)] ∧ MT H H' D rs i (mix (wsz (ps.take k)) (wsz (ps.take (k + 1))) r 0)) ⟨v2, v3, rfl, mt2.congr fun a b _ _ => by unfold mix; rw [if_neg (by omega)]⟩ ?_ ?_⟩
      · rintro r σ H3 hr ⟨v2, v3, rfl, mt3⟩
        refine ⟨_, rfl, (i : Int), rfl, by omega, by omega, for_range (lo := 0) (n := i) (fun c σ H' => ∃ v3 : Option V, σ = [some (.int i), some (.ref a), some (.int (0 + (r : Int))), v3, some (.ref D), some (.ref r1)] ∧ MT H H' D rs i (mix (wsz (ps.take k)) (wsz (ps.take (k + 1))) r c)) ⟨v3, rfl, mt3⟩ ?_ ?_⟩
        · rintro c σ H4 hc ⟨v3, rfl, mt4⟩
          have hri : r < i := by omega
          have hci : c < i := by omega
          obtain ⟨pr, hpr1, hpr2⟩ := mt4.row r hri
          have er : (0 + (r : Int)).toNat = r := by omega
          have ix : atI (rs.map V.ref) (0 + (r : Int)) = some (.ref pr) := at_pos (by omega) (by rw [er, List.getElem?_map, hpr1]; rfl)
          have t1 := SqT.of (K := K) (mt4.same _ _ hr2)
          have t2 := hr3.same mt4.same
          refine ⟨_, rfl, _, rfl, D, _, _, _, rfl, rfl, SqL.of mt4.at_, ix, _, rfl, pr, _, _, _, rfl, rfl, SqL.of hpr2, ixv hci, ?_⟩
          refine ⟨_, rfl, r1, _, 1, _, rfl, rfl, t1, at_pos (by decide) rfl, _, rfl, r1, _, 0, _, rfl, rfl, t1, at_pos (by decide) rfl, _, rfl, or_ix t2 hri ⟨_, _, rfl, rfl, wmul b1 (b17 r hri) wb0 (by decide) (by omega), ?_⟩⟩
          refine ⟨_, rfl, r1, _, 0, _, rfl, rfl, t1, at_pos (by decide) rfl, _, rfl, or_ix t2 hci ⟨_, _, rfl, rfl, wmul (P10.B.mul b1 (b17 r hri)) (b17 c hci) (by omega) (by decide) (by omega), _, _, rfl, rfl, ?_⟩⟩
          refine ⟨_, rfl, _, rfl, D, _, _, _, rfl, rfl, SqL.of mt4.at_, ix, _, rfl, pr, _, _, c, rfl, rfl, hpr2, by rw [vec_lenV]; unfold ixN; rw [if_pos (by omega), if_pos (by omega)]; congr 1; omega, some (.int (0 + (c : Int))), rfl, ?_⟩
          have st := mt4.set (v := mix (wsz (ps.take k)) (wsz (ps.take (k + 1))) r c r c + p.2 * p.1 r * p.1 c) hri hci hpr1
          refine st.congr fun x y _ _ => ?_
          rw [mix_at, ← wsz_snoc hp]
          exact mix_put _ _ _ _ _ _
        · rintro σ H4 ⟨v3, rfl, mt4⟩
          exact ⟨some (.int (0 + (r : Int))), v3, rfl, mt4.congr (mix_row _ _ _ _)⟩
      · rintro σ H3 ⟨v2, v3, rfl, mt3⟩
        refine ⟨v2, v3, some (.ref r1), rfl, mt3.congr fun x y hx hy => ?_⟩
        unfold mix
        rw [if_pos (by omega)]
    · rintro σ H2 ⟨v2, v3, v5, rfl, mt2⟩
      rw [hl, List.take_length] at mt2
      exact ⟨_, rfl, q D H2 rs mt2⟩
end
end P10
namespace P10
open PySem PySem.Spec PyProof.Rows L2 SX EX WK
theorem psz_mem {n wb : Nat} {H : Hp} {a : Addr} {ps : List RZ} (h : PsZ n wb H a ps) : ∀ p ∈ ps, B wb p.2 ∧ ∀ i, i < n → B 42 (p.1 i) := fun p hp => by
  obtain ⟨vs, _, h2, h3⟩ := h
  obtain ⟨i, hi⟩ := List.getElem?_of_mem hp
  have hl : i < vs.length := by
    have := (List.getElem?_eq_some_iff.mp hi).1
    omega
  obtain ⟨_, _, _, _, _, h4, h5⟩ := h3 i _ p (List.getElem?_eq_getElem hl) hi
  exact ⟨h4, h5⟩
theorem wsz_sym (ps : List RZ) (i j : Nat) : wsz ps i j = wsz ps j i := by
  unfold wsz
  congr 1
  refine List.map_congr_left fun p _ => ?_
  grind
theorem wsz_le {n wb : Nat} {i j : Nat} (hi : i < n) (hj : j < n) : ∀ {ps : List RZ}, (∀ p ∈ ps, B wb p.2 ∧ ∀ i, i < n → B 42 (p.1 i)) → (wsz ps i j).natAbs ≤ ps.length * 2 ^ (wb + 84) := fun {ps} => by
  induction ps with
  | nil => intro _; simp [wsz]
  | cons p ps ih =>
    intro h
    have h1 := ih fun q hq => h q (List.mem_cons_of_mem _ hq)
    obtain ⟨h2, h3⟩ := h p (List.mem_cons_self ..)
    have h4 : (p.2 * p.1 i * p.1 j).natAbs < 2 ^ (wb + 42 + 42) := P10.B.mul (P10.B.mul h2 (h3 i hi)) (h3 j hj)
    have e : wsz (p :: ps) i j = p.2 * p.1 i * p.1 j + wsz ps i j := by simp [wsz]
    rw [e, List.length_cons, Nat.add_mul, Nat.one_mul]
    have := Int.natAbs_add_le (p.2 * p.1 i * p.1 j) (wsz ps i j)
    rw [show wb + 42 + 42 = wb + 84 by omega] at h4
    omega
theorem wsz_B {n wb c : Nat} {ps : List RZ} (hl : ps.length < 2 ^ c) (h : ∀ p ∈ ps, B wb p.2 ∧ ∀ i, i < n → B 42 (p.1 i)) : ∀ i j, i < n → j < n → B (c + (wb + 84)) (wsz ps i j) := fun i j hi hj => by
  have h1 := wsz_le hi hj h
  show (wsz ps i j).natAbs < 2 ^ (c + (wb + 84))
  rw [Nat.pow_add]
  exact Nat.lt_of_le_of_lt h1 (Nat.mul_lt_mul_of_pos_right hl (Nat.two_pow_pos _))
theorem gr_psz {n wb : Nat} {H0 H : Hp} {D : Addr} {ps : List RZ} (g : Gr (PrD D n wb) H0 D ps H) : PsZ n wb H D ps := let ⟨_, vs, h1, h2, h3⟩ := g; ⟨vs, h1, h2, fun i v z a b => (h3 i v z a b).pr⟩

theorem B.add {k : Nat} {x y : Int} (hx : B k x) (hy : B k y) : B (k + 1) (x + y) := by
  show (x + y).natAbs < 2 ^ (k + 1)
  have h1 : x.natAbs < 2 ^ k := hx
  have h2 : y.natAbs < 2 ^ k := hy
  have h3 := Int.natAbs_add_le x y
  rw [Nat.pow_succ]
  omega
theorem iteI {a b : Int} {A B : Prop} (h1 : a = b → A) (h2 : a ≠ b → B) : if decide (V.int a = V.int b) = true then A else B := by
  by_cases c : a = b
  · exact ifT (int_eq c) (h1 c)
  · exact ifF (int_ne c) (h2 c)
/-- the shape of a drawn form -/
structure Shp (H : Hp) (a : Addr) (y : Nat → Int) : Prop where
  at_ : H a = some (.lst ((vec 9 y).map V.int))
  k0 : 4 ≤ y 1
  k1 : y 1 < 14
  p0 : 0 ≤ y 5
  p1 : y 5 < 10
  o0 : 0 ≤ y 6
  o1 : y 6 < 10
  m0 : 0 ≤ y 7
  m1 : y 7 < 4
theorem Shp.same {H H' : Hp} {a : Addr} {y : Nat → Int} (h : Shp H a y) (s : Same H H') : Shp H' a y := { h with at_ := s _ _ h.at_ }
theorem many_at {n : Nat} {h d : Int} (hn : n ≤ 10) (h0 : 0 ≤ h) (h1 : h ≤ 10) (d0 : 0 ≤ d) (d1 : d < 10) : ∃ z : Int, ([V.int n, V.int ((n : Int) - 1), V.int ((n : Int) + 3), V.int h, V.int n, V.int ((n : Int) + 1), V.int n, V.int ((n : Int) - 1), V.int n, V.int ((n : Int) + 1)] : List V)[d.toNat]? = some (.int z) ∧ -1 ≤ z ∧ z ≤ 13 := by
  have : d = 0 ∨ d = 1 ∨ d = 2 ∨ d = 3 ∨ d = 4 ∨ d = 5 ∨ d = 6 ∨ d = 7 ∨ d = 8 ∨ d = 9 := by omega
  rcases this with e | e | e | e | e | e | e | e | e | e <;> (subst e; exact ⟨_, rfl, by omega, by omega⟩)
theorem style_at {s d : Int} (d0 : 0 ≤ d) (d1 : d < 10) : ∃ z : Int, ([V.int s, V.int s, V.int s, V.int s, V.int s, V.int s, V.int 10, V.int 11, V.int s, V.int 4] : List V)[d.toNat]? = some (.int z) := by
  have : d = 0 ∨ d = 1 ∨ d = 2 ∨ d = 3 ∨ d = 4 ∨ d = 5 ∨ d = 6 ∨ d = 7 ∨ d = 8 ∨ d = 9 := by omega
  rcases this with e | e | e | e | e | e | e | e | e | e <;> (subst e; exact ⟨_, rfl⟩)
section
variable {P : Program} {w : World} {K : PySem.W.Frag} {mg : Str → Option Value} {base : Heap} {f : Addr} {fd : FuncData} {cF cR : Addr}
def spSum : Sp := fun vs H Q _ => ∃ (sh ll : Addr) (n : Nat) (y : Nat → Int), vs = [.int n, .ref sh, .ref ll] ∧ Shp H sh y ∧ LLn H ll 10 ∧ n ≤ 10 ∧ ∀ r H' g, Same H H' → LTab H' r n g → (∀ i j, i < n → j < n → g i j = g j i) → (∀ i j, i < n → j < n → B 139 (g i j)) → Q (.ref r) H'
abbrev s__law_sum_table : Stmt := top 60
abbrev N__law_sum_table : List Str := ["size", "shape", "lines", "kind", "half", "many", "style", "place", "other", "pairs", "k", "row", "weight", "table"]
theorem sc__law_sum_table : FnScope N__law_sum_table ["size", "shape", "lines"] (defScope s__law_sum_table) := ⟨rfl, rfl, rfl, by decide +kernel, rfl, by decide +kernel, by decide +kernel⟩
theorem ok__law_sum_table (F : Fun K "_law_sum_table" "_law_sum_table" s__law_sum_table f fd) (T : Txt mg) (C__law_row : Cal P w K mg base 2 "_law_row" ["size", "kind", "line"] spRowD) (C__law_draw_weight : Cal P w K mg base 1 "_law_draw_weight" ["kind", "row"] spWt) (C__law_seven : Cal P w K mg base 1 "_law_seven" ["line"] spSeven) (C__law_table : Cal P w K mg base 1 "_law_table" ["size", "pairs"] (spTab K)) : FnOk P w K mg base CX0 3 f fd ["size", "shape", "lines"] spSum := by
  refine F.ok sc__law_sum_table (fun vs H Q E h => ?_) (fun cdv A outer s H vs Q E hr h => ?_)
  · obtain ⟨sh, ll, n, y, rfl, _⟩ := h
    rfl
  obtain ⟨sh, ll, n, y, rfl, hsh, hll, hn, q⟩ := h
  refine ⟨_, (pss_cons (ps_set (i := 3) sc__law_sum_table.nd rfl (Or.inl rfl) (pe_ix ix_list (pv 1) pe_int (fun _ _ => rfl)))
  (pss_cons (ps_set (i := 4) sc__law_sum_table.nd rfl (Or.inl rfl) (pe_op op_mulW (pe_op op_fdivW (pv 0) pe_int) (pe_callTy call_int1 (by rfl) T.b_int (by decide +kernel) (pa_cons (pe_cmpR op_gt (pe_ix ix_list (pv 1) pe_int (fun _ _ => rfl)) pe_int (nomark _)) pa_nil))))
  (pss_cons (ps_set (i := 5) sc__law_sum_table.nd rfl (Or.inl rfl) (pe_ix ix_list (pe_lst (pa_cons (pv 0) (pa_cons (pe_op op_sub (pv 0) pe_int) (pa_cons (pe_op op_add (pv 0) pe_int) (pa_cons (pv 4) (pa_cons (pv 0) (pa_cons (pe_op op_add (pv 0) pe_int) (pa_cons (pv 0) (pa_cons (pe_op op_sub (pv 0) pe_int) (pa_cons (pv 0) (pa_cons (pe_op op_add (pv 0) pe_int) pa_nil))))))))))) (pe_op op_sub (pv 3) pe_int) (fun _ _ => rfl)))
  (pss_cons (ps_set (i := 6) sc__law_sum_table.nd rfl (Or.inl rfl) (pe_ix ix_list (pe_lst (pa_cons (pe_ix ix_list (pv 1) pe_int (fun _ _ => rfl)) (pa_cons (pe_ix ix_list (pv 1) pe_int (fun _ _ => rfl)) (pa_cons (pe_ix ix_list (pv 1) pe_int (fun _ _ => rfl)) (pa_cons (pe_ix ix_list (pv 1) pe_int (fun _ _ => rfl)) (pa_cons (pe_ix ix_list (pv 1) pe_int (fun _ _ => rfl)) (pa_cons (pe_ix ix_list (pv 1) pe_int (fun _ _ => rfl)) (pa_cons pe_int (pa_cons pe_int (pa_cons (pe_ix ix_list (pv 1) pe_int (fun _ _ => rfl)) (pa_cons pe_int pa_nil))))))))))) (pe_op op_sub (pv 3) pe_int) (fun _ _ => rfl)))
  (pss_cons (ps_set (i := 7) sc__law_sum_table.nd rfl (Or.inl rfl) (pe_op op_mod (pe_callTy call_int1 (by rfl) T.b_int (by decide +kernel) (pa_cons (pe_ix ix_list (pv 1) pe_int (fun _ _ => rfl)) pa_nil)) (pe_callB (call_max2 rfl) (by rfl) T.b_max (by decide +kernel) (pa_cons pe_int (pa_cons (pv 0) pa_nil)))))
  (pss_cons (ps_set (i := 8) sc__law_sum_table.nd rfl (Or.inl rfl) (pe_op op_mod (pe_callTy call_int1 (by rfl) T.b_int (by decide +kernel) (pa_cons (pe_op op_add (pe_op op_add (pv 7) pe_int) (pe_op op_mod (pe_callTy call_int1 (by rfl) T.b_int (by decide +kernel) (pa_cons (pe_ix ix_list (pv 1) pe_int (fun _ _ => rfl)) pa_nil)) (pe_callB (call_max2 rfl) (by rfl) T.b_max (by decide +kernel) (pa_cons pe_int (pa_cons (pe_op op_sub (pv 0) pe_int) pa_nil))))) pa_nil)) (pe_callB (call_max2 rfl) (by rfl) T.b_max (by decide +kernel) (pa_cons pe_int (pa_cons (pv 0) pa_nil)))))
  (pss_cons (ps_set (i := 9) sc__law_sum_table.nd rfl (Or.inl rfl) (pe_lst pa_nil))
  (pss_cons (ps_for PassesOwn.never rfl (pi_range1 (by rfl) T.b_range (pa_cons (pe_callB (call_max2 rfl) (by rfl) T.b_max (by decide +kernel) (pa_cons pe_int (pa_cons (pe_callB (call_min2 rfl) (by rfl) T.b_min (by decide +kernel) (pa_cons pe_int (pa_cons (pv 5) pa_nil))) pa_nil))) pa_nil)) (pg_name (i := 10) sc__law_sum_table.nd rfl (Or.inl rfl)) (pss_cons (ps_set (i := 11) sc__law_sum_table.nd rfl (Or.inl rfl) (pe_cal C__law_row (hr.mono (by omega)) rfl (pa_cons (pv 0) (pa_cons (pv 6) (pa_cons (pe_ix ix_list (pv 2) (pv 10) (fun _ _ => rfl)) pa_nil)))))
  (C8.pss_cut (ps_if (PW.pt (pw_and (pt_cmpR op_gt (pv 0) pe_int (nomark _)) (pw_and1 (PW.pt (pw_or (pt_cmpR op_eq (pv 3) pe_int (nomark _)) (pw_or (pt_cmpR op_eq (pv 3) pe_int (nomark _)) (pw_or1 (pt_cmpR op_eq (pv 3) pe_int (nomark _))))))))) (pss_one (ps_asg (pe_op op_mulW (pe_ix ix_list (pe_lst (pa_cons pe_int (pa_cons pe_int (pa_cons (pe_un un_neg pe_int) (pa_cons pe_int pa_nil))))) (pe_ix ix_list (pv 1) pe_int (fun _ _ => rfl)) (fun _ _ => rfl)) (pe_ix ix_list (pv 11) (pv 8) (fun _ _ => rfl))) (pg_sub (pv 11) (pv 7) set_list))) pss_nil)
  (pss_cons (ps_set (i := 12) sc__law_sum_table.nd rfl (Or.inl rfl) (pe_cal C__law_draw_weight (hr.mono (by omega)) rfl (pa_cons (pe_ix ix_list (pv 1) pe_int (fun _ _ => rfl)) (pa_cons (pe_cal C__law_seven (hr.mono (by omega)) rfl (pa_cons (pe_ix ix_list (pv 2) (pv 10) (fun _ _ => rfl)) pa_nil)) pa_nil))))
  (C8.pss_cut (ps_if (PW.pt (pw_and (pt_cmpR op_eq (pv 3) pe_int (nomark _)) (pw_and1 (pt_cmpR op_eq (pv 10) (pe_op op_sub (pv 5) pe_int) (nomark _))))) (pss_one (ps_set (i := 12) sc__law_sum_table.nd rfl (Or.inl rfl) (pe_op op_sub (pe_un un_neg pe_int) (pe_ix ix_list (pv 1) pe_int (fun _ _ => rfl))))) pss_nil)
  (pss_one (ps_expr (pe_bm PySem.F.plainAttrs_list PySem.F.slot_list_append PySem.F.type_list_append mt_append (pv 9) (pa_cons (pe_tup (pa_cons (pv 11) (pa_cons (pv 12) pa_nil))) pa_nil)))))))))
  (pss_cons (ps_set (i := 13) sc__law_sum_table.nd rfl (Or.inl rfl) (pe_cal C__law_table (hr.mono (by omega)) rfl (pa_cons (pv 0) (pa_cons (pv 9) pa_nil))))
  (C8.pss_cut (ps_if (PW.pt (pw_and (pt_cmpR op_eq (pv 3) pe_int (nomark _)) (pw_and1 (pt_cmpR op_gt (pv 0) pe_int (nomark _))))) (pss_one (ps_asg (pe_op op_sub (pe_ix ix_list /-?-/ (pe_ix ix_list (pv 13) (pv 7) (fun _ _ => rfl)) (pv 7) (fun _ _ => rfl)) pe_int) (pg_sub (pe_ix ix_list (pv 13) (pv 7) (fun _ _ => rfl)) (pv 7) set_list))) pss_nil)
  (pss_one (ps_ret (pv 13))))))))))))), ?_⟩
  obtain ⟨lv, hl1, hl2, hl3⟩ := id hll
  have hS := SqL.of (K := K) hsh.at_
  have K0 := hsh.k0
  have K1 := hsh.k1
  have P0 := hsh.p0
  have P1 := hsh.p1
  have O0 := hsh.o0
  have O1 := hsh.o1
  refine ⟨_, rfl, sh, _, 1, _, rfl, rfl, hS, ixa (k := 1) (by decide) rfl (by decide), ?_⟩
  refine ⟨_, rfl, _, _, rfl, rfl, wdiv (n := 2) (by decide) (by decide) (by decide) (by decide), _, rfl, sh, _, 6, _, rfl, rfl, hS, ixa (k := 6) (by decide) rfl (by decide), _, _, rfl, rfl, .inr ⟨_, rfl, _, _, rfl, rfl, ?_⟩⟩
  have hb01 := bi01 (decide (y 6 > 0))
  obtain ⟨hf, ehf, hf0, hf1⟩ : ∃ hf : Int, hf = (n : Int) / 2 * (if decide (y 6 > 0) = true then (1 : Int) else 0) ∧ 0 ≤ hf ∧ hf ≤ 10 := by
    refine ⟨_, rfl, ?_⟩
    rcases hb01 with e | e <;> rw [e] <;> omega
  refine ⟨wmul (m := 5) (n := 2) (by show ((n : Int) / 2).natAbs < 2 ^ 5; omega) (by rcases hb01 with e | e <;> rw [e] <;> decide) (by decide) (by decide) (by decide), ?_⟩
  show gName 4 (V.int ((n : Int) / 2 * (if decide (y 6 > 0) = true then (1 : Int) else 0))) _ H _
  rw [← ehf]
  obtain ⟨mn, hmn, mn0, mn1⟩ := many_at (n := n) (h := hf) (d := y 1 - 4) hn hf0 hf1 (by omega) (by omega)
  refine ⟨_, rfl, _, rfl, _, _, rfl, rfl, _, rfl, _, _, rfl, rfl, _, rfl, _, rfl, _, rfl, _, _, rfl, rfl, _, rfl, _, rfl, _, _, rfl, rfl, _, rfl, _, rfl, _, _, rfl, rfl, line_ge (by show 10 ≤ 100000; decide), fun l1 hl1' => ?_⟩
  have s1 := fun o => same_new (H := H) hl1' o
  refine ⟨_, rfl, _, _, rfl, rfl, l1, _, _, _, rfl, rfl, SqL.of upd_same, at_pos (by omega) hmn, ?_⟩
  generalize hH1 : upd H l1 _ = H1
  have s1' : Same H H1 := by rw [← hH1]; exact s1 _
  have hS1 := s1'.seq hS
  refine ⟨_, rfl, sh, _, 2, _, rfl, rfl, hS1, ixa (k := 2) (by decide) rfl (by decide), _, rfl, sh, _, 2, _, rfl, rfl, hS1, ixa (k := 2) (by decide) rfl (by decide), _, rfl, sh, _, 2, _, rfl, rfl, hS1, ixa (k := 2) (by decide) rfl (by decide), _, rfl, sh, _, 2, _, rfl, rfl, hS1, ixa (k := 2) (by decide) rfl (by decide), _, rfl, sh, _, 2, _, rfl, rfl, hS1, ixa (k := 2) (by decide) rfl (by decide), _, rfl, sh, _, 2, _, rfl, rfl, hS1, ixa (k := 2) (by decide) rfl (by decide), _, rfl, sh, _, 2, _, rfl, rfl, hS1, ixa (k := 2) (by decide) rfl (by decide), line_ge (by show 10 ≤ 100000; decide), fun l2 hl2' => ?_⟩
  obtain ⟨st, hst⟩ := style_at (s := y 2) (d := y 1 - 4) (by omega) (by omega)
  have s2 := fun o => same_new (H := H1) hl2' o
  refine ⟨_, rfl, _, _, rfl, rfl, l2, _, _, _, rfl, rfl, SqL.of upd_same, at_pos (by omega) hst, ?_⟩
  generalize hH2 : upd H1 l2 _ = H2
  have s2' : Same H1 H2 := by rw [← hH2]; exact s2 _
  have s02 := s1'.trans s2'
  have hS2 := s02.seq hS
  obtain ⟨mx, emx⟩ : ∃ mx : Int, mx = (if (n : Int) > 1 then (n : Int) else 1) := ⟨_, rfl⟩
  have mx1 : 1 ≤ mx ∧ (1 < (n : Int) → mx = n) ∧ (0 < (n : Int) → mx ≤ n) := by rw [emx]; split <;> omega
  refine ⟨_, rfl, sh, _, 5, _, rfl, rfl, hS2, ixa (k := 5) (by decide) rfl (by decide), .inl ⟨_, rfl, _, rfl, _, _, rfl, ?_⟩⟩
  rw [← emx]
  refine ⟨_, _, rfl, rfl, (by show (0 : Int) < mx; omega), ?_⟩
  have pl0 := md (x := y 5) (m := mx) (by omega)
  obtain ⟨pl, epl⟩ : ∃ pl : Nat, (pl : Int) = y 5 % mx := ⟨(y 5 % mx).toNat, by omega⟩
  show gName 7 (V.int (y 5 % mx)) _ H2 _
  rw [← epl]
  obtain ⟨mz, emz⟩ : ∃ mz : Int, mz = (if (n : Int) - 1 > 1 then (n : Int) - 1 else 1) := ⟨_, rfl⟩
  have mz1 : 1 ≤ mz := by rw [emz]; split <;> omega
  refine ⟨_, rfl, _, _, rfl, rfl, _, rfl, sh, _, 6, _, rfl, rfl, hS2, ixa (k := 6) (by decide) rfl (by decide), .inl ⟨_, rfl, _, rfl, _, _, rfl, rfl, _, _, rfl, ?_⟩⟩
  rw [← emz]
  refine ⟨_, _, rfl, rfl, (by show (0 : Int) < mz; omega), _, _, rfl, rfl, .inl ⟨_, rfl, _, rfl, _, _, rfl, ?_⟩⟩
  rw [← emx]
  refine ⟨_, _, rfl, rfl, (by show (0 : Int) < mx; omega), ?_⟩
  have ot0 := md (x := (pl : Int) + 1 + y 6 % mz) (m := mx) (by omega)
  obtain ⟨ot, eot⟩ : ∃ ot : Nat, (ot : Int) = ((pl : Int) + 1 + y 6 % mz) % mx := ⟨(((pl : Int) + 1 + y 6 % mz) % mx).toNat, by omega⟩
  show gName 8 (V.int (((pl : Int) + 1 + y 6 % mz) % mx)) _ H2 _
  rw [← eot]
  refine ⟨line_ge (by decide), fun L hL => ?_⟩
  refine ⟨_, rfl, _, _, rfl, _, _, rfl, ?_⟩
  obtain ⟨ct, ect, ct0, ct1⟩ : ∃ ct : Int, ct = (if (if mn < 10 then mn else 10) > 0 then (if mn < 10 then mn else 10) else 0) ∧ 0 ≤ ct ∧ ct ≤ 10 := ⟨_, rfl, by split <;> split <;> omega, by split <;> split <;> omega⟩
  rw [← ect]
  refine ⟨ct, rfl, by omega, by omega, for_range (lo := 0) (n := ct.toNat) (fun k σ H' => ∃ (v10 v11 v12 : Option V) (ps : List RZ), σ = [some (.int n), some (.ref sh), some (.ref ll), some (.int (y 1)), some (.int hf), some (.int mn), some (.int st), some (.int pl), some (.int ot), some (.ref L), v10, v11, v12, none] ∧ Gr (PrD L n 50) H2 L ps H' ∧ ps.length = k) ⟨none, none, none, [], rfl, Gr.start hL, rfl⟩ ?_ ?_⟩
  · rintro k σ H3 hk ⟨v10, v11, v12, ps, rfl, gr, hlen⟩
    have hk' : k < 10 := by omega
    have s3 := s02.trans gr.same
    obtain ⟨p, z, hp, hln, hev⟩ := hl3 k hk'
    have hlL := (gr.same.seq (s02.seq (SqL.of (K := K) hl1)))
    refine ⟨_, rfl, _, rfl, _, rfl, _, rfl, ll, _, _, _, rfl, rfl, hlL, at_pos (by omega) (by rw [show (0 + (k : Int)).toNat = k by omega]; exact hp), p, n, st, z, rfl, hln.same s3, hev, hn, fun rw H4 x hf4 s4 hrw hxb => ?_⟩
    have gr4 := gr.keep stb_PrD s4
    have nrL : rw ≠ L := fun e => by
      obtain ⟨vs2, h2, _⟩ := gr.at_
      rw [e, h2] at hf4
      cases hf4
    refine ⟨fun σ' H' => ∃ x' : Nat → Int, σ' = [some (.int n), some (.ref sh), some (.ref ll), some (.int (y 1)), some (.int hf), some (.int mn), some (.int st), some (.int pl), some (.int ot), some (.ref L), some (.int (0 + (k : Int))), some (.ref rw), v12, none] ∧ Gr (PrD L n 50) H2 L ps H' ∧ Same H3 H' ∧ H' rw = some (.lst ((vec n x').map V.int)) ∧ ∀ i, i < n → B 42 (x' i), ?_, ?_⟩
    · have keep : ∃ x' : Nat → Int, [some (V.int n), some (.ref sh), some (.ref ll), some (.int (y 1)), some (.int hf), some (.int mn), some (.int st), some (.int pl), some (.int ot), some (.ref L), some (.int (0 + (k : Int))), some (.ref rw), v12, none] = [some (V.int n), some (.ref sh), some (.ref ll), some (.int (y 1)), some (.int hf), some (.int mn), some (.int st), some (.int pl), some (.int ot), some (.ref L), some (.int (0 + (k : Int))), some (.ref rw), v12, none] ∧ Gr (PrD L n 50) H2 L ps H4 ∧ Same H3 H4 ∧ H4 rw = some (.lst ((vec n x').map V.int)) ∧ ∀ i, i < n → B 42 (x' i) := ⟨x, rfl, gr4, s4, hrw, fun i hi => (hxb i hi).mono (by decide)⟩
      refine ⟨_, rfl, _, _, rfl, rfl, _, rfl, ite2 (fun hgt => ?_) (fun _ => keep)⟩
      have hn1 : 1 < (n : Int) := of_decide_eq_true hgt
      have emx' := mx1.2.1 hn1
      have hpl : pl < n := by omega
      have hot : ot < n := by omega
      refine ⟨_, rfl, rfl, _, rfl, ite2 (fun _ => ?_) (fun _ => ⟨_, rfl, rfl, _, rfl, ite2 (fun _ => ?_) (fun _ => ⟨_, rfl, rfl, _, rfl, ite2 (fun _ => ?_) (fun _ => keep)⟩)⟩)⟩
      all_goals
        refine ⟨_, rfl, line_ge (by show 4 ≤ 100000; decide), fun l hl => ?_⟩
        have s5 := fun o => same_new (H := H4) hl o
        obtain ⟨u, hu, hpk⟩ := pick (cs := [0, 1, -1, 2]) hsh.m0 hsh.m1
        have hb : ∀ x ∈ ([0, 1, -1, 2] : List Int), B 2 x := by decide
        have hrw5 := s5 (.lst [V.int 0, V.int 1, V.int (-1), V.int 2]) _ _ hrw
        refine ⟨_, rfl, sh, _, 7, _, rfl, rfl, ((s3.trans s4).trans (s5 _)).seq hS, ixa (k := 7) (by decide) rfl (by decide), l, _, _, _, rfl, rfl, SqL.of upd_same, at_pos hsh.m0 hpk, _, rfl, _, rfl, rw, _, _, _, rfl, rfl, SqL.of hrw5, ixa (k := ot) (by omega) (by omega) hot, _, _, rfl, rfl, wmul (m := 2) (n := 40) (hb u hu) (hxb ot hot) (by decide) (by decide) (by decide), ?_⟩
        refine ⟨_, rfl, _, rfl, rw, _, _, pl, rfl, rfl, hrw5, by rw [vec_lenV]; unfold ixN; rw [if_pos (by omega), if_pos (by omega)]; congr 1, ?_⟩
        rw [vec_set hpl]
        have s6 := fun o => same_at (o := o) (s4.trans (s5 (.lst [V.int 0, V.int 1, V.int (-1), V.int 2]))) hf4
        refine ⟨_, rfl, gr.keep stb_PrD (s6 _), s6 _, upd_same, fun i hi => ?_⟩
        show B 42 (if i = pl then _ else _)
        split
        · exact P10.B.mul (hb u hu) (hxb ot hot)
        · exact (hxb i hi).mono (by decide)
    rintro σ H5 ⟨x', rfl, gr5, s5, hrw5, hxb5⟩
    have s05 := s3.trans s5
    refine ⟨_, rfl, sh, _, 3, _, rfl, rfl, s05.seq hS, ixa (k := 3) (by decide) rfl (by decide), _, rfl, _, rfl, ll, _, _, _, rfl, rfl, s5.seq hlL, at_pos (by omega) (by rw [show (0 + (k : Int)).toNat = k by omega]; exact hp), p, z, rfl, hln.same s05, fun sv H6 s6 hsv => ?_⟩
    refine ⟨_, sv, _, rfl, hsv, fun wg H7 s7 hw1 hwb => ?_⟩
    have s67 := s6.trans s7
    have gr7 := gr5.keep stb_PrD s67
    have hrw7 := s67 _ _ hrw5
    refine ⟨fun σ' H' => ∃ wg' : Int, σ' = [some (.int n), some (.ref sh), some (.ref ll), some (.int (y 1)), some (.int hf), some (.int mn), some (.int st), some (.int pl), some (.int ot), some (.ref L), some (.int (0 + (k : Int))), some (.ref rw), some (.int wg'), none] ∧ Same H7 H' ∧ B 50 wg', ?_, ?_⟩
    · have keep : ∃ wg' : Int, [some (V.int n), some (V.ref sh), some (V.ref ll), some (V.int (y 1)), some (V.int hf), some (V.int mn), some (V.int st), some (V.int pl), some (V.int ot), some (V.ref L), some (V.int (0 + (k : Int))), some (V.ref rw), some (V.int wg), none] = [some (V.int n), some (V.ref sh), some (V.ref ll), some (V.int (y 1)), some (V.int hf), some (V.int mn), some (V.int st), some (V.int pl), some (V.int ot), some (V.ref L), some (V.int (0 + (k : Int))), some (V.ref rw), some (V.int wg'), none] ∧ Same H7 H7 ∧ B 50 wg' := ⟨wg, rfl, fun _ _ h => h, hwb⟩
      refine ⟨_, rfl, rfl, _, rfl, ite2 (fun _ => ?_) (fun _ => keep)⟩
      refine ⟨_, rfl, _, rfl, _, _, rfl, rfl, rfl, _, rfl, ite2 (fun _ => ?_) (fun _ => keep)⟩
      exact ⟨_, rfl, _, rfl, sh, _, 5, _, rfl, rfl, (s05.trans s67).seq hS, ixa (k := 5) (by decide) rfl (by decide), _, _, rfl, rfl, _, rfl, fun _ _ h => h, B50 (by omega)⟩
    rintro σ H8 ⟨wg', rfl, s8, hwb'⟩
    have gr8 := gr7.keep stb_PrD s8
    refine ⟨_, rfl, .inl ⟨rfl, _, SqL.of gr8.at_.choose_spec.1⟩, ?_⟩
    refine ⟨_, rfl, _, rfl, two_line, fun tp htp => ?_⟩
    have htL : tp ≠ L := fun e => by
      obtain ⟨vs2, h2, _⟩ := gr8.at_
      rw [e, h2] at htp
      cases htp
    have gr9 := gr8.keep stb_PrD (same_new htp (.tup [.ref rw, .int wg']))
    obtain ⟨ss, vs, hvs, hrs⟩ := gr9
    refine ⟨L, _, _, rfl, rfl, hvs, sizes (by have := hrs.1; omega), ?_⟩
    exact ⟨some (.int (0 + (k : Int))), some (.ref rw), some (.int wg'), ps ++ [(x', wg')], rfl, Gr.push stb_PrD ss hL hvs hrs ⟨tp, rw, rfl, htL, nrL, upd_same, .inl (same_new htp _ _ _ (s8 _ _ hrw7)), hwb', hxb5⟩, by rw [List.length_append, hlen]; rfl⟩
  · rintro σ H3 ⟨v10, v11, v12, ps, rfl, gr, hlen⟩
    have s3 := s02.trans gr.same
    have psz := gr_psz gr
    have pm := psz_mem psz
    refine ⟨_, rfl, _, rfl, L, n, 50, ps, rfl, psz, by decide, by decide, by omega, fun r H4 rs mt => ?_⟩
    have bw := wsz_B (c := 4) (wb := 50) (by omega) pm
    have s4 := s3.trans mt.same
    refine ⟨fun σ' H' => ∃ g : Nat → Nat → Int, σ' = [some (.int n), some (.ref sh), some (.ref ll), some (.int (y 1)), some (.int hf), some (.int mn), some (.int st), some (.int pl), some (.int ot), some (.ref L), v10, v11, v12, some (.ref r)] ∧ MT H3 H' r rs n g ∧ (∀ i j, i < n → j < n → g i j = g j i) ∧ ∀ i j, i < n → j < n → B 139 (g i j), ?_, ?_⟩
    · have keep : ∃ g : Nat → Nat → Int, [some (V.int n), some (.ref sh), some (.ref ll), some (.int (y 1)), some (.int hf), some (.int mn), some (.int st), some (.int pl), some (.int ot), some (.ref L), v10, v11, v12, some (.ref r)] = [some (.int n), some (.ref sh), some (.ref ll), some (.int (y 1)), some (.int hf), some (.int mn), some (.int st), some (.int pl), some (.int ot), some (.ref L), v10, v11, v12, some (.ref r)] ∧ MT H3 H4 r rs n g ∧ (∀ i j, i < n → j < n → g i j = g j i) ∧ ∀ i j, i < n → j < n → B 139 (g i j) := ⟨_, rfl, mt, fun i j _ _ => wsz_sym ps i j, fun i j hi hj => (bw i j hi hj).mono (by decide)⟩
      refine ⟨_, rfl, rfl, _, rfl, ite2 (fun _ => ?_) (fun _ => keep)⟩
      refine ⟨_, rfl, _, _, rfl, rfl, _, rfl, ite2 (fun hgt => ?_) (fun _ => keep)⟩
      have hn1 : 0 < (n : Int) := of_decide_eq_true hgt
      have hpl : pl < n := by have := mx1.2.2 hn1; omega
      obtain ⟨pr, hpr1, hpr2⟩ := mt.row pl hpl
      have ix : atI (rs.map V.ref) (pl : Int) = some (.ref pr) := atI_nat (by rw [List.getElem?_map, hpr1]; rfl)
      refine ⟨_, rfl, _, rfl, r, _, _, _, rfl, rfl, SqL.of mt.at_, ix, _, rfl, pr, _, _, _, rfl, rfl, SqL.of hpr2, ixa (k := pl) (by omega) (by omega) hpl, _, _, rfl, rfl, ?_⟩
      refine ⟨_, rfl, _, rfl, r, _, _, _, rfl, rfl, SqL.of mt.at_, ix, _, rfl, pr, _, _, pl, rfl, rfl, hpr2, by rw [vec_lenV]; unfold ixN; rw [if_pos (by omega), if_pos (by omega)]; congr 1, ?_⟩
      have st := mt.set (v := wsz ps pl pl - 1) hpl hpl hpr1
      refine ⟨_, rfl, st, fun i j _ _ => ?_, fun i j hi hj => ?_⟩
      · unfold put
        rw [wsz_sym ps i j]
        by_cases c : i = pl ∧ j = pl
        · rw [if_pos c, if_pos ⟨c.2, c.1⟩]
        · rw [if_neg c, if_neg fun d => c ⟨d.2, d.1⟩]
      · refine put_B (f := wsz ps) (k := 139) (n := n) (fun i j hi hj => (bw i j hi hj).mono (by decide)) ?_ i j hi hj
        exact P10.B.add (k := 138) (bw pl pl hpl hpl) (y := -1) (by show 1 < 2 ^ 138; decide)
    rintro σ H5 ⟨g, rfl, mt5, sy, bd⟩
    exact ⟨_, rfl, q r H5 g (s3.trans mt5.same) mt5.ltab sy bd⟩
end
end P10
namespace P10
open PySem PySem.Spec PyProof.Rows L2 SX EX WK
def RLn (D : Addr) : Hp → V → Nat → Prop := fun H v _ => ∃ p y, v = .ref p ∧ p ≠ D ∧ Ln H p 23 y ∧ Ev y
theorem stb_RLn {D : Addr} : StbD D (RLn D) := fun _ _ _ _ _ e ⟨p, y, h1, h2, h3, h5⟩ => ⟨p, y, h1, h2, ⟨e _ _ h2 h3.1, h3.2⟩, h5⟩
theorem lln_of {H : Hp} {D : Addr} {l : List V} {m : Nat} (h : H D = some (.lst l)) (r : Rs (RLn D) H l (List.range m)) : LLn H D m := by
  have hl : l.length = m := by rw [r.1, List.length_range]
  refine ⟨l, h, hl, fun i hi => ?_⟩
  have e := List.getElem?_eq_getElem (l := l) (i := i) (by omega)
  obtain ⟨p, y, h1, _, h2, h3⟩ := r.2 i _ i e (List.getElem?_range hi)
  exact ⟨p, y, by rw [e, h1], h2, h3⟩
theorem dig_vec {ns zs : List Int} {m : Nat} (d : Dig ns zs) (hl : zs.length = m) : ∃ y : Nat → Int, ns = vec m y ∧ ∀ i z, zs[i]? = some z → 0 ≤ y i ∧ y i < z := by
  refine ⟨fun i => ns.getD i 0, vec_of (by rw [d.len, hl]), fun i z e => ?_⟩
  obtain ⟨n, h1, h2, h3⟩ := d.get e
  show 0 ≤ ns.getD i 0 ∧ ns.getD i 0 < z
  rw [List.getD_eq_getElem?_getD, h1]
  exact ⟨h2, h3⟩
def zsF : List Int := [24, 14, 10, 8, 10, 10, 10, 4, 100000000]
def menuV : List Int := [0, 1, 2, 3, 4, 5, 6, 7, 8, 9, 10, 11, 12, 13]
theorem p1030 : (10 : Int) ^ (30 : Int).toNat = 1000000000000000000000000000000 := by decide
theorem B101 {x : Int} (h : -2000000000000000000000000000000 < x ∧ x < 2000000000000000000000000000000) : B 101 x := by
  show x.natAbs < 2 ^ 101
  have : (2000000000000000000000000000000 : Nat) < 2 ^ 101 := by decide
  omega
theorem under_at {s d : Int} (s0 : 0 ≤ s) (s1 : s < 100000000) (d0 : 0 ≤ d) (d1 : d < 10) : ∃ z : Int, ([V.int 1, V.int 1, V.int 2, V.int 3, V.int 6, V.int 12, V.int 7, V.int 1000, V.int (1 + s), V.int (10 ^ (30 : Int).toNat + 57)] : List V)[d.toNat]? = some (.int z) ∧ 1 ≤ z ∧ B 101 z := by
  have h := p1030
  have : d = 0 ∨ d = 1 ∨ d = 2 ∨ d = 3 ∨ d = 4 ∨ d = 5 ∨ d = 6 ∨ d = 7 ∨ d = 8 ∨ d = 9 := by omega
  rcases this with e | e | e | e | e | e | e | e | e | e <;> (subst e; exact ⟨_, rfl, by omega, B101 (by omega)⟩)
section
variable {P : Program} {w : World} {K : PySem.W.Frag} {mg : Str → Option Value} {base : Heap} {f : Addr} {fd : FuncData} {cF cR : Addr}
def spDF (K : PySem.W.Frag) : Sp := fun vs H Q _ => ∃ (a mn : Addr) (ns : List Int) (k : Int), vs = [.ref a, .int k, .ref mn] ∧ SqL K H a (ns.map V.int) ∧ 0 ≤ k ∧ k ≤ 100 ∧ H mn = some (.lst (menuV.map V.int)) ∧ ∀ r tb H' n g u, Same H H' → H' r = some (.lst [.int (n : Nat), .ref tb, .int u]) → n ≤ 10 → LTab H' tb n g → (∀ i j, i < n → j < n → g i j = g j i) → (∀ i j, i < n → j < n → B 139 (g i j)) → 1 ≤ u → B 101 u → Q (.ref r) H'
abbrev s__law_draw_form : Stmt := top 61
abbrev N__law_draw_form : List Str := ["script", "at", "menu", "shape", "size", "under", "lines", "k"]
theorem sc__law_draw_form : FnScope N__law_draw_form ["script", "at", "menu"] (defScope s__law_draw_form) := ⟨rfl, rfl, rfl, by decide +kernel, rfl, by decide +kernel, by decide +kernel⟩
theorem ok__law_draw_form (F : Fun K "_law_draw_form" "_law_draw_form" s__law_draw_form f fd) (T : Txt mg) (C__law_digits : Cal P w K mg base 1 "_law_digits" ["cell", "sizes"] (spDigits K)) (C__law_cell : Cal P w K mg base 1 "_law_cell" ["script", "k"] (spCell K)) (C__law_line : Cal P w K mg base 2 "_law_line" ["cell"] spLine) (C__law_sum_table : Cal P w K mg base 3 "_law_sum_table" ["size", "shape", "lines"] spSum) (C__law_any_table : Cal P w K mg base 2 "_law_any_table" ["size", "kind", "lines"] spAny) : FnOk P w K mg base CX0 4 f fd ["script", "at", "menu"] (spDF K) := by
  refine F.ok sc__law_draw_form (fun vs H Q E h => ?_) (fun cdv A outer s H vs Q E hr h => ?_)
  · obtain ⟨a, mn, ns, k, rfl, _⟩ := h
    rfl
  obtain ⟨a, mn, ss, k, rfl, ha, k0, k1, hmn, q⟩ := h
  refine ⟨_, (pss_cons (ps_set (i := 3) sc__law_draw_form.nd rfl (Or.inl rfl) (pe_cal C__law_digits (hr.mono (by omega)) rfl (pa_cons (pe_cal C__law_cell (hr.mono (by omega)) rfl (pa_cons (pv 0) (pa_cons (pv 1) pa_nil))) (pa_cons (pe_lst (pa_cons pe_int (pa_cons pe_int (pa_cons pe_int (pa_cons pe_int (pa_cons pe_int (pa_cons pe_int (pa_cons pe_int (pa_cons pe_int (pa_cons (pe_op op_pow pe_int pe_int) pa_nil)))))))))) pa_nil))))
  (pss_cons (ps_asg (pe_ix ix_list (pv 2) (pe_ix ix_list (pv 3) pe_int (fun _ _ => rfl)) (fun _ _ => rfl)) (pg_sub (pv 3) pe_int set_list))
  (pss_cons (ps_set (i := 4) sc__law_draw_form.nd rfl (Or.inl rfl) (pe_ix ix_list (pe_lst (pa_cons pe_int (pa_cons pe_int (pa_cons pe_int (pa_cons pe_int (pa_cons pe_int (pa_cons pe_int (pa_cons pe_int (pa_cons pe_int (pa_cons pe_int (pa_cons pe_int (pa_cons pe_int (pa_cons pe_int (pa_cons pe_int (pa_cons pe_int (pa_cons pe_int (pa_cons pe_int (pa_cons pe_int (pa_cons pe_int (pa_cons pe_int (pa_cons pe_int (pa_cons pe_int (pa_cons pe_int (pa_cons pe_int (pa_cons pe_int pa_nil))))))))))))))))))))))))) (pe_ix ix_list (pv 3) pe_int (fun _ _ => rfl)) (fun _ _ => rfl)))
  (pss_cons (ps_set (i := 5) sc__law_draw_form.nd rfl (Or.inl rfl) (pe_ix ix_list (pe_lst (pa_cons pe_int (pa_cons pe_int (pa_cons pe_int (pa_cons pe_int (pa_cons pe_int (pa_cons pe_int (pa_cons pe_int (pa_cons pe_int (pa_cons (pe_op op_add pe_int (pe_ix ix_list (pv 3) pe_int (fun _ _ => rfl))) (pa_cons (pe_op op_add (pe_op op_pow pe_int pe_int) pe_int) pa_nil))))))))))) (pe_ix ix_list (pv 3) pe_int (fun _ _ => rfl)) (fun _ _ => rfl)))
  (pss_cons (ps_setLc (i := 6) (own := [("k", 7)]) (g := gName 7) (tt := tYes) (by rfl) sc__law_draw_form.nd rfl rfl (sw_true rfl rfl rfl (by decide +kernel)) (pi_range1 (by rfl) T.b_range (pa_cons pe_int pa_nil)) (blkOk_by (N := N__law_draw_form) (sc := defScope s__law_draw_form) (by decide +kernel)) (fun _ _ _ _ _ => (pg_name (i := 7) sc__law_draw_form.nd rfl (Or.inl rfl))) (fun _ _ _ _ _ => pts_nil) (fun _ _ _ _ _ => (pe_cal C__law_line (hr.mono (by omega)) rfl (pa_cons (pe_cal C__law_cell (hr.mono (by omega)) rfl (pa_cons (pv 0) (pa_cons (pe_op op_add (pe_op op_add (pv 1) pe_int) (pv 7)) pa_nil))) pa_nil))))
  (pss_cons (ps_if (PW.pt (pw_or (pt_cmpR op_lt (pe_ix ix_list (pv 3) pe_int (fun _ _ => rfl)) pe_int (nomark _)) (pw_or1 (pt_cmpR op_eq (pe_ix ix_list (pv 3) pe_int (fun _ _ => rfl)) pe_int (nomark _))))) (pss_one (ps_ret (pe_lst (pa_cons (pv 4) (pa_cons (pe_cal C__law_any_table (hr.mono (by omega)) rfl (pa_cons (pv 4) (pa_cons (pe_ix ix_list (pv 3) pe_int (fun _ _ => rfl)) (pa_cons (pv 6) pa_nil)))) (pa_cons (pv 5) pa_nil)))))) pss_nil)
  (pss_one (ps_ret (pe_lst (pa_cons (pv 4) (pa_cons (pe_cal C__law_sum_table (hr.mono (by omega)) rfl (pa_cons (pv 4) (pa_cons (pv 3) (pa_cons (pv 6) pa_nil)))) (pa_cons (pv 5) pa_nil)))))))))))), ?_⟩
  refine ⟨_, rfl, _, rfl, a, ss, k, rfl, ha, k0, by omega, fun c => ?_⟩
  refine ⟨_, _, rfl, rfl, ⟨by decide, by decide, by decide⟩, line_ge (by show 9 ≤ 100000; decide), fun l0 hl0 => ?_⟩
  refine ⟨c, l0, zsF, rfl, SqL.of (by rw [upd_same]; rfl), by decide, szs (by decide), fun p ds hp hd => ?_⟩
  obtain ⟨y, rfl, hy⟩ := dig_vec hd (m := 9) rfl
  have s1 := fun o => (same_new hl0 (.lst [V.int 24, V.int 14, V.int 10, V.int 8, V.int 10, V.int 10, V.int 10, V.int 4, V.int (10 ^ (8 : Int).toNat)])).trans (same_new hp o)
  have y1 := hy 1 14 rfl
  obtain ⟨kd, hkm, hkk⟩ := pick (cs := menuV) (d := y 1) y1.1 y1.2
  have hkd : ∀ x ∈ menuV, 0 ≤ x ∧ x < 14 := by decide
  have kb := hkd kd hkm
  refine ⟨_, rfl, _, rfl, p, _, 1, _, rfl, rfl, SqL.of upd_same, ixa (k := 1) (by decide) rfl (by decide), mn, _, _, _, rfl, rfl, SqL.of (s1 _ _ _ hmn), at_pos y1.1 hkk, ?_⟩
  refine ⟨_, rfl, p, _, _, 1, rfl, rfl, upd_same, by rw [vec_lenV]; unfold ixN; rw [if_pos (by omega), if_pos (by omega)]; congr 1, ?_⟩
  rw [vec_set (by decide), upd_upd]
  have s1 := s1 (.lst ((vec 9 fun b => if b = 1 then kd else y b).map V.int))
  have h1p : upd (upd H l0 (.lst [V.int 24, V.int 14, V.int 10, V.int 8, V.int 10, V.int 10, V.int 10, V.int 4, V.int (10 ^ (8 : Int).toNat)])) p (.lst ((vec 9 fun b => if b = 1 then kd else y b).map V.int)) p = some (.lst ((vec 9 fun b => if b = 1 then kd else y b).map V.int)) := upd_same
  generalize hH1 : upd (upd H l0 _) p _ = H1 at *
  clear hH1
  obtain ⟨z, ez⟩ : ∃ z : Nat → Int, z = fun b => if b = 1 then kd else y b := ⟨_, rfl⟩
  rw [← ez] at h1p
  have z1 : z 1 = kd := by rw [ez]; rfl
  have zy : ∀ i, i ≠ 1 → z i = y i := fun i hi => by rw [ez]; exact if_neg hi
  have hz : ∀ i (m : Int), i ≠ 1 → zsF[i]? = some m → 0 ≤ z i ∧ z i < m := fun i m hi e => by rw [zy i hi]; exact hy i m e
  clear ez hy
  have hS := SqL.of (K := K) h1p
  have z0 := hz 0 24 (by decide) rfl
  have z4 := hz 4 10 (by decide) rfl
  have z5 := hz 5 10 (by decide) rfl
  have z6 := hz 6 10 (by decide) rfl
  have z7 := hz 7 4 (by decide) rfl
  have z8 := hz 8 100000000 (by decide) rfl
  -- size
  refine ⟨line_ge (by show 24 ≤ 100000; decide), fun l2 hl2 => ?_⟩
  obtain ⟨sz, hsm, hsk⟩ := pick (cs := [2, 3, 2, 3, 1, 4, 3, 2, 3, 2, 4, 1, 3, 5, 2, 3, 4, 0, 6, 2, 10, 7, 8, 9]) (d := z 0) z0.1 z0.2
  have hsb : ∀ x ∈ ([2, 3, 2, 3, 1, 4, 3, 2, 3, 2, 4, 1, 3, 5, 2, 3, 4, 0, 6, 2, 10, 7, 8, 9] : List Int), 0 ≤ x ∧ x ≤ 10 := by decide
  have sb := hsb sz hsm
  obtain ⟨n, hn⟩ : ∃ n : Nat, sz = n := ⟨sz.toNat, by omega⟩
  subst hn
  have hn10 : n ≤ 10 := by omega
  have s2 := fun o => same_new (H := H1) hl2 o
  refine ⟨_, rfl, p, _, 0, _, rfl, rfl, (s2 _).seq hS, ixa (k := 0) (by decide) rfl (by decide), l2, _, _, _, rfl, rfl, SqL.of upd_same, at_pos z0.1 hsk, ?_⟩
  generalize hH2 : upd H1 l2 _ = H2
  have s2' : Same H1 H2 := by rw [← hH2]; exact s2 _
  clear hH2 s2
  -- under
  refine ⟨_, rfl, p, _, 8, _, rfl, rfl, s2'.seq hS, ixa (k := 8) (by decide) rfl (by decide), _, _, rfl, rfl, _, _, rfl, rfl, ⟨by decide, by decide, by decide⟩, _, _, rfl, rfl, line_ge (by show 10 ≤ 100000; decide), fun l3 hl3 => ?_⟩
  obtain ⟨u, hu, u1, uB⟩ := under_at z8.1 z8.2 z4.1 z4.2
  have s3 := fun o => same_new (H := H2) hl3 o
  refine ⟨_, rfl, p, _, 4, _, rfl, rfl, (s2'.trans (s3 _)).seq hS, ixa (k := 4) (by decide) rfl (by decide), l3, _, _, _, rfl, rfl, SqL.of upd_same, at_pos z4.1 hu, ?_⟩
  generalize hH3 : upd H2 l3 _ = H3
  have s3' : Same H2 H3 := by rw [← hH3]; exact s3 _
  clear hH3 s3
  have s13 := s2'.trans s3'
  have s03 := s1.trans s13
  have h3p := s13 _ _ h1p
  -- lines
  refine ⟨10, rfl, by decide, by decide, fun Dl hDl => ?_⟩
  refine lc_gm (walk_range (lo := 0) (n := 10)) (RLn Dl) stb_RLn (List.range 10) (by rw [List.length_range]) (by rw [List.length_range]; omega) hDl (fun _ _ => trivial) (fun _ _ _ _ => ys_fn) id (fun c i x H4 H5 hc s4 s5 y hdl A B hA => ?_) (fun H4 l s4 hl4 rs => ?_)
  · obtain ⟨hc1, rfl⟩ := in_range hc
    rw [y.2]
    refine ⟨rfl, lc_yes ⟨_, rfl, _, rfl, _, _, rfl, rfl, _, rfl, _, _, rfl, rfl, a, ss, _, rfl, (s03.trans s5).seq ha, by omega, by omega, fun cc => ⟨cc, rfl, fun r H6 y hrf s6 hln hev => hA _ _ s6 ⟨r, y, rfl, fun z => ?_, hln, hev⟩⟩⟩⟩
    obtain ⟨l0, h0⟩ := hdl
    rw [← z, hrf] at h0
    cases h0
  rw [List.map_id] at rs
  have hll := lln_of hl4 rs
  have s04 := s03.trans s4
  have h4p := s4 _ _ h3p
  have hS4 := SqL.of (K := K) h4p
  have fin : ∀ (tb : Addr) (H5 : Hp) (g : Nat → Nat → Int), Same H4 H5 → LTab H5 tb n g → (∀ i j, i < n → j < n → g i j = g j i) → (∀ i j, i < n → j < n → B 139 (g i j)) → ∀ r, H5 r = none → Q (.ref r) (upd H5 r (.lst [.int (n : Nat), .ref tb, .int u])) := fun tb H5 g s5 ht sy bd r hr5 => q r tb _ n g u ((s04.trans s5).trans (same_new hr5 _)) upd_same hn10 (ht.same (same_new hr5 _)) sy bd u1 uB
  have i1 : atI ((vec 9 z).map V.int) 1 = some (.int (z 1)) := ixa (k := 1) (by decide) rfl (by decide)
  have doany : True → True := fun _ => trivial
  refine ⟨_, rfl, p, _, 1, _, rfl, rfl, hS4, i1, _, _, rfl, rfl, _, rfl, ite2 (fun c4 => ?_) (fun c4 => ⟨_, rfl, p, _, 1, _, rfl, rfl, hS4, i1, rfl, _, rfl, ite2 (fun c14 => ?_) (fun _ => ?_)⟩)⟩
  · exact ⟨_, rfl, _, rfl, _, rfl, p, _, 1, _, rfl, rfl, hS4, i1, _, rfl, Dl, n, z 1, rfl, hll, hn10, fun tb H5 g s5 ht sy bd => ⟨_, rfl, three_line, fun r hr5 => fin tb H5 g s5 ht sy (fun i j hi hj => (bd i j hi hj).mono (by decide)) r hr5⟩⟩
  · exact ⟨_, rfl, _, rfl, _, rfl, p, _, 1, _, rfl, rfl, hS4, i1, _, rfl, Dl, n, z 1, rfl, hll, hn10, fun tb H5 g s5 ht sy bd => ⟨_, rfl, three_line, fun r hr5 => fin tb H5 g s5 ht sy (fun i j hi hj => (bd i j hi hj).mono (by decide)) r hr5⟩⟩
  · have k4 : 4 ≤ z 1 := by
      have : ¬ z 1 < 4 := fun h => c4 (decide_eq_true h)
      omega
    exact ⟨_, rfl, _, rfl, _, rfl, _, rfl, p, Dl, n, z, rfl, ⟨h4p, k4, by omega, z5.1, z5.2, z6.1, z6.2, z7.1, z7.2⟩, hll, hn10, fun tb H5 g s5 ht sy bd => ⟨_, rfl, three_line, fun r hr5 => fin tb H5 g s5 ht sy bd r hr5⟩⟩
end
end P10
namespace PySem.El
/-! Determinants of any table by elimination with exchanges of rows. -/
def rws (u : Nat → Row) : Nat → List Row
  | 0 => []
  | n + 1 => u n :: rws u n
def clm : Nat → List Nat
  | 0 => []
  | n + 1 => n :: clm n
/-- the determinant of the first n rows and columns -/
def dt (u : Nat → Row) (n : Nat) : Int := D (clm n) (rws u n)
theorem rws_len (u : Nat → Row) : ∀ n, (rws u n).length = n
  | 0 => rfl
  | n + 1 => by rw [rws, List.length_cons, rws_len u n]
theorem clm_len : ∀ n, (clm n).length = n
  | 0 => rfl
  | n + 1 => by rw [clm, List.length_cons, clm_len n]
theorem clm_mem {x : Nat} : ∀ {n}, x ∈ clm n ↔ x < n
  | 0 => by simp [clm]
  | n + 1 => by rw [clm, List.mem_cons, clm_mem]; omega
theorem rws_mem {u : Nat → Row} {r : Row} : ∀ {n}, r ∈ rws u n → ∃ i, i < n ∧ r = u i
  | 0, h => by simp [rws] at h
  | n + 1, h => by
    rw [rws, List.mem_cons] at h
    rcases h with h | h
    · exact ⟨n, by omega, h⟩
    · obtain ⟨i, h1, h2⟩ := rws_mem h
      exact ⟨i, by omega, h2⟩
theorem rws_congr {u v : Nat → Row} : ∀ {n}, (∀ i, i < n → u i = v i) → rws u n = rws v n
  | 0, _ => rfl
  | n + 1, h => by rw [rws, rws, h n (by omega), rws_congr fun i hi => h i (by omega)]
def sgm (u : Nat → Row) (lo : Nat) : Nat → List Row
  | 0 => []
  | t + 1 => u (lo + t) :: sgm u lo t
theorem rws_sgm (u : Nat → Row) (lo : Nat) : ∀ t, rws u (lo + t) = sgm u lo t ++ rws u lo
  | 0 => rfl
  | t + 1 => by rw [Nat.add_succ, rws, rws_sgm u lo t]; rfl
theorem sgm_congr {u v : Nat → Row} {lo : Nat} : ∀ {t}, (∀ i, lo ≤ i → i < lo + t → u i = v i) → sgm u lo t = sgm v lo t
  | 0, _ => rfl
  | t + 1, h => by rw [sgm, sgm, h (lo + t) (by omega) (by omega), sgm_congr fun i h1 h2 => h i h1 (by omega)]
theorem D_exch (cs : List Nat) (a b c : List Row) (x y : Row) : D cs (a ++ x :: (b ++ y :: c)) = -D cs (a ++ y :: (b ++ x :: c)) := by
  have h0 := D_far cs (comb x 1 y) b a c
  have h1 := D_lin cs a (b ++ comb x 1 y :: c) x y 1
  have h2 := D_lin cs (a ++ x :: b) c x y 1
  have h3 := D_lin cs (a ++ y :: b) c x y 1
  have h4 := D_far cs x b a c
  have h5 := D_far cs y b a c
  simp only [List.append_assoc, List.cons_append] at h2 h3
  rw [h1, h2, h3, h4, h5] at h0
  omega
theorem D_sp_at (cs : List Nat) (a rows : List Row) (u w : Row) (h : Sp rows w) : D cs (a ++ (fun j => u j + w j) :: rows) = D cs (a ++ u :: rows) := by
  induction h with
  | zero => simp
  | add w k v _ hv ih =>
    rw [comb_assoc]
    have h := D_lin cs a rows (fun j => u j + w j) v k
    obtain ⟨b, c, rfl⟩ := List.append_of_mem hv
    rw [h, D_far cs v b a c, ih]
    omega
theorem D_scale_at (cs : List Nat) (a rows : List Row) (k : Int) (v : Row) : D cs (a ++ (fun j => k * v j) :: rows) = k * D cs (a ++ v :: rows) := by
  have h := D_lin cs a rows (fun _ => 0) v k
  have hz := D_zero cs a rows (fun _ => 0) (fun _ _ => rfl)
  have he : comb (fun _ => 0) k v = fun j => k * v j := by funext j; simp [comb]
  rw [he, hz] at h
  rw [h]; omega
theorem E_span (f : List Row → Int) : ∀ (rows pre : List Row), ∃ w, Sp rows w ∧ ∀ c, E c f pre rows = w c
  | [], pre => ⟨fun _ => 0, .zero, fun c => rfl⟩
  | r :: rs, pre => by
    obtain ⟨w, h1, h2⟩ := E_span f rs (pre ++ [r])
    refine ⟨comb (fun j => -1 * w j) (f (pre ++ rs)) r, .add _ _ _ (Sp_scale (Sp_mono (fun x hx => List.mem_cons_of_mem _ hx) h1) _) (List.mem_cons_self ..), fun c => ?_⟩
    show r c * f (pre ++ rs) - E c f (pre ++ [r]) rs = -1 * w c + f (pre ++ rs) * r c
    rw [h2 c, Int.mul_comm (r c)]
    omega
/-- behind k steps: the rows u stand, the pivots' product is d, the rest of the rows is P -/
structure Gb (u : Nat → Row) (n k : Nat) (d : Int) (P : Nat → Row) : Prop where
  piv : d = dt u k
  nz : d ≠ 0
  mn : ∀ i j, k ≤ i → i < n → P i j = D (j :: clm k) (u i :: rws u k)
  low : ∀ i j, k ≤ i → i < n → j < k → P i j = 0
theorem Gb.begin (u : Nat → Row) (n : Nat) {P : Nat → Row} (h : ∀ i j, i < n → P i j = u i j) : Gb u n 0 1 P where
  piv := rfl
  nz := by decide
  mn := fun i j _ hi => by rw [h i j hi]; simp [D, E, clm, rws]
  low := fun i j _ _ hj => by omega
theorem Gb.span {u : Nat → Row} {n k : Nat} {d : Int} {P : Nat → Row} (h : Gb u n k d P) {i : Nat} (hi : k ≤ i) (hn : i < n) : ∃ w, Sp (rws u k) w ∧ ∀ j, d * u i j + w j = P i j := by
  obtain ⟨w, h1, h2⟩ := E_span (D (clm k)) (rws u k) [u i]
  refine ⟨fun j => -1 * w j, Sp_scale h1 _, fun j => ?_⟩
  have e := h.mn i j hi hn
  have e2 : D (j :: clm k) (u i :: rws u k) = u i j * D (clm k) (rws u k) - E j (D (clm k)) [u i] (rws u k) := rfl
  rw [e, e2, h2 j, h.piv]
  show D (clm k) (rws u k) * u i j + -1 * w j = _
  rw [Int.mul_comm (u i j)]
  omega
theorem Gb.pivot {u : Nat → Row} {n k : Nat} {d : Int} {P : Nat → Row} (h : Gb u n k d P) (hk : k < n) : P k k = dt u (k + 1) := h.mn k k (Nat.le_refl k) hk
/-- the next row -/
def nxt (u : Nat → Row) (k : Nat) : Nat → Row := fun i j => D (j :: clm (k + 1)) (u i :: rws u (k + 1))
theorem Gb.exact {u : Nat → Row} {n k : Nat} {d : Int} {P : Nat → Row} (h : Gb u n k d P) (hk : k < n) (hp : P k k ≠ 0) {i : Nat} (hi : k < i) (hn : i < n) (j : Nat) : d * nxt u k i j = P k k * P i j - P i k * P k j := by
  obtain ⟨w, w1, w2⟩ := h.span (Nat.le_of_lt hi) hn
  obtain ⟨z, z1, z2⟩ := h.span (Nat.le_refl k) hk
  have hb := D_border (clm (k + 1)) (rws u (k + 1)) (u i) (fun x => P k k * w x + (-(P i k)) * P k x) (fun x => P k k * P i x - P i k * P k x) (d * P k k) j ?_ ?_ ?_
  · have e : D (clm (k + 1)) (rws u (k + 1)) = P k k := (h.pivot hk).symm
    rw [e] at hb
    have : P k k * (d * nxt u k i j) = P k k * (P k k * P i j - P i k * P k j) := by
      have e2 : (d * P k k) * nxt u k i j = (P k k * P i j - P i k * P k j) * P k k := hb
      rw [Int.mul_comm (P k k) (P k k * P i j - P i k * P k j), ← e2]
      grind
    exact Int.eq_of_mul_eq_mul_left hp this
  · refine Sp_add (Sp_scale (Sp_mono (fun x hx => List.mem_cons_of_mem _ hx) w1) _) (Sp_scale ?_ _)
    have e : (fun x => P k x) = fun x => d * u k x + z x := funext fun x => (z2 x).symm
    show Sp (rws u (k + 1)) (P k)
    rw [show P k = fun x => P k x from rfl, e]
    have s1 : Sp (rws u (k + 1)) (comb z d (u k)) := .add _ _ _ (Sp_mono (fun x hx => List.mem_cons_of_mem _ hx) z1) (List.mem_cons_self ..)
    have e3 : comb z d (u k) = fun x => d * u k x + z x := by funext x; simp only [comb]; omega
    rw [← e3]
    exact s1
  · intro x
    have := w2 x
    show d * P k k * u i x + (P k k * w x + -(P i k) * P k x) = P k k * P i x - P i k * P k x
    rw [← this]
    grind
  · intro x hx
    have hx := clm_mem.mp hx
    show P k k * P i x - P i k * P k x = 0
    by_cases c : x = k
    · rw [c, Int.mul_comm]
      omega
    · rw [h.low i x (by omega) hn (by omega), h.low k x (Nat.le_refl k) hk (by omega)]
      simp
theorem Gb.step {u : Nat → Row} {n k : Nat} {d : Int} {P P' : Nat → Row} (h : Gb u n k d P) (hk : k < n) (hp : P k k ≠ 0) (e : ∀ i j, k < i → i < n → P' i j = nxt u k i j) : Gb u n (k + 1) (P k k) P' where
  piv := h.pivot hk
  nz := hp
  mn := fun i j hi hn => e i j (by omega) hn
  low := fun i j hi hn hj => by
    have e1 := h.exact hk hp (i := i) (by omega) hn j
    have e2 : d * nxt u k i j = 0 := by
      rw [e1]
      by_cases c : j = k
      · rw [c, Int.mul_comm]
        omega
      · rw [h.low i j (by omega) hn (by omega), h.low k j (Nat.le_refl k) hk (by omega)]
        simp
    rw [e i j (by omega) hn]
    rcases Int.mul_eq_zero.mp e2 with c | c
    · exact absurd c h.nz
    · exact c
/-- two rows exchanged -/
def xch {α : Type} (u : Nat → α) (k i : Nat) : Nat → α := fun a => if a = k then u i else if a = i then u k else u a
theorem xch_same {α : Type} (u : Nat → α) (k : Nat) : xch u k k = u := by
  funext a
  unfold xch
  split
  · rename_i c; rw [c]
  · rfl
theorem Gb.xch {u : Nat → Row} {n k : Nat} {d : Int} {P : Nat → Row} (h : Gb u n k d P) {i : Nat} (hk : k ≤ i) (hi : i < n) : Gb (xch u k i) n k d (xch P k i) := by
  have e : rws (El.xch u k i) k = rws u k := rws_congr fun a ha => by unfold El.xch; rw [if_neg (by omega), if_neg (by omega)]
  refine ⟨by unfold dt; rw [e]; exact h.piv, h.nz, fun a j ha hn => ?_, fun a j ha hn hj => ?_⟩
  · rw [e]
    unfold El.xch
    by_cases c : a = k
    · rw [if_pos c, if_pos c]; exact h.mn i j hk hi
    · rw [if_neg c, if_neg c]
      by_cases c2 : a = i
      · rw [if_pos c2, if_pos c2]; exact h.mn k j (Nat.le_refl k) (by omega)
      · rw [if_neg c2, if_neg c2]; exact h.mn a j ha hn
  · unfold El.xch
    by_cases c : a = k
    · rw [if_pos c]; exact h.low i j hk hi hj
    · rw [if_neg c]
      by_cases c2 : a = i
      · rw [if_pos c2]; exact h.low k j (Nat.le_refl k) (by omega) hj
      · rw [if_neg c2]; exact h.low a j ha hn hj
theorem rws_two {u : Nat → Row} {n k i : Nat} (hk : k < i) (hi : i < n) : rws u n = sgm u (i + 1) (n - (i + 1)) ++ u i :: (sgm u (k + 1) (i - (k + 1)) ++ u k :: rws u k) := by
  have e1 := rws_sgm u (i + 1) (n - (i + 1))
  rw [show i + 1 + (n - (i + 1)) = n by omega] at e1
  have e2 := rws_sgm u (k + 1) (i - (k + 1))
  rw [show k + 1 + (i - (k + 1)) = i by omega] at e2
  rw [e1, rws, e2]
  rfl
theorem dt_xch {u : Nat → Row} {n k i : Nat} (hk : k < i) (hi : i < n) : dt (xch u k i) n = -dt u n := by
  unfold dt
  rw [rws_two (u := xch u k i) hk hi, rws_two (u := u) hk hi]
  have a1 : sgm (xch u k i) (i + 1) (n - (i + 1)) = sgm u (i + 1) (n - (i + 1)) := sgm_congr fun a h1 h2 => by unfold xch; rw [if_neg (by omega), if_neg (by omega)]
  have a2 : sgm (xch u k i) (k + 1) (i - (k + 1)) = sgm u (k + 1) (i - (k + 1)) := sgm_congr fun a h1 h2 => by unfold xch; rw [if_neg (by omega), if_neg (by omega)]
  have a3 : rws (xch u k i) k = rws u k := rws_congr fun a ha => by unfold xch; rw [if_neg (by omega), if_neg (by omega)]
  have a4 : xch u k i i = u k := by unfold xch; rw [if_neg (by omega), if_pos rfl]
  have a5 : xch u k i k = u i := by unfold xch; rw [if_pos rfl]
  rw [a1, a2, a3, a4, a5]
  exact D_exch _ _ _ _ _ _
/-- a row turned about -/
def ngr (u : Nat → Row) (i : Nat) : Nat → Row := fun a => if a = i then fun j => -1 * u i j else u a
theorem dt_ngr {u : Nat → Row} {n i : Nat} (hi : i < n) : dt (ngr u i) n = -dt u n := by
  unfold dt
  have e1 := rws_sgm (ngr u i) (i + 1) (n - (i + 1))
  have e2 := rws_sgm u (i + 1) (n - (i + 1))
  rw [show i + 1 + (n - (i + 1)) = n by omega] at e1 e2
  have a1 : sgm (ngr u i) (i + 1) (n - (i + 1)) = sgm u (i + 1) (n - (i + 1)) := sgm_congr fun a h1 h2 => by unfold ngr; rw [if_neg (by omega)]
  have a3 : rws (ngr u i) i = rws u i := rws_congr fun a ha => by unfold ngr; rw [if_neg (by omega)]
  have a4 : ngr u i i = fun j => -1 * u i j := by unfold ngr; rw [if_pos rfl]
  rw [e1, e2, rws, rws, a1, a3, a4, D_scale_at]
  omega
theorem Gb.ngr {u : Nat → Row} {n k : Nat} {d : Int} {P : Nat → Row} (h : Gb u n k d P) {i : Nat} (hk : k ≤ i) : Gb (ngr u i) n k d (ngr P i) := by
  have e : rws (El.ngr u i) k = rws u k := rws_congr fun a ha => by unfold El.ngr; rw [if_neg (by omega)]
  refine ⟨by unfold dt; rw [e]; exact h.piv, h.nz, fun a j ha hn => ?_, fun a j ha hn hj => ?_⟩
  · rw [e]
    unfold El.ngr
    by_cases c : a = i
    · subst c
      rw [if_pos rfl, if_pos rfl]
      have := D_scale (j :: clm k) (rws u k) (-1) (u a)
      show -1 * P a j = _
      rw [this, h.mn a j ha hn]
    · rw [if_neg c, if_neg c]; exact h.mn a j ha hn
  · unfold El.ngr
    by_cases c : a = i
    · subst c
      rw [if_pos rfl]
      show -1 * P a j = 0
      rw [h.low a j ha hn hj]
      rfl
    · rw [if_neg c]; exact h.low a j ha hn hj
/-! ### a column without a pivot -/
def zz (Z : List Nat) (r : Row) : Bool := Z.all fun z => decide (r z = 0)
theorem E_many (c : Nat) (cs Z : List Nat) (ih : ∀ rows : List Row, cs.length < rows.countP (zz Z) → D (cs ++ Z) rows = 0) : ∀ (rows pre : List Row), cs.length + 1 < (pre ++ rows).countP (zz Z) → E c (D (cs ++ Z)) pre rows = 0
  | [], _, _ => rfl
  | r :: rs, pre, h => by
    have h1 : cs.length < (pre ++ rs).countP (zz Z) := by
      rw [List.countP_append] at h ⊢
      rw [List.countP_cons] at h
      split at h <;> omega
    have h2 := E_many c cs Z ih rs (pre ++ [r]) (by rw [List.append_assoc]; exact h)
    show r c * D (cs ++ Z) (pre ++ rs) - E c (D (cs ++ Z)) (pre ++ [r]) rs = 0
    rw [ih _ h1, h2]
    simp
theorem D_many (Z : List Nat) : ∀ (cs : List Nat) (rows : List Row), cs.length < rows.countP (zz Z) → D (cs ++ Z) rows = 0
  | [], rows, h => by
    obtain ⟨r, hr, hz⟩ := List.countP_pos_iff.mp h
    obtain ⟨a, b, rfl⟩ := List.append_of_mem hr
    refine D_zero _ a b r fun j hj => ?_
    unfold zz at hz
    rw [List.all_eq_true] at hz
    exact of_decide_eq_true (hz j hj)
  | c :: cs, rows, h => E_many c cs Z (D_many Z cs) rows [] h
theorem clm_app (k : Nat) : ∀ t, ∃ cs, clm (k + t) = cs ++ clm k ∧ cs.length = t
  | 0 => ⟨[], rfl, rfl⟩
  | t + 1 => by
    obtain ⟨cs, h1, h2⟩ := clm_app k t
    refine ⟨(k + t) :: cs, ?_, by rw [List.length_cons, h2]⟩
    rw [Nat.add_succ, clm, h1]
    rfl
theorem dt_up {u v : Nat → Row} {k : Nat} {d : Int} (cs : List Nat) (hv : ∀ i, k ≤ i → ∃ w, Sp (rws u k) w ∧ ∀ j, d * u i j + w j = v i j) : ∀ (t : Nat) (a : List Row), D cs (a ++ (sgm v k t ++ rws u k)) = d ^ t * D cs (a ++ (sgm u k t ++ rws u k))
  | 0, a => by rw [Int.pow_zero, Int.one_mul]; rfl
  | t + 1, a => by
    have ih := dt_up cs hv t (a ++ [v (k + t)])
    rw [List.append_assoc, List.append_assoc] at ih
    show D cs (a ++ ([v (k + t)] ++ (sgm v k t ++ rws u k))) = _
    rw [ih]
    obtain ⟨w, w1, w2⟩ := hv (k + t) (by omega)
    have e : v (k + t) = fun j => d * u (k + t) j + w j := funext fun j => (w2 j).symm
    have e2 : D cs (a ++ ([v (k + t)] ++ (sgm u k t ++ rws u k))) = d * D cs (a ++ (u (k + t) :: (sgm u k t ++ rws u k))) := by
      rw [e, ← D_scale_at]
      exact D_sp_at cs a (sgm u k t ++ rws u k) (fun j => d * u (k + t) j) w (Sp_mono (fun x hx => List.mem_append_right _ hx) w1)
    rw [e2, Int.pow_succ, Int.mul_assoc]
    rfl
theorem sgm_count {v : Nat → Row} {Z : List Nat} {k : Nat} : ∀ t, (∀ i, k ≤ i → i < k + t → zz Z (v i) = true) → (sgm v k t).countP (zz Z) = t
  | 0, _ => rfl
  | t + 1, h => by
    rw [sgm, List.countP_cons, sgm_count t fun i h1 h2 => h i h1 (by omega), h (k + t) (by omega) (by omega)]
    rfl
theorem Gb.none {u : Nat → Row} {n k : Nat} {d : Int} {P : Nat → Row} (h : Gb u n k d P) (hk : k < n) (hz : ∀ i, k ≤ i → i < n → P i k = 0) : dt u n = 0 := by
  have v0 : ∀ i, k ≤ i → ∃ w, Sp (rws u k) w ∧ ∀ j, d * u i j + w j = (fun a => if a < n then P a else fun j => d * u a j) i j := fun i hi => by
    by_cases c : i < n
    · obtain ⟨w, w1, w2⟩ := h.span hi c
      exact ⟨w, w1, fun j => by show _ = (if i < n then P i else _) j; rw [if_pos c]; exact w2 j⟩
    · exact ⟨fun _ => 0, .zero, fun j => by show d * u i j + 0 = (if i < n then P i else _) j; rw [if_neg c, Int.add_zero]⟩
  have e := dt_up (clm n) v0 (n - k) []
  have e1 := rws_sgm u k (n - k)
  rw [show k + (n - k) = n by omega] at e1
  rw [List.nil_append, List.nil_append, ← e1] at e
  obtain ⟨cs, c1, c2⟩ := clm_app (k + 1) (n - (k + 1))
  rw [show k + 1 + (n - (k + 1)) = n by omega] at c1
  have z : D (clm n) (sgm (fun a => if a < n then P a else fun j => d * u a j) k (n - k) ++ rws u k) = 0 := by
    rw [c1]
    refine D_many _ _ _ ?_
    rw [List.countP_append, sgm_count (n - k) fun i h1 h2 => ?_]
    · omega
    · unfold zz
      rw [List.all_eq_true]
      intro x hx
      have hx := clm_mem.mp hx
      refine decide_eq_true ?_
      show (if i < n then P i else _) x = 0
      rw [if_pos (by omega)]
      by_cases c : x = k
      · rw [c]; exact hz i h1 (by omega)
      · exact h.low i x h1 (by omega) (by omega)
  rw [z] at e
  rcases Int.mul_eq_zero.mp e.symm with c | c
  · exact absurd c (Int.pow_ne_zero h.nz)
  · exact c
theorem dt_scale {u v : Nat → Row} {g : Int} (n : Nat) (e : ∀ i j, v i j = g * u i j) : dt v n = g ^ n * dt u n := by
  have h := dt_up (u := u) (v := v) (k := 0) (d := g) (clm n) (fun i _ => ⟨fun _ => 0, .zero, fun j => by rw [e i j]; exact Int.add_zero _⟩) n []
  have e1 := rws_sgm u 0 n
  have e2 := rws_sgm v 0 n
  rw [Nat.zero_add] at e1 e2
  unfold dt
  rw [e1, e2]
  exact h
/-- what elimination finds is bounded -/
theorem Gb.bound {u : Nat → Row} {n k : Nat} {d : Int} {P : Nat → Row} (h : Gb u n k d P) {M : Int} (hM : 0 ≤ M) (hu : ∀ i j, i < n → -M ≤ u i j ∧ u i j ≤ M) (hk : k ≤ n) :
    (-(bnd M k) ≤ d ∧ d ≤ bnd M k) ∧ ∀ i j, k ≤ i → i < n → -(bnd M (k + 1)) ≤ P i j ∧ P i j ≤ bnd M (k + 1) := by
  have hr : ∀ r ∈ rws u k, ∀ c : Nat, -M ≤ r c ∧ r c ≤ M := fun r hr c => by
    obtain ⟨i, h1, rfl⟩ := rws_mem hr
    exact hu i c (by omega)
  constructor
  · have := D_bound hM (clm k) (rws u k) (by rw [rws_len, clm_len]) fun r hr' c _ => hr r hr' c
    rw [clm_len] at this
    rw [h.piv]
    exact this
  · intro i j hi hn
    have := D_bound hM (j :: clm k) (u i :: rws u k) (by rw [List.length_cons, List.length_cons, rws_len, clm_len]) fun r hr' c _ => by
      rcases List.mem_cons.mp hr' with e | e
      · rw [e]; exact hu i c hn
      · exact hr r e c
    rw [List.length_cons, clm_len] at this
    rw [h.mn i j hi hn]
    exact this
end PySem.El
namespace PySem.El
theorem Q_lin (n : Nat) (A : Nat → Row) (x : Row) : Q n A x = sm n (fun i => x i * lin n (A i) x) := by
  unfold Q lin
  exact sm_congr fun i _ => by
    rw [← sm_mul]
    exact sm_congr fun j _ => by grind
theorem sq_nn (x : Int) : 0 ≤ x * x := by
  rcases Int.le_total 0 x with c | c
  · exact Int.mul_nonneg c c
  · exact Int.mul_nonneg_of_nonpos_of_nonpos c c
theorem lsum_nn {ps : List Pv} {f : Pv → Int} (h : ∀ p ∈ ps, 0 ≤ f p) : 0 ≤ lsum ps f := by
  induction ps with
  | nil => simp [lsum]
  | cons p ps ih =>
    have a := h p (List.mem_cons_self ..)
    have b := ih fun q hq => h q (List.mem_cons_of_mem _ hq)
    simp only [lsum, List.foldr_cons] at *
    omega
theorem lsum_0 {ps : List Pv} {f : Pv → Int} (h : ∀ p ∈ ps, 0 ≤ f p) (h0 : lsum ps f = 0) : ∀ p ∈ ps, f p = 0 := by
  induction ps with
  | nil => simp
  | cons p ps ih =>
    have a := h p (List.mem_cons_self ..)
    have b := lsum_nn fun q hq => h q (List.mem_cons_of_mem _ hq)
    have e : lsum (p :: ps) f = f p + lsum ps f := rfl
    rw [e] at h0
    intro q hq
    rcases List.mem_cons.1 hq with c | c
    · rw [c]; omega
    · exact ih (fun q hq => h q (List.mem_cons_of_mem _ hq)) (by omega) q c
/-- the rows of a whole elimination by its pivots -/
theorem Run.wlin {A : Nat → Row} (hA : ∀ i j, A i j = A j i) {n S d B ps} (h : Run A n S d B ps) (i : Nat) (z : Row) :
    wprod ps * lin n (A i) z = lsum ps (fun p => wprod ps / p.2.2 * p.2.1 i * lin n p.2.1 z) := by
  unfold lin
  rw [← sm_mul]
  have := lsum_lin n ps (fun p => wprod ps / p.2.2) i z
  rw [sm_congr (g := fun j => lsum ps (fun p => wprod ps / p.2.2 * (p.2.1 i * p.2.1 j)) * z j) (fun j hj => by
    rw [← Int.mul_assoc, h.whole hA (wprod ps) (fun p => wprod ps / p.2.2) (fun p hp => by rw [Int.mul_comm]; exact Int.mul_ediv_cancel' (wprod_dvd hp)) i j hj]), this]
  rfl
theorem lsum_sm (n : Nat) (ps : List Pv) (c : Pv → Int) (z : Row) : sm n (fun i => z i * lsum ps (fun p => c p * p.2.1 i * lin n p.2.1 z)) = lsum ps (fun p => c p * (lin n p.2.1 z * lin n p.2.1 z)) := by
  induction ps with
  | nil => simp [lsum, sm_zero]
  | cons p ps ih =>
    have e : ∀ i, z i * lsum (p :: ps) (fun p => c p * p.2.1 i * lin n p.2.1 z) = c p * lin n p.2.1 z * (p.2.1 i * z i) + z i * lsum ps (fun p => c p * p.2.1 i * lin n p.2.1 z) := fun i => by
      simp only [lsum, List.foldr_cons]; grind
    rw [sm_congr fun i _ => e i, sm_add, sm_mul, ih]
    show c p * lin n p.2.1 z * lin n p.2.1 z + _ = lsum (p :: ps) _
    simp only [lsum, List.foldr_cons]
    grind
/-- where the value is 0 all rows tell 0 -/
theorem Run.null {A : Nat → Row} (hA : ∀ i j, A i j = A j i) {n S d B ps} (h : Run A n S d B ps) (hs : ∀ p ∈ ps, 0 < p.2.2) {z : Row} (hz : Q n A z = 0) : ∀ i, lin n (A i) z = 0 := by
  have hW := wprod_pos hs
  have cp : ∀ p ∈ ps, 0 < wprod ps / p.2.2 := fun p hp => by
    obtain ⟨c, hc⟩ := wprod_dvd hp
    have s0 := hs p hp
    have : wprod ps / p.2.2 = c := by rw [hc]; exact Int.mul_ediv_cancel_left _ (by omega)
    rw [this]
    rw [hc] at hW
    exact Int.pos_of_mul_pos_right hW s0
  have e : lsum ps (fun p => wprod ps / p.2.2 * (lin n p.2.1 z * lin n p.2.1 z)) = 0 := by
    rw [← lsum_sm, sm_congr (g := fun i => wprod ps * (z i * lin n (A i) z)) (fun i _ => by rw [← h.wlin hA]; grind), sm_mul, ← Q_lin, hz, Int.mul_zero]
  have z0 := lsum_0 (fun p hp => Int.mul_nonneg (Int.le_of_lt (cp p hp)) (sq_nn _)) e
  have l0 : ∀ p ∈ ps, lin n p.2.1 z = 0 := fun p hp => by
    have c := cp p hp
    rcases Int.mul_eq_zero.1 (z0 p hp) with q | q
    · omega
    · rcases Int.mul_eq_zero.1 q with q | q <;> exact q
  intro i
  have := h.wlin hA i z
  rw [lsum_congr (g := fun p => 0 * (0 : Int)) (fun p hp => by rw [l0 p hp]; simp), lsum_mul, Int.zero_mul] at this
  rcases Int.mul_eq_zero.1 this with c | c
  · omega
  · exact c
/-- a row that is told 0 by all, as a value -/
theorem Q_null {n : Nat} {A : Nat → Row} {z : Row} (h : ∀ i, i < n → lin n (A i) z = 0) : Q n A z = 0 := by
  rw [Q_lin, sm_congr (g := fun _ => 0) (fun i hi => by rw [h i hi, Int.mul_zero]), sm_zero]
/-- leads are told by what all rows tell 0 -/
theorem Run.noKer {A : Nat → Row} (hA : ∀ i j, A i j = A j i) {k S d B ps} (h : Run A k S d B ps) {n : Nat} (hk : k ≤ n) {s : Nat} (hs : s ∈ S) {y : Row} (hy : ∀ i, i < n → lin n (A i) y = 0) (h0 : ∀ j, s < j → y j = 0) : y s = 0 := by
  induction h with
  | begin => simp at hs
  | skip _ _ ih => exact ih (by omega) hs
  | @pivot k S d B ps h hp ih =>
    rcases List.mem_cons.1 hs with e | m
    · subst e
      have hI := h.inv hA
      obtain ⟨m, w, hm, hw, he⟩ := hI.span s (Nat.le_refl s)
      have e1 : lin n w y = 0 := hw.lin fun r hr => by
        obtain ⟨t, ht, rfl⟩ := List.mem_map.1 hr
        exact hy t (by have := hI.small t ht; omega)
      have e2 : m * lin n (B s) y = 0 := by
        have : m * lin n (B s) y = m * d * lin n (A s) y + lin n w y := by
          unfold lin
          rw [← sm_mul, ← sm_mul, ← sm_add]
          exact sm_congr fun j _ => by have := he j; grind
        rw [this, hy s (by omega), e1]
        simp
      have e3 : lin n (B s) y = B s s * y s := by
        unfold lin
        rw [← sm_one (fun j => B s j * y j) (show s < n by omega)]
        refine sm_congr fun j _ => ?_
        by_cases c : j = s
        · rw [if_pos c]
        · rw [if_neg c]
          by_cases c2 : j < s
          · rw [hI.low s j c2]; simp
          · rw [h0 j (by omega)]; simp
      rw [e3] at e2
      rcases Int.mul_eq_zero.1 e2 with c | c
      · exact absurd c hm
      · rcases Int.mul_eq_zero.1 c with c | c
        · omega
        · exact c
    · exact ih (by omega) m
end PySem.El
namespace PySem.El
theorem sm_le {n : Nat} {f g : Nat → Int} (h : ∀ i, i < n → f i ≤ g i) : sm n f ≤ sm n g := by
  induction n with
  | zero => exact Int.le_refl _
  | succ n ih =>
    have a := ih fun i hi => h i (by omega)
    have b := h n (by omega)
    simp only [sm]
    omega
theorem sm_const (n : Nat) (c : Int) : sm n (fun _ => c) = n * c := by
  induction n with
  | zero => simp [sm]
  | succ n ih =>
    simp only [sm]
    rw [ih]
    have : ((n + 1 : Nat) : Int) = (n : Int) + 1 := by omega
    rw [this]; grind
theorem lin_sym {n : Nat} {A : Nat → Row} (hA : ∀ i j, A i j = A j i) (x z : Row) : sm n (fun i => z i * lin n (A i) x) = sm n (fun i => x i * lin n (A i) z) := by
  unfold lin
  rw [sm_congr (g := fun i => sm n (fun j => z i * (A i j * x j))) (fun i _ => (sm_mul n (z i) _).symm), sm_swap]
  exact sm_congr fun i _ => by
    rw [← sm_mul]
    exact sm_congr fun j _ => by rw [hA j i]; grind
/-- an index that is no lead: the rest's row was 0 -/
theorem Run.free {A : Nat → Row} {m S d B ps} (h : Run A m S d B ps) {k : Nat} (hk : k < m) (hS : k ∉ S) : ∃ S3 d3 B3 ps3, Run A k S3 d3 B3 ps3 ∧ ∀ x, B3 k x = 0 := by
  induction h with
  | begin => omega
  | @skip m S d B ps h hz ih =>
    by_cases e : k = m
    · subst e; exact ⟨_, _, _, _, h, hz⟩
    · exact ih (by omega) hS
  | @pivot m S d B ps h hp ih =>
    exact ih (by
      have : k ≠ m := fun e => hS (by rw [e]; exact List.mem_cons_self ..)
      omega) fun q => hS (List.mem_cons_of_mem _ q)
/-- the point of such an index -/
theorem Run.kerAt {A : Nat → Row} (hA : ∀ i j, A i j = A j i) {k S d B ps} (h : Run A k S d B ps) (hs : ∀ p ∈ ps, 0 < p.2.2) (hz : ∀ x, B k x = 0) {n : Nat} (hk : k < n) : ∃ y : Row, 0 < y k ∧ (∀ j, j ∉ S → j ≠ k → y j = 0) ∧ ∀ i, lin n (A i) y = 0 := by
  obtain ⟨h1, f, hf, h2⟩ := h.settled hA n (by omega) (unitP k)
  have hI := h.inv hA
  have kS : k ∉ S := fun m => by have := hI.small k m; omega
  have y0 : ∀ j, j ∉ S → j ≠ k → setl n ps (unitP k) j = 0 := fun j hj hne => by
    rw [h2 j hj]
    unfold unitP
    rw [if_neg hne, Int.mul_zero]
  refine ⟨_, ?_, y0, fun i => ?_⟩
  · rw [h2 k kS]
    unfold unitP
    rw [if_pos rfl]
    omega
  · have hW := wprod_pos hs
    have hd := hI.dpos
    have e1 : d * (wprod ps * lin n (A i) (setl n ps (unitP k))) = d * lsum ps (fun p => wprod ps / p.2.2 * p.2.1 i * lin n p.2.1 (setl n ps (unitP k))) + wprod ps * lin n (B i) (setl n ps (unitP k)) := by
      rw [← lsum_lin]
      unfold lin
      rw [← sm_mul, ← sm_mul, ← sm_mul, ← sm_mul, ← sm_add]
      exact sm_congr fun j _ => by
        have := h.squares hA (wprod ps) (fun p => wprod ps / p.2.2) (fun p hp => by rw [Int.mul_comm]; exact Int.mul_ediv_cancel' (wprod_dvd hp)) i j
        grind
    have e2 : lin n (B i) (setl n ps (unitP k)) = 0 := by
      unfold lin
      rw [sm_congr (g := fun _ => 0) (fun j _ => by
        by_cases c : j < k
        · rw [hI.low i j c, Int.zero_mul]
        · by_cases c2 : j = k
          · rw [c2, hI.sym, hz, Int.zero_mul]
          · rw [y0 j (fun m => by have := hI.small j m; omega) c2, Int.mul_zero]), sm_zero]
    have e3 : lsum ps (fun p => wprod ps / p.2.2 * p.2.1 i * lin n p.2.1 (setl n ps (unitP k))) = 0 := by
      rw [lsum_congr (g := fun p => 0 * (0 : Int)) (fun p hp => by rw [h1 p hp]; simp), lsum_mul, Int.zero_mul]
    rw [e2, e3, Int.mul_zero, Int.mul_zero] at e1
    rcases Int.mul_eq_zero.1 e1 with c | c
    · omega
    · rcases Int.mul_eq_zero.1 c with c | c
      · omega
      · exact c
/-- what all rows of a table tell 0 -/
def Nul (n : Nat) (A : Nat → Row) (x : Row) : Prop := ∀ i, i < n → lin n (A i) x = 0
/-- more points that are told 0: fewer leads -/
theorem Run.sub {A A' : Nat → Row} (hA : ∀ i j, A i j = A j i) (hA' : ∀ i j, A' i j = A' j i) {n S d B ps S' d' B' ps'} (h : Run A n S d B ps) (h' : Run A' n S' d' B' ps') (sp : ∀ {k S d B ps}, Run A k S d B ps → ∀ p ∈ ps, 0 < p.2.2) (hn : ∀ x, Nul n A x → Nul n A' x) : ∀ s ∈ S', s ∈ S := fun s hs => by
  rcases Classical.em (s ∈ S) with c | c
  · exact c
  · have hsn := h'.fall.2 s hs
    obtain ⟨S3, d3, B3, ps3, r3, hz⟩ := h.free hsn c
    obtain ⟨y, y1, y2, y3⟩ := r3.kerAt hA (sp r3) hz hsn
    have := h'.noKer hA' (Nat.le_refl n) hs (hn y fun i _ => y3 i) (fun j hj => y2 j (fun m => by have := r3.fall.2 j m; omega) (by omega))
    omega
/-- falling lists -/
theorem fall_len {S' : List Nat} : ∀ {S : List Nat}, S.Pairwise (fun a b => b < a) → S'.Pairwise (fun a b => b < a) → (∀ s ∈ S', s ∈ S) → S'.length ≤ S.length ∧ (S.length ≤ S'.length → S = S') := fun {S} => by
  induction S generalizing S' with
  | nil =>
    intro _ _ h
    cases S' with
    | nil => exact ⟨Nat.le_refl _, fun _ => rfl⟩
    | cons a T => exact absurd (h a (List.mem_cons_self ..)) (by simp)
  | cons a T ih =>
    intro h1 h2 h
    cases S' with
    | nil => exact ⟨Nat.zero_le _, fun c => by simp at c⟩
    | cons a' T' =>
      have p1 := List.pairwise_cons.1 h1
      have p2 := List.pairwise_cons.1 h2
      by_cases e : a' = a
      · subst e
        have := ih p1.2 p2.2 fun s hs => by
          rcases List.mem_cons.1 (h s (List.mem_cons_of_mem _ hs)) with c | c
          · have := p2.1 s hs; omega
          · exact c
        refine ⟨by simpa using this.1, fun c => ?_⟩
        rw [this.2 (by simpa using c)]
      · have m : a' ∈ T := by
          rcases List.mem_cons.1 (h a' (List.mem_cons_self ..)) with c | c
          · exact absurd c e
          · exact c
        have lt := p1.1 a' m
        have := ih p1.2 h2 fun s hs => by
          rcases List.mem_cons.1 (h s hs) with c | c
          · rcases List.mem_cons.1 hs with c2 | c2
            · omega
            · have := p2.1 s c2; omega
          · exact c
        refine ⟨by simp at this ⊢; omega, fun c => ?_⟩
        simp at this c
        omega
theorem Ker.nul {n : Nat} {A : Nat → Row} {S : List Nat} {k : Nat} {y : Row} (h : Ker n A S k y) : Nul n A y := h.zero
/-- a value is bounded below by the rest's -/
theorem Run.low {A : Nat → Row} (hA : ∀ i j, A i j = A j i) {k S d B ps} (h : Run A k S d B ps) (n : Nat) (x : Row) : Q n B x ≤ d * Q n A x := by
  induction h with
  | begin => omega
  | skip _ _ ih => exact ih
  | @pivot k S d B ps h hp ih =>
    have hI := h.inv hA
    have e := hI.value hp n x
    have hd := hI.dpos
    have s := sq_nn (lin n (B k) x)
    have a : B k k * Q n B x ≤ B k k * (d * Q n A x) := Int.mul_le_mul_of_nonneg_left ih (by omega)
    have b : d * Q n (redu B k d) x ≤ d * (B k k * Q n A x) := by
      have : B k k * (d * Q n A x) = d * (B k k * Q n A x) := by grind
      omega
    exact Int.le_of_mul_le_mul_left b hd
theorem Run.outB {A : Nat → Row} {n : Nat} (hO : ∀ i j, n ≤ j → A i j = 0) {k S d B ps} (h : Run A k S d B ps) : ∀ i j, n ≤ j → B i j = 0 := by
  induction h with
  | begin => exact hO
  | skip _ _ ih => exact ih
  | pivot _ _ ih =>
    intro i j hj
    unfold redu
    rw [ih _ _ hj, ih _ _ hj, Int.mul_zero, Int.mul_zero, Int.sub_zero, Int.zero_ediv]
    split <;> rfl
theorem Run.nn {A : Nat → Row} (hA : ∀ i j, A i j = A j i) {n : Nat} (hP : Psd n A) {k S d B ps} (h : Run A k S d B ps) (hk : k ≤ n) (x : Row) : 0 ≤ Q n B x := by
  rcases Int.lt_or_le (Q n B x) 0 with c | c
  · obtain ⟨h1, f, hf, h2⟩ := h.settled hA n hk x
    have := h.negAt hA n x _ h1 1 f (by decide) hf (fun i _ hS => by rw [Int.one_mul]; exact h2 i hS) c
    have := hP (setl n ps x)
    omega
  · exact c
/-- a table without a value below 0 is eliminated -/
theorem Psd.run {A : Nat → Row} (hA : ∀ i j, A i j = A j i) {n : Nat} (hO : ∀ i j, n ≤ j → A i j = 0) (hP : Psd n A) : ∀ k, k ≤ n → ∃ S d B ps, Run A k S d B ps := fun k => by
  induction k with
  | zero => intro _; exact ⟨_, _, _, _, .begin⟩
  | succ k ih =>
    intro hk
    obtain ⟨S, d, B, ps, r⟩ := ih (by omega)
    have hI := r.inv hA
    have h1 := r.nn hA hP (by omega) (unitP k)
    rw [Q_unit B (show k < n by omega)] at h1
    by_cases c : 0 < B k k
    · exact ⟨_, _, _, _, r.pivot c⟩
    · have h0 : B k k = 0 := by omega
      refine ⟨_, _, _, _, r.skip fun x => ?_⟩
      rcases Classical.em (B k x = 0) with z | z
      · exact z
      · exfalso
        have x1 : ¬ x < k := fun q => z (hI.low k x q)
        have x2 : x < n := by
          rcases Nat.lt_or_ge x n with q | q
          · exact q
          · exact absurd (r.outB hO k x q) z
        have := Q_side_neg B (show k < n by omega) x2 (hI.sym k x) h0 z _ rfl
        have := r.nn hA hP (show k ≤ n by omega) (sideP (if 0 < B k x then -((B x x).natAbs + 1 : Int) else ((B x x).natAbs + 1 : Int)) k x)
        omega
end PySem.El
namespace PySem.El
/-! A table that undoes another one on its leads. -/
theorem lin_mul_l (n : Nat) (c : Int) (r x : Row) : lin n (fun j => c * r j) x = c * lin n r x := by
  unfold lin
  rw [← sm_mul]
  exact sm_congr fun j _ => Int.mul_assoc _ _ _
theorem lin_mul_r (n : Nat) (c : Int) (r x : Row) : lin n r (fun j => c * x j) = c * lin n r x := by
  rw [lin_comm, lin_mul_l, lin_comm]
theorem lin_zero {n : Nat} {r x : Row} (h : ∀ j, j < n → r j * x j = 0) : lin n r x = 0 := by
  unfold lin
  rw [sm_congr (g := fun _ => 0) h, sm_zero]
theorem lin_pick {n k : Nat} {r x : Row} (hk : k < n) (h : ∀ j, j < n → j ≠ k → r j * x j = 0) : lin n r x = r k * x k := by
  unfold lin
  rw [← sm_one (fun j => r j * x j) hk]
  refine sm_congr fun j hj => ?_
  by_cases c : j = k
  · rw [if_pos c]
  · rw [if_neg c, h j hj c]
/-- U V U, as it is multiplied out -/
def sw (n : Nat) (U V : Nat → Row) : Nat → Row := fun i j => lin n (fun q => lin n (U i) (V q)) (U j)
structure Ps (n : Nat) (S : List Nat) (A T : Nat → Row) (c : Int) : Prop where
  symA : ∀ i j, A i j = A j i
  symT : ∀ i j, T i j = T j i
  zero : ∀ a b, a ∉ S ∨ b ∉ S → T a b = 0
  un : ∀ a x, a ∈ S → x ∈ S → lin n (T a) (A x) = if a = x then c else 0
  sub : ∀ s, s ∈ S → s < n
  pos : 0 < c
section
variable {n : Nat} {S : List Nat} {A T : Nat → Row} {c : Int}
theorem Ps.at (h : Ps n S A T c) {i : Nat} (hi : i ∈ S) (q : Nat) : lin n (A i) (T q) = if i = q then c else 0 := by
  by_cases hq : q ∈ S
  · rw [lin_comm, h.un q i hq hi]
    by_cases e : i = q
    · rw [if_pos e, if_pos e.symm]
    · rw [if_neg e, if_neg (Ne.symm e)]
  · rw [if_neg (fun e => hq (by rw [← e]; exact hi))]
    exact lin_zero fun j _ => by rw [h.zero q j (.inl hq), Int.mul_zero]
theorem Ps.aza (h : Ps n S A T c) {d : Int} {B : Nat → Row} {ps : List Pv} (run : Run A n S d B ps) (hk : ∀ k, k < n → k ∉ S → ∃ y, Ker n A S k y) {i j : Nat} (hi : i < n) (hj : j < n) : sw n A T i j = c * A i j := by
  have onS : ∀ i, i ∈ S → ∀ j, sw n A T i j = c * A i j := fun i hS j => by
    unfold sw
    rw [lin_pick (k := i) (h.sub i hS) fun q _ hne => by
      show lin n (A i) (T q) * A j q = 0
      rw [h.at hS q, if_neg (Ne.symm hne), Int.zero_mul]]
    show lin n (A i) (T i) * A j i = _
    rw [h.at hS i, if_pos rfl, h.symA j i]
  by_cases hS : i ∈ S
  · exact onS i hS j
  obtain ⟨y, y1, y2, y3⟩ := hk i hi hS
  have e1 : sm n (fun a => y a * sw n A T a j) = 0 := by
    have e : ∀ q, sm n (fun a => y a * lin n (A a) (T q)) = 0 := fun q => by
      have e2 : sm n (fun a => y a * lin n (A a) (T q)) = sm n (fun a => T q a * lin n (A a) y) := lin_sym h.symA (T q) y
      rw [e2]
      rw [sm_congr (g := fun _ => 0) fun a ha => by rw [y1 a ha, Int.mul_zero], sm_zero]
    have e3 : sm n (fun a => y a * sw n A T a j) = sm n (fun q => A j q * sm n (fun a => y a * lin n (A a) (T q))) := by
      unfold sw
      rw [sm_congr (g := fun a => sm n (fun q => A j q * (y a * lin n (A a) (T q)))) fun a _ => ?_, sm_swap]
      · exact sm_congr fun q _ => sm_mul n (A j q) _
      · show y a * sm n (fun q => lin n (A a) (T q) * A j q) = _
        rw [← sm_mul]
        exact sm_congr fun q _ => by grind
    rw [e3, sm_congr (g := fun _ => 0) fun q _ => by rw [e q, Int.mul_zero], sm_zero]
  have e2 : sm n (fun a => y a * (c * A a j)) = 0 := by
    have : sm n (fun a => y a * (c * A a j)) = c * lin n (A j) y := by
      unfold lin
      rw [← sm_mul]
      exact sm_congr fun a _ => by rw [h.symA a j]; grind
    rw [this, y1 j hj, Int.mul_zero]
  have e3 : sm n (fun a => y a * sw n A T a j - y a * (c * A a j)) = 0 := by rw [sm_sub, e1, e2]; rfl
  have e4 : sm n (fun a => y a * sw n A T a j - y a * (c * A a j)) = y i * sw n A T i j - y i * (c * A i j) := by
    rw [← sm_one (fun a => y a * sw n A T a j - y a * (c * A a j)) hi]
    refine sm_congr fun a ha => ?_
    by_cases e : a = i
    · rw [if_pos e]
    · rw [if_neg e]
      by_cases hs : a ∈ S
      · rw [onS a hs j]
        omega
      · rw [y3 a hs e]
        simp
  rw [e4] at e3
  have : y i * sw n A T i j = y i * (c * A i j) := by omega
  exact Int.eq_of_mul_eq_mul_left (by omega) this
theorem Ps.zaz (h : Ps n S A T c) (i j : Nat) : sw n T A i j = c * T i j := by
  unfold sw
  by_cases hS : i ∈ S
  · rw [lin_pick (k := i) (h.sub i hS) fun q _ hne => by
      show lin n (T i) (A q) * T j q = 0
      by_cases hq : q ∈ S
      · rw [h.un i q hS hq, if_neg (Ne.symm hne), Int.zero_mul]
      · rw [h.zero j q (.inr hq), Int.mul_zero]]
    show lin n (T i) (A i) * T j i = _
    rw [h.un i i hS hS, if_pos rfl, h.symT j i]
  · rw [h.zero i j (.inl hS), Int.mul_zero]
    refine lin_zero fun q _ => ?_
    show lin n (T i) (A q) * T j q = 0
    rw [lin_zero fun p _ => by rw [h.zero i p (.inl hS), Int.zero_mul], Int.zero_mul]
theorem Ps.psd (h : Ps n S A T c) (hA : Psd n A) : Psd n T := fun y => by
  have q : ∀ (M : Nat → Row) (x : Row), Q n M x = sm n (fun i => x i * lin n (M i) x) := fun M x => by
    unfold Q lin
    refine sm_congr fun i _ => ?_
    rw [← sm_mul]
    exact sm_congr fun j _ => by grind
  obtain ⟨z, hz⟩ : ∃ z : Row, z = fun i => lin n (T i) y := ⟨_, rfl⟩
  have h1 := hA z
  rw [q] at h1
  have e : sm n (fun i => z i * lin n (A i) z) = c * Q n T y := by
    have e1 : sm n (fun i => z i * lin n (A i) z) = sm n (fun i => y i * lin n (T i) (fun p => lin n (A p) z)) := by
      have := lin_sym (n := n) h.symT y (fun p => lin n (A p) z)
      rw [← this]
      exact sm_congr fun i _ => by rw [hz, Int.mul_comm]
    rw [e1, q, ← sm_mul]
    refine sm_congr fun i hi => ?_
    have e2 : lin n (T i) (fun p => lin n (A p) z) = c * lin n (T i) y := by
      have e3 : lin n (T i) (fun p => lin n (A p) z) = sm n (fun j => y j * sw n T A i j) := by
        have a1 := lin_sym (n := n) h.symA z (T i)
        have a2 := lin_sym (n := n) h.symT y (fun p => lin n (T i) (A p))
        show sm n (fun p => T i p * lin n (A p) z) = _
        rw [a1, sm_congr (g := fun p => lin n (T i) (A p) * lin n (T p) y) fun p _ => by rw [hz, lin_comm n (A p) (T i), Int.mul_comm], a2]
        exact sm_congr fun j _ => by unfold sw; rw [lin_comm n (T j)]
      rw [e3]
      unfold lin
      rw [← sm_mul]
      exact sm_congr fun j _ => by rw [h.zaz i j]; grind
    rw [e2]
    grind
  rw [e] at h1
  rcases Int.lt_or_le (Q n T y) 0 with c1 | c1
  · have := Int.mul_neg_of_pos_of_neg h.pos c1
    omega
  · exact c1
/-- the leads of what undoes are the same ones -/
theorem Ps.leads (h : Ps n S A T c) {S2 : List Nat} {d : Int} {B : Nat → Row} {ps : List Pv} (run : Run T n S2 d B ps) (hk : ∀ k, k < n → k ∉ S2 → ∃ y, Ker n T S2 k y) (k : Nat) : k ∈ S2 ↔ k ∈ S := by
  have sub2 : ∀ s, s ∈ S2 → s < n := fun s hs => (run.inv h.symT).small s hs
  have one : ∀ k, k ∈ S2 → k ∈ S := fun k hm => by
    refine Classical.byContradiction fun hS => ?_
    have hkn := sub2 k hm
    have z := run.ker h.symT (Nat.le_refl n) (z := unitP k) (fun i hi => by
      rw [lin_unit _ hkn]
      exact h.zero i k (.inr hS)) (fun i hi => by
      unfold unitP
      rw [if_neg fun e => hi (by rw [e]; exact hm)]) k
    unfold unitP at z
    rw [if_pos rfl] at z
    cases z
  refine ⟨one k, fun hS => ?_⟩
  refine Classical.byContradiction fun hm => ?_
  have hkn := h.sub k hS
  obtain ⟨y, y1, y2, y3⟩ := hk k hkn hm
  have ys : ∀ i, i ∉ S → y i = 0 := fun i hi => y3 i (fun m => hi (one i m)) fun e => hi (by rw [e]; exact hS)
  -- A (T y) = 0
  have e1 : sm n (fun i => A k i * lin n (T i) y) = 0 := by
    rw [sm_congr (g := fun _ => 0) fun i hi => by rw [y1 i hi, Int.mul_zero], sm_zero]
  have e2 : sm n (fun i => A k i * lin n (T i) y) = sm n (fun i => y i * lin n (T i) (A k)) := lin_sym h.symT y (A k)
  rw [e1] at e2
  have e3 : sm n (fun i => y i * lin n (T i) (A k)) = y k * c := by
    rw [← sm_one (fun i => y i * c) hkn]
    refine sm_congr fun i _ => ?_
    by_cases e : i = k
    · rw [if_pos e, e, h.un k k hS hS, if_pos rfl]
    · rw [if_neg e]
      by_cases hs : i ∈ S
      · rw [h.un i k hs hS, if_neg e, Int.mul_zero]
      · rw [ys i hs, Int.zero_mul]
  rw [e3] at e2
  have := Int.mul_pos y2 h.pos
  omega
/-- what undoes what undoes -/
theorem Ps.back (h : Ps n S A T c) {S2 : List Nat} {Y : Nat → Row} {c2 : Int} (h2 : Ps n S2 T Y c2) (hS : ∀ k, k ∈ S2 ↔ k ∈ S) {i j : Nat} (hi : i ∈ S) (hj : j ∈ S) : c2 * A i j = c * Y i j := by
  have hi2 := (hS i).mpr hi
  -- Y T A in two ways
  have e1 : sm n (fun a => Y i a * lin n (T a) (A j)) = c * Y i j := by
    rw [← sm_one (fun a => c * Y i a) (h.sub j hj)]
    refine sm_congr fun a _ => ?_
    by_cases e : a = j
    · rw [if_pos e, e, h.un j j hj hj, if_pos rfl, Int.mul_comm]
    · rw [if_neg e]
      by_cases hs : a ∈ S
      · rw [h.un a j hs hj, if_neg e, Int.mul_zero]
      · rw [h2.zero i a (.inr fun m => hs ((hS a).mp m)), Int.zero_mul]
  have e2 : sm n (fun a => Y i a * lin n (T a) (A j)) = sm n (fun q => A j q * lin n (Y i) (T q)) := by
    unfold lin
    rw [sm_congr (g := fun a => sm n (fun q => Y i a * (T a q * A j q))) fun a _ => (sm_mul n (Y i a) _).symm, sm_swap]
    refine sm_congr fun q _ => ?_
    rw [← sm_mul]
    exact sm_congr fun a _ => by rw [h.symT a q]; grind
  have e3 : sm n (fun q => A j q * lin n (Y i) (T q)) = c2 * A i j := by
    rw [← sm_one (fun q => c2 * A q j) (h.sub i hi)]
    refine sm_congr fun q _ => ?_
    by_cases hq : q ∈ S
    · rw [h2.un i q hi2 ((hS q).mpr hq)]
      by_cases e : q = i
      · rw [if_pos e, if_pos e.symm, h.symA j q, Int.mul_comm]
      · rw [if_neg e, if_neg (Ne.symm e), Int.mul_zero]
    · rw [if_neg (fun e => hq (by rw [e]; exact hi)), lin_zero fun p _ => by rw [h.zero q p (.inl hq), Int.mul_zero], Int.mul_zero]
  rw [← e3, ← e2, e1]
end
end PySem.El
set_option exponentiation.threshold 10000
namespace P10
open PySem PySem.Spec PyProof.Rows L2 SX EX WK
/-- // by a number of either sign -/
def CDivN (_ j : Int) : Prop := j ≠ 0 ∧ j.natAbs.log2 < 9000
theorem op_fdivN {X : Cx} : OpR X (binaryOp .FloorDiv) (rI CDivN fun i j => .int (Int.fdiv i j)) := opI fun i j _ _ _ _ _ hc q => by
  have h1 : j ≠ 0 := hc.1
  exact floordiv_int (by omega) q (.inl (PyProof.noPylong_of_log2 hc.2))
theorem wdivN {n : Nat} {x g : Int} (hg : g ≠ 0) (h : B n g) (h0 : 0 < n) (h9 : n ≤ 9000) : CDivN x g := ⟨hg, Nat.lt_of_lt_of_le (PySem.Flt.log2_lt_of h0 h) h9⟩
theorem B.fdiv {k : Nat} {x d : Int} (h : B k x) : B k (x.fdiv d) := Nat.lt_of_le_of_lt (Int.natAbs_fdiv_le_natAbs x d) h
theorem B.sub {k : Nat} {x y : Int} (hx : B k x) (hy : B k y) : B (k + 1) (x - y) := by
  show (x - y).natAbs < 2 ^ (k + 1)
  have h1 : x.natAbs < 2 ^ k := hx
  have h2 : y.natAbs < 2 ^ k := hy
  rw [Nat.pow_succ]
  omega
/-- one clearing, by a divisor of either sign -/
def clrN (T : Nat → El.Row) (k : Nat) (d : Int) : Nat → El.Row := fun i j => if i = k then T k j else (T k k * T i j - T i k * T k j).fdiv d
section
variable {P : Program} {w : World} {K : PySem.W.Frag} {mg : Str → Option Value} {base : Heap} {f : Addr} {fd : FuncData} {cF cR : Addr}
def spFill : Sp := fun vs H Q _ => ∃ (a : Addr) (n k : Nat) (P : Nat → Nat → Int), vs = [.ref a, .int k] ∧ RTab H a n n P ∧ n ≤ 1000 ∧ k < n ∧ (∀ i : Nat, k ≤ i → i < n → P i k ≠ 0 → Q (.int i) H) ∧ ((∀ i, k ≤ i → i < n → P i k = 0) → Q .non H)
abbrev s_first_filled : Stmt := top 40
abbrev N_first_filled : List Str := ["table", "at", "index"]
theorem sc_first_filled : FnScope N_first_filled ["table", "at"] (defScope s_first_filled) := ⟨rfl, rfl, rfl, by decide +kernel, rfl, by decide +kernel, by decide +kernel⟩
theorem ok_first_filled (F : Fun K "first_filled" "first_filled" s_first_filled f fd) (T : Txt mg) : FnOk P w K mg base CX0 1 f fd ["table", "at"] spFill := by
  refine F.ok sc_first_filled (fun vs H Q E h => ?_) (fun cdv A outer s H vs Q E hr h => ?_)
  · obtain ⟨a, n, k, P', rfl, _⟩ := h
    rfl
  obtain ⟨a, n, k, P', rfl, ⟨rs, ha, hl, row⟩, hn, hk, q1, q2⟩ := h
  refine ⟨_, (pss_cons (ps_for PassesOwn.never rfl (pi_range2 (by rfl) T.b_range (pa_cons (pv 1) (pa_cons (pe_callB call_len_seq (by rfl) T.b_len PySem.boot_len (pa_cons (pv 0) pa_nil)) pa_nil))) (pg_name (i := 2) sc_first_filled.nd rfl (Or.inl rfl)) (pss_one (ps_if (pt_cmpR op_ne (pe_ix ix_list /-?-/ (pe_ix ix_list (pv 0) (pv 2) (fun _ _ => rfl)) (pv 1) (fun _ _ => rfl)) pe_int (nomark _)) (pss_one (ps_ret (pv 2))) pss_nil)))
  (pss_one (ps_ret pe_non))), ?_⟩
  refine ⟨_, rfl, _, rfl, a, _, rfl, .inl (SqL.of ha), ?_⟩
  rw [List.length_map, hl]
  refine ⟨(k : Int), (n : Int), rfl, ⟨by omega, by omega, by omega, by omega⟩, ?_⟩
  refine for_range (lo := (k : Int)) (n := ((n : Int) - (k : Int)).toNat) (fun t σ H' => ∃ v2 : Option V, σ = [some (.ref a), some (.int k), v2] ∧ H' = H ∧ ∀ i, k ≤ i → i < k + t → P' i k = 0) ⟨none, rfl, rfl, fun i h1 h2 => by omega⟩ ?_ ?_
  · rintro t σ H' ht ⟨v2, rfl, rfl, hz⟩
    have hi : k + t < n := by omega
    have ei : ((k : Int) + (t : Int)).toNat = k + t := by omega
    obtain ⟨p, h1, h2⟩ := row (k + t) hi
    refine ⟨_, rfl, _, rfl, a, _, _, _, rfl, rfl, SqL.of ha, at_pos (by omega) (by rw [ei, List.getElem?_map, h1]; rfl), _, rfl, p, _, _, _, rfl, rfl, SqL.of h2, atI_nat (vecV_at hk), rfl, _, rfl, ?_⟩
    by_cases c : P' (k + t) k = 0
    · refine ifF (ne_F c) ⟨_, rfl, rfl, fun i h1 h2 => ?_⟩
      by_cases e : i = k + t
      · rw [e]; exact c
      · exact hz i h1 (by omega)
    · refine ifT (ne_T c) ⟨_, rfl, ?_⟩
      have := q1 (k + t) (by omega) hi c
      rw [Int.natCast_add] at this
      exact this
  · rintro σ H' ⟨v2, rfl, rfl, hz⟩
    exact q2 fun i h1 h2 => hz i h1 (by omega)
def spClN (K : PySem.W.Frag) : Sp := fun vs H Q _ => ∃ (a : Addr) (r k w : Nat) (d : Int) (M : Nat → Nat → Int), vs = [.ref a, .int k, .int d] ∧ RTab H a r r M ∧ r ≤ 1000 ∧ k < r ∧ (∀ i j, i < r → j < r → B w (M i j)) ∧ d ≠ 0 ∧ B 9000 d ∧ 0 < w ∧ w + w ≤ 1000000 ∧
  ∀ t H', H t = none → Same H H' → RTab H' t r r (clrN M k d) → Q (.ref t) H'
theorem okN_cleared (F : Fun K "cleared" "cleared" s_cleared f fd) (T : Txt mg) : FnOk P w K mg base CX0 1 f fd ["table", "at", "divisor"] (spClN K) := by
  refine F.ok sc_cleared (fun vs H Q E h => ?_) (fun cdv A outer s H vs Q E hr h => ?_)
  · obtain ⟨a, r, k, w, d, M, rfl, _⟩ := h
    rfl
  obtain ⟨a, m, k, w, d, M, rfl, ht, hm10, hk, hB, hd, hdB, hw, hw9, q⟩ := h
  have hkm := hk
  refine ⟨_, (pss_cons (ps_set (i := 3) sc_cleared.nd rfl (Or.inl rfl) (pe_ix ix_list (pv 0) (pv 1) (fun _ _ => rfl)))
  (pss_cons (ps_set (i := 4) sc_cleared.nd rfl (Or.inr rfl) (pe_ix ix_list /-?-/ (pv 3) (pv 1) (fun _ _ => rfl)))
  (pss_cons (ps_set (i := 5) sc_cleared.nd rfl (Or.inl rfl) (pe_lst pa_nil))
  (pss_cons (ps_for PassesOwn.never rfl (pi_enum (by rfl) T.b_enumerate (pa_cons (pv 0) pa_nil)) (pg_tup rfl (pgs_cons (pg_name (i := 6) sc_cleared.nd rfl (Or.inl rfl)) (pgs_cons (pg_name (i := 7) sc_cleared.nd rfl (Or.inl rfl)) pgs_nil))) (pss_one (ps_if (pt_cmpR op_eq (pv 6) (pv 1) (nomark _)) (pss_one (ps_expr (pe_bm PySem.F.plainAttrs_list PySem.F.slot_list_append PySem.F.type_list_append mt_append (pv 5) (pa_cons (pv 3) pa_nil)))) (pss_cons (ps_set (i := 8) sc_cleared.nd rfl (Or.inr rfl) (pe_ix ix_list /-?-/ (pv 7) (pv 1) (fun _ _ => rfl)))
  (pss_one (ps_expr (pe_bm PySem.F.plainAttrs_list PySem.F.slot_list_append PySem.F.type_list_append mt_append (pv 5) (pa_cons (pe_lc (own := [("number", 9), ("other", 10)]) (tt := tYes) (by rfl) sc_cleared.nd (WZ.pi_zipB (by rfl) T.b_zip (pa_cons (pv 7) (pa_cons (pv 3) pa_nil))) (blkOk_by (N := N_cleared) (sc := defScope s_cleared) (by decide +kernel)) (fun _ _ _ _ _ => (pg_tupK (K := K) (n := 2) rfl rfl (pgs_cons (pg_name (i := 9) sc_cleared.nd rfl (Or.inl rfl)) (pgs_cons (pg_name (i := 10) sc_cleared.nd rfl (Or.inl rfl)) pgs_nil)))) (fun _ _ _ _ _ => pts_nil) (fun _ _ _ _ _ => (pe_op op_fdivN (pe_op op_sub (pe_op op_mulW (pv 4) (pv 9)) (pe_op op_mulW (pv 8) (pv 10))) (pv 2)))) pa_nil))))))))
  (pss_one (ps_ret (pv 5))))))), ?_⟩
  obtain ⟨rs, ha, hl, row⟩ := ht
  have rowV : ∀ i, i < m → ∃ p, (rs.map V.ref)[i]? = some (V.ref p) ∧ H p = some (.lst ((vec m (M i)).map V.int)) := fun i hi => by
    obtain ⟨p, h1, h2⟩ := row i hi
    exact ⟨p, by rw [List.getElem?_map, h1]; rfl, h2⟩
  obtain ⟨pk, hpk, hpkr⟩ := rowV k hk
  refine ⟨_, rfl, _, rfl, a, _, _, _, rfl, rfl, SqL.of ha, at_pos (by omega) (by rw [Int.toNat_natCast]; exact hpk), ?_⟩
  refine ⟨_, rfl, _, rfl, pk, _, _, _, rfl, rfl, SqL.of hpkr, at_pos (by omega) (by rw [Int.toNat_natCast]; exact vecV_at hkm), ?_⟩
  refine ⟨line_ge (by decide), fun L hL => ?_⟩
  have hLk : pk ≠ L := fun z => by rw [z, hL] at hpkr; cases hpkr
  refine ⟨_, rfl, a, _, rfl, SqL.of (same_new hL _ _ _ ha), for_it (walk_enum (K := K) (a := a) (xs := rs.map V.ref)) (fun i σ H1 => ∃ (v6 v7 v8 : Option V) (ps : List Addr), σ = [some (.ref a), some (.int (k : Int)), some (.int d), some (.ref pk), some (.int (M k k)), some (.ref L), v6, v7, v8, none, none] ∧ GT H H1 L ps m i (clrN M k d)) ⟨none, none, none, [], rfl, GT.start hL⟩ (fun i σ H' _ ⟨_, _, _, _, _, g⟩ => SqL.of (g.same _ _ ha)) ?_ ?_⟩
  · rintro i x σ H1 H2 hi ⟨v6, v7, v8, ps, rfl, g⟩ y
    have s2 := ys_pair y
    obtain ⟨Tp, x1, x2, rfl, hT, rfl, e1, e2⟩ := y
    cases e1
    have hir : i < m := by rw [List.length_map] at hi; omega
    obtain ⟨pi, hpi, hpir⟩ := rowV i hir
    rw [show (rs.map V.ref)[i]? = some x2 from e2] at hpi
    cases hpi
    have s02 := g.same.trans s2
    have hpiL : pi ≠ L := fun z => by rw [z, hL] at hpir; cases hpir
    have gl := g.len
    refine ⟨_, _, rfl, SqT.of upd_same, rfl, _, _, rfl, _, _, rfl, rfl, ?_⟩
    refine ⟨_, rfl, _, rfl, rfl, _, rfl, ?_⟩
    by_cases e : i = k
    · subst e
      refine ifT (int_eq rfl) ?_
      refine ⟨_, rfl, tyV_of (s2 _ _ g.at_), _, rfl, L, _, _, rfl, rfl, s2 _ _ g.at_, ?_, ?_⟩
      · rw [List.length_map, gl]
        exact Nat.lt_of_lt_of_le (by omega : i < 1001) (line_ge (by decide))
      · refine ⟨_, _, _, ps ++ [pk], rfl, g.snoc hL s2 ?_ hLk⟩
        rw [s02 _ _ hpkr]
        congr 3
        refine vec_congr fun j _ => ?_
        unfold clrN
        rw [if_pos rfl]
    · refine ifF (int_ne fun z => e (Int.ofNat_inj.mp z)) ?_
      refine ⟨_, rfl, _, rfl, pi, _, _, _, rfl, rfl, SqL.of (s02 _ _ hpir), at_pos (by omega) (by rw [Int.toNat_natCast]; exact vecV_at hkm), ?_⟩
      refine ⟨_, rfl, tyV_of (s2 _ _ g.at_), _, rfl, _, rfl, true, true, pi, pk, _, _, rfl, SqL.of (s02 _ _ hpir), SqL.of (s02 _ _ hpkr), fun D hD => ?_⟩
      refine lc_m (WZ.walk_zA (K := K) (k := true) (l := true) (a := pi) (b := pk) (xs := (vec m (M i)).map V.int) (ys := (vec m (M k)).map V.int) (n := m) vec_lenV.symm vec_lenV.symm) RI (stb_RI (K := K)) (List.range m) (by rw [List.length_range]) (by rw [List.length_range]; omega) hD (fun H' s => ⟨SqL.of (s _ _ (s02 _ _ hpir)), SqL.of (s _ _ (s02 _ _ hpkr))⟩) (fun _ _ _ _ => ys_pair) (fun j => (M k k * M i j - M i k * M k j).fdiv d) (fun c j v H3 H4 hc s3 s4 yl A B hA => ?_) (fun H3 l1 s3 hl1 rz => ?_)
      · obtain ⟨hc1, rfl⟩ := in_range hc
        obtain ⟨Tq, x3, x4, rfl, hT2, rfl, e3, e4⟩ := yl
        have e5 := (show ((vec m (M i)).map V.int)[j]? = some x3 from e3).symm.trans (vecV_at hc1)
        have e6 := (show ((vec m (M k)).map V.int)[j]? = some x4 from e4).symm.trans (vecV_at hc1)
        cases e5
        cases e6
        exact ⟨_, _, rfl, SqT.of upd_same, rfl, _, _, rfl, _, _, rfl, rfl, rfl, lc_yes ⟨_, rfl, _, rfl, _, _, rfl, rfl, wmul (hB k k hk hkm) (hB i j hir hc1) hw hw (by omega), _, rfl, _, rfl, _, _, rfl, rfl, wmul (hB i k hir hkm) (hB k j hk hc1) hw hw (by omega), _, _, rfl, rfl, _, rfl, _, _, rfl, rfl, wdivN hd hdB (by decide) (Nat.le_refl _), hA _ _ (fun _ _ h => h) rfl⟩⟩
      · have hDL : D ≠ L := fun z => by rw [z, s2 _ _ g.at_] at hD; cases hD
        refine ⟨L, _, _, rfl, rfl, s3 _ _ (s2 _ _ g.at_), ?_, ?_⟩
        · rw [List.length_map, gl]
          exact Nat.lt_of_lt_of_le (by omega : i < 1001) (line_ge (by decide))
        · refine ⟨_, _, _, ps ++ [D], rfl, g.snoc hL (s2.trans s3) ?_ hDL⟩
          rw [hl1, rz.ints]
          show some (HO.lst (List.map V.int (vec m fun j => (M k k * M i j - M i k * M k j).fdiv d))) = _
          congr 3
          refine vec_congr fun j _ => ?_
          unfold clrN
          rw [if_neg e]
  · rintro σ H1 ⟨v6, v7, v8, ps, rfl, g⟩
    rw [List.length_map, hl] at g
    exact ⟨_, rfl, q L H1 hL g.same g.rtab⟩
end
end P10
set_option exponentiation.threshold 10000
namespace P10
open PySem PySem.Spec PyProof.Rows L2 SX EX WK
/-- the width behind k clearings -/
def wd (k : Nat) : Nat := 151 * 2 ^ k - 1
theorem wd_pos (k : Nat) : 150 ≤ wd k := by
  unfold wd
  have := Nat.two_pow_pos k
  omega
theorem wd_succ (k : Nat) : wd (k + 1) = wd k + wd k + 1 := by
  unfold wd
  rw [Nat.pow_succ]
  have := Nat.two_pow_pos k
  omega
theorem wd_le {k : Nat} (h : k ≤ 10) : wd k ≤ 200000 := by
  unfold wd
  have : 2 ^ k ≤ 2 ^ 10 := Nat.pow_le_pow_right (by decide) h
  omega
theorem wd_mono (k : Nat) : wd k ≤ wd (k + 1) := by rw [wd_succ]; omega
theorem clrN_B {n k : Nat} {d : Int} {T : Nat → El.Row} (hk : k < n) (h : ∀ i j, i < n → j < n → B (wd k) (T i j)) : ∀ i j, i < n → j < n → B (wd (k + 1)) (clrN T k d i j) := fun i j hi hj => by
  unfold clrN
  split
  · exact (h k j hk hj).mono (wd_mono k)
  · rw [wd_succ]
    exact P10.B.fdiv (P10.B.sub (P10.B.mul (h k k hk hk) (h i j hi hj)) (P10.B.mul (h i k hi hk) (h k j hk hj)))
theorem clrN_low {u : Nat → El.Row} {n k : Nat} {d : Int} {P : Nat → El.Row} (g : El.Gb u n k d P) (hk : k < n) (hp : P k k ≠ 0) : El.Gb u n (k + 1) (P k k) (clrN P k d) := g.step hk hp fun i j hi hn => by
  unfold clrN
  rw [if_neg (by omega), ← g.exact hk hp hi hn j, Int.mul_fdiv_cancel_left _ g.nz]
/-- a bound of the divisor -/
theorem gb_d {u : Nat → El.Row} {n k w : Nat} {d bd : Int} {P : Nat → El.Row} (g : El.Gb u n k d P) (hk : k ≤ n) (b1 : 1 ≤ bd) (hu : ∀ i j, i < n → -bd ≤ u i j ∧ u i j ≤ bd) (hb : B w (El.bnd bd n)) : B w d := by
  have h1 := (g.bound (M := bd) (by omega) hu hk).1
  have h2 := El.bnd_mono b1 hk
  have h3 : (El.bnd bd n).natAbs < 2 ^ w := hb
  show d.natAbs < 2 ^ w
  omega
theorem xch_bd {u : Nat → El.Row} {n k i : Nat} {bd : Int} (hk : k < n) (hi : i < n) (h : ∀ i j, i < n → -bd ≤ u i j ∧ u i j ≤ bd) : ∀ a j, a < n → -bd ≤ El.xch u k i a j ∧ El.xch u k i a j ≤ bd := fun a j ha => by
  unfold El.xch
  split
  · exact h i j hi
  · split
    · exact h k j hk
    · exact h a j ha
theorem xch_B {P : Nat → El.Row} {n k i w : Nat} (hk : k < n) (hi : i < n) (h : ∀ i j, i < n → j < n → B w (P i j)) : ∀ a j, a < n → j < n → B w (El.xch P k i a j) := fun a j ha hj => by
  unfold El.xch
  split
  · exact h i j hi hj
  · split
    · exact h k j hk hj
    · exact h a j ha hj
theorem B_pow {k : Nat} {b : Int} (h : B k b) : ∀ m, B (k * m + 1) (b ^ m)
  | 0 => by rw [Int.pow_zero, Nat.mul_zero]; decide
  | m + 1 => by
    have := P10.B.mul (B_pow h m) h
    rw [Int.pow_succ]
    exact this.mono (by rw [Nat.mul_succ]; omega)
/-- two rows exchanged in place -/
theorem RTab.xch {H : Hp} {a : Addr} {n k i : Nat} {P : Nat → Nat → Int} {rs : List Addr} {rk ri : Addr} (ha : H a = some (.lst (rs.map V.ref))) (hl : rs.length = n) (row : ∀ i, i < n → ∃ p, rs[i]? = some p ∧ H p = some (.lst ((vec n (P i)).map V.int))) (hk : rs[k]? = some rk) (hi : rs[i]? = some ri) (hkn : k < n) (hin : i < n) :
    RTab (upd H a (.lst (((rs.map V.ref).set k (.ref ri)).set i (.ref rk)))) a n n (El.xch P k i) := by
  have na : ∀ j p, rs[j]? = some p → j < n → p ≠ a := fun j p e hj z => by
    obtain ⟨p2, h1, h2⟩ := row j hj
    rw [e] at h1
    cases h1
    rw [z, ha] at h2
    have h3 := Option.some.inj h2
    have h4 : rs.map V.ref = (vec n (P j)).map V.int := by injection h3
    have h5 : (rs.map V.ref)[j]? = ((vec n (P j)).map V.int)[j]? := by rw [h4]
    rw [List.getElem?_map, e, vecV_at hj] at h5
    cases h5
  refine ⟨(rs.set k ri).set i rk, by rw [upd_same, List.map_set, List.map_set], by rw [List.length_set, List.length_set, hl], fun b hb => ?_⟩
  have hlt : k < rs.length := by omega
  have hlt2 : i < rs.length := by omega
  unfold El.xch
  by_cases c : b = k
  · subst c
    rw [if_pos rfl]
    by_cases c2 : b = i
    · subst c2
      rw [hk] at hi
      cases hi
      refine ⟨rk, by rw [List.getElem?_set_self (by rw [List.length_set]; exact hlt)], ?_⟩
      obtain ⟨p2, h1, h2⟩ := row b hb
      rw [hk] at h1
      cases h1
      rw [upd_ne (na b rk hk hb)]
      exact h2
    · refine ⟨ri, by rw [List.getElem?_set_ne (Ne.symm c2), List.getElem?_set_self hlt], ?_⟩
      obtain ⟨p2, h1, h2⟩ := row i hin
      rw [hi] at h1
      cases h1
      rw [upd_ne (na i ri hi hin)]
      exact h2
  · rw [if_neg c]
    by_cases c2 : b = i
    · subst c2
      rw [if_pos rfl]
      refine ⟨rk, by rw [List.getElem?_set_self (by rw [List.length_set]; exact hlt2)], ?_⟩
      obtain ⟨p2, h1, h2⟩ := row k hkn
      rw [hk] at h1
      cases h1
      rw [upd_ne (na k rk hk hkn)]
      exact h2
    · rw [if_neg c2]
      obtain ⟨p2, h1, h2⟩ := row b hb
      refine ⟨p2, by rw [List.getElem?_set_ne (Ne.symm c2), List.getElem?_set_ne (Ne.symm c)]; exact h1, ?_⟩
      rw [upd_ne (na b p2 h1 hb)]
      exact h2
section
variable {P : Program} {w : World} {K : PySem.W.Frag} {mg : Str → Option Value} {base : Heap} {f : Addr} {fd : FuncData} {cF cR : Addr}
def spDet (K : PySem.W.Frag) (cF : Addr) : Sp := fun vs H Q _ => ∃ (p : Addr) (n w : Nat) (b bd : Int) (M : Nat → Nat → Int), vs = [.ref p] ∧ FormAt K H cF p n (mat n M) b ∧ n ≤ 10 ∧ 1 ≤ bd ∧ (∀ i j, -bd ≤ M i j ∧ M i j ≤ bd) ∧ (∀ i j, B 150 (M i j)) ∧ B w (El.bnd bd n) ∧ 0 < w ∧ w ≤ 9000 ∧ 0 < b ∧ B 150 b ∧
  ∀ r H', Same H H' → FrAt H' r (El.dt M n / gI (El.dt M n) (b ^ n)) (b ^ n / gI (El.dt M n) (b ^ n)) → Q (.ref r) H'
abbrev s_determinant : Stmt := top 41
abbrev N_determinant : List Str := ["form", "table", "det", "sign", "scale", "at", "index", "pivot", "line"]
theorem sc_determinant : FnScope N_determinant ["form"] (defScope s_determinant) := ⟨rfl, rfl, rfl, by decide +kernel, rfl, by decide +kernel, by decide +kernel⟩
theorem ok_determinant (F : Fun K "determinant" "determinant" s_determinant f fd) (T : Txt mg) (O : Obs K cF cR) (C_fraction : Cal P w K mg base 1 "fraction" ["top", "bottom"] spFraction) (C_first_filled : Cal P w K mg base 1 "first_filled" ["table", "at"] spFill) (C_cleared : Cal P w K mg base 1 "cleared" ["table", "at", "divisor"] (spClN K)) : FnOk P w K mg base CX0 2 f fd ["form"] (spDet K cF) := by
  refine F.ok sc_determinant (fun vs H Q E h => ?_) (fun cdv A outer s H vs Q E hr h => ?_)
  · obtain ⟨p, n, w, b, bd, M, rfl, _⟩ := h
    rfl
  obtain ⟨p, n, w, b, bd, M, rfl, hF, hn, b1, hM, mB, hbB, w0, w9, hb0, bB, q⟩ := h
  refine ⟨_, (pss_cons (ps_setLc (i := 1) (own := [("line", 8)]) (g := gName 8) (tt := tYes) (by rfl) sc_determinant.nd rfl rfl (sw_true rfl rfl rfl (by decide +kernel)) (pi_tup (pe_fld (pv 0) rfl)) (blkOk_by (N := N_determinant) (sc := defScope s_determinant) (by decide +kernel)) (fun _ _ _ _ _ => (pg_name (i := 8) sc_determinant.nd rfl (Or.inl rfl))) (fun _ _ _ _ _ => pts_nil) (fun _ _ _ _ _ => (pe_callTy (call_list_ofK (K := K) rfl) (by rfl) T.b_list (by decide +kernel) (pa_cons (pv 8) pa_nil))))
  (pss_cons (ps_set (i := 2) sc_determinant.nd rfl (Or.inl rfl) pe_int)
  (pss_cons (ps_set (i := 3) sc_determinant.nd rfl (Or.inl rfl) pe_int)
  (pss_cons (ps_set (i := 4) sc_determinant.nd rfl (Or.inl rfl) pe_int)
  (pss_cons (ps_for PassesOwn.never rfl (pi_range1 (by rfl) T.b_range (pa_cons (pe_fld (pv 0) rfl) pa_nil)) (pg_name (i := 5) sc_determinant.nd rfl (Or.inl rfl)) (pss_cons (ps_set (i := 6) sc_determinant.nd rfl (Or.inl rfl) (pe_cal C_first_filled (hr.mono (by omega)) rfl (pa_cons (pv 1) (pa_cons (pv 5) pa_nil))))
  (pss_cons (ps_if (pt_cmpR op_isN (pv 6) pe_non (nomark _)) (pss_one (ps_ret (pe_tup (pa_cons pe_int (pa_cons pe_int pa_nil))))) pss_nil)
  (C8.pss_cut (ps_if (pt_cmpR op_ne (pv 6) (pv 5) (nomark _)) (pss_cons (ps_asg (pe_tup (pa_cons (pe_ix ix_list (pv 1) (pv 6) (fun _ _ => rfl)) (pa_cons (pe_ix ix_list (pv 1) (pv 5) (fun _ _ => rfl)) pa_nil))) (pg_tup rfl (pgs_cons (pg_sub (pv 1) (pv 5) set_list) (pgs_cons (pg_sub (pv 1) (pv 6) set_list) pgs_nil))))
  (pss_one (ps_set (i := 3) sc_determinant.nd rfl (Or.inl rfl) (pe_un un_neg (pv 3))))) pss_nil)
  (pss_cons (ps_set (i := 7) sc_determinant.nd rfl (Or.inl rfl) (pe_ix ix_list /-?-/ (pe_ix ix_list (pv 1) (pv 5) (fun _ _ => rfl)) (pv 5) (fun _ _ => rfl)))
  (pss_cons (ps_set (i := 1) sc_determinant.nd rfl (Or.inl rfl) (pe_cal C_cleared (hr.mono (by omega)) rfl (pa_cons (pv 1) (pa_cons (pv 5) (pa_cons (pv 2) pa_nil)))))
  (pss_cons (ps_set (i := 2) sc_determinant.nd rfl (Or.inl rfl) (pv 7))
  (pss_one (ps_set (i := 4) sc_determinant.nd rfl (Or.inl rfl) (pe_op op_mulW (pv 4) (pe_fld (pv 0) rfl)))))))))))
  (pss_one (ps_ret (pe_cal C_fraction (hr.mono (by omega)) rfl (pa_cons (pe_op op_mulW (pv 3) (pv 2)) (pa_cons (pv 4) pa_nil)))))))))), ?_⟩
  obtain ⟨dx, e, hi, hz⟩ := id hF
  obtain ⟨ea, evs, hee, hea, hel, herow⟩ := fz_mat hz
  cases hee
  rw [mat_len] at hel
  have hM0 : 0 ≤ bd := by omega
  refine ⟨_, rfl, p, cF, dx, _, _, rfl, hi, O.clF, O.F_entries, rfl, _, rfl, ⟨_, hea⟩, fun LD hLD => ?_⟩
  refine lc_gm (walk_tup (K := K) (xs := evs)) (RL LD) stb_RL (List.range n) (by rw [List.length_range]; exact hel) (by rw [List.length_range]; omega) hLD (fun H' s => Same_seqT s hea) (fun _ _ _ _ => ys_at) (fun i => vec n (M i)) (fun c i x H1 H2 hc s1 s2 yl hdl A B' hA => ?_) (fun H1 l s1 hl1 rz => ?_)
  · obtain ⟨hc1, rfl⟩ := in_range hc
    obtain ⟨r, e1, e2⟩ := herow i (vec n (M i)) (by unfold mat; rw [List.getElem?_map, List.getElem?_range hc1]; rfl)
    have e0 := yl.2
    rw [e1] at e0
    cases e0
    obtain ⟨dl, hdl⟩ := hdl
    exact ⟨rfl, lc_yes ⟨_, rfl, r, _, rfl, .inr (Same_seqT s2 e2), fun L2 hL2 => hA _ _ (same_new hL2 _) ⟨L2, rfl, fun z => (by rw [z, hdl] at hL2; cases hL2), upd_same⟩⟩⟩
  have t0 : RTab H1 LD n n M := LTab.of hl1 rz
  have hi1 := s1 _ _ hi
  refine ⟨_, rfl, p, cF, dx, _, _, rfl, hi1, O.clF, O.F_size, rfl, (n : Int), rfl, by omega, by omega, ?_⟩
  refine for_range (lo := 0) (n := n) (fun k σ H' => ∃ (v5 v6 v7 : Option V) (tb : Addr) (P u : Nat → El.Row) (d s : Int), σ = [some (.ref p), some (.ref tb), some (.int d), some (.int s), some (.int (b ^ k)), v5, v6, v7, none] ∧ Same H H' ∧ H tb = none ∧ RTab H' tb n n P ∧ El.Gb u n k d P ∧ (∀ i j, i < n → -bd ≤ u i j ∧ u i j ≤ bd) ∧ s * El.dt u n = El.dt M n ∧ B 1 s ∧ ∀ i j, i < n → j < n → B (wd k) (P i j)) ⟨none, none, none, LD, M, M, 1, 1, by rw [Int.pow_zero] <;> rfl, s1, hLD, t0, El.Gb.begin M n fun _ _ _ => rfl, fun i j _ => hM i j, Int.one_mul _, by decide, fun i j _ _ => (mB i j).mono (wd_pos 0)⟩ ?_ ?_
  · rintro k σ H2 hk ⟨v5, v6, v7, tb, P', u, d, sg, rfl, s2, htb, ht, gb, hu, hsg, sgB, pB⟩
    have e0 : (0 + (k : Int)) = (k : Int) := Int.zero_add _
    have hi2 := s2 _ _ hi
    refine ⟨_, rfl, _, rfl, tb, n, k, P', by rw [e0] <;> rfl, ht, by omega, hk, fun i hki hin hne => ?_, fun hz => ?_⟩
    case refine_2 =>
      have z0 := gb.none hk hz
      rw [z0, Int.mul_zero] at hsg
      refine ⟨_, rfl, rfl, _, rfl, ifT rfl ⟨two_line, fun r hr => ?_⟩⟩
      refine q r _ (s2.trans (same_new hr _)) ?_
      rw [← hsg]
      have hp : (0 : Int) < b ^ n := Int.pow_pos hb0
      have e1 : gI 0 (b ^ n) = b ^ n := by
        show (((Nat.gcd (0 : Int).natAbs (b ^ n).natAbs : Nat) : Int)) = _
        rw [show (0 : Int).natAbs = 0 from rfl, Nat.gcd_zero_left]
        omega
      rw [e1, Int.zero_ediv, Int.ediv_self (by omega)]
      exact upd_same
    refine ⟨_, rfl, rfl, _, rfl, ifF rfl ?_⟩
    obtain ⟨rs, hta, htl, hrow⟩ := id ht
    obtain ⟨rk, hrk, hrk2⟩ := hrow k hk
    obtain ⟨ri, hri, hri2⟩ := hrow i hin
    have ixk : atI (rs.map V.ref) (0 + (k : Int)) = some (.ref rk) := at_pos (by omega) (by rw [show (0 + (k : Int)).toNat = k by omega, List.getElem?_map, hrk]; rfl)
    have ixi : atI (rs.map V.ref) (i : Int) = some (.ref ri) := atI_nat (by rw [List.getElem?_map, hri]; rfl)
    -- the exchange
    refine ⟨fun σ' H' => ∃ sg2 : Int, σ' = [some (.ref p), some (.ref tb), some (.int d), some (.int sg2), some (.int (b ^ k)), some (.int (0 + (k : Int))), some (.int (i : Int)), v7, none] ∧ Same H H' ∧ RTab H' tb n n (El.xch P' k i) ∧ sg2 * El.dt (El.xch u k i) n = El.dt M n ∧ B 1 sg2, ?_, ?_⟩
    · refine ⟨_, rfl, _, rfl, rfl, _, rfl, ?_⟩
      by_cases c : i = k
      · refine ifF (ne_F (by rw [c, e0])) ⟨sg, rfl, s2, ?_, ?_, sgB⟩
        · rw [c, El.xch_same]
          exact ht
        · rw [c, El.xch_same]
          exact hsg
      refine ifT (ne_T (by omega)) ?_
      refine ⟨_, rfl, _, rfl, tb, _, _, _, rfl, rfl, SqL.of hta, ixi, _, rfl, _, rfl, tb, _, _, _, rfl, rfl, SqL.of hta, ixk, two_line, fun tp htp => ?_⟩
      have s3 := same_new htp (.tup [.ref ri, .ref rk])
      have hta3 := s3 _ _ hta
      refine ⟨tp, _, rfl, SqT.of upd_same, rfl, _, _, rfl, ?_⟩
      refine ⟨_, rfl, _, rfl, tb, _, _, k, rfl, rfl, hta3, by rw [List.length_map, htl]; unfold ixN; rw [if_pos (by omega), if_pos (by omega)]; congr 1; omega, ?_⟩
      refine ⟨_, _, rfl, ?_⟩
      refine ⟨_, rfl, _, rfl, tb, _, _, i, rfl, rfl, upd_same, by rw [List.length_set, List.length_map, htl]; unfold ixN; rw [if_pos (by omega), if_pos (by omega)]; congr 1, ?_⟩
      refine ⟨rfl, _, rfl, _, rfl, ?_⟩
      rw [upd_upd]
      refine ⟨_, rfl, same_at (s2.trans s3) htb, RTab.xch hta3 htl (fun j hj => let ⟨q1, h1, h2⟩ := hrow j hj; ⟨q1, h1, s3 _ _ h2⟩) hrk hri hk hin, ?_, ?_⟩
      · rw [El.dt_xch (by omega) hin, ← hsg]
        grind
      · show (-sg).natAbs < 2 ^ 1
        rw [Int.natAbs_neg]
        exact sgB
    rintro σ H3 ⟨sg2, rfl, s3, ht3, hsg2, sgB2⟩
    have gb3 := gb.xch hki hin
    have hu3 := xch_bd hk hin hu
    have pB3 := xch_B hk hin pB
    have hp3 : El.xch P' k i k k ≠ 0 := by
      unfold El.xch
      rw [if_pos rfl]
      exact hne
    obtain ⟨rs3, hta3, htl3, hrow3⟩ := id ht3
    obtain ⟨rk3, hrk3, hrk32⟩ := hrow3 k hk
    have i0 : (0 + (k : Int)).toNat = k := by omega
    refine ⟨_, rfl, _, rfl, tb, _, _, _, rfl, rfl, SqL.of hta3, at_pos (by omega) (by rw [i0, List.getElem?_map, hrk3]; rfl), _, rfl, rk3, _, _, _, rfl, rfl, SqL.of hrk32, ixv hk, ?_⟩
    have wk9 := wd_le (show k + 1 ≤ 10 by omega)
    have wks := wd_succ k
    have wk0 := wd_pos k
    refine ⟨_, rfl, _, rfl, _, rfl, tb, n, k, wd k, d, El.xch P' k i, by rw [e0] <;> rfl, ht3, by omega, hk, pB3, gb.nz, (gb_d gb (by omega) b1 hu hbB).mono w9, by omega, by omega, fun t H4 hft s4 ht4 => ?_⟩
    refine ⟨_, rfl, ?_⟩
    have hi4 := (s3.trans s4) _ _ hi
    have bk : B (150 * k + 1) (b ^ k) := B_pow bB k
    refine ⟨_, rfl, _, rfl, p, cF, dx, _, _, rfl, hi4, O.clF, O.F_bottom, rfl, _, _, rfl, rfl, wmul bk bB (by omega) (by decide) (by omega), ?_⟩
    refine ⟨some (.int (0 + (k : Int))), some (.int (i : Int)), some (.int (El.xch P' k i k k)), t, clrN (El.xch P' k i) k d, El.xch u k i, El.xch P' k i k k, sg2, ?_, s3.trans s4, none_of s3 hft, ht4, clrN_low gb3 hk hp3, hu3, hsg2, sgB2, clrN_B hk pB3⟩
    rw [Int.pow_succ]
    rfl
  · rintro σ H2 ⟨v5, v6, v7, tb, P', u, d, sg, rfl, s2, htb, ht, gb, hu, hsg, sgB, pB⟩
    have hp : (0 : Int) < b ^ n := Int.pow_pos hb0
    have dB : B 9000 d := (gb_d gb (Nat.le_refl n) b1 hu hbB).mono w9
    refine ⟨_, rfl, _, rfl, _, _, rfl, rfl, wmul sgB dB (by decide) (by decide) (by decide), _, rfl, sg * d, b ^ n, rfl, hp, ?_, fun r H3 s3 hf => ?_⟩
    · exact (B_pow bB n).mono (by omega)
    · have e1 : sg * d = El.dt M n := by rw [gb.piv]; exact hsg
      rw [e1] at hf
      exact q r H3 (s2.trans s3) hf
end
end P10
set_option exponentiation.threshold 10000
namespace P10
open PySem PySem.Spec PyProof.Rows L2 SX EX WK
/-- a table whose rows are put anew -/
structure RT (H0 H : Hp) (L F : Addr) (n m : Nat) (R : Nat → El.Row) : Prop where
  same : Same H0 H
  at_ : ∃ vs : List V, H L = some (.lst vs) ∧ vs.length = n ∧ ∀ i, i < n → ∃ p, vs[i]? = some (.ref p) ∧ p ≠ L ∧ p ≠ F ∧ H p = some (.lst ((vec m (R i)).map V.int))
section
variable {H0 H H' : Hp} {L F : Addr} {n m : Nat} {R : Nat → El.Row}
theorem RT.keep (h : RT H0 H L F n m R) (s : Same H H') : RT H0 H' L F n m R := by
  obtain ⟨h0, vs, h1, h2, h3⟩ := h
  exact ⟨h0.trans s, vs, s _ _ h1, h2, fun i hi => let ⟨p, e1, e2, e4, e3⟩ := h3 i hi; ⟨p, e1, e2, e4, s _ _ e3⟩⟩
theorem RT.congr {R' : Nat → El.Row} (h : RT H0 H L F n m R) (e : ∀ i j, i < n → j < m → R i j = R' i j) : RT H0 H L F n m R' := by
  obtain ⟨h0, vs, h1, h2, h3⟩ := h
  refine ⟨h0, vs, h1, h2, fun i hi => ?_⟩
  obtain ⟨p, e1, e2, e4, e3⟩ := h3 i hi
  exact ⟨p, e1, e2, e4, by rw [← vec_congr fun j hj => e i j hi hj]; exact e3⟩
theorem RT.put {q : Addr} {i : Nat} {r : El.Row} {vs : List V} (h : RT H0 H L F n m R) (h0 : H0 L = none) (hv : H L = some (.lst vs)) (hi : i < n) (hq : q ≠ L) (hqF : q ≠ F) (hr : H q = some (.lst ((vec m r).map V.int))) : RT H0 (upd H L (.lst (vs.set i (.ref q)))) L F n m (fun a => if a = i then r else R a) := by
  obtain ⟨hs, us, h1, h2, h3⟩ := h
  rw [hv] at h1
  cases h1
  refine ⟨same_at hs h0, _, upd_same, by rw [List.length_set, h2], fun a ha => ?_⟩
  by_cases e : a = i
  · subst e
    refine ⟨q, by rw [List.getElem?_set_self (by omega)], hq, hqF, ?_⟩
    rw [upd_ne hq, if_pos rfl]
    exact hr
  · obtain ⟨p, e1, e2, e4, e3⟩ := h3 a ha
    refine ⟨p, by rw [List.getElem?_set_ne (Ne.symm e)]; exact e1, e2, e4, ?_⟩
    rw [upd_ne e2, if_neg e]
    exact e3
theorem RT.off {o : HO} (h : RT H0 H L F n m R) (h0 : H0 F = none) (hf : F ≠ L) : RT H0 (upd H F o) L F n m R := by
  obtain ⟨hs, us, h1, h2, h3⟩ := h
  refine ⟨same_at hs h0, us, by rw [upd_ne (Ne.symm hf)]; exact h1, h2, fun i hi => ?_⟩
  obtain ⟨p, e1, e2, e4, e3⟩ := h3 i hi
  exact ⟨p, e1, e2, e4, by rw [upd_ne e4]; exact e3⟩
theorem RT.avoid {F' : Addr} (h : RT H0 H L F n m R) (hf : H F' = none) : F' ≠ L ∧ RT H0 H L F' n m R := by
  obtain ⟨hs, us, h1, h2, h3⟩ := h
  refine ⟨fun z => (by rw [z, h1] at hf; cases hf), hs, us, h1, h2, fun i hi => ?_⟩
  obtain ⟨p, e1, e2, e4, e3⟩ := h3 i hi
  exact ⟨p, e1, e2, fun z => (by rw [← z, e3] at hf; cases hf), e3⟩
end
def RRow (D : Addr) (m : Nat) : Hp → V → El.Row → Prop := fun H v r => ∃ p, v = .ref p ∧ p ≠ D ∧ H p = some (.lst ((vec m r).map V.int))
theorem stb_RRow {D : Addr} {m : Nat} : StbD D (RRow D m) := fun _ _ _ _ _ e ⟨p, h1, h2, h3⟩ => ⟨p, h1, h2, e _ _ h2 h3⟩
theorem rt_of {H0 H : Hp} {D : Addr} {l : List V} {n m : Nat} {R : Nat → El.Row} (s : Same H0 H) (h : H D = some (.lst l)) (r : Rs (RRow D m) H l ((List.range n).map R)) : RT H0 H D D n m R := by
  have hl : l.length = n := by rw [r.1, List.length_map, List.length_range]
  refine ⟨s, l, h, hl, fun i hi => ?_⟩
  have e := List.getElem?_eq_getElem (l := l) (i := i) (by omega)
  obtain ⟨p, h1, h2, h3⟩ := r.2 i _ (R i) e (by rw [List.getElem?_map, List.getElem?_range hi]; rfl)
  exact ⟨p, by rw [e, h1], h2, h2, h3⟩
theorem RT.of_ltab {H0 H : Hp} {D : Addr} {l : List V} {n : Nat} {f : Nat → Nat → Int} (s : Same H0 H) (h : H D = some (.lst l)) (r : Rs (RL D) H l ((List.range n).map fun i => vec n (f i))) : RT H0 H D D n n f := by
  have hl : l.length = n := by rw [r.1, List.length_map, List.length_range]
  refine ⟨s, l, h, hl, fun i hi => ?_⟩
  have e := List.getElem?_eq_getElem (l := l) (i := i) (by omega)
  obtain ⟨p, h1, h2, h3⟩ := r.2 i _ (vec n (f i)) e (by rw [List.getElem?_map, List.getElem?_range hi]; rfl)
  exact ⟨p, by rw [e, h1], h2, h2, h3⟩
theorem ngr_bd {u : Nat → El.Row} {n i : Nat} {bd : Int} (hi : i < n) (h : ∀ i j, i < n → -bd ≤ u i j ∧ u i j ≤ bd) : ∀ a j, a < n → -bd ≤ El.ngr u i a j ∧ El.ngr u i a j ≤ bd := fun a j ha => by
  unfold El.ngr
  split
  · have := h i j hi
    show -bd ≤ -1 * u i j ∧ -1 * u i j ≤ bd
    omega
  · exact h a j ha
theorem ngr_B {P : Nat → El.Row} {n i w : Nat} (hi : i < n) (h : ∀ i j, i < n → j < n → B w (P i j)) : ∀ a j, a < n → j < n → B w (El.ngr P i a j) := fun a j ha hj => by
  unfold El.ngr
  split
  · have h1 : (P i j).natAbs < 2 ^ w := h i j hi hj
    show (-1 * P i j).natAbs < 2 ^ w
    omega
  · exact h a j ha hj
/-- the rows above are done -/
def mixN (k t : Nat) (d : Int) (P : Nat → El.Row) : Nat → El.Row := fun a => if k < a ∧ a < k + 1 + t then clrN P k d a else P a
theorem mixN_0 (k : Nat) (d : Int) (P : Nat → El.Row) : mixN k 0 d P = P := by
  funext a
  unfold mixN
  rw [if_neg (by omega)]
theorem mixN_put (k t : Nat) (d : Int) (P : Nat → El.Row) : (fun a => if a = k + 1 + t then clrN P k d (k + 1 + t) else mixN k t d P a) = mixN k (t + 1) d P := by
  funext a
  unfold mixN
  by_cases e : a = k + 1 + t
  · rw [if_pos e, if_pos (by omega), e]
  · rw [if_neg e]
    by_cases c : k < a ∧ a < k + 1 + t
    · rw [if_pos c, if_pos (by omega)]
    · rw [if_neg c, if_neg (by omega)]
section
variable {P : Program} {w : World} {K : PySem.W.Frag} {mg : Str → Option Value} {base : Heap} {f : Addr} {fd : FuncData} {cF cR : Addr}
def spLDet : Sp := fun vs H Q _ => ∃ (a : Addr) (n w : Nat) (bd : Int) (M : Nat → Nat → Int), vs = [.ref a] ∧ LTab H a n M ∧ n ≤ 10 ∧ 1 ≤ bd ∧ (∀ i j, -bd ≤ M i j ∧ M i j ≤ bd) ∧ (∀ i j, B 150 (M i j)) ∧ B w (El.bnd bd n) ∧ 0 < w ∧ w ≤ 9000 ∧ ∀ H', Same H H' → Q (.int (El.dt M n)) H'
abbrev s__law_det : Stmt := top 65
abbrev N__law_det : List Str := ["table", "rest", "last", "k", "i", "filled", "main", "off", "line", "number", "j"]
theorem sc__law_det : FnScope N__law_det ["table"] (defScope s__law_det) := ⟨rfl, rfl, rfl, by decide +kernel, rfl, by decide +kernel, by decide +kernel⟩
theorem ok__law_det (F : Fun K "_law_det" "_law_det" s__law_det f fd) (T : Txt mg) : FnOk P w K mg base CX0 1 f fd ["table"] spLDet := by
  refine F.ok sc__law_det (fun vs H Q E h => ?_) (fun cdv A outer s H vs Q E hr h => ?_)
  · obtain ⟨a, n, w, bd, M, rfl, _⟩ := h
    rfl
  obtain ⟨a, n, w, bd, M, rfl, ht, hn, b1, hM, mB, hbB, w0, w9, q⟩ := h
  refine ⟨_, (pss_cons (ps_set (i := 1) sc__law_det.nd rfl (Or.inr rfl) (pe_lc (own := [("line", 8)]) (g := gName 8) (tt := tYes) (by rfl) sc__law_det.nd (pi_list (pv 0)) (blkOk_by (N := N__law_det) (sc := defScope s__law_det) (by decide +kernel)) (fun _ _ _ _ _ => (pg_name (i := 8) sc__law_det.nd rfl (Or.inl rfl))) (fun _ _ _ _ _ => pts_nil) (fun _ _ _ _ _ => (pe_callTy (call_list_ofK (K := K) rfl) (by rfl) T.b_list (by decide +kernel) (pa_cons (pv 8) pa_nil)))))
  (pss_cons (ps_set (i := 2) sc__law_det.nd rfl (Or.inr rfl) pe_int)
  (pss_cons (ps_for PassesOwn.never rfl (pi_range1 (by rfl) T.b_range (pa_cons (pe_callB call_len_seq (by rfl) T.b_len PySem.boot_len (pa_cons (pv 1) pa_nil)) pa_nil)) (pg_name (i := 3) sc__law_det.nd rfl (Or.inr rfl)) (pss_cons (ps_setLc (i := 5) (own := [("i", 4)]) (g := gName 4) (by rfl) sc__law_det.nd rfl rfl (sw_true rfl rfl rfl (by decide +kernel)) (pi_range2 (by rfl) T.b_range (pa_cons (pv 3) (pa_cons (pe_callB call_len_seq (by rfl) T.b_len PySem.boot_len (pa_cons (pv 1) pa_nil)) pa_nil))) (blkOk_by (N := N__law_det) (sc := defScope s__law_det) (by decide +kernel)) (fun _ _ _ _ _ => (pg_name (i := 4) sc__law_det.nd rfl (Or.inl rfl))) (fun _ _ _ _ _ => (pts_one (pt_cmpR op_ne (pe_ix (ix_listK (K := K) rfl) /-?-/ (pe_ix (ix_listK (K := K) rfl) (pv 1) (pv 4) (fun _ _ => rfl)) (pv 3) (fun _ _ => rfl)) pe_int (nomark _)))) (fun _ _ _ _ _ => (pv 4)))
  (pss_cons (ps_if (pt_cmpR op_eq (pe_callB call_len_seq (by rfl) T.b_len PySem.boot_len (pa_cons (pv 5) pa_nil)) pe_int (nomark _)) (pss_one (ps_ret pe_int)) pss_nil)
  (pss_cons (ps_set (i := 6) sc__law_det.nd rfl (Or.inr rfl) (pe_callTy call_list_of (by rfl) T.b_list (by decide +kernel) (pa_cons (pe_ix ix_list (pv 1) (pe_ix ix_list (pv 5) pe_int (fun _ _ => rfl)) (fun _ _ => rfl)) pa_nil)))
  (C8.pss_cut (ps_if (pt_cmpR op_ne (pe_ix ix_list (pv 5) pe_int (fun _ _ => rfl)) (pv 3) (nomark _)) (pss_cons (ps_asg (pe_lc (own := [("number", 9)]) (g := gName 9) (tt := tYes) (by rfl) sc__law_det.nd (pi_list (pe_ix ix_list (pv 1) (pv 3) (fun _ _ => rfl))) (blkOk_by (N := N__law_det) (sc := defScope s__law_det) (by decide +kernel)) (fun _ _ _ _ _ => (pg_name (i := 9) sc__law_det.nd rfl (Or.inl rfl))) (fun _ _ _ _ _ => pts_nil) (fun _ _ _ _ _ => (pe_un un_neg (pv 9)))) (pg_sub (pv 1) (pe_ix ix_list (pv 5) pe_int (fun _ _ => rfl)) set_list))
  (pss_one (ps_asg (pv 6) (pg_sub (pv 1) (pv 3) set_list)))) pss_nil)
  (pss_cons (ps_for PassesOwn.never rfl (pi_range2 (by rfl) T.b_range (pa_cons (pe_op op_add (pv 3) pe_int) (pa_cons (pe_callB call_len_seq (by rfl) T.b_len PySem.boot_len (pa_cons (pv 1) pa_nil)) pa_nil))) (pg_name (i := 4) sc__law_det.nd rfl (Or.inr rfl)) (pss_cons (ps_set (i := 7) sc__law_det.nd rfl (Or.inr rfl) (pe_ix ix_list /-?-/ (pe_ix ix_list (pv 1) (pv 4) (fun _ _ => rfl)) (pv 3) (fun _ _ => rfl)))
  (pss_one (ps_asg (pe_lc (own := [("j", 10)]) (g := gName 10) (tt := tYes) (by rfl) sc__law_det.nd (pi_range1 (by rfl) T.b_range (pa_cons (pe_callB call_len_seq (by rfl) T.b_len PySem.boot_len (pa_cons (pv 1) pa_nil)) pa_nil)) (blkOk_by (N := N__law_det) (sc := defScope s__law_det) (by decide +kernel)) (fun _ _ _ _ _ => (pg_name (i := 10) sc__law_det.nd rfl (Or.inl rfl))) (fun _ _ _ _ _ => pts_nil) (fun _ _ _ _ _ => (pe_op op_fdivN (pe_op op_sub (pe_op op_mulW (pe_ix (ix_listK (K := K) rfl) (pv 6) (pv 3) (fun _ _ => rfl)) (pe_ix (ix_listK (K := K) rfl) /-?-/ (pe_ix (ix_listK (K := K) rfl) (pv 1) (pv 4) (fun _ _ => rfl)) (pv 10) (fun _ _ => rfl))) (pe_op op_mulW (pv 7) (pe_ix (ix_listK (K := K) rfl) (pv 6) (pv 10) (fun _ _ => rfl)))) (pv 2)))) (pg_sub (pv 1) (pv 4) set_list)))))
  (pss_one (ps_set (i := 2) sc__law_det.nd rfl (Or.inr rfl) (pe_ix ix_list (pv 6) (pv 3) (fun _ _ => rfl))))))))))
  (pss_one (ps_ret (pv 2)))))), ?_⟩
  obtain ⟨rs, ha, hl, row⟩ := ht
  refine ⟨_, rfl, a, rfl, ⟨_, SqL.of ha⟩, fun L hL => ?_⟩
  refine lc_gm (walk_list (K := K) (a := a) (xs := rs.map V.ref)) (RL L) stb_RL (List.range n) (by rw [List.length_map, List.length_range]; exact hl) (by rw [List.length_range]; omega) hL (fun H' s => s.seq (SqL.of ha)) (fun _ _ _ _ => ys_at) (fun i => vec n (M i)) (fun c i x H1 H2 hc s1 s2 yl hdl A B' hA => ?_) (fun H1 l s1 hl1 rz => ?_)
  · obtain ⟨hc1, rfl⟩ := in_range hc
    obtain ⟨r, e1, e2⟩ := row i hc1
    have e0 := yl.2
    rw [List.getElem?_map, e1] at e0
    cases e0
    obtain ⟨dl, hdl⟩ := hdl
    exact ⟨rfl, lc_yes ⟨_, rfl, r, _, rfl, .inl (SqL.of (s2 _ _ e2)), fun L2 hL2 => hA _ _ (same_new hL2 _) ⟨L2, rfl, fun z => (by rw [z, hdl] at hL2; cases hL2), upd_same⟩⟩⟩
  have rt0 := RT.of_ltab s1 hl1 rz
  obtain ⟨vs1, hL1, hl1', _⟩ := rt0.at_
  refine ⟨_, rfl, L, _, rfl, .inl (SqL.of hL1), ?_⟩
  rw [hl1']
  refine ⟨(n : Int), rfl, by omega, by omega, ?_⟩
  refine for_range (lo := 0) (n := n) (fun k σ H' => ∃ (v3 v4 v5 v6 v7 : Option V) (P u : Nat → El.Row) (d : Int), σ = [some (.ref a), some (.ref L), some (.int d), v3, v4, v5, v6, v7, none, none, none] ∧ RT H H' L L n n P ∧ El.Gb u n k d P ∧ (∀ i j, i < n → -bd ≤ u i j ∧ u i j ≤ bd) ∧ El.dt u n = El.dt M n ∧ ∀ i j, i < n → j < n → B (wd k) (P i j)) ⟨none, none, none, none, none, M, M, 1, rfl, rt0, El.Gb.begin M n fun _ _ _ => rfl, fun i j _ => hM i j, rfl, fun i j _ _ => (mB i j).mono (wd_pos 0)⟩ ?_ ?_
  · rintro k σ H2 hk ⟨v3, v4, v5, v6, v7, P', u, d, rfl, rt, gb, hu, hdt, pB⟩
    obtain ⟨vs2, hL2, hl2, row2⟩ := rt.at_
    refine ⟨_, rfl, _, rfl, L, _, rfl, .inl (SqL.of hL2), ?_⟩
    rw [hl2]
    refine ⟨0 + (k : Int), (n : Int), rfl, ⟨by omega, by omega, by omega, by omega⟩, fun D hD => ?_⟩
    obtain ⟨N, hN⟩ : ∃ N, N = ((n : Int) - (0 + (k : Int))).toNat := ⟨_, rfl⟩
    rw [← hN]
    refine lc_f (K := K) (walk_range (lo := 0 + (k : Int)) (n := N)) RI stb_RI (List.range N) (by rw [List.length_range]) (by rw [List.length_range]; omega) hD (fun _ _ => trivial) (fun _ _ _ _ => ys_fn) (fun t => if P' (k + t) k = 0 then none else some (0 + (k : Int) + (t : Int))) (fun c t v H3 H4 hc s3 s4 yl A B hA hB => ?_) (fun H3 l3 s3 hl3 rz3 => ?_)
    · obtain ⟨hc1, rfl⟩ := in_range hc
      rw [yl.2]
      have ei : (0 + (k : Int) + (t : Int)).toNat = k + t := by omega
      obtain ⟨p, h1, _, _, h2⟩ := row2 (k + t) (by omega)
      refine ⟨rfl, _, rfl, _, rfl, L, _, _, _, rfl, rfl, SqL.of (s4 _ _ hL2), at_pos (by omega) (by rw [ei]; exact h1), _, rfl, p, _, _, _, rfl, rfl, SqL.of (s4 _ _ h2), ixv hk, rfl, _, rfl, ?_⟩
      by_cases c : P' (k + t) k = 0
      · exact ifF (ne_F c) (hB (if_pos c) _ fun _ _ h => h)
      · exact ifT (ne_T c) ⟨_, rfl, hA _ _ _ (if_neg c) (fun _ _ h => h) rfl⟩
    have el3 := rz3.ints
    rw [el3] at hl3
    have rt3 := rt.keep s3
    refine ⟨_, rfl, D, _, rfl, .inl (SqL.of hl3), rfl, _, rfl, ?_⟩
    cases hfl : (List.range N).filterMap (fun t => if P' (k + t) k = 0 then none else some (0 + (k : Int) + (t : Int))) with
    | nil =>
      refine ifT (decide_eq_true rfl) ?_
      have z0 := gb.none hk fun i h1 h2 => by
        refine Classical.byContradiction fun hne => ?_
        have hm : (0 + (k : Int) + ((i - k : Nat) : Int)) ∈ (List.range N).filterMap (fun t => if P' (k + t) k = 0 then none else some (0 + (k : Int) + (t : Int))) := List.mem_filterMap.mpr ⟨i - k, List.mem_range.mpr (by omega), by rw [show k + (i - k) = i by omega, if_neg hne]⟩
        rw [hfl] at hm
        cases hm
      have := q H3 rt3.same
      rw [← hdt, z0] at this
      exact this
    | cons x0 xs0 =>
      refine ifF (decide_eq_false fun e => ?_) ?_
      · have := V.int.inj e
        rw [List.map_cons, List.length_cons] at this
        omega
      rw [hfl] at hl3
      obtain ⟨t0, ht0, hx0⟩ : ∃ t0, t0 < N ∧ (if P' (k + t0) k = 0 then none else some (0 + (k : Int) + (t0 : Int))) = some x0 := by
        have hm : x0 ∈ (List.range N).filterMap (fun t => if P' (k + t) k = 0 then none else some (0 + (k : Int) + (t : Int))) := by rw [hfl]; exact List.mem_cons_self ..
        obtain ⟨t0, h1, h2⟩ := List.mem_filterMap.mp hm
        exact ⟨t0, List.mem_range.mp h1, h2⟩
      have hne : P' (k + t0) k ≠ 0 := fun z => by rw [if_pos z] at hx0; cases hx0
      rw [if_neg hne] at hx0
      cases hx0
      obtain ⟨i, ei⟩ : ∃ i, i = k + t0 := ⟨_, rfl⟩
      have hin : i < n := by omega
      rw [← ei] at hne
      have ezi : (0 + (k : Int) + (t0 : Int)).toNat = i := by omega
      obtain ⟨vs3, hL3, hl3', row3⟩ := rt3.at_
      obtain ⟨pi, hpi1, hpi2, _, hpi3⟩ := row3 i hin
      have ixF : atI ((V.int (0 + (k : Int) + (t0 : Int)) :: xs0.map V.int)) 0 = some (.int (0 + (k : Int) + (t0 : Int))) := at_pos (by decide) rfl
      have hFl := SqL.of (K := K) hl3
      refine ⟨_, rfl, _, rfl, D, _, 0, _, rfl, rfl, hFl, ixF, L, _, _, _, rfl, rfl, SqL.of hL3, at_pos (by omega) (by rw [ezi]; exact hpi1), pi, _, rfl, .inl (SqL.of hpi3), fun Dm hDm => ?_⟩
      have t4 := same_new hDm (.lst ((vec n (P' i)).map V.int))
      have rt4 := rt3.keep t4
      have hFl4 := t4.seq hFl
      have hDm4 : upd H3 Dm (.lst ((vec n (P' i)).map V.int)) Dm = some (.lst ((vec n (P' i)).map V.int)) := upd_same
      have hDmL : Dm ≠ L := fun z => by rw [z, hL3] at hDm; cases hDm
      generalize upd H3 Dm (.lst ((vec n (P' i)).map V.int)) = H4 at *
      -- the exchange
      refine ⟨fun σ' H' => ∃ (P2 u2 : Nat → El.Row), σ' = [some (.ref a), some (.ref L), some (.int d), some (.int (0 + (k : Int))), v4, some (.ref D), some (.ref Dm), v7, none, none, none] ∧ RT H H' L L n n P2 ∧ H' Dm = some (.lst ((vec n (P2 k)).map V.int)) ∧ El.Gb u2 n k d P2 ∧ (∀ i j, i < n → -bd ≤ u2 i j ∧ u2 i j ≤ bd) ∧ El.dt u2 n = El.dt M n ∧ (∀ i j, i < n → j < n → B (wd k) (P2 i j)) ∧ P2 k k ≠ 0, ?_, ?_⟩
      · refine ⟨_, rfl, D, _, 0, _, rfl, rfl, hFl4, ixF, _, rfl, rfl, _, rfl, ?_⟩
        by_cases c : i = k
        · refine ifF (ne_F (by omega)) ⟨P', u, rfl, rt4, ?_, gb, hu, hdt, pB, by rw [← c]; rw [c] at hne ⊢; exact hne⟩
          rw [c] at hDm4
          exact hDm4
        refine ifT (ne_T (by omega)) ?_
        obtain ⟨vs4, hL4, hl4', row4⟩ := rt4.at_
        obtain ⟨pk, hpk1, hpk2, _, hpk3⟩ := row4 k hk
        refine ⟨_, rfl, _, rfl, L, _, _, _, rfl, rfl, SqL.of hL4, at_pos (by omega) (by rw [show (0 + (k : Int)).toNat = k by omega]; exact hpk1), pk, rfl, ⟨_, SqL.of hpk3⟩, fun D2 hD2 => ?_⟩
        refine lc_m (walk_list (K := K) (a := pk) (xs := (vec n (P' k)).map V.int)) RI (stb_RI (K := K)) (List.range n) (by rw [vec_lenV, List.length_range]) (by rw [List.length_range]; omega) hD2 (fun H' s => s.seq (SqL.of hpk3)) (fun _ _ _ _ => ys_at) (fun j => -P' k j) (fun c j v H1 H2 hc s1 s2 yl A B hA => ?_) (fun H5 l5 s5 hl5 rz5 => ?_)
        · obtain ⟨hc1, rfl⟩ := in_range hc
          have e' := yl.2
          rw [vecV_at hc1] at e'
          cases e'
          exact ⟨rfl, lc_yes ⟨_, rfl, _, rfl, hA _ _ (fun _ _ h => h) rfl⟩⟩
        have el5 : l5 = ((vec n fun j => -P' k j).map V.int) := rz5.ints
        rw [el5] at hl5
        have rt5 := rt4.keep s5
        have hL5 := s5 _ _ hL4
        have hDm5 := s5 _ _ hDm4
        have hD2L : D2 ≠ L := fun z => by rw [z, hL4] at hD2; cases hD2
        refine ⟨_, rfl, _, rfl, D, _, 0, _, rfl, rfl, s5.seq hFl4, ixF, L, _, _, i, rfl, rfl, hL5, by unfold ixN; rw [if_pos (by omega), if_pos (by omega)]; congr 1, ?_⟩
        have rt6 := rt5.put hL hL5 hin hD2L hD2L hl5
        have hDm6 : upd H5 L (.lst (vs4.set i (.ref D2))) Dm = some (.lst ((vec n (P' i)).map V.int)) := by rw [upd_ne hDmL]; exact hDm5
        have hL6 : upd H5 L (.lst (vs4.set i (.ref D2))) L = some (.lst (vs4.set i (.ref D2))) := upd_same
        generalize upd H5 L (.lst (vs4.set i (.ref D2))) = H6 at *
        refine ⟨_, rfl, _, rfl, _, rfl, L, _, _, k, rfl, rfl, hL6, by rw [List.length_set]; unfold ixN; rw [if_pos (by omega), if_pos (by omega)]; congr 1; omega, ?_⟩
        have rt7 := rt6.put hL hL6 hk hDmL hDmL hDm6
        have hki : k ≤ i := by omega
        refine ⟨El.ngr (El.xch P' k i) i, El.ngr (El.xch u k i) i, rfl, rt7.congr fun x y hx hy => ?_, ?_, (gb.xch hki hin).ngr hki, ngr_bd hin (xch_bd hk hin hu), ?_, ngr_B hin (xch_B hk hin pB), ?_⟩
        · unfold El.ngr El.xch
          by_cases c1 : x = k
          · subst c1
            rw [if_pos rfl, if_neg (Ne.symm c), if_pos rfl]
          · rw [if_neg c1, if_neg c1]
            by_cases c2 : x = i
            · subst c2
              rw [if_pos rfl, if_pos rfl]
              show -P' k y = -1 * (if x = k then P' x else if x = x then P' k else P' x) y
              rw [if_neg c1, if_pos rfl]
              omega
            · rw [if_neg c2, if_neg c2, if_neg c2]
        · rw [upd_ne hDmL, hDm6]
          congr 3
          refine vec_congr fun y _ => ?_
          unfold El.ngr El.xch
          rw [if_neg (Ne.symm c), if_pos rfl]
        · rw [El.dt_ngr hin, El.dt_xch (by omega) hin, Int.neg_neg, hdt]
        · unfold El.ngr El.xch
          rw [if_neg (Ne.symm c), if_pos rfl]
          exact hne
      rintro σ H5 ⟨P2, u2, rfl, rt5, hDm5, gb2, hu2, hdt2, pB2, hp2⟩
      obtain ⟨vs5, hL5, hl5', row5⟩ := rt5.at_
      have wk9 := wd_le (show k + 1 ≤ 10 by omega)
      have wks := wd_succ k
      have wk0 := wd_pos k
      have dB := gb_d gb2 (by omega) b1 hu2 hbB
      refine ⟨_, rfl, _, _, rfl, rfl, _, rfl, L, _, rfl, .inl (SqL.of hL5), ?_⟩
      rw [hl5']
      refine ⟨_, _, rfl, ⟨by omega, by omega, by omega, by omega⟩, ?_⟩
      refine for_range (lo := 0 + (k : Int) + 1) (n := ((n : Int) - (0 + (k : Int) + 1)).toNat) (fun t σ H6 => ∃ (v4 v7 : Option V), σ = [some (.ref a), some (.ref L), some (.int d), some (.int (0 + (k : Int))), v4, some (.ref D), some (.ref Dm), v7, none, none, none] ∧ RT H H6 L L n n (mixN k t d P2) ∧ H6 Dm = some (.lst ((vec n (P2 k)).map V.int))) ⟨v4, v7, rfl, by rw [mixN_0]; exact rt5, hDm5⟩ ?_ ?_
      · rintro t σ H6 ht ⟨v4, v7, rfl, rt6, hDm6⟩
        have hit : k + 1 + t < n := by omega
        have eit : (0 + (k : Int) + 1 + (t : Int)).toNat = k + 1 + t := by omega
        obtain ⟨vs6, hL6, hl6, row6⟩ := rt6.at_
        obtain ⟨pt, hpt1, hptL, _, hpt2⟩ := row6 (k + 1 + t) hit
        have em : mixN k t d P2 (k + 1 + t) = P2 (k + 1 + t) := by unfold mixN; rw [if_neg (by omega)]
        rw [em] at hpt2
        have ixt : atI vs6 (0 + (k : Int) + 1 + (t : Int)) = some (.ref pt) := at_pos (by omega) (by rw [eit]; exact hpt1)
        refine ⟨_, rfl, _, rfl, L, _, _, _, rfl, rfl, SqL.of hL6, ixt, _, rfl, pt, _, _, _, rfl, rfl, SqL.of hpt2, ixv hk, ?_⟩
        refine ⟨_, rfl, L, _, rfl, .inl (SqL.of hL6), ?_⟩
        rw [hl6]
        refine ⟨(n : Int), rfl, by omega, by omega, fun D2 hD2 => ?_⟩
        refine lc_m (walk_range (lo := 0) (n := n)) RI (stb_RI (K := K)) (List.range n) (by rw [List.length_range]) (by rw [List.length_range]; omega) hD2 (fun _ _ => trivial) (fun _ _ _ _ => ys_fn) (clrN P2 k d (k + 1 + t)) (fun c j z H7 H8 hc s7 s8 y A B hA => ?_) (fun H7 l s7 hl7 rz => ?_)
        · obtain ⟨hc1, rfl⟩ := in_range hc
          rw [y.2]
          have e1 : clrN P2 k d (k + 1 + t) j = (P2 k k * P2 (k + 1 + t) j - P2 (k + 1 + t) k * P2 k j).fdiv d := by unfold clrN; rw [if_neg (by omega)]
          refine ⟨rfl, lc_yes ⟨_, rfl, _, rfl, Dm, _, _, _, rfl, rfl, SqL.of (s8 _ _ hDm6), ixv hk, _, rfl, _, rfl, L, _, _, _, rfl, rfl, SqL.of (s8 _ _ hL6), ixt, _, rfl, pt, _, _, _, rfl, rfl, SqL.of (s8 _ _ hpt2), ixv hc1, _, _, rfl, rfl, wmul (pB2 k k hk hk) (pB2 (k + 1 + t) j hit hc1) (by omega) (by omega) (by omega), ?_⟩⟩
          refine ⟨_, rfl, _, rfl, _, rfl, Dm, _, _, _, rfl, rfl, SqL.of (s8 _ _ hDm6), ixv hc1, _, _, rfl, rfl, wmul (pB2 (k + 1 + t) k hit hk) (pB2 k j hk hc1) (by omega) (by omega) (by omega), _, _, rfl, rfl, _, rfl, _, _, rfl, rfl, wdivN gb2.nz dB w0 w9, hA _ _ (fun _ _ h => h) ?_⟩
          rw [e1]
          rfl
        · have el : l = ((vec n (clrN P2 k d (k + 1 + t))).map V.int) := rz.ints
          rw [el] at hl7
          have hLD : D2 ≠ L := fun z => by rw [z, hL6] at hD2; cases hD2
          refine ⟨_, rfl, _, rfl, L, _, _, k + 1 + t, rfl, rfl, s7 _ _ hL6, by unfold ixN; rw [if_pos (by omega), if_pos (by omega)]; congr 1, ?_⟩
          have rt8 := (rt6.keep s7).put hL (s7 _ _ hL6) hit hLD hLD hl7
          rw [mixN_put] at rt8
          exact ⟨_, _, rfl, rt8, by rw [upd_ne hDmL]; exact s7 _ _ hDm6⟩
      · rintro σ H6 ⟨v4, v7, rfl, rt6, hDm6⟩
        refine ⟨_, rfl, _, rfl, Dm, _, _, _, rfl, rfl, SqL.of hDm6, ixv hk, ?_⟩
        refine ⟨_, _, _, _, _, _, u2, _, rfl, rt6, gb2.step hk hp2 fun x y hx hn => ?_, hu2, hdt2, fun x y hx hy => ?_⟩
        · unfold mixN
          rw [if_pos (by omega)]
          unfold clrN
          rw [if_neg (by omega), ← gb2.exact hk hp2 hx hn y, Int.mul_fdiv_cancel_left _ gb2.nz]
        · unfold mixN
          split
          · exact clrN_B hk pB2 x y hx hy
          · exact (pB2 x y hx hy).mono (wd_mono k)
  · rintro σ H2 ⟨v3, v4, v5, v6, v7, P', u, d, rfl, rt, gb, hu, hdt, pB⟩
    refine ⟨_, rfl, ?_⟩
    have := q H2 rt.same
    rw [← hdt, ← gb.piv] at this
    exact this
end
end P10
set_option exponentiation.threshold 50000
namespace P10
open PySem PySem.Spec PyProof.Rows L2 SX EX WK
theorem B.quot {k : Nat} {x g : Int} (h : B k x) : B k (x / g) := Nat.lt_of_le_of_lt (Int.natAbs_ediv_le_natAbs x g) h
theorem pow_mul (g b : Int) : ∀ n : Nat, (g * b) ^ n = g ^ n * b ^ n
  | 0 => by simp
  | n + 1 => by rw [Int.pow_succ, Int.pow_succ, Int.pow_succ, pow_mul g b n]; grind
theorem dt_B {n w : Nat} {bd : Int} {M : Nat → El.Row} (b1 : 1 ≤ bd) (hM : ∀ i j, -bd ≤ M i j ∧ M i j ≤ bd) (hb : B w (El.bnd bd n)) : B w (El.dt M n) := by
  have h := El.D_bound (M := bd) (by omega) (El.clm n) (El.rws M n) (by rw [El.rws_len, El.clm_len]) fun r hr c _ => by
    obtain ⟨i, _, rfl⟩ := El.rws_mem hr
    exact hM i c
  rw [El.clm_len] at h
  have h3 : (El.bnd bd n).natAbs < 2 ^ w := hb
  show (El.dt M n).natAbs < 2 ^ w
  have h4 : -(El.bnd bd n) ≤ El.dt M n ∧ El.dt M n ≤ El.bnd bd n := h
  omega
theorem or_seq {K : PySem.W.Frag} {H H' : Hp} {a : Addr} {us : List V} (h : SqL K H a us ∨ SqT K H a us) (s : Same H H') : SqL K H' a us ∨ SqT K H' a us := h.imp (fun h => s.seq h) fun h => Same_seqT s h
theorem or_pick {K : PySem.W.Frag} {H : Hp} {a : Addr} {us : List V} {z : Int} {v : V} {Q : VK} (h : SqL K H a us ∨ SqT K H a us) (hz : atI us z = some v) (q : Q v H) : rIxL K (.ref a) (.int z) H Q ∨ rIxT K (.ref a) (.int z) H Q := by
  rcases h with h | h
  · exact .inl ⟨a, _, z, v, rfl, rfl, h, hz, q⟩
  · exact .inr ⟨a, _, z, v, rfl, rfl, h, hz, q⟩
section
variable {P : Program} {w : World} {K : PySem.W.Frag} {mg : Str → Option Value} {base : Heap} {f : Addr} {fd : FuncData} {cF cR : Addr}
def spDR (K : PySem.W.Frag) (cF : Addr) : Sp := fun vs H Q _ => ∃ (p a : Addr) (n w : Nat) (g b bd : Int) (M : Nat → Nat → Int), vs = [.ref p, .ref a, .int (g * b)] ∧ FormAt K H cF p n (mat n M) b ∧ LTab H a n (fun i j => g * M i j) ∧ n ≤ 10 ∧ 1 ≤ bd ∧ 0 < g ∧ 0 < b ∧ (∀ i j, -bd ≤ M i j ∧ M i j ≤ bd) ∧ (∀ i j, -bd ≤ g * M i j ∧ g * M i j ≤ bd) ∧ (∀ i j, B 150 (M i j)) ∧ (∀ i j, B 150 (g * M i j)) ∧ B w (El.bnd bd n) ∧ 0 < w ∧ w ≤ 9000 ∧ B 150 b ∧ B 150 (g * b) ∧ ∀ H', Same H H' → Q (.bl true) H'
abbrev s__law_det_right : Stmt := top 66
abbrev N__law_det_right : List Str := ["form", "table", "under", "told", "scale", "line"]
theorem sc__law_det_right : FnScope N__law_det_right ["form", "table", "under"] (defScope s__law_det_right) := ⟨rfl, rfl, rfl, by decide +kernel, rfl, by decide +kernel, by decide +kernel⟩
theorem ok__law_det_right (F : Fun K "_law_det_right" "_law_det_right" s__law_det_right f fd) (T : Txt mg) (C_determinant : Cal P w K mg base 2 "determinant" ["form"] (spDet K cF)) (C__law_whole : Cal P w K mg base 1 "_law_whole" ["value"] spLaw_whole) (C__law_gcd : Cal P w K mg base 1 "_law_gcd" ["one", "two"] spGcd) (C__law_det : Cal P w K mg base 1 "_law_det" ["table"] spLDet) : FnOk P w K mg base CX0 3 f fd ["form", "table", "under"] (spDR K cF) := by
  refine F.ok sc__law_det_right (fun vs H Q E h => ?_) (fun cdv A outer s H vs Q E hr h => ?_)
  · obtain ⟨p, a, n, w, g, b, bd, M, rfl, _⟩ := h
    rfl
  obtain ⟨p, a, n, w, g, b, bd, M, rfl, hF, hta, hn, b1, g0, b0, hM, hgM, mB, gB, hbB, w0, w9, bB, gbB, q⟩ := h
  refine ⟨_, (pss_cons (ps_set (i := 3) sc__law_det_right.nd rfl (Or.inl rfl) (pe_cal C_determinant (hr.mono (by omega)) rfl (pa_cons (pv 0) pa_nil)))
  (pss_cons (ps_if (PW.pt (pw_or (pt_not (pt_val (pe_callB call_isi (by rfl) T.b_isinstance (by decide +kernel) (pa_cons (pv 3) (pa_cons (pe_bltn (v := .ty "tuple") (by rfl) T.b_tuple (by decide +kernel) rfl) pa_nil))))) (pw_or (pt_cmpR op_ne (pe_callB call_len_seq (by rfl) T.b_len PySem.boot_len (pa_cons (pv 3) pa_nil)) pe_int (nomark _)) (pw_or (pt_not (pt_val (pe_cal C__law_whole (hr.mono (by omega)) rfl (pa_cons (pe_ix ix_tup (pv 3) pe_int (fun _ _ => rfl)) pa_nil)))) (pw_or1 (pt_not (pt_val (pe_cal C__law_whole (hr.mono (by omega)) rfl (pa_cons (pe_ix ix_tup (pv 3) pe_int (fun _ _ => rfl)) pa_nil))))))))) (pss_one (ps_ret pe_bl)) pss_nil)
  (pss_cons (ps_if (PW.pt (pw_or (pt_cmpR op_lt (pe_ix ix_tup (pv 3) pe_int (fun _ _ => rfl)) pe_int (nomark _)) (pw_or1 (pt_cmpR op_ne (pe_cal C__law_gcd (hr.mono (by omega)) rfl (pa_cons (pe_ix ix_tup (pv 3) pe_int (fun _ _ => rfl)) (pa_cons (pe_ix ix_tup (pv 3) pe_int (fun _ _ => rfl)) pa_nil))) pe_int (nomark _))))) (pss_one (ps_ret pe_bl)) pss_nil)
  (pss_cons (ps_set (i := 4) sc__law_det_right.nd rfl (Or.inl rfl) pe_int)
  (pss_cons (ps_for PassesOwn.never rfl (pi_list (pv 1)) (pg_name (i := 5) sc__law_det_right.nd rfl (Or.inl rfl)) (pss_one (ps_set (i := 4) sc__law_det_right.nd rfl (Or.inl rfl) (pe_op op_mulW (pv 4) (pv 2)))))
  (pss_one (ps_ret (pe_cmpR op_eq (pe_op op_mulW (pe_ix ix_tup (pv 3) pe_int (fun _ _ => rfl)) (pv 4)) (pe_op op_mulW (pe_cal C__law_det (hr.mono (by omega)) rfl (pa_cons (pv 1) pa_nil)) (pe_ix ix_tup (pv 3) pe_int (fun _ _ => rfl))) (nomark _))))))))), ?_⟩
  have hc : (0 : Int) < b ^ n := Int.pow_pos b0
  obtain ⟨gg, egg⟩ : ∃ gg, gg = gI (El.dt M n) (b ^ n) := ⟨_, rfl⟩
  have gg0 : 0 < gg := by rw [egg]; exact gI_pos' hc
  have d1 : gg ∣ El.dt M n := by rw [egg]; exact gI_dvd1
  have d2 : gg ∣ b ^ n := by rw [egg]; exact gI_dvd2
  have one : gI (El.dt M n / gg) (b ^ n / gg) = 1 := by rw [egg]; exact gI_one hc
  have cq := quot_pos gg0 d2 (by omega : 1 ≤ b ^ n)
  have cB : B 1501 (b ^ n / gg) := P10.B.quot ((B_pow bB n).mono (by omega))
  have dB : B w (El.dt M n / gg) := P10.B.quot (dt_B b1 hM hbB)
  refine ⟨_, rfl, p, n, w, b, bd, M, rfl, hF, hn, b1, hM, mB, hbB, w0, w9, b0, bB, fun r H1 s1 hfr => ?_⟩
  rw [← egg] at hfr
  have hR := SqT.of (K := K) hfr
  refine ⟨_, rfl, _, _, _, _, true, rfl, .ty _, ty_tup hR, kit6, true, rfl, ifF rfl ?_⟩
  refine ⟨_, rfl, r, _, rfl, .inr hR, rfl, _, rfl, ifF (by simp) ?_⟩
  refine ⟨_, rfl, r, _, 0, _, rfl, rfl, hR, at_pos (by decide) rfl, _, rfl, true, rfl, ifF rfl ?_⟩
  refine ⟨_, rfl, r, _, 1, _, rfl, rfl, hR, at_pos (by decide) rfl, _, rfl, true, rfl, ifF rfl ?_⟩
  refine ⟨_, rfl, r, _, 1, _, rfl, rfl, hR, at_pos (by decide) rfl, _, _, rfl, rfl, _, rfl, ifF (decide_eq_false (by omega)) ?_⟩
  refine ⟨_, rfl, r, _, 0, _, rfl, rfl, hR, at_pos (by decide) rfl, _, rfl, r, _, 1, _, rfl, rfl, hR, at_pos (by decide) rfl, _, _, rfl, cB.mono (by decide), rfl, _, rfl, ifF (ne_F one) ?_⟩
  obtain ⟨rs, ha, hl, row⟩ := LTab.same s1 hta
  refine ⟨_, rfl, a, rfl, ⟨_, SqL.of ha⟩, for_list (K := K) (a := a) (xs := rs.map V.ref) (fun i σ H' => ∃ v5 : Option V, σ = [some (.ref p), some (.ref a), some (.int (g * b)), some (.ref r), some (.int ((g * b) ^ i)), v5] ∧ H' = H1) ⟨none, by rw [Int.pow_zero] <;> rfl, rfl⟩ (fun i σ H' _ ⟨_, _, e⟩ => by rw [e]; exact SqL.of ha) ?_ ?_⟩
  · rintro i v σ H' hi ⟨v5, rfl, rfl⟩
    have hin : i < n := by
      have := (List.getElem?_eq_some_iff.mp hi).1
      rw [List.length_map] at this
      omega
    refine ⟨_, rfl, _, rfl, _, _, rfl, rfl, wmul ((B_pow gbB i).mono (show 150 * i + 1 ≤ 1501 by omega)) gbB (by decide) (by decide) (by decide), some v, ?_, rfl⟩
    rw [Int.pow_succ]
    rfl
  · rintro σ H' ⟨v5, rfl, rfl⟩
    rw [List.length_map, hl]
    have sc1 : B 1501 ((g * b) ^ n) := (B_pow gbB n).mono (by omega)
    refine ⟨_, rfl, r, _, 0, _, rfl, rfl, hR, at_pos (by decide) rfl, _, rfl, _, _, rfl, rfl, wmul dB sc1 w0 (by decide) (by omega), ?_⟩
    refine ⟨_, rfl, a, n, w, bd, _, rfl, LTab.same s1 hta, hn, b1, hgM, gB, hbB, w0, w9, fun H2 s2 => ?_⟩
    have tB := dt_B b1 hgM hbB
    refine ⟨_, rfl, r, _, 1, _, rfl, rfl, Same_seqT s2 hR, at_pos (by decide) rfl, _, _, rfl, rfl, wmul tB cB w0 (by decide) (by omega), rfl, ?_⟩
    have e1 : El.dt (fun i j => g * M i j) n = g ^ n * El.dt M n := El.dt_scale n fun _ _ => rfl
    have e2 := cross gg0 d1 d2
    have e3 : El.dt M n / gg * (g * b) ^ n = El.dt (fun i j => g * M i j) n * (b ^ n / gg) := by
      rw [e1, pow_mul]
      have : El.dt M n / gg * (g ^ n * b ^ n) = g ^ n * (El.dt M n / gg * b ^ n) := by grind
      rw [this, e2]
      grind
    show Q (V.bl (decide (V.int (El.dt M n / gg * (g * b) ^ n) = V.int (El.dt (fun i j => g * M i j) n * (b ^ n / gg))))) _
    rw [e3, decide_eq_true rfl]
    exact q H2 (s1.trans s2)
/-- U V U -/
def spSw (K : PySem.W.Frag) : Sp := fun vs H Q _ => ∃ (o i : V) (n k1 k2 : Nat) (U X : Nat → Nat → Int) (us xs : List V) (a b : Addr), vs = [.ref a, .ref b] ∧ (SqL K H a us ∨ SqT K H a us) ∧ (SqL K H b xs ∨ SqT K H b xs) ∧ us.length = n ∧ xs.length = n ∧ (∀ j, j < n → ∃ v, us[j]? = some v ∧ Sn K H v (tv n (U j))) ∧ (∀ j, j < n → ∃ v, xs[j]? = some v ∧ Sn K H v (tv n (X j))) ∧ n ≤ 10 ∧ 0 < k1 ∧ 0 < k2 ∧ k1 + k1 + k2 + 4 ≤ 90000 ∧ (∀ i j, i < n → j < n → B k1 (U i j)) ∧ (∀ i j, i < n → j < n → B k2 (X i j)) ∧ ∀ r H', Same H H' → LTab H' r n (El.sw n U X) → Q (.ref r) H'
abbrev s__law_sandwich : Stmt := top 51
abbrev N__law_sandwich : List Str := ["outer", "inner", "size", "half", "i", "j"]
theorem sc__law_sandwich : FnScope N__law_sandwich ["outer", "inner"] (defScope s__law_sandwich) := ⟨rfl, rfl, rfl, by decide +kernel, rfl, by decide +kernel, by decide +kernel⟩
theorem ok__law_sandwich (F : Fun K "_law_sandwich" "_law_sandwich" s__law_sandwich f fd) (T : Txt mg) (C__law_dot : Cal P w K mg base 1 "_law_dot" ["one", "two"] (spDot K)) : FnOk P w K mg base CX0 2 f fd ["outer", "inner"] (spSw K) := by
  refine F.ok sc__law_sandwich (fun vs H Q E h => ?_) (fun cdv A outer s H vs Q E hr h => ?_)
  · obtain ⟨o, i, n, k1, k2, U, X, us, xs, a, b, rfl, _⟩ := h
    rfl
  obtain ⟨o, i, n, k1, k2, U, X, us, xs, a, b, rfl, ha, hb, hul, hxl, hu, hx, hn, k10, k20, kk, uB, xB, q⟩ := h
  refine ⟨_, (pss_cons (ps_set (i := 2) sc__law_sandwich.nd rfl (Or.inr rfl) (pe_callB call_len_seq (by rfl) T.b_len PySem.boot_len (pa_cons (pv 0) pa_nil)))
  (pss_cons (ps_set (i := 3) sc__law_sandwich.nd rfl (Or.inr rfl) (pe_lc (own := [("i", 4)]) (g := gName 4) (tt := tYes) (by rfl) sc__law_sandwich.nd (pi_range1 (by rfl) T.b_range (pa_cons (pv 2) pa_nil)) (blkOk_by (N := N__law_sandwich) (sc := defScope s__law_sandwich) (by decide +kernel)) (fun _ _ _ _ _ => (pg_name (i := 4) sc__law_sandwich.nd rfl (Or.inr rfl))) (fun _ _ _ _ _ => pts_nil) (fun _ _ _ _ _ => (pe_lc (own := [("j", 5)]) (g := gName 5) (tt := tYes) (by rfl) sc__law_sandwich.nd (pi_range1 (by rfl) T.b_range (pa_cons (pv 2) pa_nil)) (blk_nest (N := N__law_sandwich) (sc0 := defScope s__law_sandwich) rfl (by decide +kernel)) (fun _ _ _ _ _ => (pg_name (i := 5) sc__law_sandwich.nd rfl (Or.inl rfl))) (fun _ _ _ _ _ => pts_nil) (fun _ _ _ _ _ => (pe_cal C__law_dot (hr.mono (by omega)) rfl (pa_cons (pe_ix (ix_orK (K := K) rfl) (pv 0) (pv 4) (fun _ _ => rfl)) (pa_cons (pe_ix (ix_orK (K := K) rfl) (pv 1) (pv 5) (fun _ _ => rfl)) pa_nil))))))))
  (pss_one (ps_ret (pe_lc (own := [("i", 4)]) (g := gName 4) (tt := tYes) (by rfl) sc__law_sandwich.nd (pi_range1 (by rfl) T.b_range (pa_cons (pv 2) pa_nil)) (blkOk_by (N := N__law_sandwich) (sc := defScope s__law_sandwich) (by decide +kernel)) (fun _ _ _ _ _ => (pg_name (i := 4) sc__law_sandwich.nd rfl (Or.inr rfl))) (fun _ _ _ _ _ => pts_nil) (fun _ _ _ _ _ => (pe_lc (own := [("j", 5)]) (g := gName 5) (tt := tYes) (by rfl) sc__law_sandwich.nd (pi_range1 (by rfl) T.b_range (pa_cons (pv 2) pa_nil)) (blk_nest (N := N__law_sandwich) (sc0 := defScope s__law_sandwich) rfl (by decide +kernel)) (fun _ _ _ _ _ => (pg_name (i := 5) sc__law_sandwich.nd rfl (Or.inl rfl))) (fun _ _ _ _ _ => pts_nil) (fun _ _ _ _ _ => (pe_cal C__law_dot (hr.mono (by omega)) rfl (pa_cons (pe_ix (ix_listK (K := K) rfl) (pv 3) (pv 4) (fun _ _ => rfl)) (pa_cons (pe_ix (ix_orK (K := K) rfl) (pv 0) (pv 5) (fun _ _ => rfl)) pa_nil))))))))))), ?_⟩
  refine ⟨_, rfl, a, _, rfl, ha, ?_⟩
  rw [hul]
  have i0 : ∀ i : Nat, (0 + (i : Int)).toNat = i := fun i => by omega
  have hB : ∀ i j, i < n → j < n → B (k1 + k2 + 4) (El.lin n (U i) (X j)) := fun i j hi hj => by
    have := BS (n := n) (k := k1 + k2) (c := 4) (f := fun p => U i p * X j p) (fun p hp => P10.B.mul (uB i p hi hp) (xB j p hj hp)) (by omega)
    rw [S_sm] at this
    exact this
  refine ⟨_, rfl, (n : Int), rfl, by omega, by omega, fun LD hLD => ?_⟩
  refine lc_gm (walk_range (lo := 0) (n := n)) (RL LD) stb_RL (List.range n) (by rw [List.length_range]) (by rw [List.length_range]; omega) hLD (fun _ _ => trivial) (fun _ _ _ _ => ys_fn) (fun i => vec n fun j => El.lin n (U i) (X j)) (fun c i x H1 H2 hc s1 s2 yl hdl A B' hA => ?_) (fun H1 l1 s1 hl1 rz => ?_)
  · obtain ⟨hi, rfl⟩ := in_range hc
    rw [yl.2]
    refine ⟨rfl, lc_yes ⟨_, rfl, (n : Int), rfl, by omega, by omega, fun D2 hD2 => ?_⟩⟩
    refine lc_m (walk_range (lo := 0) (n := n)) RI (stb_RI (K := K)) (List.range n) (by rw [List.length_range]) (by rw [List.length_range]; omega) hD2 (fun _ _ => trivial) (fun _ _ _ _ => ys_fn) (fun j => El.lin n (U i) (X j)) (fun c j v H3 H4 hc s3 s4 yl A2 B2 hA2 => ?_) (fun H3 l3 s3 hl3 rz => ?_)
    · obtain ⟨hj, rfl⟩ := in_range hc
      rw [yl.2]
      obtain ⟨u1, hu1, hu2⟩ := hu i hi
      obtain ⟨x1, hx1, hx2⟩ := hx j hj
      have s04 := s2.trans s4
      refine ⟨rfl, lc_yes ⟨_, rfl, _, rfl, or_pick (or_seq ha s04) (at_pos (by omega) (by rw [i0]; exact hu1)) ⟨_, rfl, _, rfl, or_pick (or_seq hb s04) (at_pos (by omega) (by rw [i0]; exact hx1)) ⟨u1, x1, n, k1, k2, U i, X j, rfl, hu2.same s04, hx2.same s04, by omega, fun p hp => uB i p hi hp, fun p hp => xB j p hj hp, k10, k20, by omega, fun H5 s5 => hA2 _ _ s5 ?_⟩⟩⟩⟩
      show V.int _ = V.int _
      rw [S_sm]
      rfl
    · refine hA _ _ s3 ⟨D2, rfl, fun z => ?_, by rw [hl3, rz.ints]; rfl⟩
      obtain ⟨l, hl⟩ := hdl
      rw [z, hl] at hD2
      cases hD2
  have tb := LTab.of hl1 rz
  obtain ⟨rs, hr1, hr2, hr3⟩ := id tb
  refine ⟨_, rfl, (n : Int), rfl, by omega, by omega, fun LE hLE => ?_⟩
  refine lc_gm (walk_range (lo := 0) (n := n)) (RL LE) stb_RL (List.range n) (by rw [List.length_range]) (by rw [List.length_range]; omega) hLE (fun _ _ => trivial) (fun _ _ _ _ => ys_fn) (fun i => vec n (El.sw n U X i)) (fun c i x H2 H3 hc s2 s3 yl hdl A B' hA => ?_) (fun H2 l2 s2 hl2 rz => ?_)
  · obtain ⟨hi, rfl⟩ := in_range hc
    rw [yl.2]
    refine ⟨rfl, lc_yes ⟨_, rfl, (n : Int), rfl, by omega, by omega, fun D2 hD2 => ?_⟩⟩
    refine lc_m (walk_range (lo := 0) (n := n)) RI (stb_RI (K := K)) (List.range n) (by rw [List.length_range]) (by rw [List.length_range]; omega) hD2 (fun _ _ => trivial) (fun _ _ _ _ => ys_fn) (El.sw n U X i) (fun c j v H4 H5 hc s4 s5 yl A2 B2 hA2 => ?_) (fun H4 l3 s4 hl3 rz => ?_)
    · obtain ⟨hj, rfl⟩ := in_range hc
      rw [yl.2]
      obtain ⟨p, hp1, hp2⟩ := hr3 i hi
      obtain ⟨u1, hu1, hu2⟩ := hu j hj
      have s15 := s3.trans s5
      have s05 := s1.trans s15
      refine ⟨rfl, lc_yes ⟨_, rfl, _, rfl, LD, _, _, _, rfl, rfl, SqL.of (s15 _ _ hr1), at_pos (by omega) (by rw [i0, List.getElem?_map, hp1]; rfl), _, rfl, _, rfl, or_pick (or_seq ha s05) (at_pos (by omega) (by rw [i0]; exact hu1)) ⟨.ref p, u1, n, k1 + k2 + 4, k1, _, U j, rfl, .lst (s15 _ _ hp2) ((FzAll.of_ints _).sn), hu2.same s05, by omega, fun q hq => hB i q hi hq, fun q hq => uB j q hj hq, by omega, k10, by omega, fun H6 s6 => hA2 _ _ s6 ?_⟩⟩⟩
      show V.int _ = V.int _
      rw [S_sm]
      rfl
    · refine hA _ _ s4 ⟨D2, rfl, fun z => ?_, by rw [hl3, rz.ints]; rfl⟩
      obtain ⟨l, hl⟩ := hdl
      rw [z, hl] at hD2
      cases hD2
  exact q LE H2 (s1.trans s2) (LTab.of hl2 rz)
end
end P10
namespace P10
open PySem PySem.Spec PyProof.Rows L2 SX EX WK
/-- a table that grows by rows: so far i of them -/
structure MG (H0 H : Hp) (a : Addr) (rs : List Addr) (n i : Nat) (f : Nat → Nat → Int) : Prop where
  same : Same H0 H
  at_ : H a = some (.lst (rs.map V.ref))
  len : rs.length = i
  nd : rs.Nodup
  na : a ∉ rs
  fr : ∀ r ∈ rs, H0 r = none
  row : ∀ (j : Nat), j < i → ∃ p, rs[j]? = some p ∧ H p = some (.lst ((vec n (f j)).map V.int))
theorem MG.start {H0 : Hp} {D : Addr} {n : Nat} {f : Nat → Nat → Int} (h : H0 D = none) : MG H0 (upd H0 D (.lst [])) D [] n 0 f := ⟨new_same h _, upd_same, rfl, List.nodup_nil, by simp, by simp, fun i hi => by omega⟩
theorem MG.mt {H0 H : Hp} {a : Addr} {rs : List Addr} {n : Nat} {f : Nat → Nat → Int} (h : MG H0 H a rs n n f) : MT H0 H a rs n f := ⟨h.same, h.at_, h.len, h.nd, h.na, h.fr, h.row⟩
theorem MG.snoc {H0 H H' : Hp} {a p : Addr} {rs : List Addr} {n i : Nat} {f : Nat → Nat → Int} (h : MG H0 H a rs n i f) (h0 : H0 a = none) (s : Same H H') (hp : H p = none) (hr : H' p = some (.lst ((vec n (f i)).map V.int))) : MG H0 (upd H' a (.lst (rs.map V.ref ++ [.ref p]))) a (rs ++ [p]) n (i + 1) f := by
  have hpa : p ≠ a := fun z => by rw [z, h.at_] at hp; cases hp
  refine ⟨same_at (h.same.trans s) h0, ?_, by rw [List.length_append, h.len]; rfl, ?_, ?_, fun r hr' => ?_, fun j hj => ?_⟩
  · rw [upd_same, List.map_append]
    rfl
  · refine List.nodup_append.mpr ⟨h.nd, by simp, fun x hx y hy z => ?_⟩
    rw [List.mem_singleton] at hy
    subst hy
    subst z
    obtain ⟨j, hj⟩ := List.getElem?_of_mem hx
    have hlt : j < i := by
      have := (List.getElem?_eq_some_iff.mp hj).1
      rw [h.len] at this
      exact this
    obtain ⟨p2, e1, e2⟩ := h.row j hlt
    rw [hj] at e1
    cases e1
    rw [e2] at hp
    cases hp
  · intro hm
    rcases List.mem_append.mp hm with m | m
    · exact h.na m
    · exact hpa (List.mem_singleton.mp m).symm
  · rcases List.mem_append.mp hr' with m | m
    · exact h.fr r m
    · rw [List.mem_singleton.mp m]
      cases e : H0 p with
      | none => rfl
      | some u => rw [h.same _ _ e] at hp; cases hp
  · by_cases e : j < i
    · obtain ⟨p2, e1, e2⟩ := h.row j e
      have hlt : j < rs.length := by rw [h.len]; exact e
      have m := List.mem_of_getElem? e1
      exact ⟨p2, by rw [List.getElem?_append_left hlt]; exact e1, by rw [upd_ne (fun z => h.na (by rw [← z]; exact m))]; exact s _ _ e2⟩
    · have e2 : j = i := by omega
      subst e2
      exact ⟨p, by rw [List.getElem?_append_right (by rw [h.len]; omega), h.len, Nat.sub_self]; rfl, by rw [upd_ne hpa]; exact hr⟩
/-- what stands apart from the table stays apart -/
theorem MT.put {H0 H : Hp} {a c : Addr} {rs : List Addr} {n : Nat} {f : Nat → Nat → Int} {o : HO} (h : MT H0 H a rs n f) (h0 : H0 c = none) (ha : c ≠ a) (hr : c ∉ rs) : MT H0 (upd H c o) a rs n f := by
  refine ⟨same_at h.same h0, by rw [upd_ne (Ne.symm ha)]; exact h.at_, h.len, h.nd, h.na, h.fr, fun i hi => ?_⟩
  obtain ⟨p, h1, h2⟩ := h.row i hi
  exact ⟨p, h1, by rw [upd_ne (fun z => hr (by rw [← z]; exact List.mem_of_getElem? h1))]; exact h2⟩
theorem MT.apart {H0 H : Hp} {a c : Addr} {rs : List Addr} {n : Nat} {f : Nat → Nat → Int} (h : MT H0 H a rs n f) (hc : H c = none) : c ≠ a ∧ c ∉ rs := by
  refine ⟨fun z => (by rw [z, h.at_] at hc; cases hc), fun m => ?_⟩
  obtain ⟨j, hj⟩ := List.getElem?_of_mem m
  have hlt : j < n := by
    have := (List.getElem?_eq_some_iff.mp hj).1
    rw [h.len] at this
    exact this
  obtain ⟨p2, e1, e2⟩ := h.row j hlt
  rw [hj] at e1
  cases e1
  rw [e2] at hc
  cases hc
/-- between two states behind k: the rows below i are done, of the row i the first j -/
def mixk (k : Nat) (f g : Nat → Nat → Int) (i j : Nat) : Nat → Nat → Int := fun a b => if k < a ∧ k < b ∧ (a < i ∨ (a = i ∧ b < j)) then g a b else f a b
theorem mixk_put {k : Nat} (f g : Nat → Nat → Int) {i j : Nat} (hi : k < i) (hj : k < j) : ∀ a b, put (mixk k f g i j) i j (g i j) a b = mixk k f g i (j + 1) a b := fun a b => by
  unfold put mixk
  by_cases h : a = i ∧ b = j
  · rw [if_pos h, if_pos ⟨by omega, by omega, .inr ⟨h.1, by omega⟩⟩, h.1, h.2]
  · rw [if_neg h]
    by_cases h2 : k < a ∧ k < b ∧ (a < i ∨ (a = i ∧ b < j))
    · rw [if_pos h2, if_pos (by omega)]
    · rw [if_neg h2, if_neg (by omega)]
theorem mixk_at (k : Nat) (f g : Nat → Nat → Int) (i j : Nat) : mixk k f g i j i j = f i j := by
  unfold mixk
  rw [if_neg (by omega)]
theorem mixk_0 (k : Nat) (f g : Nat → Nat → Int) : mixk k f g (k + 1) (k + 1) = f := by
  funext a b
  unfold mixk
  rw [if_neg (by omega)]
theorem mixk_row (k : Nat) (f g : Nat → Nat → Int) (n i : Nat) : ∀ a b, a < n → b < n → mixk k f g i n a b = mixk k f g (i + 1) (k + 1) a b := fun a b ha hb => by
  unfold mixk
  by_cases h : k < a ∧ k < b ∧ a < i + 1
  · rw [if_pos (by omega), if_pos (by omega)]
  · rw [if_neg (by omega), if_neg (by omega)]
theorem mixk_n (k : Nat) (f g : Nat → Nat → Int) (n j : Nat) : ∀ a b, a < n → b < n → mixk k f g n j a b = if k < a ∧ k < b then g a b else f a b := fun a b ha hb => by
  unfold mixk
  by_cases h : k < a ∧ k < b
  · rw [if_pos (by omega), if_pos h]
  · rw [if_neg (by omega), if_neg h]
/-- the numbers that a step has made so far -/
def Made (n k i j : Nat) (R : Nat → El.Row) (x : Int) : Prop := ∃ a b, k < a ∧ k < b ∧ a < n ∧ b < n ∧ (a < i ∨ (a = i ∧ b < j)) ∧ x = El.numer R k a b
theorem made_0 {n k : Nat} {R : Nat → El.Row} : ∀ x, ¬ Made n k (k + 1) (k + 1) R x := fun x ⟨a, b, h1, h2, _, _, h3, _⟩ => by omega
theorem made_put {n k i j : Nat} {R : Nat → El.Row} (hi : k < i) (hj : k < j) (hin : i < n) (hjn : j < n) (y : Int) : Made n k i (j + 1) R y ↔ Made n k i j R y ∨ y = El.numer R k i j := by
  constructor
  · rintro ⟨a, b, h1, h2, h3, h4, h5, rfl⟩
    by_cases e : a = i ∧ b = j
    · exact .inr (by rw [e.1, e.2])
    · exact .inl ⟨a, b, h1, h2, h3, h4, by omega, rfl⟩
  · rintro (⟨a, b, h1, h2, h3, h4, h5, rfl⟩ | rfl)
    · exact ⟨a, b, h1, h2, h3, h4, by omega, rfl⟩
    · exact ⟨i, j, hi, hj, hin, hjn, by omega, rfl⟩
theorem made_row {n k i : Nat} {R : Nat → El.Row} (y : Int) : Made n k (i + 1) (k + 1) R y ↔ Made n k i n R y := by
  constructor
  · rintro ⟨a, b, h1, h2, h3, h4, h5, rfl⟩
    exact ⟨a, b, h1, h2, h3, h4, by omega, rfl⟩
  · rintro ⟨a, b, h1, h2, h3, h4, h5, rfl⟩
    exact ⟨a, b, h1, h2, h3, h4, by omega, rfl⟩
theorem made_n {n k j : Nat} {R : Nat → El.Row} (y : Int) : El.Nums n k R y ↔ Made n k n j R y := by
  constructor
  · rintro ⟨a, b, h1, h2, h3, h4, rfl⟩
    exact ⟨a, b, h1, h2, h3, h4, by omega, rfl⟩
  · rintro ⟨a, b, h1, h2, h3, h4, h5, rfl⟩
    exact ⟨a, b, h1, h2, h3, h4, rfl⟩
/-- a table that is below 0 somewhere, seen at the index k -/
def Bd (n k : Nat) (B' : Nat → El.Row) : Prop := B' k k < 0 ∨ (B' k k = 0 ∧ ∃ j, k < j ∧ j < n ∧ B' k j ≠ 0)
section
variable {P : Program} {w : World} {K : PySem.W.Frag} {mg : Str → Option Value} {base : Heap} {f : Addr} {fd : FuncData} {cF cR : Addr}
/-- what the law's elimination answers -/
def LdV (H : Hp) (n : Nat) (M : Nat → El.Row) (sv : V) : Prop := (∃ r S d B' ps, sv = .ref r ∧ El.Run M n S d B' ps ∧ H r = some (.lst ((ps.reverse.map fun p => (p.1 : Int)).map V.int))) ∨ (sv = .non ∧ ∃ k S d B' ps, k < n ∧ El.Run M k S d B' ps ∧ Bd n k B')
theorem LdV.same {H H' : Hp} {n : Nat} {M : Nat → El.Row} {sv : V} (h : LdV H n M sv) (s : Same H H') : LdV H' n M sv := by
  rcases h with ⟨r, S, d, B', ps, h1, h2, h3⟩ | h
  · exact .inl ⟨r, S, d, B', ps, h1, h2, s _ _ h3⟩
  · exact .inr h
def spLeads (K : PySem.W.Frag) : Sp := fun vs H Q _ => ∃ (a : Addr) (n w : Nat) (bd : Int) (M R : Nat → Nat → Int), vs = [.ref a] ∧ LTab H a n R ∧ JOk n w bd M ∧ El.Out n R ∧ (∀ i j, B w (R i j)) ∧ El.Tie 0 R M ∧ ∀ sv H', Same H H' → LdV H' n M sv → Q sv H'
abbrev s__law_leads : Stmt := top 52
abbrev N__law_leads : List Str := ["table", "size", "line", "rest", "leads_v", "k", "pivot", "j", "shared", "i"]
theorem sc__law_leads : FnScope N__law_leads ["table"] (defScope s__law_leads) := ⟨rfl, rfl, rfl, by decide +kernel, rfl, by decide +kernel, by decide +kernel⟩
theorem ok__law_leads (F : Fun K "_law_leads" "_law_leads" s__law_leads f fd) (T : Txt mg) (C__law_gcd : Cal P w K mg base 1 "_law_gcd" ["one", "two"] spGcd) : FnOk P w K mg base CX0 2 f fd ["table"] (spLeads K) := by
  refine F.ok sc__law_leads (fun vs H Q E h => ?_) (fun cdv A outer s H vs Q E hr h => ?_)
  · obtain ⟨a, n, w, bd, M, R, rfl, _⟩ := h
    rfl
  obtain ⟨a, n, w, bd, M, R0, rfl, ht, jo, out0, hB0, tie0, q⟩ := h
  have q1 : ∀ r H' S d B' ps, Same H H' → El.Run M n S d B' ps → H' r = some (.lst ((ps.reverse.map fun p => (p.1 : Int)).map V.int)) → Q (.ref r) H' := fun r H' S d B' ps s1 h1 h2 => q _ _ s1 (.inl ⟨r, S, d, B', ps, rfl, h1, h2⟩)
  have q2 : ∀ H' k S d B' ps, Same H H' → k < n → El.Run M k S d B' ps → Bd n k B' → Q .non H' := fun H' k S d B' ps s1 h1 h2 h3 => q _ _ s1 (.inr ⟨rfl, k, S, d, B', ps, h1, h2, h3⟩)
  refine ⟨_, (pss_cons (ps_set (i := 1) sc__law_leads.nd rfl (Or.inl rfl) (pe_callB call_len_seq (by rfl) T.b_len PySem.boot_len (pa_cons (pv 0) pa_nil)))
  (pss_cons (ps_setLc (i := 3) (own := [("line", 2)]) (g := gName 2) (tt := tYes) (by rfl) sc__law_leads.nd rfl rfl (sw_true rfl rfl rfl (by decide +kernel)) (pi_list (pv 0)) (blkOk_by (N := N__law_leads) (sc := defScope s__law_leads) (by decide +kernel)) (fun _ _ _ _ _ => (pg_name (i := 2) sc__law_leads.nd rfl (Or.inl rfl))) (fun _ _ _ _ _ => pts_nil) (fun _ _ _ _ _ => (pe_callTy (call_list_ofK (K := K) rfl) (by rfl) T.b_list (by decide +kernel) (pa_cons (pv 2) pa_nil))))
  (pss_cons (ps_set (i := 4) sc__law_leads.nd rfl (Or.inl rfl) (pe_lst pa_nil))
  (pss_cons (ps_for PassesOwn.never rfl (pi_range1 (by rfl) T.b_range (pa_cons (pv 1) pa_nil)) (pg_name (i := 5) sc__law_leads.nd rfl (Or.inl rfl)) (pss_cons (ps_set (i := 2) sc__law_leads.nd rfl (Or.inr rfl) (pe_callTy call_list_of (by rfl) T.b_list (by decide +kernel) (pa_cons (pe_ix ix_list (pv 3) (pv 5) (fun _ _ => rfl)) pa_nil)))
  (pss_cons (ps_set (i := 6) sc__law_leads.nd rfl (Or.inl rfl) (pe_ix ix_list (pv 2) (pv 5) (fun _ _ => rfl)))
  (pss_cons (ps_if (pt_cmpR op_lt (pv 6) pe_int (nomark _)) (pss_one (ps_ret pe_non)) pss_nil)
  (pss_cons (ps_if (PW.pt (pw_and (pt_cmpR op_eq (pv 6) pe_int (nomark _)) (pw_and1 (pt_val (pe_callB (cr_any rfl) (by rfl) T.b_any (by decide +kernel) (pa_cons (pe_lc (own := [("j", 7)]) (g := gName 7) (tt := tYes) (by rfl) sc__law_leads.nd (pi_range2 (by rfl) T.b_range (pa_cons (pe_op op_add (pv 5) pe_int) (pa_cons (pv 1) pa_nil))) (blkOk_by (N := N__law_leads) (sc := defScope s__law_leads) (by decide +kernel)) (fun _ _ _ _ _ => (pg_name (i := 7) sc__law_leads.nd rfl (Or.inl rfl))) (fun _ _ _ _ _ => pts_nil) (fun _ _ _ _ _ => (pe_cmpR op_ne (pe_ix (ix_listK (K := K) rfl) (pv 2) (pv 7) (fun _ _ => rfl)) pe_int (nomark _)))) pa_nil)))))) (pss_one (ps_ret pe_non)) pss_nil)
  (pss_one (ps_if (pt_cmpR op_gt (pv 6) pe_int (nomark _)) (pss_cons (ps_expr (pe_bm PySem.F.plainAttrs_list PySem.F.slot_list_append PySem.F.type_list_append mt_append (pv 4) (pa_cons (pv 5) pa_nil)))
  (pss_cons (ps_set (i := 8) sc__law_leads.nd rfl (Or.inl rfl) pe_int)
  (pss_cons (ps_for PassesOwn.never rfl (pi_range2 (by rfl) T.b_range (pa_cons (pe_op op_add (pv 5) pe_int) (pa_cons (pv 1) pa_nil))) (pg_name (i := 9) sc__law_leads.nd rfl (Or.inl rfl)) (pss_one (ps_for PassesOwn.never rfl (pi_range2 (by rfl) T.b_range (pa_cons (pe_op op_add (pv 5) pe_int) (pa_cons (pv 1) pa_nil))) (pg_name (i := 7) sc__law_leads.nd rfl (Or.inl rfl)) (pss_cons (ps_asg (pe_op op_sub (pe_op op_mulW (pv 6) (pe_ix ix_list /-?-/ (pe_ix ix_list (pv 3) (pv 9) (fun _ _ => rfl)) (pv 7) (fun _ _ => rfl))) (pe_op op_mulW (pe_ix ix_list (pv 2) (pv 9) (fun _ _ => rfl)) (pe_ix ix_list (pv 2) (pv 7) (fun _ _ => rfl)))) (pg_sub (pe_ix ix_list (pv 3) (pv 9) (fun _ _ => rfl)) (pv 7) set_list))
  (pss_one (ps_if (pt_cmpR op_ne (pv 8) pe_int (nomark _)) (pss_one (ps_set (i := 8) sc__law_leads.nd rfl (Or.inl rfl) (pe_cal C__law_gcd (hr.mono (by omega)) rfl (pa_cons (pv 8) (pa_cons (pe_ix ix_list /-?-/ (pe_ix ix_list (pv 3) (pv 9) (fun _ _ => rfl)) (pv 7) (fun _ _ => rfl)) pa_nil))))) pss_nil))))))
  (pss_one (ps_if (pt_cmpR op_gt (pv 8) pe_int (nomark _)) (pss_one (ps_for PassesOwn.never rfl (pi_range2 (by rfl) T.b_range (pa_cons (pe_op op_add (pv 5) pe_int) (pa_cons (pv 1) pa_nil))) (pg_name (i := 9) sc__law_leads.nd rfl (Or.inl rfl)) (pss_one (ps_for PassesOwn.never rfl (pi_range2 (by rfl) T.b_range (pa_cons (pe_op op_add (pv 5) pe_int) (pa_cons (pv 1) pa_nil))) (pg_name (i := 7) sc__law_leads.nd rfl (Or.inl rfl)) (pss_one (ps_asg (pe_op op_fdivW (pe_ix ix_list /-?-/ (pe_ix ix_list (pv 3) (pv 9) (fun _ _ => rfl)) (pv 7) (fun _ _ => rfl)) (pv 8)) (pg_sub (pe_ix ix_list (pv 3) (pv 9) (fun _ _ => rfl)) (pv 7) set_list))))))) pss_nil))))) pss_nil)))))))
  (pss_one (ps_ret (pv 4))))))), ?_⟩
  have n10 := jo.n10
  have w1 := jo.w1
  obtain ⟨vs, ha, hl, row⟩ := ht.at
  refine ⟨_, rfl, a, _, rfl, .inl (SqL.of ha), ?_⟩
  rw [hl]
  refine ⟨_, rfl, a, rfl, ⟨_, SqL.of ha⟩, fun L hL => ?_⟩
  refine lc_list (K := K) (a := a) (xs := vs) (fun i H' => ∃ rs, MG H H' L rs n i R0) ⟨[], MG.start hL⟩ (fun i H' _ ⟨_, z⟩ => SqL.of (z.same _ _ ha)) (fun i x H1 hx ⟨rs, z⟩ => ?_) (fun H1 ⟨rs, z⟩ => ?_)
  · have hi : i < n := by have := (List.getElem?_eq_some_iff.mp hx).1; omega
    obtain ⟨p, h1, h2⟩ := row i hi
    rw [hx] at h1
    cases h1
    refine ⟨rfl, lc_yes ⟨_, rfl, p, _, rfl, .inl (SqL.of (z.same _ _ h2)), fun D hD => ⟨_, (same_new hD _) _ _ z.at_, ?_, _, z.snoc hL (same_new hD _) hD upd_same⟩⟩⟩
    rw [List.length_map, z.len]
    exact Nat.lt_of_lt_of_le (by omega : i < 1001) (line_ge (by decide))
  · rw [hl] at z
    have mt := z.mt
    clear z
    refine ⟨line_ge (by decide), fun F0 hF0 => ?_⟩
    obtain ⟨apL, apR⟩ := mt.apart hF0
    have hF00 : H F0 = none := by
      cases e : H F0 with
      | none => rfl
      | some u => rw [mt.same _ _ e] at hF0; cases hF0
    have mt0 := mt.keep (same_new hF0 (.lst []))
    refine ⟨_, rfl, (n : Int), rfl, by omega, by omega, ?_⟩
    refine for_range (lo := 0) (n := n) (fun k σ H2 => ∃ (v2 v5 v6 v7 v8 v9 : Option V) (R : Nat → El.Row) (S : List Nat) (d : Int) (B' : Nat → El.Row) (ps : List El.Pv), σ = [some (.ref a), some (.int n), v2, some (.ref L), some (.ref F0), v5, v6, v7, v8, v9] ∧ MT H H2 L rs n R ∧
      H2 F0 = some (.lst ((ps.reverse.map fun p => (p.1 : Int)).map V.int)) ∧ El.Run M k S d B' ps ∧ El.Tie k R B' ∧ El.Out n R ∧ ∀ i j, k ≤ i → k ≤ j → B w (R i j)) ⟨none, none, none, none, none, none, R0, [], 1, M, [], rfl, mt0, upd_same, .begin, tie0, out0, fun i j _ _ => hB0 i j⟩ ?_ ?_
    · rintro k σ H2 hk ⟨v2, v5, v6, v7, v8, v9, R, S, d, B', ps, rfl, mt2, hF2, run, tie, out, hB⟩
      have e0 : (0 + (k : Int)).toNat = k := by omega
      obtain ⟨pk, hpk1, hpk2⟩ := mt2.row k hk
      have ixk : atI (rs.map V.ref) (0 + (k : Int)) = some (.ref pk) := at_pos (by omega) (by rw [e0, List.getElem?_map, hpk1]; rfl)
      refine ⟨_, rfl, _, rfl, L, _, _, _, rfl, rfl, SqL.of mt2.at_, ixk, pk, _, rfl, .inl (SqL.of hpk2), fun D hD => ?_⟩
      have mt3 := mt2.keep (same_new hD (.lst ((vec n (R k)).map V.int)))
      have hF3 := (same_new hD (.lst ((vec n (R k)).map V.int))) _ _ hF2
      have hD3 : upd H2 D (.lst ((vec n (R k)).map V.int)) D = some (.lst ((vec n (R k)).map V.int)) := upd_same
      obtain ⟨dpL, dpR⟩ := mt2.apart hD
      have hDF : D ≠ F0 := fun z => by rw [z, hF2] at hD; cases hD
      generalize upd H2 D (.lst ((vec n (R k)).map V.int)) = H3 at *
      refine ⟨_, rfl, _, rfl, D, _, _, _, rfl, rfl, SqL.of hD3, ixv hk, ?_⟩
      refine ⟨_, rfl, _, _, rfl, rfl, _, rfl, ?_⟩
      have tp := tie.pos (Nat.le_refl k) (Nat.le_refl k)
      have tz := tie.zero (Nat.le_refl k) (Nat.le_refl k)
      by_cases c1 : R k k < 0
      · refine ifT (decide_eq_true c1) ?_
        exact q2 H3 k S d B' ps mt3.same hk run (.inl (by omega))
      refine ifF (decide_eq_false c1) ?_
      refine ⟨_, rfl, rfl, _, rfl, ?_⟩
      by_cases c2 : R k k = 0
      · refine ifT (int_eq c2) ?_
        obtain ⟨N, hN⟩ : ∃ N, N = ((n : Int) - (0 + (k : Int) + 1)).toNat := ⟨_, rfl⟩
        refine ⟨_, rfl, _, _, rfl, rfl, _, rfl, _, _, rfl, ⟨by omega, by omega, by omega, by omega⟩, fun D2 hD2 => ?_⟩
        rw [← hN]
        refine lc_m (walk_range (lo := 0 + (k : Int) + 1) (n := N)) RB (stb_RB (K := K)) (List.range N) (by rw [List.length_range]) (by rw [List.length_range]; omega) hD2 (fun _ _ => trivial) (fun _ _ _ _ => ys_fn) (fun i => !decide (R k (k + 1 + i) = 0)) (fun c i x H4 H5 hc s4 s5 y A B hA => ?_) (fun H4 l s4 hl4 rz => ?_)
        · obtain ⟨hc1, rfl⟩ := in_range hc
          rw [y.2]
          have hci : k + 1 + i < n := by omega
          refine ⟨rfl, lc_yes ⟨_, rfl, _, rfl, D, _, _, _, rfl, rfl, SqL.of (s5 _ _ hD3), at_pos (by omega) (by rw [show (0 + (k : Int) + 1 + (i : Int)).toNat = k + 1 + i by omega]; exact vecV_at hci), rfl, hA _ _ (fun _ _ h => h) ?_⟩⟩
          show V.bl _ = V.bl _
          congr 2
          rw [Bool.eq_iff_iff, decide_eq_true_iff, decide_eq_true_iff]
          exact ⟨fun e => V.int.inj e, fun e => by rw [e]⟩
        · refine ⟨D2, _, rfl, SqL.of (by rw [hl4, rz.bls]), _, rfl, ?_⟩
          cases ha2 : ((List.range N).map fun i => !decide (R k (k + 1 + i) = 0)).any id with
          | true =>
            refine ifT rfl ?_
            rw [List.any_eq_true] at ha2
            obtain ⟨b, hb, hb2⟩ := ha2
            obtain ⟨i, hi, rfl⟩ := List.mem_map.mp hb
            have hi2 := List.mem_range.mp hi
            have hne : R k (k + 1 + i) ≠ 0 := by simpa using hb2
            exact q2 H4 k S d B' ps (mt3.same.trans s4) hk run (.inr ⟨tz.mp c2, k + 1 + i, by omega, by omega, fun e => hne ((tie.zero (Nat.le_refl k) (by omega)).mpr e)⟩)
          | false =>
            refine ifF rfl ?_
            refine ⟨_, rfl, _, _, rfl, rfl, _, rfl, ifF (decide_eq_false (by omega)) ?_⟩
            have hz : ∀ p, k < p → p < n → R k p = 0 := fun p hp hpn => by
              rw [List.any_eq_false] at ha2
              have h := ha2 (!decide (R k (k + 1 + (p - (k + 1))) = 0)) (List.mem_map.mpr ⟨p - (k + 1), List.mem_range.mpr (by omega), rfl⟩)
              rw [show k + 1 + (p - (k + 1)) = p by omega] at h
              simpa using h
            have hrow := run_row jo.whole run (tz.mp c2) fun p hp hpn => (tie.zero (Nat.le_refl k) (by omega)).mp (hz p hp hpn)
            exact ⟨_, _, _, _, _, _, R, S, d, B', ps, rfl, mt3.keep s4, s4 _ _ hF3, run.skip hrow, tie.skip, out, fun i j hi hj => hB i j (by omega) (by omega)⟩
      refine ifF (int_ne c2) ?_
      have hpos : 0 < R k k := by omega
      refine ⟨_, rfl, _, _, rfl, rfl, _, rfl, ifT (decide_eq_true hpos) ?_⟩
      have hkB : 0 < B' k k := tp.mp hpos
      have hlen : (((ps.reverse.map fun p => (p.1 : Int)).map V.int)).length ≤ k := by
        have h1 := run.many
        rw [← run.leads, List.length_map] at h1
        rw [List.length_map, List.length_map, List.length_reverse]
        exact h1
      refine ⟨_, rfl, tyV_of hF3, _, rfl, F0, _, _, rfl, rfl, hF3, Nat.lt_of_lt_of_le (by omega : _ < 1001) (line_ge (by decide)), ?_⟩
      have mt4 := mt3.put (o := .lst ((ps.reverse.map fun p => (p.1 : Int)).map V.int ++ [.int (0 + (k : Int))])) hF00 apL apR
      have hD4 : upd H3 F0 (.lst ((ps.reverse.map fun p => (p.1 : Int)).map V.int ++ [.int (0 + (k : Int))])) D = some (.lst ((vec n (R k)).map V.int)) := by
        rw [upd_ne hDF]
        exact hD3
      have hF4 : upd H3 F0 (.lst ((ps.reverse.map fun p => (p.1 : Int)).map V.int ++ [.int (0 + (k : Int))])) F0 = some (.lst ((((k, B' k, d * B' k k) :: ps).reverse.map fun p => (p.1 : Int)).map V.int)) := by
        rw [upd_same, Int.zero_add]
        simp
      generalize upd H3 F0 (.lst ((ps.reverse.map fun p => (p.1 : Int)).map V.int ++ [.int (0 + (k : Int))])) = H4 at *
      have bR : ∀ i j, k ≤ i → k ≤ j → B 4475 (R i j) := fun i j hi hj => (hB i j hi hj).mono w1
      have bN : ∀ i j, k ≤ i → k ≤ j → B 8951 (El.numer R k i j) := fun i j hi hj => by
        have h1 := B.mul (bR k k (Nat.le_refl k) (Nat.le_refl k)) (bR i j hi hj)
        have h2 := B.mul (bR k i (Nat.le_refl k) hi) (bR k j (Nat.le_refl k) hj)
        have h3 := B.add h1 (y := -(R k i * R k j)) (by show (-(R k i * R k j)).natAbs < _; rw [Int.natAbs_neg]; exact h2)
        unfold El.numer
        rw [Int.sub_eq_add_neg]
        exact h3
      refine ⟨_, rfl, _, _, rfl, rfl, _, rfl, _, _, rfl, ⟨by omega, by omega, by omega, by omega⟩, ?_⟩
      refine for_range (lo := 0 + (k : Int) + 1) (n := ((n : Int) - (0 + (k : Int) + 1)).toNat) (fun t σ H5 => ∃ (v7 v9 : Option V) (g : Int), σ = [some (.ref a), some (.int n), some (.ref D), some (.ref L), some (.ref F0), some (.int (0 + (k : Int))), some (.int (R k k)), v7, some (.int g), v9] ∧
        MT H H5 L rs n (mixk k R (El.numer R k) (k + 1 + t) (k + 1)) ∧ El.Gcd (Made n k (k + 1 + t) (k + 1) R) g ∧ B 9000 g ∧ H5 D = some (.lst ((vec n (R k)).map V.int)) ∧ H5 F0 = some (.lst ((((k, B' k, d * B' k k) :: ps).reverse.map fun p => (p.1 : Int)).map V.int)))
        ⟨_, _, 0, rfl, by rw [Nat.add_zero, mixk_0]; exact mt4, El.Gcd.none made_0, by decide, hD4, hF4⟩ ?_ ?_
      · rintro t σ H5 ht ⟨v7, v9, g, rfl, mt5, gc, bg, hD5, hF5⟩
        refine ⟨_, rfl, _, _, rfl, rfl, _, rfl, _, _, rfl, ⟨by omega, by omega, by omega, by omega⟩, ?_⟩
        refine for_range (lo := 0 + (k : Int) + 1) (n := ((n : Int) - (0 + (k : Int) + 1)).toNat) (fun u σ H5 => ∃ (v7 : Option V) (g : Int), σ = [some (.ref a), some (.int n), some (.ref D), some (.ref L), some (.ref F0), some (.int (0 + (k : Int))), some (.int (R k k)), v7, some (.int g), some (.int (0 + (k : Int) + 1 + (t : Int)))] ∧
          MT H H5 L rs n (mixk k R (El.numer R k) (k + 1 + t) (k + 1 + u)) ∧ El.Gcd (Made n k (k + 1 + t) (k + 1 + u) R) g ∧ B 9000 g ∧ H5 D = some (.lst ((vec n (R k)).map V.int)) ∧ H5 F0 = some (.lst ((((k, B' k, d * B' k k) :: ps).reverse.map fun p => (p.1 : Int)).map V.int)))
          ⟨_, g, rfl, mt5, gc, bg, hD5, hF5⟩ ?_ ?_
        · clear mt5 gc bg hD5 hF5
          rintro u σ H6 hu ⟨v7, g, rfl, mt6, gc, bg, hD6, hF6⟩
          have hi : k + 1 + t < n := by omega
          have hj : k + 1 + u < n := by omega
          obtain ⟨pi, hpi1, hpi2⟩ := mt6.row (k + 1 + t) hi
          have ei : (0 + (k : Int) + 1 + (t : Int)).toNat = k + 1 + t := by omega
          have ej : (0 + (k : Int) + 1 + (u : Int)).toNat = k + 1 + u := by omega
          have ixi : atI (rs.map V.ref) (0 + (k : Int) + 1 + (t : Int)) = some (.ref pi) := at_pos (by omega) (by rw [ei, List.getElem?_map, hpi1]; rfl)
          refine ⟨_, rfl, _, rfl, _, rfl, L, _, _, _, rfl, rfl, SqL.of mt6.at_, ixi, _, rfl, pi, _, _, _, rfl, rfl, SqL.of hpi2, at_pos (by omega) (by rw [ej]; exact vecV_at hj), _, _, rfl, rfl, ?_⟩
          rw [mixk_at]
          refine ⟨wmul (bR k k (Nat.le_refl k) (Nat.le_refl k)) (bR _ _ (by omega) (by omega)) (by decide) (by decide) (by decide), ?_⟩
          refine ⟨_, rfl, _, rfl, D, _, _, _, rfl, rfl, SqL.of hD6, at_pos (by omega) (by rw [ei]; exact vecV_at hi), _, rfl, _, rfl, D, _, _, _, rfl, rfl, SqL.of hD6, at_pos (by omega) (by rw [ej]; exact vecV_at hj), _, _, rfl, rfl, wmul (bR k _ (Nat.le_refl k) (by omega)) (bR k _ (Nat.le_refl k) (by omega)) (by decide) (by decide) (by decide), _, _, rfl, rfl, ?_⟩
          refine ⟨_, rfl, _, rfl, L, _, _, _, rfl, rfl, SqL.of mt6.at_, ixi, _, rfl, pi, _, _, k + 1 + u, rfl, rfl, hpi2, by rw [vec_lenV]; unfold ixN; rw [if_pos (by omega), if_pos (by omega)]; congr 1, ?_⟩
          have mpi := List.mem_of_getElem? hpi1
          have st := (mt6.set (v := El.numer R k (k + 1 + t) (k + 1 + u)) hi hj hpi1).congr fun x y _ _ => mixk_put R (El.numer R k) (by omega) (by omega) x y
          have hD7 : upd H6 pi (.lst (((vec n (mixk k R (El.numer R k) (k + 1 + t) (k + 1 + u) (k + 1 + t))).map V.int).set (k + 1 + u) (.int (El.numer R k (k + 1 + t) (k + 1 + u))))) D = some (.lst ((vec n (R k)).map V.int)) := by
            rw [upd_ne (fun z => dpR (by rw [z]; exact mpi))]
            exact hD6
          have hF7 : upd H6 pi (.lst (((vec n (mixk k R (El.numer R k) (k + 1 + t) (k + 1 + u) (k + 1 + t))).map V.int).set (k + 1 + u) (.int (El.numer R k (k + 1 + t) (k + 1 + u))))) F0 = some (.lst ((((k, B' k, d * B' k k) :: ps).reverse.map fun p => (p.1 : Int)).map V.int)) := by
            rw [upd_ne (fun z => apR (by rw [z]; exact mpi))]
            exact hF6
          have hv7 : ((vec n (mixk k R (El.numer R k) (k + 1 + t) (k + 1 + (u + 1)) (k + 1 + t))).map V.int)[k + 1 + u]? = some (.int (El.numer R k (k + 1 + t) (k + 1 + u))) := by
            rw [vecV_at hj]
            unfold mixk
            rw [if_pos (by omega)]
          obtain ⟨pi', hpi1', hpi2'⟩ := st.row (k + 1 + t) hi
          rw [hpi1] at hpi1'
          cases hpi1'
          have hst := st
          have gc2 : El.Gcd (Made n k (k + 1 + t) (k + 1 + (u + 1)) R) (gI g (El.numer R k (k + 1 + t) (k + 1 + u))) := gc.more fun y => made_put (by omega) (by omega) hi hj y
          have bg2 : B 9000 (gI g (El.numer R k (k + 1 + t) (k + 1 + u))) := by
            by_cases z : El.numer R k (k + 1 + t) (k + 1 + u) = 0
            · rw [z]
              show (((Nat.gcd g.natAbs (0 : Int).natAbs : Nat) : Int)).natAbs < _
              rw [show (0 : Int).natAbs = 0 from rfl, Nat.gcd_zero_right]
              exact bg
            · have h1 : Nat.gcd g.natAbs (El.numer R k (k + 1 + t) (k + 1 + u)).natAbs ≤ (El.numer R k (k + 1 + t) (k + 1 + u)).natAbs := Nat.le_of_dvd (by omega) (Nat.gcd_dvd_right _ _)
              have h2 := (bN (k + 1 + t) (k + 1 + u) (by omega) (by omega)).mono (show 8951 ≤ 9000 by decide)
              exact Nat.lt_of_le_of_lt h1 h2
          refine ⟨_, rfl, rfl, _, rfl, ?_⟩
          by_cases g1 : g = 1
          · refine ifF (ne_F g1) ⟨_, g, rfl, hst, ?_, ?_, hD7, hF7⟩
            · have e : gI g (El.numer R k (k + 1 + t) (k + 1 + u)) = g := by rw [g1]; exact gI_unit _
              rw [e] at gc2
              exact gc2
            · exact bg
          · refine ifT (ne_T g1) ⟨_, rfl, _, rfl, _, rfl, L, _, _, _, rfl, rfl, SqL.of hst.at_, ixi, _, rfl, pi, _, _, _, rfl, rfl, SqL.of hpi2', at_pos (by omega) (by rw [ej]; exact hv7), g, _, rfl, (bN _ _ (by omega) (by omega)).mono (by decide), _, _, rfl, hst, gc2, bg2, hD7, hF7⟩
        · rintro σ H6 ⟨v7, g, rfl, mt6, gc, bg, hD6, hF6⟩
          have en : k + 1 + ((n : Int) - (0 + (k : Int) + 1)).toNat = n := by omega
          rw [en] at mt6 gc
          exact ⟨_, _, g, rfl, mt6.congr (mixk_row _ _ _ _ _), gc.cong made_row, bg, hD6, hF6⟩
      · rintro σ H5 ⟨v7, v9, g, rfl, mt5, gc, bg, hD5, hF5⟩
        have en : k + 1 + ((n : Int) - (0 + (k : Int) + 1)).toNat = n := by omega
        rw [en] at mt5 gc
        have gcN : El.Gcd (El.Nums n k R) g := gc.cong made_n
        have mt5' := mt5.congr (mixk_n _ _ _ _ _)
        obtain ⟨tie', bnd'⟩ := El.Tie.next (run.inv jo.whole.sym) hkB tie out g gcN
        have fin : ∀ H9, MT H H9 L rs n (El.next k R g) → H9 F0 = some (.lst ((((k, B' k, d * B' k k) :: ps).reverse.map fun p => (p.1 : Int)).map V.int)) → ∀ v7 v8 v9 : Option V, ∃ (v2 v5 v6 v7' v8' v9' : Option V) (R' : Nat → El.Row) (S : List Nat) (d : Int) (B' : Nat → El.Row) (ps : List El.Pv), [some (V.ref a), some (.int n), some (.ref D), some (.ref L), some (.ref F0), some (.int (0 + (k : Int))), some (.int (R k k)), v7, v8, v9] = [some (.ref a), some (.int n), v2, some (.ref L), some (.ref F0), v5, v6, v7', v8', v9'] ∧ MT H H9 L rs n R' ∧
            H9 F0 = some (.lst ((ps.reverse.map fun p => (p.1 : Int)).map V.int)) ∧ El.Run M (k + 1) S d B' ps ∧ El.Tie (k + 1) R' B' ∧ El.Out n R' ∧ ∀ i j, k + 1 ≤ i → k + 1 ≤ j → B w (R' i j) := fun H9 mt9 hF9 v7 v8 v9 => by
          refine ⟨_, _, _, v7, v8, v9, El.next k R g, _, _, _, _, rfl, mt9, hF9, .pivot run hkB, tie', El.next_out out, fun i j hi hj => ?_⟩
          by_cases c : i < n ∧ j < n
          · have b1 := bnd' i j (by omega) (by omega)
            have b2 := (run_bound jo.whole jo.bd1 jo.abs jo.bB (.pivot run hkB) (show k + 1 < n by omega)).1 i j
            exact Nat.lt_of_le_of_lt b1 b2
          · rw [El.next_out out i j (by omega)]
            exact Nat.two_pow_pos w
        refine ⟨_, rfl, _, _, rfl, rfl, _, rfl, ?_⟩
        by_cases g1 : 1 < g
        · refine ifT (decide_eq_true g1) ?_
          have en2 : (El.next k R g) = fun a b => if k < a ∧ k < b then (fun a b => El.numer R k a b / g) a b else (fun a b => if k < a ∧ k < b then El.numer R k a b else R a b) a b := by
            funext x y
            unfold El.next
            rw [if_pos g1]
            by_cases c : k < x ∧ k < y
            · rw [if_pos c, if_pos c]
            · rw [if_neg c, if_neg c]
              show R x y = if k < x ∧ k < y then El.numer R k x y else R x y
              rw [if_neg c]
          clear gc mt5
          refine ⟨_, rfl, _, _, rfl, rfl, _, rfl, _, _, rfl, ⟨by omega, by omega, by omega, by omega⟩, ?_⟩
          refine for_range (lo := 0 + (k : Int) + 1) (n := ((n : Int) - (0 + (k : Int) + 1)).toNat) (fun t σ H5 => ∃ (v7 v9 : Option V), σ = [some (.ref a), some (.int n), some (.ref D), some (.ref L), some (.ref F0), some (.int (0 + (k : Int))), some (.int (R k k)), v7, some (.int g), v9] ∧
            MT H H5 L rs n (mixk k (fun a b => if k < a ∧ k < b then El.numer R k a b else R a b) (fun a b => El.numer R k a b / g) (k + 1 + t) (k + 1)) ∧ H5 F0 = some (.lst ((((k, B' k, d * B' k k) :: ps).reverse.map fun p => (p.1 : Int)).map V.int)))
            ⟨_, _, rfl, by rw [Nat.add_zero, mixk_0]; exact mt5', hF5⟩ ?_ ?_
          · clear mt5' hF5
            rintro t σ H5 ht ⟨v7, v9, rfl, mt5, hF5⟩
            refine ⟨_, rfl, _, _, rfl, rfl, _, rfl, _, _, rfl, ⟨by omega, by omega, by omega, by omega⟩, ?_⟩
            refine for_range (lo := 0 + (k : Int) + 1) (n := ((n : Int) - (0 + (k : Int) + 1)).toNat) (fun u σ H5 => ∃ (v7 : Option V), σ = [some (.ref a), some (.int n), some (.ref D), some (.ref L), some (.ref F0), some (.int (0 + (k : Int))), some (.int (R k k)), v7, some (.int g), some (.int (0 + (k : Int) + 1 + (t : Int)))] ∧
              MT H H5 L rs n (mixk k (fun a b => if k < a ∧ k < b then El.numer R k a b else R a b) (fun a b => El.numer R k a b / g) (k + 1 + t) (k + 1 + u)) ∧ H5 F0 = some (.lst ((((k, B' k, d * B' k k) :: ps).reverse.map fun p => (p.1 : Int)).map V.int)))
              ⟨_, rfl, mt5, hF5⟩ ?_ ?_
            · clear mt5 hF5
              rintro u σ H6 hu ⟨v7, rfl, mt6, hF6⟩
              have hi : k + 1 + t < n := by omega
              have hj : k + 1 + u < n := by omega
              obtain ⟨pi, hpi1, hpi2⟩ := mt6.row (k + 1 + t) hi
              have ei : (0 + (k : Int) + 1 + (t : Int)).toNat = k + 1 + t := by omega
              have ej : (0 + (k : Int) + 1 + (u : Int)).toNat = k + 1 + u := by omega
              have ixi : atI (rs.map V.ref) (0 + (k : Int) + 1 + (t : Int)) = some (.ref pi) := at_pos (by omega) (by rw [ei, List.getElem?_map, hpi1]; rfl)
              refine ⟨_, rfl, _, rfl, L, _, _, _, rfl, rfl, SqL.of mt6.at_, ixi, _, rfl, pi, _, _, _, rfl, rfl, SqL.of hpi2, at_pos (by omega) (by rw [ej]; exact vecV_at hj), _, rfl, _, _, rfl, rfl, wdiv (by omega) (bg.mono (by decide)) (by decide) (show 9000 ≤ 9000 by decide), ?_⟩
              refine ⟨_, rfl, _, rfl, L, _, _, _, rfl, rfl, SqL.of mt6.at_, ixi, _, rfl, pi, _, _, k + 1 + u, rfl, rfl, hpi2, by rw [vec_lenV]; unfold ixN; rw [if_pos (by omega), if_pos (by omega)]; congr 1, ?_⟩
              rw [mixk_at, if_pos (by omega)]
              have mpi := List.mem_of_getElem? hpi1
              have st := (mt6.set (v := El.numer R k (k + 1 + t) (k + 1 + u) / g) hi hj hpi1).congr fun x y _ _ => mixk_put _ (fun a b => El.numer R k a b / g) (by omega) (by omega) x y
              refine ⟨_, rfl, st, ?_⟩
              rw [upd_ne (fun z => apR (by rw [z]; exact mpi))]
              exact hF6
            · rintro σ H6 ⟨v7, rfl, mt6, hF6⟩
              rw [en] at mt6
              exact ⟨_, _, rfl, mt6.congr (mixk_row _ _ _ _ _), hF6⟩
          · rintro σ H6 ⟨v7, v9, rfl, mt6, hF6⟩
            rw [en] at mt6
            exact fin H6 ((mt6.congr (mixk_n _ _ _ _ _)).congr fun x y _ _ => by rw [en2]) hF6 _ _ _
        · refine ifF (decide_eq_false g1) (fin H5 (mt5'.congr fun x y _ _ => ?_) hF5 _ _ _)
          unfold El.next
          rw [if_neg g1]
    · rintro σ H2 ⟨v2, v5, v6, v7, v8, v9, R, S, d, B', ps, rfl, mt2, hF2, run, _⟩
      exact ⟨_, rfl, q1 _ _ _ _ _ _ mt2.same run hF2⟩
end
end P10
set_option exponentiation.threshold 50000
namespace P10
open PySem PySem.Spec PyProof.Rows L2 SX EX WK
structure Frm (K : PySem.W.Frag) (mg : Str → Option Value) (cF : Addr) : Prop where
  g_Form : mg "Form" = some (.ref cF)
  kF : PySem.W.kitOne K (.ref cF) (.ref cF) = some true
  c1 : PySem.W.findIn K (.ref cF) "__class__" = some (some (.builtin "object.__class__"))
  c2 : PySem.W.specialIn K (.builtin "object.__class__") "__get__" = some (some (.builtin "getset_descriptor.__get__"))
  c3 : PySem.W.takesIn K (.builtin "object.__class__") = some true
  c4 : PySem.W.mroIn K cF (.type "object") = some true
theorem isForm {K : PySem.W.Frag} {mg : Str → Option Value} {cF : Addr} (U : Frm K mg cF) (cl : Cls K cF) {H : Hp} {p n : Nat} {m : List (List Int)} {b : Int} (h : FormAt K H cF p n m b) : TyX K H (.ref p) (.ref cF) := by
  obtain ⟨dx, e, h1, _⟩ := h
  exact .base (.ins h1 cl U.c1 U.c2 U.c3 U.c4)
theorem flat_at {n i : Nat} {g : Nat → Nat → Int} (hi : i < n) : ((mat n g).take (i + 1)).flatten = ((mat n g).take i).flatten ++ vec n (g i) := flat_take (mat_at hi)
section
variable {P : Program} {w : World} {K : PySem.W.Frag} {mg : Str → Option Value} {base : Heap} {f : Addr} {fd : FuncData} {cF cR : Addr}
def spIsForm (K : PySem.W.Frag) (cF : Addr) : Sp := fun vs H Q _ => ∃ (p : Addr) (n : Nat) (g : Nat → Nat → Int) (b : Int), vs = [.ref p, .int n] ∧ FormAt K H cF p n (mat n g) b ∧ n ≤ 1000 ∧ 1 ≤ b ∧ (∀ i j, i < n → j < n → B 20000 (g i j)) ∧ gf b (mat n g).flatten = 1 ∧ ∀ H', Same H H' → Q (.bl true) H'
abbrev s__law_is_form : Stmt := top 62
abbrev N__law_is_form : List Str := ["found", "size", "shared", "line", "number"]
theorem sc__law_is_form : FnScope N__law_is_form ["found", "size"] (defScope s__law_is_form) := ⟨rfl, rfl, rfl, by decide +kernel, rfl, by decide +kernel, by decide +kernel⟩
theorem ok__law_is_form (F : Fun K "_law_is_form" "_law_is_form" s__law_is_form f fd) (T : Txt mg) (O : Obs K cF cR) (V0 : Frm K mg cF) (C__law_whole : Cal P w K mg base 1 "_law_whole" ["value"] spLaw_whole) (C__law_is_point : Cal P w K mg base 2 "_law_is_point" ["value", "size"] (spIsPoint K))
    (C__law_gcd : Cal P w K mg base 1 "_law_gcd" ["one", "two"] spGcd) : FnOk P w K mg base CX0 3 f fd ["found", "size"] (spIsForm K cF) := by
  refine F.ok sc__law_is_form (fun vs H Q E h => ?_) (fun cdv A outer s H vs Q E hr h => ?_)
  · obtain ⟨p, n, g, b, rfl, _⟩ := h
    rfl
  obtain ⟨p, n, g, b, rfl, hp, hn, hb, bg, h1, q⟩ := h
  refine ⟨_, (pss_cons (ps_if (PW.pt (pw_or (pt_not (pt_val (pe_callB call_isi (by rfl) T.b_isinstance (by decide +kernel) (pa_cons (pv 0) (pa_cons (pe_glob (v := .ref _) rfl V0.g_Form rfl) pa_nil))))) (pw_or (pt_not (pt_val (pe_cal C__law_whole (hr.mono (by omega)) rfl (pa_cons (pe_fld (pv 0) rfl) pa_nil)))) (pw_or1 (pt_cmpR op_ne (pe_fld (pv 0) rfl) (pv 1) (nomark _)))))) (pss_one (ps_ret pe_bl)) pss_nil)
  (pss_cons (ps_if (PW.pt (pw_or (pt_not (pt_val (pe_cal C__law_whole (hr.mono (by omega)) rfl (pa_cons (pe_fld (pv 0) rfl) pa_nil)))) (pw_or1 (pt_cmpR op_lt (pe_fld (pv 0) rfl) pe_int (nomark _))))) (pss_one (ps_ret pe_bl)) pss_nil)
  (pss_cons (ps_if (PW.pt (pw_or (pt_not (pt_val (pe_callB call_isi (by rfl) T.b_isinstance (by decide +kernel) (pa_cons (pe_fld (pv 0) rfl) (pa_cons (pe_bltn (v := .ty "tuple") (by rfl) T.b_tuple (by decide +kernel) rfl) pa_nil))))) (pw_or1 (pt_cmpR op_ne (pe_callB call_len_seq (by rfl) T.b_len PySem.boot_len (pa_cons (pe_fld (pv 0) rfl) pa_nil)) (pv 1) (nomark _))))) (pss_one (ps_ret pe_bl)) pss_nil)
  (pss_cons (ps_set (i := 2) sc__law_is_form.nd rfl (Or.inl rfl) (pe_fld (pv 0) rfl))
  (pss_cons (ps_for PassesOwn.never rfl (pi_tup (pe_fld (pv 0) rfl)) (pg_name (i := 3) sc__law_is_form.nd rfl (Or.inl rfl)) (pss_cons (ps_if (pt_not (pt_val (pe_cal C__law_is_point (hr.mono (by omega)) rfl (pa_cons (pv 3) (pa_cons (pv 1) pa_nil))))) (pss_one (ps_ret pe_bl)) pss_nil)
  (pss_one (ps_for PassesOwn.never rfl (pi_tup (pv 3)) (pg_name (i := 4) sc__law_is_form.nd rfl (Or.inl rfl)) (pss_one (ps_if (pt_cmpR op_ne (pv 2) pe_int (nomark _)) (pss_one (ps_set (i := 2) sc__law_is_form.nd rfl (Or.inl rfl) (pe_cal C__law_gcd (hr.mono (by omega)) rfl (pa_cons (pv 2) (pa_cons (pv 4) pa_nil))))) pss_nil))))))
  (pss_one (ps_ret (pe_cmpR op_eq (pv 2) pe_int (nomark _))))))))), ?_⟩
  have ty := isForm V0 O.clF hp
  obtain ⟨dx, e, hi, hz⟩ := hp
  obtain ⟨a, vs, ea, he, hl, hrow⟩ := fz_mat hz
  cases ea
  rw [mat_len] at hl
  refine ⟨_, rfl, _, _, _, _, true, rfl, .own _, ty, V0.kF, true, rfl, ifF rfl ?_⟩
  refine ⟨_, rfl, p, cF, dx, _, _, rfl, hi, O.clF, O.F_size, lkFs _ _ _, _, rfl, true, rfl, ifF rfl ?_⟩
  refine ⟨_, rfl, p, cF, dx, _, _, rfl, hi, O.clF, O.F_size, lkFs _ _ _, _, rfl, rfl, _, rfl, ifF (ne_F rfl) ?_⟩
  refine ⟨_, rfl, p, cF, dx, _, _, rfl, hi, O.clF, O.F_bottom, lkFb _ _ _, _, rfl, true, rfl, ifF rfl ?_⟩
  refine ⟨_, rfl, p, cF, dx, _, _, rfl, hi, O.clF, O.F_bottom, lkFb _ _ _, _, _, rfl, rfl, _, rfl, ifF (decide_eq_false (by omega)) ?_⟩
  refine ⟨_, rfl, p, cF, dx, _, _, rfl, hi, O.clF, O.F_entries, lkFe _ _ _, _, _, _, _, true, rfl, .ty _, ty_tup he, kit6, true, rfl, ifF rfl ?_⟩
  refine ⟨_, rfl, p, cF, dx, _, _, rfl, hi, O.clF, O.F_entries, lkFe _ _ _, e, vs, rfl, .inr he, _, rfl, rfl, _, rfl, ifF (ne_F (by rw [hl])) ?_⟩
  refine ⟨_, rfl, p, cF, dx, _, _, rfl, hi, O.clF, O.F_bottom, lkFb _ _ _, ?_⟩
  refine ⟨_, rfl, p, cF, dx, _, _, rfl, hi, O.clF, O.F_entries, lkFe _ _ _, e, rfl, ⟨_, he⟩, for_tup (K := K) (a := e) (xs := vs) (fun i σ H' => ∃ v3 v4 : Option V, σ = [some (.ref p), some (.int n), some (.int (gf b ((mat n g).take i).flatten)), v3, v4] ∧ Same H H') ⟨none, none, rfl, fun _ _ h => h⟩ (fun i σ H' _ ⟨_, _, _, s⟩ => Same_seqT s he) ?_ ?_⟩
  · rintro i x σ H1 hx ⟨v3, v4, rfl, s1⟩
    have hi1 : i < n := by
      have := (List.getElem?_eq_some_iff.mp hx).1
      omega
    obtain ⟨r, hr1, hr2⟩ := hrow i _ (mat_at hi1)
    rw [hx] at hr1
    cases hr1
    refine ⟨_, rfl, _, rfl, r, n, g i, rfl, Same_seqT s1 hr2, hn, fun H2 s2 => ⟨true, rfl, ifF rfl ?_⟩⟩
    have s12 := s1.trans s2
    refine ⟨_, rfl, r, rfl, ⟨_, Same_seqT s12 hr2⟩, for_tup (K := K) (a := r) (xs := (vec n (g i)).map V.int) (fun j σ H' => ∃ v4 : Option V, σ = [some (.ref p), some (.int n), some (.int (gf b (((mat n g).take i).flatten ++ (vec n (g i)).take j))), some (.ref r), v4] ∧ Same H H') ⟨v4, by rw [List.take_zero, List.append_nil]; rfl, s12⟩ (fun j σ H' _ ⟨_, _, s⟩ => Same_seqT s hr2) ?_ ?_⟩
    · rintro j x σ H3 hx3 ⟨v4, rfl, s3⟩
      have hj1 : j < n := by
        have := (List.getElem?_eq_some_iff.mp hx3).1
        rw [vec_lenV] at this
        exact this
      rw [vecV_at hj1] at hx3
      cases hx3
      have e1 : gf b (((mat n g).take i).flatten ++ (vec n (g i)).take (j + 1)) = gI (gf b (((mat n g).take i).flatten ++ (vec n (g i)).take j)) (g i j) := by
        rw [take_one (vec_at hj1), ← List.append_assoc, gf_snoc]
      refine ⟨_, rfl, rfl, _, rfl, ?_⟩
      by_cases h0 : gf b (((mat n g).take i).flatten ++ (vec n (g i)).take j) = 1
      · refine ifF (ne_F h0) ⟨some (.int (g i j)), ?_, s3⟩
        rw [e1, h0, gI_unit]
        rfl
      · refine ifT (ne_T h0) ⟨_, rfl, _, rfl, _, _, rfl, (bg i j hi1 hj1).mono (by decide), some (.int (g i j)), ?_, s3⟩
        rw [e1]
        rfl
    · rintro σ H3 ⟨v4, rfl, s3⟩
      refine ⟨some (.ref r), v4, ?_, s3⟩
      have ev : (vec n (g i)).take n = vec n (g i) := List.take_of_length_le (by rw [vec_len]; exact Nat.le_refl _)
      rw [vec_lenV, ev, flat_at hi1]
  · rintro σ H1 ⟨v3, v4, rfl, s1⟩
    refine ⟨_, rfl, rfl, ?_⟩
    rw [hl, List.take_of_length_le (by rw [mat_len]; exact Nat.le_refl _), h1]
    exact q H1 s1
def spFormIs (K : PySem.W.Frag) (cF : Addr) : Sp := fun vs H Q _ => ∃ (p a : Addr) (n : Nat) (g T : Nat → Nat → Int) (b u : Int), vs = [.ref p, .ref a, .int u] ∧ FormAt K H cF p n (mat n g) b ∧ LTab H a n T ∧ n ≤ 1000 ∧ 1 ≤ b ∧ B 20000 b ∧ gf b (mat n g).flatten = 1 ∧ (∀ i j, i < n → j < n → B 20000 (g i j)) ∧ (∀ i j, i < n → j < n → g i j * u = T i j * b) ∧ B 20000 u ∧ (∀ i j, i < n → j < n → B 20000 (T i j)) ∧ ∀ H', Same H H' → Q (.bl true) H'
abbrev s__law_form_is : Stmt := top 63
abbrev N__law_form_is : List Str := ["found", "table", "under", "size", "i", "j"]
theorem sc__law_form_is : FnScope N__law_form_is ["found", "table", "under"] (defScope s__law_form_is) := ⟨rfl, rfl, rfl, by decide +kernel, rfl, by decide +kernel, by decide +kernel⟩
theorem ok__law_form_is (F : Fun K "_law_form_is" "_law_form_is" s__law_form_is f fd) (T : Txt mg) (O : Obs K cF cR) (C__law_is_form : Cal P w K mg base 3 "_law_is_form" ["found", "size"] (spIsForm K cF)) : FnOk P w K mg base CX0 4 f fd ["found", "table", "under"] (spFormIs K cF) := by
  refine F.ok sc__law_form_is (fun vs H Q E h => ?_) (fun cdv A outer s H vs Q E hr h => ?_)
  · obtain ⟨p, a, n, g, M, b, u, rfl, _⟩ := h
    rfl
  obtain ⟨p, a, n, g, M, b, u, rfl, hp, ht, hn, hb1, hbb, hone, hfb, his, hu, bT, q⟩ := h
  refine ⟨_, (pss_cons (ps_set (i := 3) sc__law_form_is.nd rfl (Or.inl rfl) (pe_callB call_len_seq (by rfl) T.b_len PySem.boot_len (pa_cons (pv 1) pa_nil)))
  (pss_cons (ps_if (pt_not (pt_val (pe_cal C__law_is_form (hr.mono (by omega)) rfl (pa_cons (pv 0) (pa_cons (pv 3) pa_nil))))) (pss_one (ps_ret pe_bl)) pss_nil)
  (pss_cons (ps_for PassesOwn.never rfl (pi_range1 (by rfl) T.b_range (pa_cons (pv 3) pa_nil)) (pg_name (i := 4) sc__law_form_is.nd rfl (Or.inl rfl)) (pss_one (ps_for PassesOwn.never rfl (pi_range1 (by rfl) T.b_range (pa_cons (pv 3) pa_nil)) (pg_name (i := 5) sc__law_form_is.nd rfl (Or.inl rfl)) (pss_one (ps_if (pt_cmpR op_ne (pe_op op_mulW (pe_ix ix_tup (pe_ix ix_tup (pe_fld (pv 0) rfl) (pv 4) (fun _ _ => rfl)) (pv 5) (fun _ _ => rfl)) (pv 2)) (pe_op op_mulW (pe_ix ix_list /-?-/ (pe_ix ix_list (pv 1) (pv 4) (fun _ _ => rfl)) (pv 5) (fun _ _ => rfl)) (pe_fld (pv 0) rfl)) (nomark _)) (pss_one (ps_ret pe_bl)) pss_nil)))))
  (pss_one (ps_ret pe_bl))))), ?_⟩
  obtain ⟨ws, ha, hla, hrowa⟩ := ht.at
  refine ⟨_, rfl, _, _, rfl, .inl (SqL.of ha), ?_⟩
  rw [hla]
  refine ⟨_, rfl, _, rfl, p, n, g, b, rfl, hp, hn, hb1, hfb, hone, fun H1 s1 => ⟨true, rfl, ifF rfl ?_⟩⟩
  obtain ⟨dx, e, hi, hz⟩ := hp
  obtain ⟨a2, vs, ea, he, hl, hrow⟩ := fz_mat hz
  cases ea
  refine ⟨_, rfl, (n : Int), rfl, by omega, by omega, for_range (lo := 0) (n := n) (fun i σ H' => ∃ v4 v5 : Option V, σ = [some (.ref p), some (.ref a), some (.int u), some (.int n), v4, v5] ∧ Same H H') ⟨none, none, rfl, s1⟩ ?_ ?_⟩
  · rintro i σ H2 hi1 ⟨v4, v5, rfl, s2⟩
    refine ⟨_, rfl, (n : Int), rfl, by omega, by omega, for_range (lo := 0) (n := n) (fun j σ H' => ∃ v5 : Option V, σ = [some (.ref p), some (.ref a), some (.int u), some (.int n), some (.int (0 + (i : Int))), v5] ∧ Same H H') ⟨v5, rfl, s2⟩ ?_ ?_⟩
    · rintro j σ H3 hj1 ⟨v5, rfl, s3⟩
      obtain ⟨r, hr1, hr2⟩ := hrow i _ (mat_at hi1)
      obtain ⟨r3, hr3, hr4⟩ := hrowa i hi1
      have ei : (0 + (i : Int)).toNat = i := by omega
      refine ⟨_, rfl, p, cF, dx, _, _, rfl, s3 _ _ hi, O.clF, O.F_entries, lkFe _ _ _, _, rfl, e, _, _, _, rfl, rfl, Same_seqT s3 he, at_pos (by omega) (by rw [ei]; exact hr1), _, rfl, r, _, _, _, rfl, rfl, Same_seqT s3 hr2, ixv hj1, _, rfl, _, _, rfl, rfl, wmul (hfb i j hi1 hj1) hu (by decide) (by decide) (by decide), ?_⟩
      refine ⟨_, rfl, _, rfl, a, _, _, _, rfl, rfl, SqL.of (s3 _ _ ha), at_pos (by omega) (by rw [ei]; exact hr3), _, rfl, r3, _, _, _, rfl, rfl, SqL.of (s3 _ _ hr4), ixv hj1, _, rfl, p, cF, dx, _, _, rfl, s3 _ _ hi, O.clF, O.F_bottom, lkFb _ _ _, _, _, rfl, rfl, wmul (bT i j hi1 hj1) hbb (by decide) (by decide) (by decide), rfl, _, rfl, ifF (ne_F (his i j hi1 hj1)) ⟨some (.int (0 + (j : Int))), rfl, s3⟩⟩
    · rintro σ H3 ⟨v5, rfl, s3⟩
      exact ⟨some (.int (0 + (i : Int))), v5, rfl, s3⟩
  · rintro σ H2 ⟨v4, v5, rfl, s2⟩
    exact q H2 s2
def spIsInv (K : PySem.W.Frag) (cF : Addr) : Sp := fun vs H Q _ => ∃ (p a la : Addr) (n : Nat) (X T : Nat → Nat → Int) (b u : Int) (Ld : List Nat) (ls : List Int), vs = [.ref p, .ref a, .int u, .ref la] ∧ FormAt K H cF p n (mat n X) b ∧ LTab H a n T ∧ H la = some (.lst (ls.map V.int)) ∧ (∀ i : Nat, (0 + (i : Int)) ∈ ls ↔ i ∈ Ld) ∧ n ≤ 10 ∧ 1 ≤ b ∧ B 6000 b ∧ gf b (mat n X).flatten = 1 ∧ (∀ i j, i < n → j < n → B 6000 (X i j)) ∧ (∀ i j, i < n → j < n → B 150 (T i j)) ∧ B 150 u ∧
  (∀ i j, X i j = X j i) ∧ (∀ i j, i ∉ Ld → X i j = 0) ∧ (∀ i j, i < n → j < n → El.sw n T X i j = u * b * T i j) ∧ (∀ i j, i < n → j < n → El.sw n X T i j = u * b * X i j) ∧ ∀ H', Same H H' → Q (.bl true) H'
abbrev s__law_is_inverse : Stmt := top 64
abbrev N__law_is_inverse : List Str := ["found", "table", "under", "leads_v", "size", "i", "j", "scale", "here", "back", "number"]
theorem sc__law_is_inverse : FnScope N__law_is_inverse ["found", "table", "under", "leads_v"] (defScope s__law_is_inverse) := ⟨rfl, rfl, rfl, by decide +kernel, rfl, by decide +kernel, by decide +kernel⟩
theorem ok__law_is_inverse (F : Fun K "_law_is_inverse" "_law_is_inverse" s__law_is_inverse f fd) (T : Txt mg) (O : Obs K cF cR) (C__law_sandwich : Cal P w K mg base 2 "_law_sandwich" ["outer", "inner"] (spSw K)) (C__law_is_form : Cal P w K mg base 3 "_law_is_form" ["found", "size"] (spIsForm K cF)) : FnOk P w K mg base CX0 4 f fd ["found", "table", "under", "leads_v"] (spIsInv K cF) := by
  refine F.ok sc__law_is_inverse (fun vs H Q E h => ?_) (fun cdv A outer s H vs Q E hr h => ?_)
  · obtain ⟨p, a, la, n, X, M, b, u, Ld, ls, rfl, _⟩ := h
    rfl
  obtain ⟨p, a, la, n, X, M, b, u, Ld, ls, rfl, hp, ht, hla, hmem, hn, hb1, hbB, hone, xB, mB, uB, sy, hz0, hE, hK, q⟩ := h
  refine ⟨_, (pss_cons (ps_set (i := 4) sc__law_is_inverse.nd rfl (Or.inl rfl) (pe_callB call_len_seq (by rfl) T.b_len PySem.boot_len (pa_cons (pv 1) pa_nil)))
  (pss_cons (ps_if (pt_not (pt_val (pe_cal C__law_is_form (hr.mono (by omega)) rfl (pa_cons (pv 0) (pa_cons (pv 4) pa_nil))))) (pss_one (ps_ret pe_bl)) pss_nil)
  (pss_cons (ps_for PassesOwn.never rfl (pi_range1 (by rfl) T.b_range (pa_cons (pv 4) pa_nil)) (pg_name (i := 5) sc__law_is_inverse.nd rfl (Or.inl rfl)) (C8.pss_cut (ps_if (PW.pt (pw_and (pt_cmpR op_notIn_seq (pv 5) (pv 3) (by rfl)) (pw_and1 (pt_val (pe_callB (cr_any rfl) (by rfl) T.b_any (by decide +kernel) (pa_cons (pe_lc (own := [("number", 10)]) (g := gName 10) (tt := tYes) (by rfl) sc__law_is_inverse.nd (pi_tup (pe_ix ix_tup (pe_fld (pv 0) rfl) (pv 5) (fun _ _ => rfl))) (blkOk_by (N := N__law_is_inverse) (sc := defScope s__law_is_inverse) (by decide +kernel)) (fun _ _ _ _ _ => (pg_name (i := 10) sc__law_is_inverse.nd rfl (Or.inl rfl))) (fun _ _ _ _ _ => pts_nil) (fun _ _ _ _ _ => (pe_cmpR op_ne (pv 10) pe_int (nomark _)))) pa_nil)))))) (pss_one (ps_ret pe_bl)) pss_nil)
  (pss_one (ps_for PassesOwn.never rfl (pi_range1 (by rfl) T.b_range (pa_cons (pv 5) pa_nil)) (pg_name (i := 6) sc__law_is_inverse.nd rfl (Or.inl rfl)) (pss_one (ps_if (pt_cmpR op_ne (pe_ix ix_tup (pe_ix ix_tup (pe_fld (pv 0) rfl) (pv 5) (fun _ _ => rfl)) (pv 6) (fun _ _ => rfl)) (pe_ix ix_tup (pe_ix ix_tup (pe_fld (pv 0) rfl) (pv 6) (fun _ _ => rfl)) (pv 5) (fun _ _ => rfl)) (nomark _)) (pss_one (ps_ret pe_bl)) pss_nil))))))
  (pss_cons (ps_set (i := 7) sc__law_is_inverse.nd rfl (Or.inl rfl) (pe_op op_mulW (pv 2) (pe_fld (pv 0) rfl)))
  (pss_cons (ps_set (i := 8) sc__law_is_inverse.nd rfl (Or.inl rfl) (pe_cal C__law_sandwich (hr.mono (by omega)) rfl (pa_cons (pv 1) (pa_cons (pe_fld (pv 0) rfl) pa_nil))))
  (pss_cons (ps_set (i := 9) sc__law_is_inverse.nd rfl (Or.inl rfl) (pe_cal C__law_sandwich (hr.mono (by omega)) rfl (pa_cons (pe_fld (pv 0) rfl) (pa_cons (pv 1) pa_nil))))
  (pss_cons (ps_for PassesOwn.never rfl (pi_range1 (by rfl) T.b_range (pa_cons (pv 4) pa_nil)) (pg_name (i := 5) sc__law_is_inverse.nd rfl (Or.inl rfl)) (pss_one (ps_for PassesOwn.never rfl (pi_range1 (by rfl) T.b_range (pa_cons (pv 4) pa_nil)) (pg_name (i := 6) sc__law_is_inverse.nd rfl (Or.inl rfl)) (pss_one (ps_if (PW.pt (pw_or (pt_cmpR op_ne (pe_ix ix_list /-?-/ (pe_ix ix_list (pv 8) (pv 5) (fun _ _ => rfl)) (pv 6) (fun _ _ => rfl)) (pe_op op_mulW (pv 7) (pe_ix ix_list /-?-/ (pe_ix ix_list (pv 1) (pv 5) (fun _ _ => rfl)) (pv 6) (fun _ _ => rfl))) (nomark _)) (pw_or1 (pt_cmpR op_ne (pe_ix ix_list /-?-/ (pe_ix ix_list (pv 9) (pv 5) (fun _ _ => rfl)) (pv 6) (fun _ _ => rfl)) (pe_op op_mulW (pv 7) (pe_ix ix_tup (pe_ix ix_tup (pe_fld (pv 0) rfl) (pv 5) (fun _ _ => rfl)) (pv 6) (fun _ _ => rfl))) (nomark _))))) (pss_one (ps_ret pe_bl)) pss_nil)))))
  (pss_one (ps_ret pe_bl))))))))), ?_⟩
  obtain ⟨ws, ha, hla', hrowa⟩ := ht.at
  refine ⟨_, rfl, _, _, rfl, .inl (SqL.of ha), ?_⟩
  rw [hla']
  refine ⟨_, rfl, _, rfl, p, n, X, b, rfl, hp, by omega, hb1, fun i j hi hj => (xB i j hi hj).mono (by decide), hone, fun H1 s1 => ⟨true, rfl, ifF rfl ?_⟩⟩
  obtain ⟨dx, e, hi, hz⟩ := hp
  obtain ⟨a2, vs, ea, he, hl, hrow⟩ := fz_mat hz
  cases ea
  have i0 : ∀ i : Nat, (0 + (i : Int)).toNat = i := fun i => by omega
  have row : ∀ i, i < n → ∃ r, vs[i]? = some (.ref r) ∧ SqT K H r ((vec n (X i)).map V.int) := fun i hi => hrow i _ (mat_at hi)
  refine ⟨_, rfl, (n : Int), rfl, by omega, by omega, for_range (lo := 0) (n := n) (fun i σ H' => ∃ v5 v6 : Option V, σ = [some (.ref p), some (.ref a), some (.int u), some (.ref la), some (.int n), v5, v6, none, none, none, none] ∧ Same H H') ⟨none, none, rfl, s1⟩ ?_ ?_⟩
  · rintro i σ H2 hi1 ⟨v5, v6, rfl, s2⟩
    obtain ⟨r, hr1, hr2⟩ := row i hi1
    refine ⟨fun σ' H' => σ' = [some (.ref p), some (.ref a), some (.int u), some (.ref la), some (.int n), some (.int (0 + (i : Int))), v6, none, none, none, none] ∧ Same H H', ?_, ?_⟩
    · refine ⟨_, rfl, _, rfl, la, _, rfl, .inl (SqL.of (s2 _ _ hla)), rfl, flat_ints _, _, rfl, ite2 (fun c => ?_) (fun _ => ⟨rfl, s2⟩)⟩
      rw [if_pos rfl, inV_ints] at c
      have iL : i ∉ Ld := fun m => by
        rw [decide_eq_true ((hmem i).mpr m)] at c
        cases c
      refine ⟨_, rfl, p, cF, dx, _, _, rfl, s2 _ _ hi, O.clF, O.F_entries, lkFe _ _ _, _, rfl, e, _, _, _, rfl, rfl, Same_seqT s2 he, at_pos (by omega) (by rw [i0]; exact hr1), r, rfl, ⟨_, Same_seqT s2 hr2⟩, fun D2 hD2 => ?_⟩
      refine lc_m (walk_tup (K := K) (a := r) (xs := (vec n (X i)).map V.int)) RB (stb_RB (K := K)) (List.range n) (by rw [vec_lenV, List.length_range]) (by rw [List.length_range]; omega) hD2 (fun H' s => Same_seqT (s2.trans s) hr2) (fun _ _ _ _ => ys_at) (fun _ => false) (fun c j v H3 H4 hc s3 s4 yl A B hA => ?_) (fun H3 l s3 hl3 rz => ?_)
      · obtain ⟨hj, rfl⟩ := in_range hc
        have e' := yl.2
        rw [vecV_at hj] at e'
        cases e'
        refine ⟨rfl, lc_yes ⟨_, rfl, rfl, hA _ _ (fun _ _ h => h) ?_⟩⟩
        show V.bl _ = V.bl _
        rw [hz0 i j iL, decide_eq_true rfl]
        rfl
      · refine ⟨D2, _, rfl, SqL.of (by rw [hl3, rz.bls]), _, rfl, ?_⟩
        have e1 : ((List.range n).map fun _ => false).any id = false := by
          rw [List.any_eq_false]
          intro x hx
          obtain ⟨_, _, rfl⟩ := List.mem_map.mp hx
          decide
        rw [e1]
        exact ifF rfl ⟨rfl, s2.trans s3⟩
    rintro σ H3 ⟨rfl, s3⟩
    refine ⟨_, rfl, 0 + (i : Int), rfl, by omega, by omega, for_range (lo := 0) (n := (0 + (i : Int)).toNat) (fun j σ H' => ∃ v6 : Option V, σ = [some (.ref p), some (.ref a), some (.int u), some (.ref la), some (.int n), some (.int (0 + (i : Int))), v6, none, none, none, none] ∧ H' = H3) ⟨v6, rfl, rfl⟩ ?_ ?_⟩
    · rintro j σ H4 hj ⟨v6, rfl, rfl⟩
      have hjn : j < n := by omega
      obtain ⟨r2, hr3, hr4⟩ := row j hjn
      refine ⟨_, rfl, p, cF, dx, _, _, rfl, s3 _ _ hi, O.clF, O.F_entries, lkFe _ _ _, _, rfl, e, _, _, _, rfl, rfl, Same_seqT s3 he, at_pos (by omega) (by rw [i0]; exact hr1), _, rfl, r, _, _, _, rfl, rfl, Same_seqT s3 hr2, ixv hjn, ?_⟩
      refine ⟨_, rfl, p, cF, dx, _, _, rfl, s3 _ _ hi, O.clF, O.F_entries, lkFe _ _ _, _, rfl, e, _, _, _, rfl, rfl, Same_seqT s3 he, at_pos (by omega) (by rw [i0]; exact hr3), _, rfl, r2, _, _, _, rfl, rfl, Same_seqT s3 hr4, ixv hi1, rfl, _, rfl, ifF (ne_F (sy i j)) ⟨_, rfl, rfl⟩⟩
    · rintro σ H4 ⟨v6, rfl, rfl⟩
      exact ⟨_, _, rfl, s3⟩
  · rintro σ H2 ⟨v5, v6, rfl, s2⟩
    have ubB : B 6150 (u * b) := (P10.B.mul uB hbB).mono (by decide)
    refine ⟨_, rfl, _, rfl, p, cF, dx, _, _, rfl, s2 _ _ hi, O.clF, O.F_bottom, lkFb _ _ _, _, _, rfl, rfl, wmul uB hbB (by decide) (by decide) (by decide), ?_⟩
    have rowT : ∀ H', Same H H' → ∀ j, j < n → ∃ v, ws[j]? = some v ∧ Sn K H' v (tv n (M j)) := fun H' s j hj => by
      obtain ⟨r, h1, h2⟩ := hrowa j hj
      exact ⟨_, h1, .lst (s _ _ h2) ((FzAll.of_ints _).sn)⟩
    have rowX : ∀ H', Same H H' → ∀ j, j < n → ∃ v, vs[j]? = some v ∧ Sn K H' v (tv n (X j)) := fun H' s j hj => by
      obtain ⟨r, h1, h2⟩ := row j hj
      exact ⟨_, h1, .tup (Same_seqT s h2) ((FzAll.of_ints _).sn)⟩
    rw [mat_len] at hl
    refine ⟨_, rfl, _, rfl, p, cF, dx, _, _, rfl, s2 _ _ hi, O.clF, O.F_entries, lkFe _ _ _, .non, .non, n, 150, 6000, M, X, ws, vs, a, e, rfl, .inl (SqL.of (s2 _ _ ha)), .inr (Same_seqT s2 he), hla', hl, rowT H2 s2, rowX H2 s2, hn, by decide, by decide, by decide, mB, xB, fun h1 H3 s3 hh1 => ?_⟩
    have s23 := s2.trans s3
    refine ⟨_, rfl, p, cF, dx, _, _, rfl, s23 _ _ hi, O.clF, O.F_entries, lkFe _ _ _, _, rfl, .non, .non, n, 6000, 150, X, M, vs, ws, e, a, rfl, .inr (Same_seqT s23 he), .inl (SqL.of (s23 _ _ ha)), hl, hla', rowX H3 s23, rowT H3 s23, hn, by decide, by decide, by decide, xB, mB, fun h2 H4 s4 hh2 => ?_⟩
    have s24 := s23.trans s4
    have hh1' := LTab.same s4 hh1
    obtain ⟨us1, g1, g2, g3⟩ := hh1'.at
    obtain ⟨us2, f1, f2, f3⟩ := hh2.at
    refine ⟨_, rfl, (n : Int), rfl, by omega, by omega, for_range (lo := 0) (n := n) (fun i σ H' => ∃ v5 v6 : Option V, σ = [some (.ref p), some (.ref a), some (.int u), some (.ref la), some (.int n), v5, v6, some (.int (u * b)), some (.ref h1), some (.ref h2), none] ∧ H' = H4) ⟨v5, v6, rfl, rfl⟩ ?_ ?_⟩
    · rintro i σ H5 hi1 ⟨v5, v6, rfl, hH⟩
      obtain rfl : H4 = H5 := hH.symm
      refine ⟨_, rfl, (n : Int), rfl, by omega, by omega, for_range (lo := 0) (n := n) (fun j σ H' => ∃ v6 : Option V, σ = [some (.ref p), some (.ref a), some (.int u), some (.ref la), some (.int n), some (.int (0 + (i : Int))), v6, some (.int (u * b)), some (.ref h1), some (.ref h2), none] ∧ H' = H4) ⟨v6, rfl, rfl⟩ ?_ ?_⟩
      · rintro j σ H5 hj1 ⟨v6, rfl, hH⟩
        obtain rfl : H4 = H5 := hH.symm
        obtain ⟨r1, k1, k2⟩ := g3 i hi1
        obtain ⟨r2, k3, k4⟩ := hrowa i hi1
        obtain ⟨r3, k5, k6⟩ := f3 i hi1
        obtain ⟨r4, k7, k8⟩ := row i hi1
        refine ⟨_, rfl, _, rfl, h1, _, _, _, rfl, rfl, SqL.of g1, at_pos (by omega) (by rw [i0]; exact k1), _, rfl, r1, _, _, _, rfl, rfl, SqL.of k2, ixv hj1, _, rfl, _, rfl, _, rfl, a, _, _, _, rfl, rfl, SqL.of (s24 _ _ ha), at_pos (by omega) (by rw [i0]; exact k3), _, rfl, r2, _, _, _, rfl, rfl, SqL.of (s24 _ _ k4), ixv hj1, _, _, rfl, rfl, wmul ubB (mB i j hi1 hj1) (by decide) (by decide) (by decide), rfl, _, rfl, ifF (ne_F (hE i j hi1 hj1)) ?_⟩
        exact ⟨_, rfl, _, rfl, h2, _, _, _, rfl, rfl, SqL.of f1, at_pos (by omega) (by rw [i0]; exact k5), _, rfl, r3, _, _, _, rfl, rfl, SqL.of k6, ixv hj1, _, rfl, _, rfl, p, cF, dx, _, _, rfl, s24 _ _ hi, O.clF, O.F_entries, lkFe _ _ _, _, rfl, e, _, _, _, rfl, rfl, Same_seqT s24 he, at_pos (by omega) (by rw [i0]; exact k7), _, rfl, r4, _, _, _, rfl, rfl, Same_seqT s24 k8, ixv hj1, _, _, rfl, rfl, wmul ubB (xB i j hi1 hj1) (by decide) (by decide) (by decide), rfl, _, rfl, ifF (ne_F (hK i j hi1 hj1)) ⟨_, rfl, rfl⟩⟩
      · rintro σ H5 ⟨v6, rfl, rfl⟩
        exact ⟨_, v6, rfl, rfl⟩
    · rintro σ H5 ⟨v5, v6, rfl, rfl⟩
      exact q _ s24
end
end P10
/-! Loops, comprehensions, sums while an exception is handled. -/
namespace HO
open PySem PySem.Spec PyProof.Rows L2 HotX L2H
section
variable {prog : Program} {w : World} {A : Around} {E : Value → Shared → Prop} {s : Shared}
theorem pyNext_tuple_end_hot {it t x1 : Addr} {i : Nat} {items : Array Value} {Q : Option Value → Shared → Prop} (hot : HotAt A x1 s.heap) (hne : x1 ≠ it) (hit : s.heap.IsTupleIter it t i) (ht : s.heap.IsTuple t items) (hx : items[i]? = none)
    (hQ : ∀ h', (∀ b o, b ≠ it → s.heap.get? b = some o → h'.get? b = some o) → Q none { s with heap := h' }) : wpAny (model prog w) A (pyNext (.ref it)) Q E s := by
  obtain ⟨hh, o1, vs1, h1, d1, c1⟩ := hot
  obtain ⟨o, ho, hc, hd⟩ := id hit
  obtain ⟨ol, hol, _, nl, hdl⟩ := ht
  unfold pyNext
  refine wpAny_bind (wpAny_attempt (wpAny_callSpecial?_slot (name := Str.ofString "__next__") hit.typeIs F.slot_tuple_iterator_next
    (wpAny_call_entry F.slot_tuple_iterator_next hit.typeIs F.entry_tuple_iterator_next ?_ (F.args_tuple_iterator_next_1 _))))
  show wpAny _ _ (field (.ref it) 0 >>= _) _ _ s
  refine wpAny_bind (wpAny_field ho hd (x := .ref t) rfl ?_)
  show wpAny _ _ (if (Value.ref t == Value.none) = true then _ else _) _ _ s
  rw [if_neg (show ¬ ((Value.ref t == Value.none) = true) from Bool.false_ne_true)]
  show wpAny _ _ (field (.ref it) 1 >>= _) _ _ s
  refine wpAny_bind (wpAny_field ho hd (x := .int i 0) rfl ?_)
  show wpAny _ _ (seqItems? (.ref t) >>= _) _ _ s
  refine wpAny_bind (wpAny_seqItems hol hdl ?_)
  simp only [Int.toNat_natCast, hx]
  refine wpAny_bind (wpAny_rule (wpAny_bind (wpAny_setField ho hd (by simp) ?_)))
  show wpAny _ _ (newExc (.type "StopIteration") [] >>= _) _ _ _
  refine wpAny_bind ?_
  simp only [newExc, newTuple]
  refine wpAny_bind (wpAny_newObj_type ?_ (by size_fits))
  refine wpAny_bind (m := firstArgMember _ _) (wpAny_of_eq (a := Value.none) (by first | rfl | (simp only [firstArgMember]; rfl)) ?_)
  refine wpAny_newObj_type ?_ (by size_fits)
  refine raiseNew_hot ⟨hh, o1, vs1, Heap.get?_push_of_some _ (Heap.get?_push_of_some _ ((Heap.get?_update_other _ _ (Ne.symm hne)).trans h1)), d1, c1⟩ (Nat.ne_of_lt (Heap.lt_size (Heap.get?_push_of_some _ ((Heap.get?_update_other _ _ (Ne.symm hne)).trans h1)))) (Heap.get?_push_size _ rfl) rfl (by first | (simp; done) | (simp; omega) | (simp only [Array.size_append]; simp; omega)) ?_
  refine wpAny_bind (wpAny_isInstance (T := "StopIteration") (b := true) ⟨_, Heap.get?_update_self _ (Heap.get?_push_size _ rfl) rfl, rfl⟩ isSubtype_stop ?_)
  refine wpAny_pure (hQ _ fun b o hb e => ?_)
  have e2 := Heap.get?_push_of_some { cls := .type "tuple", data := .seq ([] : List Value).toArray } ((Heap.get?_update_other s.heap (Obj.mapFields fun x => x.setIfInBounds 0 Value.none) (Ne.symm hb)).trans e)
  rw [Heap.get?_update_other _ _ (Nat.ne_of_gt (Heap.lt_size e2))]
  exact Heap.get?_push_of_some _ e2
theorem pyNext_list_end_hot {it t x1 : Addr} {i : Nat} {items : Array Value} {Q : Option Value → Shared → Prop} (hot : HotAt A x1 s.heap) (hne : x1 ≠ it) (hit : s.heap.IsListIter it t i) (ht : s.heap.IsList t items) (hx : items[i]? = none)
    (hQ : ∀ h', (∀ b o, b ≠ it → s.heap.get? b = some o → h'.get? b = some o) → Q none { s with heap := h' }) : wpAny (model prog w) A (pyNext (.ref it)) Q E s := by
  obtain ⟨hh, o1, vs1, h1, d1, c1⟩ := hot
  obtain ⟨o, ho, hc, hd⟩ := id hit
  obtain ⟨ol, hol, _, nl, hdl⟩ := ht
  unfold pyNext
  refine wpAny_bind (wpAny_attempt (wpAny_callSpecial?_slot (name := Str.ofString "__next__") hit.typeIs slot_listiter_next
    (wpAny_call_entry slot_listiter_next hit.typeIs entry_listiter_next ?_ (args_listiter_next _))))
  show wpAny _ _ (field (.ref it) 0 >>= _) _ _ s
  refine wpAny_bind (wpAny_field ho hd (x := .ref t) rfl ?_)
  show wpAny _ _ (if (Value.ref t == Value.none) = true then _ else _) _ _ s
  rw [if_neg (show ¬ ((Value.ref t == Value.none) = true) from Bool.false_ne_true)]
  show wpAny _ _ (field (.ref it) 1 >>= _) _ _ s
  refine wpAny_bind (wpAny_field ho hd (x := .int i 0) rfl ?_)
  show wpAny _ _ (seqItems? (.ref t) >>= _) _ _ s
  refine wpAny_bind (wpAny_seqItems hol hdl ?_)
  simp only [Int.toNat_natCast, hx]
  refine wpAny_bind (wpAny_rule (wpAny_bind (wpAny_setField ho hd (by simp) ?_)))
  show wpAny _ _ (newExc (.type "StopIteration") [] >>= _) _ _ _
  refine wpAny_bind ?_
  simp only [newExc, newTuple]
  refine wpAny_bind (wpAny_newObj_type ?_ (by size_fits))
  refine wpAny_bind (m := firstArgMember _ _) (wpAny_of_eq (a := Value.none) (by first | rfl | (simp only [firstArgMember]; rfl)) ?_)
  refine wpAny_newObj_type ?_ (by size_fits)
  refine raiseNew_hot ⟨hh, o1, vs1, Heap.get?_push_of_some _ (Heap.get?_push_of_some _ ((Heap.get?_update_other _ _ (Ne.symm hne)).trans h1)), d1, c1⟩ (Nat.ne_of_lt (Heap.lt_size (Heap.get?_push_of_some _ ((Heap.get?_update_other _ _ (Ne.symm hne)).trans h1)))) (Heap.get?_push_size _ rfl) rfl (by first | (simp; done) | (simp; omega) | (simp only [Array.size_append]; simp; omega)) ?_
  refine wpAny_bind (wpAny_isInstance (T := "StopIteration") (b := true) ⟨_, Heap.get?_update_self _ (Heap.get?_push_size _ rfl) rfl, rfl⟩ isSubtype_stop ?_)
  refine wpAny_pure (hQ _ fun b o hb e => ?_)
  have e2 := Heap.get?_push_of_some { cls := .type "tuple", data := .seq ([] : List Value).toArray } ((Heap.get?_update_other s.heap (Obj.mapFields fun x => x.setIfInBounds 0 Value.none) (Ne.symm hb)).trans e)
  rw [Heap.get?_update_other _ _ (Nat.ne_of_gt (Heap.lt_size e2))]
  exact Heap.get?_push_of_some _ e2

/-- the walk over a list while an exception is handled -/
theorem listH {x1 : Addr} {o1 : Obj} {vs1 : Array Value} (hh : A.handled = some (.ref x1)) (d1 : o1.data = .fields vs1) (c1 : vs1[2]? = some .none) (I ax : Addr) (hne : ax ≠ I) (hx : x1 ≠ I) (items : Array Value) :
    Walks prog w A I [I, ax, x1] [I] items.size (fun i v => items[i]? = some v) (fun i h => h.IsListIter I ax i ∧ h.IsList ax items ∧ h.get? x1 = some o1) where
  sub := fun b hb => by simp at hb; simp [hb]
  frame := fun _ _ _ st hk => ⟨st.1.at fun o e => hk I (by simp) o e, st.2.1.at fun o e => hk ax (by simp) o e, hk x1 (by simp) _ st.2.2⟩
  item := fun i s Q E hi st hQ => by
    refine wpAny_pyNext_list_item st.1 st.2.1 (x := items[i]) (by simp [hi]) fun h' hit' hs' => ?_
    exact hQ _ h' s.toks (by simp [hi]) ⟨hit', st.2.1.extBut hs'.extBut hne, hs'.extBut x1 o1 hx st.2.2⟩ fun b o hb e => hs'.extBut b o (fun h => hb (by simp [h])) e
  done := fun s Q E st hQ => pyNext_list_end_hot ⟨hh, o1, vs1, st.2.2, d1, c1⟩ hx st.1 st.2.1 (by simp) fun h' he' => hQ h' s.toks fun b o hb e => he' b o (fun h => hb (by simp [h])) e
  self := fun _ _ _ _ st hQ => wpAny_pyIter_listiter st.1 hQ
theorem sum_rawH {x1 l : Addr} {its : List Value} {ns : List Int} {Q : Value → Shared → Prop} (hot : HotAt A x1 s.heap) (hl : s.heap.IsList l its.toArray) (hi : IntsAre its ns)
    (h : ∀ h' tk t', (∀ b o, s.heap.get? b = some o → h'.get? b = some o) → Q (.int ns.sum t') { s with heap := h', toks := tk }) : wpAny (model prog w) A (call (.builtin "sum") [.ref l]) Q E s := by
  obtain ⟨hh, o1, vs1, h1, d1, c1⟩ := hot
  obtain ⟨xs, e⟩ := hi.allInts.items
  have hn : numsOf (intItems xs).toList = ns := by rw [← e]; exact hi.numsOf
  rw [nums_intItems] at hn
  rw [e] at hl
  have hx1 : x1 ≠ s.heap.objs.size := Nat.ne_of_lt (Heap.lt_size h1)
  refine call_sum_walkG (iter_intList hl fun s₂ es st hfp hlI => ?_)
  subst es
  refine ⟨_, _, _, _, _, _, numAt xs, rfl, listH (A := A.in1) hh d1 c1 _ l hlI hx1 (intItems xs), ⟨st.1, st.2, Heap.get?_push_of_some _ h1⟩, fun b hb => ?_, (fun _ _ => intItems_at), fun h' tk t' hk => ?_⟩
  · rcases List.mem_cons.mp hb with z | hb
    · exact hfp b (by rw [z]; simp)
    · rcases List.mem_cons.mp hb with z | hb
      · exact hfp b (by rw [z]; simp)
      · rw [List.mem_singleton.mp hb]
        exact Heap.lt_size (Heap.get?_push_of_some _ h1)
  · have := h h' tk t' fun b o eo => hk b o (fun hmem => by
      rw [List.mem_singleton] at hmem
      exact absurd (hmem ▸ Heap.lt_size eo) (Nat.lt_irrefl _)) (Heap.get?_push_of_some _ eo)
    rw [preSum_eq, List.take_of_length_le (by simp [intItems]), hn]
    exact this
end
section
variable {X : Cx}
theorem cr_sumH (hc : HotC X) : CallR X (.builtin "sum") (rSum X.K) := by
  intro pins s σ H vs us Q I r h
  obtain ⟨a, ns, rfl, hs, q⟩ := h
  obtain ⟨its, rv, hl, _⟩ := I.list hs
  obtain ⟨x1, hot⟩ := hc.at I
  rw [Vals.ref1 r]
  exact sum_rawH hot hl.isList rv.ints fun h' tk t' hk => ⟨.int _, H, I.kept hk, ⟨_, rfl⟩, q⟩
theorem cr_allH (hc : HotC X) : CallR X (.builtin "all") (rAll X.K) := by
  intro pins s σ H vs us Q I r h
  obtain ⟨a, bs, rfl, hs, q⟩ := h
  obtain ⟨its, rv, hl, _⟩ := I.list hs
  obtain ⟨x1, hh, o1, vs1, h1, d1, c1⟩ := hc.at I
  rw [Vals.ref1 r]
  have hb := rv.bls
  refine call_all_walk (iter_any hl.isList fun s₂ e2 st hne => ?_)
  subst e2
  refine ⟨_, _, _, _, _, _, _, rfl, listH (A := X.A.in1) hh d1 c1 _ a hne (Nat.ne_of_lt (Heap.lt_size h1)) its.toArray, ⟨st.1, st.2, Heap.get?_push_of_some _ h1⟩, truth_bools hb, fun h' tk hk => ?_⟩
  refine ⟨.bl _, H, I.kept fun b o eo => hk b o (fun hmem => ?_) (Heap.get?_push_of_some _ eo), ?_, q⟩
  · rcases List.mem_cons.mp hmem with e1 | hmem
    · exact absurd (e1 ▸ Heap.lt_size eo) (Nat.lt_irrefl _)
    · cases hmem
  · show Value.bool _ = Value.bool _
    rw [← L2.all_range, hb, List.size_toArray, List.length_map]
end
/-! ### iterators -/
structure TurnH (P : Program) (w : World) (K : PySem.W.Frag) (tg : Expr) (J : It) (fp : List Addr) (it : Addr) (tn : Nat → Heap → Prop) : Prop where
  mem : it ∈ fp
  obj : ∀ i h, tn i h → ∀ b ∈ fp, ∃ o, h.get? b = some o ∧ ∀ v, o.data ≠ .cell v
  keep : ∀ i h h', tn i h → (∀ b ∈ fp, ∀ o, h.get? b = some o → h'.get? b = some o) → tn i h'
  item : ∀ (X : Cx), X.prog = P → X.w = w → X.K = K → HotC X → ∀ (i : Nat) (pins : List (Addr × Obj)) (s : Shared) (σ : L2.St) (H : Hp) (E : Value → Shared → Prop), Inv X pins σ H s → (∀ b ∈ fp, FpOk X pins H b) → tn i s.heap → J.go i H →
    wpAny (model P w) X.A (pyNext (.ref it)) (fun r s1 => ∃ u, r = some u ∧
      wpAny (model P w) X.A (letOwnedTupleGo tg (.ref it) u) (fun _ s2 => ∃ x H', Inv X pins σ H' s2 ∧ RelV x u ∧ J.yld i H x H' ∧ tn (i + 1) s2.heap ∧ ∀ b ∈ fp, H' b = none) E s1) E s
  done : ∀ (X : Cx), X.prog = P → X.w = w → X.K = K → HotC X → ∀ (i : Nat) (pins : List (Addr × Obj)) (s : Shared) (σ : L2.St) (H : Hp) (E : Value → Shared → Prop), Inv X pins σ H s → (∀ b ∈ fp, FpOk X pins H b) → tn i s.heap → J.stop i H →
    wpAny (model P w) X.A (pyNext (.ref it)) (fun r s1 => r = none ∧ Inv X pins σ H s1) E s
  self : ∀ (A : Around) (i : Nat) (s : Shared) (Q : Value → Shared → Prop) (E : Value → Shared → Prop), tn i s.heap → Q (.ref it) s → wpAny (model P w) A (pyIter (.ref it)) Q E s
def PIEH (X : Cx) (pins : List (Addr × Obj)) (σ : L2.St) (tg : Expr) (R : It → Hp → Prop) (itv : Value) (s2 : Shared) : Prop :=
  ∃ (it : Addr) (fp : List Addr) (tn : Nat → Heap → Prop) (J : It) (H' : Hp), itv = .ref it ∧ Inv X pins σ H' s2 ∧ TurnH X.prog X.w X.K tg J fp it tn ∧ tn 0 s2.heap ∧ (∀ b ∈ fp, FpOk X pins H' b) ∧ R J H'
structure PIH (X : Cx) (tg iter : Expr) (wi : TI) : Prop where
  run : ∀ (pins : List (Addr × Obj)) (s : Shared) (σ : L2.St) (H : Hp) (R : It → Hp → Prop), Inv X pins σ H s → wi σ H R →
    wpAny (model X.prog X.w) X.A (eval iter X.env) (fun v s1 => wpAny (model X.prog X.w) X.A (pyIter v) (PIEH X pins σ tg R) X.xe s1) X.xe s
theorem turn_tupleH {P : Program} {w : World} {K : PySem.W.Frag} {tg : Expr} (a it : Addr) : TurnH P w K tg (Itt K a) [it] it (fun i h => h.IsTupleIter it a i) where
  mem := by simp
  obj := fun i h st b hb => by
    have e : b = it := by simpa using hb
    subst e
    obtain ⟨o, e, c, d⟩ := st
    exact ⟨o, e, fun v z => by rw [d] at z; cases z⟩
  keep := fun i h h' st k => st.at fun o e => k it (by simp) o e
  item := by
    intro X hP hw hK hc i pins s σ H E I hf st hg
    subst hP hw hK
    obtain ⟨xs, x, hq, hx⟩ := hg
    obtain ⟨its, rv, p, hz⟩ := I.tuple hq
    obtain ⟨u, hu, ru⟩ := rv.get hx
    obtain ⟨f0, f1, f2, f3, f4, f5⟩ := hf it (by simp)
    refine wpAny_pyNext_tuple_item st (show s.heap.IsTuple a its.toArray from p) (x := u) (by simpa using hu) fun h' st' sb => ?_
    have I1 : Inv X pins σ H { s with heap := h' } := I.turned (t' := s.toks) (fun b o hb e => (sb.2 b hb).trans e) f0 f1 f3 f4 f5
    obtain ⟨o, e, c, d⟩ := id st'
    exact ⟨u, rfl, go_of (s := { s with heap := h' }) e c d (by decide) ⟨x, H, I1, ru, ⟨rfl, fun ys hy => by rw [I.tuple_inj hy hq]; exact hx⟩, st', fun b hb => (hf b hb).1⟩⟩
  done := by
    intro X hP hw hK hc i pins s σ H E I hf st hg
    subst hP hw hK
    obtain ⟨xs, hq, hx⟩ := hg
    obtain ⟨its, rv, p, hz⟩ := I.tuple hq
    obtain ⟨f0, f1, f2, f3, f4, f5⟩ := hf it (by simp)
    have hl := rv.length
    obtain ⟨p0, ⟨hh, v1, e1, c1⟩, hp⟩ := hc
    exact pyNext_tuple_end_hot ⟨hh, p0.2, v1, (I.pin p0 (List.mem_append_left _ hp)).1, e1, c1⟩ (f5 p0 (List.mem_append_left _ hp)) st (show s.heap.IsTuple a its.toArray from p) (by simp; omega) fun h' eb => ⟨rfl, I.turned (t' := s.toks) (fun b o hb e => eb b o hb e) f0 f1 f3 f4 f5⟩
  self := fun _ _ _ _ _ st h => wpAny_pyIter_tupleiter st h
theorem turn_rangeH {P : Program} {w : World} {K : PySem.W.Frag} {tg : Expr} (it : Addr) (lo : Int) (n : Nat) : TurnH P w K tg (Itr lo n) [it] it (fun i h => IsRangeIter h it (lo + (i : Nat) * 1) ((n : Int) - (i : Nat)) 1) where
  mem := by simp
  obj := fun i h st b hb => by
    have e : b = it := by simpa using hb
    subst e
    exact ⟨_, st, fun v z => by
      have z' : Data.fields _ = Data.cell v := z
      cases z'⟩
  keep := fun i h h' st k => k it (by simp) _ st
  item := by
    intro X hP hw hK hc i pins s σ H E I hf st hg
    subst hP hw hK
    obtain ⟨f0, f1, f2, f3, f4, f5⟩ := hf it (by simp)
    have hg' : i < n := hg
    refine wpAny_pyNext_range_item st (by omega) fun h' st' sb => ?_
    have I1 : Inv X pins σ H { s with heap := h', toks := s.toks + 1 } := I.turned (fun b o hb e => (sb.2 b hb).trans e) f0 f1 f3 f4 f5
    have st2 : IsRangeIter h' it (lo + ((i + 1 : Nat) : Int) * 1) ((n : Int) - ((i + 1 : Nat) : Int)) 1 := by
      have e1 : lo + ((i + 1 : Nat) : Int) * 1 = lo + (i : Int) * 1 + 1 := by omega
      have e2 : (n : Int) - ((i + 1 : Nat) : Int) = (n : Int) - (i : Int) - 1 := by omega
      rw [e1, e2]
      exact st'
    refine ⟨_, rfl, go_of (s := { s with heap := h', toks := s.toks + 1 }) (n := "range_iterator") st2 rfl rfl (by decide) ⟨.int (lo + i), H, I1, ⟨s.toks, ?_⟩, ⟨rfl, rfl⟩, st2, fun b hb => (hf b hb).1⟩⟩
    rw [Int.mul_one]
  done := by
    intro X hP hw hK hc i pins s σ H E I hf st hg
    subst hP hw hK
    obtain ⟨f0, f1, f2, f3, f4, f5⟩ := hf it (by simp)
    obtain ⟨x1, hot⟩ := hc.at I
    exact pyNext_range_end_hot hot st (by have : n ≤ i := hg; omega) fun h' eb => ⟨rfl, I.turned (t' := s.toks) (fun b o hb e => eb b o e) f0 f1 f3 f4 f5⟩
  self := fun _ _ _ _ _ st h => wpAny_pyIter_rangeiter st h
section
variable {X : Cx} {tg : Expr}
theorem pi_tupH {l : Expr} {tl : TE} (hl : PE X l tl) : PIH X tg l (iTup X.K tl) := by
  refine ⟨fun pins s σ H R I h => ?_⟩
  refine thn (hl.run pins s σ H _ I h) fun v s1 ⟨x, H1, I1, r1, q1⟩ => ?_
  obtain ⟨a, e, ⟨xs, hq⟩, q⟩ := q1
  subst e
  cases r1
  obtain ⟨its, rv, p, hz⟩ := I1.tuple hq
  refine wpAny_pyIter_tuple (show s1.heap.IsTuple a its.toArray from p) ?_
  refine ⟨s1.heap.objs.size, [s1.heap.objs.size], _, _, H1, rfl, I1.kept (t' := s1.toks) fun b o e => Heap.get?_push_of_some _ e, turn_tupleH a _, ⟨_, Heap.get?_push_size _ rfl, rfl, rfl⟩, fun b hb => ?_, q⟩
  have e : b = s1.heap.objs.size := by simpa using hb
  subst e
  exact I1.fpOk (Nat.le_refl _) (I1.hok.fresh (Nat.le_refl _))
theorem range_itH {pins : List (Addr × Obj)} {σ : L2.St} {H : Hp} {s : Shared} {R : It → Hp → Prop} {E : Value → Shared → Prop} {lo hi : Int} {t u v : Tok} {tk : Nat} (I : Inv X pins σ H s) (h1 : -(2 ^ 62) ≤ lo) (h2 : lo < 2 ^ 62) (h3 : -(2 ^ 62) ≤ hi) (h4 : hi < 2 ^ 62)
    (q : R (Itr lo (hi - lo).toNat) H) : wpAny (model X.prog X.w) X.A (pyIter (.ref s.heap.objs.size)) (PIEH X pins σ tg R) E { s with heap := s.heap.push { cls := .type "range", data := .fields #[.int lo t, .int hi u, .int 1 v] }, toks := tk } := by
  refine wpAny_pyIter_range (IsRange.new ..) (small_one h1 h2 h3 h4) ?_
  have I1 : Inv X pins σ H { s with heap := s.heap.push { cls := .type "range", data := .fields #[.int lo t, .int hi u, .int 1 v] }, toks := tk } := I.kept fun b o e => Heap.get?_push_of_some _ e
  refine ⟨(s.heap.push { cls := .type "range", data := .fields #[.int lo t, .int hi u, .int 1 v] }).objs.size, [(s.heap.push { cls := .type "range", data := .fields #[.int lo t, .int hi u, .int 1 v] }).objs.size], _, _, H, rfl,
    I1.kept (t' := tk) fun b o e => Heap.get?_push_of_some _ e, turn_rangeH _ lo (hi - lo).toNat, ?_, fun b hb => ?_, q⟩
  · have e1 : lo + ((0 : Nat) : Int) * 1 = lo := by simp
    have e2 : (((hi - lo).toNat : Nat) : Int) - ((0 : Nat) : Int) = Builtin.Range.rangeSize lo hi 1 := by rw [rangeSize_one]; split <;> omega
    show IsRangeIter _ _ (lo + ((0 : Nat) : Int) * 1) ((((hi - lo).toNat : Nat) : Int) - ((0 : Nat) : Int)) 1
    rw [e1, e2]
    exact Heap.get?_push_size _ rfl
  · have e : b = (s.heap.push { cls := .type "range", data := .fields #[.int lo t, .int hi u, .int 1 v] }).objs.size := by simpa using hb
    subst e
    exact I1.fpOk (Nat.le_refl _) (I1.hok.fresh (Nat.le_refl _))
theorem pi_range1H {a : Expr} {ta : TA} {p pos : Pos} (hg : Gl X "range") (hm : X.mg "range" = none) (ha : PA X [a] ta) (hs : starEach [a] X.env = [(false, eval a X.env)] := by rfl) : PIH X tg (.Call (.Name "range" p) [a] [] pos) (iRng1 ta) := by
  refine ⟨fun pins s σ H R I h => ?_⟩
  refine Call_ (ld_blt I hg hm boot_range (PyProof.Rows.callWith_type1 (thn (ha.run pos pins s σ H _ I h) fun us s1 ⟨vs, H1, I1, r1, q1⟩ => ?_) hs rfl))
  obtain ⟨j, e, q1, q2, q⟩ := q1
  subst e
  cases r1 with
  | cons r rr =>
    cases rr
    obtain ⟨t, rfl⟩ := r
    exact call_range_1 (range_itH I1 (by omega) (by omega) q1 q2 (by simpa using q))
theorem ps_forH {iter : Expr} {body : List Stmt} {wi : TI} {g : TG} {tb : TS} {pos : Pos} (hp : PassesOwn (model X.prog X.w) X.A X.env X.xe) (hc : HotC X) (hi : PIH X tg iter wi) (hg : PG X tg g) (hb : PSs X body tb)
    (hs : ∀ x, foldedSetIterable iter X.env x = pure x := by intro _; rfl) : PS X (.For tg iter body [] pos) (tFor wi g tb) := by
  refine ⟨fun pins s σ H D I h => ?_⟩
  refine wpAny_For (thn (hi.run pins s σ H _ I h) fun v s1 h1 => thn h1 fun itv s2 h2 => ?_) hs
  obtain ⟨it, fp, tn, J, H2, e, I2, T, st2, f2, W, ⟨m0, w0⟩, turn⟩ := h2
  subst e
  -- what stays true of the iterator's objects through the loop
  have stat : ∀ {H' : Hp}, (∀ b ∈ fp, H' b = none) → ∀ b ∈ fp, FpOk X pins H' b := fun hn b hb => ⟨hn b hb, (f2 b hb).2⟩
  refine codeAny_forLoop_any (fun n s' => ∃ i σ' H', Inv X pins σ' H' s' ∧ tn i s'.heap ∧ (∀ b ∈ fp, H' b = none) ∧ W i n σ' H') ?_ m0 ⟨0, σ, H2, I2, st2, fun b hb => (f2 b hb).1, w0⟩
  rintro n s3 ⟨i, σ3, H3, I3, st3, fr3, w3⟩
  rcases turn i n σ3 H3 w3 with ⟨stop, qn⟩ | ⟨go, N, hN, step⟩
  · refine wpAny_passesOwn hp (thn (T.done X rfl rfl rfl hc i pins s3 σ3 H3 X.xe I3 (stat fr3) st3 stop) fun r s4 ⟨hr, I4⟩ => ?_)
    subst hr
    exact wpAny_execs_nil ⟨σ3, H3, I4, qn⟩
  · refine wpAny_passesOwn hp (thn (T.item X rfl rfl rfl hc i pins s3 σ3 H3 X.xe I3 (stat fr3) st3 go) fun r s4 ⟨u, hr, h4⟩ => ?_)
    subst hr
    refine wpAny_passesOwn hp (thn h4 fun _ s5 ⟨x, H5, I5, r5, y5, st5, fr5⟩ => ?_)
    have I5' := I5.pinned (stat fr5) (T.obj _ _ st5)
    refine wpAny_passesOwn hp (thn (hg.run _ s5 σ3 H5 x u _ I5' r5 (step x H5 y5)) fun _ s6 ⟨σ6, H6, I6, q6⟩ => ?_)
    refine wpAny_passesOwn hp (thn (hb.run _ s6 σ6 H6 _ I6 q6) fun f s7 q7 => ?_)
    have again : ∀ {σ7 : L2.St} {H7 : Hp}, Inv X (pins ++ pinsAt fp s5.heap) σ7 H7 s7 → N σ7 H7 → ∃ m, m < n ∧ ∃ i σ' H', Inv X pins σ' H' s7 ∧ tn i s7.heap ∧ (∀ b ∈ fp, H' b = none) ∧ W i m σ' H' := fun {σ7 H7} I7 n7 => by
      obtain ⟨m', hm, w7⟩ := hN σ7 H7 n7
      refine ⟨m', hm, i + 1, σ7, H7, I7.unpinned, T.keep _ _ _ st5 fun b hb o e => (I7.pin (b, o) (List.mem_append_right _ (List.mem_append_right _ (mem_pinsAt hb e)))).1, fun b hb => ?_, w7⟩
      obtain ⟨o, e, d⟩ := T.obj _ _ st5 b hb
      exact (I7.pin (b, o) (List.mem_append_right _ (List.mem_append_right _ (mem_pinsAt hb e)))).2.1
    cases f with
    | next => obtain ⟨σ7, H7, I7, n7⟩ := q7; exact again I7 n7
    | cont => obtain ⟨σ7, H7, I7, n7⟩ := q7; exact again I7 n7
    | brk => obtain ⟨σ7, H7, I7, q7⟩ := q7; exact ⟨σ7, H7, I7.unpinned, q7⟩
    | ret v => obtain ⟨x7, σ7, H7, I7, r7, q7⟩ := q7; exact ⟨x7, σ7, H7, I7.unpinned, r7, q7⟩
end

/-! ### a comprehension's block -/
abbrev blkH (X : Cx) (s : Shared) (H : Hp) (scope : Scope) (cenv : Env) (fp : List Addr) (p : Addr × Obj) : Cx := { X.blk s H scope cenv fp with pn := [p] }
theorem _root_.L2.Inv.repin {X : Cx} {pins pins' pn' : List (Addr × Obj)} {σ : L2.St} {H : Hp} {s : Shared} (I : Inv X pins σ H s) (h : ∀ q ∈ pn' ++ pins', s.heap.get? q.1 = some q.2 ∧ H q.1 = none ∧ q.1 ≠ X.env.locals ∧ q.1 ∉ X.fs ∧ ∀ v, q.2.data ≠ .cell v) : Inv { X with pn := pn' } pins' σ H s :=
  ⟨⟨I.ok.mod, I.ok.kind, I.ok.glob, I.ok.blt, I.ok.above, I.ok.inj, I.ok.has, I.ok.cab, I.ok.hd, I.ok.frames, I.ok.stk, I.ok.exf, I.ok.bs, I.ok.bsz, I.ok.noex, I.ok.exfs, I.ok.funs, I.ok.frf⟩, I.os, I.bare, I.base, I.loc, I.cell, I.free, I.freeC, h, I.hok, I.len⟩
theorem hotB {X : Cx} {s : Shared} {H : Hp} {scope : Scope} {cenv : Env} {fp : List Addr} {p : Addr × Obj} (h : Hot1 X.A p) : HotC (blkH X s H scope cenv fp p) := ⟨p, h, List.mem_singleton.mpr rfl⟩
section
variable {X : Cx}
theorem lc_coreH {pins : List (Addr × Obj)} {s : Shared} {σ : L2.St} {H : Hp} {Q : VK} {elt tg iter : Expr} {ifs : List Expr} {scope : Scope} {own : List (Str × Nat)} {pos pos' : Pos} {wi : TI} {g : TG} {tt : TT} {te : TE} {use : Option (Value → Sem Unit)} {Qf : Value → Shared → Prop}
    (hc : HotC X) (hN : X.N.Nodup) (I : Inv X pins σ H s) (hi : PIH X tg iter wi) (ok : BlkOk X.N X.env.scope scope own)
    (hg : ∀ (p : Addr × Obj), Hot1 X.A p → ∀ (s : Shared) (H : Hp) (C : Addr) (cl : List (Str × Addr)) (fp : List Addr), PG (blkH X s H scope (compEnvC scope cl C X.env) fp p) tg g) (ht : ∀ (p : Addr × Obj), Hot1 X.A p → ∀ (s : Shared) (H : Hp) (C : Addr) (cl : List (Str × Addr)) (fp : List Addr), PTs (blkH X s H scope (compEnvC scope cl C X.env) fp p) ifs tt)
    (he : ∀ (p : Addr × Obj), Hot1 X.A p → ∀ (s : Shared) (H : Hp) (C : Addr) (cl : List (Str × Addr)) (fp : List Addr), PE (blkH X s H scope (compEnvC scope cl C X.env) fp p) elt te) (hs : ∀ x, foldedSetIterable iter X.env x = pure x)
    (h : tLc wi g tt te (own.map (·.2)) σ H Q)
    (hRR : ∀ D C s' m H', Inv X pins σ H' s' → Q (.ref D) H' → s'.heap.Ns C m → FpOk X pins H' C → compPost (model X.prog X.w) X.A X.xe use Qf (.ref D) C (.ok .next) s') :
    wpAny (model X.prog X.w) X.A (comprehension (.ListComp elt [⟨tg, iter, ifs, 0⟩] scope pos) scope X.env pos' (newList []) false (eval iter X.env) use) Qf X.xe s := by
  have hfree : ∀ y ∈ scope.names, y.2 = .free → ∃ c, X.env.cells.lookup y.1 = some c := fun y hy e => by
    rcases ok.free y hy e with k | k
    · exact I.ok.has _ (.inl k)
    · exact I.ok.has _ (.inr k)
  refine wpAny_comprehension_free (use := use) rfl hs (closure_ok hfree) ok.kind (fun y hy e => by rw [ok.uniq y hy, e])
    (thn (hi.run pins s σ H _ I h) fun xv s1 hx => thn hx fun itv s2 h2 => ?_)
  obtain ⟨it, fp, tn, J, H2, e, I2, T, st2, f2, q⟩ := h2
  subst e
  refine wpAny_newObj_type (newEnv_comp ?_) (by show 0 ≤ sizeLine; decide)
  generalize hD : s2.heap.objs.size = D
  have hDn : H2 D = none := I2.hok.fresh (Nat.le_of_eq hD)
  obtain ⟨W, ⟨m0, w0⟩, turn⟩ := q D hDn
  -- the new list
  generalize hs3 : ({ s2 with heap := s2.heap.push { cls := .type "list", data := .seq ([] : List Value).toArray } } : Shared) = s3
  have I3 : Inv X pins σ (upd H2 D (.lst [])) s3 := by
    rw [← hs3]
    refine I2.laid (t' := s2.toks) (fun b o e => Heap.get?_push_of_some _ e) (Nat.le_of_eq hD) ⟨Nat.zero_le _, [], 0, .nil, ?_⟩
    rw [← hD]
    exact Heap.get?_push_size _ rfl
  have h3 : s3.heap = s2.heap.push { cls := .type "list", data := .seq ([] : List Value).toArray } := by rw [← hs3]
  have sz : ∀ b ∈ fp, b < s2.heap.objs.size := fun b hb => by
    obtain ⟨o, e, _⟩ := T.obj _ _ st2 b hb
    exact Heap.lt_size e
  have f3 : ∀ b ∈ fp, FpOk X pins (upd H2 D (.lst [])) b ∧ b < s3.heap.objs.size := fun b hb => by
    have hlt := sz b hb
    refine ⟨⟨?_, (f2 b hb).2⟩, by rw [h3, Heap.size_push]; exact Nat.lt_succ_of_lt hlt⟩
    rw [upd_ne (by rw [← hD]; exact Nat.ne_of_lt hlt)]
    exact (f2 b hb).1
  have st3 : tn 0 s3.heap := T.keep _ _ _ st2 fun b _ o e => by rw [h3]; exact Heap.get?_push_of_some _ e
  have I4 := block_start I3 ok hN f3
  obtain ⟨p, hot, hpn⟩ := id hc
  have P3 := I3.pin p (List.mem_append_left _ hpn)
  have I4 := I4.repin (pn' := [p]) (pins' := []) (fun q hq => by
    have e : q = p := by simpa using hq
    subst e
    refine ⟨pushCells_keeps _ _ _ _ (Heap.get?_push_of_some _ P3.1), P3.2.1, Nat.ne_of_lt (Heap.lt_size P3.1), fun hm => ?_, P3.2.2.2.2⟩
    rcases List.mem_cons.mp (I3.stkSub q.1 hm) with z | z
    · exact P3.2.2.1 z
    · exact P3.2.2.2.1 z)
  have pg := hg p hot s3 (upd H2 D (.lst [])) s3.heap.objs.size (cellsFrom (s3.heap.objs.size + 1) scope.names (cloFrom X.env.cells scope.names [])) fp
  have pt := ht p hot s3 (upd H2 D (.lst [])) s3.heap.objs.size (cellsFrom (s3.heap.objs.size + 1) scope.names (cloFrom X.env.cells scope.names [])) fp
  have pe := he p hot s3 (upd H2 D (.lst [])) s3.heap.objs.size (cellsFrom (s3.heap.objs.size + 1) scope.names (cloFrom X.env.cells scope.names [])) fp
  show codeAny _ _ (.compStart (.ListComp elt [⟨tg, iter, ifs, 0⟩] scope pos) 0 (.ref it) (.ref D) (compEnvC scope (cellsFrom (s3.heap.objs.size + 1) scope.names (cloFrom X.env.cells scope.names [])) s3.heap.objs.size X.env)) (compPost (model X.prog X.w) X.A X.xe use Qf (.ref D) s3.heap.objs.size) { s3 with heap := pushCells (s3.heap.push { cls := .type "dict", data := .dict #[] }) scope.names }
  have nfp : ∀ b ∈ fp, (upd H2 D (.lst [])) b = none := fun b hb => (f3 b hb).1.1
  generalize hce : compEnvC scope (cellsFrom (s3.heap.objs.size + 1) scope.names (cloFrom X.env.cells scope.names [])) s3.heap.objs.size X.env = ce at I4 pg pt pe ⊢
  have cL : ce.locals = s3.heap.objs.size := by subst hce; rfl
  generalize hH3 : upd H2 D (.lst []) = H3 at I3 I4 pg pt pe w0 nfp f3
  generalize hs4 : ({ s3 with heap := pushCells (s3.heap.push { cls := .type "dict", data := .dict #[] }) scope.names } : Shared) = s4 at I4 ⊢
  have st4 : tn 0 s4.heap := T.keep _ _ _ st3 fun b _ o e => by rw [← hs4]; exact pushCells_keeps _ _ _ _ (Heap.get?_push_of_some _ e)
  have stat : ∀ {σ' : L2.St} {H' : Hp} {s' : Shared}, Inv (blkH X s3 H3 scope ce fp p) [] σ' H' s' → (∀ b ∈ fp, H' b = none) → ∀ b ∈ fp, FpOk (blkH X s3 H3 scope ce fp p) [] H' b := fun {σ' H' s'} I' hn b hb =>
    ⟨hn b hb, (I'.ok.exf b hb).1, I'.ok.exfs b hb, .inl hb, fun x c e => (I'.ok.exf b hb).2 x c e, fun q hq => by
      have e : q = p := by simpa using hq
      rw [e]
      exact (f2 b hb).2.2.2.2.2 p (List.mem_append_left _ hpn)⟩
  have loop : codeAny (model X.prog X.w) X.A (.compLoop (.ListComp elt [⟨tg, iter, ifs, 0⟩] scope pos) 0 (.ref it) (.ref D) ce) (compPost (model X.prog X.w) X.A X.xe use Qf (.ref D) s3.heap.objs.size) s4 := by
    refine compLoop_any (fun n s' => ∃ i H', Inv (blkH X s3 H3 scope ce fp p) [] (wipe σ (own.map (·.2))) H' s' ∧ tn i s'.heap ∧ (∀ b ∈ fp, H' b = none) ∧ W i n H') ?_ m0 ⟨0, H3, I4, st4, nfp, w0⟩
    rintro n s5 ⟨i, H5, I5, st5, n5, w5⟩
    rcases turn i n H5 w5 with ⟨stop, qq⟩ | ⟨go, Nx, hNx, step⟩
    · have td := T.done (blkH X s3 H3 scope ce fp p) rfl rfl rfl ⟨p, hot, List.mem_singleton.mpr rfl⟩ i [] s5 _ H5 (fun _ _ => False) I5 (stat I5 n5) st5 stop
      refine thnF td fun r s6 ⟨hr, I6⟩ => ?_
      subst hr
      -- back in the def's context
      have I7 : Inv X pins σ H5 s6 := I3.call' (ch := fp) I6.os I6.base I6.hok I6.bare fun b hb => ⟨(f3 b hb).1.2.2.2.1, (f3 b hb).1.2.1, (f3 b hb).1.2.2.2.2.1, (f3 b hb).1.2.2.2.2.2⟩
      have nC : H5 s3.heap.objs.size = none := by
        have z : H5 ce.locals = none := I6.free
        rw [cL] at z
        exact z
      obtain ⟨m, hn, _⟩ := I6.loc
      have hn : s6.heap.Ns ce.locals m := hn
      rw [cL] at hn
      exact hRR D s3.heap.objs.size s6 m H5 I7 qq hn (I3.fpOk (Nat.le_refl _) nC)
    · have ti := T.item (blkH X s3 H3 scope ce fp p) rfl rfl rfl ⟨p, hot, List.mem_singleton.mpr rfl⟩ i [] s5 _ H5 (fun _ _ => False) I5 (stat I5 n5) st5 go
      refine thnF ti fun r s6 ⟨u, hr, h6⟩ => ?_
      subst hr
      refine thnF h6 fun _ s7 ⟨x, H7, I7, r7, y7, st7, n7⟩ => ?_
      have I7' := I7.pinned (stat I7 n7) (T.obj _ _ st7)
      refine thnF (pg.run _ s7 _ H7 x u _ I7' r7 (step x H7 y7)) fun _ s8 ⟨σ8, H8, I8, hw8, q8⟩ => ?_
      refine thnF (pt.run _ s8 σ8 H8 _ I8 q8) fun b s9 ⟨H9, I9, q9⟩ => ?_
      -- the turn's end
      have fin : ∀ {s' : Shared} {H' : Hp}, Inv (blkH X s3 H3 scope ce fp p) ([] ++ pinsAt fp s7.heap) σ8 H' s' → Nx H' → ∃ m, m < n ∧ ∃ i H', Inv (blkH X s3 H3 scope ce fp p) [] (wipe σ (own.map (·.2))) H' s' ∧ tn i s'.heap ∧ (∀ b ∈ fp, H' b = none) ∧ W i m H' := fun {s' H'} I' nx => by
        obtain ⟨m', hm, w'⟩ := hNx H' nx
        have pin' : ∀ b ∈ fp, ∀ o, s7.heap.get? b = some o → s'.heap.get? b = some o ∧ H' b = none := fun b hb o e =>
          let z := I'.pin (b, o) (List.mem_append_right _ (List.mem_append_right _ (mem_pinsAt hb e)))
          ⟨z.1, z.2.1⟩
        have hl : (wipe σ (own.map (·.2))).length = σ8.length := by rw [← hw8, wipe_length]
        refine ⟨m', hm, i + 1, H', (I'.unpinned (pins := [])).weak hl (fun j v e => ?_), T.keep _ _ _ st7 fun b hb o e => (pin' b hb o e).1, fun b hb => ?_, w'⟩
        · rw [← hw8] at e
          exact (wipe_some e).1
        · obtain ⟨o, e, _⟩ := T.obj _ _ st7 b hb
          exact (pin' b hb o e).2
      cases b with
      | false =>
        simp only [Bool.false_eq_true, if_false] at q9 ⊢
        exact fin I9 q9
      | true =>
        simp only [if_true] at q9 ⊢
        refine thnF (pe.run _ s9 σ8 H9 _ I9 q9) fun z s10 ⟨yv, H10, I10, r10, acc, hD10, hz10, nx⟩ => ?_
        exact app_ok (X := blkH X s3 H3 scope ce fp p) I10 hD10 hz10 r10 fun s11 I11 => fin I11 nx
  exact codeAny_compStart_list loop (T.self X.A 0 _ _ _ st4 loop)
theorem pe_lcH {elt tg iter : Expr} {ifs : List Expr} {scope : Scope} {own : List (Str × Nat)} {pos : Pos} {wi : TI} {g : TG} {tt : TT} {te : TE} (hc : HotC X) (hN : X.N.Nodup) (hi : PIH X tg iter wi) (ok : BlkOk X.N X.env.scope scope own)
    (hg : ∀ (p : Addr × Obj), Hot1 X.A p → ∀ (s : Shared) (H : Hp) (C : Addr) (cl : List (Str × Addr)) (fp : List Addr), PG (blkH X s H scope (compEnvC scope cl C X.env) fp p) tg g) (ht : ∀ (p : Addr × Obj), Hot1 X.A p → ∀ (s : Shared) (H : Hp) (C : Addr) (cl : List (Str × Addr)) (fp : List Addr), PTs (blkH X s H scope (compEnvC scope cl C X.env) fp p) ifs tt)
    (he : ∀ (p : Addr × Obj), Hot1 X.A p → ∀ (s : Shared) (H : Hp) (C : Addr) (cl : List (Str × Addr)) (fp : List Addr), PE (blkH X s H scope (compEnvC scope cl C X.env) fp p) elt te) (hs : ∀ x, foldedSetIterable iter X.env x = pure x := by intro _; rfl) :
    PE X (.ListComp elt [⟨tg, iter, ifs, 0⟩] scope pos) (tLc wi g tt te (own.map (·.2))) := by
  refine ⟨fun pins s σ H Q I h => ?_⟩
  rw [eval_ListComp]
  refine lc_coreH hc hN I hi ok hg ht he hs h fun D C s' m H' I' q hn f => ⟨m, hn, fun h'' sb => ?_⟩
  obtain ⟨f0, f1, f2, f3, f4, f5⟩ := f
  exact ⟨.ref D, H', I'.turned (t' := s'.toks) (fun b o hb e => (sb.2 b hb).trans e) f0 f1 f3 f4 f5, rfl, q⟩
end
end HO
namespace P10
open PySem PySem.Spec PyProof.Rows L2 SX EX WK
theorem hotN {X : Cx} {p : Addr × Obj} (h : L2H.Hot1 X.A p) (m : X.pn = [p]) : L2H.HotC X := ⟨p, h, by rw [m]; exact List.mem_singleton.mpr rfl⟩
section
variable {P : Program} {w : World} {K : PySem.W.Frag} {mg : Str → Option Value} {base : Heap} {f : Addr} {fd : FuncData} {cF cR : Addr}
theorem okH__law_is_point (F : Fun K "_law_is_point" "_law_is_point" s__law_is_point f fd) (T : Txt mg) (CH__law_whole : CalH P w K mg base 1 "_law_whole" ["value"] spLaw_whole) : L2H.FnH P w K mg base CX0 2 f fd ["value", "size"] (spIsPoint K) := by
  refine okH F sc__law_is_point (fun vs H Q E h => ?_) (fun cdv A outer s H vs Q E p0 hr hot h => ?_)
  · obtain ⟨a, n, x, rfl, _⟩ := h
    rfl
  obtain ⟨a, n, x, rfl, ha, hn, q⟩ := h
  refine ⟨_, (pss_one (ps_ret (pe_and (pe_callB call_isi (by rfl) T.b_isinstance (by decide +kernel) (pa_cons (pv 0) (pa_cons (pe_bltn (v := .ty "tuple") (by rfl) T.b_tuple (by decide +kernel) rfl) pa_nil))) (pe_and (pe_cmpR op_eq (pe_callB call_len_seq (by rfl) T.b_len PySem.boot_len (pa_cons (pv 0) pa_nil)) (pv 1) (nomark _)) (pe_one (pe_callB (HO.cr_allH (hotN hot rfl)) (by rfl) T.b_all (by decide +kernel) (pa_cons (HO.pe_lcH (own := [("number", 2)]) (g := gName 2) (tt := tYes) (hotN hot rfl) sc__law_is_point.nd (HO.pi_tupH (pv 0)) (blkOk_by (N := N__law_is_point) (sc := defScope s__law_is_point) (by decide +kernel)) (fun _ _ _ _ _ _ _ => (pg_name (i := 2) sc__law_is_point.nd rfl (Or.inl rfl))) (fun _ _ _ _ _ _ _ => pts_nil) (fun _ hb _ _ _ _ _ => (pe_calH CH__law_whole (hr.mono (by omega)) (HO.hotB hb) rfl (pa_cons (pv 2) pa_nil)))) pa_nil))))))), ?_⟩
  refine ⟨_, rfl, _, _, _, _, true, rfl, .ty _, ty_tup ha, kit6, true, rfl, ifT rfl ?_⟩
  refine ⟨_, rfl, a, _, rfl, .inr ha, _, rfl, rfl, _, rfl, ifT (by rw [vec_lenV]; exact int_eq rfl) ?_⟩
  refine ⟨_, rfl, a, rfl, ⟨_, ha⟩, fun D hD => ?_⟩
  refine lc_m (walk_tup (K := K) (a := a) (xs := (vec n x).map V.int)) RB (stb_RB (K := K)) (List.range n) (by rw [vec_lenV, List.length_range]) (by rw [List.length_range]; omega) hD (fun H' s => Same_seqT s ha) (fun _ _ _ _ => ys_at) (fun _ => true) (fun c i v H1 H2 hc s1 s2 y A B hA => ?_) (fun H' l s1 hl1 rs => ?_)
  · obtain ⟨hc1, rfl⟩ := in_range hc
    have e := y.2
    rw [vecV_at hc1] at e
    cases e
    exact ⟨rfl, lc_yes ⟨_, rfl, x i, rfl, hA _ _ (fun _ _ h => h) rfl⟩⟩
  · refine ⟨D, _, rfl, SqL.of (by rw [hl1, rs.bls]), ?_⟩
    have e : (((List.range n).map fun _ => true).all id) = true := by
      rw [List.all_map]
      exact List.all_eq_true.mpr fun _ _ => rfl
    rw [e]
    exact q H' s1
theorem okH__law_dot (F : Fun K "_law_dot" "_law_dot" s__law_dot f fd) (T : Txt mg) : L2H.FnH P w K mg base CX0 1 f fd ["one", "two"] (spDot K) := by
  refine okH F sc__law_dot (fun vs H Q E h => ?_) (fun cdv A outer s H vs Q E p0 hr hot h => ?_)
  · obtain ⟨v1, v2, n, k1, k2, x, y, rfl, _⟩ := h
    rfl
  obtain ⟨v1, v2, n, k1, k2, x, y, rfl, h1, h2, hn, hx, hy, p1, p2, hk, q⟩ := h
  refine ⟨_, (pss_one (ps_ret (pe_callB (HO.cr_sumH (hotN hot rfl)) (by rfl) T.b_sum (by decide +kernel) (pa_cons (HO.pe_lcH (own := [("k", 2)]) (g := gName 2) (tt := tYes) (hotN hot rfl) sc__law_dot.nd (HO.pi_range1H (by rfl) T.b_range (pa_cons (pe_callB call_len_seq (by rfl) T.b_len PySem.boot_len (pa_cons (pv 0) pa_nil)) pa_nil)) (blkOk_by (N := N__law_dot) (sc := defScope s__law_dot) (by decide +kernel)) (fun _ _ _ _ _ _ _ => (pg_name (i := 2) sc__law_dot.nd rfl (Or.inl rfl))) (fun _ _ _ _ _ _ _ => pts_nil) (fun _ hb _ _ _ _ _ => (pe_op op_mulW (pe_ix (ix_orK (K := K) rfl) (pv 0) (pv 2) (fun _ _ => rfl)) (pe_ix (ix_orK (K := K) rfl) (pv 1) (pv 2) (fun _ _ => rfl))))) pa_nil)))), ?_⟩
  obtain ⟨k, a, rfl, ha⟩ := sn_ints h1
  obtain ⟨l, b, rfl, hb⟩ := sn_ints h2
  refine ⟨_, rfl, _, _, rfl, sq_or ha, (n : Int), by rw [vec_lenV], by omega, by omega, fun D hD => ?_⟩
  refine lc_m (walk_range (lo := 0) (n := n)) RI (stb_RI (K := K)) (List.range n) (by rw [List.length_range]) (by rw [List.length_range]; omega) hD (fun _ _ => trivial) (fun _ _ _ _ => ys_fn) (fun i => x i * y i) (fun c i v H1 H2 hc s1 s2 yl A B hA => ?_) (fun H' l1 s1 hl1 rs => ?_)
  · obtain ⟨hc1, rfl⟩ := in_range hc
    rw [yl.2]
    exact ⟨rfl, lc_yes ⟨_, rfl, _, rfl, ix_any (sq_same s2 ha) (ixv hc1) ⟨_, rfl, _, rfl, ix_any (sq_same s2 hb) (ixv hc1) ⟨_, _, rfl, rfl, wmul (hx i hc1) (hy i hc1) p1 p2 (by omega), hA _ _ (fun _ _ h => h) rfl⟩⟩⟩⟩
  · exact ⟨D, _, rfl, SqL.of (by rw [hl1, rs.ints]), q H' s1⟩
theorem okH__law_value (F : Fun K "_law_value" "_law_value" s__law_value f fd) (T : Txt mg) (CH__law_dot : CalH P w K mg base 1 "_law_dot" ["one", "two"] (spDot K)) : L2H.FnH P w K mg base CX0 2 f fd ["table", "one", "two"] (spLawV K) := by
  refine okH F sc__law_value (fun vs H Q E h => ?_) (fun cdv A outer s H vs Q E p0 hr hot h => ?_)
  · obtain ⟨a, p, n, M, x, rfl, _⟩ := h
    rfl
  obtain ⟨a, p, n, M, x, rfl, ht, hp, hn, hM, hx, q⟩ := h
  refine ⟨_, (pss_cons (ps_set (i := 3) sc__law_value.nd rfl (Or.inl rfl) pe_int)
  (pss_cons (HO.ps_forH PassesOwn.never (hotN hot rfl) (HO.pi_range1H (by rfl) T.b_range (pa_cons (pe_callB call_len_seq (by rfl) T.b_len PySem.boot_len (pa_cons (pv 0) pa_nil)) pa_nil)) (pg_name (i := 4) sc__law_value.nd rfl (Or.inl rfl)) (pss_one (ps_if (pt_cmpR op_ne (pe_ix ix_tup (pv 1) (pv 4) (fun _ _ => rfl)) pe_int (nomark _)) (pss_one (ps_set (i := 3) sc__law_value.nd rfl (Or.inl rfl) (pe_op op_add (pv 3) (pe_op op_mulW (pe_ix ix_tup (pv 1) (pv 4) (fun _ _ => rfl)) (pe_calH CH__law_dot (hr.mono (by omega)) (hotN hot rfl) rfl (pa_cons (pe_ix ix_list (pv 0) (pv 4) (fun _ _ => rfl)) (pa_cons (pv 2) pa_nil))))))) pss_nil)))
  (pss_one (ps_ret (pv 3))))), ?_⟩
  have ht' := ht
  obtain ⟨rs, ha, hl, row⟩ := ht'
  have hlen : (rs.map V.ref).length = n := by rw [List.length_map, hl]
  refine ⟨_, rfl, a, _, rfl, .inl (SqL.of ha), (n : Int), by rw [hlen], by omega, by omega, ?_⟩
  refine for_range (lo := 0) (n := n) (fun i σ H1 => ∃ v4 : Option V, σ = [some (.ref a), some (.ref p), some (.ref p), some (.int (S i fun i => x i * S n fun j => M i j * x j)), v4] ∧ Same H H1) ⟨none, rfl, fun _ _ h => h⟩ ?_ ?_
  · rintro i σ H1 hi ⟨v4, rfl, sH⟩
    have e0 : (0 + (i : Int)).toNat = i := by omega
    have hp1 : SqT K H1 p ((vec n x).map V.int) := Same_seqT sH hp
    refine ⟨_, rfl, _, rfl, p, _, _, _, rfl, rfl, hp1, at_pos (by omega) (by rw [e0]; exact vecV_at hi), rfl, _, rfl, ?_⟩
    by_cases c : x i = 0
    · refine ifF (ne_F c) ⟨some (.int (0 + (i : Int))), ?_, sH⟩
      rw [S_succ, c, Int.zero_mul, Int.add_zero]
      rfl
    · obtain ⟨r, h1, h2⟩ := row i hi
      refine ifT (ne_T c) ⟨_, rfl, _, rfl, _, rfl, p, _, _, _, rfl, rfl, hp1, at_pos (by omega) (by rw [e0]; exact vecV_at hi), ?_⟩
      refine ⟨_, rfl, _, rfl, a, _, _, _, rfl, rfl, SqL.of (sH _ _ ha), at_pos (by omega) (by rw [e0, List.getElem?_map, h1]; rfl), _, rfl, .ref r, .ref p, n, 9000, 60000, M i, x, rfl, .lst (sH _ _ h2) ((FzAll.of_ints _).sn), .tup hp1 ((FzAll.of_ints _).sn), hn, fun j hj => hM i j hi hj, hx, by decide, by decide, by decide, fun H2 s2 => ?_⟩
      refine ⟨_, _, rfl, rfl, wmul (hx i hi) (BS (k := 69000) (c := 10) (fun j hj => ?_) (by omega)) (by decide) (by decide) (by decide), _, _, rfl, rfl, some (.int (0 + (i : Int))), ?_, sH.trans s2⟩
      · exact (P10.B.mul (m := 9000) (n := 60000) (hM i j hi hj) (hx j hj)).mono (Nat.le_of_ble_eq_true rfl)
      · rw [S_succ]
        rfl
  · rintro σ H1 ⟨v4, rfl, sH⟩
    refine ⟨_, rfl, ?_⟩
    rw [S_Q]
    exact q H1 sH
end
end P10
set_option maxHeartbeats 6000000
set_option exponentiation.threshold 70000
namespace P10
open PySem PySem.Spec PyProof.Rows L2 SX EX WK
theorem bad_bd {n k : Nat} {B' : Nat → El.Row} {x : El.Row} (bad : BadAt n k B' x) : Bd n k B' := by
  rcases bad with ⟨h0, _⟩ | ⟨h0, p, hp, hpn, hne, _, _⟩
  · exact .inl h0
  · exact .inr ⟨h0, p, hp, hpn, hne⟩
theorem run_not_bd {n k : Nat} {M : Nat → El.Row} {S : List Nat} {d : Int} {B' : Nat → El.Row} {ps : List El.Pv} (run : El.Run M n S d B' ps) {S2 : List Nat} {d2 : Int} {B2 : Nat → El.Row} {ps2 : List El.Pv} (hk : k < n) (run2 : El.Run M k S2 d2 B2 ps2) (bd : Bd n k B2) : False := by
  obtain ⟨S3, d3, B3, ps3, run3, h⟩ := run.upto k hk
  obtain ⟨_, _, e, _⟩ := run3.same run2
  subst e
  rcases bd with b | ⟨b, j, _, _, hj⟩
  · rcases h with h | h
    · omega
    · have := h k
      omega
  · rcases h with h | h
    · omega
    · exact hj (h j)
theorem setd_B {n w : Nat} {bd : Int} {M : Nat → Nat → Int} (jo : JOk n w bd M) {k : Nat} {S : List Nat} {d : Int} {B' : Nat → Nat → Int} {ps : List El.Pv} (run : El.Run M k S d B' ps) (hk : k < n) {x : El.Row} (bad : BadAt n k B' x) : ∀ i, B 60000 (setd n ps x i) := fun i => by
  obtain ⟨xB, g1⟩ := jo.bad run hk bad
  have e : setd n ps x i = El.setl n ps x i := by
    show seti n ps x i / gf 0 (vec n (seti n ps x)) = _
    rw [g1, Int.ediv_one, seti_setl]
  rw [e]
  have n10 := jo.n10
  have w1 := jo.w1
  have pv := run.pivots jo.whole.sym bd jo.bd1 jo.abs
  have hb := run.setl_bound (fun _ => ((2 ^ w : Nat) : Int)) (fun k => El.bnd bd k * El.bnd bd (k + 1)) n (fun _ => by have : 0 < 2 ^ w := Nat.two_pow_pos w; omega) (fun p hp => by
    have q := pv p hp
    refine { q with small := Nat.lt_trans q.small hk, row := fun j => ?_ }
    have a := q.row j
    have m := El.bnd_mono jo.bd1 (show p.1 + 1 ≤ n by have := q.small; omega)
    have c : (El.bnd bd n).natAbs < 2 ^ w := jo.bB
    omega) (by omega) x ((2 ^ (w + 1) : Nat) : Int) (Int.natCast_nonneg _) (fun j => by have : (x j).natAbs < 2 ^ (w + 1) := xB j; omega) i
  have tc := tb_con (w := w) n10 k
  have h3 : ((2 ^ (w + 1) : Nat) : Int) * El.tb (fun _ => ((2 ^ w : Nat) : Int)) n k ≤ ((2 ^ (w + 1) : Nat) : Int) * ((2 ^ (k * (w + 4)) : Nat) : Int) := Int.mul_le_mul_of_nonneg_left tc (Int.natCast_nonneg _)
  rw [← Int.natCast_mul, ← Nat.pow_add] at h3
  have h4 : k * (w + 4) ≤ 10 * (w + 4) := Nat.mul_le_mul_right _ (by omega)
  have h5 : (2 : Nat) ^ (w + 1 + k * (w + 4)) < 2 ^ 60000 := Nat.pow_lt_pow_right (by decide) (by omega)
  show (El.setl n ps x i).natAbs < 2 ^ 60000
  generalize (2 : Nat) ^ (w + 1 + k * (w + 4)) = a1 at *
  generalize (2 : Nat) ^ 60000 = a2 at *
  omega
theorem bad_neg {n k : Nat} {B' : Nat → El.Row} {x : El.Row} (hk : k < n) (hs : ∀ i j, B' i j = B' j i) (bad : BadAt n k B' x) : El.Q n B' x < 0 := by
  rcases bad with ⟨h0, rfl⟩ | ⟨h0, p, hp, hpn, hne, _, rfl⟩
  · rw [El.Q_unit B' hk]
    exact h0
  · exact El.Q_side_neg B' hk hpn (hs k p) h0 hne (amt k p B') rfl
theorem bad_value {n w : Nat} {bd : Int} {M : Nat → Nat → Int} (jo : JOk n w bd M) {k : Nat} {S : List Nat} {d : Int} {B' : Nat → Nat → Int} {ps : List El.Pv} (run : El.Run M k S d B' ps) (hk : k < n) {x : El.Row} (bad : BadAt n k B' x) : El.Q n M (setd n ps x) < 0 := by
  obtain ⟨_, g1⟩ := jo.bad run hk bad
  obtain ⟨hz, f0, hf0, hs⟩ := run.settled jo.whole.sym n (by omega) x
  have e : setd n ps x = El.setl n ps x := by
    funext i
    show seti n ps x i / gf 0 (vec n (seti n ps x)) = _
    rw [g1, Int.ediv_one, seti_setl]
  rw [e]
  refine run.negAt jo.whole.sym n x _ hz 1 f0 (by decide) hf0 (fun i hi hS => ?_) (bad_neg hk (run.inv jo.whole.sym).sym bad)
  rw [Int.one_mul]
  exact hs i hS
theorem neg_scale {n : Nat} {g : Int} (hg : 0 < g) {M : Nat → El.Row} {y : El.Row} (h : El.Q n M y < 0) : El.Q n (fun i j => g * M i j) y < 0 := by
  have e : El.Q n (fun i j => g * M i j) y = g * El.Q n M y := by
    rw [← El.Q_mul]
  rw [e]
  exact Int.mul_neg_of_pos_of_neg hg h
def cutT (n : Nat) (f : Nat → Nat → Int) : Nat → Nat → Int := fun i j => if i < n ∧ j < n then f i j else 0
theorem cutT_in {n : Nat} {f : Nat → Nat → Int} {i j : Nat} (hi : i < n) (hj : j < n) : f i j = cutT n f i j := by
  unfold cutT
  rw [if_pos ⟨hi, hj⟩]
theorem le_of_mul {G x T bd : Int} (hG : 0 < G) (e : G * x = T) (h : -bd ≤ T ∧ T ≤ bd) : -bd ≤ x ∧ x ≤ bd := by
  rcases Int.lt_or_le x 0 with c | c
  · have h1 : G * x ≤ 1 * x := by
      have := Int.mul_le_mul_of_nonneg_right (show (1 : Int) ≤ G by omega) (show 0 ≤ -x by omega)
      rw [Int.mul_neg, Int.mul_neg] at this
      omega
    omega
  · have h1 : 1 * x ≤ G * x := Int.mul_le_mul_of_nonneg_right (by omega) c
    omega
theorem jok_of {n w : Nat} {bd G : Int} {M T : Nat → Nat → Int} (n10 : n ≤ 10) (hG : 0 < G) (hM : ∀ i j, i < n → j < n → G * M i j = T i j) (hs : ∀ i j, i < n → j < n → T i j = T j i) (b1 : 1 ≤ bd) (abs : ∀ i j, i < n → j < n → -bd ≤ T i j ∧ T i j ≤ bd) (bB : B w (El.bnd bd n)) (w0 : 0 < w) (w1 : w ≤ 4475) : JOk n w bd (cutT n M) := by
  have sy : ∀ i j, i < n → j < n → M i j = M j i := fun i j hi hj => by
    have h1 := hM i j hi hj
    rw [hs i j hi hj, ← hM j i hj hi] at h1
    exact Int.eq_of_mul_eq_mul_left (by omega) h1
  refine ⟨n10, ⟨fun i j => ?_, fun i j hj => ?_⟩, b1, fun i j => ?_, bB, w0, w1⟩
  · unfold cutT
    by_cases c : i < n ∧ j < n
    · rw [if_pos c, if_pos ⟨c.2, c.1⟩, sy i j c.1 c.2]
    · rw [if_neg c, if_neg (fun z => c ⟨z.2, z.1⟩)]
  · unfold cutT
    rw [if_neg (by omega)]
  · unfold cutT
    by_cases c : i < n ∧ j < n
    · rw [if_pos c]
      exact le_of_mul hG (hM i j c.1 c.2) (abs i j c.1 c.2)
    · rw [if_neg c]
      omega
theorem two_new {H : Hp} {x dx : Addr} {u o : HO} (hx : H x = none) (hd : H dx = none) : Same H (upd (upd H dx u) x o) := fun c v e => by
  have c1 : c ≠ x := fun z => by rw [z, hx] at e; cases e
  have c2 : c ≠ dx := fun z => by rw [z, hd] at e; cases e
  rw [upd_ne c1, upd_ne c2]
  exact e
/-- the common part, the program's table and bottom -/
abbrev GF (n : Nat) (T : Nat → Nat → Int) (l : Int) : Int := gf l (mat n T).flatten
abbrev MF (n : Nat) (T : Nat → Nat → Int) (l : Int) : Nat → Nat → Int := cutT n fun i j => T i j / GF n T l
abbrev BF (n : Nat) (T : Nat → Nat → Int) (l : Int) : Int := l / GF n T l
theorem mf_in {n : Nat} {T : Nat → Nat → Int} {l : Int} {i j : Nat} (hi : i < n) (hj : j < n) : MF n T l i j = T i j / GF n T l := (cutT_in (f := fun i j => T i j / GF n T l) hi hj).symm
theorem B.abs {k : Nat} {x : Int} (h : B k x) : -(2 ^ k : Int) ≤ x ∧ x ≤ (2 ^ k : Int) := by
  have h1 : x.natAbs < 2 ^ k := h
  have h2 : ((2 ^ k : Nat) : Int) = (2 : Int) ^ k := Int.natCast_pow 2 k
  omega
theorem bd1 : (1 : Int) ≤ 2 ^ W := by
  have h2 : ((2 ^ W : Nat) : Int) = (2 : Int) ^ W := Int.natCast_pow 2 W
  have : 0 < 2 ^ W := Nat.two_pow_pos W
  omega
theorem fat_mf {K : PySem.W.Frag} {H : Hp} {cF p : Addr} {n : Nat} {T : Nat → Nat → Int} {l : Int} (h : FAt K H cF p n T l) : FormAt K H cF p n (mat n (MF n T l)) (BF n T l) := by
  unfold FAt at h
  rw [mat_congr (fun i j hi hj => cutT_in (f := fun i j => T i j / gf l (mat n T).flatten) hi hj)] at h
  exact h
theorem numA : (List.range 5).all (fun n => decide ((El.bnd (2 ^ 140) n).natAbs < 2 ^ 710) && decide ((El.bnd (2 ^ 140) (n + 1)).natAbs < 2 ^ 710) && decide ((El.bnd (2 ^ 820) n).natAbs < 2 ^ 4110) && decide ((El.bnd (2 ^ 820) (n + 1)).natAbs < 2 ^ 4110)) = true := by decide +kernel
theorem numB : (List.range 11).all (fun n => decide ((El.bnd (2 ^ 140) n).natAbs < 2 ^ 1600) && decide ((El.bnd (2 ^ 140) (n + 1)).natAbs < 2 ^ 1600) && decide ((El.bnd (2 ^ 133) n).natAbs < 2 ^ 1600) && decide ((El.bnd (2 ^ 133) (n + 1)).natAbs < 2 ^ 1600)) = true := by decide +kernel
/-- what is known of a drawn table -/
structure DT (n : Nat) (T : Nat → Nat → Int) (l : Int) : Prop where
  n10 : n ≤ 10
  sym : ∀ i j, i < n → j < n → T i j = T j i
  tB : ∀ i j, i < n → j < n → B 140 (T i j)
  l1 : 1 ≤ l
  lB : B 110 l
theorem B_abs {k : Nat} {x : Int} (h : B k x) : -(2 ^ k : Int) ≤ x ∧ x ≤ (2 ^ k : Int) := by
  have h1 : x.natAbs < 2 ^ k := h
  have h2 : ((2 ^ k : Nat) : Int) = (2 : Int) ^ k := Int.natCast_pow 2 k
  omega
theorem one_le_pow (k : Nat) : (1 : Int) ≤ 2 ^ k := by
  have h2 : ((2 ^ k : Nat) : Int) = (2 : Int) ^ k := Int.natCast_pow 2 k
  have := Nat.two_pow_pos k
  omega
theorem flat_div (n : Nat) (T : Nat → Nat → Int) (G : Int) : (mat n fun i j => T i j / G).flatten = (mat n T).flatten.map (· / G) := by
  unfold mat vec
  rw [List.map_flatten, List.map_map]
  congr 1
  refine List.map_congr_left fun i _ => ?_
  show (List.range n).map _ = ((List.range n).map (T i)).map (· / G)
  rw [List.map_map]
  rfl
theorem gf_mf {n : Nat} {T : Nat → Nat → Int} {l : Int} (hl : 0 < l) : gf (BF n T l) (mat n (MF n T l)).flatten = 1 := by
  have e : mat n (MF n T l) = mat n fun i j => T i j / GF n T l := (mat_congr (fun i j hi hj => cutT_in (f := fun i j => T i j / GF n T l) hi hj)).symm
  rw [e, flat_div]
  exact gf_one hl _
section
variable {n : Nat} {T : Nat → Nat → Int} {l : Int}
theorem gf_mul (hl : 0 < l) : GF n T l * BF n T l = l := Int.mul_ediv_cancel' (gf_dvd _).1
theorem gf_mt (hl : 0 < l) {i j : Nat} (hi : i < n) (hj : j < n) : GF n T l * MF n T l i j = T i j := by
  show GF n T l * cutT n (fun i j => T i j / GF n T l) i j = _
  rw [← cutT_in (f := fun i j => T i j / GF n T l) hi hj]
  exact Int.mul_ediv_cancel' ((gf_dvd _).2 _ (mat_mem hi hj))
theorem mt0 {i j : Nat} (c : ¬ (i < n ∧ j < n)) : MF n T l i j = 0 := by
  show cutT n (fun i j => T i j / GF n T l) i j = 0
  unfold cutT
  rw [if_neg c]
theorem mt_B {k : Nat} (h : ∀ i j, i < n → j < n → B k (T i j)) : ∀ i j, B k (MF n T l i j) := fun i j => by
  by_cases c : i < n ∧ j < n
  · show B k (cutT n (fun i j => T i j / GF n T l) i j)
    rw [← cutT_in (f := fun i j => T i j / GF n T l) c.1 c.2]
    exact P10.B.quot (h i j c.1 c.2)
  · rw [mt0 c]
    exact Nat.two_pow_pos _
theorem mt_sym (h : ∀ i j, i < n → j < n → T i j = T j i) (i j : Nat) : MF n T l i j = MF n T l j i := by
  by_cases c : i < n ∧ j < n
  · show cutT n (fun i j => T i j / GF n T l) i j = cutT n (fun i j => T i j / GF n T l) j i
    rw [← cutT_in (f := fun i j => T i j / GF n T l) c.1 c.2, ← cutT_in (f := fun i j => T i j / GF n T l) c.2 c.1, h i j c.1 c.2]
  · rw [mt0 c, mt0 fun d => c ⟨d.2, d.1⟩]
theorem bf_pos (hl : 1 ≤ l) : 0 < BF n T l := Int.lt_of_lt_of_le (by decide : (0 : Int) < 1) (quot_pos (gf_pos (by omega) _) (gf_dvd _).1 hl)
theorem DT.g0 (h : DT n T l) : 0 < GF n T l := gf_pos (by have := h.l1; omega) _
theorem DT.gb (h : DT n T l) : GF n T l * BF n T l = l := gf_mul (by have := h.l1; omega)
theorem DT.b0 (h : DT n T l) : 0 < BF n T l := bf_pos h.l1
theorem DT.bB (h : DT n T l) : B 110 (BF n T l) := P10.B.quot h.lB
theorem DT.gt (h : DT n T l) {i j : Nat} (hi : i < n) (hj : j < n) : GF n T l * MF n T l i j = T i j := gf_mt (by have := h.l1; omega) hi hj
theorem DT.gB (h : DT n T l) : ∀ i j, B 140 (GF n T l * MF n T l i j) := fun i j => by
  by_cases c : i < n ∧ j < n
  · rw [h.gt c.1 c.2]
    exact h.tB i j c.1 c.2
  · rw [mt0 c, Int.mul_zero]
    exact Nat.two_pow_pos _
theorem DT.mB (h : DT n T l) : ∀ i j, B 140 (MF n T l i j) := mt_B h.tB
theorem DT.jok (h : DT n T l) : ∃ w, JOk n w (2 ^ 140) (MF n T l) ∧ B w (El.bnd (2 ^ 140) (n + 1)) ∧ w ≤ 1600 ∧ 710 ≤ w ∧ (n ≤ 4 → w = 710) := by
  have mk : ∀ w, B w (El.bnd (2 ^ 140) n) → 0 < w → w ≤ 4475 → JOk n w (2 ^ 140) (MF n T l) := fun w hb w0 w9 =>
    jok_of (T := T) h.n10 h.g0 (fun i j hi hj => Int.mul_ediv_cancel' ((gf_dvd _).2 _ (mat_mem hi hj))) h.sym (by decide) (fun i j hi hj => B_abs (h.tB i j hi hj)) hb w0 w9
  by_cases c : n ≤ 4
  · have := List.all_eq_true.mp numA n (List.mem_range.mpr (by omega))
    simp only [Bool.and_eq_true, decide_eq_true_iff] at this
    exact ⟨710, mk 710 this.1.1.1 (by decide) (by decide), this.1.1.2, by decide, by decide, fun _ => rfl⟩
  · have := List.all_eq_true.mp numB n (List.mem_range.mpr (by have := h.n10; omega))
    simp only [Bool.and_eq_true, decide_eq_true_iff] at this
    exact ⟨1600, mk 1600 this.1.1.1 (by decide) (by decide), this.1.1.2, by decide, by decide, fun z => absurd z c⟩
theorem DT.ltab (h : DT n T l) {H : Hp} {a : Addr} (t : LTab H a n T) : LTab H a n (fun i j => GF n T l * MF n T l i j) := by
  obtain ⟨rs, h1, h2, h3⟩ := t
  refine ⟨rs, h1, h2, fun i hi => ?_⟩
  obtain ⟨p, e1, e2⟩ := h3 i hi
  refine ⟨p, e1, ?_⟩
  rw [← vec_congr (fun j hj => (h.gt hi hj).symm)]
  exact e2
end
/-- what the program's inverse does -/
theorem ps_of {n w kb : Nat} {S : List Nat} {M T : Nat → Nat → Int} {b dd d : Int} {B' : Nat → El.Row} {ps : List El.Pv} (sy : ∀ i j, M i j = M j i) (run : El.Run M n S d B' ps) (iv : InvF w kb S M b dd T) (hb : 0 < b) : El.Ps n S M (MF n T dd) (b * BF n T dd) := by
  have fall := run.fall
  have dp := iv.dp
  have G0 : 0 < GF n T dd := gf_pos dp _
  obtain ⟨N, n1, n2, n3⟩ := iv.ex
  have sub : ∀ s, s ∈ S → s < n := fall.2
  refine ⟨sy, mt_sym fun i j _ _ => iv.sym i j, fun a c h => ?_, fun a x ha hx => ?_, sub, Int.mul_pos hb (bf_pos (by omega))⟩
  · by_cases c1 : a < n ∧ c < n
    · show cutT n (fun i j => T i j / GF n T dd) a c = 0
      rw [← cutT_in (f := fun i j => T i j / GF n T dd) c1.1 c1.2, iv.zero a c h, Int.zero_ediv]
    · exact mt0 c1
  · obtain ⟨p, hp, ep⟩ := El.led_of ha
    obtain ⟨q, hq, eq⟩ := El.led_of hx
    have e1 : GF n T dd * El.lin n (MF n T dd a) (M x) = El.lin n (T a) (M x) := by
      unfold El.lin
      rw [← El.sm_mul]
      exact El.sm_congr fun j hj => by rw [← Int.mul_assoc, gf_mt dp (sub a ha) hj]
    have e2 : El.lin n (T a) (M x) = b * (if p = q then dd else 0) := by
      unfold El.lin
      rw [El.sm_leads (l := El.led S) (r := S.length) (fun i hi => sub _ (El.led_mem hi)) (fun i j hij hj => El.led_mono fall.1 hij hj) (fun j hj hne => by
        have : j ∉ S := fun m => by
          obtain ⟨i, hi, e⟩ := El.led_of m
          exact hne i hi e
        rw [iv.zero a j (.inr this), Int.zero_mul])]
      rw [← n2 p q hp hq, ← El.sm_mul]
      refine El.sm_congr fun s hs => ?_
      show T a (El.led S s) * M x (El.led S s) = _
      rw [← ep, ← eq, n1 p s hp hs, sy (El.led S q) (El.led S s)]
      grind
    have e3 : (if p = q then dd else 0) = (if a = x then dd else 0) := by
      by_cases c : p = q
      · rw [if_pos c, if_pos (by rw [← ep, ← eq, c])]
      · rw [if_neg c, if_neg fun z => c (led_inj fall.1 hp hq (by rw [ep, eq, z]))]
    rw [e2, e3] at e1
    by_cases c : a = x
    · rw [if_pos c] at e1 ⊢
      have e4 := gf_mul (n := n) (T := T) dp
      have : GF n T dd * El.lin n (MF n T dd a) (M x) = GF n T dd * (b * BF n T dd) := by rw [e1]; grind
      exact Int.eq_of_mul_eq_mul_left (by omega) this
    · rw [if_neg c, Int.mul_zero] at e1
      rw [if_neg c]
      rcases Int.mul_eq_zero.mp e1 with z | z
      · omega
      · exact z
/-- kernel vectors beside the leads -/
theorem run_kers {n : Nat} {M : Nat → El.Row} (sy : ∀ i j, M i j = M j i) {S : List Nat} {d : Int} {B' : Nat → El.Row} {ps : List El.Pv} (run : El.Run M n S d B' ps) : ∀ k, k < n → k ∉ S → ∃ y, El.Ker n M S k y := fun k hk hS => ⟨_, setd_ker sy run hk hS⟩
section
variable {P : Program} {w : World} {K : PySem.W.Frag} {mg : Str → Option Value} {base : Heap} {f : Addr} {fd : FuncData} {cF cR : Addr}
theorem mk_form {H : Hp} {x dx : Addr} {v : V} {n : Nat} {R : Nat → Nat → Int} {low : Int} {Q : VK} {E : XK} (hx : H x = none) (hdx : H dx = none) (sn : Sn K H v (tdm (mat n R))) (hs : ∀ i j, i < n → j < n → R i j = R j i) (hn : n ≤ 10) (l0 : 0 < low) (lB : B 9000 low) (q : ∀ H3, Same H H3 → FAt K H3 cF x n R low → Q .non H3) :
    spForm K cF [.ref x, v, .int low] (upd (upd H dx (.own x)) x (.ins cF dx [])) Q E := by
  refine ⟨x, dx, v, mat n R, low, rfl, upd_same, sn.same (two_new hx hdx), mat_sqr, mat_sym (fun i j hi hj => hs i j hi hj), by rw [mat_len]; omega, l0, lB, fun H3 hF hbut => ?_⟩
  rw [mat_len, dm_mat] at hF
  exact q H3 (made_same hx hdx hbut) hF
end
end P10
set_option maxHeartbeats 6000000
set_option exponentiation.threshold 70000
namespace P10
open PySem PySem.Spec PyProof.Rows L2 SX EX WK
theorem lds_mem {A : Nat → El.Row} {k : Nat} {S : List Nat} {d : Int} {B' : Nat → El.Row} {ps : List El.Pv} (run : El.Run A k S d B' ps) (i : Nat) : (0 + (i : Int)) ∈ (ps.reverse.map fun p => (p.1 : Int)) ↔ i ∈ S := by
  rw [← run.leads, List.mem_map, List.mem_map]
  constructor
  · rintro ⟨p, hp, e⟩
    exact ⟨p, List.mem_reverse.mp hp, by omega⟩
  · rintro ⟨p, hp, e⟩
    exact ⟨p, List.mem_reverse.mpr hp, by omega⟩
theorem p1040 : (10 : Int) ^ (40 : Int).toNat = 10000000000000000000000000000000000000000 := by decide
theorem cr_maxK {X : Cx} {K : PySem.W.Frag} (hK : X.K = K) (hc : X.calm = true) : CallR X (.builtin "max") (rMax K) := by
  subst hK
  exact cr_max hc
/-- the greatest number of a list -/
def mxl : List Int → Int
  | [] => 0
  | a :: l => if l = [] then a else if mxl l ≤ a then a else mxl l
theorem mxl_mem : ∀ {l : List Int}, l ≠ [] → mxl l ∈ l
  | [], h => absurd rfl h
  | a :: l, _ => by
    unfold mxl
    by_cases c : l = []
    · rw [if_pos c]
      exact List.mem_cons_self
    · rw [if_neg c]
      by_cases c2 : mxl l ≤ a
      · rw [if_pos c2]
        exact List.mem_cons_self
      · rw [if_neg c2]
        exact List.mem_cons_of_mem _ (mxl_mem c)
theorem mxl_le : ∀ {l : List Int} {x : Int}, x ∈ l → x ≤ mxl l
  | a :: l, x, h => by
    unfold mxl
    by_cases c : l = []
    · subst c
      rw [if_pos rfl]
      rcases List.mem_cons.mp h with rfl | h
      · exact Int.le_refl _
      · cases h
    · rw [if_neg c]
      by_cases c2 : mxl l ≤ a
      · rw [if_pos c2]
        rcases List.mem_cons.mp h with rfl | h
        · exact Int.le_refl _
        · exact Int.le_trans (mxl_le h) c2
      · rw [if_neg c2]
        rcases List.mem_cons.mp h with rfl | h
        · omega
        · exact mxl_le h
theorem mxl_eq {l : List Int} {m : Int} (h : m ∈ l) (h2 : ∀ y, y ∈ l → y ≤ m) : m = mxl l := by
  have h3 : l ≠ [] := fun e => by rw [e] at h; cases h
  have := mxl_le h
  have := h2 _ (mxl_mem h3)
  omega
def abz (x : Int) : Int := if x < 0 then -x else x
theorem abz_le {x c : Int} (h : abz x ≤ c) : -c ≤ x ∧ x ≤ c := by
  unfold abz at h
  by_cases c1 : x < 0
  · rw [if_pos c1] at h
    omega
  · rw [if_neg c1] at h
    omega
/-- the table of an inverse is one of which an inverse can be made -/
theorem jok2 {n w0 : Nat} {S : List Nat} {M TT : Nat → Nat → Int} {b d : Int} (n10 : n ≤ 10) (iv : InvF w0 110 S M b d TT) (h : (n ≤ 4 ∧ w0 = 710) ∨ ∀ i j, i < n → j < n → -(2 ^ 133 : Int) ≤ MF n TT d i j ∧ MF n TT d i j ≤ 2 ^ 133) : ∃ w2 bd2, JOk n w2 bd2 (MF n TT d) ∧ B w2 (El.bnd bd2 (n + 1)) ∧ w2 ≤ 4110 := by
  have dp := iv.dp
  have sy : ∀ i j, MF n TT d i j = MF n TT d j i := mt_sym fun i j _ _ => iv.sym i j
  have mk : ∀ bd w, 1 ≤ bd → (∀ i j, i < n → j < n → -bd ≤ MF n TT d i j ∧ MF n TT d i j ≤ bd) → B w (El.bnd bd n) → 0 < w → w ≤ 4475 → JOk n w bd (MF n TT d) := fun bd w b1 ha hb w0 w9 => by
    have z := jok_of (n := n) (w := w) (bd := bd) (G := 1) (M := MF n TT d) (T := MF n TT d) n10 (by decide) (fun i j _ _ => Int.one_mul _) (fun i j _ _ => sy i j) b1 ha hb w0 w9
    have e : cutT n (MF n TT d) = MF n TT d := by
      funext i j
      by_cases c : i < n ∧ j < n
      · exact (cutT_in c.1 c.2).symm
      · rw [mt0 c]
        unfold cutT
        rw [if_neg c]
    rw [e] at z
    exact z
  rcases h with ⟨c, rfl⟩ | h
  · have := List.all_eq_true.mp numA n (List.mem_range.mpr (by omega))
    simp only [Bool.and_eq_true, decide_eq_true_iff] at this
    exact ⟨4110, 2 ^ 820, mk _ 4110 (one_le_pow _) (fun i j _ _ => B_abs (mt_B (n := n) (T := TT) (l := d) (fun i j _ _ => iv.tB i j) i j)) this.1.2 (by decide) (by decide), this.2, by decide⟩
  · have := List.all_eq_true.mp numB n (List.mem_range.mpr (by omega))
    simp only [Bool.and_eq_true, decide_eq_true_iff] at this
    exact ⟨1600, 2 ^ 133, mk _ 1600 (one_le_pow _) h this.1.2 (by decide) (by decide), this.2, by decide⟩
theorem tie_cut {n : Nat} {T : Nat → Nat → Int} {l : Int} (h : DT n T l) : El.Tie 0 (cutT n T) (MF n T l) := ⟨1, GF n T l, by decide, h.g0, fun i j _ _ => by
  by_cases c : i < n ∧ j < n
  · rw [← cutT_in c.1 c.2, Int.one_mul, h.gt c.1 c.2]
  · rw [mt0 c, Int.mul_zero]
    unfold cutT
    rw [if_neg c]
    rfl⟩
theorem cut_out {n : Nat} {g : Nat → Nat → Int} : El.Out n (cutT n g) := fun i j h => by
  unfold cutT
  rw [if_neg (by omega)]
theorem cut_B {n k : Nat} {T : Nat → Nat → Int} (h : ∀ i j, i < n → j < n → B k (T i j)) (i j : Nat) : B k (cutT n T i j) := by
  by_cases c : i < n ∧ j < n
  · rw [← cutT_in c.1 c.2]
    exact h i j c.1 c.2
  · unfold cutT
    rw [if_neg c]
    exact Nat.two_pow_pos _
theorem ltab_cut {H : Hp} {a : Addr} {n : Nat} {T : Nat → Nat → Int} (t : LTab H a n T) : LTab H a n (cutT n T) := by
  obtain ⟨rs, h1, h2, h3⟩ := t
  refine ⟨rs, h1, h2, fun i hi => ?_⟩
  obtain ⟨p, e1, e2⟩ := h3 i hi
  refine ⟨p, e1, ?_⟩
  rw [← vec_congr (fun j hj => cutT_in (f := T) hi hj)]
  exact e2
theorem sw_in {n : Nat} {g : Int} {T A X : Nat → Nat → Int} (h : ∀ i j, i < n → j < n → g * A i j = T i j) {i j : Nat} (hi : i < n) (hj : j < n) : El.sw n T X i j = g * g * El.sw n A X i j := by
  have e1 : ∀ q, El.lin n (T i) (X q) = g * El.lin n (A i) (X q) := fun q => by
    unfold El.lin
    rw [← El.sm_mul]
    exact El.sm_congr fun k hk => by rw [← h i k hi hk, Int.mul_assoc]
  show El.lin n (fun q => El.lin n (T i) (X q)) (T j) = g * g * El.lin n (fun q => El.lin n (A i) (X q)) (A j)
  unfold El.lin at e1 ⊢
  rw [← El.sm_mul]
  refine El.sm_congr fun k hk => ?_
  show (El.sm n fun j => T i j * X k j) * T j k = g * g * ((El.sm n fun j => A i j * X k j) * A j k)
  rw [e1 k, ← h j k hj hk]
  grind
theorem sw_out {n : Nat} {g : Int} {T A X : Nat → Nat → Int} (h : ∀ i j, i < n → j < n → g * A i j = T i j) {i j : Nat} : El.sw n X T i j = g * El.sw n X A i j := by
  show El.lin n (fun q => El.lin n (X i) (T q)) (X j) = g * El.lin n (fun q => El.lin n (X i) (A q)) (X j)
  unfold El.lin
  rw [← El.sm_mul]
  refine El.sm_congr fun k hk => ?_
  have e1 : (El.sm n fun a => X i a * T k a) = g * El.sm n fun a => X i a * A k a := by
    rw [← El.sm_mul]
    exact El.sm_congr fun a ha => by rw [← h k a hk ha]; grind
  show (El.sm n fun a => X i a * T k a) * X j k = g * ((El.sm n fun a => X i a * A k a) * X j k)
  rw [e1, Int.mul_assoc]
section
variable {P : Program} {w : World} {K : PySem.W.Frag} {mg : Str → Option Value} {base : Heap} {f : Addr} {fd : FuncData} {cF cR cB cN cC cT cS cZ fB fN : Addr} {fdB fdN : FuncData}
def spAsk (K : PySem.W.Frag) (cF : Addr) : Sp := fun vs H Q _ => ∃ (p a : Addr) (n : Nat) (T : Nat → Nat → Int) (l : Int), vs = [.ref p, .ref a, .int l] ∧ DT n T l ∧ FormAt K H cF p n (mat n (MF n T l)) (BF n T l) ∧ LTab H a n T ∧ ∀ H', Same H H' → Q (.bl true) H'
abbrev s__law_asked : Stmt := top 68
abbrev N__law_asked : List Str := ["form", "table", "under", "size", "leads_v", "found", "e", "inside", "i", "j", "line", "number"]
theorem sc__law_asked : FnScope N__law_asked ["form", "table", "under"] (defScope s__law_asked) := ⟨rfl, rfl, rfl, by decide +kernel, rfl, by decide +kernel, by decide +kernel⟩
theorem ok__law_asked (F : Fun K "_law_asked" "_law_asked" s__law_asked f fd) (T : Txt mg) (U : Err K mg cF cB cN cC cT cS cZ fB) (O : Obs K cF cR) (C__law_leads : Cal P w K mg base 2 "_law_leads" ["table"] (spLeads K)) (C_inverse : CalX P w K mg base 7 "inverse" ["form"] (spInv K cF cB)) (C__law_is_inverse : Cal P w K mg base 4 "_law_is_inverse" ["found", "table", "under", "leads_v"] (spIsInv K cF)) (C__law_form_is : Cal P w K mg base 4 "_law_form_is" ["found", "table", "under"] (spFormIs K cF))
    (CH__law_is_point : CalH P w K mg base 2 "_law_is_point" ["value", "size"] (spIsPoint K)) (CH__law_value : CalH P w K mg base 2 "_law_value" ["table", "one", "two"] (spLawV K)) : FnOk P w K mg base CX0 8 f fd ["form", "table", "under"] (spAsk K cF) := by
  refine F.ok sc__law_asked (fun vs H Q E h => ?_) (fun cdv A outer s H vs Q E hr h => ?_)
  · obtain ⟨p, a, n, M, l, rfl, _⟩ := h
    rfl
  obtain ⟨p, a, n, M, l, rfl, dt, hF, hta, q⟩ := h
  refine ⟨_, (pss_cons (ps_set (i := 3) sc__law_asked.nd rfl (Or.inr rfl) (pe_callB call_len_seq (by rfl) T.b_len PySem.boot_len (pa_cons (pv 1) pa_nil)))
  (pss_cons (ps_set (i := 4) sc__law_asked.nd rfl (Or.inr rfl) (pe_cal C__law_leads (hr.mono (by omega)) rfl (pa_cons (pv 1) pa_nil)))
  (C8.pss_cut (L2N.ps_try_as (i := 6) rfl rfl sc__law_asked.nd rfl rfl ⟨rfl, by decide, Or.inl U.g_CableError⟩ takesN (fun W pn xe tk _ => (pss_one (ps_set (i := 5) sc__law_asked.nd rfl (Or.inl rfl) (pe_calX C_inverse (hr.mono (by omega)) rfl tk (pa_cons (pv 0) pa_nil))))) (fun a oe cls d pn hz hf => (pss_cons (ps_if (PW.pt (pw_or (pt_cmpR op_notN (pv 4) pe_non (nomark _)) (pw_or (pt_not (pt_val (pe_callB (call_isX (K := K) rfl hz.zc hf) (by rfl) T.b_isinstance (by decide +kernel) (pa_cons (pv 6) (pa_cons (pe_glob (v := .ref _) rfl U.g_BelowZero rfl) pa_nil))))) (pw_or1 (pt_not (pt_val (pe_callB (call_isX (K := K) rfl hz.zc hf) (by rfl) T.b_isinstance (by decide +kernel) (pa_cons (pv 6) (pa_cons (pe_bltn (v := .ty "ValueError") (by rfl) T.b_ValueError (by decide +kernel) rfl) pa_nil))))))))) (pss_one (ps_ret pe_bl)) pss_nil)
  (pss_cons (ps_if (PW.pt (pw_or (pt_val (pe_callB (call_isX (K := K) rfl hz.zc hf) (by rfl) T.b_isinstance (by decide +kernel) (pa_cons (pv 6) (pa_cons (pe_glob (v := .ref _) rfl U.g_TooNear rfl) pa_nil)))) (pw_or (pt_val (pe_callB (call_isX (K := K) rfl hz.zc hf) (by rfl) T.b_isinstance (by decide +kernel) (pa_cons (pv 6) (pa_cons (pe_glob (v := .ref _) rfl U.g_NoSolution rfl) pa_nil)))) (pw_or1 (pt_val (pe_callB (call_isX (K := K) rfl hz.zc hf) (by rfl) T.b_isinstance (by decide +kernel) (pa_cons (pv 6) (pa_cons (pe_glob (v := .ref _) rfl U.g_SizesDiffer rfl) pa_nil)))))))) (pss_one (ps_ret pe_bl)) pss_nil)
  (pss_cons (ps_if (PW.pt (pw_or (pt_val (pe_callB (call_isX (K := K) rfl hz.zc hf) (by rfl) T.b_isinstance (by decide +kernel) (pa_cons (pv 6) (pa_cons (pe_glob (v := .ref _) rfl U.g_ZeroBottom rfl) pa_nil)))) (pw_or1 (pt_not (pt_val (pe_calH CH__law_is_point ((roomS hr).mono (by omega)) (hot_of hz hf) rfl (pa_cons (pe_xf U.x_BelowZero U.no_BelowZero_point hz.zc hf (pv 6)) (pa_cons (pv 3) pa_nil)))))))) (pss_one (ps_ret pe_bl)) pss_nil)
  (pss_one (ps_ret (pe_cmpR op_lt (pe_calH CH__law_value ((roomS hr).mono (by omega)) (hot_of hz hf) rfl (pa_cons (pv 1) (pa_cons (pe_xf U.x_BelowZero U.no_BelowZero_point hz.zc hf (pv 6)) (pa_cons (pe_xf U.x_BelowZero U.no_BelowZero_point hz.zc hf (pv 6)) pa_nil)))) pe_int (nomark _)))))))))
  (pss_cons (ps_if (PW.pt (pw_or (pt_cmpR op_isN (pv 4) pe_non (nomark _)) (pw_or1 (pt_not (pt_val (pe_cal C__law_is_inverse (hr.mono (by omega)) rfl (pa_cons (pv 5) (pa_cons (pv 1) (pa_cons (pv 2) (pa_cons (pv 4) pa_nil)))))))))) (pss_one (ps_ret pe_bl)) pss_nil)
  (C8.pss_cut (ps_if (PW.pt (pw_and (pt_cmpR op_gt (pv 3) pe_int (nomark _)) (pw_and1 (pt_cmpR op_gt (pe_callB (cr_max rfl) (by rfl) T.b_max (by decide +kernel) (pa_cons (pe_lc (own := [("line", 10)]) (g := gName 10) (tt := tYes) (by rfl) sc__law_asked.nd (pi_tup (pe_fld (pv 5) rfl)) (blkOk_by (N := N__law_asked) (sc := defScope s__law_asked) (by decide +kernel)) (fun _ _ _ _ _ => (pg_name (i := 10) sc__law_asked.nd rfl (Or.inl rfl))) (fun _ _ _ _ _ => pts_nil) (fun _ _ _ _ _ => (pe_callB (cr_maxK (K := K) rfl rfl) (by rfl) T.b_max (by decide +kernel) (pa_cons (pe_lc (own := [("number", 11)]) (g := gName 11) (tt := tYes) (by rfl) sc__law_asked.nd (pi_tupK (K := K) rfl (pv 10)) (blk_nest (N := N__law_asked) (sc0 := defScope s__law_asked) rfl (by decide +kernel)) (fun _ _ _ _ _ => (pg_name (i := 11) sc__law_asked.nd rfl (Or.inl rfl))) (fun _ _ _ _ _ => pts_nil) (fun _ _ _ _ _ => (pe_callB call_abs (by rfl) T.b_abs (by decide +kernel) (pa_cons (pv 11) pa_nil)))) pa_nil)))) pa_nil)) (pe_op op_pow pe_int pe_int) (nomark _))))) (pss_one (ps_ret pe_bl)) pss_nil)
  (pss_cons (ps_setLc (i := 7) (own := [("i", 8)]) (g := gName 8) (tt := tYes) (by rfl) sc__law_asked.nd rfl rfl (sw_true rfl rfl rfl (by decide +kernel)) (pi_range1 (by rfl) T.b_range (pa_cons (pv 3) pa_nil)) (blkOk_by (N := N__law_asked) (sc := defScope s__law_asked) (by decide +kernel)) (fun _ _ _ _ _ => (pg_name (i := 8) sc__law_asked.nd rfl (Or.inr rfl))) (fun _ _ _ _ _ => pts_nil) (fun _ _ _ _ _ => (pe_lc (own := [("j", 9)]) (g := gName 9) (tt := tYes) (by rfl) sc__law_asked.nd (pi_range1 (by rfl) T.b_range (pa_cons (pv 3) pa_nil)) (blk_nest (N := N__law_asked) (sc0 := defScope s__law_asked) rfl (by decide +kernel)) (fun _ _ _ _ _ => (pg_name (i := 9) sc__law_asked.nd rfl (Or.inl rfl))) (fun _ _ _ _ _ => pts_nil) (fun _ _ _ _ _ => (pe_op op_mulW (pe_ix (ix_listK (K := K) rfl) /-?-/ (pe_ix (ix_listK (K := K) rfl) (pv 1) (pv 8) (fun _ _ => rfl)) (pv 9) (fun _ _ => rfl)) (pe_callTy call_int1 (by rfl) T.b_int (by decide +kernel) (pa_cons (pe_and (pe_cmpR (op_in_seqK (K := K) rfl) (pv 8) (pv 4) (by rfl)) (pe_one (pe_cmpR (op_in_seqK (K := K) rfl) (pv 9) (pv 4) (by rfl)))) pa_nil)))))))
  (pss_one (ps_ret (pe_cal C__law_form_is (hr.mono (by omega)) rfl (pa_cons (pe_calX C_inverse (hr.mono (by omega)) rfl takesN (pa_cons (pv 5) pa_nil)) (pa_cons (pv 7) (pa_cons (pv 2) pa_nil)))))))))))), ?_⟩
  obtain ⟨w0, jo, bn, w9, w7, wn⟩ := dt.jok
  have n10 := dt.n10
  have sy := jo.whole.sym
  have g0 := dt.g0
  have hta' := hta
  obtain ⟨rs, ha, hl, row⟩ := hta'
  have hlen : (rs.map V.ref).length = n := by rw [List.length_map, hl]
  refine ⟨_, rfl, a, _, rfl, .inl (SqL.of ha), ?_⟩
  rw [hlen]
  refine ⟨_, rfl, a, n, w0, _, MF n M l, cutT n M, rfl, ltab_cut hta, jo, cut_out, cut_B fun i j hi hj => (dt.tB i j hi hj).mono (by omega), tie_cut dt, fun sv H1 s1 hsv => ?_⟩
  refine ⟨fun σ' H2 => ∃ (qf : Addr) (v6 : Option V) (S : List Nat) (d : Int) (B' : Nat → El.Row) (ps : List El.Pv) (TT : Nat → Nat → Int), σ' = [some (.ref p), some (.ref a), some (.int l), some (.int n), some sv, some (.ref qf), v6, none, none, none, none, none] ∧ Same H1 H2 ∧ El.Run (MF n M l) n S d B' ps ∧ FAt K H2 cF qf n TT d ∧ InvF w0 110 S (MF n M l) (BF n M l) d TT, ?_, ?_⟩
  · refine ⟨_, rfl, p, n, w0, 110, BF n M l, 2 ^ 140, MF n M l, rfl, hF.same s1, jo, bn, dt.bB, by decide, by decide, fun qf H2 S d B' ps TT s2 run hq iv => ⟨qf, none, S, d, B', ps, TT, rfl, s2, run, hq, iv⟩, fun z dd H4 s4 bz hd4 => ?_⟩
    have s04 := s1.trans s4
    have hsv4 := hsv.same s4
    obtain ⟨k, S, d, B', ps, xx, hk, run, bad, htv⟩ := id bz
    rcases hsv4 with ⟨r1, S1, d1, B1, ps1, rfl, run1, hr1⟩ | ⟨rfl, k1, S1, d1, B1, ps1, hk1, run1, bd1⟩
    · exact (run_not_bd run1 hk run (bad_bd bad)).elim
    refine ⟨true, U.eBC, fun _ e _ => ?_, fun z => Bool.noConfusion z⟩
    refine ⟨_, rfl, rfl, _, rfl, ifF rfl ?_⟩
    refine ⟨_, rfl, cB, _, _, true, rfl, .own _, rfl, U.xB, .inr ⟨dd, _, rfl, hd4⟩, U.kBB, _, rfl, ifF rfl ?_⟩
    refine ⟨_, rfl, cB, _, _, true, rfl, .ty _, rfl, U.xB, .inr ⟨dd, _, rfl, hd4⟩, U.kBV, _, rfl, ifF rfl ?_⟩
    refine ⟨_, rfl, cB, _, _, false, rfl, .own _, rfl, U.xB, .inr ⟨dd, _, rfl, hd4⟩, U.kBT, _, rfl, ifF rfl ?_⟩
    refine ⟨_, rfl, cB, _, _, false, rfl, .own _, rfl, U.xB, .inr ⟨dd, _, rfl, hd4⟩, U.kBN, _, rfl, ifF rfl ?_⟩
    refine ⟨_, rfl, cB, _, _, false, rfl, .own _, rfl, U.xB, .inr ⟨dd, _, rfl, hd4⟩, U.kBS, _, rfl, ifF rfl ?_⟩
    refine ⟨_, rfl, cB, _, _, false, rfl, .own _, rfl, U.xB, .inr ⟨dd, _, rfl, hd4⟩, U.kBZ, _, rfl, ifF rfl ?_⟩
    refine ⟨_, rfl, rfl, rfl, dd, _, .ref z, rfl, hd4, lk_hit, _, rfl, z, n, setd n ps xx, rfl, htv, by omega, fun H5 s5 => ⟨true, rfl, ifF rfl ?_⟩⟩
    have hd5 := s5 _ _ hd4
    refine ⟨_, rfl, _, rfl, rfl, rfl, dd, _, .ref z, rfl, hd5, lk_hit, _, rfl, rfl, rfl, dd, _, .ref z, rfl, hd5, lk_hit, a, z, n, fun i j => GF n M l * MF n M l i j, setd n ps xx, rfl, LTab.same (s04.trans s5) (dt.ltab hta), Same_seqT s5 htv, by omega, fun i j _ _ => (dt.gB i j).mono (by decide), fun i _ => setd_B jo run hk bad i, fun H6 s6 => ⟨_, _, rfl, rfl, ?_⟩⟩
    have hneg := neg_scale g0 (bad_value jo run hk bad)
    show Q (V.bl (decide _)) _
    rw [decide_eq_true hneg]
    exact q _ (s04.trans (s5.trans s6))
  rintro σ H2 ⟨qf, v6, S, d, B', ps, TT, rfl, s2, run, hq, iv⟩
  have s02 := s1.trans s2
  rcases hsv.same s2 with ⟨r1, S1, d1, B1, ps1, rfl, run1, hr1⟩ | ⟨rfl, k1, S1, d1, B1, ps1, hk1, run1, bd1⟩
  case inr => exact (run_not_bd run hk1 run1 bd1).elim
  obtain ⟨rfl, rfl, rfl, rfl⟩ := run1.same run
  have b0 := dt.b0
  have dp := iv.dp
  have PS := ps_of sy run1 iv b0
  have XB : ∀ i j, B 1710 (MF n TT d1 i j) := fun i j => mt_B (n := n) (T := TT) (l := d1) (fun i j _ _ => (iv.tB i j).mono (by omega)) i j
  have XbB : B 1600 (BF n TT d1) := P10.B.quot (iv.dB.mono (by omega))
  have Xb0 : 0 < BF n TT d1 := bf_pos (by omega)
  have gb := dt.gb
  refine ⟨_, rfl, rfl, _, rfl, ifF rfl ?_⟩
  refine ⟨_, rfl, _, rfl, _, rfl, _, rfl, qf, a, r1, n, MF n TT d1, M, BF n TT d1, l, S1, _, rfl, fat_mf hq, LTab.same s02 hta, hr1, fun i => lds_mem run1 i, n10, by omega, XbB.mono (by decide), gf_mf dp, fun i j _ _ => (XB i j).mono (by decide), fun i j hi hj => (dt.tB i j hi hj).mono (by decide), dt.lB.mono (by decide), PS.symT, fun i j h => PS.zero i j (.inl h), fun i j hi hj => ?_, fun i j hi hj => ?_, fun H3 s3 => ⟨true, rfl, ifF rfl ?_⟩⟩
  · rw [sw_in (fun i j hi hj => dt.gt hi hj) hi hj, PS.aza run1 (run_kers sy run1) hi hj, ← dt.gt hi hj]
    generalize MF n M l i j = z
    generalize BF n TT d1 = y
    rw [← gb]
    grind
  · rw [sw_out (fun i j hi hj => dt.gt hi hj), PS.zaz i j]
    generalize MF n TT d1 i j = z
    generalize BF n TT d1 = y
    rw [← gb]
    grind
  have s03 := s02.trans s3
  have s23 := s3
  have hr3 := s3 _ _ hr1
  obtain ⟨dx, e, hi, hz⟩ := (fat_mf hq).same s3
  obtain ⟨a2, vs, ea, he, hvl, hrow⟩ := fz_mat hz
  cases ea
  rw [mat_len] at hvl
  refine ⟨fun σ' H' => σ' = [some (.ref p), some (.ref a), some (.int l), some (.int n), some (.ref r1), some (.ref qf), v6, none, none, none, none, none] ∧ Same H3 H' ∧ ((n ≤ 4 ∧ w0 = 710) ∨ ∀ i j, i < n → j < n → -(2 ^ 133 : Int) ≤ MF n TT d1 i j ∧ MF n TT d1 i j ≤ 2 ^ 133), ?_, ?_⟩
  · refine ⟨_, rfl, _, _, rfl, rfl, _, rfl, ite2 (fun c => ?_) (fun c => ⟨rfl, fun _ _ h => h, .inl ?_⟩)⟩
    · have hn4 : (4 : Int) < n := of_decide_eq_true c
      obtain ⟨rw', hrw⟩ : ∃ f : Nat → List Int, f = fun i => (List.range n).map fun j => abz (MF n TT d1 i j) := ⟨_, rfl⟩
      refine ⟨_, rfl, qf, cF, dx, _, _, rfl, hi, O.clF, O.F_entries, lkFe _ _ _, e, rfl, ⟨_, he⟩, fun D hD => ?_⟩
      refine lc_m (walk_tup (K := K) (a := e) (xs := vs)) RI (stb_RI (K := K)) (List.range n) (by rw [hvl, List.length_range]) (by rw [List.length_range]; omega) hD (fun H' s => Same_seqT s he) (fun _ _ _ _ => ys_at) (fun i => mxl (rw' i)) (fun c1 i v H5 H6 hc s5 s6 yl A B hA => ?_) (fun H5 l5 s5 hl5 rs => ?_)
      · obtain ⟨hc1, rfl⟩ := in_range hc
        obtain ⟨r, hr1', hr2⟩ := hrow i _ (mat_at hc1)
        have e1 := yl.2
        rw [hr1'] at e1
        cases e1
        refine ⟨rfl, lc_yes ⟨_, rfl, r, rfl, ⟨_, Same_seqT s6 hr2⟩, fun D2 hD2 => ?_⟩⟩
        refine lc_m (walk_tup (K := K) (a := r) (xs := (vec n (MF n TT d1 i)).map V.int)) RI (stb_RI (K := K)) (List.range n) (by rw [vec_lenV, List.length_range]) (by rw [List.length_range]; omega) hD2 (fun H' s => Same_seqT (s6.trans s) hr2) (fun _ _ _ _ => ys_at) (fun j => abz (MF n TT d1 i j)) (fun c2 j v H7 H8 hc2 s7 s8 yl2 A2 B2 hA2 => ?_) (fun H7 l7 s7 hl7 rs7 => ?_)
        · obtain ⟨hj, rfl⟩ := in_range hc2
          have e2 := yl2.2
          rw [vecV_at hj] at e2
          cases e2
          exact ⟨rfl, lc_yes ⟨_, rfl, _, rfl, hA2 _ _ (fun _ _ h => h) rfl⟩⟩
        · refine ⟨D2, rw' i, rfl, SqL.of (by rw [hl7, rs7.ints, hrw]), by rw [hrw, List.length_map, List.length_range]; omega, fun m hm hle => hA _ _ s7 ?_⟩
          rw [mxl_eq hm hle]
          rfl
      · refine ⟨D, (List.range n).map fun i => mxl (rw' i), rfl, SqL.of (by rw [hl5, rs.ints]), by rw [List.length_map, List.length_range]; omega, fun m hm hle => ?_⟩
        refine ⟨_, _, rfl, rfl, ⟨by decide, by decide, by decide⟩, _, _, rfl, rfl, _, rfl, ite2 (fun _ => q _ (s03.trans s5)) (fun c3 => ⟨rfl, s5, .inr fun i j hi1 hj1 => ?_⟩)⟩
        have c4 : ¬ ((10 : Int) ^ (40 : Int).toNat < m) := fun h => c3 (decide_eq_true h)
        rw [p1040] at c4
        have c5 := hle (mxl (rw' i)) (List.mem_map.mpr ⟨i, List.mem_range.mpr hi1, rfl⟩)
        have c6 : abz (MF n TT d1 i j) ≤ mxl (rw' i) := mxl_le (by rw [hrw]; exact List.mem_map.mpr ⟨j, List.mem_range.mpr hj1, rfl⟩)
        have c7 := abz_le (x := MF n TT d1 i j) (c := 10000000000000000000000000000000000000000) (by omega)
        have c8 : (10000000000000000000000000000000000000000 : Int) ≤ 2 ^ 133 := by decide
        constructor
        · exact Int.le_trans (Int.neg_le_neg c8) c7.1
        · exact Int.le_trans c7.2 c8
    · have : ¬ ((4 : Int) < n) := fun h => c (decide_eq_true h)
      exact ⟨by omega, wn (by omega)⟩
  rintro σ H4 ⟨rfl, s4, hbd⟩
  have s04 := s03.trans s4
  have s24 := s23.trans s4
  have hr4 := s4 _ _ hr3
  have ha4 := s04 _ _ ha
  have i0 : ∀ i : Nat, (0 + (i : Int)).toNat = i := fun i => by omega
  obtain ⟨IN, hIN⟩ : ∃ f : Nat → Nat → Int, f = fun i j => if i ∈ S1 ∧ j ∈ S1 then M i j else 0 := ⟨_, rfl⟩
  refine ⟨_, rfl, (n : Int), rfl, by omega, by omega, fun LD hLD => ?_⟩
  refine lc_gm (walk_range (lo := 0) (n := n)) (RL LD) stb_RL (List.range n) (by rw [List.length_range]) (by rw [List.length_range]; omega) hLD (fun _ _ => trivial) (fun _ _ _ _ => ys_fn) (fun i => vec n (IN i)) (fun c i x H5 H6 hc s5 s6 yl hdl A B' hA => ?_) (fun H5 l5 s5 hl5 rz => ?_)
  · obtain ⟨hi1, rfl⟩ := in_range hc
    rw [yl.2]
    refine ⟨rfl, lc_yes ⟨_, rfl, (n : Int), rfl, by omega, by omega, fun D2 hD2 => ?_⟩⟩
    refine lc_m (walk_range (lo := 0) (n := n)) RI (stb_RI (K := K)) (List.range n) (by rw [List.length_range]) (by rw [List.length_range]; omega) hD2 (fun _ _ => trivial) (fun _ _ _ _ => ys_fn) (IN i) (fun c j v H7 H8 hc s7 s8 yl A2 B2 hA2 => ?_) (fun H7 l7 s7 hl7 rz => ?_)
    · obtain ⟨hj1, rfl⟩ := in_range hc
      rw [yl.2]
      have s68 := s6.trans s8
      obtain ⟨r3, hr5, hr6⟩ := row i hi1
      refine ⟨rfl, lc_yes ⟨_, rfl, _, rfl, a, _, _, _, rfl, rfl, SqL.of (s68 _ _ ha4), at_pos (by omega) (by rw [i0, List.getElem?_map, hr5]; rfl), _, rfl, r3, _, _, _, rfl, rfl, SqL.of (s68 _ _ (s04 _ _ hr6)), ixv hj1, ?_⟩⟩
      have eM : ∀ k : Nat, inV (V.int (0 + (k : Int))) ((ps1.reverse.map fun p => (p.1 : Int)).map V.int) = decide (k ∈ S1) := fun k => by
        rw [inV_ints]
        exact decide_eq_decide.mpr (lds_mem run1 k)
      have fin : ∀ b : Bool, (b = true ↔ i ∈ S1 ∧ j ∈ S1) → RI H8 (V.int (M i j * (if b = true then 1 else 0))) (IN i j) := fun b hb => by
        show V.int _ = V.int _
        rw [hIN]
        show V.int _ = V.int (if i ∈ S1 ∧ j ∈ S1 then M i j else 0)
        by_cases c : i ∈ S1 ∧ j ∈ S1
        · rw [if_pos c, if_pos (hb.mpr c), Int.mul_one]
        · rw [if_neg c, if_neg (fun z => c (hb.mp z)), Int.mul_zero]
      have bl : ∀ b : Bool, CMulW (M i j) (if b = true then 1 else 0) := fun b => wmul (dt.tB i j hi1 hj1) (show B 2 (if b = true then 1 else 0) by cases b <;> decide) (by decide) (by decide) (by decide)
      refine ⟨_, rfl, _, rfl, r1, _, rfl, .inl (SqL.of (s68 _ _ hr4)), rfl, flat_ints _, ?_⟩
      have e0 : ∀ b : Bool, (if false = true then !b else b) = b := fun _ => rfl
      refine ⟨_, rfl, ite2 (fun c => ?_) (fun c => ?_)⟩
      · rw [e0, eM] at c
        refine ⟨_, rfl, _, rfl, r1, _, rfl, .inl (SqL.of (s68 _ _ hr4)), rfl, flat_ints _, .inr ⟨_, rfl, _, _, rfl, rfl, bl _, hA2 _ _ (fun _ _ h => h) (fin _ ?_)⟩⟩
        rw [e0, eM, decide_eq_true_iff]
        exact ⟨fun h => ⟨of_decide_eq_true c, h⟩, fun h => h.2⟩
      · rw [e0, eM] at c
        exact .inr ⟨_, rfl, _, _, rfl, rfl, bl _, hA2 _ _ (fun _ _ h => h) (fin false ⟨fun h => Bool.noConfusion h, fun h => (c (decide_eq_true h.1)).elim⟩)⟩
    · refine hA _ _ s7 ⟨D2, rfl, fun z => ?_, by rw [hl7, rz.ints]; rfl⟩
      obtain ⟨l, hl⟩ := hdl
      rw [z, hl] at hD2
      cases hD2
  have tb := LTab.of hl5 rz
  have s05 := s04.trans s5
  obtain ⟨w2, bd2, jo2, bn2, w2b⟩ := jok2 n10 iv hbd
  refine ⟨_, rfl, qf, n, w2, 1600, BF n TT d1, bd2, MF n TT d1, rfl, (fat_mf hq).same (s24.trans s5), jo2, bn2, XbB, by decide, by decide, fun q2 H6 S2 d2 B2 ps2 T2 s6 run2 hq2 iv2 => ?_, fun z dd H6 s6 bz hd6 => ?_⟩
  · have PS2 := ps_of PS.symT run2 iv2 Xb0
    have hS : ∀ k, k ∈ S2 ↔ k ∈ S1 := PS.leads run2 (run_kers PS.symT run2)
    have dp2 := iv2.dp
    refine ⟨_, rfl, _, rfl, q2, LD, n, MF n T2 d2, IN, BF n T2 d2, l, rfl, fat_mf hq2, LTab.same s6 tb, by omega, bf_pos (by omega), (P10.B.quot iv2.dB).mono (by omega), gf_mf dp2, fun i j _ _ => (mt_B (n := n) (T := T2) (l := d2) (fun i j _ _ => iv2.tB i j) i j).mono (by omega), fun i j hi1 hj1 => ?_, dt.lB.mono (by decide), fun i j hi1 hj1 => ?_, fun H7 s7 => q _ (s05.trans (s6.trans s7))⟩
    · rw [hIN]
      show _ = (if i ∈ S1 ∧ j ∈ S1 then M i j else 0) * _
      by_cases c : i ∈ S1 ∧ j ∈ S1
      · rw [if_pos c]
        have e1 := PS.back PS2 hS c.1 c.2
        have e2 : BF n T2 d2 * MF n M l i j = BF n M l * MF n T2 d2 i j := by
          refine Int.eq_of_mul_eq_mul_left (a := BF n TT d1) (by omega) ?_
          rw [← Int.mul_assoc, e1]
          grind
        rw [← dt.gt hi1 hj1]
        generalize MF n M l i j = z at *
        generalize MF n T2 d2 i j = y at *
        rw [← gb]
        grind
      · rw [if_neg c, Int.zero_mul, PS2.zero i j, Int.zero_mul]
        by_cases c1 : i ∈ S1
        · exact .inr fun h => c ⟨c1, (hS j).mp h⟩
        · exact .inl fun h => c1 ((hS i).mp h)
    · rw [hIN]
      show B 20000 (if i ∈ S1 ∧ j ∈ S1 then M i j else 0)
      by_cases c : i ∈ S1 ∧ j ∈ S1
      · rw [if_pos c]
        exact (dt.tB i j hi1 hj1).mono (by decide)
      · rw [if_neg c]
        exact Nat.two_pow_pos _
  · obtain ⟨k, S2, d2, B2, ps2, x, hk, run2, bad, _⟩ := bz
    have h1 := bad_value jo2 run2 hk bad
    have h2 := PS.psd (run1.psd sy) (setd n ps2 x)
    omega
end
end P10
set_option exponentiation.threshold 3000
namespace P10
open PySem PySem.Spec PyProof.Rows L2 SX EX WK
theorem menu_rg : rgV 0 14 = menuV.map V.int := by decide +kernel
theorem mod_in {a n : Int} (hn : 0 < n) : ∃ k : Nat, a % n = (k : Int) ∧ (k : Int) < n := ⟨(a % n).toNat, by have := Int.emod_nonneg a (show n ≠ 0 by omega); omega, by have := Int.emod_nonneg a (show n ≠ 0 by omega); have := Int.emod_lt_of_pos a hn; omega⟩
section
variable {P : Program} {w : World} {K : PySem.W.Frag} {mg : Str → Option Value} {base : Heap} {f : Addr} {fd : FuncData} {cF cR : Addr}
def spSec (K : PySem.W.Frag) : Sp := fun vs H Q _ => ∃ (a r tb : Addr) (ns : List Int) (n : Nat) (T : Nat → Nat → Int) (u : Int), vs = [.ref a, .ref r] ∧ SqL K H a (ns.map V.int) ∧ H r = some (.lst [.int n, .ref tb, .int u]) ∧ n ≤ 10 ∧ LTab H tb n T ∧ (∀ i j, i < n → j < n → T i j = T j i) ∧ (∀ i j, i < n → j < n → B 139 (T i j)) ∧ 1 ≤ u ∧ B 101 u ∧
  ∀ r2 tb2 H' n2 T2 u2, Same H H' → H' r2 = some (.lst [.int (n2 : Nat), .ref tb2, .int u2]) → LTab H' tb2 n2 T2 → DT n2 T2 u2 → Q (.ref r2) H'
abbrev s__law_second : Stmt := top 67
abbrev N__law_second : List Str := ["script", "one", "turn", "table", "i", "j", "line"]
theorem sc__law_second : FnScope N__law_second ["script", "one"] (defScope s__law_second) := ⟨rfl, rfl, rfl, by decide +kernel, rfl, by decide +kernel, by decide +kernel⟩
theorem ok__law_second (F : Fun K "_law_second" "_law_second" s__law_second f fd) (T : Txt mg) (C__law_digits : Cal P w K mg base 1 "_law_digits" ["cell", "sizes"] (spDigits K)) (C__law_cell : Cal P w K mg base 1 "_law_cell" ["script", "k"] (spCell K)) (C__law_draw_form : Cal P w K mg base 4 "_law_draw_form" ["script", "at", "menu"] (spDF K)) : FnOk P w K mg base CX0 5 f fd ["script", "one"] (spSec K) := by
  refine F.ok sc__law_second (fun vs H Q E h => ?_) (fun cdv A outer s H vs Q E hr h => ?_)
  · obtain ⟨a, r, tb, ns, n, M, u, rfl, _⟩ := h
    rfl
  obtain ⟨a, r, tb, ss, n, M, u, rfl, ha, hr0, n10, ht, sy, bM, u1, uB, q⟩ := h
  refine ⟨_, (pss_cons (ps_set (i := 2) sc__law_second.nd rfl (Or.inl rfl) (pe_cal C__law_digits (hr.mono (by omega)) rfl (pa_cons (pe_cal C__law_cell (hr.mono (by omega)) rfl (pa_cons (pv 0) (pa_cons pe_int pa_nil))) (pa_cons (pe_lst (pa_cons pe_int (pa_cons pe_int (pa_cons pe_int (pa_cons pe_int (pa_cons pe_int pa_nil)))))) pa_nil))))
  (pss_cons (ps_if (PW.pt (pw_or (pt_cmpR op_lt (pe_ix ix_list (pv 2) pe_int (fun _ _ => rfl)) pe_int (nomark _)) (pw_or1 (pt_cmpR op_eq (pe_ix ix_list (pv 1) pe_int (fun _ _ => rfl)) pe_int (nomark _))))) (pss_one (ps_ret (pe_cal C__law_draw_form (hr.mono (by omega)) rfl (pa_cons (pv 0) (pa_cons pe_int (pa_cons (pe_listRg rfl (by rfl) T.b_list (prg_1 (by rfl) T.b_range pe_int)) pa_nil)))))) pss_nil)
  (pss_cons (ps_if (pt_cmpR op_eq (pe_ix ix_list (pv 2) pe_int (fun _ _ => rfl)) pe_int (nomark _)) (pss_one (ps_ret (pe_lst (pa_cons (pe_ix ix_list (pv 1) pe_int (fun _ _ => rfl)) (pa_cons (pe_ix ix_list (pv 1) pe_int (fun _ _ => rfl)) (pa_cons (pe_op op_add (pe_op op_add (pe_ix ix_list (pv 1) pe_int (fun _ _ => rfl)) pe_int) (pe_ix ix_list (pv 2) pe_int (fun _ _ => rfl))) pa_nil)))))) pss_nil)
  (pss_cons (ps_setLc (i := 3) (own := [("line", 6)]) (g := gName 6) (tt := tYes) (by rfl) sc__law_second.nd rfl rfl (sw_true rfl rfl rfl (by decide +kernel)) (pi_list (pe_ix ix_list (pv 1) pe_int (fun _ _ => rfl))) (blkOk_by (N := N__law_second) (sc := defScope s__law_second) (by decide +kernel)) (fun _ _ _ _ _ => (pg_name (i := 6) sc__law_second.nd rfl (Or.inl rfl))) (fun _ _ _ _ _ => pts_nil) (fun _ _ _ _ _ => (pe_callTy (call_list_ofK (K := K) rfl) (by rfl) T.b_list (by decide +kernel) (pa_cons (pv 6) pa_nil))))
  (pss_cons (ps_set (i := 4) sc__law_second.nd rfl (Or.inl rfl) (pe_op op_mod (pe_callTy call_int1 (by rfl) T.b_int (by decide +kernel) (pa_cons (pe_ix ix_list (pv 2) pe_int (fun _ _ => rfl)) pa_nil)) (pe_ix ix_list (pv 1) pe_int (fun _ _ => rfl))))
  (pss_cons (ps_set (i := 5) sc__law_second.nd rfl (Or.inl rfl) (pe_op op_mod (pe_callTy call_int1 (by rfl) T.b_int (by decide +kernel) (pa_cons (pe_ix ix_list (pv 2) pe_int (fun _ _ => rfl)) pa_nil)) (pe_ix ix_list (pv 1) pe_int (fun _ _ => rfl))))
  (pss_cons (ps_asg (pe_op op_sub (pe_op op_add (pe_ix ix_list /-?-/ (pe_ix ix_list (pv 3) (pv 4) (fun _ _ => rfl)) (pv 5) (fun _ _ => rfl)) (pe_op op_mulW pe_int (pe_ix ix_list (pv 2) pe_int (fun _ _ => rfl)))) pe_int) (pg_sub (pe_ix ix_list (pv 3) (pv 4) (fun _ _ => rfl)) (pv 5) set_list))
  (pss_cons (ps_asg (pe_ix ix_list /-?-/ (pe_ix ix_list (pv 3) (pv 4) (fun _ _ => rfl)) (pv 5) (fun _ _ => rfl)) (pg_sub (pe_ix ix_list (pv 3) (pv 5) (fun _ _ => rfl)) (pv 4) set_list))
  (pss_one (ps_ret (pe_lst (pa_cons (pe_ix ix_list (pv 1) pe_int (fun _ _ => rfl)) (pa_cons (pv 3) (pa_cons (pe_ix ix_list (pv 1) pe_int (fun _ _ => rfl)) pa_nil)))))))))))))), ?_⟩
  refine ⟨_, rfl, a, ss, 11, rfl, ha, by decide, by decide, fun c => ?_⟩
  refine ⟨line_ge (by show 5 ≤ 100000; decide), fun l0 hl0 => ?_⟩
  refine ⟨c, l0, [4, 10, 10, 2, 100], rfl, SqL.of (by rw [upd_same]; rfl), by decide, szs (by decide), fun p ds hp hd => ?_⟩
  obtain ⟨y, rfl, hy⟩ := dig_vec hd (m := 5) rfl
  have s1 := (same_new hl0 (.lst [V.int 4, V.int 10, V.int 10, V.int 2, V.int 100])).trans (same_new hp (.lst ((vec 5 y).map V.int)))
  have h1p : upd (upd H l0 (.lst [V.int 4, V.int 10, V.int 10, V.int 2, V.int 100])) p (.lst ((vec 5 y).map V.int)) p = some (.lst ((vec 5 y).map V.int)) := upd_same
  generalize upd (upd H l0 (.lst [V.int 4, V.int 10, V.int 10, V.int 2, V.int 100])) p (.lst ((vec 5 y).map V.int)) = H1 at *
  have hr1 := s1 _ _ hr0
  have hS := SqL.of (K := K) h1p
  have tix : ∀ k : Nat, k < 5 → atI ((vec 5 y).map V.int) (k : Int) = some (.int (y k)) := fun k hk => ixa (k := k) (by omega) (by omega) hk
  have y0 := hy 0 4 rfl
  have y1 := hy 1 10 rfl
  have y2 := hy 2 10 rfl
  have y3 := hy 3 2 rfl
  have y4 := hy 4 100 rfl
  have A0 : ∀ mn, H1 mn = none → spDF K [.ref a, .int 12, .ref mn] (upd H1 mn (.lst (rgV 0 14))) Q E := fun mn hmn => by
    have s2 := same_new hmn (.lst (rgV 0 14))
    refine ⟨a, mn, ss, 12, rfl, (s1.trans s2).seq ha, by decide, by decide, by rw [upd_same, menu_rg], fun r2 tb2 H' n2 g2 u2 s3 h1 h2 h3 h4 h5 h6 h7 => q _ _ _ _ _ _ ((s1.trans s2).trans s3) h1 h3 ⟨h2, h4, fun i j hi hj => (h5 i j hi hj).mono (by decide), h6, h7.mono (by decide)⟩⟩
  have RG : RgOk 0 14 := RgOk.of_le (by decide) (by decide) (by decide) (by decide)
  refine ⟨_, rfl, p, _, 0, _, rfl, rfl, hS, tix 0 (by decide), _, _, rfl, rfl, _, rfl, ite2 (fun _ => ?_) (fun _ => ⟨_, rfl, r, _, 0, _, rfl, rfl, SqL.of hr1, at_pos (by decide) rfl, rfl, _, rfl, ite2 (fun _ => ?_) (fun hn0 => ?_)⟩)⟩
  · exact ⟨_, rfl, 14, rfl, RG, fun mn hmn => A0 mn hmn⟩
  · exact ⟨_, rfl, 14, rfl, RG, fun mn hmn => A0 mn hmn⟩
  refine ⟨_, rfl, p, _, 0, _, rfl, rfl, hS, tix 0 (by decide), rfl, _, rfl, ite2 (fun _ => ?_) (fun _ => ?_)⟩
  · refine ⟨_, rfl, r, _, 0, _, rfl, rfl, SqL.of hr1, at_pos (by decide) rfl, _, rfl, r, _, 1, _, rfl, rfl, SqL.of hr1, at_pos (by decide) rfl, _, rfl, r, _, 2, _, rfl, rfl, SqL.of hr1, at_pos (by decide) rfl, _, _, rfl, rfl, _, rfl, p, _, 4, _, rfl, rfl, hS, tix 4 (by decide), _, _, rfl, rfl, three_line, fun r2 hr2 => ?_⟩
    have s2 := same_new hr2 (.lst [.int (n : Nat), .ref tb, .int (u + 1 + y 4)])
    refine q r2 tb _ n M (u + 1 + y 4) (s1.trans s2) upd_same (LTab.same (s1.trans s2) ht) ⟨n10, sy, fun i j hi hj => (bM i j hi hj).mono (by decide), by omega, ?_⟩
    have h1 : u.natAbs < 2 ^ 101 := uB
    show (u + 1 + y 4).natAbs < 2 ^ 110
    omega
  have hn : 0 < n := by
    have : ¬ ((n : Int) = 0) := fun h => hn0 (decide_eq_true (congrArg V.int h))
    omega
  obtain ⟨vs, hta, htl, htr⟩ := (LTab.same s1 ht).at
  refine ⟨_, rfl, r, _, 1, _, rfl, rfl, SqL.of hr1, at_pos (by decide) rfl, tb, rfl, ⟨_, SqL.of hta⟩, fun L hL => ?_⟩
  refine lc_list (K := K) (a := tb) (xs := vs) (fun i H' => ∃ rs, MG H1 H' L rs n i M) ⟨[], MG.start hL⟩ (fun i H' _ ⟨_, z⟩ => SqL.of (z.same _ _ hta)) (fun i x H2 hx ⟨rs, z⟩ => ?_) (fun H2 ⟨rs, z⟩ => ?_)
  · have hi : i < n := by have := (List.getElem?_eq_some_iff.mp hx).1; omega
    obtain ⟨p, h1, h2⟩ := htr i hi
    rw [hx] at h1
    cases h1
    refine ⟨rfl, lc_yes ⟨_, rfl, p, _, rfl, .inl (SqL.of (z.same _ _ h2)), fun D hD => ⟨_, (same_new hD _) _ _ z.at_, ?_, _, z.snoc hL (same_new hD _) hD upd_same⟩⟩⟩
    rw [List.length_map, z.len]
    exact Nat.lt_of_lt_of_le (by omega : i < 1001) (line_ge (by decide))
  rw [htl] at z
  have mt := z.mt
  clear z
  have hr2 := mt.same _ _ hr1
  have hp2 := mt.same _ _ h1p
  have hS2 := SqL.of (K := K) hp2
  obtain ⟨i, ei, hi⟩ := mod_in (a := y 1) (n := n) (by omega)
  obtain ⟨j, ej, hj⟩ := mod_in (a := y 2) (n := n) (by omega)
  have hi' : i < n := by omega
  have hj' : j < n := by omega
  refine ⟨_, rfl, p, _, 1, _, rfl, rfl, hS2, tix 1 (by decide), .inl ⟨_, rfl, _, rfl, r, _, 0, _, rfl, rfl, SqL.of hr2, at_pos (by decide) rfl, _, _, rfl, rfl, by omega, ?_⟩⟩
  show gName 4 (V.int (y 1 % (n : Int))) _ _ _
  rw [ei]
  refine ⟨_, rfl, p, _, 2, _, rfl, rfl, hS2, tix 2 (by decide), .inl ⟨_, rfl, _, rfl, r, _, 0, _, rfl, rfl, SqL.of hr2, at_pos (by decide) rfl, _, _, rfl, rfl, by omega, ?_⟩⟩
  show gName 5 (V.int (y 2 % (n : Int))) _ _ _
  rw [ej]
  obtain ⟨pi, hpi1, hpi2⟩ := mt.row i hi'
  have ixi : atI (rs.map V.ref) (i : Int) = some (.ref pi) := atI_nat (by rw [List.getElem?_map, hpi1]; rfl)
  refine ⟨_, rfl, _, rfl, L, _, _, _, rfl, rfl, SqL.of mt.at_, ixi, _, rfl, pi, _, _, _, rfl, rfl, SqL.of hpi2, ixa (k := j) (by omega) (by omega) hj', _, rfl, p, _, 3, _, rfl, rfl, hS2, tix 3 (by decide), _, _, rfl, rfl, wmul (m := 5) (n := 5) (show B 5 2 by decide) (show (y 3).natAbs < 2 ^ 5 by omega) (by decide) (by decide) (by decide), _, _, rfl, rfl, _, _, rfl, rfl, ?_⟩
  refine ⟨_, rfl, _, rfl, L, _, _, _, rfl, rfl, SqL.of mt.at_, ixi, _, rfl, pi, _, _, j, rfl, rfl, hpi2, by rw [vec_lenV]; unfold ixN; rw [if_pos (by omega), if_pos (by omega)]; congr 1, ?_⟩
  have mt1 := mt.set (v := M i j + 2 * y 3 - 1) hi' hj' hpi1
  have ev : put M i j (M i j + 2 * y 3 - 1) i j = M i j + 2 * y 3 - 1 := if_pos ⟨rfl, rfl⟩
  generalize upd H2 pi _ = H3 at *
  obtain ⟨qi, hqi1, hqi2⟩ := mt1.row i hi'
  rw [hpi1] at hqi1
  cases hqi1
  obtain ⟨pj, hpj1, hpj2⟩ := mt1.row j hj'
  have ixj : atI (rs.map V.ref) (j : Int) = some (.ref pj) := atI_nat (by rw [List.getElem?_map, hpj1]; rfl)
  refine ⟨_, rfl, _, rfl, L, _, _, _, rfl, rfl, SqL.of mt1.at_, ixi, _, rfl, pi, _, _, _, rfl, rfl, SqL.of hqi2, ixa (k := j) (by omega) (by omega) hj', ?_⟩
  refine ⟨_, rfl, _, rfl, L, _, _, _, rfl, rfl, SqL.of mt1.at_, ixj, _, rfl, pj, _, _, i, rfl, rfl, hpj2, by rw [vec_lenV]; unfold ixN; rw [if_pos (by omega), if_pos (by omega)]; congr 1, ?_⟩
  have mt2 := mt1.set (v := put M i j (M i j + 2 * y 3 - 1) i j) hj' hi' hpj1
  generalize upd H3 pj _ = H4 at *
  have hr4 := mt2.same _ _ hr1
  refine ⟨_, rfl, r, _, 0, _, rfl, rfl, SqL.of hr4, at_pos (by decide) rfl, _, rfl, _, rfl, r, _, 2, _, rfl, rfl, SqL.of hr4, at_pos (by decide) rfl, three_line, fun r2 hr2 => ?_⟩
  have s5 := same_new hr2 (.lst [.int (n : Nat), .ref L, .int u])
  refine q r2 L _ n _ u ((s1.trans mt2.same).trans s5) upd_same (LTab.same s5 mt2.ltab) ⟨n10, fun a b ha hb => ?_, fun a b ha hb => ?_, u1, uB.mono (by decide)⟩
  · rw [ev]
    unfold put
    by_cases c1 : a = j ∧ b = i
    · rw [if_pos c1]
      by_cases c2 : b = j ∧ a = i
      · rw [if_pos c2]
      · rw [if_neg c2, if_pos ⟨c1.2, c1.1⟩]
    · rw [if_neg c1]
      by_cases c2 : b = j ∧ a = i
      · rw [if_pos c2, if_pos ⟨c2.2, c2.1⟩]
      · rw [if_neg c2, if_neg fun z => c2 ⟨z.2, z.1⟩, if_neg fun z => c1 ⟨z.2, z.1⟩]
        exact sy a b ha hb
  · have vB : B 140 (M i j + 2 * y 3 - 1) := by
      have h1 : (M i j).natAbs < 2 ^ 139 := bM i j hi' hj'
      show (M i j + 2 * y 3 - 1).natAbs < 2 ^ 140
      omega
    rw [ev]
    exact put_B (n := n) (k := 140) (fun a b ha hb => put_B (f := M) (n := n) (k := 140) (fun a b ha hb => (bM a b ha hb).mono (by decide)) vB a b ha hb) vB a b ha hb
def spLaw (K : PySem.W.Frag) : Sp := fun vs H Q _ => ∃ (a : Addr) (ns : List Int), vs = [.ref a] ∧ SqL K H a (ns.map V.int) ∧ ns.length ≤ 63 ∧ ∀ H', Q (.bl true) H'
abbrev s_law : Stmt := top 69
abbrev N_law : List Str := ["script", "one", "two", "first", "second", "line"]
theorem sc_law : FnScope N_law ["script"] (defScope s_law) := ⟨rfl, rfl, rfl, by decide +kernel, rfl, by decide +kernel, by decide +kernel⟩
theorem ok_law (F : Fun K "law" "law" s_law f fd) (T : Txt mg) (O : Obs K cF cR) (C__law_draw_form : Cal P w K mg base 4 "_law_draw_form" ["script", "at", "menu"] (spDF K)) (C__law_second : Cal P w K mg base 5 "_law_second" ["script", "one"] (spSec K)) (C__law_asked : Cal P w K mg base 8 "_law_asked" ["form", "table", "under"] (spAsk K cF)) (C__law_form_is : Cal P w K mg base 4 "_law_form_is" ["found", "table", "under"] (spFormIs K cF)) (C__law_det_right : Cal P w K mg base 3 "_law_det_right" ["form", "table", "under"] (spDR K cF)) (C_Form : CalK P w K mg base 4 "Form" cF 1 ["bottom"] (spForm K cF)) : FnOk P w K mg base CX0 9 f fd ["script"] (spLaw K) := by
  refine F.ok sc_law (fun vs H Q E h => ?_) (fun cdv A outer s H vs Q E hr h => ?_)
  · obtain ⟨a, ns, rfl, _⟩ := h
    rfl
  obtain ⟨a, ss, rfl, ha, _, q⟩ := h
  refine ⟨_, (pss_cons (ps_set (i := 1) sc_law.nd rfl (Or.inl rfl) (pe_cal C__law_draw_form (hr.mono (by omega)) rfl (pa_cons (pv 0) (pa_cons pe_int (pa_cons (pe_listRg rfl (by rfl) T.b_list (prg_1 (by rfl) T.b_range pe_int)) pa_nil)))))
  (pss_cons (ps_set (i := 2) sc_law.nd rfl (Or.inl rfl) (pe_cal C__law_second (hr.mono (by omega)) rfl (pa_cons (pv 0) (pa_cons (pv 1) pa_nil))))
  (pss_cons (ps_set (i := 3) sc_law.nd rfl (Or.inl rfl) (pe_calK C_Form (hr.mono (by omega)) rfl (pa_cons (pe_lc (own := [("line", 5)]) (g := gName 5) (tt := tYes) (by rfl) sc_law.nd (pi_list (pe_ix ix_list (pv 1) pe_int (fun _ _ => rfl))) (blkOk_by (N := N_law) (sc := defScope s_law) (by decide +kernel)) (fun _ _ _ _ _ => (pg_name (i := 5) sc_law.nd rfl (Or.inl rfl))) (fun _ _ _ _ _ => pts_nil) (fun _ _ _ _ _ => (pe_callTy (call_list_ofK (K := K) rfl) (by rfl) T.b_list (by decide +kernel) (pa_cons (pv 5) pa_nil)))) pa_nil) (pk_cons (pe_ix ix_list (pv 1) pe_int (fun _ _ => rfl)) pk_nil)))
  (pss_cons (ps_set (i := 4) sc_law.nd rfl (Or.inl rfl) (pe_calK C_Form (hr.mono (by omega)) rfl (pa_cons (pe_callTy call_tuple_of (by rfl) T.b_tuple (by decide +kernel) (pa_cons (pe_lc (own := [("line", 5)]) (g := gName 5) (tt := tYes) (by rfl) sc_law.nd (pi_list (pe_ix ix_list (pv 2) pe_int (fun _ _ => rfl))) (blkOk_by (N := N_law) (sc := defScope s_law) (by decide +kernel)) (fun _ _ _ _ _ => (pg_name (i := 5) sc_law.nd rfl (Or.inl rfl))) (fun _ _ _ _ _ => pts_nil) (fun _ _ _ _ _ => (pe_callTy (call_tuple_ofK (K := K) rfl) (by rfl) T.b_tuple (by decide +kernel) (pa_cons (pv 5) pa_nil)))) pa_nil)) pa_nil) (pk_cons (pe_ix ix_list (pv 2) pe_int (fun _ _ => rfl)) pk_nil)))
  (pss_cons (ps_if (PW.pt (pw_or (pt_not (pt_val (pe_cal C__law_asked (hr.mono (by omega)) rfl (pa_cons (pv 3) (pa_cons (pe_ix ix_list (pv 1) pe_int (fun _ _ => rfl)) (pa_cons (pe_ix ix_list (pv 1) pe_int (fun _ _ => rfl)) pa_nil)))))) (pw_or1 (pt_not (pt_val (pe_cal C__law_asked (hr.mono (by omega)) rfl (pa_cons (pv 4) (pa_cons (pe_ix ix_list (pv 2) pe_int (fun _ _ => rfl)) (pa_cons (pe_ix ix_list (pv 2) pe_int (fun _ _ => rfl)) pa_nil))))))))) (pss_one (ps_ret pe_bl)) pss_nil)
  (pss_cons (ps_if (PW.pt (pw_or (pt_not (pt_val (pe_cal C__law_det_right (hr.mono (by omega)) rfl (pa_cons (pv 3) (pa_cons (pe_ix ix_list (pv 1) pe_int (fun _ _ => rfl)) (pa_cons (pe_ix ix_list (pv 1) pe_int (fun _ _ => rfl)) pa_nil)))))) (pw_or1 (pt_not (pt_val (pe_cal C__law_det_right (hr.mono (by omega)) rfl (pa_cons (pv 4) (pa_cons (pe_ix ix_list (pv 2) pe_int (fun _ _ => rfl)) (pa_cons (pe_ix ix_list (pv 2) pe_int (fun _ _ => rfl)) pa_nil))))))))) (pss_one (ps_ret pe_bl)) pss_nil)
  (pss_cons (ps_if (pt_not (pt_val (pe_cal C__law_asked (hr.mono (by omega)) rfl (pa_cons (pv 3) (pa_cons (pe_ix ix_list (pv 1) pe_int (fun _ _ => rfl)) (pa_cons (pe_ix ix_list (pv 1) pe_int (fun _ _ => rfl)) pa_nil)))))) (pss_one (ps_ret pe_bl)) pss_nil)
  (pss_one (ps_ret (pe_and (pe_cal C__law_form_is (hr.mono (by omega)) rfl (pa_cons (pv 3) (pa_cons (pe_ix ix_list (pv 1) pe_int (fun _ _ => rfl)) (pa_cons (pe_ix ix_list (pv 1) pe_int (fun _ _ => rfl)) pa_nil)))) (pe_one (pe_cal C__law_form_is (hr.mono (by omega)) rfl (pa_cons (pv 4) (pa_cons (pe_ix ix_list (pv 2) pe_int (fun _ _ => rfl)) (pa_cons (pe_ix ix_list (pv 2) pe_int (fun _ _ => rfl)) pa_nil))))))))))))))), ?_⟩
  have RG : RgOk 0 14 := RgOk.of_le (by decide) (by decide) (by decide) (by decide)
  refine ⟨_, rfl, 14, rfl, RG, fun mn hmn => ?_⟩
  have s0 := same_new hmn (.lst (rgV 0 14))
  refine ⟨a, mn, ss, 0, rfl, s0.seq ha, by decide, by decide, by rw [upd_same, menu_rg], fun r tb H1 n X u s01 hr1 hn htb sy bX u1 uB => ?_⟩
  have s1 := s0.trans s01
  have D1 : DT n X u := ⟨hn, sy, fun i j hi hj => (bX i j hi hj).mono (by decide), u1, uB.mono (by decide)⟩
  refine ⟨_, rfl, _, rfl, a, r, tb, ss, n, X, u, rfl, s1.seq ha, hr1, hn, htb, sy, bX, u1, uB, fun r2 tb2 H2 n2 X2 u2 s2 hr2 htb2 D2 => ?_⟩
  clear sy bX u1 uB
  have n210 := D2.n10
  have hr1 := s2 _ _ hr1
  have htb := LTab.same s2 htb
  -- one
  obtain ⟨rs, ht, hl', hrow⟩ := id htb
  refine ⟨_, rfl, r, _, 1, _, rfl, rfl, SqL.of hr1, at_pos (by decide) rfl, tb, rfl, ⟨_, SqL.of ht⟩, fun LD hLD => ?_⟩
  refine lc_gm (walk_list (K := K) (a := tb) (xs := rs.map V.ref)) (RL LD) stb_RL (List.range n) (by rw [List.length_map, List.length_range]; exact hl') (by rw [List.length_range]; omega) hLD (fun H' sw => sw.seq (SqL.of ht)) (fun _ _ _ _ => ys_at) (fun i => vec n (X i)) (fun c i x H10 H11 hc s10 s11 yl hdl A B' hA => ?_) (fun H3 l7 s3 hl7 rz => ?_)
  · obtain ⟨hi, rfl⟩ := in_range hc
    obtain ⟨p, e1, e2⟩ := hrow i hi
    have e0 := yl.2
    rw [List.getElem?_map, e1] at e0
    cases e0
    obtain ⟨dl, hdl⟩ := hdl
    exact ⟨rfl, lc_yes ⟨_, rfl, p, _, rfl, .inl (SqL.of (s11 _ _ e2)), fun L2 hL2 => hA _ _ (same_new hL2 _) ⟨L2, rfl, fun z => (by rw [z, hdl] at hL2; cases hL2), upd_same⟩⟩⟩
  have tabL := LTab.of hl7 rz
  refine ⟨_, rfl, r, _, 2, _, rfl, rfl, SqL.of (s3 _ _ hr1), at_pos (by decide) rfl, rfl, rfl, fun f1 dx0 hfo hdx0 _ => mk_form (n := n) (R := X) hfo hdx0 tabL.sn D1.sym hn (by have := D1.l1; omega) (D1.lB.mono (show 110 ≤ 9000 by decide)) (fun H4 s34 hF => ⟨rfl, ?_⟩)⟩
  have F1 := fat_mf hF
  have s24 := s3.trans s34
  clear hLD rz hl7 tabL hF
  -- two
  have hr24 := s24 _ _ hr2
  obtain ⟨rs2, ht2, hl2, hrow2⟩ := LTab.same s24 htb2
  refine ⟨_, rfl, r2, _, 1, _, rfl, rfl, SqL.of hr24, at_pos (by decide) rfl, tb2, rfl, ⟨_, SqL.of ht2⟩, fun LD hLD => ?_⟩
  refine lc_m (walk_list (K := K) (a := tb2) (xs := rs2.map V.ref)) (Fz K) stb_Fz (List.range n2) (by rw [List.length_map, List.length_range]; exact hl2) (by rw [List.length_range]; omega) hLD (fun H' sw => sw.seq (SqL.of ht2)) (fun _ _ _ _ => ys_at) (fun i => .tup ((vec n2 (X2 i)).map Td.int)) (fun c i x H10 H11 hc s10 s11 yl A B' hA => ?_) (fun H5 l7 s5 hl7 rz => ?_)
  · obtain ⟨hi, rfl⟩ := in_range hc
    obtain ⟨p, e1, e2⟩ := hrow2 i hi
    have e0 := yl.2
    rw [List.getElem?_map, e1] at e0
    cases e0
    refine ⟨rfl, lc_yes ⟨_, rfl, p, _, rfl, .inl ⟨SqL.of (s11 _ _ e2), fun t ht => hA _ _ (same_new ht _) (.tup (SqT.of upd_same) (FzAll.of_ints _))⟩⟩⟩
  refine ⟨LD, l7, rfl, .inl ⟨SqL.of hl7, fun tu htu => ?_⟩⟩
  have su := same_new htu (.tup l7)
  have tabT := (tm_rows (SqT.of upd_same) (rz.tk stb_Fz fun _ _ h => Same_seqT su h) : Fz K (upd H5 tu (.tup l7)) (.ref tu) (tm n2 X2)).sn
  have s5u := s5.trans su
  refine ⟨_, rfl, r2, _, 2, _, rfl, rfl, SqL.of (s5u _ _ hr24), at_pos (by decide) rfl, rfl, rfl, fun f2 dx1 hfo hdx1 _ => mk_form (n := n2) (R := X2) hfo hdx1 tabT D2.sym n210 (by have := D2.l1; omega) (D2.lB.mono (show 110 ≤ 9000 by decide)) (fun H6 s56 hF => ⟨rfl, ?_⟩)⟩
  have F2 := fat_mf hF
  have s46 := s5u.trans s56
  clear hLD rz hl7 tabT hF
  have F1 := F1.same s46
  have s26 := s24.trans s46
  have hr6 := s26 _ _ hr1
  have hr26 := s26 _ _ hr2
  have T1 := LTab.same s26 htb
  have T2 := LTab.same s26 htb2
  -- the questions
  refine ⟨_, rfl, _, rfl, r, _, 1, _, rfl, rfl, SqL.of hr6, at_pos (by decide) rfl, _, rfl, r, _, 2, _, rfl, rfl, SqL.of hr6, at_pos (by decide) rfl, f1, tb, n, X, u, rfl, D1, F1, T1, fun H7 s67 => ⟨true, rfl, ifF rfl ?_⟩⟩
  refine ⟨_, rfl, _, rfl, r2, _, 1, _, rfl, rfl, SqL.of (s67 _ _ hr26), at_pos (by decide) rfl, _, rfl, r2, _, 2, _, rfl, rfl, SqL.of (s67 _ _ hr26), at_pos (by decide) rfl, f2, tb2, n2, X2, u2, rfl, D2, F2.same s67, LTab.same s67 T2, fun H8 s78 => ⟨true, rfl, ifF rfl ?_⟩⟩
  have s68 := s67.trans s78
  obtain ⟨w1, jo1, _, w19, w17, _⟩ := D1.jok
  obtain ⟨w2, jo2, _, w29, w27, _⟩ := D2.jok
  have hr8 := s68 _ _ hr6
  refine ⟨_, rfl, _, rfl, r, _, 1, _, rfl, rfl, SqL.of hr8, at_pos (by decide) rfl, _, rfl, r, _, 2, _, rfl, rfl, SqL.of hr8, at_pos (by decide) rfl, f1, tb, n, w1, GF n X u, BF n X u, 2 ^ 140, MF n X u, by rw [D1.gb] <;> rfl, F1.same s68, D1.ltab (LTab.same s68 T1), hn, jo1.bd1, D1.g0, D1.b0, jo1.abs, fun i j => B_abs (D1.gB i j), fun i j => (D1.mB i j).mono (by decide), fun i j => (D1.gB i j).mono (by decide), jo1.bB, jo1.w0, by omega, D1.bB.mono (by decide), by rw [D1.gb]; exact D1.lB.mono (by decide), fun H9 s89 => ⟨true, rfl, ifF rfl ?_⟩⟩
  have s69 := s68.trans s89
  refine ⟨_, rfl, _, rfl, r2, _, 1, _, rfl, rfl, SqL.of (s69 _ _ hr26), at_pos (by decide) rfl, _, rfl, r2, _, 2, _, rfl, rfl, SqL.of (s69 _ _ hr26), at_pos (by decide) rfl, f2, tb2, n2, w2, GF n2 X2 u2, BF n2 X2 u2, 2 ^ 140, MF n2 X2 u2, by rw [D2.gb] <;> rfl, F2.same s69, D2.ltab (LTab.same s69 T2), n210, jo2.bd1, D2.g0, D2.b0, jo2.abs, fun i j => B_abs (D2.gB i j), fun i j => (D2.mB i j).mono (by decide), fun i j => (D2.gB i j).mono (by decide), jo2.bB, jo2.w0, by omega, D2.bB.mono (by decide), by rw [D2.gb]; exact D2.lB.mono (by decide), fun H10 s910 => ⟨true, rfl, ifF rfl ?_⟩⟩
  have s610 := s69.trans s910
  refine ⟨_, rfl, _, rfl, r, _, 1, _, rfl, rfl, SqL.of (s610 _ _ hr6), at_pos (by decide) rfl, _, rfl, r, _, 2, _, rfl, rfl, SqL.of (s610 _ _ hr6), at_pos (by decide) rfl, f1, tb, n, X, u, rfl, D1, F1.same s610, LTab.same s610 T1, fun H11 s1011 => ⟨true, rfl, ifF rfl ?_⟩⟩
  have s611 := s610.trans s1011
  have eq1 : ∀ {n : Nat} {X : Nat → Nat → Int} {u : Int}, DT n X u → ∀ i j, i < n → j < n → MF n X u i j * u = X i j * BF n X u := fun {n X u} D i j hi hj => by
    have h1 := D.gt hi hj
    have h2 := D.gb
    rw [← h1]
    generalize MF n X u i j = z
    generalize BF n X u = y at *
    rw [← h2]
    grind
  refine ⟨_, rfl, _, rfl, r, _, 1, _, rfl, rfl, SqL.of (s611 _ _ hr6), at_pos (by decide) rfl, _, rfl, r, _, 2, _, rfl, rfl, SqL.of (s611 _ _ hr6), at_pos (by decide) rfl, f1, tb, n, MF n X u, X, BF n X u, u, rfl, F1.same s611, LTab.same s611 T1, by omega, by have := D1.b0; omega, D1.bB.mono (by decide), gf_mf (by have := D1.l1; omega), fun i j _ _ => (D1.mB i j).mono (by decide), eq1 D1, D1.lB.mono (by decide), fun i j hi hj => (D1.tB i j hi hj).mono (by decide), fun H12 s1112 => ⟨true, rfl, ifT rfl ?_⟩⟩
  have s612 := s611.trans s1112
  exact ⟨_, rfl, _, rfl, r2, _, 1, _, rfl, rfl, SqL.of (s612 _ _ hr26), at_pos (by decide) rfl, _, rfl, r2, _, 2, _, rfl, rfl, SqL.of (s612 _ _ hr26), at_pos (by decide) rfl, f2, tb2, n2, MF n2 X2 u2, X2, BF n2 X2 u2, u2, rfl, F2.same s612, LTab.same s612 T2, by omega, by have := D2.b0; omega, D2.bB.mono (by decide), gf_mf (by have := D2.l1; omega), fun i j _ _ => (D2.mB i j).mono (by decide), eq1 D2, D2.lB.mono (by decide), fun i j hi hj => (D2.tB i j hi hj).mono (by decide), fun H13 _ => q H13⟩
end
end P10
namespace P10
open PySem PySem.Spec PyProof.Rows L2 SX EX WK
section
variable {P : Program} {w : World} {K : PySem.W.Frag} {mg : Str → Option Value} {base : Heap} {f : Addr} {fd : FuncData} {cF cR : Addr}
theorem kb_Form (F : FunD K "__init__" "Form.__init__" (defArgs s_iForm) (defBody s_iForm) (defScope s_iForm) [] [("bottom", V.int 1)] f fd) : ∃ g, KBn K fd ["self", "entries", "bottom"] 2 ["bottom"] g (fun vs zs => vs ++ zs) := by
  obtain ⟨mv, h⟩ := F.kbinds0 (ps := ["self", "entries", "bottom"]) 2 ["bottom"] [] (fun a _ c => a ++ c) (by simp) (fun q h => nomatch h) (fun r _ t => r.append t) (fun D doc pm an cdv ct us mv ws h1 h2 h3 => match us, mv, ws, h1, h2, h3 with
    | [_, _], [], [_], _, _, _ => rfl)
  exact ⟨_, h⟩
theorem funD_of {x qual : Str} {st : Stmt} {D : Addr} {od an : Option Addr} {sl : Array (Option Value)} {oc dc pm cd ct : Value} {tk : Tok} (l : K.lookup f = some ⟨oc, od, .func (PySem.W.fnOf x qual (defArgs st) (defBody st) (defScope st) .none (.ref D) dc pm an cd ct), sl⟩) (c : PySem.W.codeIn K cd qual = true) (k : PySem.W.keepIn K (.ref f) = true)
    (d : PySem.W.nsIn K D "bottom" = some (some (.int 1 tk))) : FunD K x qual (defArgs st) (defBody st) (defScope st) [] [("bottom", V.int 1)] f (PySem.W.fnOf x qual (defArgs st) (defBody st) (defScope st) .none (.ref D) dc pm an cd ct) :=
  ⟨⟨_, _, _, _, _, _, _, _, _, _, rfl, l, c, .inl ⟨rfl, rfl⟩, .inr ⟨D, rfl, fun q hq => by rw [List.mem_singleton.mp hq]; exact ⟨_, d, _, rfl⟩⟩⟩, k⟩
end
end P10
namespace P10
open PySem PySem.Spec PyProof.Rows L2 SX EX WK
theorem all_mk {l : PySem.W.OpenLaw} {w : World} {K : PySem.W.Frag} {h : Heap} {mg : Str → Option Value} {fa f1 f2 f3 f4 f5 f6 f7 f8 f9 f10 f11 f12 f13 f14 f15 f16 f17 f18 f19 f20 f21 f22 f23 f24 f25 f26 f27 f28 f29 f30 f31 f32 f33 f34 f35 f36 f37 f38 f39 f40 f41 f42 f43 f44 f45 f46 f47 f48 c_CableError c_ZeroBottom c_SizesDiffer c_BelowZero c_NoSolution c_TooNear c_Form : Addr} (X : K.In h) (G : h.Ns mainGlobals mg) (hfa : mg "law" = some (.ref fa))
    {od1 an1 od2 an2 od3 an3 od4 an4 od5 an5 od6 an6 od7 an7 od8 an8 od9 an9 od10 an10 od11 an11 od12 an12 od13 an13 od14 an14 od15 an15 od16 an16 od17 an17 od18 an18 od19 an19 od20 an20 od21 an21 od22 an22 od23 an23 od24 an24 od25 an25 od26 an26 od27 an27 od28 an28 od29 an29 od30 an30 od31 an31 od32 an32 od33 an33 od34 an34 od35 an35 od36 an36 od37 an37 od38 an38 od39 an39 od40 an40 od41 an41 od42 an42 od43 an43 od44 an44 od45 an45 od46 an46 od47 an47 od48 an48 : Option Addr}
    {sl1 sl2 sl3 sl4 sl5 sl6 sl7 sl8 sl9 sl10 sl11 sl12 sl13 sl14 sl15 sl16 sl17 sl18 sl19 sl20 sl21 sl22 sl23 sl24 sl25 sl26 sl27 sl28 sl29 sl30 sl31 sl32 sl33 sl34 sl35 sl36 sl37 sl38 sl39 sl40 sl41 sl42 sl43 sl44 sl45 sl46 sl47 sl48 : Array (Option Value)} {oc1 kV1 dc1 pm1 cd1 ct1 oc2 kV2 dc2 pm2 cd2 ct2 oc3 kV3 dc3 pm3 cd3 ct3 oc4 kV4 dc4 pm4 cd4 ct4 oc5 kV5 dc5 pm5 cd5 ct5 oc6 kV6 dc6 pm6 cd6 ct6 oc7 kV7 dc7 pm7 cd7 ct7 oc8 kV8 dc8 pm8 cd8 ct8 oc9 kV9 dc9 pm9 cd9 ct9 oc10 kV10 dc10 pm10 cd10 ct10 oc11 kV11 dc11 pm11 cd11 ct11 oc12 kV12 dc12 pm12 cd12 ct12 oc13 kV13 dc13 pm13 cd13 ct13 oc14 kV14 dc14 pm14 cd14 ct14 oc15 kV15 dc15 pm15 cd15 ct15 oc16 kV16 dc16 pm16 cd16 ct16 oc17 kV17 dc17 pm17 cd17 ct17 oc18 kV18 dc18 pm18 cd18 ct18 oc19 kV19 dc19 pm19 cd19 ct19 oc20 kV20 dc20 pm20 cd20 ct20 oc21 kV21 dc21 pm21 cd21 ct21 oc22 kV22 dc22 pm22 cd22 ct22 oc23 kV23 dc23 pm23 cd23 ct23 oc24 kV24 dc24 pm24 cd24 ct24 oc25 kV25 dc25 pm25 cd25 ct25 oc26 kV26 dc26 pm26 cd26 ct26 oc27 kV27 dc27 pm27 cd27 ct27 oc28 kV28 dc28 pm28 cd28 ct28 oc29 kV29 dc29 pm29 cd29 ct29 oc30 kV30 dc30 pm30 cd30 ct30 oc31 kV31 dc31 pm31 cd31 ct31 oc32 kV32 dc32 pm32 cd32 ct32 oc33 kV33 dc33 pm33 cd33 ct33 oc34 kV34 dc34 pm34 cd34 ct34 oc35 kV35 dc35 pm35 cd35 ct35 oc36 kV36 dc36 pm36 cd36 ct36 oc37 kV37 dc37 pm37 cd37 ct37 oc38 kV38 dc38 pm38 cd38 ct38 oc39 kV39 dc39 pm39 cd39 ct39 oc40 kV40 dc40 pm40 cd40 ct40 oc41 kV41 dc41 pm41 cd41 ct41 oc42 kV42 dc42 pm42 cd42 ct42 oc43 kV43 dc43 pm43 cd43 ct43 oc44 kV44 dc44 pm44 cd44 ct44 oc45 kV45 dc45 pm45 cd45 ct45 oc46 kV46 dc46 pm46 cd46 ct46 oc47 kV47 dc47 pm47 cd47 ct47 oc48 kV48 dc48 pm48 cd48 ct48 : Value}
    {nm_BelowZero q_BelowZero : Str} {N_BelowZero : Addr} {bs_BelowZero sub_BelowZero : List Value} {sn_BelowZero : List Str} {ab_BelowZero : Bool} {col_BelowZero : Option Bool} {dd_BelowZero : Option Addr} {m0_BelowZero m1_BelowZero m2_BelowZero m3_BelowZero m5_BelowZero : Option Value}
    {f_BelowZero : Addr} {odi_BelowZero ani_BelowZero : Option Addr} {sli_BelowZero : Array (Option Value)} {oci_BelowZero kVi_BelowZero dci_BelowZero pmi_BelowZero cdi_BelowZero cti_BelowZero : Value}
    {f_Form D_Form : Addr} {odi_Form ani_Form : Option Addr} {sli_Form : Array (Option Value)} {oci_Form dci_Form pmi_Form cdi_Form cti_Form : Value} {tki_Form : Tok}
    (a1 : PySem.W.nsIn K mainGlobals "frozen_numbers" = some (some (.ref f1))) (l1 : K.lookup f1 = some ⟨oc1, od1, .func (PySem.W.fnOf "frozen_numbers" "frozen_numbers" (defArgs s_frozen_numbers) (defBody s_frozen_numbers) (defScope s_frozen_numbers) .none kV1 dc1 pm1 an1 cd1 ct1), sl1⟩) (c1 : PySem.W.codeIn K cd1 "frozen_numbers" = true) (k1 : PySem.W.keepIn K (.ref f1) = true)
    (a2 : PySem.W.nsIn K mainGlobals "frozen_part" = some (some (.ref f2))) (l2 : K.lookup f2 = some ⟨oc2, od2, .func (PySem.W.fnOf "frozen_part" "frozen_part" (defArgs s_frozen_part) (defBody s_frozen_part) (defScope s_frozen_part) .none kV2 dc2 pm2 an2 cd2 ct2), sl2⟩) (c2 : PySem.W.codeIn K cd2 "frozen_part" = true) (k2 : PySem.W.keepIn K (.ref f2) = true)
    (a3 : PySem.W.nsIn K mainGlobals "frozen" = some (some (.ref f3))) (l3 : K.lookup f3 = some ⟨oc3, od3, .func (PySem.W.fnOf "frozen" "frozen" (defArgs s_frozen) (defBody s_frozen) (defScope s_frozen) .none kV3 dc3 pm3 an3 cd3 ct3), sl3⟩) (c3 : PySem.W.codeIn K cd3 "frozen" = true) (k3 : PySem.W.keepIn K (.ref f3) = true)
    (a4 : PySem.W.nsIn K mainGlobals "lowered" = some (some (.ref f4))) (l4 : K.lookup f4 = some ⟨oc4, od4, .func (PySem.W.fnOf "lowered" "lowered" (defArgs s_lowered) (defBody s_lowered) (defScope s_lowered) .none kV4 dc4 pm4 an4 cd4 ct4), sl4⟩) (c4 : PySem.W.codeIn K cd4 "lowered" = true) (k4 : PySem.W.keepIn K (.ref f4) = true)
    (a5 : PySem.W.nsIn K mainGlobals "fraction" = some (some (.ref f5))) (l5 : K.lookup f5 = some ⟨oc5, od5, .func (PySem.W.fnOf "fraction" "fraction" (defArgs s_fraction) (defBody s_fraction) (defScope s_fraction) .none kV5 dc5 pm5 an5 cd5 ct5), sl5⟩) (c5 : PySem.W.codeIn K cd5 "fraction" = true) (k5 : PySem.W.keepIn K (.ref f5) = true)
    (a6 : PySem.W.nsIn K mainGlobals "check_square" = some (some (.ref f6))) (l6 : K.lookup f6 = some ⟨oc6, od6, .func (PySem.W.fnOf "check_square" "check_square" (defArgs s_check_square) (defBody s_check_square) (defScope s_check_square) .none kV6 dc6 pm6 an6 cd6 ct6), sl6⟩) (c6 : PySem.W.codeIn K cd6 "check_square" = true) (k6 : PySem.W.keepIn K (.ref f6) = true)
    (a7 : PySem.W.nsIn K mainGlobals "check_symmetric" = some (some (.ref f7))) (l7 : K.lookup f7 = some ⟨oc7, od7, .func (PySem.W.fnOf "check_symmetric" "check_symmetric" (defArgs s_check_symmetric) (defBody s_check_symmetric) (defScope s_check_symmetric) .none kV7 dc7 pm7 an7 cd7 ct7), sl7⟩) (c7 : PySem.W.codeIn K cd7 "check_symmetric" = true) (k7 : PySem.W.keepIn K (.ref f7) = true)
    (a8 : PySem.W.nsIn K mainGlobals "unit_point" = some (some (.ref f8))) (l8 : K.lookup f8 = some ⟨oc8, od8, .func (PySem.W.fnOf "unit_point" "unit_point" (defArgs s_unit_point) (defBody s_unit_point) (defScope s_unit_point) .none kV8 dc8 pm8 an8 cd8 ct8), sl8⟩) (c8 : PySem.W.codeIn K cd8 "unit_point" = true) (k8 : PySem.W.keepIn K (.ref f8) = true)
    (a9 : PySem.W.nsIn K mainGlobals "side_index" = some (some (.ref f9))) (l9 : K.lookup f9 = some ⟨oc9, od9, .func (PySem.W.fnOf "side_index" "side_index" (defArgs s_side_index) (defBody s_side_index) (defScope s_side_index) .none kV9 dc9 pm9 an9 cd9 ct9), sl9⟩) (c9 : PySem.W.codeIn K cd9 "side_index" = true) (k9 : PySem.W.keepIn K (.ref f9) = true)
    (a10 : PySem.W.nsIn K mainGlobals "bad_point" = some (some (.ref f10))) (l10 : K.lookup f10 = some ⟨oc10, od10, .func (PySem.W.fnOf "bad_point" "bad_point" (defArgs s_bad_point) (defBody s_bad_point) (defScope s_bad_point) .none kV10 dc10 pm10 an10 cd10 ct10), sl10⟩) (c10 : PySem.W.codeIn K cd10 "bad_point" = true) (k10 : PySem.W.keepIn K (.ref f10) = true)
    (a11 : PySem.W.nsIn K mainGlobals "reduced" = some (some (.ref f11))) (l11 : K.lookup f11 = some ⟨oc11, od11, .func (PySem.W.fnOf "reduced" "reduced" (defArgs s_reduced) (defBody s_reduced) (defScope s_reduced) .none kV11 dc11 pm11 an11 cd11 ct11), sl11⟩) (c11 : PySem.W.codeIn K cd11 "reduced" = true) (k11 : PySem.W.keepIn K (.ref f11) = true)
    (a12 : PySem.W.nsIn K mainGlobals "eliminated" = some (some (.ref f12))) (l12 : K.lookup f12 = some ⟨oc12, od12, .func (PySem.W.fnOf "eliminated" "eliminated" (defArgs s_eliminated) (defBody s_eliminated) (defScope s_eliminated) .none kV12 dc12 pm12 an12 cd12 ct12), sl12⟩) (c12 : PySem.W.codeIn K cd12 "eliminated" = true) (k12 : PySem.W.keepIn K (.ref f12) = true)
    (a13 : PySem.W.nsIn K mainGlobals "settled" = some (some (.ref f13))) (l13 : K.lookup f13 = some ⟨oc13, od13, .func (PySem.W.fnOf "settled" "settled" (defArgs s_settled) (defBody s_settled) (defScope s_settled) .none kV13 dc13 pm13 an13 cd13 ct13), sl13⟩) (c13 : PySem.W.codeIn K cd13 "settled" = true) (k13 : PySem.W.keepIn K (.ref f13) = true)
    (a14 : PySem.W.nsIn K mainGlobals "checked" = some (some (.ref f14))) (l14 : K.lookup f14 = some ⟨oc14, od14, .func (PySem.W.fnOf "checked" "checked" (defArgs s_checked) (defBody s_checked) (defScope s_checked) .none kV14 dc14 pm14 an14 cd14 ct14), sl14⟩) (c14 : PySem.W.codeIn K cd14 "checked" = true) (k14 : PySem.W.keepIn K (.ref f14) = true)
    (a15 : PySem.W.nsIn K mainGlobals "leads" = some (some (.ref f15))) (l15 : K.lookup f15 = some ⟨oc15, od15, .func (PySem.W.fnOf "leads" "leads" (defArgs s_leads) (defBody s_leads) (defScope s_leads) .none kV15 dc15 pm15 an15 cd15 ct15), sl15⟩) (c15 : PySem.W.codeIn K cd15 "leads" = true) (k15 : PySem.W.keepIn K (.ref f15) = true)
    (a16 : PySem.W.nsIn K mainGlobals "cleared" = some (some (.ref f16))) (l16 : K.lookup f16 = some ⟨oc16, od16, .func (PySem.W.fnOf "cleared" "cleared" (defArgs s_cleared) (defBody s_cleared) (defScope s_cleared) .none kV16 dc16 pm16 an16 cd16 ct16), sl16⟩) (c16 : PySem.W.codeIn K cd16 "cleared" = true) (k16 : PySem.W.keepIn K (.ref f16) = true)
    (a17 : PySem.W.nsIn K mainGlobals "block_inverse" = some (some (.ref f17))) (l17 : K.lookup f17 = some ⟨oc17, od17, .func (PySem.W.fnOf "block_inverse" "block_inverse" (defArgs s_block_inverse) (defBody s_block_inverse) (defScope s_block_inverse) .none kV17 dc17 pm17 an17 cd17 ct17), sl17⟩) (c17 : PySem.W.codeIn K cd17 "block_inverse" = true) (k17 : PySem.W.keepIn K (.ref f17) = true)
    (a18 : PySem.W.nsIn K mainGlobals "plain_inverse" = some (some (.ref f18))) (l18 : K.lookup f18 = some ⟨oc18, od18, .func (PySem.W.fnOf "plain_inverse" "plain_inverse" (defArgs s_plain_inverse) (defBody s_plain_inverse) (defScope s_plain_inverse) .none kV18 dc18 pm18 an18 cd18 ct18), sl18⟩) (c18 : PySem.W.codeIn K cd18 "plain_inverse" = true) (k18 : PySem.W.keepIn K (.ref f18) = true)
    (a19 : PySem.W.nsIn K mainGlobals "inverse" = some (some (.ref f19))) (l19 : K.lookup f19 = some ⟨oc19, od19, .func (PySem.W.fnOf "inverse" "inverse" (defArgs s_inverse) (defBody s_inverse) (defScope s_inverse) .none kV19 dc19 pm19 an19 cd19 ct19), sl19⟩) (c19 : PySem.W.codeIn K cd19 "inverse" = true) (k19 : PySem.W.keepIn K (.ref f19) = true)
    (a20 : PySem.W.nsIn K mainGlobals "first_filled" = some (some (.ref f20))) (l20 : K.lookup f20 = some ⟨oc20, od20, .func (PySem.W.fnOf "first_filled" "first_filled" (defArgs s_first_filled) (defBody s_first_filled) (defScope s_first_filled) .none kV20 dc20 pm20 an20 cd20 ct20), sl20⟩) (c20 : PySem.W.codeIn K cd20 "first_filled" = true) (k20 : PySem.W.keepIn K (.ref f20) = true)
    (a21 : PySem.W.nsIn K mainGlobals "determinant" = some (some (.ref f21))) (l21 : K.lookup f21 = some ⟨oc21, od21, .func (PySem.W.fnOf "determinant" "determinant" (defArgs s_determinant) (defBody s_determinant) (defScope s_determinant) .none kV21 dc21 pm21 an21 cd21 ct21), sl21⟩) (c21 : PySem.W.codeIn K cd21 "determinant" = true) (k21 : PySem.W.keepIn K (.ref f21) = true)
    (a22 : PySem.W.nsIn K mainGlobals "_law_whole" = some (some (.ref f22))) (l22 : K.lookup f22 = some ⟨oc22, od22, .func (PySem.W.fnOf "_law_whole" "_law_whole" (defArgs s__law_whole) (defBody s__law_whole) (defScope s__law_whole) .none kV22 dc22 pm22 an22 cd22 ct22), sl22⟩) (c22 : PySem.W.codeIn K cd22 "_law_whole" = true) (k22 : PySem.W.keepIn K (.ref f22) = true)
    (a23 : PySem.W.nsIn K mainGlobals "_law_cell" = some (some (.ref f23))) (l23 : K.lookup f23 = some ⟨oc23, od23, .func (PySem.W.fnOf "_law_cell" "_law_cell" (defArgs s__law_cell) (defBody s__law_cell) (defScope s__law_cell) .none kV23 dc23 pm23 an23 cd23 ct23), sl23⟩) (c23 : PySem.W.codeIn K cd23 "_law_cell" = true) (k23 : PySem.W.keepIn K (.ref f23) = true)
    (a24 : PySem.W.nsIn K mainGlobals "_law_digits" = some (some (.ref f24))) (l24 : K.lookup f24 = some ⟨oc24, od24, .func (PySem.W.fnOf "_law_digits" "_law_digits" (defArgs s__law_digits) (defBody s__law_digits) (defScope s__law_digits) .none kV24 dc24 pm24 an24 cd24 ct24), sl24⟩) (c24 : PySem.W.codeIn K cd24 "_law_digits" = true) (k24 : PySem.W.keepIn K (.ref f24) = true)
    (a25 : PySem.W.nsIn K mainGlobals "_law_gcd" = some (some (.ref f25))) (l25 : K.lookup f25 = some ⟨oc25, od25, .func (PySem.W.fnOf "_law_gcd" "_law_gcd" (defArgs s__law_gcd) (defBody s__law_gcd) (defScope s__law_gcd) .none kV25 dc25 pm25 an25 cd25 ct25), sl25⟩) (c25 : PySem.W.codeIn K cd25 "_law_gcd" = true) (k25 : PySem.W.keepIn K (.ref f25) = true)
    (a26 : PySem.W.nsIn K mainGlobals "_law_is_point" = some (some (.ref f26))) (l26 : K.lookup f26 = some ⟨oc26, od26, .func (PySem.W.fnOf "_law_is_point" "_law_is_point" (defArgs s__law_is_point) (defBody s__law_is_point) (defScope s__law_is_point) .none kV26 dc26 pm26 an26 cd26 ct26), sl26⟩) (c26 : PySem.W.codeIn K cd26 "_law_is_point" = true) (k26 : PySem.W.keepIn K (.ref f26) = true)
    (a27 : PySem.W.nsIn K mainGlobals "_law_dot" = some (some (.ref f27))) (l27 : K.lookup f27 = some ⟨oc27, od27, .func (PySem.W.fnOf "_law_dot" "_law_dot" (defArgs s__law_dot) (defBody s__law_dot) (defScope s__law_dot) .none kV27 dc27 pm27 an27 cd27 ct27), sl27⟩) (c27 : PySem.W.codeIn K cd27 "_law_dot" = true) (k27 : PySem.W.keepIn K (.ref f27) = true)
    (a28 : PySem.W.nsIn K mainGlobals "_law_table" = some (some (.ref f28))) (l28 : K.lookup f28 = some ⟨oc28, od28, .func (PySem.W.fnOf "_law_table" "_law_table" (defArgs s__law_table) (defBody s__law_table) (defScope s__law_table) .none kV28 dc28 pm28 an28 cd28 ct28), sl28⟩) (c28 : PySem.W.codeIn K cd28 "_law_table" = true) (k28 : PySem.W.keepIn K (.ref f28) = true)
    (a29 : PySem.W.nsIn K mainGlobals "_law_value" = some (some (.ref f29))) (l29 : K.lookup f29 = some ⟨oc29, od29, .func (PySem.W.fnOf "_law_value" "_law_value" (defArgs s__law_value) (defBody s__law_value) (defScope s__law_value) .none kV29 dc29 pm29 an29 cd29 ct29), sl29⟩) (c29 : PySem.W.codeIn K cd29 "_law_value" = true) (k29 : PySem.W.keepIn K (.ref f29) = true)
    (a30 : PySem.W.nsIn K mainGlobals "_law_sandwich" = some (some (.ref f30))) (l30 : K.lookup f30 = some ⟨oc30, od30, .func (PySem.W.fnOf "_law_sandwich" "_law_sandwich" (defArgs s__law_sandwich) (defBody s__law_sandwich) (defScope s__law_sandwich) .none kV30 dc30 pm30 an30 cd30 ct30), sl30⟩) (c30 : PySem.W.codeIn K cd30 "_law_sandwich" = true) (k30 : PySem.W.keepIn K (.ref f30) = true)
    (a31 : PySem.W.nsIn K mainGlobals "_law_leads" = some (some (.ref f31))) (l31 : K.lookup f31 = some ⟨oc31, od31, .func (PySem.W.fnOf "_law_leads" "_law_leads" (defArgs s__law_leads) (defBody s__law_leads) (defScope s__law_leads) .none kV31 dc31 pm31 an31 cd31 ct31), sl31⟩) (c31 : PySem.W.codeIn K cd31 "_law_leads" = true) (k31 : PySem.W.keepIn K (.ref f31) = true)
    (a32 : PySem.W.nsIn K mainGlobals "_law_draw_row" = some (some (.ref f32))) (l32 : K.lookup f32 = some ⟨oc32, od32, .func (PySem.W.fnOf "_law_draw_row" "_law_draw_row" (defArgs s__law_draw_row) (defBody s__law_draw_row) (defScope s__law_draw_row) .none kV32 dc32 pm32 an32 cd32 ct32), sl32⟩) (c32 : PySem.W.codeIn K cd32 "_law_draw_row" = true) (k32 : PySem.W.keepIn K (.ref f32) = true)
    (a33 : PySem.W.nsIn K mainGlobals "_law_draw_weight" = some (some (.ref f33))) (l33 : K.lookup f33 = some ⟨oc33, od33, .func (PySem.W.fnOf "_law_draw_weight" "_law_draw_weight" (defArgs s__law_draw_weight) (defBody s__law_draw_weight) (defScope s__law_draw_weight) .none kV33 dc33 pm33 an33 cd33 ct33), sl33⟩) (c33 : PySem.W.codeIn K cd33 "_law_draw_weight" = true) (k33 : PySem.W.keepIn K (.ref f33) = true)
    (a34 : PySem.W.nsIn K mainGlobals "_law_line" = some (some (.ref f34))) (l34 : K.lookup f34 = some ⟨oc34, od34, .func (PySem.W.fnOf "_law_line" "_law_line" (defArgs s__law_line) (defBody s__law_line) (defScope s__law_line) .none kV34 dc34 pm34 an34 cd34 ct34), sl34⟩) (c34 : PySem.W.codeIn K cd34 "_law_line" = true) (k34 : PySem.W.keepIn K (.ref f34) = true)
    (a35 : PySem.W.nsIn K mainGlobals "_law_seven" = some (some (.ref f35))) (l35 : K.lookup f35 = some ⟨oc35, od35, .func (PySem.W.fnOf "_law_seven" "_law_seven" (defArgs s__law_seven) (defBody s__law_seven) (defScope s__law_seven) .none kV35 dc35 pm35 an35 cd35 ct35), sl35⟩) (c35 : PySem.W.codeIn K cd35 "_law_seven" = true) (k35 : PySem.W.keepIn K (.ref f35) = true)
    (a36 : PySem.W.nsIn K mainGlobals "_law_wide" = some (some (.ref f36))) (l36 : K.lookup f36 = some ⟨oc36, od36, .func (PySem.W.fnOf "_law_wide" "_law_wide" (defArgs s__law_wide) (defBody s__law_wide) (defScope s__law_wide) .none kV36 dc36 pm36 an36 cd36 ct36), sl36⟩) (c36 : PySem.W.codeIn K cd36 "_law_wide" = true) (k36 : PySem.W.keepIn K (.ref f36) = true)
    (a37 : PySem.W.nsIn K mainGlobals "_law_row" = some (some (.ref f37))) (l37 : K.lookup f37 = some ⟨oc37, od37, .func (PySem.W.fnOf "_law_row" "_law_row" (defArgs s__law_row) (defBody s__law_row) (defScope s__law_row) .none kV37 dc37 pm37 an37 cd37 ct37), sl37⟩) (c37 : PySem.W.codeIn K cd37 "_law_row" = true) (k37 : PySem.W.keepIn K (.ref f37) = true)
    (a38 : PySem.W.nsIn K mainGlobals "_law_any_table" = some (some (.ref f38))) (l38 : K.lookup f38 = some ⟨oc38, od38, .func (PySem.W.fnOf "_law_any_table" "_law_any_table" (defArgs s__law_any_table) (defBody s__law_any_table) (defScope s__law_any_table) .none kV38 dc38 pm38 an38 cd38 ct38), sl38⟩) (c38 : PySem.W.codeIn K cd38 "_law_any_table" = true) (k38 : PySem.W.keepIn K (.ref f38) = true)
    (a39 : PySem.W.nsIn K mainGlobals "_law_sum_table" = some (some (.ref f39))) (l39 : K.lookup f39 = some ⟨oc39, od39, .func (PySem.W.fnOf "_law_sum_table" "_law_sum_table" (defArgs s__law_sum_table) (defBody s__law_sum_table) (defScope s__law_sum_table) .none kV39 dc39 pm39 an39 cd39 ct39), sl39⟩) (c39 : PySem.W.codeIn K cd39 "_law_sum_table" = true) (k39 : PySem.W.keepIn K (.ref f39) = true)
    (a40 : PySem.W.nsIn K mainGlobals "_law_draw_form" = some (some (.ref f40))) (l40 : K.lookup f40 = some ⟨oc40, od40, .func (PySem.W.fnOf "_law_draw_form" "_law_draw_form" (defArgs s__law_draw_form) (defBody s__law_draw_form) (defScope s__law_draw_form) .none kV40 dc40 pm40 an40 cd40 ct40), sl40⟩) (c40 : PySem.W.codeIn K cd40 "_law_draw_form" = true) (k40 : PySem.W.keepIn K (.ref f40) = true)
    (a41 : PySem.W.nsIn K mainGlobals "_law_is_form" = some (some (.ref f41))) (l41 : K.lookup f41 = some ⟨oc41, od41, .func (PySem.W.fnOf "_law_is_form" "_law_is_form" (defArgs s__law_is_form) (defBody s__law_is_form) (defScope s__law_is_form) .none kV41 dc41 pm41 an41 cd41 ct41), sl41⟩) (c41 : PySem.W.codeIn K cd41 "_law_is_form" = true) (k41 : PySem.W.keepIn K (.ref f41) = true)
    (a42 : PySem.W.nsIn K mainGlobals "_law_form_is" = some (some (.ref f42))) (l42 : K.lookup f42 = some ⟨oc42, od42, .func (PySem.W.fnOf "_law_form_is" "_law_form_is" (defArgs s__law_form_is) (defBody s__law_form_is) (defScope s__law_form_is) .none kV42 dc42 pm42 an42 cd42 ct42), sl42⟩) (c42 : PySem.W.codeIn K cd42 "_law_form_is" = true) (k42 : PySem.W.keepIn K (.ref f42) = true)
    (a43 : PySem.W.nsIn K mainGlobals "_law_is_inverse" = some (some (.ref f43))) (l43 : K.lookup f43 = some ⟨oc43, od43, .func (PySem.W.fnOf "_law_is_inverse" "_law_is_inverse" (defArgs s__law_is_inverse) (defBody s__law_is_inverse) (defScope s__law_is_inverse) .none kV43 dc43 pm43 an43 cd43 ct43), sl43⟩) (c43 : PySem.W.codeIn K cd43 "_law_is_inverse" = true) (k43 : PySem.W.keepIn K (.ref f43) = true)
    (a44 : PySem.W.nsIn K mainGlobals "_law_det" = some (some (.ref f44))) (l44 : K.lookup f44 = some ⟨oc44, od44, .func (PySem.W.fnOf "_law_det" "_law_det" (defArgs s__law_det) (defBody s__law_det) (defScope s__law_det) .none kV44 dc44 pm44 an44 cd44 ct44), sl44⟩) (c44 : PySem.W.codeIn K cd44 "_law_det" = true) (k44 : PySem.W.keepIn K (.ref f44) = true)
    (a45 : PySem.W.nsIn K mainGlobals "_law_det_right" = some (some (.ref f45))) (l45 : K.lookup f45 = some ⟨oc45, od45, .func (PySem.W.fnOf "_law_det_right" "_law_det_right" (defArgs s__law_det_right) (defBody s__law_det_right) (defScope s__law_det_right) .none kV45 dc45 pm45 an45 cd45 ct45), sl45⟩) (c45 : PySem.W.codeIn K cd45 "_law_det_right" = true) (k45 : PySem.W.keepIn K (.ref f45) = true)
    (a46 : PySem.W.nsIn K mainGlobals "_law_second" = some (some (.ref f46))) (l46 : K.lookup f46 = some ⟨oc46, od46, .func (PySem.W.fnOf "_law_second" "_law_second" (defArgs s__law_second) (defBody s__law_second) (defScope s__law_second) .none kV46 dc46 pm46 an46 cd46 ct46), sl46⟩) (c46 : PySem.W.codeIn K cd46 "_law_second" = true) (k46 : PySem.W.keepIn K (.ref f46) = true)
    (a47 : PySem.W.nsIn K mainGlobals "_law_asked" = some (some (.ref f47))) (l47 : K.lookup f47 = some ⟨oc47, od47, .func (PySem.W.fnOf "_law_asked" "_law_asked" (defArgs s__law_asked) (defBody s__law_asked) (defScope s__law_asked) .none kV47 dc47 pm47 an47 cd47 ct47), sl47⟩) (c47 : PySem.W.codeIn K cd47 "_law_asked" = true) (k47 : PySem.W.keepIn K (.ref f47) = true)
    (a48 : PySem.W.nsIn K mainGlobals "law" = some (some (.ref f48))) (l48 : K.lookup f48 = some ⟨oc48, od48, .func (PySem.W.fnOf "law" "law" (defArgs s_law) (defBody s_law) (defScope s_law) .none kV48 dc48 pm48 an48 cd48 ct48), sl48⟩) (c48 : PySem.W.codeIn K cd48 "law" = true) (k48 : PySem.W.keepIn K (.ref f48) = true)
    (z0 : PySem.W.nsIn K mainGlobals "len" = some none)
    (z1 : PySem.W.nsIn K mainGlobals "int" = some none)
    (z2 : PySem.W.nsIn K mainGlobals "bool" = some none)
    (z3 : PySem.W.nsIn K mainGlobals "tuple" = some none)
    (z4 : PySem.W.nsIn K mainGlobals "list" = some none)
    (z5 : PySem.W.nsIn K mainGlobals "isinstance" = some none)
    (z6 : PySem.W.nsIn K mainGlobals "range" = some none)
    (z7 : PySem.W.nsIn K mainGlobals "enumerate" = some none)
    (z8 : PySem.W.nsIn K mainGlobals "zip" = some none)
    (z9 : PySem.W.nsIn K mainGlobals "sum" = some none)
    (z10 : PySem.W.nsIn K mainGlobals "min" = some none)
    (z11 : PySem.W.nsIn K mainGlobals "max" = some none)
    (z12 : PySem.W.nsIn K mainGlobals "abs" = some none)
    (z13 : PySem.W.nsIn K mainGlobals "all" = some none)
    (z14 : PySem.W.nsIn K mainGlobals "any" = some none)
    (z15 : PySem.W.nsIn K mainGlobals "reversed" = some none)
    (z16 : PySem.W.nsIn K mainGlobals "ValueError" = some none)
    (g_gcd : PySem.W.nsIn K mainGlobals "gcd" = some (some (.builtin "math.gcd")))
    (a_CableError : PySem.W.nsIn K mainGlobals "CableError" = some (some (.ref c_CableError)))
    (a_ZeroBottom : PySem.W.nsIn K mainGlobals "ZeroBottom" = some (some (.ref c_ZeroBottom)))
    (a_SizesDiffer : PySem.W.nsIn K mainGlobals "SizesDiffer" = some (some (.ref c_SizesDiffer)))
    (a_BelowZero : PySem.W.nsIn K mainGlobals "BelowZero" = some (some (.ref c_BelowZero)))
    (a_NoSolution : PySem.W.nsIn K mainGlobals "NoSolution" = some (some (.ref c_NoSolution)))
    (a_TooNear : PySem.W.nsIn K mainGlobals "TooNear" = some (some (.ref c_TooNear)))
    (a_Form : PySem.W.nsIn K mainGlobals "Form" = some (some (.ref c_Form)))
    (i_CableError : PySem.W.isClsIn K c_CableError = true)
    (y_CableError : PySem.W.typeIn K (.ref c_CableError) = some (.type "type"))
    (i_ZeroBottom : PySem.W.isClsIn K c_ZeroBottom = true)
    (y_ZeroBottom : PySem.W.typeIn K (.ref c_ZeroBottom) = some (.type "type"))
    (i_SizesDiffer : PySem.W.isClsIn K c_SizesDiffer = true)
    (y_SizesDiffer : PySem.W.typeIn K (.ref c_SizesDiffer) = some (.type "type"))
    (i_BelowZero : PySem.W.isClsIn K c_BelowZero = true)
    (y_BelowZero : PySem.W.typeIn K (.ref c_BelowZero) = some (.type "type"))
    (i_NoSolution : PySem.W.isClsIn K c_NoSolution = true)
    (y_NoSolution : PySem.W.typeIn K (.ref c_NoSolution) = some (.type "type"))
    (i_TooNear : PySem.W.isClsIn K c_TooNear = true)
    (y_TooNear : PySem.W.typeIn K (.ref c_TooNear) = some (.type "type"))
    (b_CableError : PySem.W.subIn K (.ref c_CableError) (.type "BaseException") = some true)
    (b_BelowZero : PySem.W.subIn K (.ref c_BelowZero) (.type "BaseException") = some true)
    (xl_BelowZero : K.lookup c_BelowZero = some (excClassObj nm_BelowZero q_BelowZero c_BelowZero N_BelowZero bs_BelowZero [.ref c_CableError, .type "ValueError", .type "Exception", .type "BaseException", .type "object"] true sn_BelowZero sub_BelowZero ab_BelowZero col_BelowZero dd_BelowZero m0_BelowZero m1_BelowZero m2_BelowZero m3_BelowZero m5_BelowZero "ValueError.__new__"))
    (sa_BelowZero : PySem.W.findIn K (.ref c_BelowZero) "__setattr__" = some (some (.builtin "object.__setattr__")))
    (ga_BelowZero : PySem.W.findIn K (.ref c_BelowZero) "__getattribute__" = some (some (.builtin "BaseException.__getattribute__")))
    (gg_BelowZero : PySem.W.findIn K (.ref c_BelowZero) "__getattr__" = some none)
    (ca_BelowZero : PySem.W.findIn K (.ref c_BelowZero) "__class__" = some (some (.builtin "object.__class__")))
    (cm_BelowZero : PySem.W.mroIn K c_BelowZero (.type "object") = some true)
    (hd_BelowZero : PySem.W.hasDictIn K c_BelowZero = true)
    (kp_BelowZero : PySem.W.keepIn K (.ref c_BelowZero) = true)
    (no_BelowZero_point : PySem.W.findIn K (.ref c_BelowZero) "point" = some none)
    (in_BelowZero : PySem.W.findIn K (.ref c_BelowZero) "__init__" = some (some (.ref f_BelowZero)))
    (tf_BelowZero : PySem.W.typeIn K (.ref f_BelowZero) = some (.type "function"))
    (lf_BelowZero : K.lookup f_BelowZero = some ⟨oci_BelowZero, odi_BelowZero, .func (PySem.W.fnOf "__init__" "BelowZero.__init__" (defArgs s_iBZ) (defBody s_iBZ) (defScope s_iBZ) .none kVi_BelowZero dci_BelowZero pmi_BelowZero ani_BelowZero cdi_BelowZero cti_BelowZero), sli_BelowZero⟩)
    (cf_BelowZero : PySem.W.codeIn K cdi_BelowZero "BelowZero.__init__" = true)
    (kf_BelowZero : PySem.W.keepIn K (.ref f_BelowZero) = true)
    (pg_Form : PySem.W.plainGet K c_Form Str.empty = true)
    (hd_Form : PySem.W.hasDictIn K c_Form = true)
    (po_Form : PySem.W.plainOver K c_Form = true)
    (sa_Form : PySem.W.findIn K (.ref c_Form) "__setattr__" = some (some (.builtin "object.__setattr__")))
    (mk_Form : PySem.W.makesIn K c_Form = true)
    (kc_Form : PySem.W.keepIn K (.ref c_Form) = true)
    (na_Form_size : PySem.W.findIn K (.ref c_Form) "size" = some none)
    (na_Form_entries : PySem.W.findIn K (.ref c_Form) "entries" = some none)
    (na_Form_bottom : PySem.W.findIn K (.ref c_Form) "bottom" = some none)
    (in_Form : PySem.W.findIn K (.ref c_Form) "__init__" = some (some (.ref f_Form)))
    (isf_Form : PySem.W.isFn K (.ref f_Form) = true)
    (lf_Form : K.lookup f_Form = some ⟨oci_Form, odi_Form, .func (PySem.W.fnOf "__init__" "Form.__init__" (defArgs s_iForm) (defBody s_iForm) (defScope s_iForm) .none (.ref D_Form) dci_Form pmi_Form ani_Form cdi_Form cti_Form), sli_Form⟩)
    (cf_Form : PySem.W.codeIn K cdi_Form "Form.__init__" = true)
    (kf_Form : PySem.W.keepIn K (.ref f_Form) = true)
    (kd_Form : PySem.W.nsIn K D_Form "bottom" = some (some (.int 1 tki_Form)))
    (i_Form : PySem.W.isClsIn K c_Form = true)
    (y_Form : PySem.W.typeIn K (.ref c_Form) = some (.type "type"))
    (oc_Form : PySem.W.findIn K (.ref c_Form) "__class__" = some (some (.builtin "object.__class__")))
    (om_Form : PySem.W.mroIn K c_Form (.type "object") = some true)
    (cn0 : PySem.W.specialIn K (.builtin "object.__class__") "__get__" = some (some (.builtin "getset_descriptor.__get__")))
    (ct0 : PySem.W.takesIn K (.builtin "object.__class__") = some true)
    (s_Form_Form : PySem.W.subIn K (.ref c_Form) (.ref c_Form) = some true)
    (s_BelowZero_BelowZero : PySem.W.subIn K (.ref c_BelowZero) (.ref c_BelowZero) = some true)
    (s_BelowZero_NoSolution : PySem.W.subIn K (.ref c_BelowZero) (.ref c_NoSolution) = some false)
    (s_BelowZero_CableError : PySem.W.subIn K (.ref c_BelowZero) (.ref c_CableError) = some true)
    (s_BelowZero_TooNear : PySem.W.subIn K (.ref c_BelowZero) (.ref c_TooNear) = some false)
    (s_BelowZero_SizesDiffer : PySem.W.subIn K (.ref c_BelowZero) (.ref c_SizesDiffer) = some false)
    (s_BelowZero_ZeroBottom : PySem.W.subIn K (.ref c_BelowZero) (.ref c_ZeroBottom) = some false)
    (sb_BelowZero_ValueError : PySem.W.subIn K (.ref c_BelowZero) (.type "ValueError") = some true)
    : ∃ fd : FuncData, (∀ (s : Shared) (v : Value), BindsTo s fd ⟨[v], []⟩ [("script", v)]) ∧ ∀ base : Heap, K.In base → base.Ns mainGlobals mg → FnOk l.prog w K mg base CX0 9 fa fd ["script"] (spLaw K) := by
  have e := hfa.symm.trans (PySem.W.mg_of X G a48)
  cases e
  have T : Txt mg := { b_len := PySem.W.mg_none_of X G z0, b_int := PySem.W.mg_none_of X G z1, b_bool := PySem.W.mg_none_of X G z2, b_tuple := PySem.W.mg_none_of X G z3, b_list := PySem.W.mg_none_of X G z4, b_isinstance := PySem.W.mg_none_of X G z5, b_range := PySem.W.mg_none_of X G z6, b_enumerate := PySem.W.mg_none_of X G z7, b_zip := PySem.W.mg_none_of X G z8, b_sum := PySem.W.mg_none_of X G z9, b_min := PySem.W.mg_none_of X G z10, b_max := PySem.W.mg_none_of X G z11, b_abs := PySem.W.mg_none_of X G z12, b_all := PySem.W.mg_none_of X G z13, b_any := PySem.W.mg_none_of X G z14, b_reversed := PySem.W.mg_none_of X G z15, b_ValueError := PySem.W.mg_none_of X G z16, g_gcd := PySem.W.mg_of X G g_gcd }
  have G_CableError := PySem.W.mg_of X G a_CableError
  have G_ZeroBottom := PySem.W.mg_of X G a_ZeroBottom
  have G_SizesDiffer := PySem.W.mg_of X G a_SizesDiffer
  have G_BelowZero := PySem.W.mg_of X G a_BelowZero
  have G_NoSolution := PySem.W.mg_of X G a_NoSolution
  have G_TooNear := PySem.W.mg_of X G a_TooNear
  have G_Form := PySem.W.mg_of X G a_Form
  have X_BelowZero : EX.XCls K c_BelowZero := ⟨i_BelowZero, ga_BelowZero, gg_BelowZero, b_BelowZero, ca_BelowZero, cn0, ct0, cm_BelowZero, hd_BelowZero, y_BelowZero, kp_BelowZero⟩
  have O_BelowZero : OexC K c_BelowZero := ⟨⟨nm_BelowZero, q_BelowZero, N_BelowZero, bs_BelowZero, _, sn_BelowZero, sub_BelowZero, ab_BelowZero, col_BelowZero, dd_BelowZero, m0_BelowZero, m1_BelowZero, m2_BelowZero, m3_BelowZero, m5_BelowZero, xl_BelowZero, by rfl⟩, sa_BelowZero, b_BelowZero, y_BelowZero, kp_BelowZero⟩
  have FI_BelowZero := fun_mk (st := s_iBZ) lf_BelowZero cf_BelowZero kf_BelowZero
  have BI_BelowZero := FI_BelowZero.binds (ps := ["self", "point"]) fun _ _ _ _ _ _ us hl => match us, hl with | [_, _], _ => rfl
  have FO_Form := funD_of (st := s_iForm) lf_Form cf_Form kf_Form kd_Form
  have MK_Form : Mk K c_Form f_Form := ⟨mk_Form, in_Form, isf_Form, kc_Form⟩
  have CL_Form : Cls K c_Form := ⟨pg_Form, hd_Form, po_Form, sa_Form⟩
  have F_frozen_numbers := fun_mk (st := s_frozen_numbers) l1 c1 k1
  have m_frozen_numbers := PySem.W.mg_of X G a1
  have b_frozen_numbers := F_frozen_numbers.binds (ps := ["value"]) fun _ _ _ _ _ _ us hl => match us, hl with | [_], _ => rfl
  have F_frozen_part := fun_mk (st := s_frozen_part) l2 c2 k2
  have m_frozen_part := PySem.W.mg_of X G a2
  have b_frozen_part := F_frozen_part.binds (ps := ["value"]) fun _ _ _ _ _ _ us hl => match us, hl with | [_], _ => rfl
  have F_frozen := fun_mk (st := s_frozen) l3 c3 k3
  have m_frozen := PySem.W.mg_of X G a3
  have b_frozen := F_frozen.binds (ps := ["value"]) fun _ _ _ _ _ _ us hl => match us, hl with | [_], _ => rfl
  have F_lowered := fun_mk (st := s_lowered) l4 c4 k4
  have m_lowered := PySem.W.mg_of X G a4
  have b_lowered := F_lowered.binds (ps := ["numbers", "bottom"]) fun _ _ _ _ _ _ us hl => match us, hl with | [_, _], _ => rfl
  have F_fraction := fun_mk (st := s_fraction) l5 c5 k5
  have m_fraction := PySem.W.mg_of X G a5
  have b_fraction := F_fraction.binds (ps := ["top", "bottom"]) fun _ _ _ _ _ _ us hl => match us, hl with | [_, _], _ => rfl
  have F_check_square := fun_mk (st := s_check_square) l6 c6 k6
  have m_check_square := PySem.W.mg_of X G a6
  have b_check_square := F_check_square.binds (ps := ["lines"]) fun _ _ _ _ _ _ us hl => match us, hl with | [_], _ => rfl
  have F_check_symmetric := fun_mk (st := s_check_symmetric) l7 c7 k7
  have m_check_symmetric := PySem.W.mg_of X G a7
  have b_check_symmetric := F_check_symmetric.binds (ps := ["lines"]) fun _ _ _ _ _ _ us hl => match us, hl with | [_], _ => rfl
  have F_unit_point := fun_mk (st := s_unit_point) l8 c8 k8
  have m_unit_point := PySem.W.mg_of X G a8
  have b_unit_point := F_unit_point.binds (ps := ["size", "index"]) fun _ _ _ _ _ _ us hl => match us, hl with | [_, _], _ => rfl
  have F_side_index := fun_mk (st := s_side_index) l9 c9 k9
  have m_side_index := PySem.W.mg_of X G a9
  have b_side_index := F_side_index.binds (ps := ["line", "index"]) fun _ _ _ _ _ _ us hl => match us, hl with | [_, _], _ => rfl
  have F_bad_point := fun_mk (st := s_bad_point) l10 c10 k10
  have m_bad_point := PySem.W.mg_of X G a10
  have b_bad_point := F_bad_point.binds (ps := ["table", "index"]) fun _ _ _ _ _ _ us hl => match us, hl with | [_, _], _ => rfl
  have F_reduced := fun_mk (st := s_reduced) l11 c11 k11
  have m_reduced := PySem.W.mg_of X G a11
  have b_reduced := F_reduced.binds (ps := ["table", "index", "divisor"]) fun _ _ _ _ _ _ us hl => match us, hl with | [_, _, _], _ => rfl
  have F_eliminated := fun_mk (st := s_eliminated) l12 c12 k12
  have m_eliminated := PySem.W.mg_of X G a12
  have b_eliminated := F_eliminated.binds (ps := ["entries"]) fun _ _ _ _ _ _ us hl => match us, hl with | [_], _ => rfl
  have F_settled := fun_mk (st := s_settled) l13 c13 k13
  have m_settled := PySem.W.mg_of X G a13
  have b_settled := F_settled.binds (ps := ["pivots", "point"]) fun _ _ _ _ _ _ us hl => match us, hl with | [_, _], _ => rfl
  have F_checked := fun_mk (st := s_checked) l14 c14 k14
  have m_checked := PySem.W.mg_of X G a14
  have b_checked := F_checked.binds (ps := ["form"]) fun _ _ _ _ _ _ us hl => match us, hl with | [_], _ => rfl
  have F_leads := fun_mk (st := s_leads) l15 c15 k15
  have m_leads := PySem.W.mg_of X G a15
  have b_leads := F_leads.binds (ps := ["form"]) fun _ _ _ _ _ _ us hl => match us, hl with | [_], _ => rfl
  have F_cleared := fun_mk (st := s_cleared) l16 c16 k16
  have m_cleared := PySem.W.mg_of X G a16
  have b_cleared := F_cleared.binds (ps := ["table", "at", "divisor"]) fun _ _ _ _ _ _ us hl => match us, hl with | [_, _, _], _ => rfl
  have F_block_inverse := fun_mk (st := s_block_inverse) l17 c17 k17
  have m_block_inverse := PySem.W.mg_of X G a17
  have b_block_inverse := F_block_inverse.binds (ps := ["entries", "indexes"]) fun _ _ _ _ _ _ us hl => match us, hl with | [_, _], _ => rfl
  have F_plain_inverse := fun_mk (st := s_plain_inverse) l18 c18 k18
  have m_plain_inverse := PySem.W.mg_of X G a18
  have b_plain_inverse := F_plain_inverse.binds (ps := ["form", "indexes"]) fun _ _ _ _ _ _ us hl => match us, hl with | [_, _], _ => rfl
  have F_inverse := fun_mk (st := s_inverse) l19 c19 k19
  have m_inverse := PySem.W.mg_of X G a19
  have b_inverse := F_inverse.binds (ps := ["form"]) fun _ _ _ _ _ _ us hl => match us, hl with | [_], _ => rfl
  have F_first_filled := fun_mk (st := s_first_filled) l20 c20 k20
  have m_first_filled := PySem.W.mg_of X G a20
  have b_first_filled := F_first_filled.binds (ps := ["table", "at"]) fun _ _ _ _ _ _ us hl => match us, hl with | [_, _], _ => rfl
  have F_determinant := fun_mk (st := s_determinant) l21 c21 k21
  have m_determinant := PySem.W.mg_of X G a21
  have b_determinant := F_determinant.binds (ps := ["form"]) fun _ _ _ _ _ _ us hl => match us, hl with | [_], _ => rfl
  have F__law_whole := fun_mk (st := s__law_whole) l22 c22 k22
  have m__law_whole := PySem.W.mg_of X G a22
  have b__law_whole := F__law_whole.binds (ps := ["value"]) fun _ _ _ _ _ _ us hl => match us, hl with | [_], _ => rfl
  have F__law_cell := fun_mk (st := s__law_cell) l23 c23 k23
  have m__law_cell := PySem.W.mg_of X G a23
  have b__law_cell := F__law_cell.binds (ps := ["script", "k"]) fun _ _ _ _ _ _ us hl => match us, hl with | [_, _], _ => rfl
  have F__law_digits := fun_mk (st := s__law_digits) l24 c24 k24
  have m__law_digits := PySem.W.mg_of X G a24
  have b__law_digits := F__law_digits.binds (ps := ["cell", "sizes"]) fun _ _ _ _ _ _ us hl => match us, hl with | [_, _], _ => rfl
  have F__law_gcd := fun_mk (st := s__law_gcd) l25 c25 k25
  have m__law_gcd := PySem.W.mg_of X G a25
  have b__law_gcd := F__law_gcd.binds (ps := ["one", "two"]) fun _ _ _ _ _ _ us hl => match us, hl with | [_, _], _ => rfl
  have F__law_is_point := fun_mk (st := s__law_is_point) l26 c26 k26
  have m__law_is_point := PySem.W.mg_of X G a26
  have b__law_is_point := F__law_is_point.binds (ps := ["value", "size"]) fun _ _ _ _ _ _ us hl => match us, hl with | [_, _], _ => rfl
  have F__law_dot := fun_mk (st := s__law_dot) l27 c27 k27
  have m__law_dot := PySem.W.mg_of X G a27
  have b__law_dot := F__law_dot.binds (ps := ["one", "two"]) fun _ _ _ _ _ _ us hl => match us, hl with | [_, _], _ => rfl
  have F__law_table := fun_mk (st := s__law_table) l28 c28 k28
  have m__law_table := PySem.W.mg_of X G a28
  have b__law_table := F__law_table.binds (ps := ["size", "pairs"]) fun _ _ _ _ _ _ us hl => match us, hl with | [_, _], _ => rfl
  have F__law_value := fun_mk (st := s__law_value) l29 c29 k29
  have m__law_value := PySem.W.mg_of X G a29
  have b__law_value := F__law_value.binds (ps := ["table", "one", "two"]) fun _ _ _ _ _ _ us hl => match us, hl with | [_, _, _], _ => rfl
  have F__law_sandwich := fun_mk (st := s__law_sandwich) l30 c30 k30
  have m__law_sandwich := PySem.W.mg_of X G a30
  have b__law_sandwich := F__law_sandwich.binds (ps := ["outer", "inner"]) fun _ _ _ _ _ _ us hl => match us, hl with | [_, _], _ => rfl
  have F__law_leads := fun_mk (st := s__law_leads) l31 c31 k31
  have m__law_leads := PySem.W.mg_of X G a31
  have b__law_leads := F__law_leads.binds (ps := ["table"]) fun _ _ _ _ _ _ us hl => match us, hl with | [_], _ => rfl
  have F__law_draw_row := fun_mk (st := s__law_draw_row) l32 c32 k32
  have m__law_draw_row := PySem.W.mg_of X G a32
  have b__law_draw_row := F__law_draw_row.binds (ps := ["size", "kind", "row"]) fun _ _ _ _ _ _ us hl => match us, hl with | [_, _, _], _ => rfl
  have F__law_draw_weight := fun_mk (st := s__law_draw_weight) l33 c33 k33
  have m__law_draw_weight := PySem.W.mg_of X G a33
  have b__law_draw_weight := F__law_draw_weight.binds (ps := ["kind", "row"]) fun _ _ _ _ _ _ us hl => match us, hl with | [_, _], _ => rfl
  have F__law_line := fun_mk (st := s__law_line) l34 c34 k34
  have m__law_line := PySem.W.mg_of X G a34
  have b__law_line := F__law_line.binds (ps := ["cell"]) fun _ _ _ _ _ _ us hl => match us, hl with | [_], _ => rfl
  have F__law_seven := fun_mk (st := s__law_seven) l35 c35 k35
  have m__law_seven := PySem.W.mg_of X G a35
  have b__law_seven := F__law_seven.binds (ps := ["line"]) fun _ _ _ _ _ _ us hl => match us, hl with | [_], _ => rfl
  have F__law_wide := fun_mk (st := s__law_wide) l36 c36 k36
  have m__law_wide := PySem.W.mg_of X G a36
  have b__law_wide := F__law_wide.binds (ps := ["size", "line"]) fun _ _ _ _ _ _ us hl => match us, hl with | [_, _], _ => rfl
  have F__law_row := fun_mk (st := s__law_row) l37 c37 k37
  have m__law_row := PySem.W.mg_of X G a37
  have b__law_row := F__law_row.binds (ps := ["size", "kind", "line"]) fun _ _ _ _ _ _ us hl => match us, hl with | [_, _, _], _ => rfl
  have F__law_any_table := fun_mk (st := s__law_any_table) l38 c38 k38
  have m__law_any_table := PySem.W.mg_of X G a38
  have b__law_any_table := F__law_any_table.binds (ps := ["size", "kind", "lines"]) fun _ _ _ _ _ _ us hl => match us, hl with | [_, _, _], _ => rfl
  have F__law_sum_table := fun_mk (st := s__law_sum_table) l39 c39 k39
  have m__law_sum_table := PySem.W.mg_of X G a39
  have b__law_sum_table := F__law_sum_table.binds (ps := ["size", "shape", "lines"]) fun _ _ _ _ _ _ us hl => match us, hl with | [_, _, _], _ => rfl
  have F__law_draw_form := fun_mk (st := s__law_draw_form) l40 c40 k40
  have m__law_draw_form := PySem.W.mg_of X G a40
  have b__law_draw_form := F__law_draw_form.binds (ps := ["script", "at", "menu"]) fun _ _ _ _ _ _ us hl => match us, hl with | [_, _, _], _ => rfl
  have F__law_is_form := fun_mk (st := s__law_is_form) l41 c41 k41
  have m__law_is_form := PySem.W.mg_of X G a41
  have b__law_is_form := F__law_is_form.binds (ps := ["found", "size"]) fun _ _ _ _ _ _ us hl => match us, hl with | [_, _], _ => rfl
  have F__law_form_is := fun_mk (st := s__law_form_is) l42 c42 k42
  have m__law_form_is := PySem.W.mg_of X G a42
  have b__law_form_is := F__law_form_is.binds (ps := ["found", "table", "under"]) fun _ _ _ _ _ _ us hl => match us, hl with | [_, _, _], _ => rfl
  have F__law_is_inverse := fun_mk (st := s__law_is_inverse) l43 c43 k43
  have m__law_is_inverse := PySem.W.mg_of X G a43
  have b__law_is_inverse := F__law_is_inverse.binds (ps := ["found", "table", "under", "leads_v"]) fun _ _ _ _ _ _ us hl => match us, hl with | [_, _, _, _], _ => rfl
  have F__law_det := fun_mk (st := s__law_det) l44 c44 k44
  have m__law_det := PySem.W.mg_of X G a44
  have b__law_det := F__law_det.binds (ps := ["table"]) fun _ _ _ _ _ _ us hl => match us, hl with | [_], _ => rfl
  have F__law_det_right := fun_mk (st := s__law_det_right) l45 c45 k45
  have m__law_det_right := PySem.W.mg_of X G a45
  have b__law_det_right := F__law_det_right.binds (ps := ["form", "table", "under"]) fun _ _ _ _ _ _ us hl => match us, hl with | [_, _, _], _ => rfl
  have F__law_second := fun_mk (st := s__law_second) l46 c46 k46
  have m__law_second := PySem.W.mg_of X G a46
  have b__law_second := F__law_second.binds (ps := ["script", "one"]) fun _ _ _ _ _ _ us hl => match us, hl with | [_, _], _ => rfl
  have F__law_asked := fun_mk (st := s__law_asked) l47 c47 k47
  have m__law_asked := PySem.W.mg_of X G a47
  have b__law_asked := F__law_asked.binds (ps := ["form", "table", "under"]) fun _ _ _ _ _ _ us hl => match us, hl with | [_, _, _], _ => rfl
  have F_law := fun_mk (st := s_law) l48 c48 k48
  have m_law := PySem.W.mg_of X G a48
  refine ⟨PySem.W.fnOf "law" "law" (defArgs s_law) (defBody s_law) (defScope s_law) .none kV48 dc48 pm48 an48 cd48 ct48, fun s v => .of_eq rfl, fun base _ _ => ?_⟩
  have U : Err K mg c_Form c_BelowZero c_NoSolution c_CableError c_TooNear c_SizesDiffer c_ZeroBottom f_BelowZero := { g_Form := G_Form, g_BelowZero := G_BelowZero, g_NoSolution := G_NoSolution, g_CableError := G_CableError, g_TooNear := G_TooNear, g_SizesDiffer := G_SizesDiffer, g_ZeroBottom := G_ZeroBottom, o_BelowZero := O_BelowZero, i_BelowZero := in_BelowZero, t_BelowZero := tf_BelowZero, xB := X_BelowZero, no_BelowZero_point := no_BelowZero_point, eBC := EX.exm_sub i_CableError y_CableError b_CableError s_BelowZero_CableError, kBV := EX.kit_blt (by decide +kernel) sb_BelowZero_ValueError, kBT := EX.kit_sub i_TooNear y_TooNear s_BelowZero_TooNear s_BelowZero_BelowZero, kBS := EX.kit_sub i_SizesDiffer y_SizesDiffer s_BelowZero_SizesDiffer s_BelowZero_BelowZero, kBB := EX.kit_sub i_BelowZero y_BelowZero s_BelowZero_BelowZero s_BelowZero_BelowZero, kBN := EX.kit_sub i_NoSolution y_NoSolution s_BelowZero_NoSolution s_BelowZero_BelowZero, kBZ := EX.kit_sub i_ZeroBottom y_ZeroBottom s_BelowZero_ZeroBottom s_BelowZero_BelowZero }
  have V0 : Frm K mg c_Form := { g_Form := G_Form, kF := EX.kit_sub i_Form y_Form s_Form_Form s_Form_Form, c1 := oc_Form, c2 := cn0, c3 := ct0, c4 := om_Form }
  have INB := ok_iBZ (P := l.prog) (w := w) (base := base) FI_BelowZero T U
  have O : Obs K c_Form c_Form := { clF := CL_Form, F_size := na_Form_size, F_entries := na_Form_entries, F_bottom := na_Form_bottom }
  obtain ⟨gF, kbF⟩ := kb_Form FO_Form
  have C_frozen_numbers : Cal l.prog w K mg base 1 "frozen_numbers" ["value"] (spFz K 1) := ⟨_, _, ok_frozen_numbers F_frozen_numbers T, m_frozen_numbers, F_frozen_numbers.kp, b_frozen_numbers⟩
  have C_frozen_part : Cal l.prog w K mg base 2 "frozen_part" ["value"] (spFz K 2) := ⟨_, _, ok_frozen_part F_frozen_part T C_frozen_numbers, m_frozen_part, F_frozen_part.kp, b_frozen_part⟩
  have C_frozen : Cal l.prog w K mg base 3 "frozen" ["value"] (spFz K 3) := ⟨_, _, ok_frozen F_frozen T C_frozen_part, m_frozen, F_frozen.kp, b_frozen⟩
  have C_lowered : Cal l.prog w K mg base 1 "lowered" ["numbers", "bottom"] spLow := ⟨_, _, ok_lowered F_lowered T, m_lowered, F_lowered.kp, b_lowered⟩
  have C_fraction : Cal l.prog w K mg base 1 "fraction" ["top", "bottom"] spFraction := ⟨_, _, ok_fraction F_fraction T, m_fraction, F_fraction.kp, b_fraction⟩
  have C_check_square : Cal l.prog w K mg base 1 "check_square" ["lines"] (spSquare K) := ⟨_, _, ok_check_square F_check_square T, m_check_square, F_check_square.kp, b_check_square⟩
  have C_check_symmetric : Cal l.prog w K mg base 1 "check_symmetric" ["lines"] (spSymm K) := ⟨_, _, ok_check_symmetric F_check_symmetric T, m_check_symmetric, F_check_symmetric.kp, b_check_symmetric⟩
  have C_cleared : Cal l.prog w K mg base 1 "cleared" ["table", "at", "divisor"] (spCleared K) := ⟨_, _, ok_cleared F_cleared T, m_cleared, F_cleared.kp, b_cleared⟩
  have C_block_inverse : Cal l.prog w K mg base 2 "block_inverse" ["entries", "indexes"] (spBlock K) := ⟨_, _, ok_block_inverse F_block_inverse T C_cleared, m_block_inverse, F_block_inverse.kp, b_block_inverse⟩
  have C__law_cell : Cal l.prog w K mg base 1 "_law_cell" ["script", "k"] (spCell K) := ⟨_, _, ok__law_cell F__law_cell T, m__law_cell, F__law_cell.kp, b__law_cell⟩
  have C__law_digits : Cal l.prog w K mg base 1 "_law_digits" ["cell", "sizes"] (spDigits K) := ⟨_, _, ok__law_digits F__law_digits T, m__law_digits, F__law_digits.kp, b__law_digits⟩
  have C__law_whole : Cal l.prog w K mg base 1 "_law_whole" ["value"] spLaw_whole := ⟨_, _, ok__law_whole F__law_whole T, m__law_whole, F__law_whole.kp, b__law_whole⟩
  have CH__law_whole : EX.CalH l.prog w K mg base 1 "_law_whole" ["value"] spLaw_whole := ⟨_, _, okH__law_whole F__law_whole T, m__law_whole, F__law_whole.kp, b__law_whole⟩
  have C__law_gcd : Cal l.prog w K mg base 1 "_law_gcd" ["one", "two"] spGcd := ⟨_, _, ok__law_gcd F__law_gcd T, m__law_gcd, F__law_gcd.kp, b__law_gcd⟩
  have C__law_is_point : Cal l.prog w K mg base 2 "_law_is_point" ["value", "size"] (spIsPoint K) := ⟨_, _, ok__law_is_point F__law_is_point T C__law_whole, m__law_is_point, F__law_is_point.kp, b__law_is_point⟩
  have C__law_dot : Cal l.prog w K mg base 1 "_law_dot" ["one", "two"] (spDot K) := ⟨_, _, ok__law_dot F__law_dot T, m__law_dot, F__law_dot.kp, b__law_dot⟩
  have C_unit_point : Cal l.prog w K mg base 1 "unit_point" ["size", "index"] (spUnit K) := ⟨_, _, ok_unit_point F_unit_point T, m_unit_point, F_unit_point.kp, b_unit_point⟩
  have C_side_index : Cal l.prog w K mg base 1 "side_index" ["line", "index"] (spSide K) := ⟨_, _, ok_side_index F_side_index T, m_side_index, F_side_index.kp, b_side_index⟩
  have C_bad_point : Cal l.prog w K mg base 2 "bad_point" ["table", "index"] (spBad K) := ⟨_, _, ok_bad_point F_bad_point T C_unit_point C_side_index, m_bad_point, F_bad_point.kp, b_bad_point⟩
  have C_reduced : Cal l.prog w K mg base 1 "reduced" ["table", "index", "divisor"] (spReduced K) := ⟨_, _, ok_reduced F_reduced T, m_reduced, F_reduced.kp, b_reduced⟩
  have C_eliminated : Cal l.prog w K mg base 3 "eliminated" ["entries"] (spElim K) := ⟨_, _, ok_eliminated F_eliminated T C_bad_point C_reduced, m_eliminated, F_eliminated.kp, b_eliminated⟩
  have C_settled : Cal l.prog w K mg base 1 "settled" ["pivots", "point"] (spSettled K) := ⟨_, _, ok_settled F_settled T, m_settled, F_settled.kp, b_settled⟩
  have C_first_filled : Cal l.prog w K mg base 1 "first_filled" ["table", "at"] spFill := ⟨_, _, ok_first_filled F_first_filled T, m_first_filled, F_first_filled.kp, b_first_filled⟩
  have C__law_value : Cal l.prog w K mg base 2 "_law_value" ["table", "one", "two"] (spLawV K) := ⟨_, _, ok__law_value F__law_value T C__law_dot, m__law_value, F__law_value.kp, b__law_value⟩
  have C__law_wide : Cal l.prog w K mg base 1 "_law_wide" ["size", "line"] spWide := ⟨_, _, ok__law_wide F__law_wide T, m__law_wide, F__law_wide.kp, b__law_wide⟩
  have C__law_seven : Cal l.prog w K mg base 1 "_law_seven" ["line"] spSeven := ⟨_, _, ok__law_seven F__law_seven T, m__law_seven, F__law_seven.kp, b__law_seven⟩
  have C__law_draw_row : Cal l.prog w K mg base 1 "_law_draw_row" ["size", "kind", "row"] spDrow := ⟨_, _, ok__law_draw_row F__law_draw_row T, m__law_draw_row, F__law_draw_row.kp, b__law_draw_row⟩
  have C__law_any_table : Cal l.prog w K mg base 2 "_law_any_table" ["size", "kind", "lines"] spAny := ⟨_, _, ok__law_any_table F__law_any_table T C__law_wide, m__law_any_table, F__law_any_table.kp, b__law_any_table⟩
  have C__law_draw_weight : Cal l.prog w K mg base 1 "_law_draw_weight" ["kind", "row"] spWt := ⟨_, _, ok__law_draw_weight F__law_draw_weight T, m__law_draw_weight, F__law_draw_weight.kp, b__law_draw_weight⟩
  have C__law_line : Cal l.prog w K mg base 2 "_law_line" ["cell"] spLine := ⟨_, _, ok__law_line F__law_line T C__law_digits, m__law_line, F__law_line.kp, b__law_line⟩
  have C__law_row : Cal l.prog w K mg base 2 "_law_row" ["size", "kind", "line"] spRowD := ⟨_, _, ok__law_row F__law_row T C__law_wide C__law_seven C__law_draw_row, m__law_row, F__law_row.kp, b__law_row⟩
  have C__law_table : Cal l.prog w K mg base 1 "_law_table" ["size", "pairs"] (spTab K) := ⟨_, _, ok__law_table F__law_table T, m__law_table, F__law_table.kp, b__law_table⟩
  have C__law_sum_table : Cal l.prog w K mg base 3 "_law_sum_table" ["size", "shape", "lines"] spSum := ⟨_, _, ok__law_sum_table F__law_sum_table T C__law_row C__law_draw_weight C__law_seven C__law_table, m__law_sum_table, F__law_sum_table.kp, b__law_sum_table⟩
  have C__law_draw_form : Cal l.prog w K mg base 4 "_law_draw_form" ["script", "at", "menu"] (spDF K) := ⟨_, _, ok__law_draw_form F__law_draw_form T C__law_digits C__law_cell C__law_line C__law_sum_table C__law_any_table, m__law_draw_form, F__law_draw_form.kp, b__law_draw_form⟩
  have C__law_det : Cal l.prog w K mg base 1 "_law_det" ["table"] spLDet := ⟨_, _, ok__law_det F__law_det T, m__law_det, F__law_det.kp, b__law_det⟩
  have C__law_sandwich : Cal l.prog w K mg base 2 "_law_sandwich" ["outer", "inner"] (spSw K) := ⟨_, _, ok__law_sandwich F__law_sandwich T C__law_dot, m__law_sandwich, F__law_sandwich.kp, b__law_sandwich⟩
  have C__law_leads : Cal l.prog w K mg base 2 "_law_leads" ["table"] (spLeads K) := ⟨_, _, ok__law_leads F__law_leads T C__law_gcd, m__law_leads, F__law_leads.kp, b__law_leads⟩
  have C__law_is_form : Cal l.prog w K mg base 3 "_law_is_form" ["found", "size"] (spIsForm K c_Form) := ⟨_, _, ok__law_is_form F__law_is_form T O V0 C__law_whole C__law_is_point C__law_gcd, m__law_is_form, F__law_is_form.kp, b__law_is_form⟩
  have C__law_form_is : Cal l.prog w K mg base 4 "_law_form_is" ["found", "table", "under"] (spFormIs K c_Form) := ⟨_, _, ok__law_form_is F__law_form_is T O C__law_is_form, m__law_form_is, F__law_form_is.kp, b__law_form_is⟩
  have C__law_is_inverse : Cal l.prog w K mg base 4 "_law_is_inverse" ["found", "table", "under", "leads_v"] (spIsInv K c_Form) := ⟨_, _, ok__law_is_inverse F__law_is_inverse T O C__law_sandwich C__law_is_form, m__law_is_inverse, F__law_is_inverse.kp, b__law_is_inverse⟩
  have CH__law_is_point : EX.CalH l.prog w K mg base 2 "_law_is_point" ["value", "size"] (spIsPoint K) := ⟨_, _, okH__law_is_point F__law_is_point T CH__law_whole, m__law_is_point, F__law_is_point.kp, b__law_is_point⟩
  have CH__law_dot : EX.CalH l.prog w K mg base 1 "_law_dot" ["one", "two"] (spDot K) := ⟨_, _, okH__law_dot F__law_dot T, m__law_dot, F__law_dot.kp, b__law_dot⟩
  have CH__law_value : EX.CalH l.prog w K mg base 2 "_law_value" ["table", "one", "two"] (spLawV K) := ⟨_, _, okH__law_value F__law_value T CH__law_dot, m__law_value, F__law_value.kp, b__law_value⟩
  have C__law_second : Cal l.prog w K mg base 5 "_law_second" ["script", "one"] (spSec K) := ⟨_, _, ok__law_second F__law_second T C__law_digits C__law_cell C__law_draw_form, m__law_second, F__law_second.kp, b__law_second⟩
  have C_Form : CalK l.prog w K mg base 4 "Form" c_Form 1 ["bottom"] (spForm K c_Form) := ⟨_, _, _, gF, MK_Form, ok_iForm FO_Form T O C_frozen C_check_square C_check_symmetric C_lowered, G_Form, kbF⟩
  have CN_cleared : Cal l.prog w K mg base 1 "cleared" ["table", "at", "divisor"] (spClN K) := ⟨_, _, okN_cleared F_cleared T, m_cleared, F_cleared.kp, b_cleared⟩
  have C_determinant : Cal l.prog w K mg base 2 "determinant" ["form"] (spDet K c_Form) := ⟨_, _, ok_determinant F_determinant T O C_fraction C_first_filled CN_cleared, m_determinant, F_determinant.kp, b_determinant⟩
  have C_checked : EX.CalX l.prog w K mg base 5 "checked" ["form"] (spChecked K c_Form c_BelowZero) := ⟨_, _, ok_checked F_checked T U O INB BI_BelowZero C_eliminated C_settled, m_checked, F_checked.kp, b_checked⟩
  have C_leads : EX.CalX l.prog w K mg base 6 "leads" ["form"] (spLeadsF K c_Form c_BelowZero) := ⟨_, _, ok_leads F_leads T C_checked, m_leads, F_leads.kp, b_leads⟩
  have C_plain_inverse : Cal l.prog w K mg base 6 "plain_inverse" ["form", "indexes"] (spPlain K c_Form) := ⟨_, _, ok_plain_inverse F_plain_inverse T O C_block_inverse C_Form, m_plain_inverse, F_plain_inverse.kp, b_plain_inverse⟩
  have C_inverse : EX.CalX l.prog w K mg base 7 "inverse" ["form"] (spInv K c_Form c_BelowZero) := ⟨_, _, ok_inverse F_inverse T C_plain_inverse C_leads, m_inverse, F_inverse.kp, b_inverse⟩
  have C__law_det_right : Cal l.prog w K mg base 3 "_law_det_right" ["form", "table", "under"] (spDR K c_Form) := ⟨_, _, ok__law_det_right F__law_det_right T C_determinant C__law_whole C__law_gcd C__law_det, m__law_det_right, F__law_det_right.kp, b__law_det_right⟩
  have C__law_asked : Cal l.prog w K mg base 8 "_law_asked" ["form", "table", "under"] (spAsk K c_Form) := ⟨_, _, ok__law_asked F__law_asked T U O C__law_leads C_inverse C__law_is_inverse C__law_form_is CH__law_is_point CH__law_value, m__law_asked, F__law_asked.kp, b__law_asked⟩
  exact ok_law F_law T O C__law_draw_form C__law_second C__law_asked C__law_form_is C__law_det_right C_Form
theorem walk {l : PySem.W.OpenLaw} {q : Program} {loose : List Str} {XP : (Str → Option Value) → Heap → Prop} {YP : World → Heap → Prop} {d : DefRec} {K : Params → PySem.W.Frag} (hn : l.most = some 63) (hdf : d.params.defaults = [])
    (hY : ∀ (w : World) (h : Heap), YP w h → (K w.params).In h)
    (F : ∀ (w : World) (mg : Str → Option Value) (fa : Addr) (h : Heap), (K w.params).In h → h.Ns mainGlobals mg → mg d.name = some (.ref fa) →
      ∃ fd : FuncData, (∀ (s : Shared) (u : Value), BindsTo s fd ⟨[u], []⟩ [("script", u)]) ∧ ∀ base : Heap, (K w.params).In base → base.Ns mainGlobals mg → FnOk l.prog w (K w.params) mg base CX0 9 fa fd ["script"] (spLaw (K w.params))) :
    PySem.W.WalkO q loose XP YP l.row.toRowW d [] (fun f vs => PySem.call f vs) :=
  L2.walk_of (n := 63) (k := 9) (x := "script") (CX := fun _ => CX0) (sp := fun w => spLaw (K w.params)) hn (by decide) hdf ⟨rfl, by decide, by decide⟩ hY F (fun _ _ a ns hl _ hS => ⟨a, ns, rfl, hS, hl, fun _ => rfl⟩) fun _ _ _ _ _ z => z
end P10
open PySem PySem.W PyProof.Rows
set_option maxRecDepth 100000 in
set_option maxHeartbeats 0 in
theorem PySem.Challenge.cw_wholecables_k10_inverse_whole_holds : PySem.Challenge.rw_wholecables_k10_inverse_whole.Holds := by
  w_on; o_law; k_head; (case hw => w_witness2)
  k_fill
  refine P10.walk (l := PySem.Challenge.rw_wholecables_k10_inverse_whole) rfl rfl (fun w h Y => PySem.W.kIn_of Y) ?F
  case F =>
    intro w mg fa h KX G hmg
    refine' P10.all_mk KX G hmg ?a1 ?l1 ?c1 ?k1 ?a2 ?l2 ?c2 ?k2 ?a3 ?l3 ?c3 ?k3 ?a4 ?l4 ?c4 ?k4 ?a5 ?l5 ?c5 ?k5 ?a6 ?l6 ?c6 ?k6 ?a7 ?l7 ?c7 ?k7 ?a8 ?l8 ?c8 ?k8 ?a9 ?l9 ?c9 ?k9 ?a10 ?l10 ?c10 ?k10 ?a11 ?l11 ?c11 ?k11 ?a12 ?l12 ?c12 ?k12 ?a13 ?l13 ?c13 ?k13 ?a14 ?l14 ?c14 ?k14 ?a15 ?l15 ?c15 ?k15 ?a16 ?l16 ?c16 ?k16 ?a17 ?l17 ?c17 ?k17 ?a18 ?l18 ?c18 ?k18 ?a19 ?l19 ?c19 ?k19 ?a20 ?l20 ?c20 ?k20 ?a21 ?l21 ?c21 ?k21 ?a22 ?l22 ?c22 ?k22 ?a23 ?l23 ?c23 ?k23 ?a24 ?l24 ?c24 ?k24 ?a25 ?l25 ?c25 ?k25 ?a26 ?l26 ?c26 ?k26 ?a27 ?l27 ?c27 ?k27 ?a28 ?l28 ?c28 ?k28 ?a29 ?l29 ?c29 ?k29 ?a30 ?l30 ?c30 ?k30 ?a31 ?l31 ?c31 ?k31 ?a32 ?l32 ?c32 ?k32 ?a33 ?l33 ?c33 ?k33 ?a34 ?l34 ?c34 ?k34 ?a35 ?l35 ?c35 ?k35 ?a36 ?l36 ?c36 ?k36 ?a37 ?l37 ?c37 ?k37 ?a38 ?l38 ?c38 ?k38 ?a39 ?l39 ?c39 ?k39 ?a40 ?l40 ?c40 ?k40 ?a41 ?l41 ?c41 ?k41 ?a42 ?l42 ?c42 ?k42 ?a43 ?l43 ?c43 ?k43 ?a44 ?l44 ?c44 ?k44 ?a45 ?l45 ?c45 ?k45 ?a46 ?l46 ?c46 ?k46 ?a47 ?l47 ?c47 ?k47 ?a48 ?l48 ?c48 ?k48 ?z0 ?z1 ?z2 ?z3 ?z4 ?z5 ?z6 ?z7 ?z8 ?z9 ?z10 ?z11 ?z12 ?z13 ?z14 ?z15 ?z16 ?g_gcd ?a_CableError ?a_ZeroBottom ?a_SizesDiffer ?a_BelowZero ?a_NoSolution ?a_TooNear ?a_Form ?i_CableError ?y_CableError ?i_ZeroBottom ?y_ZeroBottom ?i_SizesDiffer ?y_SizesDiffer ?i_BelowZero ?y_BelowZero ?i_NoSolution ?y_NoSolution ?i_TooNear ?y_TooNear ?b_CableError ?b_BelowZero ?xl_BelowZero ?sa_BelowZero ?ga_BelowZero ?gg_BelowZero ?ca_BelowZero ?cm_BelowZero ?hd_BelowZero ?kp_BelowZero ?no_BelowZero_point ?in_BelowZero ?tf_BelowZero ?lf_BelowZero ?cf_BelowZero ?kf_BelowZero ?pg_Form ?hd_Form ?po_Form ?sa_Form ?mk_Form ?kc_Form ?na_Form_size ?na_Form_entries ?na_Form_bottom ?in_Form ?isf_Form ?lf_Form ?cf_Form ?kf_Form ?kd_Form ?i_Form ?y_Form ?oc_Form ?om_Form ?cn0 ?ct0 ?s_Form_Form ?s_BelowZero_BelowZero ?s_BelowZero_NoSolution ?s_BelowZero_CableError ?s_BelowZero_TooNear ?s_BelowZero_SizesDiffer ?s_BelowZero_ZeroBottom ?sb_BelowZero_ValueError
    (case a1 => k_is)
    (case l1 => k_is)
    (case c1 => k_is)
    (case k1 => k_is)
    (case a2 => k_is)
    (case l2 => k_is)
    (case c2 => k_is)
    (case k2 => k_is)
    (case a3 => k_is)
    (case l3 => k_is)
    (case c3 => k_is)
    (case k3 => k_is)
    (case a4 => k_is)
    (case l4 => k_is)
    (case c4 => k_is)
    (case k4 => k_is)
    (case a5 => k_is)
    (case l5 => k_is)
    (case c5 => k_is)
    (case k5 => k_is)
    (case a6 => k_is)
    (case l6 => k_is)
    (case c6 => k_is)
    (case k6 => k_is)
    (case a7 => k_is)
    (case l7 => k_is)
    (case c7 => k_is)
    (case k7 => k_is)
    (case a8 => k_is)
    (case l8 => k_is)
    (case c8 => k_is)
    (case k8 => k_is)
    (case a9 => k_is)
    (case l9 => k_is)
    (case c9 => k_is)
    (case k9 => k_is)
    (case a10 => k_is)
    (case l10 => k_is)
    (case c10 => k_is)
    (case k10 => k_is)
    (case a11 => k_is)
    (case l11 => k_is)
    (case c11 => k_is)
    (case k11 => k_is)
    (case a12 => k_is)
    (case l12 => k_is)
    (case c12 => k_is)
    (case k12 => k_is)
    (case a13 => k_is)
    (case l13 => k_is)
    (case c13 => k_is)
    (case k13 => k_is)
    (case a14 => k_is)
    (case l14 => k_is)
    (case c14 => k_is)
    (case k14 => k_is)
    (case a15 => k_is)
    (case l15 => k_is)
    (case c15 => k_is)
    (case k15 => k_is)
    (case a16 => k_is)
    (case l16 => k_is)
    (case c16 => k_is)
    (case k16 => k_is)
    (case a17 => k_is)
    (case l17 => k_is)
    (case c17 => k_is)
    (case k17 => k_is)
    (case a18 => k_is)
    (case l18 => k_is)
    (case c18 => k_is)
    (case k18 => k_is)
    (case a19 => k_is)
    (case l19 => k_is)
    (case c19 => k_is)
    (case k19 => k_is)
    (case a20 => k_is)
    (case l20 => k_is)
    (case c20 => k_is)
    (case k20 => k_is)
    (case a21 => k_is)
    (case l21 => k_is)
    (case c21 => k_is)
    (case k21 => k_is)
    (case a22 => k_is)
    (case l22 => k_is)
    (case c22 => k_is)
    (case k22 => k_is)
    (case a23 => k_is)
    (case l23 => k_is)
    (case c23 => k_is)
    (case k23 => k_is)
    (case a24 => k_is)
    (case l24 => k_is)
    (case c24 => k_is)
    (case k24 => k_is)
    (case a25 => k_is)
    (case l25 => k_is)
    (case c25 => k_is)
    (case k25 => k_is)
    (case a26 => k_is)
    (case l26 => k_is)
    (case c26 => k_is)
    (case k26 => k_is)
    (case a27 => k_is)
    (case l27 => k_is)
    (case c27 => k_is)
    (case k27 => k_is)
    (case a28 => k_is)
    (case l28 => k_is)
    (case c28 => k_is)
    (case k28 => k_is)
    (case a29 => k_is)
    (case l29 => k_is)
    (case c29 => k_is)
    (case k29 => k_is)
    (case a30 => k_is)
    (case l30 => k_is)
    (case c30 => k_is)
    (case k30 => k_is)
    (case a31 => k_is)
    (case l31 => k_is)
    (case c31 => k_is)
    (case k31 => k_is)
    (case a32 => k_is)
    (case l32 => k_is)
    (case c32 => k_is)
    (case k32 => k_is)
    (case a33 => k_is)
    (case l33 => k_is)
    (case c33 => k_is)
    (case k33 => k_is)
    (case a34 => k_is)
    (case l34 => k_is)
    (case c34 => k_is)
    (case k34 => k_is)
    (case a35 => k_is)
    (case l35 => k_is)
    (case c35 => k_is)
    (case k35 => k_is)
    (case a36 => k_is)
    (case l36 => k_is)
    (case c36 => k_is)
    (case k36 => k_is)
    (case a37 => k_is)
    (case l37 => k_is)
    (case c37 => k_is)
    (case k37 => k_is)
    (case a38 => k_is)
    (case l38 => k_is)
    (case c38 => k_is)
    (case k38 => k_is)
    (case a39 => k_is)
    (case l39 => k_is)
    (case c39 => k_is)
    (case k39 => k_is)
    (case a40 => k_is)
    (case l40 => k_is)
    (case c40 => k_is)
    (case k40 => k_is)
    (case a41 => k_is)
    (case l41 => k_is)
    (case c41 => k_is)
    (case k41 => k_is)
    (case a42 => k_is)
    (case l42 => k_is)
    (case c42 => k_is)
    (case k42 => k_is)
    (case a43 => k_is)
    (case l43 => k_is)
    (case c43 => k_is)
    (case k43 => k_is)
    (case a44 => k_is)
    (case l44 => k_is)
    (case c44 => k_is)
    (case k44 => k_is)
    (case a45 => k_is)
    (case l45 => k_is)
    (case c45 => k_is)
    (case k45 => k_is)
    (case a46 => k_is)
    (case l46 => k_is)
    (case c46 => k_is)
    (case k46 => k_is)
    (case a47 => k_is)
    (case l47 => k_is)
    (case c47 => k_is)
    (case k47 => k_is)
    (case a48 => k_is)
    (case l48 => k_is)
    (case c48 => k_is)
    (case k48 => k_is)
    (case z0 => k_is)
    (case z1 => k_is)
    (case z2 => k_is)
    (case z3 => k_is)
    (case z4 => k_is)
    (case z5 => k_is)
    (case z6 => k_is)
    (case z7 => k_is)
    (case z8 => k_is)
    (case z9 => k_is)
    (case z10 => k_is)
    (case z11 => k_is)
    (case z12 => k_is)
    (case z13 => k_is)
    (case z14 => k_is)
    (case z15 => k_is)
    (case z16 => k_is)
    (case g_gcd => k_is)
    (case a_CableError => k_is)
    (case a_ZeroBottom => k_is)
    (case a_SizesDiffer => k_is)
    (case a_BelowZero => k_is)
    (case a_NoSolution => k_is)
    (case a_TooNear => k_is)
    (case a_Form => k_is)
    (case i_CableError => k_is)
    (case y_CableError => k_is)
    (case i_ZeroBottom => k_is)
    (case y_ZeroBottom => k_is)
    (case i_SizesDiffer => k_is)
    (case y_SizesDiffer => k_is)
    (case i_BelowZero => k_is)
    (case y_BelowZero => k_is)
    (case i_NoSolution => k_is)
    (case y_NoSolution => k_is)
    (case i_TooNear => k_is)
    (case y_TooNear => k_is)
    (case b_CableError => k_is)
    (case b_BelowZero => k_is)
    (case xl_BelowZero => k_is)
    (case sa_BelowZero => k_is)
    (case ga_BelowZero => k_is)
    (case gg_BelowZero => k_is)
    (case ca_BelowZero => k_is)
    (case cm_BelowZero => k_is)
    (case hd_BelowZero => k_is)
    (case kp_BelowZero => k_is)
    (case no_BelowZero_point => k_is)
    (case in_BelowZero => k_is)
    (case tf_BelowZero => k_is)
    (case lf_BelowZero => k_is)
    (case cf_BelowZero => k_is)
    (case kf_BelowZero => k_is)
    (case pg_Form => k_is)
    (case hd_Form => k_is)
    (case po_Form => k_is)
    (case sa_Form => k_is)
    (case mk_Form => k_is)
    (case kc_Form => k_is)
    (case na_Form_size => k_is)
    (case na_Form_entries => k_is)
    (case na_Form_bottom => k_is)
    (case in_Form => k_is)
    (case isf_Form => k_is)
    (case lf_Form => k_is)
    (case cf_Form => k_is)
    (case kf_Form => k_is)
    (case kd_Form => k_is)
    (case i_Form => k_is)
    (case y_Form => k_is)
    (case oc_Form => k_is)
    (case om_Form => k_is)
    (case cn0 => k_is)
    (case ct0 => k_is)
    (case s_Form_Form => k_is)
    (case s_BelowZero_BelowZero => k_is)
    (case s_BelowZero_NoSolution => k_is)
    (case s_BelowZero_CableError => k_is)
    (case s_BelowZero_TooNear => k_is)
    (case s_BelowZero_SizesDiffer => k_is)
    (case s_BelowZero_ZeroBottom => k_is)
    (case sb_BelowZero_ValueError => k_is)
