import PyProof.Rows.All
import Wide.All
import OpenK.AllK
import Wide.FinOn
import HandS.Base
import HandS.Call
import HandS.List
import HandS.Comp
import HandS.Iter
import HandS.Walk
import HandS.Zip
import HandS.Words
import HandS.TupAny
import KE.GoesMore
import KE.GoesZip
import KE.KCallOwn
import HandS.IsInst
import HandS.Text
import HandS.Dict
import HandS.DictComp
import HandS.Flt
import HandS.TryOnly
import HandS.Ends
import HandS.WordsList
import HandS.Exc
import HandS.ExcOwn
import HandS.ExcCtx
import HandS.ExcInit
import HandS.ExcField
import HandS.ExcIs
import HandS.HotCalls
import HandS.Codes
import KE.KExcIs
import HandS.ExcValue
import KE.KOwnIter
import HandS.OwnEq
import HandS.IterNext
import HandS.Gcd
import HandS.Wide
import HandS.Rev
import HandS.MakeKwOnly
import HandS.Style
import PySem.Challenge.RW_wholecables_k09_seen_least
set_option Elab.async false
set_option linter.all false
set_option maxRecDepth 100000
set_option maxHeartbeats 4000000
set_option maxHeartbeats 4000000
/-! Nests of ints: lists and tuples of any depth, and the same as tuples alone; comprehensions by what each turn gives; a comprehension in a comprehension. -/
namespace WK
open PySem PySem.Spec PyProof.Rows L2
inductive Td where
  | int (i : Int)
  | tup (ts : List Td)
mutual
def Td.dep : Td → Nat
  | .int _ => 0
  | .tup ts => Td.deps ts + 1
def Td.deps : List Td → Nat
  | [] => 0
  | t :: ts => max t.dep (Td.deps ts)
end
mutual
def Td.sm : Td → Prop
  | .int _ => True
  | .tup ts => ts.length ≤ 16000000 ∧ Td.sms ts
def Td.sms : List Td → Prop
  | [] => True
  | t :: ts => t.sm ∧ Td.sms ts
end
mutual
def Td.py : Td → PyData
  | .int i => .int i
  | .tup ts => .tuple (Td.pys ts)
def Td.pys : List Td → List PyData
  | [] => []
  | t :: ts => t.py :: Td.pys ts
end
theorem deps_le {ts : List Td} {t : Td} {n : Nat} (h : Td.deps ts ≤ n) (m : t ∈ ts) : t.dep ≤ n := by
  induction ts with
  | nil => cases m
  | cons x ts ih =>
    simp only [Td.deps] at h
    rcases List.mem_cons.mp m with z | z
    · rw [z]; omega
    · exact ih (by omega) z
theorem sms_of {ts : List Td} {t : Td} (h : Td.sms ts) (m : t ∈ ts) : t.sm := by
  induction ts with
  | nil => cases m
  | cons x ts ih =>
    simp only [Td.sms] at h
    rcases List.mem_cons.mp m with z | z
    · rw [z]; exact h.1
    · exact ih h.2 z
theorem sms_all {ts : List Td} (h : ∀ t ∈ ts, t.sm) : Td.sms ts := by
  induction ts with
  | nil => trivial
  | cons x ts ih => exact ⟨h x List.mem_cons_self, ih fun t m => h t (List.mem_cons_of_mem _ m)⟩
theorem deps_all {ts : List Td} {n : Nat} (h : ∀ t ∈ ts, t.dep ≤ n) : Td.deps ts ≤ n := by
  induction ts with
  | nil => exact Nat.zero_le _
  | cons x ts ih =>
    have h1 := h x List.mem_cons_self
    have h2 := ih fun t m => h t (List.mem_cons_of_mem _ m)
    simp only [Td.deps]
    omega
mutual
inductive Sn (K : PySem.W.Frag) (H : Hp) : V → Td → Prop
  | int (i : Int) : Sn K H (.int i) (.int i)
  | lst {a : Addr} {vs : List V} {ts : List Td} : H a = some (.lst vs) → SnAll K H vs ts → Sn K H (.ref a) (.tup ts)
  | tup {a : Addr} {vs : List V} {ts : List Td} : SqT K H a vs → SnAll K H vs ts → Sn K H (.ref a) (.tup ts)
inductive SnAll (K : PySem.W.Frag) (H : Hp) : List V → List Td → Prop
  | nil : SnAll K H [] []
  | cons {v : V} {vs : List V} {t : Td} {ts : List Td} : Sn K H v t → SnAll K H vs ts → SnAll K H (v :: vs) (t :: ts)
end
mutual
inductive Fz (K : PySem.W.Frag) (H : Hp) : V → Td → Prop
  | int (i : Int) : Fz K H (.int i) (.int i)
  | tup {a : Addr} {vs : List V} {ts : List Td} : SqT K H a vs → FzAll K H vs ts → Fz K H (.ref a) (.tup ts)
inductive FzAll (K : PySem.W.Frag) (H : Hp) : List V → List Td → Prop
  | nil : FzAll K H [] []
  | cons {v : V} {vs : List V} {t : Td} {ts : List Td} : Fz K H v t → FzAll K H vs ts → FzAll K H (v :: vs) (t :: ts)
end
/-- tuples stay -/
def Tk (K : PySem.W.Frag) (H H' : Hp) : Prop := ∀ a xs, SqT K H a xs → SqT K H' a xs
theorem Same_seqT {K : PySem.W.Frag} {H H' : Hp} {a : Addr} {xs : List V} (e : Same H H') (h : SqT K H a xs) : SqT K H' a xs := by
  rcases h with (h | ⟨o, h⟩) | h
  · exact .inl (.inl (e _ _ h))
  · exact .inl (.inr ⟨o, e _ _ h⟩)
  · exact .inr h
theorem Same.tk {K : PySem.W.Frag} {H H' : Hp} (e : Same H H') : Tk K H H' := fun _ _ h => Same_seqT e h
theorem tk_at {K : PySem.W.Frag} {H H' : Hp} {D : Addr} {o : HO} (hD : H D = some o) (no : ∀ xs, o ≠ .tup xs) (nf : ∀ b xs, o ≠ .frz b (.tup xs)) (e : ∀ b o, b ≠ D → H b = some o → H' b = some o) : Tk K H H' := by
  intro a xs h
  rcases h with (h | ⟨b, h⟩) | h
  · exact .inl (.inl (e _ _ (fun z => by rw [z, hD] at h; cases h; exact no _ rfl) h))
  · exact .inl (.inr ⟨b, e _ _ (fun z => by rw [z, hD] at h; cases h; exact nf _ _ rfl) h⟩)
  · exact .inr h
theorem tk_lst {K : PySem.W.Frag} {H H' : Hp} {D : Addr} {l : List V} (hD : H D = some (.lst l)) (e : ∀ b o, b ≠ D → H b = some o → H' b = some o) : Tk K H H' := tk_at hD (fun _ z => by cases z) (fun _ _ z => by cases z) e
theorem tk_ins {K : PySem.W.Frag} {H H' : Hp} {D C : Addr} {dx : Addr} {l : List (Str × V)} (hD : H D = some (.ins C dx l)) (e : ∀ b o, b ≠ D → H b = some o → H' b = some o) : Tk K H H' := tk_at hD (fun _ z => by cases z) (fun _ _ z => by cases z) e
mutual
theorem Sn.same {K : PySem.W.Frag} {H H' : Hp} (e : Same H H') : ∀ {v : V} {t : Td}, Sn K H v t → Sn K H' v t
  | _, _, .int i => .int i
  | _, _, .lst h a => .lst (e _ _ h) (SnAll.same e a)
  | _, _, .tup h a => .tup (Same_seqT e h) (SnAll.same e a)
theorem SnAll.same {K : PySem.W.Frag} {H H' : Hp} (e : Same H H') : ∀ {vs : List V} {ts : List Td}, SnAll K H vs ts → SnAll K H' vs ts
  | _, _, .nil => .nil
  | _, _, .cons h t => .cons (Sn.same e h) (SnAll.same e t)
end
mutual
theorem Fz.tk {K : PySem.W.Frag} {H H' : Hp} (e : Tk K H H') : ∀ {v : V} {t : Td}, Fz K H v t → Fz K H' v t
  | _, _, .int i => .int i
  | _, _, .tup h a => .tup (e _ _ h) (FzAll.tk e a)
theorem FzAll.tk {K : PySem.W.Frag} {H H' : Hp} (e : Tk K H H') : ∀ {vs : List V} {ts : List Td}, FzAll K H vs ts → FzAll K H' vs ts
  | _, _, .nil => .nil
  | _, _, .cons h t => .cons (Fz.tk e h) (FzAll.tk e t)
end
mutual
theorem Fz.sn {K : PySem.W.Frag} {H : Hp} : ∀ {v : V} {t : Td}, Fz K H v t → Sn K H v t
  | _, _, .int i => .int i
  | _, _, .tup h a => .tup h (FzAll.sn a)
theorem FzAll.sn {K : PySem.W.Frag} {H : Hp} : ∀ {vs : List V} {ts : List Td}, FzAll K H vs ts → SnAll K H vs ts
  | _, _, .nil => .nil
  | _, _, .cons h t => .cons (Fz.sn h) (FzAll.sn t)
end
mutual
theorem Fz.dp {K : PySem.W.Frag} {H : Hp} : ∀ {v : V} {t : Td}, Fz K H v t → Dp K H v t.py
  | _, _, .int i => by simp only [Td.py]; exact .int i
  | _, _, .tup h a => by simp only [Td.py]; exact .tup h (FzAll.dp a)
theorem FzAll.dp {K : PySem.W.Frag} {H : Hp} : ∀ {vs : List V} {ts : List Td}, FzAll K H vs ts → DpAll K H vs (Td.pys ts)
  | _, _, .nil => by simp only [Td.pys]; exact .nil
  | _, _, .cons h t => by simp only [Td.pys]; exact .cons (Fz.dp h) (FzAll.dp t)
end
theorem SnAll.len {K : PySem.W.Frag} {H : Hp} {vs : List V} {ts : List Td} (h : SnAll K H vs ts) : vs.length = ts.length := by
  induction vs generalizing ts with
  | nil => cases h; rfl
  | cons v vs ih => cases h with | cons h t => simp only [List.length_cons, ih t]
theorem FzAll.len {K : PySem.W.Frag} {H : Hp} {vs : List V} {ts : List Td} (h : FzAll K H vs ts) : vs.length = ts.length := h.sn.len
theorem SnAll.get {K : PySem.W.Frag} {H : Hp} {vs : List V} {ts : List Td} (h : SnAll K H vs ts) {i : Nat} {v : V} (e : vs[i]? = some v) : ∃ t, ts[i]? = some t ∧ Sn K H v t := by
  induction vs generalizing ts i with
  | nil => simp at e
  | cons x vs ih =>
    cases h with
    | cons h t =>
      cases i with
      | zero => cases e; exact ⟨_, rfl, h⟩
      | succ i => exact ih t e
theorem FzAll.get {K : PySem.W.Frag} {H : Hp} {vs : List V} {ts : List Td} (h : FzAll K H vs ts) {i : Nat} {v : V} (e : vs[i]? = some v) : ∃ t, ts[i]? = some t ∧ Fz K H v t := by
  induction vs generalizing ts i with
  | nil => simp at e
  | cons x vs ih =>
    cases h with
    | cons h t =>
      cases i with
      | zero => cases e; exact ⟨_, rfl, h⟩
      | succ i => exact ih t e
theorem FzAll.ints {K : PySem.W.Frag} {H : Hp} : ∀ {ns : List Int} {vs : List V}, FzAll K H vs (ns.map Td.int) → vs = ns.map V.int
  | [], _, .nil => rfl
  | n :: ns, _, .cons (.int _) t => by rw [FzAll.ints t]; rfl
theorem SnAll.ints {K : PySem.W.Frag} {H : Hp} : ∀ {ns : List Int} {vs : List V}, SnAll K H vs (ns.map Td.int) → vs = ns.map V.int
  | [], _, .nil => rfl
  | n :: ns, _, .cons (.int _) t => by rw [SnAll.ints t]; rfl
theorem FzAll.of_ints {K : PySem.W.Frag} {H : Hp} : ∀ (ns : List Int), FzAll K H (ns.map V.int) (ns.map Td.int)
  | [] => .nil
  | n :: ns => .cons (.int n) (FzAll.of_ints ns)
theorem SnAll.zero {K : PySem.W.Frag} {H : Hp} : ∀ {vs : List V} {ts : List Td}, SnAll K H vs ts → Td.deps ts ≤ 0 → FzAll K H vs ts
  | _, _, .nil, _ => .nil
  | _, _, .cons (.int i) t, h => .cons (.int i) (SnAll.zero t (by simp only [Td.deps] at h; omega))
  | _, _, .cons (.lst _ _) t, h => by simp only [Td.deps, Td.dep] at h; omega
  | _, _, .cons (.tup _ _) t, h => by simp only [Td.deps, Td.dep] at h; omega
/-- lists of things, item by item -/
def Rs {α : Type} (R : Hp → V → α → Prop) (H : Hp) (vs : List V) (zs : List α) : Prop := vs.length = zs.length ∧ ∀ (i : Nat) (v : V) (z : α), vs[i]? = some v → zs[i]? = some z → R H v z
def Stb {α : Type} (K : PySem.W.Frag) (R : Hp → V → α → Prop) : Prop := ∀ H H' v z, Tk K H H' → R H v z → R H' v z
theorem Rs.tk {α : Type} {K : PySem.W.Frag} {R : Hp → V → α → Prop} (s : Stb K R) {H H' : Hp} {vs : List V} {zs : List α} (h : Rs R H vs zs) (e : Tk K H H') : Rs R H' vs zs := ⟨h.1, fun i v z a b => s _ _ _ _ e (h.2 i v z a b)⟩
theorem Rs.nil {α : Type} {R : Hp → V → α → Prop} {H : Hp} : Rs R H [] [] := ⟨rfl, fun i v z h => by simp at h⟩
theorem Rs.snoc {α : Type} {R : Hp → V → α → Prop} {H : Hp} {vs : List V} {zs : List α} {v : V} {z : α} (h : Rs R H vs zs) (r : R H v z) : Rs R H (vs ++ [v]) (zs ++ [z]) := by
  refine ⟨by rw [List.length_append, List.length_append, h.1]; rfl, fun i u y hu hy => ?_⟩
  have hl := h.1
  by_cases hi : i < vs.length
  · rw [List.getElem?_append_left hi] at hu
    rw [List.getElem?_append_left (by omega)] at hy
    exact h.2 i u y hu hy
  · rw [List.getElem?_append_right (by omega)] at hu
    rw [List.getElem?_append_right (by omega)] at hy
    have e1 : i - vs.length = 0 := by
      rcases Nat.eq_zero_or_pos (i - vs.length) with z | z
      · exact z
      · rw [List.getElem?_eq_none (by simp only [List.length_cons, List.length_nil]; omega)] at hu; cases hu
    have e2 : i - zs.length = 0 := by omega
    rw [e1] at hu
    rw [e2] at hy
    cases hu
    cases hy
    exact r
def RI : Hp → V → Int → Prop := fun _ v z => v = .int z
def RB : Hp → V → Bool → Prop := fun _ v z => v = .bl z
theorem stb_RI {K : PySem.W.Frag} : Stb K RI := fun _ _ _ _ _ h => h
theorem stb_RB {K : PySem.W.Frag} : Stb K RB := fun _ _ _ _ _ h => h
theorem stb_Fz {K : PySem.W.Frag} : Stb K (Fz K) := fun _ _ _ _ e h => h.tk e
theorem Rs.maps {α : Type} {R : Hp → V → α → Prop} {f : α → V} (hf : ∀ H v z, R H v z → v = f z) {H : Hp} : ∀ {vs : List V} {zs : List α}, Rs R H vs zs → vs = zs.map f := fun {vs zs} h => by
  refine List.ext_getElem? fun i => ?_
  rw [List.getElem?_map]
  have hl := h.1
  by_cases hi : i < vs.length
  · have hv := List.getElem?_eq_getElem hi
    have hz : zs[i]? = some zs[i] := List.getElem?_eq_getElem (by omega)
    rw [hv, hz, hf _ _ _ (h.2 i _ _ hv hz)]
    rfl
  · rw [List.getElem?_eq_none (by omega), List.getElem?_eq_none (by omega)]
    rfl
theorem Rs.ints {H : Hp} {vs : List V} {zs : List Int} (h : Rs RI H vs zs) : vs = zs.map V.int := h.maps fun _ _ _ e => e
theorem Rs.bls {H : Hp} {vs : List V} {zs : List Bool} (h : Rs RB H vs zs) : vs = zs.map V.bl := h.maps fun _ _ _ e => e
theorem Rs.fz {K : PySem.W.Frag} {H : Hp} : ∀ {vs : List V} {ts : List Td}, Rs (Fz K) H vs ts → FzAll K H vs ts
  | [], [], _ => .nil
  | [], _ :: _, h => by have := h.1; simp at this
  | _ :: _, [], h => by have := h.1; simp at this
  | v :: vs, t :: ts, h => .cons (h.2 0 v t rfl rfl) (Rs.fz ⟨by have := h.1; simp at this; exact this, fun i u z hu hz => h.2 (i + 1) u z hu hz⟩)
theorem new_same {H : Hp} {p : Addr} (h : H p = none) (o : HO) : Same H (upd H p o) := fun b u q => by rw [upd_ne (ne_of_none q h)]; exact q
theorem ys_at {xs : List V} {i : Nat} {H H' : Hp} {x : V} (y : YAt xs i H x H') : Same H H' := by rw [y.1]; exact fun _ _ h => h
theorem ys_fn {f : Nat → V} {i : Nat} {H H' : Hp} {x : V} (y : YFn f i H x H') : Same H H' := by rw [y.1]; exact fun _ _ h => h
theorem ys_pair {xs ys : Nat → Option V} {i : Nat} {H H' : Hp} {x : V} (y : YPair xs ys i H x H') : Same H H' := by
  obtain ⟨T, _, _, _, h1, h2, _⟩ := y
  rw [h2]
  exact new_same h1 _
theorem walk_zT {K : PySem.W.Frag} {a b : Addr} {xs ys : List V} {n : Nat} (hn : n = min xs.length ys.length) : Walk (RZ.ItzT K a b) n (fun H => SqT K H a xs ∧ SqT K H b ys) (YPair (fun i => xs[i]?) (fun i => ys[i]?)) := by
  subst hn
  refine ⟨fun i _ hi q => ?_, fun _ q => ⟨xs, ys, q.1, q.2, by omega⟩, fun i H v H' _ q y => ?_⟩
  · have h1 : i < xs.length := by omega
    have h2 : i < ys.length := by omega
    exact ⟨xs, ys, xs[i], ys[i], q.1, q.2, by simp [h1], by simp [h2]⟩
  · obtain ⟨T, x, z, h1, h2, h3, h4, h5⟩ := y
    exact ⟨T, x, z, h1, h2, h3, h4 xs q.1, h5 ys q.2⟩
theorem sizes {n : Nat} (h : n ≤ 16000000) : n < sizeLine := Nat.lt_of_le_of_lt h (by rw [sizeLine_eq]; decide)
/-- what stays while the list at D grows -/
def StbD {α : Type} (D : Addr) (R : Hp → V → α → Prop) : Prop := ∀ H H' v z, (∃ l, H D = some (.lst l)) → (∀ b o, b ≠ D → H b = some o → H' b = some o) → R H v z → R H' v z
theorem Stb.at {α : Type} {K : PySem.W.Frag} {R : Hp → V → α → Prop} (s : Stb K R) (D : Addr) : StbD D R := fun _ _ _ _ ⟨_, hl⟩ e r => s _ _ _ _ (tk_lst hl e) r
theorem Rs.tkD {α : Type} {D : Addr} {R : Hp → V → α → Prop} (s : StbD D R) {H H' : Hp} {vs : List V} {zs : List α} (h : Rs R H vs zs) (hD : ∃ l, H D = some (.lst l)) (e : ∀ b o, b ≠ D → H b = some o → H' b = some o) : Rs R H' vs zs := ⟨h.1, fun i v z a b => s _ _ _ _ hD e (h.2 i v z a b)⟩
/-- a list of ints apart from D -/
def RL (D : Addr) : Hp → V → List Int → Prop := fun H v r => ∃ p, v = .ref p ∧ p ≠ D ∧ H p = some (.lst (r.map V.int))
theorem stb_RL {D : Addr} : StbD D (RL D) := fun _ _ _ _ _ e ⟨p, h1, h2, h3⟩ => ⟨p, h1, h2, e _ _ h2 h3⟩
/-- a comprehension: each turn gives one thing, or nothing -/
theorem lc_g {α β : Type} {J : It} {n : Nat} {G : Hp → Prop} {Y : Nat → Hp → V → Hp → Prop} (w : Walk J n G Y) {g : TG} {tt : TT} {te : TE} {vs : List Nat} {σ : L2.St} {H1 : Hp} {D : Addr} {Qd : Hp → Prop}
    (R : Hp → V → α → Prop) (st : StbD D R) (xs : List β) (hn : n = xs.length) (hl : xs.length ≤ 16000000) (hD : H1 D = none) (hG : ∀ H, Same H1 H → G H) (hY : ∀ i H x H', Y i H x H' → Same H H') (f : β → Option α)
    (hs : ∀ i b x H H', xs[i]? = some b → Same H1 H → Same H1 H' → Y i H x H' → (∃ l, H' D = some (.lst l)) → ∀ (A : V → Hp → Prop) (B : Hp → Prop), (∀ y z H4, f b = some z → Same H' H4 → R H4 y z → A y H4) → (f b = none → ∀ H4, Same H' H4 → B H4) →
      g x (wipe σ vs) H' fun σ2 H2 => wipe σ2 vs = wipe σ vs ∧ tt σ2 H2 fun b H3 => if b = true then te σ2 H3 A else B H3)
    (hd : ∀ H l, Same H1 H → H D = some (.lst l) → Rs R H l (xs.filterMap f) → Qd H) :
    ∃ W : Nat → Nat → Hp → Prop, (∃ m, W 0 m (upd H1 D (.lst []))) ∧ ∀ i m H, W i m H →
      (J.stop i H ∧ Qd H) ∨ (J.go i H ∧ ∃ Nx : Hp → Prop, (∀ H', Nx H' → ∃ m', m' < m ∧ W (i + 1) m' H') ∧ ∀ x H', J.yld i H x H' → g x (wipe σ vs) H' fun σ2 H2 => wipe σ2 vs = wipe σ vs ∧ tt σ2 H2 fun b H3 =>
        if b = true then te σ2 H3 fun y H4 => ∃ acc, H4 D = some (.lst acc) ∧ acc.length < sizeLine ∧ Nx (upd H4 D (.lst (acc ++ [y]))) else Nx H3) := by
  subst hn
  refine lc_it w (fun i H => Same H1 H ∧ ∃ l, H D = some (.lst l) ∧ Rs R H l ((xs.take i).filterMap f) ∧ l.length ≤ i) ⟨new_same hD _, [], upd_same, by rw [List.take_zero]; exact Rs.nil, Nat.le_refl _⟩ (fun i H _ p => hG H p.1) ?_ ?_
  · rintro i x H H' hi ⟨sm, l, hl1, rs, hlen⟩ y
    have hb : xs[i]? = some xs[i] := List.getElem?_eq_getElem hi
    have sy := hY i H x H' y
    have et : xs.take (i + 1) = xs.take i ++ [xs[i]] := by rw [List.take_add_one, hb]; rfl
    refine hs i _ x H H' hb sm (sm.trans sy) y ⟨l, sy _ _ hl1⟩ _ _ (fun v z H4 hz s4 r => ?_) (fun hz H4 s4 => ?_)
    · have h4 : H4 D = some (.lst l) := s4 _ _ (sy _ _ hl1)
      refine ⟨l, h4, sizes (by omega), fun b o e => ?_, l ++ [v], upd_same, ?_, by rw [List.length_append]; simp only [List.length_cons, List.length_nil]; omega⟩
      · rw [upd_ne (ne_of_none e hD)]
        exact s4 _ _ (sy _ _ (sm _ _ e))
      · rw [et, List.filterMap_append]
        have e1 : [xs[i]].filterMap f = [z] := by rw [List.filterMap_cons, hz]; rfl
        rw [e1]
        refine Rs.snoc (rs.tkD st ⟨l, hl1⟩ fun b o hb e => ?_) (st _ _ _ _ ⟨l, h4⟩ (fun b o hb e => ?_) r)
        · rw [upd_ne hb]
          exact s4 _ _ (sy _ _ e)
        · rw [upd_ne hb]
          exact e
    · refine ⟨sm.trans (sy.trans s4), l, s4 _ _ (sy _ _ hl1), ?_, by omega⟩
      rw [et, List.filterMap_append]
      have e1 : [xs[i]].filterMap f = [] := by rw [List.filterMap_cons, hz]; rfl
      rw [e1, List.append_nil]
      exact rs.tkD st ⟨l, hl1⟩ fun b o _ e => s4 _ _ (sy _ _ e)
  · rintro H ⟨sm, l, hl1, rs, _⟩
    rw [List.take_length] at rs
    exact hd H l sm hl1 rs
/-- the same for what stays while tuples stay -/
theorem lc_f {α β : Type} {K : PySem.W.Frag} {J : It} {n : Nat} {G : Hp → Prop} {Y : Nat → Hp → V → Hp → Prop} (w : Walk J n G Y) {g : TG} {tt : TT} {te : TE} {vs : List Nat} {σ : L2.St} {H1 : Hp} {D : Addr} {Qd : Hp → Prop}
    (R : Hp → V → α → Prop) (st : Stb K R) (xs : List β) (hn : n = xs.length) (hl : xs.length ≤ 16000000) (hD : H1 D = none) (hG : ∀ H, Same H1 H → G H) (hY : ∀ i H x H', Y i H x H' → Same H H') (f : β → Option α)
    (hs : ∀ i b x H H', xs[i]? = some b → Same H1 H → Same H1 H' → Y i H x H' → ∀ (A : V → Hp → Prop) (B : Hp → Prop), (∀ y z H4, f b = some z → Same H' H4 → R H4 y z → A y H4) → (f b = none → ∀ H4, Same H' H4 → B H4) →
      g x (wipe σ vs) H' fun σ2 H2 => wipe σ2 vs = wipe σ vs ∧ tt σ2 H2 fun b H3 => if b = true then te σ2 H3 A else B H3)
    (hd : ∀ H l, Same H1 H → H D = some (.lst l) → Rs R H l (xs.filterMap f) → Qd H) :
    ∃ W : Nat → Nat → Hp → Prop, (∃ m, W 0 m (upd H1 D (.lst []))) ∧ ∀ i m H, W i m H →
      (J.stop i H ∧ Qd H) ∨ (J.go i H ∧ ∃ Nx : Hp → Prop, (∀ H', Nx H' → ∃ m', m' < m ∧ W (i + 1) m' H') ∧ ∀ x H', J.yld i H x H' → g x (wipe σ vs) H' fun σ2 H2 => wipe σ2 vs = wipe σ vs ∧ tt σ2 H2 fun b H3 =>
        if b = true then te σ2 H3 fun y H4 => ∃ acc, H4 D = some (.lst acc) ∧ acc.length < sizeLine ∧ Nx (upd H4 D (.lst (acc ++ [y]))) else Nx H3) := lc_g w R (st.at D) xs hn hl hD hG hY f (fun i b x H H' h1 h2 h3 h4 _ => hs i b x H H' h1 h2 h3 h4) hd
/-- each turn gives one thing -/
theorem lc_m {α β : Type} {K : PySem.W.Frag} {J : It} {n : Nat} {G : Hp → Prop} {Y : Nat → Hp → V → Hp → Prop} (w : Walk J n G Y) {g : TG} {tt : TT} {te : TE} {vs : List Nat} {σ : L2.St} {H1 : Hp} {D : Addr} {Qd : Hp → Prop}
    (R : Hp → V → α → Prop) (st : Stb K R) (xs : List β) (hn : n = xs.length) (hl : xs.length ≤ 16000000) (hD : H1 D = none) (hG : ∀ H, Same H1 H → G H) (hY : ∀ i H x H', Y i H x H' → Same H H') (f : β → α)
    (hs : ∀ i b x H H', xs[i]? = some b → Same H1 H → Same H1 H' → Y i H x H' → ∀ (A : V → Hp → Prop) (B : Hp → Prop), (∀ y H4, Same H' H4 → R H4 y (f b) → A y H4) →
      g x (wipe σ vs) H' fun σ2 H2 => wipe σ2 vs = wipe σ vs ∧ tt σ2 H2 fun b H3 => if b = true then te σ2 H3 A else B H3)
    (hd : ∀ H l, Same H1 H → H D = some (.lst l) → Rs R H l (xs.map f) → Qd H) :
    ∃ W : Nat → Nat → Hp → Prop, (∃ m, W 0 m (upd H1 D (.lst []))) ∧ ∀ i m H, W i m H →
      (J.stop i H ∧ Qd H) ∨ (J.go i H ∧ ∃ Nx : Hp → Prop, (∀ H', Nx H' → ∃ m', m' < m ∧ W (i + 1) m' H') ∧ ∀ x H', J.yld i H x H' → g x (wipe σ vs) H' fun σ2 H2 => wipe σ2 vs = wipe σ vs ∧ tt σ2 H2 fun b H3 =>
        if b = true then te σ2 H3 fun y H4 => ∃ acc, H4 D = some (.lst acc) ∧ acc.length < sizeLine ∧ Nx (upd H4 D (.lst (acc ++ [y]))) else Nx H3) := by
  refine lc_f w R st xs hn hl hD hG hY (fun b => some (f b)) (fun i b x H H' hb s1 s2 y A B ha _ => hs i b x H H' hb s1 s2 y A B fun v H4 s4 r => ha v _ H4 rfl s4 r) fun H l s1 hl1 rs => hd H l s1 hl1 ?_
  rw [show (fun b => some (f b)) = some ∘ f from rfl, List.filterMap_eq_map] at rs
  exact rs
theorem lc_gm {α β : Type} {J : It} {n : Nat} {G : Hp → Prop} {Y : Nat → Hp → V → Hp → Prop} (w : Walk J n G Y) {g : TG} {tt : TT} {te : TE} {vs : List Nat} {σ : L2.St} {H1 : Hp} {D : Addr} {Qd : Hp → Prop}
    (R : Hp → V → α → Prop) (st : StbD D R) (xs : List β) (hn : n = xs.length) (hl : xs.length ≤ 16000000) (hD : H1 D = none) (hG : ∀ H, Same H1 H → G H) (hY : ∀ i H x H', Y i H x H' → Same H H') (f : β → α)
    (hs : ∀ i b x H H', xs[i]? = some b → Same H1 H → Same H1 H' → Y i H x H' → (∃ l, H' D = some (.lst l)) → ∀ (A : V → Hp → Prop) (B : Hp → Prop), (∀ y H4, Same H' H4 → R H4 y (f b) → A y H4) →
      g x (wipe σ vs) H' fun σ2 H2 => wipe σ2 vs = wipe σ vs ∧ tt σ2 H2 fun b H3 => if b = true then te σ2 H3 A else B H3)
    (hd : ∀ H l, Same H1 H → H D = some (.lst l) → Rs R H l (xs.map f) → Qd H) :
    ∃ W : Nat → Nat → Hp → Prop, (∃ m, W 0 m (upd H1 D (.lst []))) ∧ ∀ i m H, W i m H →
      (J.stop i H ∧ Qd H) ∨ (J.go i H ∧ ∃ Nx : Hp → Prop, (∀ H', Nx H' → ∃ m', m' < m ∧ W (i + 1) m' H') ∧ ∀ x H', J.yld i H x H' → g x (wipe σ vs) H' fun σ2 H2 => wipe σ2 vs = wipe σ vs ∧ tt σ2 H2 fun b H3 =>
        if b = true then te σ2 H3 fun y H4 => ∃ acc, H4 D = some (.lst acc) ∧ acc.length < sizeLine ∧ Nx (upd H4 D (.lst (acc ++ [y]))) else Nx H3) := by
  refine lc_g w R st xs hn hl hD hG hY (fun b => some (f b)) (fun i b x H H' hb s1 s2 y hd2 A B ha _ => hs i b x H H' hb s1 s2 y hd2 A B fun v H4 s4 r => ha v _ H4 rfl s4 r) fun H l s1 hl1 rs => hd H l s1 hl1 ?_
  rw [show (fun b => some (f b)) = some ∘ f from rfl, List.filterMap_eq_map] at rs
  exact rs
/-- a comprehension in a comprehension -/
def rl (scope sc : Scope) : Scope := { scope with names := scope.names.map fun (n, k) => if (k == .free && sc.kind == .function && sc.names.lookup n == some .cell) then (n, .cell) else (n, k) }
theorem blk_nest {N : List Str} {scope inner sc0 : Scope} {own : List (Str × Nat)} {cl : List (Str × Addr)} {C : Addr} {env : Env} (e : env.scope = sc0) (h : blkC N (rl scope sc0) inner own = true) : BlkOk N (compEnvC scope cl C env).scope inner own := by
  subst e
  exact blkOk_by h
theorem pi_tupK {X : Cx} {K : PySem.W.Frag} {tg e : Expr} {te : TE} (hK : X.K = K) (h : PE X e te) : PI X tg e (iTup K te) := by
  subst hK
  exact pi_tup h
theorem sl_tupAK {X : Cx} {K : PySem.W.Frag} (hK : X.K = K) : SlR X (rSlA K) := by
  subst hK
  exact sl_tupA
theorem pe_fldK {X : Cx} {K : PySem.W.Frag} {e : Expr} {ta : TE} {f : Str} {p : Pos} (hK : X.K = K) (h : PE X e ta) (hb : attributeBase e f X.env (eval e X.env) = eval e X.env) : PE X (.Attribute e f p) (tFld K ta f) := by
  subst hK
  exact pe_fld h hb
theorem pi_listK {X : Cx} {K : PySem.W.Frag} {tg e : Expr} {te : TE} (hK : X.K = K) (h : PE X e te) : PI X tg e (iList K te) := by
  subst hK
  exact pi_list h
end WK
/-! Ties of a web, their strengths over the common part, rows, matrices. -/
namespace P09
open PySem L2 WK
def gI (t b : Int) : Int := ((Nat.gcd t.natAbs b.natAbs : Nat) : Int)
theorem gI_pos {t b : Int} (ht : 0 < t) : 0 < gI t b := by
  have : 0 < Nat.gcd t.natAbs b.natAbs := Nat.gcd_pos_of_pos_left _ (by omega)
  unfold gI
  omega
theorem gI_pos' {t b : Int} (hb : 0 < b) : 0 < gI t b := by
  have : 0 < Nat.gcd t.natAbs b.natAbs := Nat.gcd_pos_of_pos_right _ (by omega)
  unfold gI
  omega
theorem gI_le {t b : Int} (ht : 0 < t) : gI t b ≤ t := by
  have : Nat.gcd t.natAbs b.natAbs ≤ t.natAbs := Nat.le_of_dvd (by omega) (Nat.gcd_dvd_left _ _)
  unfold gI
  omega
theorem gI_dvd1 {t b : Int} : gI t b ∣ t := by
  unfold gI
  exact Int.ofNat_dvd_left.mpr (Nat.gcd_dvd_left _ _)
theorem gI_dvd2 {t b : Int} : gI t b ∣ b := by
  unfold gI
  exact Int.ofNat_dvd_left.mpr (Nat.gcd_dvd_right _ _)
/-- the common part of a bottom and some numbers -/
def gf (b : Int) (ns : List Int) : Int := ns.foldl gI b
theorem gf_pos {b : Int} (hb : 0 < b) : ∀ (ns : List Int), 0 < gf b ns := fun ns => by
  induction ns generalizing b with
  | nil => exact hb
  | cons n ns ih => exact ih (gI_pos hb)
theorem gf_le {b : Int} (hb : 0 < b) : ∀ (ns : List Int), gf b ns ≤ b := fun ns => by
  induction ns generalizing b with
  | nil => exact Int.le_refl _
  | cons n ns ih => exact Int.le_trans (ih (gI_pos hb)) (gI_le hb)
theorem gf_dvd {b : Int} : ∀ (ns : List Int), gf b ns ∣ b ∧ ∀ n ∈ ns, gf b ns ∣ n := fun ns => by
  induction ns generalizing b with
  | nil => exact ⟨Int.dvd_refl _, fun n h => by cases h⟩
  | cons n ns ih =>
    have h := ih (b := gI b n)
    refine ⟨Int.dvd_trans h.1 gI_dvd1, fun m hm => ?_⟩
    rcases List.mem_cons.mp hm with e | e
    · rw [e]
      exact Int.dvd_trans h.1 gI_dvd2
    · exact h.2 m e
theorem gf_snoc (b : Int) (ns : List Int) (n : Int) : gf b (ns ++ [n]) = gI (gf b ns) n := by
  unfold gf
  rw [List.foldl_append]
  rfl
abbrev B (n : Nat) (x : Int) : Prop := x.natAbs < 2 ^ n
theorem B.mono {m n : Nat} {x : Int} (h : B m x) (hl : m ≤ n) : B n x := Nat.lt_of_lt_of_le h (Nat.pow_le_pow_right (by decide) hl)
theorem B.mul {m n : Nat} {x y : Int} (hx : B m x) (hy : B n y) : B (m + n) (x * y) := by
  show (x * y).natAbs < 2 ^ (m + n)
  rw [Int.natAbs_mul, Nat.pow_add]
  exact Nat.mul_lt_mul'' hx hy
theorem B.le {n : Nat} {x y : Int} (h0 : 0 ≤ x) (h : x ≤ y) (hy : B n y) : B n x := Nat.lt_of_le_of_lt (by omega) hy
theorem B.div {n : Nat} {x g : Int} (hg : 0 < g) (hx : B n x) : B n (x / g) := by
  show (x / g).natAbs < 2 ^ n
  exact Nat.lt_of_le_of_lt (Int.natAbs_ediv_le_natAbs x g) hx
abbrev T3 := Int × Int × Int
def td3 (t : T3) : Td := .tup [.int t.1, .int t.2.1, .int t.2.2]
def imin (i j : Int) : Int := if j < i then j else i
def imax (i j : Int) : Int := if j > i then j else i
def srt (t : T3) : T3 := (imin t.1 t.2.1, imax t.1 t.2.1, t.2.2)
/-- a tie of a web with pl places -/
structure OkT (pl : Int) (t : T3) : Prop where
  ne : t.1 ≠ t.2.1
  a0 : 0 ≤ t.1
  a1 : t.1 < pl
  b0 : 0 ≤ t.2.1
  b1 : t.2.1 < pl
  s1 : 1 ≤ t.2.2
  s2 : B 400 t.2.2
/-- the ties as a web keeps them, and its bottom -/
def wg (ts : List T3) (b : Int) : Int := gf b (ts.map (·.2.2))
def wt (ts : List T3) (b : Int) : List T3 := ts.map fun t => (imin t.1 t.2.1, imax t.1 t.2.1, t.2.2 / wg ts b)
def wb (ts : List T3) (b : Int) : Int := b / wg ts b
/-- the row of a tie -/
def b2 (p : Bool) : Int := if p then 1 else 0
def trow (pl : Int) (t : T3) : List Int := (List.range pl.toNat).map fun (k : Nat) => b2 (decide (V.int (0 + (k : Int)) = V.int t.1)) - b2 (decide (V.int (0 + (k : Int)) = V.int t.2.1))
abbrev RW := List Int × Int
def tdr (p : RW) : Td := .tup [.tup (p.1.map Td.int), .int p.2]
def wsum (ps : List RW) (i j : Nat) : Int := (ps.map fun p => p.2 * p.1.getD i 0 * p.1.getD j 0).sum
def wmat (n : Nat) (ps : List RW) : List (List Int) := (List.range n).map fun i => (List.range n).map fun j => wsum ps i j
def tdm (m : List (List Int)) : Td := .tup (m.map fun r => .tup (r.map Td.int))
theorem wsum_sym (ps : List RW) (i j : Nat) : wsum ps i j = wsum ps j i := by
  unfold wsum
  congr 1
  refine List.map_congr_left fun p _ => ?_
  rw [Int.mul_assoc, Int.mul_comm (p.1.getD i 0), ← Int.mul_assoc]
end P09
set_option maxHeartbeats 4000000
/-! enumerate over a tuple. -/
namespace WE
open PySem PySem.Spec PyProof.Rows L2
/-- enumerate(v): its two new cells -/
theorem meets_enB {v : Value} {o : Obj} {G : Heap → Prop} (B : Begins v o G) :
    Meets (Builtin.«enumerate.__new__» ⟨[.type "enumerate", v], []⟩) (fun _ R s => G s.heap ∧
      R (.ok (.ret (.ref (s.heap.push o).objs.size))) { s with heap := (s.heap.push o).push { cls := .type "enumerate", data := .fields #[.none, .bool false, .ref s.heap.objs.size, rawInt 0, .none, .none] } }) :=
  .of_wp fun prog w A R s h => by
    obtain ⟨hp, g, d, tk, os⟩ := s
    obtain ⟨h1, h⟩ := h
    have hsub := sub_enumerate
    have q1 : ∀ {A' : Around} {E : Value → Shared → Prop} {Q : Value → Shared → Prop}, Q (.ref hp.objs.size) ⟨hp.push o, g, d, tk, os⟩ → wpAny (model prog w) A' (pyIter v) Q E ⟨hp, g, d, tk, os⟩ :=
      fun q => B.iter prog w _ _ ⟨hp, g, d, tk, os⟩ _ h1 q
    wp_walk using q1
    refine wpAny_stack_any fun st => wpAny_pure ?_
    split
    · rename_i c _ _ _ _ _
      cases (c == Value.type "enumerate") <;> (wp_walk using q1; exact ⟨_, rfl, h⟩)
    · wp_walk using q1
      exact ⟨_, rfl, h⟩
theorem enB {prog : Program} {w : World} {A : Around} {E : Value → Shared → Prop} {s : Shared} {v : Value} {o : Obj} {G : Heap → Prop} {Q : Value → Shared → Prop} (B : Begins v o G) (h1 : G s.heap)
    (h : ∀ h', IsEnum h' (s.heap.objs.size + 1) s.heap.objs.size 0 .none → h'.get? s.heap.objs.size = some o → h'.objs.size = s.heap.objs.size + 2 →
      (∀ b o, s.heap.get? b = some o → h'.get? b = some o) → Q (.ref (s.heap.objs.size + 1)) { s with heap := h' }) :
    wpAny (model prog w) A (call (.type "enumerate") [v]) Q E s := by
  refine callType_new F.called_enumerate (by decide) (F.typeCall_enumerate_1 _) (F.newCall_enumerate_1 _) (fun obj => F.args_object_init_2 obj _) F.entry_enumerate_new (meets_enB B) ⟨h1, ?_⟩
  have hz : (s.heap.push o).objs.size = s.heap.objs.size + 1 := Heap.size_push ..
  show _ ∧ _
  rw [hz]
  have he : IsEnum ((s.heap.push o).push { cls := .type "enumerate", data := .fields #[.none, .bool false, .ref s.heap.objs.size, rawInt 0, .none, .none] }) (s.heap.objs.size + 1) s.heap.objs.size 0 .none := by
    have := Heap.get?_push_size (s.heap.push o) (o := { cls := .type "enumerate", data := .fields #[.none, .bool false, .ref s.heap.objs.size, rawInt 0, .none, .none] }) rfl
    rw [hz] at this
    exact this
  exact ⟨⟨_, he, rfl⟩, h _ he (Heap.get?_push_of_some _ (Heap.get?_push_size _ B.free)) (by rw [Heap.size_push, hz]) fun b o x => Heap.get?_push_of_some _ (Heap.get?_push_of_some _ x)⟩
/-- the tuple at a, each item in a new pair with its place -/
def IteT (K : PySem.W.Frag) (a : Addr) : It :=
  ⟨fun i H => ∃ (xs : List V) (x : V), SqT K H a xs ∧ xs[i]? = some x, fun i H v H' => ∃ T x, v = .ref T ∧ H T = none ∧ H' = upd H T (.tup [.int (i : Nat), x]) ∧ ∀ xs, SqT K H a xs → xs[i]? = some x, fun i H => ∃ xs : List V, SqT K H a xs ∧ xs.length ≤ i⟩
theorem turn_enT {P : Program} {w : World} {K : PySem.W.Frag} {elts : List Expr} {kk : Nat} {tpos : Pos} (a e it : Addr) :
    Turn P w K (.Tuple elts kk tpos) (IteT K a) [e, it] e (fun i h => (∃ old, IsEnum h e it ((i : Nat) : Int) old) ∧ h.IsTupleIter it a i ∧ e ≠ it) where
  mem := List.mem_cons_self
  obj := fun i h st b hb => by
    obtain ⟨⟨old, he⟩, ⟨o, ho, hc, hd⟩, _⟩ := st
    rcases List.mem_cons.mp hb with z | z
    · rw [z]
      exact ⟨_, he, fun v q => nomatch q⟩
    · rw [List.mem_singleton.mp z]
      exact ⟨o, ho, fun v q => by rw [hd] at q; cases q⟩
  keep := fun i h h' st k => by
    obtain ⟨⟨old, he⟩, hi, hne⟩ := st
    exact ⟨⟨old, k e (by simp) _ he⟩, hi.at fun o q => k it (by simp) o q, hne⟩
  item := by
    intro X hP hw hK hc i pins s σ H E I hf st hg
    subst hP hw hK
    obtain ⟨⟨old, he⟩, hit, hne⟩ := st
    obtain ⟨xs, x, hq, hx⟩ := hg
    obtain ⟨its, rv, p, hz⟩ := I.tuple hq
    obtain ⟨u, hu, ru⟩ := rv.get hx
    have hel : e < s.heap.objs.size := Heap.lt_size he
    have hil : it < s.heap.objs.size := by
      obtain ⟨_, q, _⟩ := hit
      exact Heap.lt_size q
    have hai : a ≠ it := fun z => by
      obtain ⟨o1, g1, d1, _⟩ := p
      obtain ⟨o2, g2, d2, _⟩ := hit
      rw [z, g2] at g1
      cases g1
      rw [d2] at d1
      injection d1 with d3
      exact absurd d3 (by decide)
    have hae : e ∉ [it, a] := fun z => by
      rcases List.mem_cons.mp z with z | z
      · exact hne z
      · obtain ⟨o1, g1, d1, _⟩ := p
        rw [← List.mem_singleton.mp z, he] at g1
        cases g1
        injection d1 with d3
        exact absurd d3 (by decide)
    have hlt : i < its.toArray.size := by
      rw [List.size_toArray]
      exact (List.getElem?_eq_some_iff.mp hu).1
    refine wpAny_pyNext_enum_itemD (Draws.tuple (prog := X.prog) (w := X.w) (A := X.A.in1) (I.ok.hd hc) it a hai its.toArray) he ⟨hit, p⟩ hlt hne hae fun u' h' tk hP' ho hst hT hsz hk => ?_
    have eu : u' = u := by
      have e1 : its.toArray[i]? = some u := by rw [List.getElem?_toArray]; exact hu
      exact Option.some.inj ((show its.toArray[i]? = some u' from hP').symm.trans e1)
    subst eu
    refine ⟨_, rfl, wpAny_letOwnedTupleGo_enum (s := { s with heap := h', toks := tk + 1 }) ho fun h'' he' sb => ?_⟩
    have hT2 : h''.get? s.heap.objs.size = some { cls := .type "tuple", data := .seq #[.int i tk, u'] } := (sb.2 _ (Nat.ne_of_gt hel)).trans hT
    have new : ObjOk X.prog X.w (upd H s.heap.objs.size (.tup [.int (i : Nat), x])) h'' s.heap.objs.size (.tup [.int (i : Nat), x]) :=
      ⟨by show 2 ≤ sizeLine; decide, [.int i tk, u'], .cons ⟨_, rfl⟩ (.cons ru .nil), ⟨_, hT2, rfl, _, rfl⟩⟩
    have I1 : Inv X pins σ (upd H s.heap.objs.size (.tup [.int (i : Nat), x])) { s with heap := h'', toks := tk + 1 } :=
      I.turnedNew (ch := [e, it]) (fun b ob hb q => (sb.2 b (fun z => hb (by simp [z]))).trans (hk b ob (fun z => hb (by simp [z])) (fun z => hb (by simp [z])) q)) hf (Nat.le_refl _) new
    refine ⟨.ref s.heap.objs.size, _, I1, rfl, ⟨_, x, rfl, I.hok.fresh (Nat.le_refl _), rfl, fun ys hy => by rw [I.tuple_inj hy hq]; exact hx⟩, ⟨⟨u', ?_⟩, hst.1.at fun o q => (sb.2 it (Ne.symm hne)).trans q, hne⟩, fun b hb => ?_⟩
    · have e1 : ((i + 1 : Nat) : Int) = (i : Int) + 1 := by omega
      rw [e1]
      exact he'
    · have hb' : b < s.heap.objs.size := by
        rcases List.mem_cons.mp hb with z | z
        · rw [z]
          exact hel
        · rw [List.mem_singleton.mp z]
          exact hil
      rw [upd_ne (Nat.ne_of_lt hb')]
      exact (hf b hb).1
  done := by
    intro X hP hw hK hc i pins s σ H E I hf st hg
    subst hP hw hK
    obtain ⟨⟨old, he⟩, hit, hne⟩ := st
    obtain ⟨xs, hq, hx⟩ := hg
    obtain ⟨its, rv, p, hz⟩ := I.tuple hq
    obtain ⟨f0, f1, f2, f3, f4, f5⟩ := hf it (by simp)
    have hl := rv.length
    have hT : s.TypeIs (.ref e) "enumerate" := ⟨_, he, rfl⟩
    unfold pyNext
    refine wpAny_bind (wpAny_attempt (wpAny_callSpecial?_slot (name := Str.ofString "__next__") hT F.slot_enumerate_next
      (wpAny_call_entry F.slot_enumerate_next hT F.entry_enumerate_next ?_ (F.args_enumerate_next_1 _))))
    show wpAny _ _ (field (.ref e) 2 >>= _) _ _ _
    refine wpAny_bind (wpAny_field he rfl (x := .ref it) rfl ?_)
    refine wpAny_bind (wpAny_nextOf_tuple_end (I.ok.hd hc) hit p (by simp; omega) fun h' x eb hx' => ?_)
    obtain ⟨o, ho, hcl⟩ := hx'
    refine wpAny_bind (wpAny_isInstance (T := "StopIteration") (b := true) ⟨o, ho, hcl⟩ isSubtype_stop ?_)
    exact wpAny_pure ⟨rfl, I.turned (t' := s.toks) (fun b o hb q => eb b o hb q) f0 f1 f3 f4 f5⟩
  self := fun A i s Q E st h => let ⟨⟨_, he⟩, _⟩ := st; wpAny_pyIter_enum he h
def iEnT (K : PySem.W.Frag) (ta : TA) : TI := fun σ H R => ta σ H fun vs H1 => ∃ a xs, vs = [.ref a] ∧ SqT K H1 a xs ∧ R (IteT K a) H1
theorem pi_enT {X : Cx} {e : Expr} {ta : TA} {p pos tpos : Pos} {elts : List Expr} {kk : Nat} (hg : Gl X "enumerate") (hm : X.mg "enumerate" = none) (ha : PA X [e] ta) (hs : starEach [e] X.env = [(false, eval e X.env)] := by rfl) :
    PI X (.Tuple elts kk tpos) (.Call (.Name "enumerate" p) [e] [] pos) (iEnT X.K ta) := by
  refine ⟨fun pins s σ H R I h => ?_⟩
  refine Call_ (ld_blt I hg hm boot_enumerate (PyProof.Rows.callWith_type1 (thn (ha.run pos pins s σ H _ I h) fun us s1 ⟨vs, H1, I1, r1, q1⟩ => ?_) hs rfl))
  obtain ⟨a, xs, ex, hq, q⟩ := q1
  subst ex
  obtain ⟨u, rfl, ru⟩ := vals1 r1
  cases ru
  obtain ⟨its, rv, p', hz⟩ := I1.tuple hq
  refine enB (begins_tuple a its.toArray) p' fun h' he hit hsz hk => wpAny_pyIter_enum he ?_
  have I2 : Inv X pins σ H1 { s1 with heap := h' } := I1.kept (t' := s1.toks) hk
  refine ⟨s1.heap.objs.size + 1, [s1.heap.objs.size + 1, s1.heap.objs.size], _, _, H1, rfl, I2, turn_enT a (s1.heap.objs.size + 1) s1.heap.objs.size, ⟨⟨.none, he⟩, ⟨_, hit, rfl, rfl⟩, Nat.succ_ne_self _⟩, fun b hb => ?_, q⟩
  have hle : s1.heap.objs.size ≤ b := by
    rcases List.mem_cons.mp hb with z | z
    · rw [z]
      exact Nat.le_add_right _ _
    · rw [List.mem_singleton.mp z]
      exact Nat.le_refl _
  exact I1.fpOk hle (I1.hok.fresh hle)
theorem walk_enT {K : PySem.W.Frag} {a : Addr} {xs : List V} : Walk (IteT K a) xs.length (fun H => SqT K H a xs) (YPair (fun i => some (.int (i : Nat))) (fun i => xs[i]?)) := by
  refine ⟨fun i _ hi q => ⟨xs, xs[i], q, by simp [hi]⟩, fun _ q => ⟨xs, q, Nat.le_refl _⟩, fun i H v H' _ q y => ?_⟩
  obtain ⟨T, x, h1, h2, h3, h4⟩ := y
  exact ⟨T, .int (i : Nat), x, h1, h2, h3, rfl, h4 xs q⟩
end WE
set_option maxHeartbeats 4000000
/-! zip of two sequences, each of them a list or a tuple. -/
namespace WZ
open PySem PySem.Spec PyProof.Rows L2
/-- a list (true) or a tuple (false) -/
def Sq (k : Bool) (K : PySem.W.Frag) (H : Hp) (a : Addr) (xs : List V) : Prop := if k = true then SqL K H a xs else SqT K H a xs
def Ob (k : Bool) (h : Heap) (a : Addr) (its : Array Value) : Prop := if k = true then h.IsList a its else h.IsTuple a its
def Ir (k : Bool) (h : Heap) (it a : Addr) (i : Nat) : Prop := if k = true then h.IsListIter it a i else h.IsTupleIter it a i
def itO (k : Bool) (a : Addr) : Obj := if k = true then { cls := .type "list_iterator", data := .fields #[.ref a, .int 0 0] } else { cls := .type "tuple_iterator", data := .fields #[.ref a, .int 0 0] }
theorem Ir.at {k : Bool} {h h' : Heap} {it a : Addr} {i : Nat} (x : Ir k h it a i) (e : ∀ o, h.get? it = some o → h'.get? it = some o) : Ir k h' it a i := by
  cases k with
  | true => exact (show h.IsListIter it a i from x).at e
  | false => exact (show h.IsTupleIter it a i from x).at e
theorem Ir.obj {k : Bool} {h : Heap} {it a : Addr} {i : Nat} (x : Ir k h it a i) : ∃ o, h.get? it = some o ∧ ∀ v, o.data ≠ .cell v := by
  cases k with
  | true =>
    obtain ⟨o, e, _, d⟩ := (show h.IsListIter it a i from x)
    exact ⟨o, e, fun v q => by rw [d] at q; cases q⟩
  | false =>
    obtain ⟨o, e, _, d⟩ := (show h.IsTupleIter it a i from x)
    exact ⟨o, e, fun v q => by rw [d] at q; cases q⟩
theorem Ob.lt {k : Bool} {h : Heap} {a : Addr} {its : Array Value} (x : Ob k h a its) : a < h.objs.size := by
  cases k with
  | true =>
    obtain ⟨o, e, _⟩ := (show h.IsList a its from x)
    exact Heap.lt_size e
  | false =>
    obtain ⟨o, e, _⟩ := (show h.IsTuple a its from x)
    exact Heap.lt_size e
theorem draw {prog : Program} {w : World} {A : Around} (hh : A.handled = none) (k : Bool) (it a : Addr) (hne : a ≠ it) (items : Array Value) :
    Draws prog w A it [it, a] items.size (fun i v => items[i]? = some v) (fun i h => Ir k h it a i ∧ Ob k h a items) := by
  cases k with
  | true => exact Draws.list hh it a hne items
  | false => exact Draws.tuple hh it a hne items
theorem begin {k : Bool} (a : Addr) (items : Array Value) : Begins (.ref a) (itO k a) fun h => Ob k h a items := by
  cases k with
  | true => exact begins_list a items
  | false => exact begins_tuple a items
theorem obj_of {X : Cx} {pins : List (Addr × Obj)} {σ : L2.St} {H : Hp} {s : Shared} {k : Bool} {a : Addr} {xs : List V} (I : Inv X pins σ H s) (h : Sq k X.K H a xs) : ∃ its : List Value, Vals xs its ∧ Ob k s.heap a its.toArray := by
  cases k with
  | true =>
    obtain ⟨its, rv, p, _⟩ := I.list (show SqL X.K H a xs from h)
    exact ⟨its, rv, p.isList⟩
  | false =>
    obtain ⟨its, rv, p, _⟩ := I.tuple (show SqT X.K H a xs from h)
    exact ⟨its, rv, p⟩
theorem inj {X : Cx} {pins : List (Addr × Obj)} {σ : L2.St} {H : Hp} {s : Shared} {k : Bool} {a : Addr} {xs ys : List V} (I : Inv X pins σ H s) (h : Sq k X.K H a xs) (h' : Sq k X.K H a ys) : xs = ys := by
  cases k with
  | true => exact I.list_inj h h'
  | false => exact I.tuple_inj h h'
/-- the sequences at a and b as they stand at each turn, the items in new pairs -/
def ItzA (K : PySem.W.Frag) (k l : Bool) (a b : Addr) : It :=
  ⟨fun i H => ∃ (xs ys : List V) (x y : V), Sq k K H a xs ∧ Sq l K H b ys ∧ xs[i]? = some x ∧ ys[i]? = some y,
    fun i H v H' => ∃ T x y, v = .ref T ∧ H T = none ∧ H' = upd H T (.tup [x, y]) ∧ (∀ xs, Sq k K H a xs → xs[i]? = some x) ∧ ∀ ys, Sq l K H b ys → ys[i]? = some y,
    fun i H => ∃ xs ys : List V, Sq k K H a xs ∧ Sq l K H b ys ∧ i ≤ xs.length ∧ i ≤ ys.length ∧ (i = xs.length ∨ i = ys.length)⟩
theorem turn_zipA {P : Program} {w : World} {K : PySem.W.Frag} {k l : Bool} {elts : List Expr} {kk : Nat} {tpos : Pos} {a b z TI TO i1 i2 : Addr} (D : ZipSep2 z TI TO i1 i2 [i1, a] [i2, b]) :
    Turn P w K (.Tuple elts kk tpos) (ItzA K k l a b) [z, TI, TO, i1, i2] z (fun i h => IsZip h z TI TO .none ∧ IsTupOf2 h TI (.ref i1) (.ref i2) ∧ (∃ x y, IsTupOf2 h TO x y) ∧ Ir k h i1 a i ∧ Ir l h i2 b i) where
  mem := by simp
  obj := fun i h st c hc => by
    obtain ⟨hz, hTI, ⟨x, y, hTO⟩, h1, h2⟩ := st
    have e' : c = z ∨ c = TI ∨ c = TO ∨ c = i1 ∨ c = i2 := by simpa using hc
    rcases e' with q | q | q | q | q
    · rw [q]; exact ⟨_, hz, fun v q => nomatch q⟩
    · rw [q]; exact ⟨_, hTI, fun v q => nomatch q⟩
    · rw [q]; exact ⟨_, hTO, fun v q => nomatch q⟩
    · rw [q]; exact h1.obj
    · rw [q]; exact h2.obj
  keep := fun i h h' st k => by
    obtain ⟨hz, hTI, ⟨x, y, hTO⟩, h1, h2⟩ := st
    exact ⟨k z (by simp) _ hz, k TI (by simp) _ hTI, ⟨x, y, k TO (by simp) _ hTO⟩, h1.at fun o q => k i1 (by simp) o q, h2.at fun o q => k i2 (by simp) o q⟩
  item := by
    intro X hP hw hK hc i pins s σ H E I hf st hg
    subst hP hw hK
    obtain ⟨hz, hTI, ⟨x0, y0, hTO⟩, h1, h2⟩ := st
    obtain ⟨xs, ys, x, y, hqx, hqy, hx, hy⟩ := hg
    obtain ⟨its, rv, p⟩ := obj_of I hqx
    obtain ⟨its2, rv2, p2⟩ := obj_of I hqy
    obtain ⟨u, hu, ru⟩ := rv.get hx
    obtain ⟨u2, hu2, ru2⟩ := rv2.get hy
    have hzl : z < s.heap.objs.size := Heap.lt_size hz
    have l1 : i < its.toArray.size := by
      rw [List.size_toArray]
      exact (List.getElem?_eq_some_iff.mp hu).1
    have l2 : i < its2.toArray.size := by
      rw [List.size_toArray]
      exact (List.getElem?_eq_some_iff.mp hu2).1
    have n1 : a ≠ i1 := fun e => by
      have := D.sep1_2
      obtain ⟨o, ho, _⟩ := h1.obj
      cases k with
      | true =>
        obtain ⟨o1, g1, c1, d1⟩ := (show s.heap.IsListIter i1 a i from h1)
        obtain ⟨o2, g2, c2, _⟩ := (show s.heap.IsList a its.toArray from p)
        rw [e, g1] at g2
        cases g2
        rw [c1] at c2
        injection c2 with c3
        exact absurd c3 (by decide)
      | false =>
        obtain ⟨o1, g1, c1, d1⟩ := (show s.heap.IsTupleIter i1 a i from h1)
        obtain ⟨o2, g2, c2, _⟩ := (show s.heap.IsTuple a its.toArray from p)
        rw [e, g1] at g2
        cases g2
        rw [c1] at c2
        injection c2 with c3
        exact absurd c3 (by decide)
    have n2 : b ≠ i2 := fun e => by
      cases l with
      | true =>
        obtain ⟨o1, g1, c1, d1⟩ := (show s.heap.IsListIter i2 b i from h2)
        obtain ⟨o2, g2, c2, _⟩ := (show s.heap.IsList b its2.toArray from p2)
        rw [e, g1] at g2
        cases g2
        rw [c1] at c2
        injection c2 with c3
        exact absurd c3 (by decide)
      | false =>
        obtain ⟨o1, g1, c1, d1⟩ := (show s.heap.IsTupleIter i2 b i from h2)
        obtain ⟨o2, g2, c2, _⟩ := (show s.heap.IsTuple b its2.toArray from p2)
        rw [e, g1] at g2
        cases g2
        rw [c1] at c2
        injection c2 with c3
        exact absurd c3 (by decide)
    refine wpAny_pyNext_zipD2_item D (draw (prog := X.prog) (w := X.w) (A := X.A.in1) (I.ok.hd hc) k i1 a n1 its.toArray) (draw (prog := X.prog) (w := X.w) (A := X.A.in1) (I.ok.hd hc) l i2 b n2 its2.toArray) hz hTI hTO ⟨h1, p⟩ ⟨h2, p2⟩ l1 l2 fun x1 x2 h' tk hx1 hx2 z' TO' h1' h2' hT hsz hk => ?_
    have eu : x1 = u := by
      have e1 : its.toArray[i]? = some u := by rw [List.getElem?_toArray]; exact hu
      exact Option.some.inj ((show its.toArray[i]? = some x1 from hx1).symm.trans e1)
    have eu2 : x2 = u2 := by
      have e1 : its2.toArray[i]? = some u2 := by rw [List.getElem?_toArray]; exact hu2
      exact Option.some.inj ((show its2.toArray[i]? = some x2 from hx2).symm.trans e1)
    subst eu eu2
    refine ⟨_, rfl, wpAny_letOwnedTupleGo_zip (s := { s with heap := h', toks := tk }) z' fun h'' z'' sb => ?_⟩
    have hT2 : h''.get? s.heap.objs.size = some { cls := .type "tuple", data := .seq #[x1, x2] } := (sb.2 _ (Nat.ne_of_gt hzl)).trans hT
    have new : ObjOk X.prog X.w (upd H s.heap.objs.size (.tup [x, y])) h'' s.heap.objs.size (.tup [x, y]) :=
      ⟨by show 2 ≤ sizeLine; decide, [x1, x2], .cons ru (.cons ru2 .nil), ⟨_, hT2, rfl, _, rfl⟩⟩
    have I1 : Inv X pins σ (upd H s.heap.objs.size (.tup [x, y])) { s with heap := h'', toks := tk } :=
      I.turnedNew (t' := tk) (ch := [z, TI, TO, i1, i2]) (fun c o hb q => (sb.2 c (fun q' => hb (by simp [q']))).trans (hk c o (fun q' => hb (by simp [q'])) (fun q' => hb (by simp [q'])) (fun q' => hb (by simp [q'])) (fun q' => hb (by simp [q'])) q)) hf (Nat.le_refl _) new
    refine ⟨.ref s.heap.objs.size, _, I1, rfl, ⟨_, x, y, rfl, I.hok.fresh (Nat.le_refl _), rfl, fun l hl => by rw [inj I hl hqx]; exact hx, fun l hl => by rw [inj I hl hqy]; exact hy⟩, ⟨z'', ?_, ⟨x1, x2, ?_⟩, ?_, ?_⟩, fun c hcm => ?_⟩
    · exact (sb.2 _ D.TIz).trans (hk _ _ D.TIz D.TITO D.TIi1 D.TIi2 hTI)
    · exact (sb.2 _ D.TOz).trans TO'
    · exact h1'.1.at fun o q => (sb.2 _ (Ne.symm D.zi1)).trans q
    · exact h2'.1.at fun o q => (sb.2 _ (Ne.symm D.zi2)).trans q
    · have hlt : c < s.heap.objs.size := by
        have e' : c = z ∨ c = TI ∨ c = TO ∨ c = i1 ∨ c = i2 := by simpa using hcm
        rcases e' with q | q | q | q | q
        · rw [q]; exact hzl
        · rw [q]; exact Heap.lt_size hTI
        · rw [q]; exact Heap.lt_size hTO
        · rw [q]; obtain ⟨_, e1, _⟩ := h1.obj; exact Heap.lt_size e1
        · rw [q]; obtain ⟨_, e2, _⟩ := h2.obj; exact Heap.lt_size e2
      rw [upd_ne (Nat.ne_of_lt hlt)]
      exact (hf c hcm).1
  done := by
    intro X hP hw hK hc i pins s σ H E I hf st hg
    subst hP hw hK
    obtain ⟨hz, hTI, ⟨x0, y0, hTO⟩, h1, h2⟩ := st
    obtain ⟨xs, ys, hqx, hqy, g1, g2, hend⟩ := hg
    obtain ⟨its, rv, p⟩ := obj_of I hqx
    obtain ⟨its2, rv2, p2⟩ := obj_of I hqy
    have l1 := rv.length
    have l2 := rv2.length
    have n1 : a ≠ i1 := fun e => by
      cases k with
      | true =>
        obtain ⟨o1, g1, c1, d1⟩ := (show s.heap.IsListIter i1 a i from h1)
        obtain ⟨o2, g2, c2, _⟩ := (show s.heap.IsList a its.toArray from p)
        rw [e, g1] at g2
        cases g2
        rw [c1] at c2
        injection c2 with c3
        exact absurd c3 (by decide)
      | false =>
        obtain ⟨o1, g1, c1, d1⟩ := (show s.heap.IsTupleIter i1 a i from h1)
        obtain ⟨o2, g2, c2, _⟩ := (show s.heap.IsTuple a its.toArray from p)
        rw [e, g1] at g2
        cases g2
        rw [c1] at c2
        injection c2 with c3
        exact absurd c3 (by decide)
    have n2 : b ≠ i2 := fun e => by
      cases l with
      | true =>
        obtain ⟨o1, g1, c1, d1⟩ := (show s.heap.IsListIter i2 b i from h2)
        obtain ⟨o2, g2, c2, _⟩ := (show s.heap.IsList b its2.toArray from p2)
        rw [e, g1] at g2
        cases g2
        rw [c1] at c2
        injection c2 with c3
        exact absurd c3 (by decide)
      | false =>
        obtain ⟨o1, g1, c1, d1⟩ := (show s.heap.IsTupleIter i2 b i from h2)
        obtain ⟨o2, g2, c2, _⟩ := (show s.heap.IsTuple b its2.toArray from p2)
        rw [e, g1] at g2
        cases g2
        rw [c1] at c2
        injection c2 with c3
        exact absurd c3 (by decide)
    refine wpAny_pyNext_zipD2_end D (draw (prog := X.prog) (w := X.w) (A := X.A.in1) (I.ok.hd hc) k i1 a n1 its.toArray) (draw (prog := X.prog) (w := X.w) (A := X.A.in1) (I.ok.hd hc) l i2 b n2 its2.toArray) hz hTI hTO ⟨h1, p⟩ ⟨h2, p2⟩ (by rw [List.size_toArray]; omega) (by rw [List.size_toArray]; omega) (by rw [List.size_toArray, List.size_toArray]; omega) fun h' tk hk => ⟨rfl, I.turnedL (t' := tk) (ch := [z, TI, TO, i1, i2]) (fun c o hb q =>
      hk c o (fun q' => hb (by simp [q'])) (fun q' => hb (by simp [q'])) (fun q' => hb (by simp [q'])) (fun q' => hb (by simp [q'])) q) hf⟩
  self := fun A i s Q E st h => wpAny_pyIter_zip st.1 h
theorem sep {n a b : Nat} (la : a < n) (lb : b < n) : ZipSep2 (n + 4) (n + 2) (n + 3) n (n + 1) [n, a] [n + 1, b] := by
  constructor
  all_goals
    try simp only [List.mem_cons, List.not_mem_nil, or_false, not_or, ne_eq, true_or]
    try simp only [Nat.add_right_inj, Nat.reduceEqDiff, not_false_eq_true]
    try first | (refine ⟨True.intro, fun (h : n + 4 = b) => by omega⟩) | (refine ⟨True.intro, fun (h : n + 3 = b) => by omega⟩) | exact fun (h : n = n + 1) => by omega | (refine ⟨fun (h : n + 4 = n) => by omega, fun (h : n + 4 = a) => by omega⟩) | (refine ⟨fun (h : n + 3 = n) => by omega, fun (h : n + 3 = a) => by omega⟩) | (refine ⟨fun (h : n + 4 = n + 1) => by omega, fun (h : n + 4 = b) => by omega⟩) | (refine ⟨fun (h : n + 3 = n + 1) => by omega, fun (h : n + 3 = b) => by omega⟩) | (refine ⟨fun (h : n = n + 1) => by omega, fun (h : n = b) => by omega⟩) | (refine ⟨fun (h : n + 1 = n) => by omega, fun (h : n + 1 = a) => by omega⟩) | exact fun (h : n + 2 = n) => by omega | exact fun (h : n + 2 = n + 1) => by omega | exact fun (h : n + 2 = n + 4) => by omega | exact fun (h : n + 3 = n + 4) => by omega | exact fun (h : n + 2 = n + 3) => by omega
theorem walk_zA {K : PySem.W.Frag} {k l : Bool} {a b : Addr} {xs ys : List V} {n : Nat} (hx : n = xs.length) (hy : n = ys.length) : Walk (ItzA K k l a b) n (fun H => Sq k K H a xs ∧ Sq l K H b ys) (YPair (fun i => xs[i]?) (fun i => ys[i]?)) := by
  subst hx
  refine ⟨fun i _ hi q => ?_, fun _ q => ⟨xs, ys, q.1, q.2, Nat.le_refl _, by omega, .inl rfl⟩, fun i H v H' _ q y => ?_⟩
  · have h1 : i < xs.length := by omega
    have h2 : i < ys.length := by omega
    exact ⟨xs, ys, xs[i], ys[i], q.1, q.2, by simp [h1], by simp [h2]⟩
  · obtain ⟨T, x, z, h1, h2, h3, h4, h5⟩ := y
    exact ⟨T, x, z, h1, h2, h3, h4 xs q.1, h5 ys q.2⟩
def iZipB (K : PySem.W.Frag) (ta : TA) : TI := fun σ H R => ta σ H fun vs H1 => ∃ (k l : Bool) (a b : Addr) (xs ys : List V), vs = [.ref a, .ref b] ∧ Sq k K H1 a xs ∧ Sq l K H1 b ys ∧ R (ItzA K k l a b) H1
theorem pi_zipB {X : Cx} {e e2 : Expr} {ta : TA} {p pos tpos : Pos} {elts : List Expr} {kk : Nat} (hg : Gl X "zip") (hm : X.mg "zip" = none) (ha : PA X [e, e2] ta)
    (hs : starEach [e, e2] X.env = (false, eval e X.env) :: starEach [e2] X.env := by rfl) (hpl : (backTo pos (starEach [e2] X.env)).any (·.1) = false := by rfl) :
    PI X (.Tuple elts kk tpos) (.Call (.Name "zip" p) [e, e2] [] pos) (iZipB X.K ta) := by
  refine ⟨fun pins s σ H R I h => ?_⟩
  refine Call_ (ld_blt I hg hm PyProof.Rows.boot_zip (PyProof.Rows.callWith_type1 (thn (ha.run pos pins s σ H _ I h) fun us s1 ⟨vs, H1, I1, r1, q1⟩ => ?_) hs hpl))
  obtain ⟨k, l, a, b, xs, ys, ex, hqx, hqy, q⟩ := q1
  subst ex
  cases r1 with
  | cons r rr =>
    cases rr with
    | cons r' rr =>
      cases rr
      cases r
      cases r'
      obtain ⟨its, rv, p1⟩ := obj_of I1 hqx
      obtain ⟨its2, rv2, p2⟩ := obj_of I1 hqy
      have la := p1.lt
      have lb := p2.lt
      refine zip_begins2 (begin (k := k) a its.toArray) (begin (k := l) b its2.toArray) p1 p2 fun h' hz hTI hTO h1 h2 hsz hk => wpAny_pyIter_zip hz ?_
      have I2 : Inv X pins σ H1 { s1 with heap := h' } := I1.kept (t' := s1.toks) hk
      have D : ZipSep2 (s1.heap.objs.size + 4) (s1.heap.objs.size + 2) (s1.heap.objs.size + 3) s1.heap.objs.size (s1.heap.objs.size + 1) [s1.heap.objs.size, a] [s1.heap.objs.size + 1, b] := by
        exact sep la lb
      refine ⟨s1.heap.objs.size + 4, [s1.heap.objs.size + 4, s1.heap.objs.size + 2, s1.heap.objs.size + 3, s1.heap.objs.size, s1.heap.objs.size + 1], _, _, H1, rfl, I2, turn_zipA (k := k) (l := l) D, ⟨hz, hTI, ⟨_, _, hTO⟩, ?_, ?_⟩, fun c hcm => ?_, q⟩
      · cases k with
        | true => exact ⟨_, h1, rfl, rfl⟩
        | false => exact ⟨_, h1, rfl, rfl⟩
      · cases l with
        | true => exact ⟨_, h2, rfl, rfl⟩
        | false => exact ⟨_, h2, rfl, rfl⟩
      · have hle : s1.heap.objs.size ≤ c := by
          have e' : c = s1.heap.objs.size + 4 ∨ c = s1.heap.objs.size + 2 ∨ c = s1.heap.objs.size + 3 ∨ c = s1.heap.objs.size ∨ c = s1.heap.objs.size + 1 := by simpa using hcm
          rcases e' with z | z | z | z | z
          · rw [z]; exact Nat.le_add_right _ _
          · rw [z]; exact Nat.le_add_right _ _
          · rw [z]; exact Nat.le_add_right _ _
          · rw [z]; exact Nat.le_refl _
          · rw [z]; exact Nat.le_add_right _ _
        exact I1.fpOk hle (I1.hok.fresh hle)
end WZ
set_option maxHeartbeats 4000000
/-! An instance of one's own class is called: x(e, ..), where x is a local name. -/
namespace WC
open PySem PySem.Spec PyProof.Rows L2
theorem keeper_inst {M : Model} {h : Heap} {x : Addr} {o : Obj} (ho : h.get? x = some o) (hd : o.data = .plain) : PySem.W.Looks M h (keeperOf (.ref x)) .caller := by
  refine PySem.W.Looks.andThen (PySem.W.Looks.ld (part := none) ho) ?_
  rw [hd]
  exact PySem.W.Looks.now
theorem callWith_inst {M : Model} {A : Around} {E : Value → Shared → Prop} {s : Shared} {env : Env} {pos : Pos} {x : Addr} {o : Obj} {e : Expr} {es : List Expr} {Q : Value → Shared → Prop} (hd : o.data = .plain)
    (h : wpAny M A (spliced (backTo pos (starEach (e :: es) env))) (fun us s1 => s1.heap.get? x = some o ∧ wpAny M A (call (.ref x) us) Q E s1) E s)
    (he : starEach (e :: es) env = (false, eval e env) :: starEach es env) (hpl : (backTo pos (starEach es env)).any (·.1) = false) :
    wpAny M A (callWith pos (.ref x) [] (backTo pos (starEach (e :: es) env)) []) Q E s := by
  rw [he] at h ⊢
  have hs : ((backTo pos ((false, eval e env) :: starEach es env)).any (·.1) || ([] : List (Option Str × Sem Value)).any (·.1.isNone)) = false := by
    show ((false || (backTo pos (starEach es env)).any (·.1)) || false) = false
    rw [hpl]
    rfl
  unfold callWith
  refine wpAny_bind (wpAny_holding (wpAny_mono (PySem.Calls.evalArgs_plain (Q := fun a s1 => s1.heap.get? x = some o ∧ a.kw = [] ∧ wpAny M A (call (.ref x) a.pos) Q E s1) (wpAny_mono h (fun us s1 z => ⟨z.1, rfl, z.2⟩) fun _ _ y => y)) (fun a s1 z => ?_) fun _ _ y => y))
  obtain ⟨z1, z2, z3⟩ := z
  obtain ⟨ap, ak⟩ := a
  dsimp only at z2 z3
  subst z2
  refine wpAny_bind (wpAny_standAt ?_)
  dsimp only
  simp only [hs]
  refine wpAny_bind ((keeper_inst z1 hd).here ?_)
  refine wpAny_bind (wpAny_mono (wpAny_operateT (m := call (.ref x) ([] ++ ap)) z3) (fun r s2 hr => wpAny_bind (wpAny_holding (wpAny_point (wpAny_pure hr)))) fun _ _ y => y)
/-- what a class must have that its instances may be called -/
structure Cl (K : PySem.W.Frag) (C f : Addr) : Prop where
  at_ : PySem.W.findIn K (.ref C) "__call__" = some (some (.ref f))
  fn : PySem.W.isFn K (.ref f) = true
  fi : PySem.W.fnIn K f = true
/-- the i-th slot holds an instance of the class at C -/
def tCallI (i : Nat) (C : Addr) (sp : Sp) (E : XK) (t : TA) : TE := fun σ H Q => ∃ a dx fs, σ[i]? = some (some (.ref a)) ∧ H a = some (.ins C dx fs) ∧ t σ H fun vs H1 => H1 a = some (.ins C dx fs) ∧ sp (.ref a :: vs) H1 Q E
theorem pe_callI {X : Cx} {CX : CXT} {k i : Nat} {f C : Addr} {fd : FuncData} {ps : List Str} {sp : Sp} {E : XK} {x : Str} {p pos : Pos} {e : Expr} {es : List Expr} {t : TA}
    (F : FnOk X.prog X.w X.K X.mg X.base CX k f fd ps sp) (L : Cl X.K C f) (hr : Room k X.A) (hN : X.N[i]? = some x) (hv : Vis X.env.scope x) (hb : Binds X.K fd ps []) (hx : Passes CX X E) (ha : PA X (e :: es) t)
    (hdb : (x == ("__debug__" : Str)) = false := by decide) (hcd : (x == ("__classdict__" : Str)) = false := by decide)
    (he : starEach (e :: es) X.env = (false, eval e X.env) :: starEach es X.env := by rfl) (hpl : (backTo pos (starEach es X.env)).any (·.1) = false := by rfl) :
    PE X (.Call (.Name x p) (e :: es) [] pos) (tCallI i C sp E t) := by
  refine ⟨fun pins s σ H Q I h => ?_⟩
  obtain ⟨a, dx, fs, hs, hi, ht⟩ := h
  refine wpAny_Call_Name_kw (thn ((pe_var (pos := p) hN hv hdb hcd).run pins s σ H (fun v H1 => v = .ref a ∧ H1 = H) I ⟨.ref a, hs, rfl, rfl⟩) fun u s1 ⟨v, H1, I1, r1, q1⟩ => ?_)
  obtain ⟨rfl, rfl⟩ := q1
  cases r1
  refine callWith_inst (o := PySem.W.instObj C dx) rfl (thn (ha.run pos pins s1 σ _ _ I1 ht) fun us s2 ⟨vs, H2, I2, r, q⟩ => ?_) he hpl
  obtain ⟨q1, q2⟩ := q
  obtain ⟨mA, O, _⟩ := ins_get I2.hok q1
  obtain ⟨od, J, _⟩ := O.look
  refine ⟨O.obj, ?_⟩
  have r3 : Vals (.ref a :: vs) (.ref a :: us) := .cons rfl r
  have hl : ((.ref a :: us) ++ ([] : List Value)).length = ps.length := by rw [List.append_nil, ← r3.length]; exact F.len _ _ _ _ q2
  have run := F.run X.A X.stack s2 H2 ⟨.ref a :: us, []⟩ (.ref a :: us) (.ref a :: vs) Q E hr I2.env0 (by have := hb s2 (.ref a :: us) I2.kIn hl; rw [List.append_nil] at this; exact this) r3 q2
  refine wpAny_call (codeAny_mono (PySem.W.kco_code (a := ⟨us, []⟩) I2.kIn J rfl L.at_ L.fn L.fi run) fun r s' hq => ?_)
  cases r with
  | error e => exact hx pins σ H2 s2 e s' I2 hq
  | ok fl =>
    cases fl with
    | ret u => exact I2.after hq
    | next => exact False.elim hq
    | brk => exact False.elim hq
    | cont => exact False.elim hq
/-- a square of a wide int -/
def CSq (i j : Int) : Prop := j = 2 ∧ i.natAbs < 2 ^ 4000
theorem op_sq {X : Cx} : OpR X (binaryOp .Pow) (rI CSq fun i j => .int (i ^ j.toNat)) := opI fun i j _ _ _ _ _ hc q => by
  have hb := PyProof.Rows.intBits_le hc.2
  exact PyProof.Rows.pow_int (by rw [hc.1]; decide) (by rw [hc.1]; omega) q
end WC
/-! A rule for «match e: case 'a': .. case _: ..» over a text. -/
namespace L2
open PySem PySem.Spec PyProof.Rows
/-- the cases of a match, of a value -/
structure PM (X : Cx) (cs : List MatchCase) (t : V → TS) : Prop where
  run : ∀ (pins : List (Addr × Obj)) (s : Shared) (σ : St) (H : Hp) (D : Ends) (v : V) (u : Value) (first : Bool), Inv X pins σ H s → RelV v u → t v D σ H → wpAny (model X.prog X.w) X.A (matchCases cs X.env u first) (SP X pins D) X.xe s
section
variable {X : Cx}
def tMNil : V → TS := fun _ D σ H => D.nx σ H
def tMStr (x : Str) (tb : TS) (tr : V → TS) : V → TS := fun v D σ H => ∃ y, v = .str y ∧ if decide (y = x) = true then tb D σ H else tr (.str y) D σ H
def tMAny (tb : TS) : V → TS := fun _ D σ H => tb D σ H
theorem pm_nil : PM X [] tMNil := ⟨fun pins s σ H D v u first I r h => wpAny_matchCases_nil ⟨σ, H, I, h⟩⟩
theorem pm_str {x : Str} {j p1 p2} {body : List Stmt} {rest : List MatchCase} {tb : TS} {tr : V → TS} (hb : PSs X body tb) (hr : PM X rest tr) :
    PM X (⟨.MatchValue (.Constant (.str x) j p1) p2, none, body⟩ :: rest) (tMStr x tb tr) := by
  refine ⟨fun pins s σ H D v u first I r h => ?_⟩
  obtain ⟨y, rfl, q⟩ := h
  obtain ⟨t, rfl⟩ := r
  refine wpAny_matchCases_cons (wpAny_matchPattern_Value (Calls.Constant_str ?_))
  refine eq_str ?_
  refine wpAny_truthy_bool ?_
  by_cases e : y = x
  · have e1 : (y == x) = true := by rw [e]; exact beq_self_eq_true x
    rw [if_pos (decide_eq_true e)] at q
    first
      | rw [e1]
      | (rw [decide_eq_true e])
    show wpAny _ X.A (assignInOrder [] []) _ _ _
    exact wpAny_assignInOrder_none (hb.run pins _ σ H D (I.tok _) q)
  · have e1 : (y == x) = false := beq_eq_false_iff_ne.mpr e
    rw [if_neg (by rw [decide_eq_false e]; exact Bool.false_ne_true)] at q
    first
      | rw [e1]
      | (rw [decide_eq_false e])
    exact hr.run pins _ σ H D (.str y) _ false (I.tok _) ⟨t, rfl⟩ q
theorem pm_any {p2} {body : List Stmt} {tb : TS} (hb : PSs X body tb) : PM X [⟨.MatchAs none none p2, none, body⟩] (tMAny tb) := by
  refine ⟨fun pins s σ H D v u first I r h => ?_⟩
  refine wpAny_matchCases_cons (wpAny_matchPattern_Capture ?_)
  show wpAny _ X.A (assignInOrder [] []) _ _ _
  exact wpAny_assignInOrder_none (hb.run pins _ σ H D I h)
def tMatch (te : TE) (t : V → TS) : TS := fun D σ H => te σ H fun v H1 => t v D σ H1
theorem ps_match {e : Expr} {cs : List MatchCase} {pos : Pos} {te : TE} {t : V → TS} (he : PE X e te) (hc : PM X cs t) : PS X (.Match e cs pos) (tMatch te t) := by
  refine ⟨fun pins s σ H D I h => ?_⟩
  refine wpAny_Match (thn (he.run pins s σ H _ I h) fun u s1 ⟨v, H1, I1, r1, q1⟩ => ?_)
  exact hc.run pins s1 σ H1 D v u true I1 r1 q1
/-! the rules that speak of the written part, with K said outright: for a comprehension's block, where the context is bound -/
section
variable {X : Cx}
theorem ix_tupK {K : PySem.W.Frag} (h : X.K = K) : IxR X (rIxT K) := by subst h; exact ix_tup
theorem ix_listK {K : PySem.W.Frag} (h : X.K = K) : IxR X (rIxL K) := by subst h; exact ix_list
theorem sl_listK {K : PySem.W.Frag} (h : X.K = K) : SlR X (rSlL K) := by subst h; exact sl_list
theorem sl_tupK {K : PySem.W.Frag} (h : X.K = K) : SlR X (rSlT K) := by subst h; exact sl_tup
theorem op_in_seqK {K : PySem.W.Frag} (h : X.K = K) : OpR X (compareOp .In) (rIn K false) := by subst h; exact op_in_seq
theorem op_notIn_seqK {K : PySem.W.Frag} (h : X.K = K) : OpR X (compareOp .NotIn) (rIn K true) := by subst h; exact op_notIn_seq
theorem call_len_seqK {K : PySem.W.Frag} (h : X.K = K) : CallR X (.builtin "len") (fun xs H Q => ∃ p ys, xs = [.ref p] ∧ (SqL K H p ys ∨ SqT K H p ys) ∧ Q (.int ys.length) H) := by subst h; exact call_len_seq
theorem call_isiK1 {K : PySem.W.Frag} (h : X.K = K) : CallR X (.builtin "isinstance") (rIsi K) := by subst h; exact call_isi
theorem cr_allK {K : PySem.W.Frag} (h : X.K = K) (hc : X.calm = true) : CallR X (.builtin "all") (rAll K) := by subst h; exact cr_all hc
theorem cr_anyK {K : PySem.W.Frag} (h : X.K = K) (hc : X.calm = true) : CallR X (.builtin "any") (rAny K) := by subst h; exact cr_any hc
theorem cr_sumK {K : PySem.W.Frag} (h : X.K = K) (hc : X.calm = true) : CallR X (.builtin "sum") (rSum K) := by subst h; exact cr_sum hc
end
end
end L2
/-! Rules for «one or the other», max of three ints, the written part's letter said outright. -/
namespace L2
open PySem PySem.Spec PyProof.Rows
section
variable {X : Cx}
theorem pi_or {tg iter : Expr} {w1 w2 : TI} (h1 : PI X tg iter w1) (h2 : PI X tg iter w2) : PI X tg iter (fun σ H R => w1 σ H R ∨ w2 σ H R) :=
  ⟨fun pins s σ H R I h => h.elim (h1.run pins s σ H R I) (h2.run pins s σ H R I)⟩
theorem pg_or {tg : Expr} {g1 g2 : TG} (h1 : PG X tg g1) (h2 : PG X tg g2) : PG X tg (fun v σ H Q => g1 v σ H Q ∨ g2 v σ H Q) :=
  ⟨fun pins s σ H v u Q I r h => h.elim (h1.run pins s σ H v u Q I r) (h2.run pins s σ H v u Q I r)⟩
theorem ix_or : IxR X (fun x y H Q => rIxL X.K x y H Q ∨ rIxT X.K x y H Q) := ix_list.or ix_tup
theorem ix_orK {K : PySem.W.Frag} (h : X.K = K) : IxR X (fun x y H Q => rIxL K x y H Q ∨ rIxT K x y H Q) := by subst h; exact ix_or
theorem call_max3I (hc : X.calm = true) : CallR X (.builtin "max") (fun xs H Q => ∃ i j k : Int, xs = [.int i, .int j, .int k] ∧ Q (.int (if k > (if j > i then j else i) then k else (if j > i then j else i))) H) := by
  intro pins s σ H xs us Q I r h
  obtain ⟨i, j, k, rfl, q⟩ := h
  have e : nuMax3 (.int i) (.int j) (.int k) = some (.int (if k > (if j > i then j else i) then k else (if j > i then j else i))) := by
    have two : ∀ a b : Int, nuMax2 (.int a) (.int b) = some (.int (if b > a then b else a)) := fun a b => by
      show some (if decide (a < b) = true then V.int b else V.int a) = _
      by_cases h : b > a
      · rw [if_pos (decide_eq_true (show a < b from h)), if_pos h]
      · rw [if_neg (by rw [decide_eq_false (show ¬ a < b from h)]; exact Bool.false_ne_true), if_neg h]
    unfold nuMax3
    rw [two i j]
    exact two _ k
  exact call_max3Nu hc pins s σ H _ us Q I r ⟨_, _, _, _, rfl, e, q⟩
theorem call_list_ofK {K : PySem.W.Frag} (h : X.K = K) : CallR X (.type "list") (fun xs H Q => ∃ p ys, xs = [.ref p] ∧ (SqL K H p ys ∨ SqT K H p ys) ∧ ∀ l, H l = none → Q (.ref l) (upd H l (.lst ys))) := by subst h; exact call_list_of
theorem call_tuple_ofK {K : PySem.W.Frag} (h : X.K = K) : CallR X (.type "tuple") (fun xs H Q => ∃ p ys, xs = [.ref p] ∧ ((SqL K H p ys ∧ ∀ l, H l = none → Q (.ref l) (upd H l (.tup ys))) ∨ (SqT K H p ys ∧ Q (.ref p) H))) := by subst h; exact call_tuple_of
theorem pg_tupK {K : PySem.W.Frag} {es : List Expr} {k : Nat} {t : TGs} {n : Nat} {pos : Pos} (hK : X.K = K) (hc : X.calm = true) (h : PGs X es t)
    (hn : (assignEach es X.env).length = n := by rfl) (hst : (assignEach es X.env).findIdx? (·.1) = none := by rfl) : PG X (.Tuple es k pos) (gTup K n t) := by subst hK; exact pg_tup hc h hn hst
theorem pg_lstK {K : PySem.W.Frag} {es : List Expr} {k : Nat} {t : TGs} {n : Nat} {pos : Pos} (hK : X.K = K) (hc : X.calm = true) (h : PGs X es t)
    (hn : (assignEach es X.env).length = n := by rfl) (hst : (assignEach es X.env).findIdx? (·.1) = none := by rfl) : PG X (.Tuple es k pos) (gLst K n t) := by subst hK; exact pg_lst hc h hn hst
end
section
variable {X : Cx}
/-- y = {..}, a dict comprehension stored in its own statement -/
theorem ps_setDc {i : Nat} {y : Str} {py : Pos} {kx vx tg iter : Expr} {ifs : List Expr} {scope : Scope} {own : List (Str × Nat)} {pos spos : Pos} {wi : TI} {g : TG} {tt : TT} {tk tv : TE} (hc : X.calm = true) (hN : X.N.Nodup) (hy : X.N[i]? = some y) (hyl : X.env.scope.names.lookup y = some .local)
    (hsw : swapsWith (.DictComp kx vx [⟨tg, iter, ifs, 0⟩] scope pos) (some (.Name y py)) spos.line X.env = pure true) (hi : PI X tg iter wi) (ok : BlkOk X.N X.env.scope scope own)
    (hg : ∀ (s : Shared) (H : Hp) (C : Addr) (cl : List (Str × Addr)) (fp : List Addr), PG (X.blk s H scope (compEnvC scope cl C X.env) fp) tg g) (ht : ∀ (s : Shared) (H : Hp) (C : Addr) (cl : List (Str × Addr)) (fp : List Addr), PTs (X.blk s H scope (compEnvC scope cl C X.env) fp) ifs tt)
    (hk : ∀ (s : Shared) (H : Hp) (C : Addr) (cl : List (Str × Addr)) (fp : List Addr), PE (X.blk s H scope (compEnvC scope cl C X.env) fp) kx tk)
    (he : ∀ (s : Shared) (H : Hp) (C : Addr) (cl : List (Str × Addr)) (fp : List Addr), PE (X.blk s H scope (compEnvC scope cl C X.env) fp) vx tv) (hs : ∀ x, foldedSetIterable iter X.env x = pure x := by intro _; rfl) :
    PS X (.Assign [.Name y py] (.DictComp kx vx [⟨tg, iter, ifs, 0⟩] scope pos) spos) (tAsg (tDc wi g tt tk tv (own.map (·.2))) (gName i)) := by
  refine ⟨fun pins s σ H D I h => ?_⟩
  rw [exec_Assign_Name_used _ _ _ _ hsw]
  refine wpAny_bind (wpAny_standAt (wpAny_bind ?_))
  show wpAny _ X.A (do let _ ← comprehension (.DictComp kx vx [⟨tg, iter, ifs, 0⟩] scope pos) scope X.env (firstIterPos [⟨tg, iter, ifs, 0⟩] pos) newDict false (eval iter X.env) (some (assign (.Name y py) X.env))) _ _ s
  have h : tDc wi g tt tk tv (own.map (·.2)) σ H (fun x H1 => gName i x σ H1 D.nx) := h
  refine wpAny_bind (thn (dc_core (Qf := fun _ s' => SP X pins D .next s') hc hN I hi ok hg ht hk he hs h fun L C s' m H' I' q hn f => ?_) fun _ s' hq => wpAny_pure (wpAny_pure hq))
  show wpAny _ _ (assign (.Name y py) X.env (.ref L)) _ _ _
  refine wpAny_assign_Name (store_ok2 (v := V.ref L) I' hN hy (.inl hyl) rfl (fun s2 I2 hex => ?_) (.inr hyl))
  obtain ⟨a, sb, ha⟩ := hex
  obtain ⟨f0, f1, f2, f3, f4, f5⟩ := f
  have haC : C ≠ a := ha.elim (fun z => by rw [z]; exact f1) fun z e => f4 y a z e.symm
  exact ⟨m, hn.sameBut sb haC, fun h3 sb3 => ⟨_, H', I2.turned (t' := s2.toks) (fun b o hb e => (sb3.2 b hb).trans e) f0 f1 f3 f4 f5, q⟩⟩
theorem sw_trueD {kx vx : Expr} {gs : List Comprehension} {scope : Scope} {pos py : Pos} {y : Str} {l : Nat} {env : Env} (hk : env.scope.kind = .function) (hy : env.scope.names.lookup y = some .local) (hl : (py.line == pos.line) = true)
    (ha : (scope.names.any fun (n, k) => n == y && (k == .local || k == .cell)) = false) : swapsWith (.DictComp kx vx gs scope pos) (some (.Name y py)) l env = pure true := by
  have ky : env.kindOf y = some .local := hy
  have hb : env.blockKind = .function := by
    unfold Env.blockKind
    rw [hk]
    rfl
  unfold swapsWith
  simp only [hb, ky, ha, Expr.pos, hl]
  rfl
end
/-- a dict comprehension over a list that stays -/
theorem dc_list {K : PySem.W.Frag} {a : Addr} {xs : List V} {g : TG} {tt : TT} {tk tv : TE} {vs : List Nat} {σ : St} {H1 : Hp} {D : Addr} {Qd : Hp → Prop} (Pv : Nat → Hp → Prop) (h0 : Pv 0 (upd H1 D (.dK []))) (hl : ∀ i H, i ≤ xs.length → Pv i H → SqL K H a xs)
    (hs : ∀ i x H, xs[i]? = some x → Pv i H → g x (wipe σ vs) H fun σ2 H2 => wipe σ2 vs = wipe σ vs ∧ tt σ2 H2 fun b H3 =>
      if b = true then tk σ2 H3 fun y H4 => tv σ2 H4 fun z H5 => ∃ kvs k, y = kV k ∧ H5 D = some (.dK kvs) ∧ kvs.length < sizeLine ∧ Pv (i + 1) (upd H5 D (.dK (putK kvs k z))) else Pv (i + 1) H3) (hd : ∀ H, Pv xs.length H → Qd H) :
    ∃ W : Nat → Nat → Hp → Prop, (∃ m, W 0 m (upd H1 D (.dK []))) ∧ ∀ i m H, W i m H →
      ((Itl K a).stop i H ∧ Qd H) ∨ ((Itl K a).go i H ∧ ∃ Nx : Hp → Prop, (∀ H', Nx H' → ∃ m', m' < m ∧ W (i + 1) m' H') ∧ ∀ x H', (Itl K a).yld i H x H' → g x (wipe σ vs) H' fun σ2 H2 => wipe σ2 vs = wipe σ vs ∧ tt σ2 H2 fun b H3 =>
        if b = true then tk σ2 H3 fun y H4 => tv σ2 H4 fun z H5 => ∃ kvs k, y = kV k ∧ H5 D = some (.dK kvs) ∧ kvs.length < sizeLine ∧ Nx (upd H5 D (.dK (putK kvs k z))) else Nx H3) := by
  refine ⟨fun i m H => m = xs.length - i ∧ i ≤ xs.length ∧ Pv i H, ⟨xs.length, by simp, Nat.zero_le _, h0⟩, ?_⟩
  rintro i m H ⟨rfl, hi, p⟩
  have q := hl i H hi p
  rcases Nat.lt_or_ge i xs.length with hlt | hge
  · refine .inr ⟨⟨xs, xs[i], q, by simp [hlt]⟩, Pv (i + 1), fun H' p' => ⟨xs.length - (i + 1), by omega, rfl, hlt, p'⟩, ?_⟩
    rintro x H' ⟨rfl, y⟩
    exact hs i x _ (y xs q) p
  · obtain rfl : i = xs.length := Nat.le_antisymm hi hge
    exact .inl ⟨⟨xs, q, Nat.le_refl _⟩, hd H p⟩
/-- a dict comprehension over the list or the tuple in slot i, which stays -/
theorem tDc_or {K : PySem.W.Frag} {a : Addr} {xs : List V} {i : Nat} {g : TG} {tt : TT} {tk tv : TE} {vs : List Nat} {σ : St} {H : Hp} {Q : VK} (hi : σ[i]? = some (some (V.ref a))) (hx : H a = some (.lst xs) ∨ H a = some (.tup xs)) (Pv : Addr → Nat → Hp → Prop)
    (h0 : ∀ D, H D = none → Pv D 0 (upd H D (.dK []))) (hl : ∀ D, H D = none → ∀ j H', Pv D j H' → ∀ u, H a = some u → H' a = some u)
    (hs : ∀ D, H D = none → ∀ j x H', xs[j]? = some x → Pv D j H' → g x (wipe σ vs) H' fun σ2 H2 => wipe σ2 vs = wipe σ vs ∧ tt σ2 H2 fun b H3 =>
      if b = true then tk σ2 H3 fun y H4 => tv σ2 H4 fun z H5 => ∃ kvs k, y = kV k ∧ H5 D = some (.dK kvs) ∧ kvs.length < sizeLine ∧ Pv D (j + 1) (upd H5 D (.dK (putK kvs k z))) else Pv D (j + 1) H3)
    (hd : ∀ D, H D = none → ∀ H', Pv D xs.length H' → Q (.ref D) H') : tDc (fun σ H R => iList K (tVar i) σ H R ∨ iTup K (tVar i) σ H R) g tt tk tv vs σ H Q := by
  rcases hx with hx | hx
  · exact .inl ⟨_, hi, a, rfl, ⟨_, SqL.of hx⟩, fun D hD => dc_list (K := K) (a := a) (xs := xs) (Pv D) (h0 D hD) (fun j H' _ p => SqL.of (hl D hD j H' p _ hx)) (hs D hD) (hd D hD)⟩
  · exact .inr ⟨_, hi, a, rfl, ⟨_, SqT.of hx⟩, fun D hD => dc_tup (K := K) (a := a) (xs := xs) (Pv D) (h0 D hD) (fun j H' _ p => SqT.of (hl D hD j H' p _ hx)) (hs D hD) (hd D hD)⟩
/-- a loop over the list or the tuple in slot i, which stays -/
theorem tFor_or {K : PySem.W.Frag} {a : Addr} {xs : List V} {i : Nat} {g : TG} {tb : TS} {D : Ends} {σ : St} {H : Hp} (hi : σ[i]? = some (some (V.ref a))) (hx : H a = some (.lst xs) ∨ H a = some (.tup xs)) (Pv : Nat → St → Hp → Prop)
    (h0 : Pv 0 σ H) (hl : ∀ j σ' H', Pv j σ' H' → ∀ u, H a = some u → H' a = some u)
    (hs : ∀ j x σ' H', xs[j]? = some x → Pv j σ' H' → g x σ' H' fun σ2 H2 => tb { D with nx := Pv (j + 1), ct := Pv (j + 1), bk := D.nx } σ2 H2)
    (hd : ∀ σ' H', Pv xs.length σ' H' → D.nx σ' H') : tFor (fun σ H R => iList K (tVar i) σ H R ∨ iTup K (tVar i) σ H R) g tb D σ H := by
  rcases hx with hx | hx
  · exact .inl ⟨_, hi, a, rfl, ⟨_, SqL.of hx⟩, for_list (K := K) (a := a) (xs := xs) Pv h0 (fun j σ' H' _ p => SqL.of (hl j σ' H' p _ hx)) hs hd⟩
  · exact .inr ⟨_, hi, a, rfl, ⟨_, SqT.of hx⟩, for_tup (K := K) (a := a) (xs := xs) Pv h0 (fun j σ' H' _ p => SqT.of (hl j σ' H' p _ hx)) hs hd⟩
/-- a comprehension over the list or the tuple in slot i, which stays -/
theorem tLc_or {K : PySem.W.Frag} {a : Addr} {xs : List V} {i : Nat} {g : TG} {tt : TT} {te : TE} {vs : List Nat} {σ : St} {H : Hp} {Q : VK} (hi : σ[i]? = some (some (V.ref a))) (hx : H a = some (.lst xs) ∨ H a = some (.tup xs)) (Pv : Addr → Nat → Hp → Prop)
    (h0 : ∀ D, H D = none → Pv D 0 (upd H D (.lst []))) (hl : ∀ D, H D = none → ∀ j H', Pv D j H' → ∀ u, H a = some u → H' a = some u)
    (hs : ∀ D, H D = none → ∀ j x H', xs[j]? = some x → Pv D j H' → g x (wipe σ vs) H' fun σ2 H2 => wipe σ2 vs = wipe σ vs ∧ tt σ2 H2 fun b H3 =>
      if b = true then te σ2 H3 fun y H4 => ∃ acc, H4 D = some (.lst acc) ∧ acc.length < sizeLine ∧ Pv D (j + 1) (upd H4 D (.lst (acc ++ [y]))) else Pv D (j + 1) H3)
    (hd : ∀ D, H D = none → ∀ H', Pv D xs.length H' → Q (.ref D) H') : tLc (fun σ H R => iList K (tVar i) σ H R ∨ iTup K (tVar i) σ H R) g tt te vs σ H Q := by
  rcases hx with hx | hx
  · exact .inl ⟨_, hi, a, rfl, ⟨_, SqL.of hx⟩, fun D hD => lc_list (K := K) (a := a) (xs := xs) (Pv D) (h0 D hD) (fun j H' _ p => SqL.of (hl D hD j H' p _ hx)) (hs D hD) (hd D hD)⟩
  · exact .inr ⟨_, hi, a, rfl, ⟨_, SqT.of hx⟩, fun D hD => lc_tup (K := K) (a := a) (xs := xs) (Pv D) (h0 D hD) (fun j H' _ p => SqT.of (hl D hD j H' p _ hx)) (hs D hD) (hd D hD)⟩
end L2
/-! Own errors: made, raised, caught, asked of; defs that raise; defs that are called in a suite. All over the errors whose context is None. -/
namespace EX
open PySem PySem.Spec PyProof.Rows L2
/-- a def that may raise, by its body -/
theorem okR {P : Program} {w : World} {K : PySem.W.Frag} {mg : Str → Option Value} {base : Heap} {x qual : Str} {st : Stmt} {f : Addr} {fd : FuncData} {N ps : List Str} {k : Nat} {sp : Sp} (F : Fun K x qual st f fd) (S : FnScope N ps (defScope st))
    (len : ∀ vs H Q E, sp vs H Q E → vs.length = ps.length)
    (body : ∀ (cdv : Value) (A : Around) (outer : List Env) (s : Shared) (H : Hp) (vs : List V) (Q : VK) (E : XK), Room k (A.deeper (envOfC qual (defScope st) s.heap.objs.size f cdv)) → sp vs H Q E →
      ∃ t, PSs (cxOf (L2N.CX P w) P w K mg base N qual (defScope st) f cdv A outer s H E) (defBody st) t ∧ t { nx := fun _ H' => Q .non H', rt := Q } (start N vs) H) :
    FnOk P w K mg base (L2N.CX P w) (k + 1) f fd ps sp := by
  obtain ⟨oc, od, kV, doc, pm, an, cdv, ct, osl, rfl, lk, hcd⟩ := F.ex
  exact fn_of lk hcd S len fun A outer s H vs Q E hr hsp => body cdv A outer s H vs Q E hr hsp
/-- a def that does not raise, called while an error is handled, by its body -/
theorem okH {P : Program} {w : World} {K : PySem.W.Frag} {mg : Str → Option Value} {base : Heap} {x qual : Str} {st : Stmt} {f : Addr} {fd : FuncData} {N ps : List Str} {k : Nat} {sp : Sp} (F : Fun K x qual st f fd) (S : FnScope N ps (defScope st))
    (len : ∀ vs H Q E, sp vs H Q E → vs.length = ps.length)
    (body : ∀ (cdv : Value) (A : Around) (outer : List Env) (s : Shared) (H : Hp) (vs : List V) (Q : VK) (E : XK) (p : Addr × Obj), L2H.RoomH k (A.deeper (envOfC qual (defScope st) s.heap.objs.size f cdv)) → L2H.Hot1 A p → sp vs H Q E →
      ∃ t, PSs (L2H.cxH CX0 P w K mg base N qual (defScope st) f cdv A outer s H E p).nox (defBody st) t ∧ t { nx := fun _ H' => Q .non H', rt := Q } (start N vs) H) :
    L2H.FnH P w K mg base CX0 (k + 1) f fd ps sp := by
  obtain ⟨oc, od, kV, doc, pm, an, cdv, ct, osl, rfl, lk, hcd⟩ := F.ex
  refine L2H.fn_ofH lk hcd S len fun A outer s H vs Q E p hot hr hsp => ?_
  obtain ⟨t, h, q⟩ := body cdv A outer s H vs Q E p hr hot hsp
  exact ⟨t, h.nox, q⟩
/-- defs as their callers see them: one that may raise; one that is called in a suite -/
def CalX (P : Program) (w : World) (K : PySem.W.Frag) (mg : Str → Option Value) (base : Heap) (k : Nat) (x : Str) (ps : List Str) (sp : Sp) : Prop :=
  ∃ (f : Addr) (fd : FuncData), FnOk P w K mg base (L2N.CX P w) k f fd ps sp ∧ mg x = some (.ref f) ∧ PySem.W.keepIn K (.ref f) = true ∧ Binds K fd ps []
def CalH (P : Program) (w : World) (K : PySem.W.Frag) (mg : Str → Option Value) (base : Heap) (k : Nat) (x : Str) (ps : List Str) (sp : Sp) : Prop :=
  ∃ (f : Addr) (fd : FuncData), L2H.FnH P w K mg base CX0 k f fd ps sp ∧ mg x = some (.ref f) ∧ PySem.W.keepIn K (.ref f) = true ∧ Binds K fd ps []
section
variable {X : Cx} {k : Nat} {x : Str} {ps : List Str} {sp : Sp} {p pos : Pos} {e : Expr} {es : List Expr} {t : TA} {W : WX}
/-- f(..) that may raise; W: what is wished of what is raised -/
theorem pe_calX (C : CalX X.prog X.w X.K X.mg X.base k x ps sp) (hr : Room k X.A) (hg : Gl X x) (tk : L2N.Takes X W) (ha : PA X (e :: es) t)
    (hdb : (x == ("__debug__" : Str)) = false := by decide) (he : starEach (e :: es) X.env = (false, eval e X.env) :: starEach es X.env := by rfl) (hpl : (backTo pos (starEach es X.env)).any (·.1) = false := by rfl) :
    PE X (.Call (.Name x p) (e :: es) [] pos) (tCallS sp (WE W) t) := by
  obtain ⟨f, fd, G, m, kp, b⟩ := C
  exact pe_callS G hr hg m kp b (L2N.passAt tk) ha hdb he hpl
theorem passH {X : Cx} {σ : L2.St} : PassesAt CX0 X σ E0 := fun _ _ _ _ _ _ h => h.elim
/-- f(..) in a suite -/
theorem pe_calH (C : CalH X.prog X.w X.K X.mg X.base k x ps sp) (hr : L2H.RoomH k X.A) (hc : L2H.HotC X) (hg : Gl X x) (ha : PA X (e :: es) t)
    (hdb : (x == ("__debug__" : Str)) = false := by decide) (he : starEach (e :: es) X.env = (false, eval e X.env) :: starEach es X.env := by rfl) (hpl : (backTo pos (starEach es X.env)).any (·.1) = false := by rfl) :
    PE X (.Call (.Name x p) (e :: es) [] pos) (tCallS sp (fun _ => E0) t) := by
  obtain ⟨f, fd, G, m, kp, b⟩ := C
  exact L2H.pe_callH G hr hc hg m kp b (fun _ => passH) ha hdb he hpl
/-- the suite of an error whose context is None bears it -/
theorem hot_of {X : Cx} {a : Addr} {oe : Obj} {cls : Value} {d : Option Addr} {pn : List (Addr × Obj)} (hz : L2N.Zn cls d oe) (hf : ∃ vs, oe.data = .fields vs) : L2H.HotC (X.suite a ((a, oe) :: pn)) := by
  obtain ⟨vs, e⟩ := hf
  exact ⟨(a, oe), ⟨rfl, vs, e, hz.2.2 vs e⟩, List.mem_cons_self⟩
theorem roomS {X : Cx} {k : Nat} {a : Addr} {pn : List (Addr × Obj)} (hr : Room k X.A) : L2H.RoomH k (X.suite a pn).A := ⟨hr.dp, hr.un⟩
/-- nothing is let out -/
theorem takesN {X : Cx} : L2N.Takes X (fun _ _ _ _ => False) := fun _ _ h => by
  obtain ⟨_, _, _, _, _, _, _, _, _, _, _, _, _, _, _, _, z⟩ := h
  exact z.elim
theorem passN {X : Cx} {E : XK} : Passes CX0 X E := fun _ _ _ _ _ _ _ h => h.elim
end
/-! ### making -/
section
variable {X : Cx} {C : Addr} {bmB : List Value} {B newId initId : String}
/-- X(), an own class without an __init__ -/
theorem pmk0 {x : Str} {p pos : Pos} (F : ExcBaseFacts B newId initId bmB) (q : PySem.W.excIn X.K C bmB newId = true) (gC : X.mg x = some (.ref C)) (kC : PySem.W.keepIn X.K (.ref C) = true) (r : Raises X (.ref C)) (hg : Gl X x)
    (hdb : (x == ("__debug__" : Str)) = false := by decide) : L2N.PMk X (.Call (.Name x p) [] [] pos) (fun _ H Q => Q (.ref C) none H) := by
  intro pins s σ H Q I h
  refine wpAny_Call_Name_kw (ld_glob I hg gC (PySem.W.callWith_K0 I.kIn kC ?_) hdb)
  obtain ⟨bm, N, nm, qn, bs, hdct, sn, sub, ab, col, dd, k0, k1, k2, k3, k5, mN, hC, hN, hni, T⟩ := exc_obj I.kIn q
  exact wpAny_call_exc_subT F T hC hN hni (fun h' e hm => L2N.mk_of I hm r h (I.hok.gone hm.new)) (Nat.zero_le _)
/-- X(..), an own class with an __init__ -/
theorem pmkI {CX : CXT} {x : Str} {fI : Addr} {k : Nat} {fd : FuncData} {ps : List Str} {sp : Sp} {e : Expr} {es : List Expr} {ta : TA} {p pos : Pos} (T : OexC X.K C) (iC : PySem.W.findIn X.K (.ref C) "__init__" = some (some (.ref fI)))
    (tI : PySem.W.typeIn X.K (.ref fI) = some (.type "function")) (F1 : FnOk X.prog X.w X.K X.mg X.base CX k fI fd ps sp) (hr : Room (k + 1) X.A) (hb : Binds X.K fd ps []) (hx : Passes CX X (fun _ _ _ => False)) (hg : Gl X x) (hm : X.mg x = some (.ref C)) (ha : PA X (e :: es) ta)
    (hdb : (x == ("__debug__" : Str)) = false := by decide) (he : starEach (e :: es) X.env = (false, eval e X.env) :: starEach es X.env := by rfl) (hpl : (backTo pos (starEach es X.env)).any (·.1) = false := by rfl) :
    L2N.PMk X (.Call (.Name x p) (e :: es) [] pos) (tMkO C sp [] ta) := by
  intro pins s σ H Q I h
  obtain ⟨nm, q, N, bs, bm, sn, sub, ab, col, dd, k0, k1, k2, k3, k5, hC, hbm⟩ := T.cls
  refine wpAny_Call_Name_kw (ld_glob I hg hm (PySem.W.callWith_K (h₀ := X.base) I.ok.mod.kin T.kC (thn (ha.run pos pins s σ H _ I h) fun us s1 hh => ?_) he hpl) hdb)
  obtain ⟨vs, H1, I1, r1, hz, q1⟩ := hh
  refine ⟨I1.kIn, ?_⟩
  show wpAny _ _ (call (.ref C) us) _ _ _
  obtain ⟨hp, g, dr, tk, os⟩ := s1
  have fresh := I1.hok.fresh (Nat.le_succ hp.objs.size)
  have hq := q1 (hp.objs.size + 1) fresh
  rw [List.append_nil] at hq
  generalize eh : (hp.push (PySem.W.kdv_tup us)).push (PySem.HandSPX.excO C hp.objs.size) = hn
  have kk : ∀ b o, hp.get? b = some o → hn.get? b = some o := fun b o z => by
    rw [← eh]
    exact Heap.get?_push_of_some _ (Heap.get?_push_of_some _ z)
  have hget : hn.get? (hp.objs.size + 1) = some (PySem.HandSPX.excO C hp.objs.size) := by
    rw [← eh]
    heap_get
  have I2 : Inv X pins σ (upd H1 (hp.objs.size + 1) (exo (hp.objs.size + 1) C none)) ⟨hn, g, dr, tk, os⟩ := I1.laid (t' := tk) kk (Nat.le_succ _) (exo_ok hget)
  have r2 : Vals (V.ref (hp.objs.size + 1) :: vs) (Value.ref (hp.objs.size + 1) :: us) := .cons rfl r1
  have hl : (Value.ref (hp.objs.size + 1) :: us).length = ps.length := r2.length.symm.trans (F1.len _ _ _ _ hq)
  have hb' := hb _ (Value.ref (hp.objs.size + 1) :: us) I2.kIn (by rw [List.append_nil]; exact hl)
  rw [List.append_nil] at hb'
  have hus : us.length ≤ sizeLine := by
    rw [← Vals.length r1]
    exact Nat.le_trans hz (by rw [sizeLine_eq]; decide)
  have run := F1.run _ X.stack _ _ ⟨Value.ref (hp.objs.size + 1) :: us, []⟩ _ _ _ (fun _ _ _ => False) (hr.make C us []) (I2.env0.make C us []) hb' r2 hq
  rw [← eh] at run
  refine wpAny_call (PySem.HandSPX.call_own F.excBase_ValueError (fun Y => PySem.HandSPX.refsVE_contains Y bm hbm) (I1.kIn _ _ hC) (PySem.W.looks_findIn I1.kIn iC) (fun self => PySem.W.bind_fn I1.kIn self tI) hus (codeAny_mono run fun r s' hq' => ?_))
  rw [eh] at hq'
  cases r with
  | error er => exact hx pins σ _ _ er s' I2 hq'
  | ok fl =>
    cases fl with
    | next => exact hq'.elim
    | brk => exact hq'.elim
    | cont => exact hq'.elim
    | ret u =>
      obtain ⟨v, H2, os2, bare2, un2, hok2, rv, ev, d, fs, ea, ed, hd1, q2⟩ := hq'
      subst ev
      obtain ⟨h2, g2, d2, t2, os'⟩ := s'
      obtain ⟨t0, G, J, kG, ge, hoe, na⟩ := mk_end0 (d2 := d2) (t2 := t2) I1 (Nat.le_succ _) kk un2 hok2 os2 bare2 ea ed hd1
      exact ⟨rv, hp.objs.size + 1, _, _, ⟨G, g2, d2, t2, os'⟩, _, .ref C, some d, rfl, J, kG, ge, hoe, ⟨rfl, rfl, fun vs z => by cases z; rfl⟩, rfl, rfl, na, rfl, bare2, raises_own T.exC T.tyC, q2⟩
end
/-! ### asking of a caught error -/
/-- what the class at C must say for its instances to be asked of -/
structure XCls (K : PySem.W.Frag) (C : Addr) : Prop where
  cl : (PySem.W.clsIn K C).isSome = true
  ga : PySem.W.findIn K (.ref C) "__getattribute__" = some (some (.builtin "BaseException.__getattribute__"))
  gg : PySem.W.findIn K (.ref C) "__getattr__" = some none
  su : PySem.W.subIn K (.ref C) (.type "BaseException") = some true
  ca : PySem.W.findIn K (.ref C) "__class__" = some (some (.builtin "object.__class__"))
  cn : PySem.W.specialIn K (.builtin "object.__class__") "__get__" = some (some (.builtin "getset_descriptor.__get__"))
  ct : PySem.W.takesIn K (.builtin "object.__class__") = some true
  cm : PySem.W.mroIn K C (.type "object") = some true
  hd : PySem.W.hasDictIn K C = true
  ty : PySem.W.typeIn K (.ref C) = some (.type "type")
  kp : PySem.W.keepIn K (.ref C) = true
def xclsB (K : PySem.W.Frag) (C : Addr) : Bool :=
  (PySem.W.clsIn K C).isSome && decide (PySem.W.findIn K (.ref C) "__getattribute__" = some (some (.builtin "BaseException.__getattribute__"))) && decide (PySem.W.findIn K (.ref C) "__getattr__" = some none) &&
  decide (PySem.W.subIn K (.ref C) (.type "BaseException") = some true) && decide (PySem.W.findIn K (.ref C) "__class__" = some (some (.builtin "object.__class__"))) &&
  decide (PySem.W.specialIn K (.builtin "object.__class__") "__get__" = some (some (.builtin "getset_descriptor.__get__"))) && decide (PySem.W.takesIn K (.builtin "object.__class__") = some true) &&
  decide (PySem.W.mroIn K C (.type "object") = some true) && PySem.W.hasDictIn K C && decide (PySem.W.typeIn K (.ref C) = some (.type "type")) && PySem.W.keepIn K (.ref C)
theorem xcls_of {K : PySem.W.Frag} {C : Addr} (h : xclsB K C = true) : XCls K C := by
  unfold xclsB at h
  simp only [Bool.and_eq_true, decide_eq_true_eq] at h
  obtain ⟨⟨⟨⟨⟨⟨⟨⟨⟨⟨a, b⟩, c⟩, d⟩, e⟩, f⟩, g⟩, h⟩, i⟩, j⟩, k⟩ := h
  exact ⟨a, b, c, d, e, f, g, h, i, j, k⟩
theorem XCls.xf {K : PySem.W.Frag} {C : Addr} (T : XCls K C) : XfC K C := ⟨T.ga, T.gg, T.su, T.hd⟩
theorem XCls.raises {X : Cx} {C : Addr} (T : XCls X.K C) : Raises X (.ref C) := raises_own T.su T.ty
theorem XCls.kit {K : PySem.W.Frag} {C x : Addr} {ox : Obj} {od : Option Obj} (T : XCls K C) : PySem.W.KitX K (.ref x) (.ref C) (fun h => PySem.W.InstAt h x ox C od) := PySem.W.kitx_exc T.cl T.ga T.gg T.su T.ca T.cn T.ct T.cm
/-- the class at C beside the class at D, as isinstance and except see them: b tells whether C is D or stands below it -/
structure Below (K : PySem.W.Frag) (C D : Addr) (b : Bool) : Prop where
  one : PySem.W.kitOne K (.ref C) (.ref D) = some b
  exm : PySem.W.exmOne K (.ref C) (.ref D) = some b
theorem exm_kit {K : PySem.W.Frag} {C D : Addr} {b : Bool} (T : XCls K C) (hs : PySem.W.subIn K (.ref C) (.ref D) = some b) (U : XCls K D) (hne : (Value.ref C == Value.ref D) = true → b = true) : Below K C D b := by
  have h2 : ((PySem.W.clsIn K D).isSome && PySem.W.typeIn K (.ref D) == some (.type "type")) = true := by
    rw [U.cl, U.ty]
    rfl
  have h3 : PySem.W.kitCls K (.ref C) (.ref D) = some b := by
    show (if _ then _ else _) = _
    rw [if_pos h2]
    exact hs
  refine ⟨?_, ?_⟩
  · show (if _ then _ else _) = _
    by_cases e : (Value.ref C == Value.ref D) = true
    · rw [if_pos e, hne e]
    · rw [if_neg e]
      exact h3
  · show (if _ then _ else _) = _
    have e : (PySem.W.subIn K (.ref D) (.type "BaseException") == some true) = true := by rw [U.su]; rfl
    rw [if_pos e]
    exact h3
/-- isinstance and except, from what the written part says of two classes -/
theorem kit_sub {K : PySem.W.Frag} {C D : Addr} {b : Bool} (i : PySem.W.isClsIn K D = true) (t : PySem.W.typeIn K (.ref D) = some (.type "type")) (s : PySem.W.subIn K (.ref C) (.ref D) = some b) (r : PySem.W.subIn K (.ref C) (.ref C) = some true) : PySem.W.kitOne K (.ref C) (.ref D) = some b := by
  have h2 : ((PySem.W.clsIn K D).isSome && PySem.W.typeIn K (.ref D) == some (.type "type")) = true := by
    have i' : (PySem.W.clsIn K D).isSome = true := i
    rw [i', t]
    rfl
  show (if _ then _ else _) = _
  by_cases e : (Value.ref C == Value.ref D) = true
  · rw [if_pos e]
    have e' : Value.ref C = Value.ref D := eq_of_beq e
    rw [← e', r] at s
    exact s
  · rw [if_neg e]
    show (if _ then _ else _) = _
    rw [if_pos h2]
    exact s
theorem kit_blt {K : PySem.W.Frag} {C : Addr} {T : String} {b : Bool} (m : PySem.W.kitMeta T = true) (s : PySem.W.subIn K (.ref C) (.type T) = some b) : PySem.W.kitOne K (.ref C) (.type T) = some b := by
  show (if _ then _ else _) = _
  rw [if_neg (by exact Bool.false_ne_true)]
  show (if _ then _ else _) = _
  rw [if_pos m]
  exact s
theorem exm_sub {K : PySem.W.Frag} {C D : Addr} {b : Bool} (i : PySem.W.isClsIn K D = true) (t : PySem.W.typeIn K (.ref D) = some (.type "type")) (e : PySem.W.subIn K (.ref D) (.type "BaseException") = some true) (s : PySem.W.subIn K (.ref C) (.ref D) = some b) : PySem.W.exmOne K (.ref C) (.ref D) = some b := by
  have h2 : ((PySem.W.clsIn K D).isSome && PySem.W.typeIn K (.ref D) == some (.type "type")) = true := by
    have i' : (PySem.W.clsIn K D).isSome = true := i
    rw [i', t]
    rfl
  have h1 : (PySem.W.subIn K (.ref D) (.type "BaseException") == some true) = true := by
    rw [e]
    rfl
  show (if _ then _ else _) = _
  rw [if_pos h1]
  show (if _ then _ else _) = _
  rw [if_pos h2]
  exact s
/-- where the error's own dict stands -/
def DictAt (H : Hp) (d : Option Addr) : Prop := d = none ∨ ∃ (dd : Addr) (fs : List (Str × V)), d = some dd ∧ H dd = some (.xd fs)
theorem inst_of {X : Cx} {pins : List (Addr × Obj)} {σ : L2.St} {H : Hp} {s : Shared} {a D : Addr} {oe : Obj} {d : Option Addr} {pn : List (Addr × Obj)} (I : Inv (X.suite a ((a, oe) :: pn)) pins σ H s) (hz : Zc (.ref D) d oe) (hf : ∃ vs, oe.data = .fields vs) (hd : DictAt H d) :
    ∃ od, PySem.W.InstAt s.heap a oe D od := by
  obtain ⟨hget, _⟩ := I.pin (a, oe) (List.mem_append_left _ List.mem_cons_self)
  obtain ⟨vs, hv⟩ := hf
  have no : PySem.W.notCls oe = true := by unfold PySem.W.notCls; rw [hv]
  rcases hd with rfl | ⟨dd, fs, rfl, hx⟩
  · exact ⟨none, hget, hz.1, no, by rw [hz.2]; trivial⟩
  · have hx : ObjOk X.prog X.w H s.heap dd (.xd fs) := I.hok dd _ hx
    obtain ⟨mA, hns, _⟩ := hx
    obtain ⟨od, ho, _⟩ := lookIn_ns hns
    exact ⟨some od, hget, hz.1, no, by rw [hz.2]; exact ho⟩
/-- isinstance(e, c) -/
def rIsX (K : PySem.W.Frag) (a : Addr) (cls : Value) (d : Option Addr) : List V → Hp → VK → Prop := fun xs H Q => ∃ (D : Addr) (c : V) (cv : Value) (b : Bool), xs = [.ref a, c] ∧ ClsV c cv ∧ cls = .ref D ∧ XCls K D ∧ DictAt H d ∧ PySem.W.kitOne K (.ref D) cv = some b ∧ Q (.bl b) H
/-- isinstance(e, (c, ..)) -/
def rIsXT (K : PySem.W.Frag) (a : Addr) (cls : Value) (d : Option Addr) : List V → Hp → VK → Prop := fun xs H Q => ∃ (D tp : Addr) (cs : List V) (us : List Value) (b : Bool), xs = [.ref a, .ref tp] ∧ H tp = some (.tup cs) ∧ Paired ClsV cs us ∧ cls = .ref D ∧ XCls K D ∧ DictAt H d ∧
  PySem.W.kitAny K (.ref D) us = some b ∧ Q (.bl b) H
section
variable {X : Cx} {a : Addr} {oe : Obj} {cls : Value} {d : Option Addr} {pn : List (Addr × Obj)}
theorem call_isX {K : PySem.W.Frag} (hK : X.K = K) (hz : Zc cls d oe) (hf : ∃ vs, oe.data = .fields vs) : CallR (X.suite a ((a, oe) :: pn)) (.builtin "isinstance") (rIsX K a cls d) := by
  subst hK
  intro pins s σ H xs us Q I r h
  obtain ⟨D, c, cv, b, rfl, k, rfl, T, hd, e, q⟩ := h
  obtain ⟨u1, u2, rfl, r1, r2⟩ := vals2 r
  cases (show u1 = Value.ref a from r1)
  have e2 := k.eq r2
  subst e2
  obtain ⟨od, J⟩ := inst_of I hz hf hd
  exact PySem.W.kia_one T.kit I.kIn J e (fun z => nomatch z) fun tk => ⟨.bl b, H, I.tok tk, rfl, q⟩
theorem call_isXT {K : PySem.W.Frag} (hK : X.K = K) (hz : Zc cls d oe) (hf : ∃ vs, oe.data = .fields vs) : CallR (X.suite a ((a, oe) :: pn)) (.builtin "isinstance") (rIsXT K a cls d) := by
  subst hK
  intro pins s σ H xs us Q I r h
  obtain ⟨D, tp, cs, ws, b, rfl, hT, k, rfl, T, hd, e, q⟩ := h
  obtain ⟨u1, u2, rfl, r1, r2⟩ := vals2 r
  cases (show u1 = Value.ref a from r1)
  cases (show u2 = Value.ref tp from r2)
  obtain ⟨_, its, rv, o, h1, h2, n, h3⟩ := (show ObjOk X.prog X.w H s.heap tp (.tup cs) from I.hok tp _ hT)
  have e3 := ClsV.all k rv
  subst e3
  obtain ⟨oc, od', dt, sl⟩ := o
  simp only at h2 h3
  subst h2 h3
  obtain ⟨od, J⟩ := inst_of I hz hf hd
  exact PySem.W.kia_tup T.kit I.kIn J h1 e (fun z => nomatch z) fun tk => ⟨.bl b, H, I.tok tk, rfl, q⟩
end
end EX
/-! An exception object as a value; a caught error as an argument. -/
namespace EX
open PySem PySem.Spec PyProof.Rows L2
section
variable {X : Cx} {C : Addr} {bmB : List Value} {B newId initId : String}
/-- X() as a value, an own class without an __init__ -/
theorem pe_exc0 {x : Str} {p pos : Pos} (F : ExcBaseFacts B newId initId bmB) (q : PySem.W.excIn X.K C bmB newId = true) (gC : X.mg x = some (.ref C)) (kC : PySem.W.keepIn X.K (.ref C) = true) (hg : Gl X x) (hdb : (x == ("__debug__" : Str)) = false := by decide) :
    PE X (.Call (.Name x p) [] [] pos) (fun _ H Q => ∀ a, H a = none → Q (.ref a) (upd H a (ExO (.ref C) a))) := by
  refine ⟨fun pins s σ H Q I h => ?_⟩
  refine wpAny_Call_Name_kw (ld_glob I hg gC (PySem.W.callWith_K0 I.kIn kC ?_) hdb)
  obtain ⟨bm, N, nm, qn, bs, hdct, sn, sub, ab, col, dd, k0, k1, k2, k3, k5, mN, hC, hN, hni, T⟩ := exc_obj I.kIn q
  refine wpAny_call_exc_subT F T hC hN hni (fun h' e hm => ?_) (Nat.zero_le _)
  have free : H e = none := I.hok.gone hm.new
  obtain ⟨t, there, _, _⟩ := hm.there
  exact ⟨.ref e, _, I.laidN hm.keeps hm.new free (exO_ok there ⟨rfl, rfl⟩ rfl rfl rfl (show 4 < 6 by decide)), rfl, h e free⟩
end
theorem notCls_of {o : Obj} {vs : Array Value} (h : o.data = .fields vs) : PySem.W.notCls o = true := by
  unfold PySem.W.notCls
  rw [h]
/-- isinstance of an exception object that is a value -/
def rIsO (K : PySem.W.Frag) : List V → Hp → VK → Prop := fun xs H Q => ∃ (a D : Addr) (c : V) (cv : Value) (b : Bool), xs = [.ref a, c] ∧ ClsV c cv ∧ H a = some (ExO (.ref D) a) ∧ XCls K D ∧ PySem.W.kitOne K (.ref D) cv = some b ∧ Q (.bl b) H
def rIsOT (K : PySem.W.Frag) : List V → Hp → VK → Prop := fun xs H Q => ∃ (a D tp : Addr) (cs : List V) (us : List Value) (b : Bool), xs = [.ref a, .ref tp] ∧ H tp = some (.tup cs) ∧ Paired ClsV cs us ∧ H a = some (ExO (.ref D) a) ∧ XCls K D ∧ PySem.W.kitAny K (.ref D) us = some b ∧ Q (.bl b) H
section
variable {X : Cx}
theorem inst_O {pins : List (Addr × Obj)} {σ : L2.St} {H : Hp} {s : Shared} {a D : Addr} (I : Inv X pins σ H s) (h : H a = some (ExO (.ref D) a)) : ∃ oe, PySem.W.InstAt s.heap a oe D none := by
  obtain ⟨⟨oe, vs, hget, hz, hd, _⟩, _⟩ := (show ObjOk X.prog X.w H s.heap a (ExO (.ref D) a) from I.hok a _ h)
  exact ⟨oe, hget, hz.1, notCls_of hd, by rw [hz.2]; trivial⟩
theorem call_isO {K : PySem.W.Frag} (hK : X.K = K) : CallR X (.builtin "isinstance") (rIsO K) := by
  subst hK
  intro pins s σ H xs us Q I r h
  obtain ⟨a, D, c, cv, b, rfl, k, ha, T, e, q⟩ := h
  obtain ⟨u1, u2, rfl, r1, r2⟩ := vals2 r
  cases (show u1 = Value.ref a from r1)
  have e2 := k.eq r2
  subst e2
  obtain ⟨oe, J⟩ := inst_O I ha
  exact PySem.W.kia_one T.kit I.kIn J e (fun z => nomatch z) fun tk => ⟨.bl b, H, I.tok tk, rfl, q⟩
theorem call_isOT {K : PySem.W.Frag} (hK : X.K = K) : CallR X (.builtin "isinstance") (rIsOT K) := by
  subst hK
  intro pins s σ H xs us Q I r h
  obtain ⟨a, D, tp, cs, ws, b, rfl, hT, k, ha, T, e, q⟩ := h
  obtain ⟨u1, u2, rfl, r1, r2⟩ := vals2 r
  cases (show u1 = Value.ref a from r1)
  cases (show u2 = Value.ref tp from r2)
  obtain ⟨_, its, rv, o, h1, h2, n, h3⟩ := (show ObjOk X.prog X.w H s.heap tp (.tup cs) from I.hok tp _ hT)
  have e3 := ClsV.all k rv
  subst e3
  obtain ⟨oc, od', dt, sl⟩ := o
  simp only at h2 h3
  subst h2 h3
  obtain ⟨oe, J⟩ := inst_O I ha
  exact PySem.W.kia_tup T.kit I.kIn J h1 e (fun z => nomatch z) fun tk => ⟨.bl b, H, I.tok tk, rfl, q⟩
end
/-! ### isinstance of a pinned error, in any context that bears it -/
def rIsP (K : PySem.W.Frag) (a : Addr) (D : Addr) : List V → Hp → VK → Prop := fun xs H Q => ∃ (c : V) (cv : Value) (b : Bool), xs = [.ref a, c] ∧ ClsV c cv ∧ XCls K D ∧ PySem.W.kitOne K (.ref D) cv = some b ∧ Q (.bl b) H
def rIsPT (K : PySem.W.Frag) (a : Addr) (D : Addr) : List V → Hp → VK → Prop := fun xs H Q => ∃ (tp : Addr) (cs : List V) (us : List Value) (b : Bool), xs = [.ref a, .ref tp] ∧ H tp = some (.tup cs) ∧ Paired ClsV cs us ∧ XCls K D ∧ PySem.W.kitAny K (.ref D) us = some b ∧ Q (.bl b) H
section
variable {X : Cx} {p : Addr × Obj} {D : Addr}
theorem inst_P {pins : List (Addr × Obj)} {σ : L2.St} {H : Hp} {s : Shared} (I : Inv X pins σ H s) (hm : p ∈ X.pn) (hz : Zc (.ref D) none p.2) (hf : ∃ vs, p.2.data = .fields vs) : PySem.W.InstAt s.heap p.1 p.2 D none := by
  obtain ⟨hget, _⟩ := I.pin p (List.mem_append_left _ hm)
  obtain ⟨vs, hv⟩ := hf
  exact ⟨hget, hz.1, notCls_of hv, by rw [hz.2]; trivial⟩
theorem call_isP {K : PySem.W.Frag} (hK : X.K = K) (hm : p ∈ X.pn) (hz : Zc (.ref D) none p.2) (hf : ∃ vs, p.2.data = .fields vs) : CallR X (.builtin "isinstance") (rIsP K p.1 D) := by
  subst hK
  intro pins s σ H xs us Q I r h
  obtain ⟨c, cv, b, rfl, k, T, e, q⟩ := h
  obtain ⟨u1, u2, rfl, r1, r2⟩ := vals2 r
  cases (show u1 = Value.ref p.1 from r1)
  have e2 := k.eq r2
  subst e2
  exact PySem.W.kia_one T.kit I.kIn (inst_P I hm hz hf) e (fun z => nomatch z) fun tk => ⟨.bl b, H, I.tok tk, rfl, q⟩
theorem call_isPT {K : PySem.W.Frag} (hK : X.K = K) (hm : p ∈ X.pn) (hz : Zc (.ref D) none p.2) (hf : ∃ vs, p.2.data = .fields vs) : CallR X (.builtin "isinstance") (rIsPT K p.1 D) := by
  subst hK
  intro pins s σ H xs us Q I r h
  obtain ⟨tp, cs, ws, b, rfl, hT, k, T, e, q⟩ := h
  obtain ⟨u1, u2, rfl, r1, r2⟩ := vals2 r
  cases (show u1 = Value.ref p.1 from r1)
  cases (show u2 = Value.ref tp from r2)
  obtain ⟨_, its, rv, o, h1, h2, n, h3⟩ := (show ObjOk X.prog X.w H s.heap tp (.tup cs) from I.hok tp _ hT)
  have e3 := ClsV.all k rv
  subst e3
  obtain ⟨oc, od', dt, sl⟩ := o
  simp only at h2 h3
  subst h2 h3
  exact PySem.W.kia_tup T.kit I.kIn (inst_P I hm hz hf) h1 e (fun z => nomatch z) fun tk => ⟨.bl b, H, I.tok tk, rfl, q⟩
end
/-! ### a def whose one argument is the error that is handled -/
structure FnE (P : Program) (w : World) (K : PySem.W.Frag) (mg : Str → Option Value) (base : Heap) (k : Nat) (f : Addr) (fd : FuncData) (x : Str) (D : Addr) (v : V) : Prop where
  run : ∀ (A : Around) (outer : List Env) (s : Shared) (H : Hp) (Q : VK) (p : Addr × Obj), L2H.RoomH k A → L2H.Hot1 A p → Zc (.ref D) none p.2 → L2H.PinOk outer H s p → Env0 P w K mg base A outer s H → BindsTo s fd ⟨[.ref p.1], []⟩ [(x, .ref p.1)] → (∀ H', Same H H' → Q v H') →
    codeAny (model P w) A (.call (.ref f) ⟨[.ref p.1], []⟩) (CR CX0 outer P w H s Q (fun _ _ _ => False)) s
def CalE (P : Program) (w : World) (K : PySem.W.Frag) (mg : Str → Option Value) (base : Heap) (k : Nat) (n x : Str) (D : Addr) (v : V) : Prop :=
  ∃ (f : Addr) (fd : FuncData), FnE P w K mg base k f fd x D v ∧ mg n = some (.ref f) ∧ PySem.W.keepIn K (.ref f) = true ∧ Binds K fd [x] []
section
variable {P : Program} {w : World} {K : PySem.W.Frag} {mg : Str → Option Value} {base : Heap} {x n qual : Str} {st : Stmt} {f D : Addr} {fd : FuncData} {N : List Str} {k : Nat} {v : V}
/-- such a def, by its body -/
theorem okE (F : Fun K n qual st f fd) (S : FnScope N [x] (defScope st))
    (body : ∀ (cdv : Value) (A : Around) (outer : List Env) (s : Shared) (H : Hp) (Q : VK) (p : Addr × Obj), L2H.RoomH k (A.deeper (envOfC qual (defScope st) s.heap.objs.size f cdv)) → Zc (.ref D) none p.2 → (∃ vs, p.2.data = .fields vs) → (∀ H', Same H H' → Q v H') →
      ∃ t, PSs (L2H.cxH CX0 P w K mg base N qual (defScope st) f cdv A outer s H (fun _ _ _ => False) p).nox (defBody st) t ∧ t { nx := fun _ H' => Q .non H', rt := Q } (start N [.ref p.1]) H) : FnE P w K mg base (k + 1) f fd x D v := by
  obtain ⟨oc, od, kV, doc, pm, an, cdv, ct, osl, rfl, lk, hcd⟩ := F.ex
  refine ⟨fun A outer s H Q p hr hot hz pin e0 hb q => ?_⟩
  have there : ∀ b o, base.get? b = some o → s.heap.get? b = some o := fun b o e => (e0.bs b o e).1
  have kin : K.In s.heap := e0.mod.kin.keeps there
  have lims := e0.mod.nolimit.keeps there
  have kinds : ∀ y ∈ [(x, Value.ref p.1)], (defScope st).names.lookup y.1 = some .local ∨
      ((defScope st).names.lookup y.1 = some .cell ∧ ((cellsFrom (s.heap.objs.size + 1) (defScope st).names []).lookup y.1).isSome = true) := fun y hy => by
    rw [List.mem_singleton.mp hy]
    exact (S.par x List.mem_cons_self).imp id fun q => ⟨q, PySem.W.cellsFrom_some _ _ _ (.inl q)⟩
  refine codeAny_call_function hr.depth (kin _ _ lk) rfl S.co S.gen rfl
    (PySem.W.codeRec_of kin hcd) (hb _ _ _ _ ?_)
  refine wpAny_newFunctionEnv_cells S.kind kinds fun env he s1 y => ?_
  subst he
  refine ⟨lims.keeps y.toInCall.keep, codeAny_func ?_⟩
  obtain ⟨t, ht, ht2⟩ := body cdv A outer s H Q p (hr.deeper _) hz (hot.2.elim fun a h => ⟨a, h.1⟩) q
  have I := L2H.inv_startH (CX := CX0) (us := [.ref p.1]) (vs := [V.ref p.1]) (E := fun _ _ _ => False) (cd := cdv) S pin e0 rfl (.cons rfl .nil) y
  refine wpAny_mono (ht.nox.run [] s1 (L2.start N [V.ref p.1]) H _ I ht2)
    (fun fl s' hs => ?_) (fun e s' hs => hs)
  match fl, hs with
  | .ret u, ⟨v, σ', H', J, rv, q⟩ => exact ⟨v, H', J.os, J.bare, J.base, J.hok, rv, q⟩
  | .next, ⟨σ', H', J, q⟩ => exact ⟨V.non, H', J.os, J.bare, J.base, J.hok, rfl, q⟩
  | .brk, ⟨_, _, _, q⟩ => exact q.elim
  | .cont, ⟨_, _, _, q⟩ => exact q.elim
end
/-- f(e), e the error that the suite holds -/
def tCallE (D : Addr) (v : V) (a : Addr) (cls : Value) (d : Option Addr) (te : TE) : TE := fun σ H Q => te σ H fun y H1 => y = .ref a ∧ cls = .ref D ∧ d = none ∧ ∀ H', Same H1 H' → Q v H'
theorem pe_callE {X : Cx} {k : Nat} {a D : Addr} {oe : Obj} {cls : Value} {d : Option Addr} {pn : List (Addr × Obj)} {n x : Str} {v : V} {q pos : Pos} {e : Expr} {te : TE} (C : CalE X.prog X.w X.K X.mg X.base k n x D v) (hr : L2H.RoomH k (X.suite a ((a, oe) :: pn)).A) (hz : L2N.Zn cls d oe) (hf : ∃ vs, oe.data = .fields vs)
    (hg : Gl X n) (ha : PE (X.suite a ((a, oe) :: pn)) e te) (hdb : (n == ("__debug__" : Str)) = false := by decide) (he : starEach [e] X.env = [(false, eval e X.env)] := by rfl) (hpl : (backTo pos (starEach ([] : List Expr) X.env)).any (·.1) = false := by rfl) :
    PE (X.suite a ((a, oe) :: pn)) (.Call (.Name n q) [e] [] pos) (tCallE D v a cls d te) := by
  obtain ⟨f, fd, G, hm, hk, hb⟩ := C
  refine ⟨fun pins s σ H Q I h => ?_⟩
  refine wpAny_Call_Name_kw (ld_glob I hg hm ?_ hdb)
  refine PySem.W.callWith_K (h₀ := X.base) I.ok.mod.kin hk ?_ he hpl
  refine thn ((pa_cons (hs := he) ha pa_nil).run pos pins s σ H (fun ys H1 => match ys with | [y] => y = V.ref a ∧ cls = .ref D ∧ d = none ∧ ∀ H', Same H1 H' → Q v H' | _ => False) I h) fun us s1 hh => ?_
  obtain ⟨ys, H1, I1, r, q⟩ := hh
  refine ⟨I1.kIn, ?_⟩
  match ys, us, r, q with
  | [y], [u], r, q1 =>
    obtain ⟨rfl, rfl, rfl, q2⟩ := q1
    obtain rfl : u = Value.ref a := by
      cases r with
      | cons r0 _ => exact r0
    obtain ⟨z1, z2, z3, z4, z5⟩ := I1.pin (a, oe) (List.mem_append_left _ List.mem_cons_self)
    obtain ⟨vs, ev⟩ := id hf
    have pin : L2H.PinOk X.stack H1 s1 (a, oe) := ⟨z1, z2, fun hmem => (List.mem_cons.mp (I1.stkSub a hmem)).elim z3 z4, z5⟩
    have run := G.run (X.suite a ((a, oe) :: pn)).A X.stack s1 H1 Q (a, oe) hr ⟨rfl, vs, ev, hz.2.2 vs ev⟩ hz.zc pin I1.env0 (hb s1 [.ref a] I1.kIn rfl) q2
    refine wpAny_call (codeAny_mono run fun r s' hq => ?_)
    match r, hq with
    | .ok (.ret u), hq => exact I1.after hq
end EX
set_option maxHeartbeats 4000000
/-! Objects of one's own classes: len(o), iter(tuple) in __iter__, a walk over o, o == y with any answer. -/
namespace KO
open PySem PySem.Spec PyProof.Rows L2
/-! ### a promise that knows where the call begins -/
structure FnS (P : Program) (w : World) (K : PySem.W.Frag) (mg : Str → Option Value) (base : Heap) (CX : CXT) (k : Nat) (f : Addr) (fd : FuncData) (ps : List Str) (sp : Nat → Sp) : Prop where
  len : ∀ n vs H Q E, sp n vs H Q E → vs.length = ps.length
  run : ∀ (A : Around) (outer : List Env) (s : Shared) (H : Hp) (args : Args) (us : List Value) (vs : List V) (Q : VK) (E : XK), Room k A → Env0 P w K mg base A outer s H → BindsTo s fd args (ps.zip us) → Vals vs us → sp s.heap.objs.size vs H Q E →
    codeAny (model P w) A (.call (.ref f) args) (CR CX outer P w H s Q E) s
theorem fnS_of {P : Program} {w : World} {K : PySem.W.Frag} {mg : Str → Option Value} {base : Heap} {k : Nat} {f : Addr} {x qual : Str} {st : Stmt} {fd : FuncData} {N ps : List Str} {sp : Nat → Sp} (F : Fun K x qual st f fd) (S : FnScope N ps (defScope st)) (len : ∀ n vs H Q E, sp n vs H Q E → vs.length = ps.length)
    (hbody : ∀ (cdv : Value) (A : Around) (outer : List Env) (s : Shared) (H : Hp) (vs : List V) (Q : VK) (E : XK), Room k (A.deeper (envOfC qual (defScope st) s.heap.objs.size f cdv)) → sp s.heap.objs.size vs H Q E →
      ∃ t, PSs (cxOf CX0 P w K mg base N qual (defScope st) f cdv A outer s H E).nox (defBody st) t ∧ t { nx := fun _ H' => Q .non H', rt := Q } (start N vs) H) : FnS P w K mg base CX0 (k + 1) f fd ps sp := by
  obtain ⟨oc, od, kV, doc, pm, an, cdv, ct, osl, rfl, lk, hcd⟩ := F.ex
  refine ⟨len, fun A outer s H args us vs Q E hr e0 hb r hsp => ?_⟩
  have hl := len _ _ _ _ _ hsp
  have KX : K.In s.heap := e0.mod.kin.keeps fun b o e => (e0.bs b o e).1
  have lim : s.heap.NoLimit := e0.mod.nolimit.keeps fun b o e => (e0.bs b o e).1
  have hkind : ∀ y ∈ ps.zip us, (defScope st).names.lookup y.1 = some .local ∨ ((defScope st).names.lookup y.1 = some .cell ∧ ((cellsFrom (s.heap.objs.size + 1) (defScope st).names []).lookup y.1).isSome = true) := fun ⟨n, v⟩ hy => by
    rcases S.par n (List.of_mem_zip hy).1 with q | q
    · exact .inl q
    · exact .inr ⟨q, PySem.W.cellsFrom_some _ _ _ (.inl q)⟩
  refine codeAny_call_function hr.depth (KX _ _ lk) rfl S.co S.gen rfl (PySem.W.codeRec_of KX hcd) (hb _ _ _ _ ?_)
  refine wpAny_newFunctionEnv_cells S.kind hkind fun env he s1 x => ?_
  subst he
  refine ⟨lim.keeps x.toInCall.keep, codeAny_func ?_⟩
  obtain ⟨t, ht', hq⟩ := hbody cdv A outer s H vs Q E (hr.deeper _) hsp
  have ht : PSs (cxOf CX0 P w K mg base N qual (defScope st) f cdv A outer s H E) (defBody st) t := ht'.nox
  have I : Inv (cxOf CX0 P w K mg base N qual (defScope st) f cdv A outer s H E) [] (start N vs) H s1 := inv_start S hr.hd e0 hl r x
  refine wpAny_mono (ht.run [] s1 (start N vs) H _ I hq) (fun fl s' hs => ?_) fun e s' hs => hs
  have fin : ∀ {σ' : L2.St} {H' : Hp} {v : V} {u : Value}, Inv (cxOf CX0 P w K mg base N qual (defScope st) f cdv A outer s H E) [] σ' H' s' → RelV v u → Q v H' → CE outer P w H s Q u s' :=
    fun {σ' H' v u} J rv q => ⟨v, H', J.os, J.bare, J.base, J.hok, rv, q⟩
  cases fl with
  | ret u =>
    obtain ⟨v, σ', H', J, rv, q⟩ := hs
    exact fin J rv q
  | next =>
    obtain ⟨σ', H', J, q⟩ := hs
    exact fin (v := V.non) (u := Value.none) J rfl q
  | brk =>
    obtain ⟨_, _, _, q⟩ := hs
    exact False.elim q
  | cont =>
    obtain ⟨_, _, _, q⟩ := hs
    exact False.elim q
/-! ### an iterator over a tuple, as a value -/
/-- at it an iterator over the tuple at t, not yet begun -/
def ItT (t it : Addr) : HO := .ext fun h => h.IsTupleIter it t 0
section
variable {X : Cx} {pins : List (Addr × Obj)} {σ : L2.St} {H : Hp} {s : Shared}
theorem itT_ok {P : Program} {w : World} {H : Hp} {h : Heap} {t it : Addr} (e : h.IsTupleIter it t 0) : ObjOk P w H h it (ItT t it) := ⟨e, let ⟨o, ho, _⟩ := e; ⟨o, ho⟩, fun h1 h2 q k => q.at k⟩
/-- iter(t), t a tuple: the new object lies behind all that was there when the def began -/
def rIterT (K : PySem.W.Frag) (n : Nat) : List V → Hp → VK → Prop := fun xs H Q => ∃ (t : Addr) (zs : List V), xs = [.ref t] ∧ SqT K H t zs ∧ ∀ it, H it = none → n ≤ it → Q (.ref it) (upd H it (ItT t it))
theorem call_iterT : CallR X (.builtin "iter") (rIterT X.K X.s_0.heap.objs.size) := by
  intro pins s σ H xs us Q I r h
  obtain ⟨t, zs, rfl, hq, q⟩ := h
  obtain rfl := Vals.ref1 r
  obtain ⟨its, rv, p, hz⟩ := I.tuple hq
  refine Calls.call_function_entry (by decide +kernel) (by decide +kernel) PySem.W.kdk_entry_iter (PySem.W.kdk_args_iter _) ?_
  unfold Builtin.«iter»
  refine wpAny_bind (m := someArgs "iter" 1 2 _) (wpAny_of_eq (a := [Value.ref t]) (by first | rfl | kernel_rfl!) ?_)
  show wpAny _ _ (pyIter (.ref t) >>= _) _ _ _
  refine wpAny_bind (wpAny_pyIter_tuple (show s.heap.IsTuple t its.toArray from p) ?_)
  refine wpAny_pure ⟨_, rfl, ?_⟩
  exact ⟨.ref s.heap.objs.size, _, I.laid (t' := s.toks) (fun b u e => Heap.get?_push_of_some _ e) (Nat.le_refl _) (itT_ok ⟨_, Heap.get?_push_size _ rfl, rfl, rfl⟩), rfl, q _ (I.hok.fresh (Nat.le_refl _)) I.sz⟩
/-- an object that came in this def may be forgotten -/
theorem forget {a : Addr} {φ : Heap → Prop} (I : Inv X pins σ (upd H a (.ext φ)) s) (hn : H a = none) (h0 : X.s_0.heap.objs.size ≤ a) : Inv X pins σ H s := by
  have ne : ∀ {b}, (upd H a (.ext φ)) b = none → H b = none := fun {b} e => by
    by_cases z : b = a
    · rw [z]
      exact hn
    · rw [upd_ne z] at e
      exact e
  have old : ∀ {b o}, X.s_0.heap.get? b = some o → b ≠ a := fun {b o} e z => by
    have := Heap.lt_size e
    rw [z] at this
    exact absurd (Nat.lt_of_lt_of_le this h0) (Nat.lt_irrefl _)
  have some_ : ∀ {b o}, (upd H a (.ext φ)) b = some o → (∀ ψ, o ≠ .ext ψ) → H b = some o := fun {b o} e z => by
    by_cases y : b = a
    · rw [y, upd_same] at e
      cases e
      exact absurd rfl (z _)
    · rw [upd_ne y] at e
      exact e
  refine ⟨I.ok, I.os, I.bare, ⟨I.base.keep, I.base.slot, fun b o e n hx => ne (I.base.free b o e n hx), I.base.there, fun b xs e => ?_, fun b o u e => ?_, fun b ps e => ?_⟩, I.loc, I.cell, ne I.free, fun x c e => ne (I.freeC x c e), fun p hp => ?_, fun b u e => ?_, I.len⟩
  · exact some_ (I.base.tups b xs e) fun ψ z => by cases z
  · exact some_ (I.base.frzs b o u e) fun ψ z => by cases z
  · obtain ⟨m, q⟩ := I.base.tbls b ps e
    exact ⟨m, some_ q fun ψ z => by cases z⟩
  · obtain ⟨e, n, r⟩ := I.pin p hp
    exact ⟨e, ne n, r⟩
  · have hb : b ≠ a := fun z => by
      rw [z, hn] at e
      cases e
    refine (I.hok b u (by rw [upd_ne hb]; exact e)).stay (fun c v hc q => q) (fun c q => ?_) fun c xs q => ?_
    · exact some_ q fun ψ z => by cases z
    · exact some_ q fun ψ z => by cases z
/-! ### a walk over an object whose __iter__ gives an iterator over one of its tuples -/
structure ItC (K : PySem.W.Frag) (C f : Addr) : Prop where
  at_ : PySem.W.findIn K (.ref C) "__iter__" = some (some (.ref f))
  fn : PySem.W.isFn K (.ref f) = true
/-- what such an __iter__ promises -/
def spIter (K : PySem.W.Frag) (C : Addr) (fld : Str) : Nat → Sp := fun n vs H Q _ => ∃ a dx fs t xs, vs = [.ref a] ∧ H a = some (.ins C dx fs) ∧ fs.lookup fld = some (.ref t) ∧ SqT K H t xs ∧ ∀ it, H it = none → n ≤ it → Q (.ref it) (upd H it (ItT t it))
def iOwn (i : Nat) (K : PySem.W.Frag) (C : Addr) (fld : Str) : TI := fun σ H R => ∃ a dx fs t xs, σ[i]? = some (some (.ref a)) ∧ H a = some (.ins C dx fs) ∧ fs.lookup fld = some (.ref t) ∧ SqT K H t xs ∧ R (Itt K t) H
theorem pi_own {i k : Nat} {x fld : Str} {C f : Addr} {fd : FuncData} {tg : Expr} {pos : Pos} (F : FnS X.prog X.w X.K X.mg X.base CX0 k f fd ["self"] (spIter X.K C fld)) (L : ItC X.K C f) (hr : Room k X.A) (hb : Binds X.K fd ["self"] [])
    (hN : X.N[i]? = some x) (hv : Vis X.env.scope x) (hdb : (x == ("__debug__" : Str)) = false := by decide) (hcd : (x == ("__classdict__" : Str)) = false := by decide) : PI X tg (.Name x pos) (iOwn i X.K C fld) := by
  refine ⟨fun pins s σ H R I h => ?_⟩
  obtain ⟨a, dx, fs, t, xs, hs, ha, hf, ht, q⟩ := h
  refine thn ((pe_var (pos := pos) hN hv hdb hcd).run pins s σ H (fun v H1 => v = .ref a ∧ H1 = H) I ⟨.ref a, hs, rfl, rfl⟩) fun u s1 ⟨v, H1, I1, r1, q1⟩ => ?_
  obtain ⟨rfl, rfl⟩ := q1
  cases r1
  obtain ⟨mA, J, _⟩ := ins_get I1.hok ha
  obtain ⟨od, J, _⟩ := J.look
  obtain ⟨m, hF⟩ := I1.fr
  refine PySem.W.owit_iter hF I1.ok.mod.kin J L.at_ L.fn ?_
  have hsp : spIter X.K C fld s1.heap.objs.size [.ref a] H1 (fun v H' => ∃ it, v = .ref it ∧ H1 it = none ∧ s1.heap.objs.size ≤ it ∧ H' = upd H1 it (ItT t it)) (fun _ _ _ => False) := ⟨a, dx, fs, t, xs, rfl, ha, hf, ht, fun it h1 h2 => ⟨it, rfl, h1, h2, rfl⟩⟩
  have r2 : Vals [V.ref a] [Value.ref a] := .cons rfl .nil
  refine wpAny_call (codeAny_mono (F.run X.A X.stack s1 H1 ⟨[.ref a], []⟩ [.ref a] [.ref a] _ _ hr I1.env0 (by
    have := hb s1 [.ref a] I1.kIn rfl
    simpa using this) r2 hsp) fun r s' hq => ?_)
  cases r with
  | error e => exact pass0 pins σ H1 s1 e s' I1 hq
  | ok fl =>
    cases fl with
    | next => exact False.elim hq
    | brk => exact False.elim hq
    | cont => exact False.elim hq
    | ret u =>
      obtain ⟨v, H', I', rv, it, rfl, hn, hsz, rfl⟩ := I1.after hq
      cases rv
      have hit : s'.heap.IsTupleIter it t 0 := (I'.hok it _ upd_same).1
      unfold PySem.W.OwitIt
      refine wpAny_specialOf (name := Str.ofString "__next__") hit.typeIs PySem.F.slot_tuple_iterator_next.lookup ?_
      exact ⟨it, [it], _, _, H1, rfl, forget I' hn (Nat.le_trans I1.sz hsz), turn_tuple t it, hit, fun b hb => by
        have e : b = it := by simpa using hb
        subst e
        exact I1.fpOk hsz hn, q⟩
/-! ### len(o) -/
structure LnC (K : PySem.W.Frag) (C f : Addr) : Prop where
  at_ : PySem.W.findIn K (.ref C) "__len__" = some (some (.ref f))
  fn : PySem.W.isFn K (.ref f) = true
def rLen (C : Addr) (sp : Sp) : List V → Hp → VK → Prop := fun xs H Q => ∃ a dx fs, xs = [.ref a] ∧ H a = some (.ins C dx fs) ∧ sp [.ref a] H (fun v H' => ∃ n : Nat, v = .int n ∧ n < 2 ^ 62 ∧ Q (.int n) H') (fun _ _ _ => False)
theorem call_lenOwn {k : Nat} {C f : Addr} {fd : FuncData} {sp : Sp} (F : FnOk X.prog X.w X.K X.mg X.base CX0 k f fd ["self"] sp) (L : LnC X.K C f) (hr : Room (k + 1) X.A) (hb : Binds X.K fd ["self"] []) : CallR X (.builtin "len") (rLen C sp) := by
  intro pins s σ H xs us Q I r h
  obtain ⟨a, dx, fs, rfl, ha, hsp⟩ := h
  obtain rfl := Vals.ref1 r
  have sb : Sub X k X.A.in1 := Sub.in1 (⟨hr, rfl⟩ : Sub X (k + 1) X.A)
  obtain ⟨mA, J, _⟩ := ins_get I.hok ha
  obtain ⟨od, J, _⟩ := J.look
  refine Calls.call_function_entry kind_len plain_len entry_len (args_len1 _) ?_
  unfold Builtin.«len»
  refine wpAny_bind (m := oneArg "len" _) (wpAny_pure ?_)
  have e0 : Env0 X.prog X.w X.K X.mg X.base X.A.in1 X.stack s H := by
    have e := I.env0
    exact ⟨by rw [sb.fr]; exact e.frames, e.mod, e.bs, e.bsz, e.funs, e.frf, e.hok, e.bare⟩
  have r2 : Vals [V.ref a] [Value.ref a] := .cons rfl .nil
  refine wpAny_bind (m := callSpecial? (.ref a) (PySem.Str.ofString "__len__")) (PySem.W.special_fn I.kIn J L.at_ (beq_iff_eq.mp L.fn) ?_)
  refine wpAny_call (codeAny_mono (F.run X.A.in1 X.stack s H ⟨[.ref a], []⟩ [.ref a] [.ref a] _ _ sb.room e0 (by
    have := hb s [.ref a] I.kIn rfl
    simpa using this) r2 hsp) fun r s' hq => ?_)
  cases r with
  | error e => exact pass0 pins σ H s e s' I hq
  | ok fl =>
    cases fl with
    | next => exact False.elim hq
    | brk => exact False.elim hq
    | cont => exact False.elim hq
    | ret u =>
      obtain ⟨v, H', I', rv, n, rfl, hn, q⟩ := I.after hq
      obtain ⟨tk, rfl⟩ := rv
      refine wpAny_bind (wpAny_holding (wpAny_pure ?_))
      refine wpAny_bind (wpAny_letGo ?_)
      show wpAny _ _ (if ((n : Nat) : Int) < 0 then _ else _) _ _ _
      rw [if_neg (by omega)]
      show wpAny _ _ (if ((n : Nat) : Int) ≥ 2 ^ 63 then _ else _) _ _ _
      rw [if_neg (by omega)]
      exact wpAny_bind (wpAny_mkInt (wpAny_pure ⟨_, rfl, .int n, H', I'.tok _, ⟨_, rfl⟩, q⟩))
/-! ### o == y by the own __eq__, with any answer -/
/-- o of the class at C, y of a type that is no class below C -/
def rOEq (K : PySem.W.Frag) (C : Addr) (sp : Sp) : R2 := fun x y H Q => ∃ a dx fs tb, x = .ref a ∧ H a = some (.ins C dx fs) ∧ TyX K H y tb ∧ PySem.W.notFirst K C tb = true ∧ sp [x, y] H (fun v H' => (∃ b, v = .bl b) ∧ Q v H') (fun _ _ _ => False)
theorem op_oeq {k : Nat} {C f : Addr} {fd : FuncData} {sp : Sp} {ps : List Str}
    (F : FnOk X.prog X.w X.K X.mg X.base CX0 k f fd ps sp) (hs : PySem.W.findIn X.K (.ref C) "__eq__" = some (some (.ref f))) (hf : PySem.W.isFn X.K (.ref f) = true) (hr : Room k X.A) (hb : Binds X.K fd ps []) : OpR X (compareOp .Eq) (rOEq X.K C sp) := by
  intro pins s σ H x y v u Q I rx ry hq
  obtain ⟨a, dx, fs, tb, rfl, ha, hy, hnf, hsp⟩ := hq
  cases rx
  show wpAny (model X.prog X.w) X.A (richCompare .Eq (.ref a) u) (EP X pins σ Q) X.xe s
  obtain ⟨mA, J, _⟩ := ins_get I.hok ha
  obtain ⟨od, J, _⟩ := J.look
  obtain ⟨m, hF⟩ := I.fr
  refine PySem.W.cmp_K (op := .Eq) (tb := tb) hr.units0 hF I.ok.mod.kin J (let ⟨_, kx, p, _⟩ := kit_of I ry hy; kx.ty _ _ I.kIn p) hnf hs hf ?_
  have hl := F.len _ _ _ _ hsp
  have r2 : Vals [V.ref a, y] [Value.ref a, u] := .cons rfl (.cons ry .nil)
  refine wpAny_call (codeAny_mono (F.run X.A X.stack s H ⟨[.ref a, u], []⟩ [.ref a, u] [.ref a, y] _ _ hr I.env0 (by
    have := hb s [.ref a, u] I.kIn (by simpa using hl)
    simpa using this) r2 hsp) fun r s' hq => ?_)
  cases r with
  | error e => exact pass0 pins σ H s e s' I hq
  | ok fl =>
    cases fl with
    | next => exact False.elim hq
    | brk => exact False.elim hq
    | cont => exact False.elim hq
    | ret w =>
      obtain ⟨z, H', I', rz, ⟨b, rfl⟩, q⟩ := I.after hq
      cases rz
      exact ⟨.bl b, H', I', rfl, q⟩
/-! ### o.f(e), where the field f holds an object that may be called -/
theorem getmeth_fld {f : Str} {v : V} {a C dx : Addr} {fs : List (Str × V)} {A : Around} {E : Value → Shared → Prop} {pl : Sem Bool} {Q : Value × List Value → Shared → Prop} (I : Inv X pins σ H s) (e : H a = some (.ins C dx fs)) (c : Cls X.K C) (n : NoAttr X.K C f) (l : fs.lookup f = some v)
    (h : ∀ u s', Inv X pins σ H s' → RelV v u → Q (u, []) s') : wpAny (model X.prog X.w) A (getMethod (.ref a) f pl) Q E s := by
  obtain ⟨mA, O, _⟩ := ins_get I.hok e
  obtain ⟨od, J, _⟩ := O.look
  have hcan := PySem.F.canon_object_ga
  obtain ⟨h1, h2⟩ := PySem.W.plainGet_of (c.get f)
  unfold getMethod specialOf
  refine wpAny_bind (wpAny_bind (J.type.here ((PySem.W.looks_findIn I.kIn h1).here ?_)))
  dsimp only
  rw [hcan, if_neg (by decide)]
  refine wpAny_bind (wpAny_bind (J.type.here ((PySem.W.looks_findIn I.kIn h2).here ?_)))
  refine wpAny_bind (wpAny_bind (J.type.here ((PySem.W.looks_findIn I.kIn n).here ?_)))
  exact wpAny_bind (getattr_ok I e c n l fun u s' I' ru => wpAny_pure (h u s' I' ru))
def tFldCall (C : Addr) (f : Str) (D : Addr) (sp : Sp) (E : XK) (ta : TE) (t : TA) : TE := fun σ H Q => ta σ H fun x H1 => ∃ a dx fs b dy gs, x = .ref a ∧ H1 a = some (.ins C dx fs) ∧ fs.lookup f = some (.ref b) ∧ t σ H1 fun vs H2 => H2 b = some (.ins D dy gs) ∧ sp (.ref b :: vs) H2 Q E
theorem pe_fldCall {CX : CXT} {k : Nat} {fn C D : Addr} {fd : FuncData} {ps : List Str} {sp : Sp} {E : XK} {o : Expr} {m : Str} {apos pos : Pos} {e : Expr} {es : List Expr} {ta : TE} {t : TA} {pl : Sem Bool} (he : PE X o ta) (c : Cls X.K C) (n : NoAttr X.K C m)
    (F : FnOk X.prog X.w X.K X.mg X.base CX k fn fd ps sp) (L : WC.Cl X.K D fn) (hr : Room k X.A) (hb : Binds X.K fd ps []) (hx : Passes CX X E) (ha : PA X (e :: es) t)
    (hst : starEach (e :: es) X.env = (false, eval e X.env) :: starEach es X.env := by rfl) (hpl : (backTo pos (starEach es X.env)).any (·.1) = false := by rfl)
    (ht : eval (.Call (.Attribute o m apos) (e :: es) [] pos) X.env = (do
      let ov ← eval o X.env
      standAt apos.atName
      let (f, first) ← holding [ov] (getMethod ov m pl)
      callWith pos f first (backTo pos (starEach (e :: es) X.env)) (backToKw pos (keywordEach [] X.env))) := by rfl) :
    PE X (.Call (.Attribute o m apos) (e :: es) [] pos) (tFldCall C m D sp E ta t) := by
  refine ⟨fun pins s σ H Q I h => ?_⟩
  refine PySem.W.methodCall_KW (pl := pl) (thn (he.run pins s σ H _ I h) fun u s1 ⟨x, H1, I1, rx, a, dx, fs, b, dy, gs, ex, ea, l, q⟩ => ?_) ht
  subst ex
  obtain rfl : u = Value.ref a := rx
  refine getmeth_fld I1 ea c n l fun u2 s2 I2 ru2 => ?_
  obtain rfl : u2 = Value.ref b := ru2
  refine WC.callWith_inst (o := PySem.W.instObj D dy) rfl (thn (ha.run pos pins s2 σ _ _ I2 q) fun us s3 ⟨vs, H3, I3, r, q3⟩ => ?_) hst hpl
  obtain ⟨q1, q2⟩ := q3
  obtain ⟨mA, O, _⟩ := ins_get I3.hok q1
  obtain ⟨od, J, _⟩ := O.look
  refine ⟨O.obj, ?_⟩
  have r3 : Vals (.ref b :: vs) (.ref b :: us) := .cons rfl r
  have hl : ((.ref b :: us) ++ ([] : List Value)).length = ps.length := by rw [List.append_nil, ← r3.length]; exact F.len _ _ _ _ q2
  have run := F.run X.A X.stack s3 H3 ⟨.ref b :: us, []⟩ (.ref b :: us) (.ref b :: vs) Q E hr I3.env0 (by have := hb s3 (.ref b :: us) I3.kIn hl; rw [List.append_nil] at this; exact this) r3 q2
  refine wpAny_call (codeAny_mono (PySem.W.kco_code (a := ⟨us, []⟩) I3.kIn J rfl L.at_ L.fn L.fi run) fun r s' hq => ?_)
  cases r with
  | error e => exact hx pins σ H3 s3 e s' I3 hq
  | ok fl =>
    cases fl with
    | ret u => exact I3.after hq
    | next => exact False.elim hq
    | brk => exact False.elim hq
    | cont => exact False.elim hq
/-! ### o + y by the own __add__, both of one class -/
def rOAdd (C : Addr) (sp : Sp) (E : XK) : R2 := fun x y H Q => ∃ a dx fs b dy gs, x = .ref a ∧ H a = some (.ins C dx fs) ∧ y = .ref b ∧ H b = some (.ins C dy gs) ∧ sp [x, y] H (fun v H' => (∃ p, v = .ref p) ∧ Q v H') E
theorem op_oadd {CX : CXT} {k : Nat} {C f : Addr} {fd : FuncData} {sp : Sp} {ps : List Str} {E : XK} (F : FnOk X.prog X.w X.K X.mg X.base CX k f fd ps sp) (hc : PySem.W.selfFirst X.K C = true) (hs : PySem.W.findIn X.K (.ref C) "__add__" = some (some (.ref f))) (hf : PySem.W.isFn X.K (.ref f) = true)
    (hr : Room k X.A) (hb : Binds X.K fd ps []) (hx : Passes CX X E) : OpR X (binaryOp .Add) (rOAdd C sp E) := by
  intro pins s σ H x y v u Q I rx ry hq
  obtain ⟨a, dx, fs, b, dy, gs, rfl, ha, rfl, hb2, hsp⟩ := hq
  cases rx
  cases ry
  obtain ⟨mA, J, _⟩ := ins_get I.hok ha
  obtain ⟨od, J, _⟩ := J.look
  obtain ⟨mB, J', _⟩ := ins_get I.hok hb2
  obtain ⟨od', J', _⟩ := J'.look
  obtain ⟨m, hF⟩ := I.fr
  refine PySem.W.binop_K (op := .Add) hF I.ok.mod.kin J J'.type hc hs hf ?_
  have hl := F.len _ _ _ _ hsp
  have r2 : Vals [V.ref a, V.ref b] [Value.ref a, Value.ref b] := .cons rfl (.cons rfl .nil)
  refine wpAny_call (codeAny_mono (F.run X.A X.stack s H ⟨[.ref a, .ref b], []⟩ [.ref a, .ref b] [.ref a, .ref b] _ E hr I.env0 (by
    have := hb s [.ref a, .ref b] I.kIn (by simpa using hl)
    simpa using this) r2 hsp) fun r s' hq => ?_)
  cases r with
  | error e => exact hx pins σ H s e s' I hq
  | ok fl =>
    cases fl with
    | next => exact False.elim hq
    | brk => exact False.elim hq
    | cont => exact False.elim hq
    | ret w =>
      obtain ⟨z, H', I', rz, ⟨p, rfl⟩, q⟩ := I.after hq
      cases rz
      exact ⟨.ref p, H', I', rfl, q⟩
end
end KO
/-! What the walks share. -/
namespace P09
open PySem PySem.Spec PyProof.Rows L2 SX EX WK
def top (i : Nat) : Stmt := PySem.Challenge.pw_wholecables_k09_seen_least.main.body.getD i (.Pass ⟨0, 0, 0, 0⟩)
def clsBody : Stmt → List Stmt
  | .ClassDef _ _ _ b _ _ _ _ _ _ _ => b
  | _ => []
def mth (i j : Nat) : Stmt := (clsBody (top i)).getD j (.Pass ⟨0, 0, 0, 0⟩)
/-- a def as its callers see it -/
def Cal (P : Program) (w : World) (K : PySem.W.Frag) (mg : Str → Option Value) (base : Heap) (k : Nat) (x : Str) (ps : List Str) (sp : Sp) : Prop :=
  ∃ (f : Addr) (fd : FuncData), FnOk P w K mg base CX0 k f fd ps sp ∧ mg x = some (.ref f) ∧ PySem.W.keepIn K (.ref f) = true ∧ Binds K fd ps []
theorem pe_cal {X : Cx} {k : Nat} {x : Str} {ps : List Str} {sp : Sp} {p pos : Pos} {e : Expr} {es : List Expr} {t : TA} (C : Cal X.prog X.w X.K X.mg X.base k x ps sp) (hr : Room k X.A) (hg : Gl X x) (ha : PA X (e :: es) t)
    (hdb : (x == ("__debug__" : Str)) = false := by decide) (he : starEach (e :: es) X.env = (false, eval e X.env) :: starEach es X.env := by rfl) (hpl : (backTo pos (starEach es X.env)).any (·.1) = false := by rfl) :
    PE X (.Call (.Name x p) (e :: es) [] pos) (tCall sp [] E0 t) := by
  obtain ⟨f, fd, G, m, kp, b⟩ := C
  exact pe_call G hr hg m kp b .nil pass0 ha hdb he hpl
/-- a class as its makers see it: n values and keywords ks -/
def CalK (P : Program) (w : World) (K : PySem.W.Frag) (mg : Str → Option Value) (base : Heap) (k : Nat) (x : Str) (C : Addr) (n : Nat) (ks : List Str) (sp : Sp) : Prop :=
  ∃ (f : Addr) (fd : FuncData) (ps : List Str) (g : List Value → List Value → List Value), Mk K C f ∧ FnOk P w K mg base CX0 k f fd ps sp ∧ mg x = some (.ref C) ∧ KBn K fd ps (n + 1) ks g (fun vs zs => vs ++ zs)
theorem pe_calK {X : Cx} {k n : Nat} {C : Addr} {x : Str} {ks : List Str} {sp : Sp} {p pos : Pos} {e : Expr} {es : List Expr} {kws : List Keyword} {t tk : TA} (M : CalK X.prog X.w X.K X.mg X.base k x C n ks sp) (hr : Room (k + 1) X.A) (hg : Gl X x) (ha : PA X (e :: es) t) (hkw : PK X kws tk)
    (hall : (backToKw pos (keywordEach kws X.env)).all (·.1.isSome) = true := by rfl) (hks : (backToKw pos (keywordEach kws X.env)).filterMap (·.1) = ks := by rfl) (hdb : (x == ("__debug__" : Str)) = false := by decide)
    (he : starEach (e :: es) X.env = (false, eval e X.env) :: starEach es X.env := by rfl) (hpl : ((backTo pos (starEach (e :: es) X.env)).any (·.1) || (backToKw pos (keywordEach kws X.env)).any (·.1.isNone)) = false := by rfl) :
    PE X (.Call (.Name x p) (e :: es) kws pos) (tMakeK C n ks.length sp (fun vs zs => vs ++ zs) E0 t tk) := by
  obtain ⟨f, fd, ps, g, M, F, hm, hb⟩ := M
  exact pe_makeK M F hr hg hm hb pass0 ha hkw hall hks hdb he hpl
/-- a method as its callers see it -/
def CalM (P : Program) (w : World) (K : PySem.W.Frag) (mg : Str → Option Value) (base : Heap) (k : Nat) (C : Addr) (m : Str) (ps : List Str) (sp : Sp) : Prop :=
  ∃ (f : Addr) (fd : FuncData), FnOk P w K mg base CX0 k f fd ps sp ∧ Meth K C m f ∧ Binds K fd ps []
theorem pe_calM {X : Cx} {k : Nat} {C : Addr} {m : Str} {ps : List Str} {sp : Sp} {apos pos : Pos} {o e : Expr} {es : List Expr} {ta : TE} {t : TA} {pl : Sem Bool} (c : Cls X.K C) (M : CalM X.prog X.w X.K X.mg X.base k C m ps sp) (hr : Room k X.A) (he : PE X o ta) (ha : PA X (e :: es) t)
    (hst : starEach (e :: es) X.env = (false, eval e X.env) :: starEach es X.env := by rfl) (hpl : (backTo pos (starEach es X.env)).any (·.1) = false := by rfl)
    (ht : eval (.Call (.Attribute o m apos) (e :: es) [] pos) X.env = (do
      let ov ← eval o X.env
      standAt apos.atName
      let (f, first) ← holding [ov] (getMethod ov m pl)
      callWith pos f first (backTo pos (starEach (e :: es) X.env)) (backToKw pos (keywordEach [] X.env))) := by rfl) :
    PE X (.Call (.Attribute o m apos) (e :: es) [] pos) (tMeth C m sp [] E0 ta t) := by
  obtain ⟨f, fd, F, hm, hb⟩ := M
  exact pe_meth he c hm F hr hb .nil pass0 ha hst hpl ht
/-- an instance of the class at C as its callers see it -/
def CalI (P : Program) (w : World) (K : PySem.W.Frag) (mg : Str → Option Value) (base : Heap) (k : Nat) (C : Addr) (ps : List Str) (sp : Sp) : Prop :=
  ∃ (f : Addr) (fd : FuncData), FnOk P w K mg base CX0 k f fd ps sp ∧ WC.Cl K C f ∧ Binds K fd ps []
theorem pe_calI {X : Cx} {k i : Nat} {C : Addr} {x : Str} {ps : List Str} {sp : Sp} {p pos : Pos} {e : Expr} {es : List Expr} {t : TA} (M : CalI X.prog X.w X.K X.mg X.base k C ps sp) (hr : Room k X.A) (hN : X.N[i]? = some x) (hv : Vis X.env.scope x) (ha : PA X (e :: es) t)
    (hdb : (x == ("__debug__" : Str)) = false := by decide) (hcd : (x == ("__classdict__" : Str)) = false := by decide)
    (he : starEach (e :: es) X.env = (false, eval e X.env) :: starEach es X.env := by rfl) (hpl : (backTo pos (starEach es X.env)).any (·.1) = false := by rfl) :
    PE X (.Call (.Name x p) (e :: es) [] pos) (WC.tCallI i C sp E0 t) := by
  obtain ⟨f, fd, F, hm, hb⟩ := M
  exact WC.pe_callI F hm hr hN hv hb pass0 ha hdb hcd he hpl
/-- the built-in names that the text asks for are the built-in ones -/
structure Txt (mg : Str → Option Value) : Prop where
  b_len : mg "len" = none
  b_int : mg "int" = none
  b_bool : mg "bool" = none
  b_tuple : mg "tuple" = none
  b_list : mg "list" = none
  b_isinstance : mg "isinstance" = none
  b_range : mg "range" = none
  b_enumerate : mg "enumerate" = none
  b_zip : mg "zip" = none
  b_sum : mg "sum" = none
  b_min : mg "min" = none
  b_abs : mg "abs" = none
  b_ValueError : mg "ValueError" = none
  b_all : mg "all" = none
  b_any : mg "any" = none
  b_max : mg "max" = none
  b_reversed : mg "reversed" = none
  g_gcd : mg "gcd" = some (.builtin "math.gcd")
/-- the classes of the text -/
structure Obs (K : PySem.W.Frag) (cF cR : Addr) : Prop where
  clF : Cls K cF
  F_size : NoAttr K cF "size"
  F_entries : NoAttr K cF "entries"
  F_bottom : NoAttr K cF "bottom"
theorem line_ge {n : Nat} (h : n ≤ 100000) : n ≤ sizeLine := Nat.le_trans h (by rw [sizeLine_eq]; decide)
theorem two_line : 2 ≤ sizeLine := line_ge (by omega)
theorem three_line : 3 ≤ sizeLine := line_ge (by omega)
theorem at_pos {α : Type} {xs : List α} {z : Int} {v : α} (h0 : 0 ≤ z) (h : xs[z.toNat]? = some v) : atI xs z = some v := by
  have e : z = ((z.toNat : Nat) : Int) := by omega
  rw [e]
  exact atI_nat h
theorem same_new {H : Hp} {p : Addr} (h : H p = none) (o : HO) : Same H (upd H p o) := new_same h o
theorem lc_yes {σ : L2.St} {H : Hp} {A B : Hp → Prop} (h : A H) : tYes σ H (fun b H3 => if b = true then A H3 else B H3) := by
  show (if true = true then A H else B H)
  exact iteT h
theorem ifT {c : Bool} {A B : Prop} (hc : c = true) (h : A) : if c = true then A else B := by rw [if_pos hc]; exact h
theorem ifF {c : Bool} {A B : Prop} (hc : c = false) (h : B) : if c = true then A else B := by rw [hc, if_neg Bool.false_ne_true]; exact h
theorem dec_ne {a b : V} (h : a ≠ b) : decide (a = b) = false := decide_eq_false h
theorem int_ne {a b : Int} (h : a ≠ b) : decide (V.int a = V.int b) = false := decide_eq_false fun e => h (V.int.inj e)
theorem int_eq {a b : Int} (h : a = b) : decide (V.int a = V.int b) = true := decide_eq_true (by rw [h])
theorem same_at {H H' : Hp} {D : Addr} {o : HO} (e : Same H H') (h : H D = none) : Same H (upd H' D o) := fun b u q => by
  have hne : b ≠ D := fun z => by
    rw [z, h] at q
    cases q
  rw [upd_ne hne]
  exact e _ _ q
theorem dec_lt {a b : Int} (h : decide (a < b) = true) : a < b := of_decide_eq_true h
theorem not_lt {a b : Int} (h : ¬ decide (a < b) = true) : ¬ a < b := of_decide_eq_false (Bool.eq_false_iff.mpr h)
theorem kitLT {K : PySem.W.Frag} : PySem.W.kitOne K (.type "list") (.type "list") = some true := kit_ty (by decide +kernel)
theorem wmul {m n : Nat} {x y : Int} (hx : B m x) (hy : B n y) (h0 : 0 < m) (h1 : 0 < n) (h : m + n ≤ 1000000) : CMulW x y := wide_mul hx hy h0 h1 h
theorem wdiv {n : Nat} {x g : Int} (hg : 0 < g) (h : B n g) (h0 : 0 < n) (h9 : n ≤ 9000) : CDivW x g := wide_div hg h h0 h9
theorem lk_hit {n : Str} {v : V} {l : List (Str × V)} : ((n, v) :: l).lookup n = some v := by rw [List.lookup_cons, beq_self_eq_true]
theorem lk_skip {n m : Str} {v : V} {l : List (Str × V)} (h : ¬ m = n) : ((n, v) :: l).lookup m = l.lookup m := by
  rw [List.lookup_cons]
  have : (m == n) = false := beq_eq_false_iff_ne.mpr h
  rw [this]
/-- a pair of ints -/
def FrAt (H : Hp) (a : Addr) (t b : Int) : Prop := H a = some (.tup [.int t, .int b])
theorem FrAt.same {H H' : Hp} {a : Addr} {t b : Int} (e : Same H H') (h : FrAt H a t b) : FrAt H' a t b := e _ _ h
end P09
namespace P09
open PySem PySem.Spec PyProof.Rows L2 SX EX WK
theorem kLT {K : PySem.W.Frag} : PySem.W.kitAny K (.type "list") [.type "list", .type "tuple"] = some true := by
  unfold PySem.W.kitAny
  rw [show PySem.W.kitOne K (.type "list") (.type "list") = some true from kit_ty (by decide +kernel)]
theorem kTT {K : PySem.W.Frag} : PySem.W.kitAny K (.type "tuple") [.type "list", .type "tuple"] = some true := by
  unfold PySem.W.kitAny
  rw [show PySem.W.kitOne K (.type "tuple") (.type "list") = some false from kit_ty (by decide +kernel)]
  unfold PySem.W.kitAny
  rw [show PySem.W.kitOne K (.type "tuple") (.type "tuple") = some true from kit_ty (by decide +kernel)]
theorem kIT {K : PySem.W.Frag} : PySem.W.kitAny K (.type "int") [.type "list", .type "tuple"] = some false := by
  unfold PySem.W.kitAny
  rw [show PySem.W.kitOne K (.type "int") (.type "list") = some false from kit_ty (by decide +kernel)]
  unfold PySem.W.kitAny
  rw [show PySem.W.kitOne K (.type "int") (.type "tuple") = some false from kit_ty (by decide +kernel)]
  rfl
theorem ty_tup {K : PySem.W.Frag} {H : Hp} {a : Addr} {xs : List V} (h : SqT K H a xs) : TyX K H (.ref a) (.type "tuple") := by
  rcases h with (h | ⟨o, h⟩) | ⟨o, its, n, h, c, _⟩
  · exact .base (.tup h)
  · exact .fTuple h
  · exact .kTuple h c
def spFz (K : PySem.W.Frag) (n : Nat) : Sp := fun vs H Q _ => ∃ (v : V) (t : Td), vs = [v] ∧ Sn K H v t ∧ t.dep ≤ n ∧ t.sm ∧ ∀ v' H', Same H H' → Fz K H' v' t → Q v' H'
theorem pairLT : Paired ClsV [V.ty "list", V.ty "tuple"] [.type "list", .type "tuple"] := .cons (.ty _) (.cons (.ty _) .nil)
section
variable {P : Program} {w : World} {K : PySem.W.Frag} {mg : Str → Option Value} {base : Heap} {f : Addr} {fd : FuncData}
abbrev s_frozen_numbers : Stmt := top 11
abbrev N_frozen_numbers : List Str := ["value"]
theorem sc_frozen_numbers : FnScope N_frozen_numbers ["value"] (defScope s_frozen_numbers) := ⟨rfl, rfl, rfl, by decide +kernel, rfl, by decide +kernel, by decide +kernel⟩
theorem ok_frozen_numbers (F : Fun K "frozen_numbers" "frozen_numbers" s_frozen_numbers f fd) (T : Txt mg) : FnOk P w K mg base CX0 1 f fd ["value"] (spFz K 1) := by
  refine F.ok sc_frozen_numbers (fun vs H Q E h => ?_) (fun cdv A outer s H vs Q E hr h => ?_)
  · obtain ⟨v, t, rfl, _⟩ := h
    rfl
  obtain ⟨v, t, rfl, hs, hd, hm, q⟩ := h
  refine ⟨_, (pss_cons (ps_if (pt_val (pe_callB call_isiT (by rfl) T.b_isinstance (by decide +kernel) (pa_cons (pv 0) (pa_cons (pe_tup (pa_cons (pe_bltn (v := .ty "list") (by rfl) T.b_list (by decide +kernel) rfl) (pa_cons (pe_bltn (v := .ty "tuple") (by rfl) T.b_tuple (by decide +kernel) rfl) pa_nil))) pa_nil)))) (pss_one (ps_ret (pe_callTy call_tuple_of (by rfl) T.b_tuple (by decide +kernel) (pa_cons (pv 0) pa_nil)))) pss_nil)
  (pss_one (ps_ret (pv 0)))), ?_⟩
  refine ⟨_, rfl, two_line, fun tp htp => ?_⟩
  have g := same_new htp (.tup [V.ty "list", V.ty "tuple"])
  have hs' := hs.same g
  cases hs' with
  | int i => exact ⟨_, tp, _, _, _, _, rfl, upd_same, pairLT, .base (.int i), kIT, _, rfl, ifF rfl ⟨_, rfl, q _ _ g (.int i)⟩⟩
  | @lst a vs ts ha hall =>
    simp only [Td.dep] at hd
    refine ⟨_, tp, _, _, _, _, rfl, upd_same, pairLT, .base (.lst ha), kLT, _, rfl, ifT rfl ⟨_, rfl, a, _, rfl, .inl ⟨SqL.of ha, fun l hl => ?_⟩⟩⟩
    have g2 := same_new hl (.tup vs)
    exact q _ _ (g.trans g2) (.tup (SqT.of upd_same) ((hall.zero (by omega)).tk (WK.Same.tk g2)))
  | @tup a vs ts ha hall =>
    simp only [Td.dep] at hd
    exact ⟨_, tp, _, _, _, _, rfl, upd_same, pairLT, ty_tup ha, kTT, _, rfl, ifT rfl ⟨_, rfl, a, _, rfl, .inr ⟨ha, q _ _ g (.tup ha (hall.zero (by omega)))⟩⟩⟩
abbrev s_frozen_part : Stmt := top 12
abbrev N_frozen_part : List Str := ["value", "part"]
theorem sc_frozen_part : FnScope N_frozen_part ["value"] (defScope s_frozen_part) := ⟨rfl, rfl, rfl, by decide +kernel, rfl, by decide +kernel, by decide +kernel⟩
theorem ok_frozen_part (F : Fun K "frozen_part" "frozen_part" s_frozen_part f fd) (T : Txt mg) (C_frozen_numbers : Cal P w K mg base 1 "frozen_numbers" ["value"] (spFz K 1)) : FnOk P w K mg base CX0 2 f fd ["value"] (spFz K 2) := by
  refine F.ok sc_frozen_part (fun vs H Q E h => ?_) (fun cdv A outer s H vs Q E hr h => ?_)
  · obtain ⟨v, t, rfl, _⟩ := h
    rfl
  obtain ⟨v, t, rfl, hs, hd, hm, q⟩ := h
  refine ⟨_, (pss_cons (ps_if (pt_val (pe_callB call_isiT (by rfl) T.b_isinstance (by decide +kernel) (pa_cons (pv 0) (pa_cons (pe_tup (pa_cons (pe_bltn (v := .ty "list") (by rfl) T.b_list (by decide +kernel) rfl) (pa_cons (pe_bltn (v := .ty "tuple") (by rfl) T.b_tuple (by decide +kernel) rfl) pa_nil))) pa_nil)))) (pss_one (ps_ret (pe_callTy call_tuple_of (by rfl) T.b_tuple (by decide +kernel) (pa_cons (pe_lc (own := [("part", 1)]) (g := gName 1) (tt := tYes) (by rfl) sc_frozen_part.nd (pi_or (pi_list (pv 0)) (pi_tup (pv 0))) (blkOk_by (N := N_frozen_part) (sc := defScope s_frozen_part) (by decide +kernel)) (fun _ _ _ _ _ => (pg_name (i := 1) sc_frozen_part.nd rfl (Or.inl rfl))) (fun _ _ _ _ _ => pts_nil) (fun _ _ _ _ _ => (pe_cal C_frozen_numbers (hr.mono (by omega)) rfl (pa_cons (pv 1) pa_nil)))) pa_nil)))) pss_nil)
  (pss_one (ps_ret (pv 0)))), ?_⟩
  refine ⟨_, rfl, two_line, fun tp htp => ?_⟩
  have g := same_new htp (.tup [V.ty "list", V.ty "tuple"])
  have hs' := hs.same g
  cases hs' with
  | int i => exact ⟨_, tp, _, _, _, _, rfl, upd_same, pairLT, .base (.int i), kIT, _, rfl, ifF rfl ⟨_, rfl, q _ _ g (.int i)⟩⟩
  | @lst a vs ts ha hall =>
    simp only [Td.dep] at hd
    simp only [Td.sm] at hm
    have hl := hall.len
    refine ⟨_, tp, _, _, _, _, rfl, upd_same, pairLT, .base (.lst ha), kLT, _, rfl, ifT rfl (.inl ⟨_, rfl, a, rfl, ⟨_, SqL.of ha⟩, fun D hD => ?_⟩)⟩
    refine lc_m (walk_list (K := K) (a := a) (xs := vs)) (Fz K) stb_Fz ts hl hm.1 hD (fun H' s => s.seq (SqL.of ha)) (fun _ _ _ _ => ys_at) id (fun i b x H1 H2 hb s1 s2 y A B hA => ?_) (fun H' l s1 hl1 rs => ?_)
    · obtain ⟨t1, ht1, hx⟩ := hall.get y.2
      rw [hb] at ht1
      cases ht1
      have mb := List.mem_of_getElem? hb
      exact ⟨rfl, lc_yes ⟨_, rfl, _, b, rfl, hx.same s2, Nat.le_trans (deps_le (n := 1) (by omega) mb) (Nat.le_refl _), sms_of hm.2 mb, fun v' H' s h => hA _ _ s h⟩⟩
    · rw [List.map_id] at rs
      refine ⟨D, l, rfl, .inl ⟨SqL.of hl1, fun l2 hl2 => ?_⟩⟩
      have g2 := same_new hl2 (.tup l)
      exact q _ _ (g.trans (s1.trans g2)) (.tup (SqT.of upd_same) (rs.fz.tk (WK.Same.tk g2)))
  | @tup a vs ts ha hall =>
    simp only [Td.dep] at hd
    simp only [Td.sm] at hm
    have hl := hall.len
    refine ⟨_, tp, _, _, _, _, rfl, upd_same, pairLT, ty_tup ha, kTT, _, rfl, ifT rfl (.inr ⟨_, rfl, a, rfl, ⟨_, ha⟩, fun D hD => ?_⟩)⟩
    refine lc_m (walk_tup (K := K) (a := a) (xs := vs)) (Fz K) stb_Fz ts hl hm.1 hD (fun H' s => Same_seqT s ha) (fun _ _ _ _ => ys_at) id (fun i b x H1 H2 hb s1 s2 y A B hA => ?_) (fun H' l s1 hl1 rs => ?_)
    · obtain ⟨t1, ht1, hx⟩ := hall.get y.2
      rw [hb] at ht1
      cases ht1
      have mb := List.mem_of_getElem? hb
      exact ⟨rfl, lc_yes ⟨_, rfl, _, b, rfl, hx.same s2, Nat.le_trans (deps_le (n := 1) (by omega) mb) (Nat.le_refl _), sms_of hm.2 mb, fun v' H' s h => hA _ _ s h⟩⟩
    · rw [List.map_id] at rs
      refine ⟨D, l, rfl, .inl ⟨SqL.of hl1, fun l2 hl2 => ?_⟩⟩
      have g2 := same_new hl2 (.tup l)
      exact q _ _ (g.trans (s1.trans g2)) (.tup (SqT.of upd_same) (rs.fz.tk (WK.Same.tk g2)))
abbrev s_frozen : Stmt := top 13
abbrev N_frozen : List Str := ["value", "part"]
theorem sc_frozen : FnScope N_frozen ["value"] (defScope s_frozen) := ⟨rfl, rfl, rfl, by decide +kernel, rfl, by decide +kernel, by decide +kernel⟩
theorem ok_frozen (F : Fun K "frozen" "frozen" s_frozen f fd) (T : Txt mg) (C_frozen_part : Cal P w K mg base 2 "frozen_part" ["value"] (spFz K 2)) : FnOk P w K mg base CX0 3 f fd ["value"] (spFz K 3) := by
  refine F.ok sc_frozen (fun vs H Q E h => ?_) (fun cdv A outer s H vs Q E hr h => ?_)
  · obtain ⟨v, t, rfl, _⟩ := h
    rfl
  obtain ⟨v, t, rfl, hs, hd, hm, q⟩ := h
  refine ⟨_, (pss_cons (ps_if (pt_val (pe_callB call_isiT (by rfl) T.b_isinstance (by decide +kernel) (pa_cons (pv 0) (pa_cons (pe_tup (pa_cons (pe_bltn (v := .ty "list") (by rfl) T.b_list (by decide +kernel) rfl) (pa_cons (pe_bltn (v := .ty "tuple") (by rfl) T.b_tuple (by decide +kernel) rfl) pa_nil))) pa_nil)))) (pss_one (ps_ret (pe_callTy call_tuple_of (by rfl) T.b_tuple (by decide +kernel) (pa_cons (pe_lc (own := [("part", 1)]) (g := gName 1) (tt := tYes) (by rfl) sc_frozen.nd (pi_or (pi_list (pv 0)) (pi_tup (pv 0))) (blkOk_by (N := N_frozen) (sc := defScope s_frozen) (by decide +kernel)) (fun _ _ _ _ _ => (pg_name (i := 1) sc_frozen.nd rfl (Or.inl rfl))) (fun _ _ _ _ _ => pts_nil) (fun _ _ _ _ _ => (pe_cal C_frozen_part (hr.mono (by omega)) rfl (pa_cons (pv 1) pa_nil)))) pa_nil)))) pss_nil)
  (pss_one (ps_ret (pv 0)))), ?_⟩
  refine ⟨_, rfl, two_line, fun tp htp => ?_⟩
  have g := same_new htp (.tup [V.ty "list", V.ty "tuple"])
  have hs' := hs.same g
  cases hs' with
  | int i => exact ⟨_, tp, _, _, _, _, rfl, upd_same, pairLT, .base (.int i), kIT, _, rfl, ifF rfl ⟨_, rfl, q _ _ g (.int i)⟩⟩
  | @lst a vs ts ha hall =>
    simp only [Td.dep] at hd
    simp only [Td.sm] at hm
    have hl := hall.len
    refine ⟨_, tp, _, _, _, _, rfl, upd_same, pairLT, .base (.lst ha), kLT, _, rfl, ifT rfl (.inl ⟨_, rfl, a, rfl, ⟨_, SqL.of ha⟩, fun D hD => ?_⟩)⟩
    refine lc_m (walk_list (K := K) (a := a) (xs := vs)) (Fz K) stb_Fz ts hl hm.1 hD (fun H' s => s.seq (SqL.of ha)) (fun _ _ _ _ => ys_at) id (fun i b x H1 H2 hb s1 s2 y A B hA => ?_) (fun H' l s1 hl1 rs => ?_)
    · obtain ⟨t1, ht1, hx⟩ := hall.get y.2
      rw [hb] at ht1
      cases ht1
      have mb := List.mem_of_getElem? hb
      exact ⟨rfl, lc_yes ⟨_, rfl, _, b, rfl, hx.same s2, Nat.le_trans (deps_le (n := 2) (by omega) mb) (Nat.le_refl _), sms_of hm.2 mb, fun v' H' s h => hA _ _ s h⟩⟩
    · rw [List.map_id] at rs
      refine ⟨D, l, rfl, .inl ⟨SqL.of hl1, fun l2 hl2 => ?_⟩⟩
      have g2 := same_new hl2 (.tup l)
      exact q _ _ (g.trans (s1.trans g2)) (.tup (SqT.of upd_same) (rs.fz.tk (WK.Same.tk g2)))
  | @tup a vs ts ha hall =>
    simp only [Td.dep] at hd
    simp only [Td.sm] at hm
    have hl := hall.len
    refine ⟨_, tp, _, _, _, _, rfl, upd_same, pairLT, ty_tup ha, kTT, _, rfl, ifT rfl (.inr ⟨_, rfl, a, rfl, ⟨_, ha⟩, fun D hD => ?_⟩)⟩
    refine lc_m (walk_tup (K := K) (a := a) (xs := vs)) (Fz K) stb_Fz ts hl hm.1 hD (fun H' s => Same_seqT s ha) (fun _ _ _ _ => ys_at) id (fun i b x H1 H2 hb s1 s2 y A B hA => ?_) (fun H' l s1 hl1 rs => ?_)
    · obtain ⟨t1, ht1, hx⟩ := hall.get y.2
      rw [hb] at ht1
      cases ht1
      have mb := List.mem_of_getElem? hb
      exact ⟨rfl, lc_yes ⟨_, rfl, _, b, rfl, hx.same s2, Nat.le_trans (deps_le (n := 2) (by omega) mb) (Nat.le_refl _), sms_of hm.2 mb, fun v' H' s h => hA _ _ s h⟩⟩
    · rw [List.map_id] at rs
      refine ⟨D, l, rfl, .inl ⟨SqL.of hl1, fun l2 hl2 => ?_⟩⟩
      have g2 := same_new hl2 (.tup l)
      exact q _ _ (g.trans (s1.trans g2)) (.tup (SqT.of upd_same) (rs.fz.tk (WK.Same.tk g2)))
end
end P09
namespace P09
open PySem PySem.Spec PyProof.Rows L2 SX EX WK
theorem take_one {α : Type} {xs : List α} {i : Nat} {x : α} (h : xs[i]? = some x) : xs.take (i + 1) = xs.take i ++ [x] := by
  rw [List.take_add_one, h]
  rfl
theorem ints_at {ns : List Int} {i : Nat} {x : V} (h : (ns.map V.int)[i]? = some x) : ∃ n, ns[i]? = some n ∧ x = V.int n := by
  rw [List.getElem?_map] at h
  cases e : ns[i]? with
  | none => rw [e] at h; cases h
  | some n => rw [e] at h; exact ⟨n, rfl, (Option.some.inj h).symm⟩
def spLow : Sp := fun vs H Q _ => ∃ (l : Addr) (ns : List Int) (b : Int), vs = [.ref l, .int b] ∧ H l = some (.lst (ns.map V.int)) ∧ 0 < b ∧ B 9000 b ∧ ns.length ≤ 16000000 ∧
  ∀ r t H', Same H H' → H' r = some (.tup [.ref t, .int (b / gf b ns)]) → H' t = some (.tup ((ns.map fun n => n / gf b ns).map V.int)) → Q (.ref r) H'
section
variable {P : Program} {w : World} {K : PySem.W.Frag} {mg : Str → Option Value} {base : Heap} {f : Addr} {fd : FuncData}
abbrev s_lowered : Stmt := top 14
abbrev N_lowered : List Str := ["numbers", "bottom", "shared", "number"]
theorem sc_lowered : FnScope N_lowered ["numbers", "bottom"] (defScope s_lowered) := ⟨rfl, rfl, rfl, by decide +kernel, rfl, by decide +kernel, by decide +kernel⟩
theorem ok_lowered (F : Fun K "lowered" "lowered" s_lowered f fd) (T : Txt mg) : FnOk P w K mg base CX0 1 f fd ["numbers", "bottom"] spLow := by
  refine F.ok sc_lowered (fun vs H Q E h => ?_) (fun cdv A outer s H vs Q E hr h => ?_)
  · obtain ⟨l, ns, b, rfl, _⟩ := h
    rfl
  obtain ⟨l, ns, b, rfl, hl, hb, hB, hn, q⟩ := h
  refine ⟨_, (pss_cons (ps_set (i := 2) sc_lowered.nd rfl (Or.inr rfl) (pv 1))
  (pss_cons (ps_for PassesOwn.never rfl (pi_list (pv 0)) (pg_name (i := 3) sc_lowered.nd rfl (Or.inl rfl)) (pss_one (ps_set (i := 2) sc_lowered.nd rfl (Or.inr rfl) (pe_callBfun cr_gcd rfl T.g_gcd (pa_cons (pv 2) (pa_cons (pv 3) pa_nil))))))
  (pss_one (ps_ret (pe_tup (pa_cons (pe_callTy call_tuple_of (by rfl) T.b_tuple (by decide +kernel) (pa_cons (pe_lc (own := [("number", 3)]) (g := gName 3) (tt := tYes) (by rfl) sc_lowered.nd (pi_list (pv 0)) (blkOk_by (N := N_lowered) (sc := defScope s_lowered) (by decide +kernel)) (fun _ _ _ _ _ => (pg_name (i := 3) sc_lowered.nd rfl (Or.inl rfl))) (fun _ _ _ _ _ => pts_nil) (fun _ _ _ _ _ => (pe_op op_fdivW (pv 3) (pv 2)))) pa_nil)) (pa_cons (pe_op op_fdivW (pv 1) (pv 2)) pa_nil))))))), ?_⟩
  have hg := gf_pos hb ns
  have hgB : B 9000 (gf b ns) := B.le (Int.le_of_lt hg) (gf_le hb ns) hB
  refine ⟨_, rfl, _, rfl, l, rfl, ⟨_, SqL.of hl⟩, for_list (K := K) (a := l) (xs := ns.map V.int) (fun i σ H' => ∃ v : Option V, σ = [some (.ref l), some (.int b), some (.int (gf b (ns.take i))), v] ∧ H' = H)
    ⟨none, rfl, rfl⟩ (fun i σ H' _ ⟨_, _, e⟩ => by rw [e]; exact SqL.of hl) ?_ ?_⟩
  · rintro i x σ H' hi ⟨v, rfl, rfl⟩
    obtain ⟨n, hni, rfl⟩ := ints_at hi
    refine ⟨_, rfl, _, rfl, _, _, rfl, some (V.int n), ?_, rfl⟩
    rw [take_one hni, gf_snoc]
    rfl
  · rintro σ H' ⟨v, rfl, rfl⟩
    rw [List.length_map, List.take_length]
    refine ⟨_, rfl, l, rfl, ⟨_, SqL.of hl⟩, fun D hD => ?_⟩
    refine lc_m (walk_list (K := K) (a := l) (xs := ns.map V.int)) RI (stb_RI (K := K)) ns (List.length_map ..) (by omega) hD (fun H' s => s.seq (SqL.of hl)) (fun _ _ _ _ => ys_at) (fun n => n / gf b ns) (fun i n x H1 H2 hb s1 s2 y A B hA => ?_) (fun H2 l1 s1 hl1 rs => ?_)
    · obtain ⟨n', hn', rfl⟩ := ints_at y.2
      rw [hb] at hn'
      cases hn'
      exact ⟨rfl, lc_yes ⟨_, rfl, _, rfl, _, _, rfl, rfl, wdiv hg hgB (by decide) (by decide), hA _ _ (fun _ _ h => h) rfl⟩⟩
    · refine ⟨D, l1, rfl, .inl ⟨SqL.of hl1, fun t ht => ?_⟩⟩
      refine ⟨_, rfl, _, rfl, _, _, rfl, rfl, wdiv hg hgB (by decide) (by decide), two_line, fun r hr' => ?_⟩
      refine q r t _ (s1.trans ((same_new ht _).trans (same_new hr' _))) upd_same ?_
      rw [upd_ne (ne_of_none (upd_same (H := H2) (a := t)) hr'), upd_same, rs.ints]
/-! ### fractions -/
def spFraction : Sp := fun vs H Q _ => ∃ t b : Int, vs = [.int t, .int b] ∧ 0 < b ∧ B 9000 b ∧ ∀ r H', Same H H' → FrAt H' r (t / gI t b) (b / gI t b) → Q (.ref r) H'
abbrev s_fraction : Stmt := top 15
abbrev N_fraction : List Str := ["top", "bottom", "shared"]
theorem sc_fraction : FnScope N_fraction ["top", "bottom"] (defScope s_fraction) := ⟨rfl, rfl, rfl, by decide +kernel, rfl, by decide +kernel, by decide +kernel⟩
theorem ok_fraction (F : Fun K "fraction" "fraction" s_fraction f fd) (T : Txt mg) : FnOk P w K mg base CX0 1 f fd ["top", "bottom"] spFraction := by
  refine F.ok sc_fraction (fun vs H Q E h => ?_) (fun cdv A outer s H vs Q E hr h => ?_)
  · obtain ⟨t, b, rfl, _⟩ := h
    rfl
  obtain ⟨t, b, rfl, hb, hB, q⟩ := h
  refine ⟨_, (pss_cons (ps_if (pt_cmpR op_eq (pv 1) pe_int (nomark _)) (pss_one ps_never) pss_nil)
  (pss_cons (ps_set (i := 2) sc_fraction.nd rfl (Or.inl rfl) (pe_callBfun cr_gcd rfl T.g_gcd (pa_cons (pv 0) (pa_cons (pv 1) pa_nil))))
  (pss_cons (ps_if (pt_cmpR op_lt (pv 1) pe_int (nomark _)) (pss_one (ps_set (i := 2) sc_fraction.nd rfl (Or.inl rfl) (pe_un un_neg (pv 2)))) pss_nil)
  (pss_one (ps_ret (pe_tup (pa_cons (pe_op op_fdivW (pv 0) (pv 2)) (pa_cons (pe_op op_fdivW (pv 1) (pv 2)) pa_nil)))))))), ?_⟩
  refine ⟨_, rfl, rfl, _, rfl, ifF (int_ne (by omega)) ?_⟩
  refine ⟨_, rfl, _, rfl, t, b, rfl, ?_⟩
  refine ⟨_, rfl, _, _, rfl, rfl, _, rfl, ifF (decide_eq_false (by omega)) ?_⟩
  have g := gI_pos' (t := t) hb
  have gB : B 9000 (gI t b) := B.le (Int.le_of_lt g) (by
    have : Nat.gcd t.natAbs b.natAbs ≤ b.natAbs := Nat.le_of_dvd (by omega) (Nat.gcd_dvd_right _ _)
    unfold gI
    omega) hB
  refine ⟨_, rfl, _, rfl, _, _, rfl, rfl, wdiv g gB (by decide) (by decide), _, rfl, _, rfl, _, _, rfl, rfl, wdiv g gB (by decide) (by decide), two_line, fun r hr' => q r _ (same_new hr' _) upd_same⟩
end
end P09
namespace P09
open PySem PySem.Spec PyProof.Rows L2 SX EX WK
theorem inV_ints (x : Int) (ns : List Int) : inV (.int x) (ns.map V.int) = decide (x ∈ ns) := by
  unfold inV
  rw [Bool.eq_iff_iff, List.any_eq_true, decide_eq_true_iff]
  constructor
  · rintro ⟨v, hv, e⟩
    obtain ⟨n, hn, rfl⟩ := List.mem_map.mp hv
    have e1 : (n == x) = true := e
    rw [← eq_of_beq e1]
    exact hn
  · intro h
    exact ⟨.int x, List.mem_map.mpr ⟨x, h, rfl⟩, by show (x == x) = true; exact beq_self_eq_true x⟩
theorem flat_ints (ns : List Int) : (ns.map V.int).all flatV = true := by
  rw [List.all_eq_true]
  intro v hv
  obtain ⟨n, _, rfl⟩ := List.mem_map.mp hv
  rfl
/-- the matrix at v -/
theorem fz_mat {K : PySem.W.Frag} {H : Hp} {v : V} {m : List (List Int)} (h : Fz K H v (tdm m)) : ∃ (a : Addr) (vs : List V), v = .ref a ∧ SqT K H a vs ∧ vs.length = m.length ∧ ∀ (i : Nat) (r : List Int), m[i]? = some r → ∃ p : Addr, vs[i]? = some (.ref p) ∧ SqT K H p (r.map V.int) := by
  cases h with
  | @tup a vs ts ha hall =>
    have hl : vs.length = m.length := by rw [hall.len, List.length_map]
    refine ⟨a, vs, rfl, ha, hl, fun i r hr => ?_⟩
    have hi : i < vs.length := by
      have := (List.getElem?_eq_some_iff.mp hr).1
      omega
    obtain ⟨t, ht, hz⟩ := hall.get (List.getElem?_eq_getElem hi)
    rw [List.getElem?_map, hr] at ht
    cases ht
    generalize hv : vs[i] = u at hz
    cases hz with
    | @tup p us ts hp hq =>
      refine ⟨p, by rw [List.getElem?_eq_getElem hi, hv], ?_⟩
      rw [← hq.ints]
      exact hp
/-- the pairs at v -/
theorem fz_prs {K : PySem.W.Frag} {H : Hp} {v : V} {ps : List RW} (h : Fz K H v (.tup (ps.map tdr))) : ∃ (a : Addr) (vs : List V), v = .ref a ∧ SqT K H a vs ∧ vs.length = ps.length ∧ ∀ (i : Nat) (p : RW), ps[i]? = some p → ∃ q r : Addr, vs[i]? = some (.ref q) ∧ SqT K H q [.ref r, .int p.2] ∧ SqT K H r (p.1.map V.int) := by
  cases h with
  | @tup a vs ts ha hall =>
    have hl : vs.length = ps.length := by rw [hall.len, List.length_map]
    refine ⟨a, vs, rfl, ha, hl, fun i p hp => ?_⟩
    have hi : i < vs.length := by
      have := (List.getElem?_eq_some_iff.mp hp).1
      omega
    obtain ⟨t, ht, hz⟩ := hall.get (List.getElem?_eq_getElem hi)
    rw [List.getElem?_map, hp] at ht
    cases ht
    generalize hv : vs[i] = u at hz
    cases hz with
    | @tup q us ts hq hal =>
      cases hal with
      | cons h1 h2 =>
        cases h2 with
        | cons h3 h4 =>
          cases h4
          cases h3
          cases h1 with
          | @tup r rs ts hr hrs =>
            refine ⟨q, r, by rw [List.getElem?_eq_getElem hi, hv], hq, ?_⟩
            rw [← hrs.ints]
            exact hr
/-- three ints at v -/
theorem fz_tie {K : PySem.W.Frag} {H : Hp} {v : V} {t : T3} (h : Fz K H v (td3 t)) : ∃ a, v = .ref a ∧ SqT K H a [.int t.1, .int t.2.1, .int t.2.2] := by
  cases h with
  | @tup a vs ts ha hall =>
    cases hall with
    | cons h1 h2 =>
      cases h2 with
      | cons h3 h4 =>
        cases h4 with
        | cons h5 h6 =>
          cases h6
          cases h1
          cases h3
          cases h5
          exact ⟨a, rfl, ha⟩
theorem fz_ints {K : PySem.W.Frag} {H : Hp} {v : V} {ns : List Int} (h : Fz K H v (.tup (ns.map Td.int))) : ∃ a, v = .ref a ∧ SqT K H a (ns.map V.int) := by
  cases h with
  | @tup a vs ts ha hall =>
    rw [← hall.ints]
    exact ⟨a, rfl, ha⟩
def Sqr (m : List (List Int)) : Prop := ∀ r ∈ m, r.length = m.length
def ent (m : List (List Int)) (i j : Nat) : Int := (m.getD i []).getD j 0
def Sym (m : List (List Int)) : Prop := ∀ i j, ent m i j = ent m j i
section
variable {P : Program} {w : World} {K : PySem.W.Frag} {mg : Str → Option Value} {base : Heap} {f : Addr} {fd : FuncData}
def spSquare (K : PySem.W.Frag) : Sp := fun vs H Q _ => ∃ (v : V) (m : List (List Int)), vs = [v] ∧ Fz K H v (tdm m) ∧ Sqr m ∧ ∀ H', Same H H' → Q .non H'
abbrev s_check_square : Stmt := top 19
abbrev N_check_square : List Str := ["lines", "row", "line"]
theorem sc_check_square : FnScope N_check_square ["lines"] (defScope s_check_square) := ⟨rfl, rfl, rfl, by decide +kernel, rfl, by decide +kernel, by decide +kernel⟩
theorem ok_check_square (F : Fun K "check_square" "check_square" s_check_square f fd) (T : Txt mg) : FnOk P w K mg base CX0 1 f fd ["lines"] (spSquare K) := by
  refine F.ok sc_check_square (fun vs H Q E h => ?_) (fun cdv A outer s H vs Q E hr h => ?_)
  · obtain ⟨v, m, rfl, _⟩ := h
    rfl
  obtain ⟨v, m, rfl, hz, hs, q⟩ := h
  obtain ⟨a, vs, rfl, ha, hl, hrow⟩ := fz_mat hz
  refine ⟨_, (pss_one (ps_for PassesOwn.never rfl (WE.pi_enT (by rfl) T.b_enumerate (pa_cons (pv 0) pa_nil)) (pg_tup rfl (pgs_cons (pg_name (i := 1) sc_check_square.nd rfl (Or.inl rfl)) (pgs_cons (pg_name (i := 2) sc_check_square.nd rfl (Or.inl rfl)) pgs_nil))) (pss_one (ps_if (pt_cmpR op_ne (pe_callB call_len_seq (by rfl) T.b_len PySem.boot_len (pa_cons (pv 2) pa_nil)) (pe_callB call_len_seq (by rfl) T.b_len PySem.boot_len (pa_cons (pv 0) pa_nil)) (nomark _)) (pss_one ps_never) pss_nil)))), ?_⟩
  refine ⟨_, rfl, a, vs, rfl, ha, for_it (WE.walk_enT (K := K) (a := a) (xs := vs)) (fun i σ H' => ∃ v1 v2 : Option V, σ = [some (.ref a), v1, v2] ∧ Same H H') ⟨none, none, rfl, fun _ _ h => h⟩ (fun i σ H' _ ⟨_, _, _, s⟩ => Same_seqT s ha) ?_ ?_⟩
  · rintro i x σ H1 H2 hi ⟨v1, v2, rfl, s1⟩ y
    have s2 := ys_pair y
    obtain ⟨Tp, x1, x2, rfl, hT, rfl, e1, e2⟩ := y
    cases e1
    obtain ⟨r, hr1⟩ : ∃ r, m[i]? = some r := ⟨_, List.getElem?_eq_getElem (by omega)⟩
    obtain ⟨p, hp, hpr⟩ := hrow i r hr1
    rw [show vs[i]? = some x2 from e2] at hp
    cases hp
    have s3 := s1.trans s2
    refine ⟨_, _, rfl, SqT.of upd_same, rfl, _, _, rfl, _, _, rfl, rfl, ?_⟩
    refine ⟨_, rfl, _, _, rfl, .inr (Same_seqT s3 hpr), _, rfl, _, _, rfl, .inr (Same_seqT s3 ha), rfl, _, rfl, ifF ?_ ⟨_, _, rfl, s3⟩⟩
    have e : (((r.map V.int).length : Nat) : Int) = ((vs.length : Nat) : Int) := by rw [List.length_map, hl, hs r (List.mem_of_getElem? hr1)]
    rw [e]
    simp
  · rintro σ H' ⟨_, _, rfl, s1⟩
    exact q H' s1
def spSymm (K : PySem.W.Frag) : Sp := fun vs H Q _ => ∃ (v : V) (m : List (List Int)), vs = [v] ∧ Fz K H v (tdm m) ∧ Sqr m ∧ Sym m ∧ m.length ≤ 1000 ∧ Q .non H
theorem ent_at {m : List (List Int)} {i j : Nat} {r : List Int} (h : m[i]? = some r) (hj : j < r.length) : r[j]? = some (ent m i j) := by
  unfold ent
  rw [show m.getD i [] = r from by rw [List.getD_eq_getElem?_getD, h]; rfl, List.getD_eq_getElem?_getD, List.getElem?_eq_getElem hj]
  rfl
theorem at_int {ns : List Int} {j : Nat} {x : Int} (h : ns[j]? = some x) : (ns.map V.int)[j]? = some (.int x) := by
  rw [List.getElem?_map, h]
  rfl
abbrev s_check_symmetric : Stmt := top 20
abbrev N_check_symmetric : List Str := ["lines", "row", "column"]
theorem sc_check_symmetric : FnScope N_check_symmetric ["lines"] (defScope s_check_symmetric) := ⟨rfl, rfl, rfl, by decide +kernel, rfl, by decide +kernel, by decide +kernel⟩
theorem ok_check_symmetric (F : Fun K "check_symmetric" "check_symmetric" s_check_symmetric f fd) (T : Txt mg) : FnOk P w K mg base CX0 1 f fd ["lines"] (spSymm K) := by
  refine F.ok sc_check_symmetric (fun vs H Q E h => ?_) (fun cdv A outer s H vs Q E hr h => ?_)
  · obtain ⟨v, m, rfl, _⟩ := h
    rfl
  obtain ⟨v, m, rfl, hz, hs, hsy, h1000, q⟩ := h
  obtain ⟨a, vs, rfl, ha, hl, hrow⟩ := fz_mat hz
  refine ⟨_, (pss_one (ps_for PassesOwn.never rfl (pi_range1 (by rfl) T.b_range (pa_cons (pe_callB call_len_seq (by rfl) T.b_len PySem.boot_len (pa_cons (pv 0) pa_nil)) pa_nil)) (pg_name (i := 1) sc_check_symmetric.nd rfl (Or.inl rfl)) (pss_one (ps_for PassesOwn.never rfl (pi_range2 (by rfl) T.b_range (pa_cons (pe_op op_add (pv 1) pe_int) (pa_cons (pe_callB call_len_seq (by rfl) T.b_len PySem.boot_len (pa_cons (pv 0) pa_nil)) pa_nil))) (pg_name (i := 2) sc_check_symmetric.nd rfl (Or.inl rfl)) (pss_one (ps_if (pt_cmpR op_ne (pe_ix ix_tup (pe_ix ix_tup (pv 0) (pv 1) (fun _ _ => rfl)) (pv 2) (fun _ _ => rfl)) (pe_ix ix_tup (pe_ix ix_tup (pv 0) (pv 2) (fun _ _ => rfl)) (pv 1) (fun _ _ => rfl)) (nomark _)) (pss_one ps_never) pss_nil)))))), ?_⟩
  have row : ∀ i, i < m.length → ∃ (p : Addr) (r : List Int), vs[i]? = some (.ref p) ∧ SqT K H p (r.map V.int) ∧ ∀ j, j < m.length → r[j]? = some (ent m i j) := fun i hi => by
    have e := List.getElem?_eq_getElem hi
    obtain ⟨p, h1, h2⟩ := hrow i _ e
    exact ⟨p, _, h1, h2, fun j hj => ent_at e (by rw [hs _ (List.mem_of_getElem? e)]; exact hj)⟩
  refine ⟨_, rfl, _, _, rfl, .inr ha, (m.length : Int), by rw [hl], by omega, by omega, for_range (lo := 0) (n := m.length) (fun i σ H' => ∃ v1 v2 : Option V, σ = [some (.ref a), v1, v2] ∧ H' = H) ⟨none, none, rfl, rfl⟩ ?_ ?_⟩
  · rintro i σ H' hi ⟨v1, v2, rfl, rfl⟩
    obtain ⟨p, r, hp, hpr, hent⟩ := row i hi
    refine ⟨_, rfl, _, _, rfl, rfl, _, rfl, _, _, rfl, .inr ha, 0 + (i : Int) + 1, (m.length : Int), by rw [hl], ⟨by omega, by omega, by omega, by omega⟩, ?_⟩
    refine for_range (lo := 0 + (i : Int) + 1) (n := ((m.length : Int) - (0 + (i : Int) + 1)).toNat) (fun j σ H1 => ∃ v2 : Option V, σ = [some (.ref a), some (.int (0 + (i : Int))), v2] ∧ H1 = H') ⟨v2, rfl, rfl⟩ ?_ ?_
    · rintro j σ H1 hj ⟨v2, rfl, rfl⟩
      have hk : i + 1 + j < m.length := by omega
      obtain ⟨p2, r2, hp2, hpr2, hent2⟩ := row (i + 1 + j) hk
      have ei : (0 + (i : Int)).toNat = i := by omega
      have ej : (0 + (i : Int) + 1 + (j : Int)).toNat = i + 1 + j := by omega
      refine ⟨_, rfl, _, rfl, a, _, _, _, rfl, rfl, ha, at_pos (by omega) (by rw [ei]; exact hp), _, rfl, p, _, _, _, rfl, rfl, hpr, at_pos (by omega) (by rw [ej]; exact at_int (hent _ hk)), ?_⟩
      refine ⟨_, rfl, _, rfl, a, _, _, _, rfl, rfl, ha, at_pos (by omega) (by rw [ej]; exact hp2), _, rfl, p2, _, _, _, rfl, rfl, hpr2, at_pos (by omega) (by rw [ei]; exact at_int (hent2 _ hi)), ?_⟩
      refine ⟨rfl, _, rfl, ifF ?_ ⟨_, rfl, rfl⟩⟩
      rw [hsy i (i + 1 + j)]
      simp
    · rintro σ H1 ⟨v2, rfl, rfl⟩
      exact ⟨_, _, rfl, rfl⟩
  · rintro σ H' ⟨_, _, rfl, rfl⟩
    exact q
end
end P09
namespace P09
open PySem PySem.Spec PyProof.Rows L2 SX EX WK
theorem putF_ne {f g : Str} {x v : V} {r : List (Str × V)} (h : ¬ g = f) : putF f v ((g, x) :: r) = (g, x) :: putF f v r := if_neg h
theorem flF (n e b : V) : putF "bottom" b (putF "entries" e (putF "size" n [])) = ([("size", n), ("entries", e), ("bottom", b)] : List (Str × V)) := by
  show putF "bottom" b (putF "entries" e [("size", n)]) = _
  rw [putF_ne (by decide +kernel)]
  show putF "bottom" b [("size", n), ("entries", e)] = _
  rw [putF_ne (by decide +kernel), putF_ne (by decide +kernel)]
  rfl
theorem dep_tdm {m : List (List Int)} : (tdm m).dep ≤ 2 := by
  simp only [tdm, Td.dep]
  have : Td.deps (m.map fun r => .tup (r.map Td.int)) ≤ 1 := deps_all fun t h => by
    obtain ⟨r, _, rfl⟩ := List.mem_map.mp h
    simp only [Td.dep]
    have : Td.deps (r.map Td.int) ≤ 0 := deps_all fun t h => by
      obtain ⟨n, _, rfl⟩ := List.mem_map.mp h
      exact Nat.le_refl _
    omega
  omega
theorem sm_ints {ns : List Int} (h : ns.length ≤ 16000000) : (Td.tup (ns.map Td.int)).sm := by
  simp only [Td.sm]
  refine ⟨by rw [List.length_map]; exact h, sms_all fun t h => ?_⟩
  obtain ⟨n, _, rfl⟩ := List.mem_map.mp h
  simp only [Td.sm]
theorem sm_tdm {m : List (List Int)} (h : m.length ≤ 16000000) (hr : ∀ r ∈ m, r.length ≤ 16000000) : (tdm m).sm := by
  simp only [tdm, Td.sm]
  refine ⟨by rw [List.length_map]; exact h, sms_all fun t h => ?_⟩
  obtain ⟨r, hm, rfl⟩ := List.mem_map.mp h
  exact sm_ints (hr r hm)
theorem flat_len {n : Nat} : ∀ {m : List (List Int)}, (∀ r ∈ m, r.length = n) → m.flatten.length = m.length * n
  | [], _ => by simp
  | r :: m, h => by
    rw [List.flatten_cons, List.length_append, flat_len fun x hx => h x (List.mem_cons_of_mem _ hx), h r List.mem_cons_self, List.length_cons, Nat.succ_mul]
    omega
theorem flat_row {n : Nat} : ∀ {m : List (List Int)} {i : Nat} {r : List Int}, (∀ r ∈ m, r.length = n) → m[i]? = some r → (m.flatten.drop (i * n)).take n = r
  | [], i, r, _, h => by simp at h
  | x :: m, 0, r, hl, h => by
    cases h
    rw [Nat.zero_mul, List.drop_zero, List.flatten_cons, List.take_left' (hl x List.mem_cons_self)]
  | x :: m, i + 1, r, hl, h => by
    have hx := hl x List.mem_cons_self
    rw [List.flatten_cons, Nat.succ_mul, Nat.add_comm, List.drop_append, List.drop_of_length_le (by omega), List.nil_append]
    have e : n + i * n - x.length = i * n := by omega
    rw [e]
    exact flat_row (fun y hy => hl y (List.mem_cons_of_mem _ hy)) (by simpa using h)
theorem flat_take {m : List (List Int)} {i : Nat} {r : List Int} (h : m[i]? = some r) : (m.take (i + 1)).flatten = (m.take i).flatten ++ r := by
  rw [take_one h, List.flatten_append]
  simp
/-- a form -/
def FormAt (K : PySem.W.Frag) (H : Hp) (C p : Addr) (n : Nat) (m : List (List Int)) (b : Int) : Prop := ∃ dx e, H p = some (.ins C dx [("size", .int n), ("entries", .ref e), ("bottom", .int b)]) ∧ Fz K H (.ref e) (tdm m)
/-- all but the thing at a stays -/
def But (a : Addr) (H H' : Hp) : Prop := ∀ c o, H c = some o → c ≠ a → H' c = some o
theorem But.of {a : Addr} {H H' : Hp} (s : Same H H') : But a H H' := fun c o e _ => s c o e
theorem But.put {a : Addr} {H H' : Hp} (s : But a H H') (o : HO) : But a H (upd H' a o) := fun c u e h => by rw [upd_ne h]; exact s c u e h
theorem But.then {a : Addr} {H H' H2 : Hp} (s : But a H H') (t : Same H' H2) : But a H H2 := fun c u e h => t c u (s c u e h)
def dm (m : List (List Int)) (g : Int) : List (List Int) := m.map fun r => r.map fun x => x / g
theorem sIx_of {n d : Nat} {z : Int} {k : Nat} (e : z = (k : Int)) (h : k ≤ n) : HT.sIx n d (some z) = k := by
  rw [e, HT.sIx_nat]
  omega
def spForm (K : PySem.W.Frag) (C : Addr) : Sp := fun vs H Q _ => ∃ (a dx : Addr) (v : V) (m : List (List Int)) (b : Int), vs = [.ref a, v, .int b] ∧ H a = some (.ins C dx []) ∧ Sn K H v (tdm m) ∧ Sqr m ∧ Sym m ∧ m.length ≤ 300 ∧ 0 < b ∧ B 9000 b ∧
  ∀ H', FormAt K H' C a m.length (dm m (gf b m.flatten)) (b / gf b m.flatten) → But a H H' → Q .non H'
section
variable {P : Program} {w : World} {K : PySem.W.Frag} {mg : Str → Option Value} {base : Heap} {f : Addr} {fd : FuncData} {cF cR : Addr}
abbrev s_iForm : Stmt := mth 24 0
abbrev N_iForm : List Str := ["self", "entries", "bottom", "lines", "size", "numbers", "least_bottom", "line", "number", "row"]
theorem sc_iForm : FnScope N_iForm ["self", "entries", "bottom"] (defScope s_iForm) := ⟨rfl, rfl, rfl, by decide +kernel, rfl, by decide +kernel, by decide +kernel⟩
theorem ok_iForm {kws : List (Str × V)} (F : FunD K "__init__" "Form.__init__" (defArgs s_iForm) (defBody s_iForm) (defScope s_iForm) [] kws f fd) (T : Txt mg) (O : Obs K cF cR) (C_frozen : Cal P w K mg base 3 "frozen" ["value"] (spFz K 3)) (C_check_square : Cal P w K mg base 1 "check_square" ["lines"] (spSquare K))
    (C_check_symmetric : Cal P w K mg base 1 "check_symmetric" ["lines"] (spSymm K)) (C_lowered : Cal P w K mg base 1 "lowered" ["numbers", "bottom"] spLow) : FnOk P w K mg base CX0 4 f fd ["self", "entries", "bottom"] (spForm K cF) := by
  refine F.ok sc_iForm (fun vs H Q E h => ?_) (fun cdv A outer s H vs Q E hr h => ?_)
  · obtain ⟨a, dx, v, m, b, rfl, _⟩ := h
    rfl
  obtain ⟨a, dx, v, m, b, rfl, hself, hv, hsq, hsy, hn, hb, hB, q⟩ := h
  refine ⟨_, (pss_cons (ps_set (i := 3) sc_iForm.nd rfl (Or.inl rfl) (pe_cal C_frozen (hr.mono (by omega)) rfl (pa_cons (pv 1) pa_nil)))
  (pss_cons (ps_expr (pe_cal C_check_square (hr.mono (by omega)) rfl (pa_cons (pv 3) pa_nil)))
  (pss_cons (ps_expr (pe_cal C_check_symmetric (hr.mono (by omega)) rfl (pa_cons (pv 3) pa_nil)))
  (pss_cons (ps_set (i := 4) sc_iForm.nd rfl (Or.inr rfl) (pe_callB call_len_seq (by rfl) T.b_len PySem.boot_len (pa_cons (pv 3) pa_nil)))
  (pss_cons (ps_asg (pe_cal C_lowered (hr.mono (by omega)) rfl (pa_cons (pe_lc2 (own := [("line", 7), ("number", 8)]) (vs1 := [8]) (g := gName 7) (tt := tYes) (g1 := gName 8) (tt1 := tYes) (by rfl) sc_iForm.nd (pi_tup (pv 3)) (blkOk_by (N := N_iForm) (sc := defScope s_iForm) (by decide +kernel)) (by decide) (fun _ _ _ _ _ => (pg_name (i := 7) sc_iForm.nd rfl (Or.inl rfl))) (fun _ _ _ _ _ => pts_nil) (fun _ _ _ _ _ => (pi_tupK (K := K) rfl (pv 7))) (fun _ _ _ _ _ => (pg_name (i := 8) sc_iForm.nd rfl (Or.inl rfl))) (fun _ _ _ _ _ => pts_nil) (fun _ _ _ _ _ => (pv 8))) (pa_cons (pv 2) pa_nil))) (pg_tup rfl (pgs_cons (pg_name (i := 5) sc_iForm.nd rfl (Or.inr rfl)) (pgs_cons (pg_name (i := 6) sc_iForm.nd rfl (Or.inl rfl)) pgs_nil))))
  (pss_cons (ps_fld (pv 0) (pv 4) rfl)
  (pss_cons (ps_fld (pv 0) (pe_callTy call_tuple_of (by rfl) T.b_tuple (by decide +kernel) (pa_cons (pe_lc (own := [("row", 9)]) (g := gName 9) (tt := tYes) (by rfl) sc_iForm.nd (pi_range1 (by rfl) T.b_range (pa_cons (pv 4) pa_nil)) (blkOk_by (N := N_iForm) (sc := defScope s_iForm) (by decide +kernel)) (fun _ _ _ _ _ => (pg_name (i := 9) sc_iForm.nd rfl (Or.inl rfl))) (fun _ _ _ _ _ => pts_nil) (fun _ _ _ _ _ => (pe_slice (sl_tupAK (K := K) rfl) (pv 5) (po_some (pe_op op_mulW (pv 9) (pv 4))) (po_some (pe_op op_add (pe_op op_mulW (pv 9) (pv 4)) (pv 4)))))) pa_nil)) rfl)
  (pss_one (ps_fld (pv 0) (pv 6) rfl))))))))), ?_⟩
  have hrl : ∀ r ∈ m, r.length ≤ 16000000 := fun r hr => by rw [hsq r hr]; omega
  refine ⟨_, rfl, _, tdm m, rfl, hv, Nat.le_trans dep_tdm (by omega), sm_tdm (by omega) hrl, fun v1 H1 s1 hz1 => ?_⟩
  refine ⟨_, rfl, _, m, rfl, hz1, hsq, fun H2 s2 => ?_⟩
  have hz2 := hz1.tk (WK.Same.tk s2)
  refine ⟨_, rfl, _, m, rfl, hz2, hsq, hsy, by omega, ?_⟩
  obtain ⟨e, vs, rfl, he, hl, hrow⟩ := fz_mat hz2
  refine ⟨_, rfl, _, _, rfl, .inr he, ?_⟩
  have hfl := flat_len hsq
  have hfn : m.flatten.length ≤ 16000000 := by
    rw [hfl]
    exact Nat.le_trans (Nat.mul_le_mul hn hn) (by decide)
  refine ⟨_, rfl, e, rfl, ⟨_, he⟩, fun D hD => ?_⟩
  refine ⟨fun i k H3 => k = m.length - i ∧ i ≤ m.length ∧ Same H2 H3 ∧ H3 D = some (.lst (((m.take i).flatten).map V.int)), ⟨_, rfl, Nat.zero_le _, same_new hD _, by rw [upd_same, List.take_zero]; rfl⟩, ?_⟩
  rintro i k H3 ⟨rfl, hi, s3, h3⟩
  by_cases hlt : i < m.length
  · obtain ⟨r, hr1⟩ : ∃ r, m[i]? = some r := ⟨_, List.getElem?_eq_getElem hlt⟩
    obtain ⟨p, hp, hpr⟩ := hrow i r hr1
    have hrn := hsq r (List.mem_of_getElem? hr1)
    refine .inr ⟨⟨vs, _, Same_seqT s3 he, hp⟩, fun H4 => Same H2 H4 ∧ H4 D = some (.lst (((m.take (i + 1)).flatten).map V.int)), fun H4 h4 => ⟨_, by omega, rfl, hlt, h4.1, h4.2⟩, ?_⟩
    rintro x H4 ⟨rfl, hx⟩
    have hx2 := hx vs (Same_seqT s3 he)
    rw [hp] at hx2
    cases hx2
    refine ⟨rfl, lc_yes ⟨_, rfl, p, rfl, ⟨_, Same_seqT s3 hpr⟩, ?_⟩⟩
    refine ⟨fun j k H5 => k = r.length - j ∧ j ≤ r.length ∧ Same H2 H5 ∧ H5 D = some (.lst (((m.take i).flatten ++ r.take j).map V.int)), ⟨_, rfl, Nat.zero_le _, s3, by rw [List.take_zero, List.append_nil]; exact h3⟩, ?_⟩
    rintro j k H5 ⟨rfl, hj, s5, h5⟩
    by_cases hjlt : j < r.length
    · have hy : r[j]? = some r[j] := List.getElem?_eq_getElem hjlt
      refine .inr ⟨⟨r.map V.int, .int r[j], Same_seqT s5 hpr, at_int hy⟩, fun H6 => Same H2 H6 ∧ H6 D = some (.lst (((m.take i).flatten ++ r.take (j + 1)).map V.int)), fun H6 h6 => ⟨_, by omega, rfl, hjlt, h6.1, h6.2⟩, ?_⟩
      rintro x H6 ⟨rfl, hx⟩
      have hx2 := hx _ (Same_seqT s5 hpr)
      rw [at_int hy] at hx2
      cases hx2
      refine ⟨rfl, lc_yes ⟨_, rfl, _, h5, ?_, same_at s5 hD, ?_⟩⟩
      · refine sizes (Nat.le_trans ?_ hfn)
        rw [List.length_map, List.length_append, List.length_take, flat_len (n := m.length) (fun x hx => hsq x (List.mem_of_mem_take hx)), List.length_take, hfl]
        have h1 : (min i m.length + 1) * m.length ≤ m.length * m.length := Nat.mul_le_mul_right _ (by omega)
        rw [Nat.add_mul, Nat.one_mul] at h1
        omega
      · rw [upd_same, take_one hy, ← List.append_assoc, List.map_append (l₂ := [r[j]])]
        rfl
    · have ej : j = r.length := by omega
      refine .inl ⟨⟨_, Same_seqT s5 hpr, by rw [List.length_map, ej]; exact Nat.le_refl _⟩, s5, ?_⟩
      rw [h5, ej, List.take_length, flat_take hr1]
  · have ei : i = m.length := by omega
    refine .inl ⟨⟨vs, Same_seqT s3 he, by omega⟩, ?_⟩
    rw [ei, List.take_length] at h3
    clear hlt hi
    refine ⟨_, rfl, D, m.flatten, b, rfl, h3, hb, hB, hfn, fun r t H5 s5 hr5 ht5 => ?_⟩
    have hg := gf_pos hb m.flatten
    refine ⟨_, _, rfl, SqT.of hr5, rfl, _, _, rfl, _, _, rfl, rfl, ?_⟩
    have sA : Same H H5 := s1.trans (s2.trans (s3.trans s5))
    refine ⟨_, rfl, _, rfl, a, cF, dx, _, rfl, sA _ _ hself, O.clF, O.F_size, (by show 0 < 1000; decide), ?_⟩
    generalize hH6 : upd H5 a _ = H6
    have hs6 : H6 a = some (.ins cF dx (putF "size" (.int (vs.length : Nat)) [])) := by rw [← hH6, upd_same]
    have b6 : But a H H6 := by rw [← hH6]; exact (But.of sA).put _
    have ht6 : SqT K H6 t ((m.flatten.map fun n => n / gf b m.flatten).map V.int) := by
      refine .inl (.inl ?_)
      rw [← hH6, upd_ne (ne_of ht5 (sA _ _ hself) (by intro z; cases z))]
      exact ht5
    refine ⟨_, rfl, _, rfl, by omega, by omega, fun D2 hD2 => ?_⟩
    refine lc_m (walk_range (lo := 0) (n := (vs.length : Int).toNat)) (Fz K) stb_Fz (List.range m.length) (by rw [List.length_range]; omega) (by rw [List.length_range]; omega) hD2 (fun _ _ => trivial) (fun _ _ _ _ => ys_fn) (fun i => .tup (((dm m (gf b m.flatten)).getD i []).map Td.int)) (fun k i x H7 H8 hb2 s7 s8 y A2 B2 hA => ?_) (fun H7 l s7 hl7 rs => ?_)
    · have ek : k < m.length ∧ i = k := by
        have h1 := (List.getElem?_eq_some_iff.mp hb2).1
        rw [List.length_range] at h1
        rw [List.getElem?_range h1] at hb2
        exact ⟨h1, (Option.some.inj hb2).symm⟩
      obtain ⟨hk, rfl⟩ := ek
      rw [y.2]
      have cm : CMulW (0 + (i : Int)) ((vs.length : Nat) : Int) := wmul (m := 20) (n := 20) (by show (0 + (i : Int)).natAbs < 2 ^ 20; omega) (by show ((vs.length : Nat) : Int).natAbs < 2 ^ 20; omega) (by decide) (by decide) (by decide)
      refine ⟨rfl, lc_yes ⟨_, rfl, _, rfl, _, rfl, _, _, rfl, rfl, cm, _, rfl, _, rfl, _, rfl, _, _, rfl, rfl, cm, _, rfl, _, _, rfl, rfl, _, rfl, ?_⟩⟩
      have hdr : (dm m (gf b m.flatten))[i]? = some (((m[i]).map fun x => x / gf b m.flatten)) := by
        unfold dm
        rw [List.getElem?_map, List.getElem?_eq_getElem hk]
        rfl
      have hdl : ∀ r ∈ dm m (gf b m.flatten), r.length = m.length := fun r hr => by
        obtain ⟨r0, h0, rfl⟩ := List.mem_map.mp hr
        rw [List.length_map]
        exact hsq r0 h0
      have hfr := flat_row hdl hdr
      have hff : (dm m (gf b m.flatten)).flatten = m.flatten.map fun n => n / gf b m.flatten := by
        unfold dm
        rw [List.map_flatten]
      rw [hff] at hfr
      have hgd : (dm m (gf b m.flatten)).getD i [] = (m[i]).map fun x => x / gf b m.flatten := by
        rw [List.getD_eq_getElem?_getD, hdr]
        rfl
      have hN : ((m.flatten.map fun n => n / gf b m.flatten).map V.int).length = m.length * m.length := by rw [List.length_map, List.length_map, hfl]
      have hmul : i * m.length + m.length ≤ m.length * m.length := by
        have h1 : (i + 1) * m.length ≤ m.length * m.length := Nat.mul_le_mul_right _ hk
        rw [Nat.add_mul, Nat.one_mul] at h1
        exact h1
      have e1 : HT.sIx ((m.flatten.map fun n => n / gf b m.flatten).map V.int).length 0 (some ((0 + (i : Int)) * ((vs.length : Nat) : Int))) = i * m.length := sIx_of (by rw [hl, Int.zero_add]; exact (Int.natCast_mul _ _).symm) (by rw [hN]; omega)
      have e2 : HT.sIx ((m.flatten.map fun n => n / gf b m.flatten).map V.int).length ((m.flatten.map fun n => n / gf b m.flatten).map V.int).length (some ((0 + (i : Int)) * ((vs.length : Nat) : Int) + ((vs.length : Nat) : Int))) = i * m.length + m.length := sIx_of (by rw [hl, Int.zero_add, ← Int.natCast_mul, ← Int.natCast_add]) (by rw [hN]; exact hmul)
      have hcut : cutV ((m.flatten.map fun n => n / gf b m.flatten).map V.int) (some ((0 + (i : Int)) * ((vs.length : Nat) : Int))) (some ((0 + (i : Int)) * ((vs.length : Nat) : Int) + ((vs.length : Nat) : Int))) = ((m[i]).map fun x => x / gf b m.flatten).map V.int := by
        unfold cutV
        rw [e1, e2, Nat.add_sub_cancel_left, ← List.map_drop, ← List.map_take, hfr]
      have hfz : ∀ {H9 : Hp} {p : Addr}, SqT K H9 p (((m[i]).map fun x => x / gf b m.flatten).map V.int) → Fz K H9 (.ref p) (.tup (((dm m (gf b m.flatten)).getD i []).map Td.int)) := fun h => by
        rw [hgd]
        exact .tup h (FzAll.of_ints _)
      refine ⟨t, _, rfl, Same_seqT s8 ht6, fun hw => ?_, fun _ p hp => ?_⟩
      · refine hA _ _ (fun _ _ h => h) (hfz ?_)
        rw [e1, e2] at hw
        rw [← hcut]
        unfold cutV
        rw [e1, e2, hw.2, hw.1, List.drop_zero, Nat.sub_zero, List.take_length]
        exact Same_seqT s8 ht6
      · refine hA _ _ (same_new hp _) (hfz (SqT.of ?_))
        rw [upd_same, hcut]
    · refine ⟨D2, l, rfl, .inl ⟨SqL.of hl7, fun t2 ht2 => ?_⟩⟩
      have sB : Same H6 (upd H7 t2 (.tup l)) := s7.trans (same_new ht2 _)
      refine ⟨_, rfl, a, cF, dx, _, rfl, sB _ _ hs6, O.clF, O.F_entries, (by show 1 < 1000; decide), ?_⟩
      refine ⟨_, rfl, _, rfl, a, cF, dx, _, rfl, upd_same, O.clF, O.F_bottom, (by show 2 < 1000; decide), ?_⟩
      have hfz : FzAll K H7 l ((dm m (gf b m.flatten)).map fun r => .tup (r.map Td.int)) := by
        have e : ((List.range m.length).map fun i => Td.tup (((dm m (gf b m.flatten)).getD i []).map Td.int)) = (dm m (gf b m.flatten)).map fun r => .tup (r.map Td.int) := by
          refine List.ext_getElem? fun i => ?_
          rw [List.getElem?_map, List.getElem?_map]
          have hdl : (dm m (gf b m.flatten)).length = m.length := by unfold dm; rw [List.length_map]
          by_cases hi : i < m.length
          · rw [List.getElem?_range hi, List.getElem?_eq_getElem (by omega : i < (dm m (gf b m.flatten)).length)]
            show some (Td.tup (((dm m (gf b m.flatten)).getD i []).map Td.int)) = _
            rw [List.getD_eq_getElem?_getD, List.getElem?_eq_getElem (by omega : i < (dm m (gf b m.flatten)).length)]
            rfl
          · rw [List.getElem?_eq_none (by rw [List.length_range]; omega), List.getElem?_eq_none (by omega)]
            rfl
        rw [← e]
        exact rs.fz
      have tkB : Tk K H7 (upd (upd (upd H7 t2 (.tup l)) a (.ins cF dx (putF "entries" (.ref t2) (putF "size" (.int (vs.length : Nat)) [])))) a (.ins cF dx (putF "bottom" (.int (b / gf b m.flatten)) (putF "entries" (.ref t2) (putF "size" (.int (vs.length : Nat)) []))))) := fun x ys h => by
        have h1 := Same_seqT (same_new ht2 (.tup l)) h
        have h2 : (upd H7 t2 (.tup l)) a = some (.ins cF dx (putF "size" (.int (vs.length : Nat)) [])) := sB _ _ hs6
        have h3 := tk_ins (K := K) h2 (H' := upd (upd H7 t2 (.tup l)) a (.ins cF dx (putF "entries" (.ref t2) (putF "size" (.int (vs.length : Nat)) [])))) (fun c o hc e => by rw [upd_ne hc]; exact e) _ _ h1
        exact tk_ins (K := K) (upd_same (H := upd H7 t2 (.tup l)) (a := a)) (fun c o hc e => by rw [upd_ne hc]; exact e) _ _ h3
      refine q _ ⟨dx, t2, ?_, .tup ?_ (hfz.tk tkB)⟩ (((b6.then sB).put _).put _)
      · rw [upd_same, hl, flF]
      · have h1 : SqT K (upd H7 t2 (.tup l)) t2 l := SqT.of upd_same
        have h2 : (upd H7 t2 (.tup l)) a = some (.ins cF dx (putF "size" (.int (vs.length : Nat)) [])) := sB _ _ hs6
        have h3 := tk_ins (K := K) h2 (H' := upd (upd H7 t2 (.tup l)) a (.ins cF dx (putF "entries" (.ref t2) (putF "size" (.int (vs.length : Nat)) [])))) (fun c o hc e => by rw [upd_ne hc]; exact e) _ _ h1
        exact tk_ins (K := K) (upd_same (H := upd H7 t2 (.tup l)) (a := a)) (fun c o hc e => by rw [upd_ne hc]; exact e) _ _ h3
end
end P09
/-! Sums, square tables as functions, lowest terms. -/
namespace P09
open PySem PySem.Spec PyProof.Rows L2 SX EX WK
theorem quot_pos {x g : Int} (hg : 0 < g) (hd : g ∣ x) (hx : 1 ≤ x) : 1 ≤ x / g := by
  obtain ⟨k, rfl⟩ := hd
  rw [Int.mul_ediv_cancel_left _ (by omega)]
  rcases Int.lt_or_le k 1 with h | h
  · have : g * k ≤ 0 := Int.mul_nonpos_of_nonneg_of_nonpos (by omega) (by omega)
    omega
  · exact h
def Ls {α : Type} (l : List α) (f : α → Int) : Int := (l.map f).sum
theorem Ls_nil {α : Type} (f : α → Int) : Ls [] f = 0 := rfl
theorem Ls_cons {α : Type} (a : α) (l : List α) (f : α → Int) : Ls (a :: l) f = f a + Ls l f := by
  unfold Ls
  rw [List.map_cons, List.sum_cons]
theorem Ls_snoc {α : Type} (l : List α) (a : α) (f : α → Int) : Ls (l ++ [a]) f = Ls l f + f a := by
  unfold Ls
  rw [List.map_append, List.sum_append]
  simp
theorem Ls_congr {α : Type} {l : List α} {f g : α → Int} (h : ∀ a ∈ l, f a = g a) : Ls l f = Ls l g := by
  unfold Ls
  rw [List.map_congr_left h]
theorem Ls_zero {α : Type} (l : List α) : Ls l (fun _ => 0) = 0 := by
  induction l with
  | nil => rfl
  | cons a l ih => rw [Ls_cons, ih]; rfl
theorem Ls_add {α : Type} (l : List α) (f g : α → Int) : Ls l (fun a => f a + g a) = Ls l f + Ls l g := by
  induction l with
  | nil => rfl
  | cons a l ih => rw [Ls_cons, Ls_cons, Ls_cons, ih]; omega
theorem Ls_mul {α : Type} (c : Int) (l : List α) (f : α → Int) : Ls l (fun a => c * f a) = c * Ls l f := by
  induction l with
  | nil => simp [Ls_nil]
  | cons a l ih => rw [Ls_cons, Ls_cons, ih, Int.mul_add]
theorem Ls_mulr {α : Type} (c : Int) (l : List α) (f : α → Int) : Ls l (fun a => f a * c) = Ls l f * c := by
  rw [Int.mul_comm, ← Ls_mul]
  exact Ls_congr fun a _ => Int.mul_comm _ _
theorem Ls_swap {α β : Type} (l : List α) (m : List β) (f : α → β → Int) : Ls l (fun a => Ls m (f a)) = Ls m fun b => Ls l fun a => f a b := by
  induction l with
  | nil =>
    rw [Ls_nil]
    exact (Ls_zero m).symm
  | cons a l ih =>
    rw [Ls_cons, ih, ← Ls_add]
    exact Ls_congr fun b _ => (Ls_cons a l fun a => f a b).symm
abbrev S (n : Nat) (f : Nat → Int) : Int := Ls (List.range n) f
theorem S_congr {n : Nat} {f g : Nat → Int} (h : ∀ i, i < n → f i = g i) : S n f = S n g := Ls_congr fun i hi => h i (List.mem_range.mp hi)
theorem S_congr2 {n m : Nat} {f g : Nat → Nat → Int} (h : ∀ i j, i < n → j < m → f i j = g i j) : S n (fun i => S m (f i)) = S n (fun i => S m (g i)) := S_congr fun i hi => S_congr fun j hj => h i j hi hj
theorem S_succ (n : Nat) (f : Nat → Int) : S (n + 1) f = S n f + f n := by
  show Ls (List.range (n + 1)) f = _
  rw [List.range_succ, Ls_snoc]
theorem BS {k c n : Nat} {f : Nat → Int} (h : ∀ i, i < n → B k (f i)) (hn : n ≤ 2 ^ c) : B (k + c) (S n f) := by
  have e : ∀ m, m ≤ n → (S m f).natAbs + m ≤ m * 2 ^ k := fun m hm => by
    induction m with
    | zero =>
      rw [show S 0 f = 0 from rfl]
      simp
    | succ m ih =>
      rw [S_succ, Nat.succ_mul]
      have h1 := ih (by omega)
      have h2 : (f m).natAbs < 2 ^ k := h m (by omega)
      have h3 := Int.natAbs_add_le (S m f) (f m)
      omega
  have h0 := e n (Nat.le_refl _)
  show (S n f).natAbs < 2 ^ (k + c)
  have p : 0 < 2 ^ k := Nat.two_pow_pos k
  rw [Nat.pow_add]
  have h1 : n * 2 ^ k ≤ 2 ^ k * 2 ^ c := by
    rw [Nat.mul_comm]
    exact Nat.mul_le_mul_left _ hn
  have p2 : 0 < 2 ^ k * 2 ^ c := Nat.mul_pos p (Nat.two_pow_pos c)
  rcases Nat.eq_zero_or_pos n with z | z
  · subst z
    show (Ls [] f).natAbs < _
    rw [Ls_nil]
    exact p2
  · omega
theorem BLs {α : Type} {k c : Nat} {l : List α} {f : α → Int} (h : ∀ a ∈ l, B k (f a)) (hn : l.length ≤ 2 ^ c) : B (k + c) (Ls l f) := by
  have e : ∀ m : List α, (∀ a ∈ m, a ∈ l) → (Ls m f).natAbs + m.length ≤ m.length * 2 ^ k := fun m hm => by
    induction m with
    | nil => simp [Ls_nil]
    | cons a m ih =>
      rw [Ls_cons, List.length_cons, Nat.succ_mul]
      have h1 := ih (fun a ha => hm a (List.mem_cons_of_mem _ ha))
      have h2 : (f a).natAbs < 2 ^ k := h a (hm a List.mem_cons_self)
      have h3 := Int.natAbs_add_le (f a) (Ls m f)
      omega
  have h0 := e l fun _ h => h
  show (Ls l f).natAbs < 2 ^ (k + c)
  have p : 0 < 2 ^ k := Nat.two_pow_pos k
  rw [Nat.pow_add]
  have h1 : l.length * 2 ^ k ≤ 2 ^ k * 2 ^ c := by
    rw [Nat.mul_comm]
    exact Nat.mul_le_mul_left _ hn
  have p2 : 0 < 2 ^ k * 2 ^ c := Nat.mul_pos p (Nat.two_pow_pos c)
  cases l with
  | nil =>
    rw [Ls_nil]
    exact p2
  | cons a l =>
    rw [List.length_cons] at h0 h1
    omega
/-! ### vectors, tables -/
def vec (n : Nat) (x : Nat → Int) : List Int := (List.range n).map x
def mat (n : Nat) (f : Nat → Nat → Int) : List (List Int) := (List.range n).map fun i => vec n (f i)
theorem vec_len {n : Nat} {x : Nat → Int} : (vec n x).length = n := by unfold vec; rw [List.length_map, List.length_range]
theorem mat_len {n : Nat} {f : Nat → Nat → Int} : (mat n f).length = n := by unfold mat; rw [List.length_map, List.length_range]
theorem vec_at {n i : Nat} {x : Nat → Int} (h : i < n) : (vec n x)[i]? = some (x i) := by
  unfold vec
  rw [List.getElem?_map, List.getElem?_range h]
  rfl
theorem vecV_at {n i : Nat} {x : Nat → Int} (h : i < n) : ((vec n x).map V.int)[i]? = some (.int (x i)) := by
  rw [List.getElem?_map, vec_at h]
  rfl
theorem mat_at {n i : Nat} {f : Nat → Nat → Int} (h : i < n) : (mat n f)[i]? = some (vec n (f i)) := by
  unfold mat
  rw [List.getElem?_map, List.getElem?_range h]
  rfl
theorem vec_congr {n : Nat} {x y : Nat → Int} (h : ∀ i, i < n → x i = y i) : vec n x = vec n y := List.map_congr_left fun i hi => h i (List.mem_range.mp hi)
theorem mat_congr {n : Nat} {f g : Nat → Nat → Int} (h : ∀ i j, i < n → j < n → f i j = g i j) : mat n f = mat n g := List.map_congr_left fun i hi => vec_congr fun j hj => h i j (List.mem_range.mp hi) hj
theorem vec_of {n : Nat} {ns : List Int} (h : ns.length = n) : ns = vec n fun i => ns.getD i 0 := by
  refine List.ext_getElem? fun i => ?_
  by_cases hi : i < n
  · rw [vec_at hi, List.getD_eq_getElem?_getD, List.getElem?_eq_getElem (by omega)]
    rfl
  · rw [List.getElem?_eq_none (by omega), List.getElem?_eq_none (by rw [vec_len]; omega)]
theorem mat_sqr {n : Nat} {f : Nat → Nat → Int} : Sqr (mat n f) := fun r hr => by
  rw [mat_len]
  obtain ⟨i, _, rfl⟩ := List.mem_map.mp hr
  exact vec_len
theorem mat_ent {n : Nat} {f : Nat → Nat → Int} {i j : Nat} : ent (mat n f) i j = if i < n ∧ j < n then f i j else 0 := by
  unfold ent
  by_cases hi : i < n
  · rw [show (mat n f).getD i [] = vec n (f i) from by rw [List.getD_eq_getElem?_getD, mat_at hi]; rfl]
    by_cases hj : j < n
    · rw [List.getD_eq_getElem?_getD, vec_at hj, if_pos ⟨hi, hj⟩]
      rfl
    · rw [List.getD_eq_getElem?_getD, List.getElem?_eq_none (by rw [vec_len]; omega), if_neg (fun h => hj h.2)]
      rfl
  · rw [if_neg (fun h => hi h.1), show (mat n f).getD i [] = [] from by
      rw [List.getD_eq_getElem?_getD, List.getElem?_eq_none (by rw [mat_len]; omega)]
      rfl]
    rfl
theorem mat_sym {n : Nat} {f : Nat → Nat → Int} (h : ∀ i j, i < n → j < n → f i j = f j i) : Sym (mat n f) := fun i j => by
  rw [mat_ent, mat_ent]
  by_cases c : i < n ∧ j < n
  · rw [if_pos c, if_pos ⟨c.2, c.1⟩, h i j c.1 c.2]
  · rw [if_neg c, if_neg fun g => c ⟨g.2, g.1⟩]
theorem mat_mem {n : Nat} {f : Nat → Nat → Int} {i j : Nat} (hi : i < n) (hj : j < n) : f i j ∈ (mat n f).flatten :=
  List.mem_flatten.mpr ⟨_, List.mem_of_getElem? (mat_at hi), List.mem_of_getElem? (vec_at hj)⟩
theorem dm_mat {n : Nat} {f : Nat → Nat → Int} {g : Int} : dm (mat n f) g = mat n fun i j => f i j / g := by
  unfold dm mat vec
  rw [List.map_map]
  refine List.map_congr_left fun i _ => ?_
  show ((List.range n).map (f i)).map _ = _
  rw [List.map_map]
  rfl
/-! ### lowest terms -/
theorem gI_one {t b : Int} (hb : 0 < b) : gI (t / gI t b) (b / gI t b) = 1 := by
  have g := gI_pos' (t := t) hb
  have g2 : 0 < Nat.gcd t.natAbs b.natAbs := Nat.gcd_pos_of_pos_right _ (by omega)
  have e1 : (t / gI t b).natAbs = t.natAbs / Nat.gcd t.natAbs b.natAbs := by
    unfold gI
    obtain ⟨k, hk⟩ := (gI_dvd1 : gI t b ∣ t)
    unfold gI at hk
    generalize Nat.gcd t.natAbs b.natAbs = d at *
    subst hk
    rw [Int.mul_ediv_cancel_left _ (by omega), Int.natAbs_mul, Int.natAbs_natCast, Nat.mul_div_cancel_left _ g2]
  have e2 : (b / gI t b).natAbs = b.natAbs / Nat.gcd t.natAbs b.natAbs := by
    unfold gI
    obtain ⟨k, hk⟩ := (gI_dvd2 : gI t b ∣ b)
    unfold gI at hk
    generalize Nat.gcd t.natAbs b.natAbs = d at *
    subst hk
    rw [Int.mul_ediv_cancel_left _ (by omega), Int.natAbs_mul, Int.natAbs_natCast, Nat.mul_div_cancel_left _ g2]
  show ((Nat.gcd (t / gI t b).natAbs (b / gI t b).natAbs : Nat) : Int) = 1
  rw [e1, e2, Nat.gcd_div_gcd_div_gcd_of_pos_right (by omega)]
  rfl
theorem cross {t b g : Int} (hg : 0 < g) (h1 : g ∣ t) (h2 : g ∣ b) : t / g * b = t * (b / g) := by
  obtain ⟨k, rfl⟩ := h1
  obtain ⟨l, rfl⟩ := h2
  rw [Int.mul_ediv_cancel_left _ (by omega), Int.mul_ediv_cancel_left _ (by omega), Int.mul_comm g k, Int.mul_assoc]
/-- two quotients of the same number -/
theorem cross2 {t b g u v : Int} (hg : 0 < g) (h1 : g ∣ t) (h2 : g ∣ b) (h : t * v = u * b) : t / g * v = u * (b / g) := by
  obtain ⟨k, rfl⟩ := h1
  obtain ⟨l, rfl⟩ := h2
  rw [Int.mul_ediv_cancel_left _ (by omega), Int.mul_ediv_cancel_left _ (by omega)]
  have e : g * (k * v) = g * (u * l) := by
    rw [← Int.mul_assoc, h, Int.mul_left_comm]
  exact Int.eq_of_mul_eq_mul_left (by omega) e
theorem gI_scale {t b g : Int} (hg : 0 < g) (h1 : g ∣ t) (h2 : g ∣ b) : gI t b = g * gI (t / g) (b / g) := by
  obtain ⟨k, rfl⟩ := h1
  obtain ⟨l, rfl⟩ := h2
  rw [Int.mul_ediv_cancel_left _ (by omega), Int.mul_ediv_cancel_left _ (by omega)]
  unfold gI
  rw [Int.natAbs_mul, Int.natAbs_mul, Nat.gcd_mul_left]
  have : ((g.natAbs : Nat) : Int) = g := by omega
  rw [Int.natCast_mul, this]
theorem gf_scale {g : Int} (hg : 0 < g) : ∀ {ns : List Int} {b : Int}, g ∣ b → (∀ n ∈ ns, g ∣ n) → gf b ns = g * gf (b / g) (ns.map (· / g))
  | [], b, h, _ => by
    obtain ⟨k, rfl⟩ := h
    show g * k = g * (g * k / g)
    rw [Int.mul_ediv_cancel_left _ (by omega)]
  | n :: ns, b, h, hn => by
    have h1 := hn n List.mem_cons_self
    have e := gI_scale hg h h1
    have hd : g ∣ gI b n := ⟨_, e⟩
    show gf (gI b n) ns = g * gf (gI (b / g) (n / g)) (ns.map (· / g))
    rw [gf_scale hg hd fun m hm => hn m (List.mem_cons_of_mem _ hm)]
    congr 2
    rw [e, Int.mul_ediv_cancel_left _ (by omega)]
theorem gf_one {b : Int} (hb : 0 < b) (ns : List Int) : gf (b / gf b ns) (ns.map (· / gf b ns)) = 1 := by
  have hg := gf_pos hb ns
  have h := gf_scale hg (ns := ns) (b := b) (gf_dvd ns).1 (gf_dvd ns).2
  have e : gf b ns * 1 = gf b ns * gf (b / gf b ns) (ns.map (· / gf b ns)) := by rw [Int.mul_one]; exact h
  exact (Int.eq_of_mul_eq_mul_left (by omega) e).symm
theorem flat_mat {n : Nat} {f : Nat → Nat → Int} {g : Int} : (mat n fun i j => f i j / g).flatten = (mat n f).flatten.map (· / g) := by
  rw [← dm_mat]
  unfold dm
  rw [List.map_flatten]
/-- a form in lowest terms, of T over U -/
structure Red (n : Nat) (f : Nat → Nat → Int) (b : Int) (k : Nat) : Prop where
  pos : 0 < b
  bb : B k b
  fb : ∀ i j, i < n → j < n → B k (f i j)
  sym : ∀ i j, i < n → j < n → f i j = f j i
  one : gf b (mat n f).flatten = 1
def Is (n : Nat) (f : Nat → Nat → Int) (b : Int) (T : Nat → Nat → Int) (U : Int) : Prop := ∀ i j, i < n → j < n → f i j * U = T i j * b
theorem red_of {n k : Nat} {T : Nat → Nat → Int} {U : Int} (hU : 0 < U) (hB : B k U) (hT : ∀ i j, i < n → j < n → B k (T i j)) (hs : ∀ i j, i < n → j < n → T i j = T j i) :
    Red n (fun i j => T i j / gf U (mat n T).flatten) (U / gf U (mat n T).flatten) k ∧ Is n (fun i j => T i j / gf U (mat n T).flatten) (U / gf U (mat n T).flatten) T U := by
  have hg := gf_pos hU (mat n T).flatten
  have hd := gf_dvd (b := U) (mat n T).flatten
  refine ⟨⟨quot_pos hg hd.1 (by omega), B.div hg hB, fun i j hi hj => B.div hg (hT i j hi hj), fun i j hi hj => by rw [hs i j hi hj], ?_⟩, fun i j hi hj => cross hg (hd.2 _ (mat_mem hi hj)) hd.1⟩
  rw [flat_mat]
  exact gf_one hU _
/-- the same form by other terms -/
theorem Is.of {n : Nat} {f T T' : Nat → Nat → Int} {b U U' : Int} (h : Is n f b T U) (hU : 0 < U) (e : ∀ i j, i < n → j < n → T i j * U' = T' i j * U) : Is n f b T' U' := fun i j hi hj => by
  have h1 := h i j hi hj
  have h2 := e i j hi hj
  have e1 : U * (f i j * U') = U * (T' i j * b) := by
    have a1 : U * (f i j * U') = f i j * U * U' := by rw [Int.mul_left_comm, Int.mul_assoc]
    have a2 : U * (T' i j * b) = T' i j * U * b := by rw [Int.mul_left_comm, Int.mul_assoc]
    rw [a1, a2, h1, ← h2, Int.mul_assoc, Int.mul_assoc, Int.mul_comm b]
  exact Int.eq_of_mul_eq_mul_left (by omega) e1
end P09
namespace P09
open PySem PySem.Spec PyProof.Rows L2 SX EX WK
/-! ### the steps of the greatest common divisor -/
/-- behind i steps from (a0, b0): (a, b) -/
def Eu (a0 b0 : Nat) (i a b : Nat) : Prop := Nat.gcd a b = Nat.gcd a0 b0 ∧ ((i = 0 ∧ a = a0 ∧ b = b0) ∨ (1 ≤ i ∧ b < a ∧ a * b * 2 ^ (i - 1) ≤ 2 ^ 80000))
theorem eu_start {a0 b0 : Nat} : Eu a0 b0 0 a0 b0 := ⟨rfl, .inl ⟨rfl, rfl, rfl⟩⟩
theorem eu_step {a0 b0 i a b : Nat} (hb0 : b0 < 2 ^ 40000) (h : Eu a0 b0 i a b) (hb : b ≠ 0) : Eu a0 b0 (i + 1) b (a % b) := by
  obtain ⟨g, h⟩ := h
  have hlt : a % b < b := Nat.mod_lt _ (by omega)
  refine ⟨by rw [← g, Nat.gcd_comm b, ← Nat.gcd_rec b a, Nat.gcd_comm], .inr ⟨by omega, hlt, ?_⟩⟩
  rw [show i + 1 - 1 = i by omega]
  rcases h with ⟨rfl, rfl, rfl⟩ | ⟨hi, hab, hm⟩
  · have h1 : b * (a % b) ≤ b * b := Nat.mul_le_mul_left b (by omega)
    have h2 : b * b ≤ 2 ^ 40000 * 2 ^ 40000 := Nat.mul_le_mul (by omega) (by omega)
    rw [← Nat.pow_add] at h2
    rw [Nat.pow_zero, Nat.mul_one]
    exact Nat.le_trans h1 h2
  · have h1 : 2 * (a % b) ≤ a := by
      have e := Nat.div_add_mod a b
      have q : 1 ≤ a / b := Nat.div_pos (by omega) (by omega)
      have := Nat.mul_le_mul_left b q
      omega
    have h2 : b * (a % b) * 2 ≤ a * b := by
      rw [Nat.mul_assoc, Nat.mul_comm a b, Nat.mul_comm (a % b) 2]
      exact Nat.mul_le_mul_left b h1
    have e : 2 ^ i = 2 * 2 ^ (i - 1) := by
      rw [← Nat.pow_succ', Nat.succ_eq_add_one, show i - 1 + 1 = i by omega]
    rw [e, ← Nat.mul_assoc]
    exact Nat.le_trans (Nat.mul_le_mul_right _ h2) hm
theorem eu_end {a0 b0 a b : Nat} (h : Eu a0 b0 100000 a b) : b = 0 := by
  obtain ⟨_, h⟩ := h
  rcases h with ⟨h, _⟩ | ⟨_, hab, hm⟩
  · exact absurd h (by decide)
  · rcases Nat.eq_zero_or_pos b with h | h
    · exact h
    · exfalso
      have h1 : 1 ≤ a * b := Nat.mul_pos (by omega) h
      have h2 : 2 ^ (100000 - 1) ≤ a * b * 2 ^ (100000 - 1) := Nat.le_mul_of_pos_left _ h1
      have h3 : (2 : Nat) ^ 13000 < 2 ^ (100000 - 1) := Nat.pow_lt_pow_right (by decide) (by decide)
      omega
theorem eu_gcd {a0 b0 i a : Nat} (h : Eu a0 b0 i a 0) : a = Nat.gcd a0 b0 := by
  rw [← h.1, Nat.gcd_zero_right]
theorem gI_leb {t b : Int} (hb : 0 < b) : gI t b ≤ b := by
  have : Nat.gcd t.natAbs b.natAbs ≤ b.natAbs := Nat.le_of_dvd (by omega) (Nat.gcd_dvd_right _ _)
  unfold gI
  omega
theorem seq_asg {te : TE} {i : Nat} {u : TS} {D : Ends} {σ : L2.St} {H : Hp} (h : te σ H fun x H1 => u D (σ.set i (some x)) H1) : tSeq (tAsg te (gName i)) u D σ H := h
theorem kit1 {K : PySem.W.Frag} : PySem.W.kitOne K (.type "int") (.type "int") = some true := kit_ty (by decide +kernel)
theorem kit2 {K : PySem.W.Frag} : PySem.W.kitOne K (.type "int") (.type "bool") = some false := kit_ty (by decide +kernel)
theorem kit6 {K : PySem.W.Frag} : PySem.W.kitOne K (.type "tuple") (.type "tuple") = some true := kit_ty (by decide +kernel)
/-! ### _law_cell: some int -/
def spCell (K : PySem.W.Frag) : Sp := fun vs H Q _ => ∃ (a : Addr) (ns : List Int) (k : Int), vs = [.ref a, .int k] ∧ SqL K H a (ns.map V.int) ∧ 0 ≤ k ∧ k ≤ 1000 ∧ ∀ i : Int, Q (.int i) H
abbrev s__law_cell : Stmt := top 45
abbrev N__law_cell : List Str := ["script", "k", "seed", "cell"]
theorem sc__law_cell : FnScope N__law_cell ["script", "k"] (defScope s__law_cell) := ⟨rfl, rfl, rfl, by decide +kernel, rfl, by decide +kernel, by decide +kernel⟩
/-- digits: each is below its size -/
abbrev Dig (ns zs : List Int) : Prop := Paired (fun n z => 0 ≤ n ∧ n < z) ns zs
theorem Dig.snoc : ∀ {ns zs : List Int} {n z : Int}, Dig ns zs → 0 ≤ n → n < z → Dig (ns ++ [n]) (zs ++ [z])
  | _, _, _, _, .nil, h1, h2 => .cons ⟨h1, h2⟩ .nil
  | _, _, _, _, .cons r t, h1, h2 => .cons r (Dig.snoc t h1 h2)
theorem Dig.get : ∀ {ns zs : List Int} {i : Nat} {z : Int}, Dig ns zs → zs[i]? = some z → ∃ n, ns[i]? = some n ∧ 0 ≤ n ∧ n < z
  | _, _, _, _, .nil, e => by simp at e
  | _, _, 0, _, .cons r _, e => by cases e; exact ⟨_, rfl, r.1, r.2⟩
  | _, _, i + 1, z, .cons _ t, e => by
    obtain ⟨n, h1, h2⟩ := Dig.get (i := i) (z := z) t (by simpa using e)
    exact ⟨n, by simpa using h1, h2⟩
theorem Dig.len {ns zs : List Int} (d : Dig ns zs) : ns.length = zs.length := Paired.length d
theorem take_snoc {α : Type} {l : List α} {i : Nat} {x : α} (h : l[i]? = some x) : l.take (i + 1) = l.take i ++ [x] := by
  rw [List.take_add_one, h]
  rfl
theorem map_int {ns : List Int} {i : Nat} {x : V} (h : (ns.map V.int)[i]? = some x) : ∃ z, ns[i]? = some z ∧ x = .int z := by
  rw [List.getElem?_map] at h
  cases e : ns[i]? with
  | none => rw [e] at h; cases h
  | some z => rw [e] at h; exact ⟨z, rfl, (Option.some.inj h).symm⟩
theorem int_at {ns : List Int} {i : Nat} {z : Int} (h : ns[i]? = some z) : (ns.map V.int)[i]? = some (.int z) := by
  rw [List.getElem?_map, h]
  rfl
theorem snoc_int (ns : List Int) (n : Int) : ns.map V.int ++ [V.int n] = (ns ++ [n]).map V.int := by
  rw [List.map_append]
  rfl
/-! ### _law_digits: one digit for each size -/
def spDigits (K : PySem.W.Frag) : Sp := fun vs H Q _ => ∃ (c : Int) (a : Addr) (zs : List Int), vs = [.int c, .ref a] ∧ SqL K H a (zs.map V.int) ∧ zs.length ≤ 1000 ∧ (∀ z ∈ zs, 0 < z ∧ z.natAbs < 2 ^ 2000) ∧
  ∀ p ns, H p = none → Dig ns zs → Q (.ref p) (upd H p (.lst (ns.map V.int)))
abbrev s__law_digits : Stmt := top 46
abbrev N__law_digits : List Str := ["cell", "sizes", "row", "rest", "size", "seed", "k", "twice"]
theorem sc__law_digits : FnScope N__law_digits ["cell", "sizes"] (defScope s__law_digits) := ⟨rfl, rfl, rfl, by decide +kernel, rfl, by decide +kernel, by decide +kernel⟩
section
variable {P : Program} {w : World} {K : PySem.W.Frag} {mg : Str → Option Value} {base : Heap} {f : Addr} {fd : FuncData}
theorem ok__law_cell (F : Fun K "_law_cell" "_law_cell" s__law_cell f fd) (T : Txt mg) : FnOk P w K mg base CX0 1 f fd ["script", "k"] (spCell K) := by
  refine F.ok sc__law_cell (fun vs H Q E h => ?_) (fun cdv A outer s H vs Q E hr h => ?_)
  · obtain ⟨a, ns, k, rfl, _⟩ := h
    rfl
  obtain ⟨a, ns, k, rfl, hs, h0, h1, q⟩ := h
  refine ⟨_, (pss_cons (ps_if (pt_cmpR op_lt (pv 1) (pe_callB call_len_seq (by rfl) T.b_len PySem.boot_len (pa_cons (pv 0) pa_nil)) (nomark _)) (pss_one (ps_ret (pe_ix ix_list (pv 0) (pv 1) (fun _ _ => rfl)))) pss_nil)
  (pss_cons (ps_set (i := 2) sc__law_cell.nd rfl (Or.inl rfl) pe_int)
  (pss_cons (ps_for PassesOwn.never rfl (pi_list (pv 0)) (pg_name (i := 3) sc__law_cell.nd rfl (Or.inl rfl)) (pss_one (ps_set (i := 2) sc__law_cell.nd rfl (Or.inl rfl) (pe_op op_mod (pe_callTy call_int1 (by rfl) T.b_int (by decide +kernel) (pa_cons (pe_op op_add (pe_op op_mul (pv 2) pe_int) (pe_op op_mod (pe_callTy call_int1 (by rfl) T.b_int (by decide +kernel) (pa_cons (pv 3) pa_nil)) pe_int)) pa_nil)) pe_int))))
  (pss_one (ps_ret (pe_op op_mod (pe_callTy call_int1 (by rfl) T.b_int (by decide +kernel) (pa_cons (pe_op op_mul (pe_op op_mul (pe_op op_add (pv 2) pe_int) (pe_op op_add (pv 1) pe_int)) pe_int) pa_nil)) pe_int)))))), ?_⟩
  refine ⟨_, rfl, _, rfl, a, _, rfl, .inl hs, _, _, rfl, rfl, _, rfl, ?_⟩
  refine ite2 (fun c => ?_) (fun c => ?_)
  · have c' : k < (((ns.map V.int).length : Nat) : Int) := of_decide_eq_true c
    rw [List.length_map] at c'
    obtain ⟨z, hz⟩ : ∃ z, ns[k.toNat]? = some z := ⟨ns[k.toNat]'(by omega), List.getElem?_eq_getElem (by omega)⟩
    exact ⟨_, rfl, _, rfl, a, _, k, _, rfl, rfl, hs, at_pos h0 (int_at hz), q z⟩
  · refine ⟨_, rfl, a, rfl, ⟨_, hs⟩, for_list (K := K) (a := a) (xs := ns.map V.int) (fun i σ H' => ∃ (z : Int) (v : Option V), σ = [some (.ref a), some (.int k), some (.int z), v] ∧ H' = H)
      ⟨17, none, rfl, rfl⟩ (fun i σ H' _ ⟨_, _, _, e⟩ => by rw [e]; exact hs) ?_ ?_⟩
    · rintro i y σ H' hi ⟨z, v, rfl, rfl⟩
      obtain ⟨x, hx, rfl⟩ := map_int hi
      refine ⟨_, rfl, _, _, rfl, rfl, .inr (by decide), _, rfl, .inl ⟨_, rfl, _, _, rfl, rfl, (by show (0 : Int) < 1000003; decide), _, _, rfl, rfl, .inl ⟨_, rfl, _, _, rfl, rfl, (by show (0 : Int) < 1000003; decide), ?_⟩⟩⟩
      exact ⟨_, _, rfl, rfl⟩
    · rintro σ H' ⟨z, v, rfl, rfl⟩
      refine ⟨_, rfl, _, _, rfl, rfl, _, rfl, _, _, rfl, rfl, _, _, rfl, rfl, .inr (by omega), _, _, rfl, rfl, .inr (by decide), .inl ⟨_, rfl, _, _, rfl, rfl, (by show (0 : Int) < 2147483647; decide), ?_⟩⟩
      exact q _
theorem ok__law_digits (F : Fun K "_law_digits" "_law_digits" s__law_digits f fd) (T : Txt mg) : FnOk P w K mg base CX0 1 f fd ["cell", "sizes"] (spDigits K) := by
  refine F.ok sc__law_digits (fun vs H Q E h => ?_) (fun cdv A outer s H vs Q E hr h => ?_)
  · obtain ⟨c, a, zs, rfl, _⟩ := h
    rfl
  obtain ⟨c, a, zs, rfl, hs, hz9, hz, q⟩ := h
  refine ⟨_, (pss_cons (ps_set (i := 2) sc__law_digits.nd rfl (Or.inl rfl) (pe_lst pa_nil))
  (pss_cons (ps_set (i := 3) sc__law_digits.nd rfl (Or.inl rfl) (pe_callTy call_int1 (by rfl) T.b_int (by decide +kernel) (pa_cons (pv 0) pa_nil)))
  (pss_cons (ps_if (pt_cmpR op_ge (pv 3) (pe_op op_pow pe_int pe_int) (nomark _)) (pss_cons (ps_set (i := 3) sc__law_digits.nd rfl (Or.inl rfl) (pe_op op_sub (pv 3) (pe_op op_pow pe_int pe_int)))
  (pss_cons (ps_for PassesOwn.never rfl (pi_list (pv 1)) (pg_name (i := 4) sc__law_digits.nd rfl (Or.inl rfl)) (pss_cons (ps_expr (pe_bm PySem.F.plainAttrs_list PySem.F.slot_list_append PySem.F.type_list_append mt_append (pv 2) (pa_cons (pe_op op_mod (pe_callTy call_int1 (by rfl) T.b_int (by decide +kernel) (pa_cons (pv 3) pa_nil)) (pv 4)) pa_nil)))
  (pss_one (ps_set (i := 3) sc__law_digits.nd rfl (Or.inl rfl) (pe_op op_fdivW (pe_callTy call_int1 (by rfl) T.b_int (by decide +kernel) (pa_cons (pv 3) pa_nil)) (pv 4))))))
  (pss_one (ps_ret (pv 2))))) pss_nil)
  (pss_cons (ps_set (i := 5) sc__law_digits.nd rfl (Or.inl rfl) (pe_op op_mod (pe_callTy call_int1 (by rfl) T.b_int (by decide +kernel) (pa_cons (pv 3) pa_nil)) pe_int))
  (pss_cons (ps_for PassesOwn.never rfl (pi_range1 (by rfl) T.b_range (pa_cons (pe_callB call_len_seq (by rfl) T.b_len PySem.boot_len (pa_cons (pv 1) pa_nil)) pa_nil)) (pg_name (i := 6) sc__law_digits.nd rfl (Or.inl rfl)) (pss_cons (ps_set (i := 5) sc__law_digits.nd rfl (Or.inl rfl) (pe_op op_mod (pe_callTy call_int1 (by rfl) T.b_int (by decide +kernel) (pa_cons (pe_op op_add (pe_op op_add (pe_op op_mul (pv 5) pe_int) (pe_op op_mul pe_int (pv 6))) pe_int) pa_nil)) pe_int))
  (pss_cons (ps_set (i := 7) sc__law_digits.nd rfl (Or.inl rfl) (pe_op op_mod (pe_callTy call_int1 (by rfl) T.b_int (by decide +kernel) (pa_cons (pe_op op_mul (pv 5) (pe_op op_add (pe_op op_fdiv (pv 5) pe_int) pe_int)) pa_nil)) pe_int))
  (pss_one (ps_expr (pe_bm PySem.F.plainAttrs_list PySem.F.slot_list_append PySem.F.type_list_append mt_append (pv 2) (pa_cons (pe_op op_mod (pe_op op_fdiv (pv 7) pe_int) (pe_ix ix_list (pv 1) (pv 6) (fun _ _ => rfl))) pa_nil)))))))
  (pss_one (ps_ret (pv 2)))))))), ?_⟩
  have keep : ∀ {p : Addr} {o : HO}, H p = none → SqL K (upd H p o) a (zs.map V.int) := fun hp => (same_new hp _).seq hs
  refine ⟨(by show 0 ≤ sizeLine; exact Nat.zero_le _), fun p hp => ?_⟩
  refine ⟨_, rfl, .inl ⟨_, rfl, ?_⟩⟩
  refine ⟨_, rfl, _, _, rfl, rfl, ⟨by decide, by decide, by decide⟩, _, _, rfl, rfl, _, rfl, ?_⟩
  refine ite2 (fun _ => ?_) (fun _ => ?_)
  · refine ⟨_, rfl, _, _, rfl, rfl, ⟨by decide, by decide, by decide⟩, _, _, rfl, rfl, ?_⟩
    refine ⟨_, rfl, a, rfl, ⟨_, keep hp⟩, for_list (K := K) (a := a) (xs := zs.map V.int) (fun i σ H' => ∃ (z : Int) (v : Option V) (ns : List Int), σ = [some (.int c), some (.ref a), some (.ref p), some (.int z), v, none, none, none] ∧ H' = upd H p (.lst (ns.map V.int)) ∧ Dig ns (zs.take i))
      ⟨_, none, [], rfl, rfl, .nil⟩ (fun i σ H' _ ⟨_, _, _, _, e, _⟩ => by rw [e]; exact keep hp) ?_ ?_⟩
    · rintro i y σ H' hi ⟨z, v, ns, rfl, rfl, hd⟩
      obtain ⟨x, hx, rfl⟩ := map_int hi
      have hx2 := hz x (List.mem_of_getElem? hx)
      have hlen : ns.length ≤ 1000 := by
        have := hd.len
        rw [List.length_take] at this
        omega
      refine ⟨_, rfl, .inl ⟨rfl, _, SqL.of upd_same⟩, _, rfl, .inl ⟨_, rfl, _, rfl, _, _, rfl, rfl, hx2.1, p, _, _, rfl, rfl, upd_same, by rw [List.length_map]; exact small1000 hlen, ?_⟩⟩
      refine ⟨_, rfl, .inl ⟨_, rfl, _, rfl, _, _, rfl, rfl, wide_div hx2.1 hx2.2 (by decide) (by decide), ?_⟩⟩
      exact ⟨_, _, ns ++ [z % x], rfl, by rw [upd_upd, snoc_int], by rw [take_snoc hx]; exact hd.snoc (Int.emod_nonneg _ (by omega)) (Int.emod_lt_of_pos _ hx2.1)⟩
    · rintro σ H' ⟨z, v, ns, rfl, rfl, hd⟩
      rw [List.length_map, List.take_length] at hd
      exact ⟨_, rfl, q p ns hp hd⟩
  · refine ⟨_, rfl, .inl ⟨_, rfl, _, _, rfl, rfl, (by show (0 : Int) < 2147483629; decide), ?_⟩⟩
    refine ⟨_, rfl, a, _, rfl, .inl (keep hp), _, rfl, by rw [List.length_map]; omega, by rw [List.length_map]; omega, for_range (lo := 0) (n := (((zs.map V.int).length : Nat) : Int).toNat)
      (fun i σ H' => ∃ (sd : Int) (v6 v7 : Option V) (r : Int) (ns : List Int), σ = [some (.int c), some (.ref a), some (.ref p), some (.int r), none, some (.int sd), v6, v7] ∧ 0 ≤ sd ∧ sd < 2147483648 ∧ H' = upd H p (.lst (ns.map V.int)) ∧ Dig ns (zs.take i))
      ⟨_, none, none, _, [], rfl, Int.emod_nonneg _ (by decide), Int.lt_trans (Int.emod_lt_of_pos _ (by decide)) (by decide), rfl, .nil⟩ ?_ ?_⟩
    · rintro i σ H' hi ⟨sd, v6, v7, r, ns, rfl, hs0, hs1, rfl, hd⟩
      rw [Int.toNat_natCast, List.length_map] at hi
      obtain ⟨x, hx⟩ : ∃ x, zs[i]? = some x := ⟨zs[i], List.getElem?_eq_getElem hi⟩
      have hx2 := hz x (List.mem_of_getElem? hx)
      have hlen : ns.length ≤ 1000 := by
        have := hd.len
        rw [List.length_take] at this
        omega
      refine ⟨_, rfl, _, _, rfl, rfl, .inr (by decide), _, rfl, _, _, rfl, rfl, .inl (by decide), _, _, rfl, rfl, _, _, rfl, rfl, .inl ⟨_, rfl, _, _, rfl, rfl, (by show (0 : Int) < 2147483647; decide), ?_⟩⟩
      have b0 : 0 ≤ (sd * 48271 + 974711 * (0 + (i : Int)) + 12345) % 2147483647 := Int.emod_nonneg _ (by decide)
      have b1 : (sd * 48271 + 974711 * (0 + (i : Int)) + 12345) % 2147483647 < 2147483648 := Int.lt_trans (Int.emod_lt_of_pos _ (by decide)) (by decide)
      refine ⟨_, rfl, _, rfl, _, _, rfl, rfl, ⟨by decide, by decide⟩, _, _, rfl, rfl, _, _, rfl, rfl, .inl ⟨Int.lt_of_lt_of_le (by decide) b0, Int.lt_trans b1 (by decide)⟩, .inl ⟨_, rfl, _, _, rfl, rfl, (by show (0 : Int) < 2147483629; decide), ?_⟩⟩
      refine ⟨_, rfl, .inl ⟨rfl, _, SqL.of upd_same⟩, _, rfl, _, _, rfl, rfl, ⟨by decide, by decide⟩, _, rfl, _, rfl, a, _, _, _, rfl, rfl, keep hp, at_pos (by omega) (int_at (by rw [show ((0 : Int) + (i : Nat)).toNat = i by omega]; exact hx)), _, _, rfl, rfl, hx2.1, p, _, _, rfl, rfl, upd_same, by rw [List.length_map]; exact small1000 hlen, ?_⟩
      exact ⟨_, _, _, r, _, rfl, b0, b1, by rw [upd_upd, snoc_int], by rw [take_snoc hx]; exact hd.snoc (Int.emod_nonneg _ (by omega)) (Int.emod_lt_of_pos _ hx2.1)⟩
    · rintro σ H' ⟨sd, v6, v7, r, ns, rfl, hs0, hs1, rfl, hd⟩
      rw [Int.toNat_natCast, List.length_map, List.take_length] at hd
      exact ⟨_, rfl, q p ns hp hd⟩
end
section
variable {P : Program} {w : World} {K : PySem.W.Frag} {mg : Str → Option Value} {base : Heap} {f : Addr} {fd : FuncData}
def spLaw_whole : Sp := fun vs H Q _ => ∃ i : Int, vs = [.int i] ∧ Q (.bl true) H
abbrev s__law_whole : Stmt := top 44
abbrev N__law_whole : List Str := ["value"]
theorem sc__law_whole : FnScope N__law_whole ["value"] (defScope s__law_whole) := ⟨rfl, rfl, rfl, by decide +kernel, rfl, by decide +kernel, by decide +kernel⟩
theorem ok__law_whole (F : Fun K "_law_whole" "_law_whole" s__law_whole f fd) (T : Txt mg) : FnOk P w K mg base CX0 1 f fd ["value"] spLaw_whole := by
  refine F.ok sc__law_whole (fun vs H Q E h => ?_) (fun cdv A outer s H vs Q E hr h => ?_)
  · obtain ⟨i, rfl, _⟩ := h
    rfl
  obtain ⟨i, rfl, q⟩ := h
  refine ⟨_, (pss_one (ps_ret (pe_and (pe_callB call_isi (by rfl) T.b_isinstance (by decide +kernel) (pa_cons (pv 0) (pa_cons (pe_bltn (v := .ty "int") (by rfl) T.b_int (by decide +kernel) rfl) pa_nil))) (pe_one (pe_not (pe_callB call_isi (by rfl) T.b_isinstance (by decide +kernel) (pa_cons (pv 0) (pa_cons (pe_bltn (v := .ty "bool") (by rfl) T.b_bool (by decide +kernel) rfl) pa_nil)))))))), ?_⟩
  refine ⟨_, rfl, _, _, _, _, true, rfl, .ty _, .base (.int i), kit1, true, rfl, ifT rfl ?_⟩
  exact ⟨_, rfl, _, _, _, _, false, rfl, .ty _, .base (.int i), kit2, false, rfl, q⟩
theorem okH__law_whole (F : Fun K "_law_whole" "_law_whole" s__law_whole f fd) (T : Txt mg) : L2H.FnH P w K mg base CX0 1 f fd ["value"] spLaw_whole := by
  refine okH F sc__law_whole (fun vs H Q E h => ?_) (fun cdv A outer s H vs Q E p hr hot h => ?_)
  · obtain ⟨i, rfl, _⟩ := h
    rfl
  obtain ⟨i, rfl, q⟩ := h
  refine ⟨_, (pss_one (ps_ret (pe_and (pe_callB call_isi (by rfl) T.b_isinstance (by decide +kernel) (pa_cons (pv 0) (pa_cons (pe_bltn (v := .ty "int") (by rfl) T.b_int (by decide +kernel) rfl) pa_nil))) (pe_one (pe_not (pe_callB call_isi (by rfl) T.b_isinstance (by decide +kernel) (pa_cons (pv 0) (pa_cons (pe_bltn (v := .ty "bool") (by rfl) T.b_bool (by decide +kernel) rfl) pa_nil)))))))), ?_⟩
  refine ⟨_, rfl, _, _, _, _, true, rfl, .ty _, .base (.int i), kit1, true, rfl, ifT rfl ?_⟩
  exact ⟨_, rfl, _, _, _, _, false, rfl, .ty _, .base (.int i), kit2, false, rfl, q⟩
def spGcd : Sp := fun vs H Q _ => ∃ a b : Int, vs = [.int a, .int b] ∧ B 40000 b ∧ Q (.int (gI a b)) H
abbrev s__law_gcd : Stmt := top 47
abbrev N__law_gcd : List Str := ["one", "two", "turn", "rest"]
theorem sc__law_gcd : FnScope N__law_gcd ["one", "two"] (defScope s__law_gcd) := ⟨rfl, rfl, rfl, by decide +kernel, rfl, by decide +kernel, by decide +kernel⟩
theorem abs_nat (a : Int) : (if a < 0 then -a else a) = ((a.natAbs : Nat) : Int) := by
  split <;> omega
theorem ok__law_gcd (F : Fun K "_law_gcd" "_law_gcd" s__law_gcd f fd) (T : Txt mg) : FnOk P w K mg base CX0 1 f fd ["one", "two"] spGcd := by
  refine F.ok sc__law_gcd (fun vs H Q E h => ?_) (fun cdv A outer s H vs Q E hr h => ?_)
  · obtain ⟨a, b, rfl, _⟩ := h
    rfl
  obtain ⟨a, b, rfl, hB, q⟩ := h
  refine ⟨_, (pss_cons (ps_set (i := 0) sc__law_gcd.nd rfl (Or.inl rfl) (pe_callB call_abs (by rfl) T.b_abs (by decide +kernel) (pa_cons (pv 0) pa_nil)))
  (pss_cons (ps_set (i := 1) sc__law_gcd.nd rfl (Or.inl rfl) (pe_callB call_abs (by rfl) T.b_abs (by decide +kernel) (pa_cons (pv 1) pa_nil)))
  (pss_cons (ps_for PassesOwn.never rfl (pi_range1 (by rfl) T.b_range (pa_cons pe_int pa_nil)) (pg_name (i := 2) sc__law_gcd.nd rfl (Or.inl rfl)) (pss_cons (ps_if (pt_cmpR op_eq (pv 1) pe_int (nomark _)) (pss_one ps_break) pss_nil)
  (pss_cons (ps_set (i := 3) sc__law_gcd.nd rfl (Or.inl rfl) (pe_op op_mod (pe_callTy call_int1 (by rfl) T.b_int (by decide +kernel) (pa_cons (pv 0) pa_nil)) (pv 1)))
  (pss_cons (ps_set (i := 0) sc__law_gcd.nd rfl (Or.inl rfl) (pv 1))
  (pss_one (ps_set (i := 1) sc__law_gcd.nd rfl (Or.inl rfl) (pv 3)))))))
  (pss_one (ps_ret (pv 0)))))), ?_⟩
  refine seq_asg ⟨_, rfl, _, rfl, ?_⟩
  rw [abs_nat a]
  refine seq_asg ⟨_, rfl, _, rfl, ?_⟩
  rw [abs_nat b]
  refine ⟨100000, rfl, by decide, by decide, for_range (lo := 0) (n := (100000 : Int).toNat) (fun i σ H' => ∃ (x y : Nat) (v2 v3 : Option V), σ = [some (.int (x : Nat)), some (.int (y : Nat)), v2, v3] ∧ H' = H ∧ Eu a.natAbs b.natAbs i x y) ⟨a.natAbs, b.natAbs, none, none, rfl, rfl, eu_start⟩ ?_ ?_⟩
  · rintro i σ H' hi ⟨x, y, v2, v3, rfl, rfl, e⟩
    refine ⟨_, rfl, rfl, _, rfl, ?_⟩
    refine ite2 (fun c => ?_) (fun c => ?_)
    · have hy : y = 0 := by
        have := V.int.inj (of_decide_eq_true c)
        omega
      subst hy
      refine ⟨_, rfl, ?_⟩
      rw [eu_gcd e]
      exact q
    · have hy : y ≠ 0 := fun z => c (by subst z; exact decide_eq_true rfl)
      refine ⟨_, rfl, .inl ⟨_, rfl, _, rfl, _, _, rfl, rfl, by omega, ?_⟩⟩
      refine ⟨_, rfl, _, rfl, ?_⟩
      exact ⟨y, x % y, _, _, rfl, rfl, eu_step hB e hy⟩
  · rintro σ H' ⟨x, y, v2, v3, rfl, rfl, e⟩
    have hy := eu_end e
    subst hy
    refine ⟨_, rfl, ?_⟩
    rw [eu_gcd e]
    exact q
/-! ### _law_is_fraction -/
end
end P09
namespace P09
open PySem PySem.Spec PyProof.Rows L2 SX EX WK
abbrev tv (n : Nat) (x : Nat → Int) : Td := .tup ((vec n x).map Td.int)
abbrev tm (n : Nat) (f : Nat → Nat → Int) : Td := tdm (mat n f)
theorem sq_same {K : PySem.W.Frag} {H H' : Hp} {k : Bool} {a : Addr} {xs : List V} (s : Same H H') (h : WZ.Sq k K H a xs) : WZ.Sq k K H' a xs := by
  cases k with
  | true => exact s.seq h
  | false => exact Same_seqT s h
theorem sq_or {K : PySem.W.Frag} {H : Hp} {k : Bool} {a : Addr} {xs : List V} (h : WZ.Sq k K H a xs) : SqL K H a xs ∨ SqT K H a xs := by
  cases k with
  | true => exact .inl h
  | false => exact .inr h
theorem sn_ints {K : PySem.W.Frag} {H : Hp} {v : V} {ns : List Int} (h : Sn K H v (.tup (ns.map Td.int))) : ∃ (k : Bool) (a : Addr), v = .ref a ∧ WZ.Sq k K H a (ns.map V.int) := by
  cases h with
  | @lst a vs ts ha hall =>
    rw [hall.ints] at ha
    exact ⟨true, a, rfl, SqL.of ha⟩
  | @tup a vs ts ha hall =>
    rw [hall.ints] at ha
    exact ⟨false, a, rfl, ha⟩
theorem sn_mat {K : PySem.W.Frag} {H : Hp} {v : V} {n : Nat} {f : Nat → Nat → Int} (h : Sn K H v (tm n f)) : ∃ (k : Bool) (a : Addr) (vs : List V), v = .ref a ∧ WZ.Sq k K H a vs ∧ vs.length = n ∧ ∀ i, i < n → ∃ u, vs[i]? = some u ∧ Sn K H u (tv n (f i)) := by
  have row : ∀ {vs : List V}, SnAll K H vs ((mat n f).map fun r => .tup (r.map Td.int)) → vs.length = n ∧ ∀ i, i < n → ∃ u, vs[i]? = some u ∧ Sn K H u (tv n (f i)) := fun {vs} hall => by
    have hl : vs.length = n := by rw [hall.len, List.length_map, mat_len]
    refine ⟨hl, fun i hi => ?_⟩
    have e := List.getElem?_eq_getElem (l := vs) (i := i) (by omega)
    obtain ⟨t, ht, hz⟩ := hall.get e
    rw [List.getElem?_map, mat_at hi] at ht
    cases ht
    exact ⟨_, e, hz⟩
  cases h with
  | @lst a vs ts ha hall => exact ⟨true, a, vs, rfl, SqL.of ha, row hall⟩
  | @tup a vs ts ha hall => exact ⟨false, a, vs, rfl, ha, row hall⟩
theorem in_range {n c i : Nat} (h : (List.range n)[c]? = some i) : c < n ∧ i = c := by
  have h1 := (List.getElem?_eq_some_iff.mp h).1
  rw [List.length_range] at h1
  rw [List.getElem?_range h1] at h
  exact ⟨h1, (Option.some.inj h).symm⟩
theorem vec_lenV {n : Nat} {x : Nat → Int} : ((vec n x).map V.int).length = n := by rw [List.length_map, vec_len]
def LTab (H : Hp) (a : Addr) (n : Nat) (f : Nat → Nat → Int) : Prop := ∃ rs : List Addr, H a = some (.lst (rs.map V.ref)) ∧ rs.length = n ∧ ∀ i, i < n → ∃ p, rs[i]? = some p ∧ H p = some (.lst ((vec n (f i)).map V.int))
theorem LTab.same {H H' : Hp} {a : Addr} {n : Nat} {f : Nat → Nat → Int} (e : Same H H') (h : LTab H a n f) : LTab H' a n f := by
  obtain ⟨rs, h1, h2, h3⟩ := h
  refine ⟨rs, e _ _ h1, h2, fun i hi => ?_⟩
  obtain ⟨p, h4, h5⟩ := h3 i hi
  exact ⟨p, h4, e _ _ h5⟩
theorem LTab.at {H : Hp} {a : Addr} {n : Nat} {f : Nat → Nat → Int} (h : LTab H a n f) : ∃ vs : List V, H a = some (.lst vs) ∧ vs.length = n ∧ ∀ i, i < n → ∃ p, vs[i]? = some (.ref p) ∧ H p = some (.lst ((vec n (f i)).map V.int)) := by
  obtain ⟨rs, h1, h2, h3⟩ := h
  refine ⟨_, h1, by rw [List.length_map]; exact h2, fun i hi => ?_⟩
  obtain ⟨p, h4, h5⟩ := h3 i hi
  exact ⟨p, by rw [List.getElem?_map, h4]; rfl, h5⟩
theorem snall_of {K : PySem.W.Frag} {H : Hp} : ∀ {vs : List V} {ts : List Td}, vs.length = ts.length → (∀ (i : Nat) (v : V) (t : Td), vs[i]? = some v → ts[i]? = some t → Sn K H v t) → SnAll K H vs ts
  | [], [], _, _ => .nil
  | [], _ :: _, h, _ => by simp at h
  | _ :: _, [], h, _ => by simp at h
  | v :: vs, t :: ts, h, g => .cons (g 0 v t rfl rfl) (snall_of (by simpa using h) fun i v t a b => g (i + 1) v t a b)
theorem LTab.sn {K : PySem.W.Frag} {H : Hp} {a : Addr} {n : Nat} {f : Nat → Nat → Int} (h : LTab H a n f) : Sn K H (.ref a) (tm n f) := by
  obtain ⟨vs, h1, h2, h3⟩ := h.at
  refine .lst h1 (snall_of (by rw [List.length_map, mat_len]; exact h2) fun i v t hv ht => ?_)
  have hi : i < n := by
    have := (List.getElem?_eq_some_iff.mp hv).1
    omega
  obtain ⟨p, h4, h5⟩ := h3 i hi
  rw [hv] at h4
  cases h4
  rw [List.getElem?_map, mat_at hi] at ht
  cases ht
  exact .lst h5 (FzAll.of_ints _).sn
def adr : V → Addr
  | .ref p => p
  | _ => 0
theorem LTab.of {H : Hp} {D : Addr} {l : List V} {n : Nat} {f : Nat → Nat → Int} (h : H D = some (.lst l)) (r : Rs (RL D) H l ((List.range n).map fun i => vec n (f i))) : LTab H D n f := by
  have hl : l.length = n := by rw [r.1, List.length_map, List.length_range]
  have at_ : ∀ i, i < n → ∃ p, l[i]? = some (.ref p) ∧ H p = some (.lst ((vec n (f i)).map V.int)) := fun i hi => by
    have e := List.getElem?_eq_getElem (l := l) (i := i) (by omega)
    obtain ⟨p, h1, _, h2⟩ := r.2 i _ (vec n (f i)) e (by rw [List.getElem?_map, List.getElem?_range hi]; rfl)
    exact ⟨p, by rw [e, h1], h2⟩
  refine ⟨l.map adr, ?_, by rw [List.length_map]; exact hl, fun i hi => ?_⟩
  · rw [h]
    congr 2
    refine List.ext_getElem? fun i => ?_
    rw [List.getElem?_map, List.getElem?_map]
    by_cases hi : i < n
    · obtain ⟨p, h1, _⟩ := at_ i hi
      rw [h1]
      rfl
    · rw [List.getElem?_eq_none (by omega)]
      rfl
  · obtain ⟨p, h1, h2⟩ := at_ i hi
    exact ⟨p, by rw [List.getElem?_map, h1]; rfl, h2⟩
theorem ix_any {K : PySem.W.Frag} {H : Hp} {k : Bool} {a : Addr} {xs : List V} {z : Int} {v : V} {Q : VK} (h : WZ.Sq k K H a xs) (e : atI xs z = some v) (q : Q v H) : rIxL K (.ref a) (.int z) H Q ∨ rIxT K (.ref a) (.int z) H Q := by
  cases k with
  | true => exact .inl ⟨a, xs, z, v, rfl, rfl, h, e, q⟩
  | false => exact .inr ⟨a, xs, z, v, rfl, rfl, h, e, q⟩
theorem ne_T {a b : Int} (h : a ≠ b) : (!decide (V.int a = V.int b)) = true := by rw [int_ne h]; rfl
theorem ne_F {a b : Int} (h : a = b) : (!decide (V.int a = V.int b)) = false := by rw [int_eq h]; rfl
theorem gI_unit (x : Int) : gI 1 x = 1 := by
  unfold gI
  rw [show (1 : Int).natAbs = 1 from rfl, Nat.gcd_one_left]
  rfl
theorem ixv {n i : Nat} {x : Nat → Int} (hi : i < n) : atI ((vec n x).map V.int) (0 + (i : Int)) = some (.int (x i)) := at_pos (by omega) (by rw [show (0 + (i : Int)).toNat = i by omega]; exact vecV_at hi)
section
variable {P : Program} {w : World} {K : PySem.W.Frag} {mg : Str → Option Value} {base : Heap} {f : Addr} {fd : FuncData} {cF cR : Addr}
def spDot (K : PySem.W.Frag) : Sp := fun vs H Q _ => ∃ (v1 v2 : V) (n k1 k2 : Nat) (x y : Nat → Int), vs = [v1, v2] ∧ Sn K H v1 (tv n x) ∧ Sn K H v2 (tv n y) ∧ n ≤ 1000 ∧ (∀ i, i < n → B k1 (x i)) ∧ (∀ i, i < n → B k2 (y i)) ∧ 0 < k1 ∧ 0 < k2 ∧ k1 + k2 ≤ 100000 ∧
  ∀ H', Same H H' → Q (.int (S n fun i => x i * y i)) H'
def spIsPoint (K : PySem.W.Frag) : Sp := fun vs H Q _ => ∃ (a : Addr) (n : Nat) (x : Nat → Int), vs = [.ref a, .int n] ∧ SqT K H a ((vec n x).map V.int) ∧ n ≤ 1000 ∧ ∀ H', Same H H' → Q (.bl true) H'
abbrev s__law_is_point : Stmt := top 49
abbrev N__law_is_point : List Str := ["value", "size", "number"]
theorem sc__law_is_point : FnScope N__law_is_point ["value", "size"] (defScope s__law_is_point) := ⟨rfl, rfl, rfl, by decide +kernel, rfl, by decide +kernel, by decide +kernel⟩
theorem ok__law_is_point (F : Fun K "_law_is_point" "_law_is_point" s__law_is_point f fd) (T : Txt mg) (C__law_whole : Cal P w K mg base 1 "_law_whole" ["value"] spLaw_whole) : FnOk P w K mg base CX0 2 f fd ["value", "size"] (spIsPoint K) := by
  refine F.ok sc__law_is_point (fun vs H Q E h => ?_) (fun cdv A outer s H vs Q E hr h => ?_)
  · obtain ⟨a, n, x, rfl, _⟩ := h
    rfl
  obtain ⟨a, n, x, rfl, ha, hn, q⟩ := h
  refine ⟨_, (pss_one (ps_ret (pe_and (pe_callB call_isi (by rfl) T.b_isinstance (by decide +kernel) (pa_cons (pv 0) (pa_cons (pe_bltn (v := .ty "tuple") (by rfl) T.b_tuple (by decide +kernel) rfl) pa_nil))) (pe_and (pe_cmpR op_eq (pe_callB call_len_seq (by rfl) T.b_len PySem.boot_len (pa_cons (pv 0) pa_nil)) (pv 1) (nomark _)) (pe_one (pe_callB (cr_all rfl) (by rfl) T.b_all (by decide +kernel) (pa_cons (pe_lc (own := [("number", 2)]) (g := gName 2) (tt := tYes) (by rfl) sc__law_is_point.nd (pi_tup (pv 0)) (blkOk_by (N := N__law_is_point) (sc := defScope s__law_is_point) (by decide +kernel)) (fun _ _ _ _ _ => (pg_name (i := 2) sc__law_is_point.nd rfl (Or.inl rfl))) (fun _ _ _ _ _ => pts_nil) (fun _ _ _ _ _ => (pe_cal C__law_whole (hr.mono (by omega)) rfl (pa_cons (pv 2) pa_nil)))) pa_nil))))))), ?_⟩
  refine ⟨_, rfl, _, _, _, _, true, rfl, .ty _, ty_tup ha, kit6, true, rfl, ifT rfl ?_⟩
  refine ⟨_, rfl, a, _, rfl, .inr ha, _, rfl, rfl, _, rfl, ifT (by rw [vec_lenV]; exact int_eq rfl) ?_⟩
  refine ⟨_, rfl, a, rfl, ⟨_, ha⟩, fun D hD => ?_⟩
  refine lc_m (walk_tup (K := K) (a := a) (xs := (vec n x).map V.int)) RB (stb_RB (K := K)) (List.range n) (by rw [vec_lenV, List.length_range]) (by rw [List.length_range]; omega) hD (fun H' s => Same_seqT s ha) (fun _ _ _ _ => ys_at) (fun _ => true) (fun c i v H1 H2 hc s1 s2 y A B hA => ?_) (fun H' l s1 hl1 rs => ?_)
  · obtain ⟨hc1, rfl⟩ := in_range hc
    have e := y.2
    rw [vecV_at hc1] at e
    cases e
    exact ⟨rfl, lc_yes ⟨_, rfl, x i, rfl, hA _ _ (fun _ _ h => h) rfl⟩⟩
  · refine ⟨D, _, rfl, SqL.of (by rw [hl1, rs.bls]), ?_⟩
    have e : (((List.range n).map fun _ => true).all id) = true := by
      rw [List.all_map]
      exact List.all_eq_true.mpr fun _ _ => rfl
    rw [e]
    exact q H' s1
abbrev s__law_dot : Stmt := top 51
abbrev N__law_dot : List Str := ["one", "two", "k"]
theorem sc__law_dot : FnScope N__law_dot ["one", "two"] (defScope s__law_dot) := ⟨rfl, rfl, rfl, by decide +kernel, rfl, by decide +kernel, by decide +kernel⟩
theorem ok__law_dot (F : Fun K "_law_dot" "_law_dot" s__law_dot f fd) (T : Txt mg) : FnOk P w K mg base CX0 1 f fd ["one", "two"] (spDot K) := by
  refine F.ok sc__law_dot (fun vs H Q E h => ?_) (fun cdv A outer s H vs Q E hr h => ?_)
  · obtain ⟨v1, v2, n, k1, k2, x, y, rfl, _⟩ := h
    rfl
  obtain ⟨v1, v2, n, k1, k2, x, y, rfl, h1, h2, hn, hx, hy, p1, p2, hk, q⟩ := h
  refine ⟨_, (pss_one (ps_ret (pe_callB (cr_sum rfl) (by rfl) T.b_sum (by decide +kernel) (pa_cons (pe_lc (own := [("k", 2)]) (g := gName 2) (tt := tYes) (by rfl) sc__law_dot.nd (pi_range1 (by rfl) T.b_range (pa_cons (pe_callB call_len_seq (by rfl) T.b_len PySem.boot_len (pa_cons (pv 0) pa_nil)) pa_nil)) (blkOk_by (N := N__law_dot) (sc := defScope s__law_dot) (by decide +kernel)) (fun _ _ _ _ _ => (pg_name (i := 2) sc__law_dot.nd rfl (Or.inl rfl))) (fun _ _ _ _ _ => pts_nil) (fun _ _ _ _ _ => (pe_op op_mulW (pe_ix (ix_orK (K := K) rfl) (pv 0) (pv 2) (fun _ _ => rfl)) (pe_ix (ix_orK (K := K) rfl) (pv 1) (pv 2) (fun _ _ => rfl))))) pa_nil)))), ?_⟩
  obtain ⟨k, a, rfl, ha⟩ := sn_ints h1
  obtain ⟨l, b, rfl, hb⟩ := sn_ints h2
  refine ⟨_, rfl, _, _, rfl, sq_or ha, (n : Int), by rw [vec_lenV], by omega, by omega, fun D hD => ?_⟩
  refine lc_m (walk_range (lo := 0) (n := n)) RI (stb_RI (K := K)) (List.range n) (by rw [List.length_range]) (by rw [List.length_range]; omega) hD (fun _ _ => trivial) (fun _ _ _ _ => ys_fn) (fun i => x i * y i) (fun c i v H1 H2 hc s1 s2 yl A B hA => ?_) (fun H' l1 s1 hl1 rs => ?_)
  · obtain ⟨hc1, rfl⟩ := in_range hc
    rw [yl.2]
    exact ⟨rfl, lc_yes ⟨_, rfl, _, rfl, ix_any (sq_same s2 ha) (ixv hc1) ⟨_, rfl, _, rfl, ix_any (sq_same s2 hb) (ixv hc1) ⟨_, _, rfl, rfl, wmul (hx i hc1) (hy i hc1) p1 p2 (by omega), hA _ _ (fun _ _ h => h) rfl⟩⟩⟩⟩
  · exact ⟨D, _, rfl, SqL.of (by rw [hl1, rs.ints]), q H' s1⟩
end
/-- a table under work: all that stood at H0 stands -/
structure MT (H0 H : Hp) (a : Addr) (rs : List Addr) (n : Nat) (f : Nat → Nat → Int) : Prop where
  same : Same H0 H
  at_ : H a = some (.lst (rs.map V.ref))
  len : rs.length = n
  nd : rs.Nodup
  na : a ∉ rs
  fr : ∀ r ∈ rs, H0 r = none
  row : ∀ (i : Nat), i < n → ∃ p, rs[i]? = some p ∧ H p = some (.lst ((vec n (f i)).map V.int))
theorem MT.ltab {H0 H : Hp} {a : Addr} {rs : List Addr} {n : Nat} {f : Nat → Nat → Int} (h : MT H0 H a rs n f) : LTab H a n f := ⟨rs, h.at_, h.len, h.row⟩
theorem MT.keep {H0 H H' : Hp} {a : Addr} {rs : List Addr} {n : Nat} {f : Nat → Nat → Int} (h : MT H0 H a rs n f) (s : Same H H') : MT H0 H' a rs n f := by
  refine ⟨h.same.trans s, s _ _ h.at_, h.len, h.nd, h.na, h.fr, fun i hi => ?_⟩
  obtain ⟨p, h1, h2⟩ := h.row i hi
  exact ⟨p, h1, s _ _ h2⟩
theorem MT.congr {H0 H : Hp} {a : Addr} {rs : List Addr} {n : Nat} {f g : Nat → Nat → Int} (h : MT H0 H a rs n f) (e : ∀ i j, i < n → j < n → f i j = g i j) : MT H0 H a rs n g := by
  refine ⟨h.same, h.at_, h.len, h.nd, h.na, h.fr, fun i hi => ?_⟩
  obtain ⟨p, h1, h2⟩ := h.row i hi
  exact ⟨p, h1, by rw [← vec_congr fun j hj => e i j hi hj]; exact h2⟩
def put (f : Nat → Nat → Int) (i j : Nat) (v : Int) : Nat → Nat → Int := fun a b => if a = i ∧ b = j then v else f a b
theorem vec_set {n j : Nat} {x : Nat → Int} {v : Int} (hj : j < n) : ((vec n x).map V.int).set j (.int v) = ((vec n fun b => if b = j then v else x b).map V.int) := by
  refine List.ext_getElem? fun b => ?_
  by_cases hb : b < n
  · rw [vecV_at hb, List.getElem?_set]
    by_cases e : j = b
    · subst e
      rw [if_pos rfl, if_pos rfl, if_pos (by rw [vec_lenV]; exact hb)]
    · rw [if_neg e, vecV_at hb, if_neg (Ne.symm e)]
  · rw [List.getElem?_eq_none (by rw [List.length_set, vec_lenV]; omega), List.getElem?_eq_none (by rw [vec_lenV]; omega)]
theorem MT.set {H0 H : Hp} {a p : Addr} {rs : List Addr} {n i j : Nat} {f : Nat → Nat → Int} {v : Int} (h : MT H0 H a rs n f) (hi : i < n) (hj : j < n) (hp : rs[i]? = some p) : MT H0 (upd H p (.lst (((vec n (f i)).map V.int).set j (.int v)))) a rs n (put f i j v) := by
  have mp := List.mem_of_getElem? hp
  refine ⟨same_at h.same (h.fr p mp), ?_, h.len, h.nd, h.na, h.fr, fun b hb => ?_⟩
  · rw [upd_ne (fun z => h.na (by rw [z]; exact mp))]
    exact h.at_
  · obtain ⟨r, h1, h2⟩ := h.row b hb
    refine ⟨r, h1, ?_⟩
    by_cases e : b = i
    · subst e
      rw [hp] at h1
      cases h1
      rw [upd_same, vec_set hj]
      congr 3
      refine vec_congr fun c hc => ?_
      unfold put
      by_cases ec : c = j
      · rw [if_pos ec, if_pos ⟨rfl, ec⟩]
      · rw [if_neg ec, if_neg fun z => ec z.2]
    · have hr : r ≠ p := fun z => by
        have hib : i < rs.length := (List.getElem?_eq_some_iff.mp hp).1
        have e1 := (List.getElem?_inj hib h.nd).mp (hp.trans (by rw [h1, z]))
        exact e e1.symm
      rw [upd_ne hr, h2]
      congr 3
      refine vec_congr fun c hc => ?_
      unfold put
      rw [if_neg fun z => e z.1]
theorem MT.start {H0 : Hp} {D : Addr} (h : H0 D = none) : MT H0 (upd H0 D (.lst [])) D [] 0 (fun _ _ => 0) := ⟨new_same h _, upd_same, rfl, List.nodup_nil, by simp, by simp, fun i hi => by omega⟩
theorem zero_vec {m n : Nat} {l : List V} {H : Hp} (h : Rs RI H l ((List.range n).map fun _ => (0 : Int))) : l = (vec n fun _ => 0).map V.int := h.ints
/-- rows of zeros, so far i of them -/
structure ZT (H0 H : Hp) (a : Addr) (rs : List Addr) (n i : Nat) : Prop where
  same : Same H0 H
  at_ : H a = some (.lst (rs.map V.ref))
  len : rs.length = i
  nd : rs.Nodup
  na : a ∉ rs
  fr : ∀ r ∈ rs, H0 r = none
  row : ∀ r ∈ rs, H r = some (.lst ((vec n fun _ => 0).map V.int))
theorem ZT.mt {H0 H : Hp} {a : Addr} {rs : List Addr} {n : Nat} (h : ZT H0 H a rs n n) : MT H0 H a rs n (fun _ _ => 0) :=
  ⟨h.same, h.at_, h.len, h.nd, h.na, h.fr, fun i hi => ⟨rs[i]'(by rw [h.len]; exact hi), List.getElem?_eq_getElem _, h.row _ (List.getElem_mem _)⟩⟩
theorem ZT.snoc {H0 H H' : Hp} {a p : Addr} {rs : List Addr} {n i : Nat} (h : ZT H0 H a rs n i) (h0 : H0 a = none) (s : Same H H') (hp : H p = none) (hr : H' p = some (.lst ((vec n fun _ => 0).map V.int))) : ZT H0 (upd H' a (.lst (rs.map V.ref ++ [.ref p]))) a (rs ++ [p]) n (i + 1) := by
  have hpa : p ≠ a := fun z => by rw [z, h.at_] at hp; cases hp
  refine ⟨same_at (h.same.trans s) h0, ?_, by rw [List.length_append, h.len]; rfl, ?_, ?_, fun r hr' => ?_, fun r hr' => ?_⟩
  · rw [upd_same, List.map_append]
    rfl
  · refine List.nodup_append.mpr ⟨h.nd, by simp, fun x hx y hy z => ?_⟩
    rw [List.mem_singleton] at hy
    subst hy
    subst z
    rw [h.row _ hx] at hp
    cases hp
  · intro hm
    rcases List.mem_append.mp hm with m | m
    · exact h.na m
    · exact hpa (List.mem_singleton.mp m).symm
  · rcases List.mem_append.mp hr' with m | m
    · exact h.fr r m
    · rw [List.mem_singleton.mp m]
      cases e : H0 p with
      | none => rfl
      | some u => rw [h.same _ _ e] at hp; cases hp
  · rcases List.mem_append.mp hr' with m | m
    · rw [upd_ne (fun z => h.na (by rw [← z]; exact m))]
      exact s _ _ (h.row r m)
    · rw [List.mem_singleton.mp m, upd_ne hpa]
      exact hr
end P09
namespace PySem.El

/-- Rows of a matrix: a row tells its number at each column. -/
abbrev Row := Nat → Int

def E (c : Nat) (f : List Row → Int) : List Row → List Row → Int
  | _, [] => 0
  | pre, r :: rs => r c * f (pre ++ rs) - E c f (pre ++ [r]) rs

def D : List Nat → List Row → Int
  | [], rows => match rows with | [] => 1 | _ :: _ => 0
  | c :: cs, rows => E c (D cs) [] rows

def comb (u : Row) (k : Int) (v : Row) : Row := fun j => u j + k * v j

def Lin (f : List Row → Int) : Prop :=
  ∀ a b u v k, f (a ++ comb u k v :: b) = f (a ++ u :: b) + k * f (a ++ v :: b)

def Alt (f : List Row → Int) : Prop := ∀ a b u, f (a ++ u :: u :: b) = 0

theorem E_lin_pre {c : Nat} {f : List Row → Int} (hf : Lin f) (u v : Row) (k : Int) :
    ∀ (b p q : List Row), E c f (p ++ comb u k v :: q) b = E c f (p ++ u :: q) b + k * E c f (p ++ v :: q) b := by
  intro b
  induction b with
  | nil => intro p q; simp [E]
  | cons r b ih =>
    intro p q
    have h1 := hf p (q ++ b) u v k
    have h2 := ih p (q ++ [r])
    simp only [E, List.append_assoc, List.cons_append] at *
    rw [h1, h2, Int.mul_add, Int.mul_sub]
    have : r c * (k * f (p ++ v :: (q ++ b))) = k * (r c * f (p ++ v :: (q ++ b))) := by
      rw [← Int.mul_assoc, Int.mul_comm (r c) k, Int.mul_assoc]
    rw [this]; omega

theorem E_lin {c : Nat} {f : List Row → Int} (hf : Lin f) (u v : Row) (k : Int) :
    ∀ (a pre b : List Row), E c f pre (a ++ comb u k v :: b) = E c f pre (a ++ u :: b) + k * E c f pre (a ++ v :: b) := by
  intro a
  induction a with
  | nil =>
    intro pre b
    have h := E_lin_pre (c := c) hf u v k b pre []
    simp only [E, List.nil_append] at *
    rw [h]
    have : comb u k v c = u c + k * v c := rfl
    rw [this, Int.add_mul, Int.mul_sub, Int.mul_assoc]; omega
  | cons r a ih =>
    intro pre b
    have h1 := hf (pre ++ a) b u v k
    have h2 := ih (pre ++ [r]) b
    simp only [E, List.append_assoc, List.cons_append] at *
    rw [h1, h2, Int.mul_add, Int.mul_sub]
    have : r c * (k * f (pre ++ (a ++ v :: b))) = k * (r c * f (pre ++ (a ++ v :: b))) := by
      rw [← Int.mul_assoc, Int.mul_comm (r c) k, Int.mul_assoc]
    rw [this]; omega

theorem E_alt_pre {c : Nat} {f : List Row → Int} (hf : Alt f) (u : Row) :
    ∀ (b p q : List Row), E c f (p ++ u :: u :: q) b = 0 := by
  intro b
  induction b with
  | nil => intro p q; rfl
  | cons r b ih =>
    intro p q
    have h1 := hf p (q ++ b) u
    have h2 := ih p (q ++ [r])
    simp only [E, List.append_assoc, List.cons_append] at *
    rw [h1, h2]; simp

theorem E_alt {c : Nat} {f : List Row → Int} (hf : Alt f) (u : Row) :
    ∀ (a pre b : List Row), E c f pre (a ++ u :: u :: b) = 0 := by
  intro a
  induction a with
  | nil =>
    intro pre b
    have h := E_alt_pre (c := c) hf u b pre []
    simp only [E, List.nil_append, List.append_assoc, List.cons_append] at *
    rw [h]; omega
  | cons r a ih =>
    intro pre b
    have h1 := hf (pre ++ a) b u
    have h2 := ih (pre ++ [r]) b
    simp only [E, List.append_assoc, List.cons_append] at *
    rw [h1, h2]; simp

theorem D_lin : ∀ cs, Lin (D cs) := by
  intro cs
  induction cs with
  | nil => intro a b u v k; cases a <;> simp [D]
  | cons c cs ih => intro a b u v k; exact E_lin ih u v k a [] b

theorem D_alt : ∀ cs, Alt (D cs) := by
  intro cs
  induction cs with
  | nil => intro a b u; cases a <;> simp [D]
  | cons c cs ih => intro a b u; exact E_alt ih u a [] b

theorem comb_one (u v : Row) : comb u 1 v = comb v 1 u := by
  funext j; simp only [comb]; omega

theorem D_swap (cs : List Nat) (a b : List Row) (u v : Row) :
    D cs (a ++ u :: v :: b) = - D cs (a ++ v :: u :: b) := by
  have h0 := D_alt cs a b (comb u 1 v)
  have h1 := D_lin cs a (comb u 1 v :: b) u v 1
  have h2 := D_lin cs (a ++ [u]) b u v 1
  have h3 := D_lin cs (a ++ [v]) b u v 1
  have h4 := D_alt cs a b u
  have h5 := D_alt cs a b v
  simp only [List.append_assoc, List.cons_append, List.nil_append] at h2 h3
  rw [h1, h2, h3, h4, h5] at h0
  omega

theorem D_far (cs : List Nat) (u : Row) : ∀ (a p b : List Row), D cs (p ++ u :: (a ++ u :: b)) = 0 := by
  intro a
  induction a with
  | nil => intro p b; exact D_alt cs p b u
  | cons r a ih =>
    intro p b
    have h1 := D_swap cs p (a ++ u :: b) u r
    have h2 := ih (p ++ [r]) b
    simp only [List.append_assoc, List.cons_append, List.nil_append] at *
    rw [h1, h2]; rfl

theorem D_mem (cs : List Nat) (u : Row) (rows : List Row) (h : u ∈ rows) : D cs (u :: rows) = 0 := by
  obtain ⟨a, b, rfl⟩ := List.append_of_mem h
  exact D_far cs u a [] b

/-- What rows span. -/
inductive Sp (rows : List Row) : Row → Prop
  | zero : Sp rows (fun _ => 0)
  | add (w : Row) (k : Int) (v : Row) : Sp rows w → v ∈ rows → Sp rows (comb w k v)

theorem comb_assoc (u w v : Row) (k : Int) : (fun j => u j + comb w k v j) = comb (fun j => u j + w j) k v := by
  funext j; simp only [comb]; omega

theorem D_sp (cs : List Nat) (rows : List Row) (u w : Row) (h : Sp rows w) :
    D cs ((fun j => u j + w j) :: rows) = D cs (u :: rows) := by
  induction h with
  | zero => simp
  | add w k v _ hv ih =>
    rw [comb_assoc]
    have := D_lin cs [] rows (fun j => u j + w j) v k
    simp only [List.nil_append] at this
    rw [this, D_mem cs v rows hv, ih]; omega

theorem D_zero : ∀ (cs : List Nat) (a b : List Row) (r : Row), (∀ j ∈ cs, r j = 0) → D cs (a ++ r :: b) = 0 := by
  intro cs
  induction cs with
  | nil => intro a b r _; cases a <;> simp [D]
  | cons c cs ih =>
    intro a b r h
    have hc : r c = 0 := h c (List.mem_cons_self ..)
    have hr : ∀ j ∈ cs, r j = 0 := fun j hj => h j (List.mem_cons_of_mem _ hj)
    have q1 : ∀ (b p q : List Row), E c (D cs) (p ++ r :: q) b = 0 := by
      intro b
      induction b with
      | nil => intro p q; rfl
      | cons s b ihb =>
        intro p q
        have h1 := ih p (q ++ b) r hr
        have h2 := ihb p (q ++ [s])
        simp only [E, List.append_assoc, List.cons_append] at *
        rw [h1, h2]; simp
    have q2 : ∀ (a p : List Row), E c (D cs) p (a ++ r :: b) = 0 := by
      intro a
      induction a with
      | nil =>
        intro p
        have h2 := q1 b p []
        simp only [E, List.nil_append] at *
        rw [h2, hc]; simp
      | cons s a iha =>
        intro p
        have h1 := ih (p ++ a) b r hr
        have h2 := iha (p ++ [s])
        simp only [E, List.append_assoc, List.cons_append] at *
        rw [h1, h2]; simp
    exact q2 a []

theorem D_first (c : Nat) (cs : List Nat) (rows : List Row) (r : Row) (h : ∀ j ∈ cs, r j = 0) :
    D (c :: cs) (r :: rows) = r c * D cs rows := by
  have q1 : ∀ (b p q : List Row), E c (D cs) (p ++ r :: q) b = 0 := by
    intro b
    induction b with
    | nil => intro p q; rfl
    | cons s b ihb =>
      intro p q
      have h1 := D_zero cs p (q ++ b) r h
      have h2 := ihb p (q ++ [s])
      simp only [E, List.append_assoc, List.cons_append] at *
      rw [h1, h2]; simp
  have := q1 rows [] []
  simp only [D, E, List.nil_append] at *
  rw [this]; omega

/-- A row times a number. -/
theorem D_scale (cs : List Nat) (rows : List Row) (k : Int) (v : Row) :
    D cs ((fun j => k * v j) :: rows) = k * D cs (v :: rows) := by
  have h := D_lin cs [] rows (fun _ => 0) v k
  have hz := D_zero cs [] rows (fun _ => 0) (fun _ _ => rfl)
  have he : comb (fun _ => 0) k v = fun j => k * v j := by funext j; simp [comb]
  simp only [List.nil_append] at *
  rw [he, hz] at h
  rw [h]; omega

/-- The heart: a row made zero at the columns of S tells the bordered minor. -/
theorem D_border (S : List Nat) (rows : List Row) (u w b : Row) (m : Int) (j : Nat)
    (hw : Sp rows w) (hb : ∀ x, m * u x + w x = b x) (hz : ∀ x ∈ S, b x = 0) :
    m * D (j :: S) (u :: rows) = b j * D S rows := by
  rw [← D_scale, ← D_sp (j :: S) rows (fun x => m * u x) w hw]
  have : (fun x => m * u x + w x) = b := funext hb
  rw [this, D_first j S rows b hz]

theorem Sp_mono {rows rows' : List Row} (h : ∀ r ∈ rows, r ∈ rows') {w : Row} (hw : Sp rows w) : Sp rows' w := by
  induction hw with
  | zero => exact .zero
  | add w k v _ hv ih => exact .add w k v ih (h v hv)

theorem Sp_scale {rows : List Row} {w : Row} (hw : Sp rows w) (c : Int) : Sp rows (fun j => c * w j) := by
  induction hw with
  | zero => simpa using Sp.zero
  | add w k v _ hv ih =>
    have := Sp.add _ (c * k) v ih hv
    have e : comb (fun j => c * w j) (c * k) v = fun j => c * comb w k v j := by
      funext j; simp only [comb]; rw [Int.mul_add, Int.mul_assoc]
    rwa [e] at this

theorem Sp_add {rows : List Row} {w w' : Row} (hw : Sp rows w) (hw' : Sp rows w') : Sp rows (fun j => w j + w' j) := by
  induction hw' with
  | zero => simpa using hw
  | add w' k v _ hv ih =>
    have := Sp.add _ k v ih hv
    rwa [← comb_assoc] at this

end PySem.El
namespace PySem.El

def redu (B : Nat → Row) (k : Nat) (d : Int) : Nat → Row := fun i j =>
  if k < i ∧ k < j then (B k k * B i j - B k i * B k j) / d else 0

/-- How the rest stands ahead of the index k: S are the pivots found (the newest first), d is the last pivot. -/
structure Inv (A : Nat → Row) (S : List Nat) (k : Nat) (d : Int) (B : Nat → Row) : Prop where
  small : ∀ s ∈ S, s < k
  dpos : 0 < d
  det : D S (S.map A) = d
  sym : ∀ i j, B i j = B j i
  low : ∀ i j, j < k → B i j = 0
  span : ∀ i, k ≤ i → ∃ m w, m ≠ 0 ∧ Sp (S.map A) w ∧ ∀ x, m * (d * A i x) + w x = m * B i x

theorem Inv.begin (A : Nat → Row) (h : ∀ i j, A i j = A j i) : Inv A [] 0 1 A where
  small := by simp
  dpos := by decide
  det := rfl
  sym := h
  low := by intro i j h; omega
  span := by
    intro i _
    exact ⟨1, fun _ => 0, by decide, .zero, by intro x; simp⟩

theorem Inv.skip {A : Nat → Row} {S k d B} (h : Inv A S k d B) (hz : ∀ x, B k x = 0) : Inv A S (k + 1) d B where
  small := fun s hs => Nat.lt_succ_of_lt (h.small s hs)
  dpos := h.dpos
  det := h.det
  sym := h.sym
  low := by
    intro i j hj
    by_cases e : j = k
    · rw [e, h.sym, hz]
    · exact h.low i j (by omega)
  span := fun i hi => h.span i (by omega)

theorem Inv.minor {A : Nat → Row} {S k d B} (h : Inv A S k d B) {i : Nat} (hi : k ≤ i) (j : Nat) :
    B i j = D (j :: S) (A i :: S.map A) := by
  obtain ⟨m, w, hm, hw, he⟩ := h.span i hi
  have hb := D_border S (S.map A) (A i) w (fun x => m * B i x) (m * d) j hw
    (by intro x; rw [← he x, Int.mul_assoc]) (by intro x hx; rw [h.low i x (h.small x hx)]; simp)
  rw [h.det] at hb
  have hne : m * d ≠ 0 := Int.mul_ne_zero hm (by have := h.dpos; omega)
  apply Int.eq_of_mul_eq_mul_left hne
  rw [hb]; grind

theorem Inv.pivotDet {A : Nat → Row} {S k d B} (h : Inv A S k d B) :
    D (k :: S) ((k :: S).map A) = B k k := (h.minor (Nat.le_refl k) k).symm

/-- The elimination step leaves no remainder. -/
theorem Inv.exact {A : Nat → Row} {S k d B} (h : Inv A S k d B) (hp : 0 < B k k) (i j : Nat) :
    d * redu B k d i j = B k k * B i j - B k i * B k j := by
  have hd := h.dpos
  unfold redu
  by_cases c : k < i ∧ k < j
  · rw [if_pos c]
    obtain ⟨m, w, hm, hw, he⟩ := h.span i (by omega)
    obtain ⟨mk, wk, hmk, hwk, hek⟩ := h.span k (Nat.le_refl k)
    have hsub : ∀ r ∈ S.map A, r ∈ (k :: S).map A := fun r hr => List.mem_cons_of_mem _ hr
    have hW : Sp ((k :: S).map A) (comb (fun x => (B k k * mk) * w x + (-(B k i * m)) * wk x) (-(B k i * m * mk * d)) (A k)) :=
      .add _ _ _ (Sp_add (Sp_scale (Sp_mono hsub hw) _) (Sp_scale (Sp_mono hsub hwk) _)) (List.mem_cons_self ..)
    have hb := D_border (k :: S) ((k :: S).map A) (A i) _ (fun x => m * mk * (B k k * B i x - B k i * B k x))
      (m * mk * B k k * d) j hW
      (by intro x; simp only [comb]; have e1 := he x; have e2 := hek x; grind)
      (by
        intro x hx
        rcases List.mem_cons.1 hx with e | hx
        · subst e; have := h.sym i x; grind
        · have l1 := h.low i x (h.small x hx); have l2 := h.low k x (h.small x hx); simp [l1, l2])
    rw [h.pivotDet] at hb
    have hne : m * mk * B k k ≠ 0 := Int.mul_ne_zero (Int.mul_ne_zero hm hmk) (by omega)
    have hN : d * D (j :: k :: S) (A i :: (k :: S).map A) = B k k * B i j - B k i * B k j := by
      apply Int.eq_of_mul_eq_mul_left hne
      grind
    rw [← hN, Int.mul_ediv_cancel_left _ (by omega)]
  · rw [if_neg c]
    by_cases ci : k < i
    · have cj : j ≤ k := by omega
      rcases Nat.lt_or_eq_of_le cj with l | e
      · have l1 := h.low i j l; have l2 := h.low k j l; simp [l1, l2]
      · subst e; have := h.sym i j; grind
    · rcases Nat.lt_or_eq_of_le (Nat.le_of_not_lt ci) with l | e
      · have l1 := h.sym i j; have l2 := h.low j i l; have l3 := h.low k i l; rw [l1, l2, l3]; simp
      · subst e; grind

theorem Inv.pivot {A : Nat → Row} {S k d B} (h : Inv A S k d B) (hp : 0 < B k k) :
    Inv A (k :: S) (k + 1) (B k k) (redu B k d) where
  small := by
    intro s hs
    rcases List.mem_cons.1 hs with e | hs
    · omega
    · have := h.small s hs; omega
  dpos := hp
  det := h.pivotDet
  sym := by
    intro i j
    have hd := h.dpos
    apply Int.eq_of_mul_eq_mul_left (show d ≠ 0 by omega)
    rw [h.exact hp, h.exact hp, h.sym i j]; grind
  low := by
    intro i j hj
    unfold redu
    rw [if_neg (by omega)]
  span := by
    intro i hi
    obtain ⟨m, w, hm, hw, he⟩ := h.span i (by omega)
    obtain ⟨mk, wk, hmk, hwk, hek⟩ := h.span k (Nat.le_refl k)
    have hd := h.dpos
    have hsub : ∀ r ∈ S.map A, r ∈ (k :: S).map A := fun r hr => List.mem_cons_of_mem _ hr
    refine ⟨m * mk * d, comb (fun x => (B k k * mk) * w x + (-(B k i * m)) * wk x) (-(B k i * m * mk * d)) (A k),
      Int.mul_ne_zero (Int.mul_ne_zero hm hmk) (by omega),
      .add _ _ _ (Sp_add (Sp_scale (Sp_mono hsub hw) _) (Sp_scale (Sp_mono hsub hwk) _)) (List.mem_cons_self ..), ?_⟩
    intro x
    have e := h.exact hp i x
    have e1 := he x
    have e2 := hek x
    simp only [comb]
    grind

/-- A bound of minors. -/
def bnd (M : Int) : Nat → Int
  | 0 => 1
  | n + 1 => ((n : Int) + 1) * (M * bnd M n)

theorem bnd_nonneg {M : Int} (hM : 0 ≤ M) : ∀ n, 0 ≤ bnd M n
  | 0 => by simp [bnd]
  | n + 1 => Int.mul_nonneg (by omega) (Int.mul_nonneg hM (bnd_nonneg hM n))

theorem abs_mul_le {a b x y : Int} (ha : -x ≤ a ∧ a ≤ x) (hb : -y ≤ b ∧ b ≤ y) : -(x * y) ≤ a * b ∧ a * b ≤ x * y := by
  have hx : 0 ≤ x := by omega
  have hy : 0 ≤ y := by omega
  have h1 : a.natAbs * b.natAbs ≤ x.natAbs * y.natAbs := Nat.mul_le_mul (by omega) (by omega)
  rw [← Int.natAbs_mul, ← Int.natAbs_mul] at h1
  have := Int.mul_nonneg hx hy
  omega

theorem E_bound {c : Nat} {f : List Row → Int} {M G : Int} (n : Nat) : ∀ (rs pre : List Row), (∀ r ∈ rs, -M ≤ r c ∧ r c ≤ M) →
    (∀ q : List Row, q.length = n → (∀ r ∈ q, r ∈ pre ++ rs) → -G ≤ f q ∧ f q ≤ G) → pre.length + rs.length = n + 1 →
    -((rs.length : Int) * (M * G)) ≤ E c f pre rs ∧ E c f pre rs ≤ (rs.length : Int) * (M * G) := by
  intro rs
  induction rs with
  | nil => intro pre _ _ _; simp [E]
  | cons r rs ih =>
    intro pre hr hf hl
    have h1 := ih (pre ++ [r]) (fun s hs => hr s (List.mem_cons_of_mem _ hs))
      (by intro q hq hm; apply hf q hq; intro s hs; have := hm s hs; simpa using this)
      (by simp at *; omega)
    have h2 := hf (pre ++ rs) (by simp at *; omega) (by
      intro s hs; rcases List.mem_append.1 hs with a | a
      · exact List.mem_append_left _ a
      · exact List.mem_append_right _ (List.mem_cons_of_mem _ a))
    have h3 := abs_mul_le (hr r (List.mem_cons_self ..)) h2
    have e : ((r :: rs).length : Int) * (M * G) = (rs.length : Int) * (M * G) + M * G := by
      simp [Int.add_mul]
    simp only [E]
    rw [e]
    omega

theorem D_bound {M : Int} (hM : 0 ≤ M) : ∀ (cs : List Nat) (rows : List Row), rows.length = cs.length →
    (∀ r ∈ rows, ∀ c ∈ cs, -M ≤ r c ∧ r c ≤ M) →
    -(bnd M cs.length) ≤ D cs rows ∧ D cs rows ≤ bnd M cs.length := by
  intro cs
  induction cs with
  | nil =>
    intro rows hl _
    cases rows with
    | nil => simp [D, bnd]
    | cons r rs => simp at hl
  | cons c cs ih =>
    intro rows hl h
    have := E_bound (c := c) (f := D cs) (M := M) (G := bnd M cs.length) cs.length rows []
      (fun r hr => h r hr c (List.mem_cons_self ..))
      (by
        intro q hq hm
        exact ih q hq (fun r hr x hx => h r (by simpa using hm r hr) x (List.mem_cons_of_mem _ hx)))
      (by simpa using hl)
    simp only [D, bnd, List.length_cons]
    rw [hl] at this
    simpa using this

theorem Inv.bound {A : Nat → Row} {S k d B} (h : Inv A S k d B) {M : Int} (hM : 0 ≤ M)
    (hA : ∀ i j, -M ≤ A i j ∧ A i j ≤ M) {i : Nat} (hi : k ≤ i) (j : Nat) :
    -(bnd M (S.length + 1)) ≤ B i j ∧ B i j ≤ bnd M (S.length + 1) := by
  rw [h.minor hi j]
  have := D_bound hM (j :: S) (A i :: S.map A) (by simp) (by
    intro r hr c _
    rcases List.mem_cons.1 hr with e | hr
    · subst e; exact hA i c
    · obtain ⟨s, _, rfl⟩ := List.mem_map.1 hr; exact hA s c)
  simpa using this

end PySem.El
namespace PySem.El

/-- The pivots of an elimination, newest first: index, row, scale. -/
abbrev Pv := Nat × Row × Int

/-- The elimination without fractions up to the index k. -/
inductive Run (A : Nat → Row) : Nat → List Nat → Int → (Nat → Row) → List Pv → Prop
  | begin : Run A 0 [] 1 A []
  | skip {k S d B ps} : Run A k S d B ps → (∀ x, B k x = 0) → Run A (k + 1) S d B ps
  | pivot {k S d B ps} : Run A k S d B ps → 0 < B k k →
      Run A (k + 1) (k :: S) (B k k) (redu B k d) ((k, B k, d * B k k) :: ps)

theorem Run.inv {A : Nat → Row} (hA : ∀ i j, A i j = A j i) {k S d B ps} (h : Run A k S d B ps) : Inv A S k d B := by
  induction h with
  | begin => exact .begin A hA
  | skip _ hz ih => exact ih.skip hz
  | pivot _ hp ih => exact ih.pivot hp

theorem Run.same {A : Nat → Row} {k S d B ps} (h : Run A k S d B ps) :
    ∀ {S' d' B' ps'}, Run A k S' d' B' ps' → S = S' ∧ d = d' ∧ B = B' ∧ ps = ps' := by
  induction h with
  | begin => intro _ _ _ _ h; cases h; exact ⟨rfl, rfl, rfl, rfl⟩
  | @skip k S d B ps _ hz ih =>
    intro _ _ _ _ h
    cases h with
    | skip h' _ => exact ih h'
    | @pivot _ _ _ B' _ h' hp =>
      obtain ⟨_, _, e, _⟩ := ih h'
      subst e; have := hz k; omega
  | @pivot k S d B ps _ hp ih =>
    intro _ _ _ _ h
    cases h with
    | @skip _ _ _ B' _ h' hz =>
      obtain ⟨_, _, e, _⟩ := ih h'
      subst e; have := hz k; omega
    | pivot h' _ =>
      obtain ⟨e1, e2, e3, e4⟩ := ih h'
      subst e1; subst e2; subst e3; subst e4
      exact ⟨rfl, rfl, rfl, rfl⟩

theorem Run.leads {A : Nat → Row} {k S d B ps} (h : Run A k S d B ps) : ps.map (·.1) = S := by
  induction h with
  | begin => rfl
  | skip _ _ ih => exact ih
  | pivot _ _ ih => simp [ih]

theorem Run.many {A : Nat → Row} {k S d B ps} (h : Run A k S d B ps) : S.length ≤ k := by
  induction h with
  | begin => simp
  | skip _ _ ih => omega
  | pivot _ _ ih => simp; omega

/-- What a step of the elimination with common divisors leaves, times g. -/
def numer (R : Nat → Row) (k : Nat) : Nat → Row := fun i j => R k k * R i j - R k i * R k j

/-- Two rests that tell the same from k on. -/
structure Tie (k : Nat) (R B : Nat → Row) : Prop where
  ex : ∃ a b : Int, 0 < a ∧ 0 < b ∧ ∀ i j, k ≤ i → k ≤ j → a * R i j = b * B i j

theorem Tie.zero {k R B} (h : Tie k R B) {i j : Nat} (hi : k ≤ i) (hj : k ≤ j) : R i j = 0 ↔ B i j = 0 := by
  obtain ⟨a, b, ha, hb, he⟩ := h.ex
  have := he i j hi hj
  constructor
  · intro z
    rw [z, Int.mul_zero] at this
    rcases Int.mul_eq_zero.1 this.symm with q | q <;> omega
  · intro z
    rw [z, Int.mul_zero] at this
    rcases Int.mul_eq_zero.1 this with q | q <;> omega

theorem Tie.pos {k R B} (h : Tie k R B) {i j : Nat} (hi : k ≤ i) (hj : k ≤ j) : 0 < R i j ↔ 0 < B i j := by
  obtain ⟨a, b, ha, hb, he⟩ := h.ex
  have e := he i j hi hj
  constructor
  · intro z
    have := Int.mul_pos ha z
    rw [e] at this
    exact Int.pos_of_mul_pos_right this hb
  · intro z
    have := Int.mul_pos hb z
    rw [← e] at this
    exact Int.pos_of_mul_pos_right this ha

theorem Tie.skip {k R B} (h : Tie k R B) : Tie (k + 1) R B := by
  obtain ⟨a, b, ha, hb, he⟩ := h.ex
  exact ⟨a, b, ha, hb, fun i j hi hj => he i j (by omega) (by omega)⟩

/-- A step of the law's elimination: g is the common divisor of what is left behind k (0 if all is 0). -/
theorem Tie.pivot {A : Nat → Row} {S k d B R R'} (h : Inv A S k d B) (hp : 0 < B k k) (t : Tie k R B)
    (g : Int) (hg0 : 0 ≤ g)
    (hg : ∀ a c : Int, (∀ i j, k < i → k < j → c ∣ a * numer R k i j) → c ∣ a * g)
    (hR : ∀ i j, k < i → k < j → numer R k i j = g * R' i j)
    (hz : g = 0 → ∀ i j, k < i → k < j → R' i j = 0) :
    Tie (k + 1) R' (redu B k d) ∧ ∀ i j, k < i → k < j → (R' i j).natAbs ≤ (redu B k d i j).natAbs := by
  obtain ⟨a, b, ha, hb, he⟩ := t.ex
  have hd := h.dpos
  have key : ∀ i j, k < i → k < j → (a * a) * numer R k i j = (b * b * d) * redu B k d i j := by
    intro i j hi hj
    have e := h.exact hp i j
    have e1 := he k k (by omega) (by omega)
    have e2 := he i j (by omega) (by omega)
    have e3 := he k i (by omega) (by omega)
    have e4 := he k j (by omega) (by omega)
    rw [show (b * b * d) * redu B k d i j = b * b * (d * redu B k d i j) by grind, e]
    unfold numer
    have : (a * a) * (R k k * R i j - R k i * R k j) = (a * R k k) * (a * R i j) - (a * R k i) * (a * R k j) := by grind
    rw [this, e1, e2, e3, e4]; grind
  have hbd : 0 < b * b * d := Int.mul_pos (Int.mul_pos hb hb) hd
  have fin : ∃ q : Int, 0 < q ∧ ∀ i j, k < i → k < j → q * R' i j = redu B k d i j := by
    by_cases g0 : g = 0
    · refine ⟨1, by decide, ?_⟩
      intro i j hi hj
      have e := key i j hi hj
      rw [hR i j hi hj, g0] at e
      rw [hz g0 i j hi hj]
      simp only [Int.zero_mul, Int.mul_zero] at e
      rcases Int.mul_eq_zero.1 e.symm with q | q
      · omega
      · omega
    · have hdv := hg (a * a) (b * b * d) (fun i j hi hj => ⟨redu B k d i j, key i j hi hj⟩)
      obtain ⟨q, hq⟩ := hdv
      have hpos : 0 < a * a * g := Int.mul_pos (Int.mul_pos ha ha) (by omega)
      refine ⟨q, ?_, ?_⟩
      · rw [hq] at hpos
        exact Int.pos_of_mul_pos_right hpos hbd
      · intro i j hi hj
        have e := key i j hi hj
        rw [hR i j hi hj] at e
        apply Int.eq_of_mul_eq_mul_left (show b * b * d ≠ 0 by omega)
        rw [← e, ← Int.mul_assoc, ← hq]; grind
  obtain ⟨q, hq, hqe⟩ := fin
  refine ⟨⟨q, 1, hq, by decide, ?_⟩, ?_⟩
  · intro i j hi hj
    rw [hqe i j (by omega) (by omega)]; simp
  · intro i j hi hj
    rw [← hqe i j hi hj, Int.natAbs_mul]
    exact Nat.le_mul_of_pos_left _ (by omega)

/-- The greatest common divisor of numbers. -/
def gl (l : List Int) : Nat := l.foldl (fun g x => Nat.gcd g x.natAbs) 0

theorem gl_fold (l : List Int) : ∀ g, l.foldl (fun g x => Nat.gcd g x.natAbs) g = Nat.gcd g (gl l) := by
  unfold gl
  induction l with
  | nil => intro g; simp
  | cons x l ih =>
    intro g
    simp only [List.foldl_cons]
    rw [ih, ih (Nat.gcd 0 x.natAbs)]
    simp [Nat.gcd_assoc]

theorem gl_cons (x : Int) (l : List Int) : gl (x :: l) = Nat.gcd x.natAbs (gl l) := by
  have := gl_fold l (Nat.gcd 0 x.natAbs)
  unfold gl at *
  simp only [List.foldl_cons]
  rw [this]; simp

theorem nat_dvd {n : Nat} {x : Int} : (n : Int) ∣ x ↔ n ∣ x.natAbs := by
  rw [← Int.natAbs_dvd_natAbs, Int.natAbs_natCast]

theorem gl_dvd {l : List Int} {x : Int} (h : x ∈ l) : (gl l : Int) ∣ x := by
  induction l with
  | nil => simp at h
  | cons y l ih =>
    rw [gl_cons]
    rcases List.mem_cons.1 h with e | h
    · subst e
      exact nat_dvd.2 (Nat.gcd_dvd_left _ _)
    · have h1 := nat_dvd.1 (ih h)
      exact nat_dvd.2 (Nat.dvd_trans (Nat.gcd_dvd_right _ _) h1)

theorem dvd_gl {l : List Int} (a c : Int) (h : ∀ x ∈ l, c ∣ a * x) : c ∣ a * (gl l : Int) := by
  induction l with
  | nil => simp [gl]
  | cons y l ih =>
    have h1 := h y (List.mem_cons_self ..)
    have h2 := ih (fun x hx => h x (List.mem_cons_of_mem _ hx))
    rw [gl_cons]
    have g1 : c.natAbs ∣ a.natAbs * y.natAbs := by rw [← Int.natAbs_mul]; exact Int.natAbs_dvd_natAbs.2 h1
    have g2 : c.natAbs ∣ a.natAbs * gl l := by
      have := Int.natAbs_dvd_natAbs.2 h2
      rwa [Int.natAbs_mul, Int.natAbs_natCast] at this
    have g3 : c.natAbs ∣ a.natAbs * Nat.gcd y.natAbs (gl l) := by
      rw [← Nat.gcd_mul_left]; exact Nat.dvd_gcd g1 g2
    apply Int.natAbs_dvd_natAbs.1
    rwa [Int.natAbs_mul, Int.natAbs_natCast]

end PySem.El
namespace PySem.El

/-- The sum of f below n. -/
def sm : Nat → (Nat → Int) → Int
  | 0, _ => 0
  | n + 1, f => sm n f + f n

theorem sm_congr {n : Nat} {f g : Nat → Int} (h : ∀ i, i < n → f i = g i) : sm n f = sm n g := by
  induction n with
  | zero => rfl
  | succ n ih => simp only [sm]; rw [ih (fun i hi => h i (by omega)), h n (by omega)]

theorem sm_add (n : Nat) (f g : Nat → Int) : sm n (fun i => f i + g i) = sm n f + sm n g := by
  induction n with
  | zero => rfl
  | succ n ih => simp only [sm]; rw [ih]; omega

theorem sm_sub (n : Nat) (f g : Nat → Int) : sm n (fun i => f i - g i) = sm n f - sm n g := by
  induction n with
  | zero => rfl
  | succ n ih => simp only [sm]; rw [ih]; omega

theorem sm_mul (n : Nat) (c : Int) (f : Nat → Int) : sm n (fun i => c * f i) = c * sm n f := by
  induction n with
  | zero => simp [sm]
  | succ n ih => simp only [sm]; rw [ih, Int.mul_add]

theorem sm_zero (n : Nat) : sm n (fun _ => 0) = 0 := by
  induction n with
  | zero => rfl
  | succ n ih => simp only [sm]; rw [ih]; rfl

theorem sm_one {n k : Nat} (f : Nat → Int) (hk : k < n) : sm n (fun i => if i = k then f i else 0) = f k := by
  induction n with
  | zero => omega
  | succ n ih =>
    simp only [sm]
    by_cases e : k = n
    · subst e
      have : sm k (fun i => if i = k then f i else 0) = sm k (fun _ => 0) :=
        sm_congr (fun i hi => if_neg (by omega))
      rw [this, sm_zero]; simp
    · rw [ih (by omega), if_neg (by omega)]; omega

def lin (n : Nat) (r x : Row) : Int := sm n (fun j => r j * x j)

/-- The value of a matrix at a point. -/
def Q (n : Nat) (B : Nat → Row) (x : Row) : Int := sm n (fun i => sm n (fun j => B i j * (x i * x j)))

theorem Q_congr {n B B' x x'} (h : ∀ i j, i < n → j < n → B i j * (x i * x j) = B' i j * (x' i * x' j)) :
    Q n B x = Q n B' x' := sm_congr (fun i hi => sm_congr (fun j hj => h i j hi hj))

theorem Q_mul (n : Nat) (c : Int) (B : Nat → Row) (x : Row) : Q n (fun i j => c * B i j) x = c * Q n B x := by
  unfold Q
  rw [← sm_mul]
  apply sm_congr; intro i _
  rw [← sm_mul]
  apply sm_congr; intro j _
  rw [Int.mul_assoc]

theorem Q_add (n : Nat) (B C : Nat → Row) (x : Row) : Q n (fun i j => B i j + C i j) x = Q n B x + Q n C x := by
  unfold Q
  rw [← sm_add]
  apply sm_congr; intro i _
  rw [← sm_add]
  apply sm_congr; intro j _
  rw [Int.add_mul]

theorem Q_square (n : Nat) (r x : Row) : Q n (fun i j => r i * r j) x = lin n r x * lin n r x := by
  unfold Q
  have : ∀ i, sm n (fun j => r i * r j * (x i * x j)) = lin n r x * (r i * x i) := by
    intro i
    rw [Int.mul_comm]
    unfold lin
    rw [← sm_mul]
    apply sm_congr; intro j _; grind
  rw [sm_congr (fun i _ => this i), sm_mul]
  rfl

/-- One step tells the value: the square of the pivot's row, and the rest. -/
theorem Inv.value {A : Nat → Row} {S k d B} (h : Inv A S k d B) (hp : 0 < B k k) (n : Nat) (x : Row) :
    B k k * Q n B x = lin n (B k) x * lin n (B k) x + d * Q n (redu B k d) x := by
  rw [← Q_square, ← Q_mul, ← Q_mul, ← Q_add]
  apply Q_congr
  intro i j _ _
  rw [h.exact hp]; grind

theorem Run.value {A : Nat → Row} (hA : ∀ i j, A i j = A j i) {k S d B ps} (h : Run A k S d B ps) (n : Nat) (x : Row)
    (hx : ∀ p ∈ ps, lin n p.2.1 x = 0) : ∃ u v : Int, 0 < u ∧ 0 < v ∧ u * Q n A x = v * Q n B x := by
  induction h with
  | begin => exact ⟨1, 1, by decide, by decide, rfl⟩
  | skip _ _ ih => exact ih hx
  | @pivot k S d B ps h hp ih =>
    obtain ⟨u, v, hu, hv, he⟩ := ih (fun p hp => hx p (List.mem_cons_of_mem _ hp))
    have hI := h.inv hA
    have e := hI.value hp n x
    have hl := hx _ (List.mem_cons_self ..)
    simp only at hl
    rw [hl] at e
    refine ⟨B k k * u, v * d, Int.mul_pos hp hu, Int.mul_pos hv hI.dpos, ?_⟩
    grind

def rest (n k : Nat) (row x : Row) : Int := sm n (fun j => if k < j then row j * x j else 0)

/-- A point at which one more pivot's row is 0. -/
def sett1 (n k : Nat) (row x : Row) : Row := fun i =>
  if i = k then -rest n k row x / (Int.gcd (rest n k row x) (row k) : Int)
  else row k / (Int.gcd (rest n k row x) (row k) : Int) * x i

def setl (n : Nat) : List Pv → Row → Row
  | [], x => x
  | p :: ps, x => setl n ps (sett1 n p.1 p.2.1 x)

theorem lin_split {n k : Nat} (row x : Row) (hk : k < n) (hz : ∀ j, j < k → row j = 0) :
    lin n row x = row k * x k + rest n k row x := by
  unfold lin rest
  rw [← sm_one (fun j => row j * x j) hk, ← sm_add]
  apply sm_congr
  intro j _
  by_cases c : j = k
  · rw [if_pos c, if_neg (by omega)]; omega
  · rw [if_neg c]
    by_cases c2 : k < j
    · rw [if_pos c2]; omega
    · rw [if_neg c2, hz j (by omega)]; simp

theorem sett1_zero {n k : Nat} (row x : Row) (hk : k < n) (hz : ∀ j, j < k → row j = 0) (hp : 0 < row k) :
    lin n row (sett1 n k row x) = 0 ∧
      ∃ f, 0 < f ∧ ∀ i, i ≠ k → sett1 n k row x i = f * x i := by
  let g : Int := (Int.gcd (rest n k row x) (row k) : Int)
  have hg : 0 < g := by
    have : 0 < Int.gcd (rest n k row x) (row k) := Int.gcd_pos_of_ne_zero_right _ (by omega)
    show (0 : Int) < (Int.gcd (rest n k row x) (row k) : Int)
    omega
  obtain ⟨r1, h1⟩ : g ∣ rest n k row x := Int.gcd_dvd_left ..
  obtain ⟨p1, h2⟩ : g ∣ row k := Int.gcd_dvd_right ..
  have hp1 : 0 < p1 := by rw [h2] at hp; exact Int.pos_of_mul_pos_right hp hg
  have e1 : -rest n k row x / g = -r1 := by
    rw [h1, ← Int.mul_neg, Int.mul_ediv_cancel_left _ (by omega)]
  have e2 : row k / g = p1 := by
    rw [h2, Int.mul_ediv_cancel_left _ (by omega)]
  have hs : ∀ i, sett1 n k row x i = if i = k then -r1 else p1 * x i := by
    intro i
    show (if i = k then -rest n k row x / g else row k / g * x i) = _
    rw [e1, e2]
  refine ⟨?_, p1, hp1, ?_⟩
  · rw [lin_split row _ hk hz, hs k, if_pos rfl]
    have : rest n k row (sett1 n k row x) = p1 * rest n k row x := by
      unfold rest
      rw [← sm_mul]
      apply sm_congr
      intro j _
      by_cases c : k < j
      · rw [if_pos c, if_pos c, hs j, if_neg (by omega)]; grind
      · rw [if_neg c, if_neg c]; simp
    rw [this, h1, h2]; grind
  · intro i hi
    rw [hs i, if_neg hi]

theorem lin_mul (n : Nat) (r x y : Row) (c : Int) (h : ∀ i, i < n → r i = 0 ∨ y i = c * x i) : lin n r y = c * lin n r x := by
  unfold lin
  rw [← sm_mul]
  apply sm_congr
  intro j hj
  rcases h j hj with e | e
  · rw [e]; simp
  · rw [e]; grind

theorem Run.settled {A : Nat → Row} (hA : ∀ i j, A i j = A j i) {k S d B ps} (h : Run A k S d B ps) (n : Nat) (hk : k ≤ n) :
    ∀ x, (∀ p ∈ ps, lin n p.2.1 (setl n ps x) = 0) ∧ ∃ f, 0 < f ∧ ∀ i, i ∉ S → setl n ps x i = f * x i := by
  induction h with
  | begin => intro x; exact ⟨by simp, 1, by decide, by intro i _; simp [setl]⟩
  | skip _ _ ih => exact ih (by omega)
  | @pivot k S d B ps h hp ih =>
    intro x
    have hI := h.inv hA
    obtain ⟨i1, f, hf, i2⟩ := ih (by omega) (sett1 n k (B k) x)
    obtain ⟨j1, q, hq, j2⟩ := sett1_zero (B k) x (show k < n by omega) (fun j hj => hI.low k j hj) hp
    refine ⟨?_, f * q, Int.mul_pos hf hq, ?_⟩
    · intro p hp'
      rcases List.mem_cons.1 hp' with e | hp'
      · subst e
        show lin n (B k) (setl n ps (sett1 n k (B k) x)) = 0
        rw [lin_mul n (B k) (sett1 n k (B k) x) _ f, j1, Int.mul_zero]
        intro i _
        by_cases c : i ∈ S
        · exact .inl (hI.low k i (hI.small i c))
        · exact .inr (i2 i c)
      · exact i1 p hp'
    · intro i hi
      have h1 : i ≠ k := fun e => hi (by rw [e]; exact List.mem_cons_self ..)
      have h2 : i ∉ S := fun e => hi (List.mem_cons_of_mem _ e)
      show setl n ps (sett1 n k (B k) x) i = _
      rw [i2 i h2, j2 i h1]; grind

/-- The value at a settled point has the sign of the rest's value at the point. -/
theorem Run.negAt {A : Nat → Row} (hA : ∀ i j, A i j = A j i) {k S d B ps} (h : Run A k S d B ps) (n : Nat)
    (x z : Row) (hz : ∀ p ∈ ps, lin n p.2.1 z = 0) (a b : Int) (ha : 0 < a) (hb : 0 < b)
    (hs : ∀ i, i < n → i ∉ S → a * z i = b * x i) (hq : Q n B x < 0) : Q n A z < 0 := by
  obtain ⟨u, v, hu, hv, he⟩ := h.value hA n z hz
  have hI := h.inv hA
  have e : (a * a) * Q n B z = (b * b) * Q n B x := by
    rw [← Q_mul, ← Q_mul]
    apply Q_congr
    intro i j hi hj
    by_cases ci : i ∈ S
    · rw [hI.sym i j, hI.low j i (hI.small i ci)]; simp
    · by_cases cj : j ∈ S
      · rw [hI.low i j (hI.small j cj)]; simp
      · have e1 := hs i hi ci
        have e2 := hs j hj cj
        have : a * a * B i j * (z i * z j) = B i j * ((a * z i) * (a * z j)) := by grind
        rw [this, e1, e2]; grind
  have haa : 0 < a * a := Int.mul_pos ha ha
  have hbb : 0 < b * b := Int.mul_pos hb hb
  have h1 : Q n B z < 0 := by
    have : (b * b) * Q n B x < 0 := Int.mul_neg_of_pos_of_neg hbb hq
    rw [← e] at this
    rcases Int.lt_or_le (Q n B z) 0 with c | c
    · exact c
    · have := Int.mul_nonneg (Int.le_of_lt haa) c; omega
  have h2 : u * Q n A z < 0 := by rw [he]; exact Int.mul_neg_of_pos_of_neg hv h1
  rcases Int.lt_or_le (Q n A z) 0 with c | c
  · exact c
  · have := Int.mul_nonneg (Int.le_of_lt hu) c; omega

def unitP (k : Nat) : Row := fun i => if i = k then 1 else 0

theorem Q_unit {n k : Nat} (B : Nat → Row) (hk : k < n) : Q n B (unitP k) = B k k := by
  unfold Q unitP
  have : ∀ i, sm n (fun j => B i j * ((if i = k then 1 else 0) * (if j = k then 1 else 0))) = if i = k then B i k else 0 := by
    intro i
    by_cases c : i = k
    · subst c
      rw [if_pos rfl, if_pos rfl, ← sm_one (fun j => B i j) hk]
      apply sm_congr; intro j _
      by_cases cj : j = i <;> simp [cj]
    · simp [c, sm_zero]
  rw [sm_congr (fun i _ => this i), sm_one (fun i => B i k) hk]

/-- The point of a zero pivot with a number beside it. -/
def sideP (a : Int) (k q : Nat) : Row := fun i => a * (if i = k then 1 else 0) + (if i = q then 1 else 0)

theorem Q_side {n k q : Nat} (B : Nat → Row) (a : Int) (hk : k < n) (hq : q < n) (hs : B k q = B q k) :
    Q n B (sideP a k q) = a * a * B k k + 2 * a * B k q + B q q := by
  have hsum : ∀ (f : Nat → Int), sm n (fun j => f j * sideP a k q j) = a * f k + f q := by
    intro f
    rw [← sm_one f hk, ← sm_one f hq, ← sm_mul, ← sm_add]
    apply sm_congr; intro j _
    unfold sideP
    by_cases c1 : j = k <;> by_cases c2 : j = q <;> simp [c1, c2] <;> grind
  unfold Q
  have : ∀ i, sm n (fun j => B i j * (sideP a k q i * sideP a k q j)) = (a * B i k + B i q) * sideP a k q i := by
    intro i
    rw [← hsum (fun j => B i j), Int.mul_comm, ← sm_mul]
    apply sm_congr; intro j _; grind
  rw [sm_congr (fun i _ => this i), hsum]
  rw [← hs]; grind

theorem Q_side_neg {n k q : Nat} (B : Nat → Row) (hk : k < n) (hq : q < n) (hs : B k q = B q k) (h0 : B k k = 0)
    (hne : B k q ≠ 0) (a : Int)
    (ha : a = if 0 < B k q then -((B q q).natAbs + 1 : Int) else ((B q q).natAbs + 1 : Int)) :
    Q n B (sideP a k q) < 0 := by
  rw [Q_side B a hk hq hs, h0]
  have key : a * B k q ≤ -((B q q).natAbs + 1 : Int) := by
    by_cases c : 0 < B k q
    · rw [if_pos c] at ha
      have h1 : (B q q).natAbs + 1 ≤ ((B q q).natAbs + 1 : Int) * B k q := by
        have := Int.mul_le_mul_of_nonneg_left (show (1 : Int) ≤ B k q by omega) (show 0 ≤ ((B q q).natAbs + 1 : Int) by omega)
        omega
      rw [ha, Int.neg_mul]; omega
    · rw [if_neg c] at ha
      have h1 : ((B q q).natAbs + 1 : Int) ≤ ((B q q).natAbs + 1 : Int) * (-(B k q)) := by
        have := Int.mul_le_mul_of_nonneg_left (show (1 : Int) ≤ -(B k q) by omega) (show 0 ≤ ((B q q).natAbs + 1 : Int) by omega)
        omega
      rw [Int.mul_neg] at h1
      rw [ha]; omega
  have e : 2 * a * B k q = 2 * (a * B k q) := by grind
  rw [e]; omega

end PySem.El
namespace PySem.El

/-- What is known of each pivot. -/
structure PvOk (R : Nat → Int) (G : Nat → Int) (k : Nat) (p : Pv) : Prop where
  small : p.1 < k
  zero : ∀ j, j < p.1 → p.2.1 j = 0
  pos : 0 < p.2.1 p.1
  spos : 0 < p.2.2
  row : ∀ j, -R p.1 ≤ p.2.1 j ∧ p.2.1 j ≤ R p.1
  scale : p.2.2 ≤ G p.1

theorem bnd_pos {M : Int} (hM : 1 ≤ M) : ∀ n, 1 ≤ bnd M n
  | 0 => by simp [bnd]
  | n + 1 => by
    have h := bnd_pos hM n
    have h1 : 1 * 1 ≤ M * bnd M n := Int.mul_le_mul hM h (by decide) (by omega)
    have h2 : 1 * 1 ≤ ((n : Int) + 1) * (M * bnd M n) := Int.mul_le_mul (by omega) (by simpa using h1) (by decide) (by omega)
    simpa [bnd] using h2

theorem bnd_succ {M : Int} (hM : 1 ≤ M) (n : Nat) : bnd M n ≤ bnd M (n + 1) := by
  have h := bnd_pos hM n
  have h1 : 1 * bnd M n ≤ M * bnd M n := Int.mul_le_mul_of_nonneg_right hM (by omega)
  have h2 : 1 * (M * bnd M n) ≤ ((n : Int) + 1) * (M * bnd M n) := Int.mul_le_mul_of_nonneg_right (by omega) (by omega)
  simp only [bnd]; omega

theorem bnd_mono {M : Int} (hM : 1 ≤ M) {a b : Nat} (h : a ≤ b) : bnd M a ≤ bnd M b := by
  induction h with
  | refl => exact Int.le_refl _
  | step _ ih => exact Int.le_trans ih (bnd_succ hM _)

theorem Run.dbound {A : Nat → Row} {k S d B ps} (h : Inv A S k d B) (hk : S.length ≤ k) (M : Int) (hM : 1 ≤ M)
    (hb : ∀ i j, -M ≤ A i j ∧ A i j ≤ M) (_ : Run A k S d B ps) : d ≤ bnd M k := by
  have := (D_bound (M := M) (by omega) S (S.map A) (by simp) (by
    intro r hr c _
    obtain ⟨s, _, rfl⟩ := List.mem_map.1 hr; exact hb s c)).2
  rw [h.det] at this
  exact Int.le_trans this (bnd_mono hM hk)

theorem Run.rbound {A : Nat → Row} (hA : ∀ i j, A i j = A j i) {k S d B ps} (h : Run A k S d B ps) (M : Int) (hM : 1 ≤ M)
    (hb : ∀ i j, -M ≤ A i j ∧ A i j ≤ M) {i : Nat} (hi : k ≤ i) (j : Nat) :
    -bnd M (k + 1) ≤ B i j ∧ B i j ≤ bnd M (k + 1) := by
  have h1 := (h.inv hA).bound (M := M) (by omega) hb hi j
  have h2 := bnd_mono hM (show S.length + 1 ≤ k + 1 by have := h.many; omega)
  omega

theorem Run.pivots {A : Nat → Row} (hA : ∀ i j, A i j = A j i) {k S d B ps} (h : Run A k S d B ps) (M : Int) (hM : 1 ≤ M)
    (hb : ∀ i j, -M ≤ A i j ∧ A i j ≤ M) :
    ∀ p ∈ ps, PvOk (fun k => bnd M (k + 1)) (fun k => bnd M k * bnd M (k + 1)) k p := by
  induction h with
  | begin => intro p hp; simp at hp
  | skip _ _ ih =>
    intro p hp
    have := ih p hp
    exact { this with small := Nat.lt_succ_of_lt this.small }
  | @pivot k S d B ps h hp ih =>
    intro p hq
    rcases List.mem_cons.1 hq with e | hq
    · subst e
      have hI := h.inv hA
      have hr := fun j => h.rbound hA M hM hb (Nat.le_refl k) j
      exact {
        small := Nat.lt_succ_self _
        zero := fun j hj => hI.low k j hj
        pos := hp
        spos := Int.mul_pos hI.dpos hp
        row := hr
        scale := Int.mul_le_mul (Run.dbound hI h.many M hM hb h) (hr k).2 (Int.le_of_lt hp) (by have := bnd_pos hM k; show 0 ≤ bnd M k; omega) }
    · have := ih p hq
      exact { this with small := Nat.lt_succ_of_lt this.small }

def lsum (ps : List Pv) (f : Pv → Int) : Int := ps.foldr (fun p t => f p + t) 0

theorem lsum_mul (ps : List Pv) (c : Int) (f : Pv → Int) : lsum ps (fun p => c * f p) = c * lsum ps f := by
  induction ps with
  | nil => simp [lsum]
  | cons p ps ih => simp only [lsum, List.foldr_cons] at *; rw [ih, Int.mul_add]

theorem lsum_congr {ps : List Pv} {f g : Pv → Int} (h : ∀ p ∈ ps, f p = g p) : lsum ps f = lsum ps g := by
  induction ps with
  | nil => rfl
  | cons p ps ih =>
    simp only [lsum, List.foldr_cons] at *
    rw [ih (fun q hq => h q (List.mem_cons_of_mem _ hq)), h p (List.mem_cons_self ..)]

/-- The squares of the pivots and the rest are the matrix. -/
theorem Run.squares {A : Nat → Row} (hA : ∀ i j, A i j = A j i) {k S d B ps} (h : Run A k S d B ps) (W : Int) (c : Pv → Int)
    (hc : ∀ p ∈ ps, c p * p.2.2 = W) (i j : Nat) :
    d * (W * A i j) = d * lsum ps (fun p => c p * (p.2.1 i * p.2.1 j)) + W * B i j := by
  induction h with
  | begin => simp [lsum]
  | skip _ _ ih => exact ih hc
  | @pivot k S d B ps h hp ih =>
    have hI := h.inv hA
    have e := ih (fun p hq => hc p (List.mem_cons_of_mem _ hq))
    have e2 := hI.exact hp i j
    have e3 := hc _ (List.mem_cons_self ..)
    have hd := hI.dpos
    simp only [lsum, List.foldr_cons] at *
    apply Int.eq_of_mul_eq_mul_left (show d ≠ 0 by omega)
    grind

theorem Run.whole {A : Nat → Row} (hA : ∀ i j, A i j = A j i) {n S d B ps} (h : Run A n S d B ps) (W : Int) (c : Pv → Int)
    (hc : ∀ p ∈ ps, c p * p.2.2 = W) (i j : Nat) (hj : j < n) :
    W * A i j = lsum ps (fun p => c p * (p.2.1 i * p.2.1 j)) := by
  have e := h.squares hA W c hc i j
  have hI := h.inv hA
  rw [hI.low i j hj] at e
  have hd := hI.dpos
  apply Int.eq_of_mul_eq_mul_left (show d ≠ 0 by omega)
  omega

def wprod (ps : List Pv) : Int := ps.foldr (fun p t => p.2.2 * t) 1

theorem wprod_pos {ps : List Pv} (h : ∀ p ∈ ps, 0 < p.2.2) : 0 < wprod ps := by
  induction ps with
  | nil => decide
  | cons p ps ih =>
    simp only [wprod, List.foldr_cons] at *
    exact Int.mul_pos (h p (List.mem_cons_self ..)) (ih (fun q hq => h q (List.mem_cons_of_mem _ hq)))

theorem wprod_dvd {ps : List Pv} {p : Pv} (hp : p ∈ ps) : p.2.2 ∣ wprod ps := by
  induction ps with
  | nil => simp at hp
  | cons q ps ih =>
    simp only [wprod, List.foldr_cons] at *
    rcases List.mem_cons.1 hp with e | hp
    · subst e; exact ⟨_, rfl⟩
    · exact Int.dvd_trans (ih hp) ⟨q.2.2, by rw [Int.mul_comm]⟩

/-- The told squares expand to the matrix: g times the told row is the pivot's row, top over div is the weight. -/
theorem Run.expands {A : Nat → Row} (hA : ∀ i j, A i j = A j i) {n S d B ps} (h : Run A n S d B ps)
    (hs : ∀ p ∈ ps, 0 < p.2.2) (low L : Int) (top div g : Pv → Int) (pr : Pv → Row)
    (hpr : ∀ p ∈ ps, ∀ j, g p * pr p j = p.2.1 j) (hw : ∀ p ∈ ps, top p * (p.2.2 * low) = g p * g p * div p)
    (hd : ∀ p ∈ ps, 0 < div p ∧ div p ∣ L) (i j : Nat) (hj : j < n) :
    lsum ps (fun p => top p * (L / div p) * (pr p i * pr p j)) * low = L * A i j := by
  have hW := wprod_pos hs
  have e := h.whole hA (wprod ps) (fun p => wprod ps / p.2.2)
    (fun p hp => by rw [Int.mul_comm]; exact Int.mul_ediv_cancel' (wprod_dvd hp)) i j hj
  apply Int.eq_of_mul_eq_mul_left (show wprod ps ≠ 0 by omega)
  have e1 : wprod ps * (L * A i j) = L * (wprod ps * A i j) := by grind
  rw [e1, e, ← lsum_mul, Int.mul_comm (lsum _ _) low, ← lsum_mul, ← lsum_mul]
  apply lsum_congr
  intro p hp
  obtain ⟨c, hc⟩ := wprod_dvd hp
  obtain ⟨hdp, q, hq⟩ := hd p hp
  have s0 := hs p hp
  have r1 : wprod ps / p.2.2 = c := by rw [hc]; exact Int.mul_ediv_cancel_left _ (by omega)
  have r2 : L / div p = q := by rw [hq]; exact Int.mul_ediv_cancel_left _ (by omega)
  rw [r1, r2, ← hpr p hp i, ← hpr p hp j, hq, hc]
  have := hw p hp
  grind

/-- Bounds of settled points. -/
def tb (R : Nat → Int) (n : Int) : Nat → Int
  | 0 => 1
  | k + 1 => tb R n k * (n * R k)

theorem rest_bound {n k : Nat} (row x : Row) {R X : Int} (hr : ∀ j, -R ≤ row j ∧ row j ≤ R) (hx : ∀ j, -X ≤ x j ∧ x j ≤ X) :
    -((n : Int) * (R * X)) ≤ rest n k row x ∧ rest n k row x ≤ (n : Int) * (R * X) := by
  unfold rest
  induction n with
  | zero => simp [sm]
  | succ n ih =>
    have h := abs_mul_le (hr n) (hx n)
    have e : ((n + 1 : Nat) : Int) * (R * X) = (n : Int) * (R * X) + R * X := by
      simp [Int.add_mul]
    have hp : 0 ≤ R * X := Int.mul_nonneg (by have := hr 0; omega) (by have := hx 0; omega)
    simp only [sm]
    rw [e]
    by_cases c : k < n
    · rw [if_pos c]; omega
    · rw [if_neg c]; omega

theorem div_bound {a g X : Int} (hg : 0 < g) (h : -X ≤ a ∧ a ≤ X) (hd : g ∣ a) : -X ≤ a / g ∧ a / g ≤ X := by
  obtain ⟨q, rfl⟩ := hd
  rw [Int.mul_ediv_cancel_left _ (by omega)]
  rcases Int.lt_or_le q 0 with c | c
  · have h1 : q ≥ g * q := by
      have := Int.mul_le_mul_of_nonneg_right (show (1 : Int) ≤ g by omega) (show 0 ≤ -q by omega)
      simp only [Int.mul_neg] at this; omega
    omega
  · have h1 : q ≤ g * q := by
      have := Int.mul_le_mul_of_nonneg_right (show (1 : Int) ≤ g by omega) c
      omega
    omega

theorem sett1_bound {n k : Nat} (row x : Row) {R X : Int} (hk : k < n) (hp : 0 < row k)
    (hr : ∀ j, -R ≤ row j ∧ row j ≤ R) (hx : ∀ j, -X ≤ x j ∧ x j ≤ X) (i : Nat) :
    -((n : Int) * R * X) ≤ sett1 n k row x i ∧ sett1 n k row x i ≤ (n : Int) * R * X := by
  have hb := rest_bound (n := n) (k := k) row x hr hx
  have hR : 0 ≤ R := by have := hr 0; omega
  have hX : 0 ≤ X := by have := hx 0; omega
  have hg : (0 : Int) < (Int.gcd (rest n k row x) (row k) : Int) := by
    have : 0 < Int.gcd (rest n k row x) (row k) := Int.gcd_pos_of_ne_zero_right _ (by omega)
    omega
  unfold sett1
  by_cases c : i = k
  · rw [if_pos c]
    have := div_bound hg (X := (n : Int) * (R * X)) (a := -rest n k row x) (by omega)
      (by rw [Int.dvd_neg]; exact Int.gcd_dvd_left ..)
    rw [← Int.mul_assoc] at this
    exact this
  · rw [if_neg c]
    have h1 := div_bound hg (hr k) (Int.gcd_dvd_right ..)
    have h2 := abs_mul_le h1 (hx i)
    have h3 : 1 * (R * X) ≤ (n : Int) * (R * X) := Int.mul_le_mul_of_nonneg_right (by omega) (Int.mul_nonneg hR hX)
    rw [Int.mul_assoc]
    omega

theorem tb_pos {R : Nat → Int} {n : Int} (hn : 1 ≤ n) (hR : ∀ k, 1 ≤ R k) : ∀ k, 1 ≤ tb R n k
  | 0 => by simp [tb]
  | k + 1 => by
    have h := tb_pos hn hR k
    have h1 : 1 * 1 ≤ n * R k := Int.mul_le_mul hn (hR k) (by decide) (by omega)
    have h2 : 1 * 1 ≤ tb R n k * (n * R k) := Int.mul_le_mul h (by simpa using h1) (by decide) (by omega)
    simpa [tb] using h2

theorem Run.setl_bound {A : Nat → Row} {k S d B ps} (h : Run A k S d B ps) (R G : Nat → Int) (n : Nat)
    (hR : ∀ k, 1 ≤ R k) (hp : ∀ p ∈ ps, PvOk R G n p) (hn : k ≤ n) :
    ∀ (x : Row) (X : Int), 0 ≤ X → (∀ i, -X ≤ x i ∧ x i ≤ X) →
      ∀ i, -(X * tb R n k) ≤ setl n ps x i ∧ setl n ps x i ≤ X * tb R n k := by
  induction h with
  | begin => intro x X _ hx i; simpa [setl, tb] using hx i
  | @skip k S d B ps _ _ ih =>
    intro x X hX hx i
    have h1 := ih hp (by omega) x X hX hx i
    have h2 : tb R n k * 1 ≤ tb R n (k + 1) := by
      have a := tb_pos (R := R) (n := (n : Int)) (by omega) hR k
      have b : 1 * 1 ≤ (n : Int) * R k := Int.mul_le_mul (by omega) (hR k) (by decide) (by omega)
      simp only [tb]
      exact Int.mul_le_mul_of_nonneg_left (by simpa using b) (by omega)
    have h3 := Int.mul_le_mul_of_nonneg_left h2 hX
    simp only [Int.mul_one] at h3
    omega
  | @pivot k S d B ps _ hpos ih =>
    intro x X hX hx i
    have h0 := hp _ (List.mem_cons_self ..)
    have hb := sett1_bound (n := n) (B k) x (show k < n by omega) hpos h0.row hx
    have hnR : 0 ≤ (n : Int) * R k * X := Int.mul_nonneg (Int.mul_nonneg (by omega) (by have := hR k; omega)) hX
    have h1 := ih (fun p hq => hp p (List.mem_cons_of_mem _ hq)) (by omega) _ _ hnR hb i
    have e : (n : Int) * R k * X * tb R n k = X * tb R n (k + 1) := by simp only [tb]; grind
    rw [e] at h1
    exact h1

end PySem.El
namespace P09
open PySem PySem.Spec PyProof.Rows L2 SX EX WK
section
variable {P : Program} {w : World} {K : PySem.W.Frag} {mg : Str → Option Value} {base : Heap} {f : Addr} {fd : FuncData} {cF cR : Addr}
/-- a tuple of n numbers -/
def TV (K : PySem.W.Frag) (H : Hp) (a : Addr) (n : Nat) (x : Nat → Int) : Prop := SqT K H a ((vec n x).map V.int)
def spUnit (K : PySem.W.Frag) : Sp := fun vs H Q _ => ∃ (n k : Nat), vs = [.int n, .int k] ∧ n ≤ 1000 ∧ ∀ a H', Same H H' → TV K H' a n (El.unitP k) → Q (.ref a) H'
abbrev s_unit_point : Stmt := top 26
abbrev N_unit_point : List Str := ["size", "index", "place"]
theorem sc_unit_point : FnScope N_unit_point ["size", "index"] (defScope s_unit_point) := ⟨rfl, rfl, rfl, by decide +kernel, rfl, by decide +kernel, by decide +kernel⟩
theorem ok_unit_point (F : Fun K "unit_point" "unit_point" s_unit_point f fd) (T : Txt mg) : FnOk P w K mg base CX0 1 f fd ["size", "index"] (spUnit K) := by
  refine F.ok sc_unit_point (fun vs H Q E h => ?_) (fun cdv A outer s H vs Q E hr h => ?_)
  · obtain ⟨n, k, rfl, _⟩ := h
    rfl
  obtain ⟨n, k, rfl, hn, q⟩ := h
  refine ⟨_, (pss_one (ps_ret (pe_callTy call_tuple_of (by rfl) T.b_tuple (by decide +kernel) (pa_cons (pe_lc (own := [("place", 2)]) (g := gName 2) (tt := tYes) (by rfl) sc_unit_point.nd (pi_range1 (by rfl) T.b_range (pa_cons (pv 0) pa_nil)) (blkOk_by (N := N_unit_point) (sc := defScope s_unit_point) (by decide +kernel)) (fun _ _ _ _ _ => (pg_name (i := 2) sc_unit_point.nd rfl (Or.inl rfl))) (fun _ _ _ _ _ => pts_nil) (fun _ _ _ _ _ => (pe_callTy call_int1 (by rfl) T.b_int (by decide +kernel) (pa_cons (pe_cmpR op_eq (pv 2) (pv 1) (nomark _)) pa_nil)))) pa_nil)))), ?_⟩
  refine ⟨_, rfl, (n : Int), rfl, by omega, by omega, fun D hD => ?_⟩
  refine lc_m (walk_range (lo := 0) (n := n)) RI (stb_RI (K := K)) (List.range n) (by rw [List.length_range]) (by rw [List.length_range]; omega) hD (fun _ _ => trivial) (fun _ _ _ _ => ys_fn) (fun i => El.unitP k i) (fun c i v H1 H2 hc s1 s2 yl A B hA => ?_) (fun H' l1 s1 hl1 rs => ?_)
  · obtain ⟨hc1, rfl⟩ := in_range hc
    rw [yl.2]
    refine ⟨rfl, lc_yes ⟨_, rfl, _, rfl, rfl, .inr ⟨_, rfl, hA _ _ (fun _ _ h => h) ?_⟩⟩⟩
    show V.int _ = V.int (El.unitP k i)
    unfold El.unitP
    by_cases e : i = k
    · rw [if_pos e, int_eq (by omega), if_pos rfl]
    · rw [if_neg e, int_ne (by omega), if_neg Bool.false_ne_true]
  · refine ⟨D, _, rfl, .inl ⟨SqL.of hl1, fun t ht => ?_⟩⟩
    refine q _ _ (s1.trans (same_new ht _)) ?_
    unfold TV
    rw [← show l1 = (vec n (El.unitP k)).map V.int from rs.ints]
    exact SqT.of upd_same
def spSide (K : PySem.W.Frag) : Sp := fun vs H Q _ => ∃ (a : Addr) (n k : Nat) (x : Nat → Int), vs = [.ref a, .int k] ∧ H a = some (.lst ((vec n x).map V.int)) ∧ n ≤ 1000 ∧ k < n ∧
  (∀ p, k < p → p < n → x p ≠ 0 → (∀ q, k < q → q < p → x q = 0) → Q (.int p) H) ∧ ((∀ p, k < p → p < n → x p = 0) → Q .non H)
abbrev s_side_index : Stmt := top 27
abbrev N_side_index : List Str := ["line", "index", "place"]
theorem sc_side_index : FnScope N_side_index ["line", "index"] (defScope s_side_index) := ⟨rfl, rfl, rfl, by decide +kernel, rfl, by decide +kernel, by decide +kernel⟩
theorem ok_side_index (F : Fun K "side_index" "side_index" s_side_index f fd) (T : Txt mg) : FnOk P w K mg base CX0 1 f fd ["line", "index"] (spSide K) := by
  refine F.ok sc_side_index (fun vs H Q E h => ?_) (fun cdv A outer s H vs Q E hr h => ?_)
  · obtain ⟨a, n, k, x, rfl, _⟩ := h
    rfl
  obtain ⟨a, n, k, x, rfl, ha, hn, hk, q1, q2⟩ := h
  refine ⟨_, (pss_cons (ps_for PassesOwn.never rfl (pi_range2 (by rfl) T.b_range (pa_cons (pe_op op_add (pv 1) pe_int) (pa_cons (pe_callB call_len_seq (by rfl) T.b_len PySem.boot_len (pa_cons (pv 0) pa_nil)) pa_nil))) (pg_name (i := 2) sc_side_index.nd rfl (Or.inl rfl)) (pss_one (ps_if (pt_cmpR op_ne (pe_ix ix_list /-?-/ (pv 0) (pv 2) (fun _ _ => rfl)) pe_int (nomark _)) (pss_one (ps_ret (pv 2))) pss_nil)))
  (pss_one (ps_ret pe_non))), ?_⟩
  refine ⟨_, rfl, _, _, rfl, rfl, _, rfl, _, _, rfl, .inl (SqL.of ha), (k : Int) + 1, (n : Int), by rw [vec_lenV], ⟨by omega, by omega, by omega, by omega⟩, ?_⟩
  refine for_range (lo := (k : Int) + 1) (n := ((n : Int) - ((k : Int) + 1)).toNat) (fun j σ H1 => ∃ v2 : Option V, σ = [some (.ref a), some (.int (k : Int)), v2] ∧ H1 = H ∧ ∀ p, k < p → p < k + 1 + j → x p = 0) ⟨none, rfl, rfl, fun p h1 h2 => by omega⟩ ?_ ?_
  · rintro j σ H1 hj ⟨v2, rfl, rfl, hz⟩
    have hp : k + 1 + j < n := by omega
    refine ⟨_, rfl, _, rfl, a, _, _, _, rfl, rfl, SqL.of ha, at_pos (by omega) (by rw [show ((k : Int) + 1 + (j : Int)).toNat = k + 1 + j by omega]; exact vecV_at hp), rfl, _, rfl, ?_⟩
    by_cases e : x (k + 1 + j) = 0
    · refine ifF (ne_F e) ⟨_, rfl, rfl, fun p h1 h2 => ?_⟩
      by_cases c : p = k + 1 + j
      · rw [c]; exact e
      · exact hz p h1 (by omega)
    · refine ifT (ne_T e) ⟨_, rfl, ?_⟩
      have := q1 _ (by omega) hp e hz
      rw [show (k : Int) + 1 + (j : Int) = ((k + 1 + j : Nat) : Int) by omega]
      exact this
  · rintro σ H1 ⟨v2, rfl, rfl, hz⟩
    exact q2 fun p h1 h2 => hz p h1 (by omega)
/-- what keeps a rest from being below 0 at the index -/
def Fine (n k : Nat) (M : Nat → Nat → Int) : Prop := 0 < M k k ∨ (M k k = 0 ∧ ∀ p, k < p → p < n → M k p = 0)
def amt (k p : Nat) (M : Nat → Nat → Int) : Int := if 0 < M k p then -((M p p).natAbs + 1 : Int) else ((M p p).natAbs + 1 : Int)
/-- the bad point at the index -/
def BadAt (n k : Nat) (M : Nat → Nat → Int) (x : Nat → Int) : Prop :=
  (M k k < 0 ∧ x = El.unitP k) ∨ (M k k = 0 ∧ ∃ p, k < p ∧ p < n ∧ M k p ≠ 0 ∧ (∀ q, k < q → q < p → M k q = 0) ∧ x = El.sideP (amt k p M) k p)
def spBad (K : PySem.W.Frag) : Sp := fun vs H Q _ => ∃ (a : Addr) (n k w : Nat) (M : Nat → Nat → Int), vs = [.ref a, .int k] ∧ LTab H a n M ∧ n ≤ 1000 ∧ k < n ∧ (∀ i j, i < n → j < n → B w (M i j)) ∧ 0 < w ∧ w ≤ 9000 ∧
  (Fine n k M → Q .non H) ∧ ∀ x t H', BadAt n k M x → Same H H' → TV K H' t n x → Q (.ref t) H'
abbrev s_bad_point : Stmt := top 28
abbrev N_bad_point : List Str := ["table", "index", "size", "place", "amount", "other"]
theorem sc_bad_point : FnScope N_bad_point ["table", "index"] (defScope s_bad_point) := ⟨rfl, rfl, rfl, by decide +kernel, rfl, by decide +kernel, by decide +kernel⟩
theorem ok_bad_point (F : Fun K "bad_point" "bad_point" s_bad_point f fd) (T : Txt mg) (C_unit_point : Cal P w K mg base 1 "unit_point" ["size", "index"] (spUnit K)) (C_side_index : Cal P w K mg base 1 "side_index" ["line", "index"] (spSide K)) : FnOk P w K mg base CX0 2 f fd ["table", "index"] (spBad K) := by
  refine F.ok sc_bad_point (fun vs H Q E h => ?_) (fun cdv A outer s H vs Q E hr h => ?_)
  · obtain ⟨a, n, k, w, M, rfl, _⟩ := h
    rfl
  obtain ⟨a, n, k, w, M, rfl, ht, hn, hk, hB, hw, hw9, q1, q2⟩ := h
  refine ⟨_, (pss_cons (ps_set (i := 2) sc_bad_point.nd rfl (Or.inl rfl) (pe_callB call_len_seq (by rfl) T.b_len PySem.boot_len (pa_cons (pv 0) pa_nil)))
  (pss_cons (ps_if (pt_cmpR op_lt (pe_ix ix_list /-?-/ (pe_ix ix_list (pv 0) (pv 1) (fun _ _ => rfl)) (pv 1) (fun _ _ => rfl)) pe_int (nomark _)) (pss_one (ps_ret (pe_cal C_unit_point (hr.mono (by omega)) rfl (pa_cons (pv 2) (pa_cons (pv 1) pa_nil))))) pss_nil)
  (pss_cons (ps_set (i := 3) sc_bad_point.nd rfl (Or.inr rfl) (pe_cal C_side_index (hr.mono (by omega)) rfl (pa_cons (pe_ix ix_list (pv 0) (pv 1) (fun _ _ => rfl)) (pa_cons (pv 1) pa_nil))))
  (pss_cons (ps_if (PW.pt (pw_or (pt_cmpR op_gt (pe_ix ix_list /-?-/ (pe_ix ix_list (pv 0) (pv 1) (fun _ _ => rfl)) (pv 1) (fun _ _ => rfl)) pe_int (nomark _)) (pw_or1 (pt_cmpR op_isN (pv 3) pe_non (nomark _))))) (pss_one (ps_ret pe_non)) pss_nil)
  (pss_cons (ps_set (i := 4) sc_bad_point.nd rfl (Or.inr rfl) (pe_op op_add (pe_callB call_abs (by rfl) T.b_abs (by decide +kernel) (pa_cons (pe_ix ix_list /-?-/ (pe_ix ix_list (pv 0) (pv 3) (fun _ _ => rfl)) (pv 3) (fun _ _ => rfl)) pa_nil)) pe_int))
  (C8.pss_cut (ps_if (pt_cmpR op_gt (pe_ix ix_list /-?-/ (pe_ix ix_list (pv 0) (pv 1) (fun _ _ => rfl)) (pv 3) (fun _ _ => rfl)) pe_int (nomark _)) (pss_one (ps_set (i := 4) sc_bad_point.nd rfl (Or.inr rfl) (pe_un un_neg (pv 4)))) pss_nil)
  (pss_one (ps_ret (pe_callTy call_tuple_of (by rfl) T.b_tuple (by decide +kernel) (pa_cons (pe_lc (own := [("other", 5)]) (g := gName 5) (tt := tYes) (by rfl) sc_bad_point.nd (pi_range1 (by rfl) T.b_range (pa_cons (pv 2) pa_nil)) (blkOk_by (N := N_bad_point) (sc := defScope s_bad_point) (by decide +kernel)) (fun _ _ _ _ _ => (pg_name (i := 5) sc_bad_point.nd rfl (Or.inl rfl))) (fun _ _ _ _ _ => pts_nil) (fun _ _ _ _ _ => (pe_op op_add (pe_op op_mulW (pv 4) (pe_callTy call_int1 (by rfl) T.b_int (by decide +kernel) (pa_cons (pe_cmpR op_eq (pv 5) (pv 1) (nomark _)) pa_nil))) (pe_callTy call_int1 (by rfl) T.b_int (by decide +kernel) (pa_cons (pe_cmpR op_eq (pv 5) (pv 3) (nomark _)) pa_nil))))) pa_nil)))))))))), ?_⟩
  obtain ⟨rs, ha, hl, row⟩ := ht
  have hlen : (rs.map V.ref).length = n := by rw [List.length_map, hl]
  obtain ⟨p, hp, hpr⟩ := row k hk
  have hpv : (rs.map V.ref)[k]? = some (V.ref p) := by rw [List.getElem?_map, hp]; rfl
  have atk : ∀ {j : Nat}, j < n → atI ((vec n (M k)).map V.int) (j : Int) = some (.int (M k j)) := fun hj => at_pos (by omega) (by rw [Int.toNat_natCast]; exact vecV_at hj)
  refine ⟨_, rfl, _, _, rfl, .inl (SqL.of ha), ?_⟩
  refine ⟨_, rfl, _, rfl, a, _, _, _, rfl, rfl, SqL.of ha, at_pos (by omega) (by rw [Int.toNat_natCast]; exact hpv), _, rfl, p, _, _, _, rfl, rfl, SqL.of hpr, atk hk, ?_⟩
  have gcall : ∀ {x : Nat → Int} {t : Addr} {H' : Hp}, BadAt n k M x → Same H H' → TV K H' t n x → Q (.ref t) H' := fun h s ht => q2 _ _ _ h s ht
  refine ⟨_, _, rfl, rfl, _, rfl, ?_⟩
  by_cases c0 : M k k < 0
  · refine ifT (decide_eq_true c0) ⟨_, rfl, _, rfl, n, k, by rw [hlen]; rfl, hn, fun t H' s ht => ?_⟩
    exact gcall (.inl ⟨c0, rfl⟩) s ht
  refine ifF (decide_eq_false c0) ?_
  refine ⟨_, rfl, _, rfl, a, _, _, _, rfl, rfl, SqL.of ha, at_pos (by omega) (by rw [Int.toNat_natCast]; exact hpv), _, rfl, p, n, k, M k, rfl, hpr, hn, hk, fun q hq hqn hne hfirst => ?_, fun hz => ?_⟩
  · refine ⟨_, rfl, _, rfl, a, _, _, _, rfl, rfl, SqL.of ha, at_pos (by omega) (by rw [Int.toNat_natCast]; exact hpv), _, rfl, p, _, _, _, rfl, rfl, SqL.of hpr, atk hk, ?_⟩
    refine ⟨_, _, rfl, rfl, _, rfl, ?_⟩
    by_cases c1 : 0 < M k k
    · exact ifT (decide_eq_true c1) (ifT rfl (q1 (.inl c1)))
    refine ifF (decide_eq_false c1) ⟨_, rfl, rfl, _, rfl, ifF (decide_eq_false fun e => by cases e) ?_⟩
    have c2 : M k k = 0 := by omega
    obtain ⟨p2, hp2, hpr2⟩ := row q hqn
    have hpv2 : (rs.map V.ref)[q]? = some (V.ref p2) := by rw [List.getElem?_map, hp2]; rfl
    refine ⟨_, rfl, _, rfl, a, _, _, _, rfl, rfl, SqL.of ha, at_pos (by omega) (by rw [Int.toNat_natCast]; exact hpv2), _, rfl, p2, _, _, _, rfl, rfl, SqL.of hpr2, at_pos (by omega) (by rw [Int.toNat_natCast]; exact vecV_at hqn), _, rfl, _, _, rfl, rfl, ?_⟩
    have hB2 : B (w + 1) (amt k q M) := by
      have h1 : (M q q).natAbs < 2 ^ w := hB q q hqn hqn
      show (amt k q M).natAbs < 2 ^ (w + 1)
      have : 1 ≤ 2 ^ w := Nat.one_le_two_pow
      rw [Nat.pow_succ]
      unfold amt
      split <;> omega
    refine ⟨fun σ H1 => σ = [some (.ref a), some (.int (k : Int)), some (.int (n : Int)), some (.int (q : Int)), some (.int (amt k q M)), none] ∧ H1 = H, ?_, ?_⟩
    · refine ⟨_, rfl, _, rfl, a, _, _, _, rfl, rfl, SqL.of ha, at_pos (by omega) (by rw [Int.toNat_natCast]; exact hpv), _, rfl, p, _, _, _, rfl, rfl, SqL.of hpr, atk hqn, _, _, rfl, rfl, _, rfl, ?_⟩
      have e0 : (if M q q < 0 then -M q q else M q q) = ((M q q).natAbs : Int) := by split <;> omega
      by_cases c3 : 0 < M k q
      · refine ifT (decide_eq_true c3) ⟨_, rfl, _, rfl, ?_, rfl⟩
        show [_, _, some (V.int ((rs.map V.ref).length : Nat)), _, some (V.int (-((if M q q < 0 then -M q q else M q q) + 1))), _] = _
        unfold amt
        rw [if_pos c3, hlen, e0]
      · refine ifF (decide_eq_false c3) ⟨?_, rfl⟩
        show [_, _, some (V.int ((rs.map V.ref).length : Nat)), _, some (V.int ((if M q q < 0 then -M q q else M q q) + 1)), _] = _
        unfold amt
        rw [if_neg c3, hlen, e0]
    · rintro σ H1 ⟨rfl, rfl⟩
      refine ⟨_, rfl, (n : Int), rfl, by omega, by omega, fun D hD => ?_⟩
      refine lc_m (walk_range (lo := 0) (n := n)) RI (stb_RI (K := K)) (List.range n) (by rw [List.length_range]) (by rw [List.length_range]; omega) hD (fun _ _ => trivial) (fun _ _ _ _ => ys_fn) (fun i => El.sideP (amt k q M) k q i) (fun c i v H2 H3 hc s1 s2 yl A B hA => ?_) (fun H' l1 s1 hl1 rs => ?_)
      · obtain ⟨hc1, rfl⟩ := in_range hc
        rw [yl.2]
        refine ⟨rfl, lc_yes ⟨_, rfl, _, rfl, _, rfl, rfl, .inr ⟨_, rfl, _, _, rfl, rfl, ?_, _, rfl, _, rfl, rfl, .inr ⟨_, rfl, _, _, rfl, rfl, hA _ _ (fun _ _ h => h) ?_⟩⟩⟩⟩
        · refine wmul hB2 (n := 1) ?_ (by omega) (by omega) (by omega)
          split <;> decide
        · show V.int _ = V.int (El.sideP (amt k q M) k q i)
          unfold El.sideP
          congr 2
          · by_cases e : i = k
            · rw [if_pos e, int_eq (by omega), if_pos rfl]
            · rw [if_neg e, int_ne (by omega), if_neg Bool.false_ne_true]
          · by_cases e : i = q
            · rw [if_pos e, int_eq (by omega), if_pos rfl]
            · rw [if_neg e, int_ne (by omega), if_neg Bool.false_ne_true]
      · refine ⟨D, _, rfl, .inl ⟨SqL.of hl1, fun t ht => ?_⟩⟩
        refine gcall (.inr ⟨c2, q, hq, hqn, hne, hfirst, rfl⟩) (s1.trans (same_new ht _)) ?_
        unfold TV
        rw [← show l1 = (vec n (El.sideP (amt k q M) k q)).map V.int from rs.ints]
        exact SqT.of upd_same
  · refine ⟨_, rfl, _, rfl, a, _, _, _, rfl, rfl, SqL.of ha, at_pos (by omega) (by rw [Int.toNat_natCast]; exact hpv), _, rfl, p, _, _, _, rfl, rfl, SqL.of hpr, atk hk, ?_⟩
    refine ⟨_, _, rfl, rfl, _, rfl, ?_⟩
    by_cases c1 : 0 < M k k
    · exact ifT (decide_eq_true c1) (ifT rfl (q1 (.inl c1)))
    exact ifF (decide_eq_false c1) ⟨_, rfl, rfl, _, rfl, ifT (decide_eq_true rfl) (q1 (.inr ⟨by omega, hz⟩))⟩
end
end P09
namespace P09
open PySem PySem.Spec PyProof.Rows L2 SX EX WK
/-- a list of rows that grows: so far i rows of n numbers -/
structure GT (H0 H : Hp) (a : Addr) (rs : List Addr) (n i : Nat) (f : Nat → Nat → Int) : Prop where
  same : Same H0 H
  at_ : H a = some (.lst (rs.map V.ref))
  len : rs.length = i
  row : ∀ (j : Nat), j < i → ∃ p, rs[j]? = some p ∧ H p = some (.lst ((vec n (f j)).map V.int))
theorem GT.tab {H0 H : Hp} {a : Addr} {rs : List Addr} {n : Nat} {f : Nat → Nat → Int} (h : GT H0 H a rs n n f) : LTab H a n f := ⟨rs, h.at_, h.len, h.row⟩
theorem GT.start {H0 : Hp} {D : Addr} {n : Nat} {f : Nat → Nat → Int} (h : H0 D = none) : GT H0 (upd H0 D (.lst [])) D [] n 0 f := ⟨new_same h _, upd_same, rfl, fun i hi => by omega⟩
theorem GT.snoc {H0 H H' : Hp} {a p : Addr} {rs : List Addr} {n i : Nat} {f : Nat → Nat → Int} (h : GT H0 H a rs n i f) (h0 : H0 a = none) (s : Same H H') (hr : H' p = some (.lst ((vec n (f i)).map V.int))) (hpa : p ≠ a) : GT H0 (upd H' a (.lst (rs.map V.ref ++ [.ref p]))) a (rs ++ [p]) n (i + 1) f := by
  have hra : ∀ r ∈ rs, ∀ x, H r = some (.lst ((vec n x).map V.int)) → r ≠ a := fun r hr' x hx z => by
    rw [z, h.at_] at hx
    cases rs with
    | nil => cases hr'
    | cons b l =>
      have hx := Option.some.inj hx
      injection hx with hx
      have : (vec n x).map V.int ≠ [] := by rw [← hx]; simp
      cases hv : vec n x with
      | nil => rw [hv] at this; exact this rfl
      | cons c m => rw [hv] at hx; simp at hx
  refine ⟨same_at (h.same.trans s) h0, ?_, by rw [List.length_append, h.len]; rfl, fun j hj => ?_⟩
  · rw [upd_same, List.map_append]
    rfl
  · by_cases e : j = i
    · subst e
      refine ⟨p, ?_, ?_⟩
      · rw [List.getElem?_append_right (by rw [h.len]; omega), h.len, Nat.sub_self]
        rfl
      · rw [upd_ne hpa]
        exact hr
    · obtain ⟨q, e1, e2⟩ := h.row j (by omega)
      refine ⟨q, ?_, ?_⟩
      · rw [List.getElem?_append_left (by rw [h.len]; omega)]
        exact e1
      · rw [upd_ne (hra q (List.mem_of_getElem? e1) _ e2)]
        exact s _ _ e2
theorem tyV_of {K : PySem.W.Frag} {H : Hp} {a : Addr} {xs : List V} (h : H a = some (.lst xs)) : tyV K "list" (.ref a) H := .inl ⟨rfl, xs, SqL.of h⟩
section
variable {P : Program} {w : World} {K : PySem.W.Frag} {mg : Str → Option Value} {base : Heap} {f : Addr} {fd : FuncData} {cF cR : Addr}
def spReduced (K : PySem.W.Frag) : Sp := fun vs H Q _ => ∃ (a : Addr) (n k w : Nat) (d : Int) (M : Nat → Nat → Int), vs = [.ref a, .int k, .int d] ∧ LTab H a n M ∧ n ≤ 1000 ∧ k < n ∧ (∀ i j, i < n → j < n → B w (M i j)) ∧ 0 < d ∧ B w d ∧ 0 < w ∧ w ≤ 9000 ∧
  ∀ r H', Same H H' → LTab H' r n (El.redu M k d) → Q (.ref r) H'
abbrev s_reduced : Stmt := top 29
abbrev N_reduced : List Str := ["table", "index", "divisor", "size", "main", "pivot", "lines", "row", "column", "line"]
theorem sc_reduced : FnScope N_reduced ["table", "index", "divisor"] (defScope s_reduced) := ⟨rfl, rfl, rfl, by decide +kernel, rfl, by decide +kernel, by decide +kernel⟩
theorem ok_reduced (F : Fun K "reduced" "reduced" s_reduced f fd) (T : Txt mg) : FnOk P w K mg base CX0 1 f fd ["table", "index", "divisor"] (spReduced K) := by
  refine F.ok sc_reduced (fun vs H Q E h => ?_) (fun cdv A outer s H vs Q E hr h => ?_)
  · obtain ⟨a, n, k, w, d, M, rfl, _⟩ := h
    rfl
  obtain ⟨a, n, k, w, d, M, rfl, ht, hn, hk, hB, hd, hdB, hw, hw4, q⟩ := h
  refine ⟨_, (pss_cons (ps_set (i := 3) sc_reduced.nd rfl (Or.inl rfl) (pe_callB call_len_seq (by rfl) T.b_len PySem.boot_len (pa_cons (pv 0) pa_nil)))
  (pss_cons (ps_set (i := 4) sc_reduced.nd rfl (Or.inl rfl) (pe_ix ix_list (pv 0) (pv 1) (fun _ _ => rfl)))
  (pss_cons (ps_set (i := 5) sc_reduced.nd rfl (Or.inl rfl) (pe_ix ix_list /-?-/ (pv 4) (pv 1) (fun _ _ => rfl)))
  (pss_cons (ps_set (i := 6) sc_reduced.nd rfl (Or.inl rfl) (pe_lst pa_nil))
  (pss_cons (ps_for PassesOwn.never rfl (pi_range1 (by rfl) T.b_range (pa_cons (pv 3) pa_nil)) (pg_name (i := 7) sc_reduced.nd rfl (Or.inl rfl)) (pss_cons (ps_setLc (i := 9) (own := [("column", 8)]) (g := gName 8) (tt := tYes) (by rfl) sc_reduced.nd rfl rfl (sw_true rfl rfl rfl (by decide +kernel)) (pi_range1 (by rfl) T.b_range (pa_cons (pv 3) pa_nil)) (blkOk_by (N := N_reduced) (sc := defScope s_reduced) (by decide +kernel)) (fun _ _ _ _ _ => (pg_name (i := 8) sc_reduced.nd rfl (Or.inl rfl))) (fun _ _ _ _ _ => pts_nil) (fun _ _ _ _ _ => pe_int))
  (C8.pss_cut (ps_if (pt_cmpR op_gt (pv 7) (pv 1) (nomark _)) (pss_one (ps_for PassesOwn.never rfl (pi_range2 (by rfl) T.b_range (pa_cons (pe_op op_add (pv 1) pe_int) (pa_cons (pv 3) pa_nil))) (pg_name (i := 8) sc_reduced.nd rfl (Or.inl rfl)) (pss_one (ps_asg (pe_op op_fdivW (pe_op op_sub (pe_op op_mulW (pv 5) (pe_ix ix_list /-?-/ (pe_ix ix_list (pv 0) (pv 7) (fun _ _ => rfl)) (pv 8) (fun _ _ => rfl))) (pe_op op_mulW (pe_ix ix_list /-?-/ (pv 4) (pv 7) (fun _ _ => rfl)) (pe_ix ix_list /-?-/ (pv 4) (pv 8) (fun _ _ => rfl)))) (pv 2)) (pg_sub (pv 9) (pv 8) set_list))))) pss_nil)
  (pss_one (ps_expr (pe_bm PySem.F.plainAttrs_list PySem.F.slot_list_append PySem.F.type_list_append mt_append (pv 6) (pa_cons (pv 9) pa_nil)))))))
  (pss_one (ps_ret (pv 6)))))))), ?_⟩
  obtain ⟨rs, ha, hl, row⟩ := ht
  have hlen : (rs.map V.ref).length = n := by rw [List.length_map, hl]
  have rowV : ∀ i, i < n → ∃ p, (rs.map V.ref)[i]? = some (V.ref p) ∧ H p = some (.lst ((vec n (M i)).map V.int)) := fun i hi => by
    obtain ⟨p, h1, h2⟩ := row i hi
    exact ⟨p, by rw [List.getElem?_map, h1]; rfl, h2⟩
  obtain ⟨pk, hpk, hpkr⟩ := rowV k hk
  refine ⟨_, rfl, _, _, rfl, .inl (SqL.of ha), ?_⟩
  refine ⟨_, rfl, _, rfl, a, _, _, _, rfl, rfl, SqL.of ha, at_pos (by omega) (by rw [Int.toNat_natCast]; exact hpk), ?_⟩
  refine ⟨_, rfl, _, rfl, pk, _, _, _, rfl, rfl, SqL.of hpkr, at_pos (by omega) (by rw [Int.toNat_natCast]; exact vecV_at hk), ?_⟩
  refine ⟨line_ge (by decide), fun L hL => ?_⟩
  refine ⟨_, rfl, (n : Int), by rw [hlen], by omega, by omega, ?_⟩
  refine for_range (lo := 0) (n := n) (fun i σ H1 => ∃ (v7 v8 v9 : Option V) (ps : List Addr), σ = [some (.ref a), some (.int (k : Int)), some (.int d), some (.int (n : Int)), some (.ref pk), some (.int (M k k)), some (.ref L), v7, v8, v9] ∧ GT H H1 L ps n i (El.redu M k d)) ⟨none, none, none, [], by rw [← hlen]; rfl, GT.start hL⟩ ?_ ?_
  · rintro i σ H1 hi ⟨v7, v8, v9, ps, rfl, g⟩
    have hLk : GT H H1 L ps n i (El.redu M k d) := g
    refine ⟨_, rfl, (n : Int), rfl, by omega, by omega, fun D hD => ?_⟩
    refine lc_m (walk_range (lo := 0) (n := n)) RI (stb_RI (K := K)) (List.range n) (by rw [List.length_range]) (by rw [List.length_range]; omega) hD (fun _ _ => trivial) (fun _ _ _ _ => ys_fn) (fun _ => (0 : Int)) (fun c j v H2 H3 hc s1 s2 yl A B hA => ?_) (fun H2 l1 s1 hl1 rz => ?_)
    · exact ⟨rfl, lc_yes (hA _ _ (fun _ _ h => h) rfl)⟩
    · have hDL : D ≠ L := fun z => by rw [z, g.at_] at hD; cases hD
      have hz : l1 = (vec n fun _ => 0).map V.int := rz.ints
      have hrow0 : ∀ j, El.redu M k d i j = if k < i ∧ k < j then (M k k * M i j - M k i * M k j) / d else 0 := fun j => rfl
      obtain ⟨pi, hpi, hpir⟩ := rowV i hi
      have sH : Same H H2 := g.same.trans s1
      refine ⟨fun σ H3 => ∃ (v8 : Option V) (y : Nat → Int), σ = [some (.ref a), some (.int (k : Int)), some (.int d), some (.int (n : Int)), some (.ref pk), some (.int (M k k)), some (.ref L), some (.int (0 + (i : Int))), v8, some (.ref D)] ∧ Same H1 H3 ∧ H3 D = some (.lst ((vec n y).map V.int)) ∧ ∀ j, j < n → y j = El.redu M k d i j, ?_, ?_⟩
      · refine ⟨_, rfl, _, rfl, _, _, rfl, rfl, _, rfl, ?_⟩
        by_cases c : k < i
        · refine ifT (decide_eq_true (by omega)) ⟨_, rfl, _, _, rfl, rfl, _, rfl, (k : Int) + 1, (n : Int), rfl, ⟨by omega, by omega, by omega, by omega⟩, ?_⟩
          refine for_range (lo := (k : Int) + 1) (n := ((n : Int) - ((k : Int) + 1)).toNat) (fun j σ H3 => ∃ (v8 : Option V) (y : Nat → Int), σ = [some (.ref a), some (.int (k : Int)), some (.int d), some (.int (n : Int)), some (.ref pk), some (.int (M k k)), some (.ref L), some (.int (0 + (i : Int))), v8, some (.ref D)] ∧ Same H1 H3 ∧ H3 D = some (.lst ((vec n y).map V.int)) ∧ (∀ q, q < k + 1 + j → q < n → y q = El.redu M k d i q)) ⟨_, fun _ => 0, rfl, s1, by rw [hl1, hz], fun q hq _ => by rw [hrow0, if_neg (by omega)]⟩ ?_ ?_
          · rintro j σ H3 hj ⟨v8, y, rfl, s3, h3, hy⟩
            have hjn : k + 1 + j < n := by omega
            have ej : ((k : Int) + 1 + (j : Int)).toNat = k + 1 + j := by omega
            have ei : (0 + (i : Int)).toNat = i := by omega
            have sx : Same H H3 := g.same.trans s3
            refine ⟨_, rfl, _, rfl, _, rfl, a, _, _, _, rfl, rfl, SqL.of (sx _ _ ha), at_pos (by omega) (by rw [ei]; exact hpi), _, rfl, pi, _, _, _, rfl, rfl, SqL.of (sx _ _ hpir), at_pos (by omega) (by rw [ej]; exact vecV_at hjn), ?_⟩
            have num : (M k k * M i (k + 1 + j) - M k i * M k (k + 1 + j)) / d = El.redu M k d i (k + 1 + j) := by rw [hrow0, if_pos ⟨c, by omega⟩]
            refine ⟨_, _, rfl, rfl, wmul (hB k k hk hk) (hB i _ hi hjn) hw hw (by omega), _, rfl, _, rfl, pk, _, _, _, rfl, rfl, SqL.of (sx _ _ hpkr), at_pos (by omega) (by rw [ei]; exact vecV_at hi), _, rfl, _, rfl, pk, _, _, _, rfl, rfl, SqL.of (sx _ _ hpkr), at_pos (by omega) (by rw [ej]; exact vecV_at hjn), _, _, rfl, rfl, wmul (hB k i hk hi) (hB k _ hk hjn) hw hw (by omega), _, _, rfl, rfl, _, rfl, _, _, rfl, rfl, wdiv hd hdB hw (by omega), ?_⟩
            refine ⟨_, rfl, _, rfl, D, _, _, k + 1 + j, rfl, rfl, h3, by rw [vec_lenV]; unfold ixN; rw [if_pos (by omega), if_pos (by omega)]; congr 1, ?_⟩
            refine ⟨_, _, rfl, same_at s3 hD, by rw [upd_same, vec_set hjn], fun q hq hqn => ?_⟩
            by_cases e : q = k + 1 + j
            · rw [if_pos e, num, e]
            · rw [if_neg e]
              exact hy q (by omega) hqn
          · rintro σ H3 ⟨v8, y, rfl, s3, h3, hy⟩
            exact ⟨_, y, rfl, s3, h3, fun q hq => hy q (by omega) hq⟩
        · exact ifF (decide_eq_false (by omega)) ⟨_, fun _ => 0, rfl, s1, by rw [hl1, hz], fun q hq => by rw [hrow0, if_neg (by omega)]⟩
      · rintro σ H3 ⟨v8, y, rfl, s3, h3, hy⟩
        have e : (vec n y).map V.int = (vec n (El.redu M k d i)).map V.int := by rw [vec_congr hy]
        rw [e] at h3
        refine ⟨_, rfl, tyV_of (s3 _ _ g.at_), _, rfl, L, _, _, rfl, rfl, s3 _ _ g.at_, ?_, ?_⟩
        · rw [List.length_map, g.len]
          exact Nat.lt_of_lt_of_le (by omega : i < 1001) (line_ge (by decide))
        · exact ⟨_, _, _, ps ++ [D], rfl, g.snoc hL s3 h3 hDL⟩
  · rintro σ H1 ⟨v7, v8, v9, ps, rfl, g⟩
    exact ⟨_, rfl, q _ _ g.same g.tab⟩
end
end P09
namespace P09
open PySem PySem.Spec PyProof.Rows L2 SX EX WK
/-- a pivot: index, row, scale -/
def PvAt (K : PySem.W.Frag) (n : Nat) : Hp → V → El.Pv → Prop := fun H v p => ∃ t r, v = .ref t ∧ SqT K H t [.int (p.1 : Int), .ref r, .int p.2.2] ∧ TV K H r n p.2.1
theorem stb_PvAt {K : PySem.W.Frag} {n : Nat} : Stb K (PvAt K n) := fun _ _ _ _ s ⟨t, r, h1, h2, h3⟩ => ⟨t, r, h1, s _ _ h2, s _ _ h3⟩
/-- numbers outside the table are 0, the table is symmetric -/
structure Whole (n : Nat) (M : Nat → Nat → Int) : Prop where
  sym : ∀ i j, M i j = M j i
  out : ∀ i j, n ≤ j → M i j = 0
theorem run_out {n : Nat} {M : Nat → Nat → Int} (h : Whole n M) {k : Nat} {S : List Nat} {d : Int} {B' : Nat → Nat → Int} {ps : List El.Pv} (r : El.Run M k S d B' ps) : ∀ i j, n ≤ j → B' i j = 0 := by
  induction r with
  | begin => exact h.out
  | skip _ _ ih => exact ih
  | pivot _ _ ih =>
    intro i j hj
    unfold El.redu
    rw [ih _ _ hj, ih _ _ hj, Int.mul_zero, Int.mul_zero, Int.sub_zero, Int.zero_ediv]
    split <;> rfl
theorem run_row {n : Nat} {M : Nat → Nat → Int} (h : Whole n M) {k : Nat} {S : List Nat} {d : Int} {B' : Nat → Nat → Int} {ps : List El.Pv} (r : El.Run M k S d B' ps) (h0 : B' k k = 0) (hz : ∀ p, k < p → p < n → B' k p = 0) : ∀ x, B' k x = 0 := fun x => by
  rcases Nat.lt_trichotomy x k with c | c | c
  · exact (r.inv h.sym).low k x c
  · rw [c]; exact h0
  · by_cases e : x < n
    · exact hz x c e
    · exact run_out h r k x (by omega)
/-- the bounds of the rests -/
theorem run_bound {n w : Nat} {M : Nat → Nat → Int} (h : Whole n M) {b : Int} (hb1 : 1 ≤ b) (hb : ∀ i j, -b ≤ M i j ∧ M i j ≤ b) (hw : B w (El.bnd b n)) {k : Nat} {S : List Nat} {d : Int} {B' : Nat → Nat → Int} {ps : List El.Pv} (r : El.Run M k S d B' ps) (hk : k < n) : (∀ i j, B w (B' i j)) ∧ 0 < d ∧ B w d := by
  have inv := r.inv h.sym
  have m1 := El.bnd_mono hb1 (show k + 1 ≤ n by omega)
  have m2 := El.bnd_mono hb1 (show k ≤ n by omega)
  have hw' : (El.bnd b n).natAbs < 2 ^ w := hw
  refine ⟨fun i j => ?_, inv.dpos, ?_⟩
  · show (B' i j).natAbs < 2 ^ w
    by_cases c : k ≤ i
    · have := r.rbound h.sym b hb1 hb c j
      omega
    · rw [inv.sym, inv.low j i (by omega)]
      show 0 < 2 ^ w
      exact Nat.lt_of_le_of_lt (Nat.zero_le _) hw'
  · have := El.Run.dbound inv r.many b hb1 hb r
    have := inv.dpos
    show d.natAbs < 2 ^ w
    omega
theorem LTab.put {K : PySem.W.Frag} {H : Hp} {L tb : Addr} {n : Nat} {f : Nat → Nat → Int} {pv pv' : List V} {ps : List El.Pv} (h : LTab H tb n f) (hL : H L = some (.lst pv)) (r : Rs (PvAt K n) H pv ps) (hl : pv.length < n) : LTab (upd H L (.lst pv')) tb n f := by
  obtain ⟨rs, h1, h2, h3⟩ := h
  refine ⟨rs, ?_, h2, fun i hi => ?_⟩
  · rw [upd_ne (fun z => ?_)]
    · exact h1
    · rw [z, hL] at h1
      have := HO.lst.inj (Option.some.inj h1)
      rw [this, List.length_map] at hl
      omega
  · obtain ⟨p, e1, e2⟩ := h3 i hi
    refine ⟨p, e1, ?_⟩
    rw [upd_ne (fun z => ?_)]
    · exact e2
    · rw [z, hL] at e2
      have := HO.lst.inj (Option.some.inj e2)
      rw [this, vec_lenV] at hl
      omega
section
variable {P : Program} {w : World} {K : PySem.W.Frag} {mg : Str → Option Value} {base : Heap} {f : Addr} {fd : FuncData} {cF cR : Addr}
/-- what the elimination tells -/
def spElim (K : PySem.W.Frag) : Sp := fun vs H Q _ => ∃ (v : V) (n w : Nat) (b : Int) (M : Nat → Nat → Int), vs = [v] ∧ Fz K H v (tm n M) ∧ n ≤ 1000 ∧ Whole n M ∧ 1 ≤ b ∧ (∀ i j, -b ≤ M i j ∧ M i j ≤ b) ∧ B w (El.bnd b n) ∧ 0 < w ∧ w ≤ 9000 ∧
  (∀ r t pv H' S d B' ps, Same H H' → El.Run M n S d B' ps → SqT K H' r [.ref t, .non] → SqT K H' t pv → Rs (PvAt K n) H' pv ps.reverse → Q (.ref r) H') ∧
  (∀ r t z pv H' k S d B' ps x, Same H H' → k < n → El.Run M k S d B' ps → BadAt n k B' x → SqT K H' r [.ref t, .ref z] → SqT K H' t pv → Rs (PvAt K n) H' pv ps.reverse → TV K H' z n x → Q (.ref r) H')
abbrev s_eliminated : Stmt := top 30
abbrev N_eliminated : List Str := ["entries", "table", "pivots", "divisor", "index", "point", "pivot", "line"]
theorem sc_eliminated : FnScope N_eliminated ["entries"] (defScope s_eliminated) := ⟨rfl, rfl, rfl, by decide +kernel, rfl, by decide +kernel, by decide +kernel⟩
theorem ok_eliminated (F : Fun K "eliminated" "eliminated" s_eliminated f fd) (T : Txt mg) (C_bad_point : Cal P w K mg base 2 "bad_point" ["table", "index"] (spBad K)) (C_reduced : Cal P w K mg base 1 "reduced" ["table", "index", "divisor"] (spReduced K)) : FnOk P w K mg base CX0 3 f fd ["entries"] (spElim K) := by
  refine F.ok sc_eliminated (fun vs H Q E h => ?_) (fun cdv A outer s H vs Q E hr h => ?_)
  · obtain ⟨v, n, w, b, M, rfl, _⟩ := h
    rfl
  obtain ⟨v, n, w, b, M, rfl, hz, hn, hW, hb1, hb, hw, hw0, hw4, q1, q2⟩ := h
  obtain ⟨a, vs, rfl, ha, hl, hrow⟩ := fz_mat hz
  rw [mat_len] at hl
  refine ⟨_, (pss_cons (ps_setLc (i := 1) (own := [("line", 7)]) (g := gName 7) (tt := tYes) (by rfl) sc_eliminated.nd rfl rfl (sw_true rfl rfl rfl (by decide +kernel)) (pi_tup (pv 0)) (blkOk_by (N := N_eliminated) (sc := defScope s_eliminated) (by decide +kernel)) (fun _ _ _ _ _ => (pg_name (i := 7) sc_eliminated.nd rfl (Or.inl rfl))) (fun _ _ _ _ _ => pts_nil) (fun _ _ _ _ _ => (pe_callTy (call_list_ofK (K := K) rfl) (by rfl) T.b_list (by decide +kernel) (pa_cons (pv 7) pa_nil))))
  (pss_cons (ps_set (i := 2) sc_eliminated.nd rfl (Or.inl rfl) (pe_lst pa_nil))
  (pss_cons (ps_set (i := 3) sc_eliminated.nd rfl (Or.inl rfl) pe_int)
  (pss_cons (ps_for PassesOwn.never rfl (pi_range1 (by rfl) T.b_range (pa_cons (pe_callB call_len_seq (by rfl) T.b_len PySem.boot_len (pa_cons (pv 1) pa_nil)) pa_nil)) (pg_name (i := 4) sc_eliminated.nd rfl (Or.inl rfl)) (pss_cons (ps_set (i := 5) sc_eliminated.nd rfl (Or.inl rfl) (pe_cal C_bad_point (hr.mono (by omega)) rfl (pa_cons (pv 1) (pa_cons (pv 4) pa_nil))))
  (pss_cons (ps_if (pt_cmpR op_notN (pv 5) pe_non (nomark _)) (pss_one (ps_ret (pe_tup (pa_cons (pe_callTy call_tuple_of (by rfl) T.b_tuple (by decide +kernel) (pa_cons (pv 2) pa_nil)) (pa_cons (pv 5) pa_nil))))) pss_nil)
  (pss_cons (ps_set (i := 6) sc_eliminated.nd rfl (Or.inl rfl) (pe_ix ix_list /-?-/ (pe_ix ix_list (pv 1) (pv 4) (fun _ _ => rfl)) (pv 4) (fun _ _ => rfl)))
  (pss_one (ps_if (pt_cmpR op_gt (pv 6) pe_int (nomark _)) (pss_cons (ps_expr (pe_bm PySem.F.plainAttrs_list PySem.F.slot_list_append PySem.F.type_list_append mt_append (pv 2) (pa_cons (pe_tup (pa_cons (pv 4) (pa_cons (pe_callTy call_tuple_of (by rfl) T.b_tuple (by decide +kernel) (pa_cons (pe_ix ix_list (pv 1) (pv 4) (fun _ _ => rfl)) pa_nil)) (pa_cons (pe_op op_mulW (pv 3) (pv 6)) pa_nil)))) pa_nil)))
  (pss_cons (ps_set (i := 1) sc_eliminated.nd rfl (Or.inl rfl) (pe_cal C_reduced (hr.mono (by omega)) rfl (pa_cons (pv 1) (pa_cons (pv 4) (pa_cons (pv 3) pa_nil)))))
  (pss_one (ps_set (i := 3) sc_eliminated.nd rfl (Or.inl rfl) (pv 6))))) pss_nil))))))
  (pss_one (ps_ret (pe_tup (pa_cons (pe_callTy call_tuple_of (by rfl) T.b_tuple (by decide +kernel) (pa_cons (pv 2) pa_nil)) (pa_cons pe_non pa_nil))))))))), ?_⟩
  refine ⟨_, rfl, a, rfl, ⟨_, ha⟩, fun D hD => ?_⟩
  refine lc_gm (walk_tup (K := K) (a := a) (xs := vs)) (RL D) stb_RL (List.range n) (by rw [List.length_range]; exact hl) (by rw [List.length_range]; omega) hD (fun H' s => Same_seqT s ha) (fun _ _ _ _ => ys_at) (fun i => vec n (M i)) (fun c i x H1 H2 hc s1 s2 y hdl A B hA => ?_) (fun H' l s1 hl1 rs => ?_)
  · obtain ⟨hc1, rfl⟩ := in_range hc
    obtain ⟨p, h1, h2⟩ := hrow i _ (mat_at hc1)
    have e := y.2
    rw [h1] at e
    cases e
    refine ⟨rfl, lc_yes ⟨_, rfl, p, _, rfl, .inr (Same_seqT s2 h2), fun t ht => ?_⟩⟩
    refine hA _ _ (same_new ht _) ⟨t, rfl, fun z => ?_, upd_same⟩
    obtain ⟨l, hl⟩ := hdl
    rw [z, hl] at ht
    cases ht
  have tab0 : LTab H' D n M := LTab.of hl1 rs
  refine ⟨line_ge (by decide), fun L hL => ?_⟩
  refine ⟨_, rfl, D, l, rfl, .inl (SqL.of (same_new hL _ _ _ hl1)), (n : Int), by rw [rs.1, List.length_map, List.length_range], by omega, by omega, ?_⟩
  refine for_range (lo := 0) (n := n) (fun k σ H1 => ∃ (v4 v5 v6 : Option V) (tb : Addr) (d : Int) (pv : List V) (S : List Nat) (B' : Nat → Nat → Int) (ps : List El.Pv), σ = [some (.ref a), some (.ref tb), some (.ref L), some (.int d), v4, v5, v6, none] ∧ El.Run M k S d B' ps ∧ Same H H1 ∧ H L = none ∧ H1 L = some (.lst pv) ∧ Rs (PvAt K n) H1 pv ps.reverse ∧ LTab H1 tb n B') ⟨none, none, none, D, 1, [], [], M, [], rfl, .begin, s1.trans (same_new hL _), s1.free hL, upd_same, Rs.nil, tab0.same (same_new hL _)⟩ ?_ ?_
  · rintro k σ H1 hk ⟨v4, v5, v6, tb, d, pv, S, B', ps, rfl, run, sH, hL0, hLv, rps, tab⟩
    obtain ⟨hB, hd, hdB⟩ := run_bound hW hb1 hb hw run hk
    refine ⟨_, rfl, _, rfl, tb, n, k, w, B', by rw [Int.zero_add]; rfl, tab, hn, hk, fun i j _ _ => hB i j, hw0, by omega, fun fine => ?_, fun x t H2 hbad s2 htv => ?_⟩
    · refine ⟨_, rfl, rfl, _, rfl, ifF (by rw [decide_eq_true rfl]; rfl) ?_⟩
      have tab' := tab
      obtain ⟨rs2, h1, h2, h3⟩ := tab'
      obtain ⟨p, hp, hpr⟩ := h3 k hk
      have hpv : (rs2.map V.ref)[k]? = some (V.ref p) := by rw [List.getElem?_map, hp]; rfl
      have e0 : (0 + (k : Int)).toNat = k := by omega
      refine ⟨_, rfl, _, rfl, tb, _, _, _, rfl, rfl, SqL.of h1, at_pos (by omega) (by rw [e0]; exact hpv), _, rfl, p, _, _, _, rfl, rfl, SqL.of hpr, at_pos (by omega) (by rw [e0]; exact vecV_at hk), ?_⟩
      refine ⟨_, rfl, _, _, rfl, rfl, _, rfl, ?_⟩
      have hpl : pv.length < n := by
        have m := run.many
        have l := run.leads
        have := rps.1
        rw [List.length_reverse, ← List.length_map (as := ps) (f := (·.1)), l] at this
        omega
      by_cases c : 0 < B' k k
      · refine ifT (decide_eq_true c) ?_
        refine ⟨_, rfl, tyV_of hLv, _, rfl, _, rfl, _, rfl, tb, _, _, _, rfl, rfl, SqL.of h1, at_pos (by omega) (by rw [e0]; exact hpv), p, _, rfl, .inl ⟨SqL.of hpr, fun u hu => ⟨_, rfl, _, rfl, _, _, rfl, rfl, wmul hdB (hB k k) hw0 hw0 (by omega), three_line, fun z hz => ?_⟩⟩⟩
        have s3 := (same_new hu (.tup ((vec n (B' k)).map V.int))).trans (same_new hz (.tup [.int (0 + (k : Int)), .ref u, .int (d * B' k k)]))
        refine ⟨L, pv, _, rfl, rfl, s3 _ _ hLv, Nat.lt_of_lt_of_le hpl (line_ge (by omega)), ?_⟩
        have tk3 : Tk K H1 (upd (upd H1 u (.tup ((vec n (B' k)).map V.int))) z (.tup [.int (0 + (k : Int)), .ref u, .int (d * B' k k)])) := fun _ _ h => Same_seqT s3 h
        have tab3 := (tab.same s3).put (K := K) (pv' := pv ++ [.ref z]) (s3 _ _ hLv) (rps.tk stb_PvAt tk3) hpl
        refine ⟨_, rfl, _, rfl, _, rfl, tb, n, k, w, d, B', by rw [Int.zero_add]; rfl, tab3, hn, hk, fun i j _ _ => hB i j, hd, hdB, hw0, hw4, fun r H3 s4 hr => ?_⟩
        have sz : SqT K (upd (upd H1 u (.tup ((vec n (B' k)).map V.int))) z (.tup [.int (0 + (k : Int)), .ref u, .int (d * B' k k)])) z [.int (k : Int), .ref u, .int (d * B' k k)] := by
          have el : V.int (0 + (k : Int)) = V.int (k : Int) := by rw [Int.zero_add]
          exact Eq.mp (congrArg (fun x => SqT K (upd (upd H1 u (.tup ((vec n (B' k)).map V.int))) z (.tup [.int (0 + (k : Int)), .ref u, .int (d * B' k k)])) z [x, .ref u, .int (d * B' k k)]) el) (SqT.of upd_same)
        have su : SqT K (upd (upd H1 u (.tup ((vec n (B' k)).map V.int))) z (.tup [.int (0 + (k : Int)), .ref u, .int (d * B' k k)])) u ((vec n (B' k)).map V.int) := Same_seqT (same_new hz _) (SqT.of upd_same)
        have r3 : Rs (PvAt K n) (upd (upd H1 u (.tup ((vec n (B' k)).map V.int))) z (.tup [.int (0 + (k : Int)), .ref u, .int (d * B' k k)])) (pv ++ [.ref z]) (((k, B' k, d * B' k k) :: ps).reverse) := by
          rw [List.reverse_cons]
          exact (rps.tk stb_PvAt tk3).snoc ⟨z, u, rfl, sz, su⟩
        have tk4 := tk_lst (K := K) (s3 _ _ hLv) (H' := upd (upd (upd H1 u (.tup ((vec n (B' k)).map V.int))) z (.tup [.int (0 + (k : Int)), .ref u, .int (d * B' k k)])) L (.lst (pv ++ [.ref z]))) (fun b o hb e => by rw [upd_ne hb]; exact e)
        have tk5 : Tk K (upd (upd (upd H1 u (.tup ((vec n (B' k)).map V.int))) z (.tup [.int (0 + (k : Int)), .ref u, .int (d * B' k k)])) L (.lst (pv ++ [.ref z]))) H3 := fun _ _ h => Same_seqT s4 h
        exact ⟨_, rfl, _, _, _, r, B' k k, pv ++ [.ref z], k :: S, El.redu B' k d, (k, B' k, d * B' k k) :: ps, rfl, run.pivot c, (same_at (sH.trans s3) hL0).trans s4, hL0, s4 _ _ upd_same, (r3.tk stb_PvAt tk4).tk stb_PvAt tk5, hr⟩
      · refine ifF (decide_eq_false c) ?_
        have h0 : B' k k = 0 ∧ ∀ p, k < p → p < n → B' k p = 0 := by
          rcases fine with g | g
          · exact absurd g c
          · exact g
        exact ⟨_, _, _, tb, d, pv, S, B', ps, rfl, run.skip (run_row hW run h0.1 h0.2), sH, hL0, hLv, rps, tab⟩
    · refine ⟨_, rfl, rfl, _, rfl, ifT (by rw [decide_eq_false (fun e => by cases e)]; rfl) ?_⟩
      refine ⟨_, rfl, L, pv, rfl, .inl ⟨SqL.of (s2 _ _ hLv), fun t2 ht2 => ⟨_, rfl, two_line, fun r hr => ?_⟩⟩⟩
      have s3 := (s2.trans (same_new ht2 (.tup pv))).trans (same_new hr (.tup [.ref t2, .ref t]))
      exact q2 r t2 t pv _ k S d B' ps x (sH.trans s3) hk run hbad (SqT.of upd_same) (Same_seqT (same_new hr _) (SqT.of upd_same)) (rps.tk stb_PvAt fun _ _ h => Same_seqT s3 h) (Same_seqT ((same_new ht2 _).trans (same_new hr _)) htv)
  · rintro σ H1 ⟨v4, v5, v6, tb, d, pv, S, B', ps, rfl, run, sH, hL0, hLv, rps, tab⟩
    refine ⟨_, rfl, L, pv, rfl, .inl ⟨SqL.of hLv, fun t ht => ⟨two_line, fun r hr => ?_⟩⟩⟩
    have s3 := (same_new ht (.tup pv)).trans (same_new hr (.tup [.ref t, .non]))
    exact q1 r t pv _ S d B' ps (sH.trans s3) run (SqT.of upd_same) (Same_seqT (same_new hr _) (SqT.of upd_same)) (rps.tk stb_PvAt fun _ _ h => Same_seqT s3 h)
end
end P09
namespace PySem.El
/-- the bounds at the sizes of the laws: entries up to 2 ^ 96 -/
theorem nums : (List.range 11).all (fun n => decide (tb (fun k => bnd (2 ^ 96) (k + 1)) n n < 2 ^ 7900) && decide ((bnd (2 ^ 96) n).natAbs < 2 ^ 1000)) = true := by decide +kernel
end PySem.El
namespace PySem.El
/-- g is the common divisor of the numbers P -/
structure Gcd (P : Int → Prop) (g : Int) : Prop where
  nn : 0 ≤ g
  dv : ∀ x, P x → g ∣ x
  mx : ∀ a c : Int, (∀ x, P x → c ∣ a * x) → c ∣ a * g
theorem Gcd.none {P : Int → Prop} (h : ∀ x, ¬ P x) : Gcd P 0 := ⟨by decide, fun x hx => absurd hx (h x), fun a c _ => by rw [Int.mul_zero]; exact Int.dvd_zero c⟩
theorem Gcd.more {P P' : Int → Prop} {g x : Int} (h : Gcd P g) (e : ∀ y, P' y ↔ P y ∨ y = x) : Gcd P' ((Nat.gcd g.natAbs x.natAbs : Nat) : Int) := by
  have d1 : ((Nat.gcd g.natAbs x.natAbs : Nat) : Int) ∣ g := nat_dvd.2 (Nat.gcd_dvd_left _ _)
  have d2 : ((Nat.gcd g.natAbs x.natAbs : Nat) : Int) ∣ x := nat_dvd.2 (Nat.gcd_dvd_right _ _)
  refine ⟨Int.natCast_nonneg _, fun y hy => ?_, fun a c hc => ?_⟩
  · rcases (e y).1 hy with p | p
    · exact Int.dvd_trans d1 (h.dv y p)
    · rw [p]; exact d2
  · have h1 := h.mx a c fun y hy => hc y ((e y).2 (.inl hy))
    have h2 := hc x ((e x).2 (.inr rfl))
    have g1 : c.natAbs ∣ a.natAbs * g.natAbs := by rw [← Int.natAbs_mul]; exact Int.natAbs_dvd_natAbs.2 h1
    have g2 : c.natAbs ∣ a.natAbs * x.natAbs := by rw [← Int.natAbs_mul]; exact Int.natAbs_dvd_natAbs.2 h2
    have g3 : c.natAbs ∣ a.natAbs * Nat.gcd g.natAbs x.natAbs := by
      rw [← Nat.gcd_mul_left]; exact Nat.dvd_gcd g1 g2
    apply Int.natAbs_dvd_natAbs.1
    rwa [Int.natAbs_mul, Int.natAbs_natCast]
theorem Gcd.cong {P P' : Int → Prop} {g : Int} (h : Gcd P g) (e : ∀ y, P' y ↔ P y) : Gcd P' g := ⟨h.nn, fun x hx => h.dv x ((e x).1 hx), fun a c hc => h.mx a c fun x hx => hc x ((e x).2 hx)⟩
/-- numbers outside are 0 -/
def Out (n : Nat) (R : Nat → Row) : Prop := ∀ i j, n ≤ i ∨ n ≤ j → R i j = 0
theorem numer_out {n k : Nat} {R : Nat → Row} (h : Out n R) : Out n (numer R k) := fun i j c => by
  unfold numer
  rcases c with c | c
  · rw [h i j (.inl c), h k i (.inr c)]; simp
  · rw [h i j (.inr c), h k j (.inr c)]; simp
/-- the numbers of a step -/
def Nums (n k : Nat) (R : Nat → Row) (x : Int) : Prop := ∃ i j, k < i ∧ k < j ∧ i < n ∧ j < n ∧ x = numer R k i j
def next (k : Nat) (R : Nat → Row) (g : Int) : Nat → Row := fun a b => if k < a ∧ k < b then (if 1 < g then numer R k a b / g else numer R k a b) else R a b
theorem next_out {n k : Nat} {R : Nat → Row} {g : Int} (h : Out n R) : Out n (next k R g) := fun i j c => by
  unfold next
  rw [numer_out h i j c, h i j c, Int.zero_ediv]
  simp
theorem Tie.next {A : Nat → Row} {S k d B R} {n : Nat} (h : Inv A S k d B) (hp : 0 < B k k) (t : Tie k R B) (out : Out n R) (g : Int) (hg : Gcd (Nums n k R) g) :
    Tie (k + 1) (next k R g) (redu B k d) ∧ ∀ i j, k < i → k < j → (next k R g i j).natAbs ≤ (redu B k d i j).natAbs := by
  refine Tie.pivot h hp t g hg.nn (fun a c hc => hg.mx a c fun x ⟨i, j, hi, hj, _, _, e⟩ => e ▸ hc i j hi hj) (fun i j hi hj => ?_) (fun g0 i j hi hj => ?_)
  · unfold El.next
    rw [if_pos ⟨hi, hj⟩]
    by_cases c : i < n ∧ j < n
    · have hd := hg.dv _ ⟨i, j, hi, hj, c.1, c.2, rfl⟩
      by_cases c1 : 1 < g
      · rw [if_pos c1, Int.mul_ediv_cancel' hd]
      · rw [if_neg c1]
        have := hg.nn
        rcases (show g = 0 ∨ g = 1 by omega) with e | e
        · rw [e] at hd ⊢
          rw [Int.zero_dvd.1 hd]; rfl
        · rw [e, Int.one_mul]
    · have z := numer_out (k := k) out i j (by omega)
      rw [z, Int.zero_ediv]
      simp
  · unfold El.next
    rw [if_pos ⟨hi, hj⟩, if_neg (by omega)]
    by_cases c : i < n ∧ j < n
    · have hd := hg.dv _ ⟨i, j, hi, hj, c.1, c.2, rfl⟩
      rw [g0] at hd
      exact Int.zero_dvd.1 hd
    · exact numer_out out i j (by omega)
/-- where a whole elimination stands at an index -/
theorem Run.upto {A : Nat → Row} {m S d B ps} (h : Run A m S d B ps) : ∀ k, k < m → ∃ S' d' B' ps', Run A k S' d' B' ps' ∧ (0 < B' k k ∨ ∀ x, B' k x = 0) := by
  induction h with
  | begin => intro k hk; omega
  | @skip m S d B ps h hz ih =>
    intro k hk
    by_cases e : k = m
    · subst e; exact ⟨_, _, _, _, h, .inr hz⟩
    · exact ih k (by omega)
  | @pivot m S d B ps h hp ih =>
    intro k hk
    by_cases e : k = m
    · subst e; exact ⟨_, _, _, _, h, .inl hp⟩
    · exact ih k (by omega)
end PySem.El
namespace PySem.El
/-- no value below 0 -/
def Psd (n : Nat) (A : Nat → Row) : Prop := ∀ x : Row, 0 ≤ Q n A x
theorem Q_zero {n : Nat} {A : Nat → Row} (h : ∀ i j, i < n → j < n → A i j = 0) (x : Row) : Q n A x = 0 := by
  rw [Q_congr (B' := fun _ _ => 0) (x' := x) (fun i j hi hj => by rw [h i j hi hj])]
  unfold Q
  simp [sm_zero]
theorem Run.psd_back {A : Nat → Row} (hA : ∀ i j, A i j = A j i) {k S d B ps} (h : Run A k S d B ps) (n : Nat) : Psd n B → Psd n A := by
  induction h with
  | begin => exact id
  | skip _ _ ih => exact ih
  | @pivot k S d B ps h hp ih =>
    intro hP
    refine ih fun x => ?_
    have hI := h.inv hA
    have e := hI.value hp n x
    have a := hP x
    have b : 0 ≤ lin n (B k) x * lin n (B k) x := by
      rcases Int.le_total 0 (lin n (B k) x) with c | c
      · exact Int.mul_nonneg c c
      · exact Int.mul_nonneg_of_nonpos_of_nonpos c c
    have c := Int.mul_nonneg (Int.le_of_lt hI.dpos) a
    rcases Int.lt_or_le (Q n B x) 0 with q | q
    · have := Int.mul_neg_of_pos_of_neg hp q
      omega
    · exact q
/-- a whole elimination: no value is below 0 -/
theorem Run.psd {A : Nat → Row} (hA : ∀ i j, A i j = A j i) {n S d B ps} (h : Run A n S d B ps) : Psd n A :=
  h.psd_back hA n fun x => by rw [Q_zero fun i j _ hj => (h.inv hA).low i j hj]; exact Int.le_refl _
theorem Psd.scale {n : Nat} {A B : Nat → Row} {a b : Int} (ha : 0 < a) (hb : 0 < b) (e : ∀ i j, i < n → j < n → a * A i j = b * B i j) (h : Psd n B) : Psd n A := fun x => by
  have h1 : a * Q n A x = b * Q n B x := by
    rw [← Q_mul, ← Q_mul]
    exact Q_congr fun i j hi hj => by rw [e i j hi hj]
  have h2 := Int.mul_nonneg (Int.le_of_lt hb) (h x)
  rw [← h1] at h2
  rcases Int.lt_or_le (Q n A x) 0 with q | q
  · have := Int.mul_neg_of_pos_of_neg ha q
    omega
  · exact q
theorem Psd.diag {n : Nat} {A : Nat → Row} (h : Psd n A) {k : Nat} (hk : k < n) : 0 ≤ A k k := by
  rw [← Q_unit A hk]
  exact h _
/-- what is ahead of the first pivot -/
theorem Run.empty {A : Nat → Row} {k S d B ps} (h : Run A k S d B ps) : S = [] → B = A := by
  induction h with
  | begin => intro _; rfl
  | skip _ _ ih => exact ih
  | pivot _ _ _ => intro e; cases e
theorem Run.diag {A : Nat → Row} {k S d B ps} (h : Run A k S d B ps) : S ≠ [] → ∃ i, i < k ∧ 0 < A i i := by
  induction h with
  | begin => intro e; exact absurd rfl e
  | skip _ _ ih => intro e; obtain ⟨i, h1, h2⟩ := ih e; exact ⟨i, by omega, h2⟩
  | @pivot k S d B ps h hp ih =>
    intro _
    by_cases e : S = []
    · rw [h.empty e] at hp
      exact ⟨k, by omega, hp⟩
    · obtain ⟨i, h1, h2⟩ := ih e
      exact ⟨i, by omega, h2⟩
/-- the numbers of a point -/
def Pts (n : Nat) (x : Row) (y : Int) : Prop := ∃ i, i < n ∧ y = x i
/-- one step of settling keeps a point primitive -/
theorem sett1_prim {n k : Nat} (row x : Row) (_ : k < n) (hp : 0 < row k) (h0 : x k = 0) (h : Gcd (Pts n x) 1) {g : Int} (hg : Gcd (Pts n (sett1 n k row x)) g) (hk : k < n) : g = 1 := by
  have hG : 0 < Int.gcd (rest n k row x) (row k) := Int.gcd_pos_of_ne_zero_right _ (by omega)
  have d1 : g ∣ row k / (Int.gcd (rest n k row x) (row k) : Int) := by
    have := h.mx (row k / (Int.gcd (rest n k row x) (row k) : Int)) g (fun y ⟨i, hi, e⟩ => by
      rw [e]
      by_cases c : i = k
      · rw [c, h0, Int.mul_zero]; exact Int.dvd_zero g
      · have := hg.dv _ ⟨i, hi, rfl⟩
        unfold sett1 at this
        rwa [if_neg c] at this)
    rwa [Int.mul_one] at this
  have d2 : g ∣ rest n k row x / (Int.gcd (rest n k row x) (row k) : Int) := by
    have := hg.dv _ ⟨k, hk, rfl⟩
    unfold sett1 at this
    rw [if_pos rfl] at this
    have e : -rest n k row x / (Int.gcd (rest n k row x) (row k) : Int) = -(rest n k row x / (Int.gcd (rest n k row x) (row k) : Int)) := Int.neg_ediv_of_dvd (Int.gcd_dvd_left ..)
    rw [e] at this
    exact Int.dvd_neg.mp this
  have d3 : Int.gcd (rest n k row x / (Int.gcd (rest n k row x) (row k) : Int)) (row k / (Int.gcd (rest n k row x) (row k) : Int)) = 1 := Int.gcd_ediv_gcd_ediv_gcd hG
  have d4 := Int.dvd_coe_gcd d2 d1
  rw [d3] at d4
  have := Int.le_of_dvd (by decide) d4
  have n0 := hg.nn
  rcases (show g = 0 ∨ g = 1 by omega) with e | e
  · rw [e] at d4
    have := Int.zero_dvd.1 d4
    omega
  · exact e
/-- a settled point is primitive -/
theorem Run.prim {A : Nat → Row} {k S d B ps} (h : Run A k S d B ps) (n : Nat) (hk : k ≤ n) (gc : ∀ y : Row, ∃ g, Gcd (Pts n y) g) : ∀ x, (∀ i ∈ S, x i = 0) → Gcd (Pts n x) 1 → Gcd (Pts n (setl n ps x)) 1 := by
  induction h with
  | begin => intro x _ h; exact h
  | skip _ _ ih => exact ih (by omega)
  | @pivot k S d B ps h hp ih =>
    intro x h0 h1
    refine ih (by omega) _ (fun i hi => ?_) ?_
    · unfold sett1
      by_cases c : i = k
      · exfalso
        have : ∀ {k S d B ps}, Run A k S d B ps → ∀ i ∈ S, i < k := fun r => by
          induction r with
          | begin => simp
          | skip _ _ ih => intro i hi; have := ih i hi; omega
          | pivot _ _ ih =>
            intro i hi
            rcases List.mem_cons.1 hi with e | m
            · omega
            · have := ih i m; omega
        have := this h i hi
        omega
      · rw [if_neg c, h0 i (List.mem_cons_of_mem _ hi), Int.mul_zero]
    · obtain ⟨g, hg⟩ := gc (sett1 n k (B k) x)
      have e := sett1_prim (B k) x (by omega) hp (h0 k (List.mem_cons_self ..)) h1 hg (by omega)
      rw [e] at hg
      exact hg
theorem Gcd.one {P : Int → Prop} (h : P 1) : Gcd P 1 := ⟨by decide, fun x _ => Int.one_dvd x, fun a c hc => hc 1 h⟩
end PySem.El
namespace P09
open PySem PySem.Spec PyProof.Rows L2 SX EX WK
/-- a point behind some pivots -/
def seti (n : Nat) (ps : List El.Pv) (x : El.Row) : El.Row := ps.foldl (fun x p => El.sett1 n p.1 p.2.1 x) x
theorem seti_setl {n : Nat} : ∀ {ps : List El.Pv} {x : El.Row}, El.setl n ps x = seti n ps x
  | [], _ => rfl
  | p :: ps, x => by
    show El.setl n ps (El.sett1 n p.1 p.2.1 x) = _
    rw [seti_setl]
    rfl
theorem seti_snoc {n : Nat} {ps : List El.Pv} {i : Nat} {p : El.Pv} {x : El.Row} (h : ps[i]? = some p) : seti n (ps.take (i + 1)) x = El.sett1 n p.1 p.2.1 (seti n (ps.take i) x) := by
  unfold seti
  rw [take_one h, List.foldl_append]
  rfl
/-- the settled point -/
def setd (n : Nat) (ps : List El.Pv) (x : El.Row) : El.Row := fun i => seti n ps x i / gf 0 (vec n (seti n ps x))
theorem gf_nn {b : Int} (h : 0 ≤ b) : ∀ (ns : List Int), 0 ≤ gf b ns := fun ns => by
  unfold gf
  induction ns generalizing b with
  | nil => exact h
  | cons a l ih => exact ih (Int.natCast_nonneg _)
theorem gf_nz {ns : List Int} {m : Int} (hm : m ∈ ns) (h0 : m ≠ 0) : 0 < gf 0 ns ∧ gf 0 ns ≤ (m.natAbs : Int) := by
  have h := (gf_dvd (b := 0) ns).2 m hm
  have h1 : gf 0 ns ≠ 0 := fun e => by
    rw [e] at h
    exact h0 (Int.zero_dvd.mp h)
  have h2 := gf_nn (b := 0) (by decide) ns
  refine ⟨by omega, ?_⟩
  have := Nat.le_of_dvd (by omega) (Int.natAbs_dvd_natAbs.mpr h)
  omega
theorem ten_bound {n a b : Nat} {v : Int} (hn : n ≤ 10) (ha : 0 < a) (hb : 0 < b) (h : -((n : Int) * (a : Int) * (b : Int)) ≤ v ∧ v ≤ (n : Int) * (a : Int) * (b : Int)) : v.natAbs < 2 ^ 10 * (a * b) := by
  have e : (n : Int) * (a : Int) * (b : Int) = ((n * (a * b) : Nat) : Int) := by
    rw [Int.mul_assoc, Int.natCast_mul, Int.natCast_mul]
  rw [e] at h
  have h1 : n * (a * b) ≤ 10 * (a * b) := Nat.mul_le_mul_right _ hn
  have h2 : 0 < a * b := Nat.mul_pos ha hb
  have h3 : (2 : Nat) ^ 10 = 1024 := by decide
  rw [h3]
  omega
theorem rest_S {n k : Nat} {row x : El.Row} : El.rest n k row x = S (n - (k + 1)) fun j => row (k + 1 + j) * x (k + 1 + j) := by
  unfold El.rest
  induction n with
  | zero =>
    rw [show 0 - (k + 1) = 0 by omega]
    rfl
  | succ n ih =>
    show El.sm n _ + (if k < n then row n * x n else 0) = _
    by_cases c : k < n
    · rw [if_pos c, ih, show n + 1 - (k + 1) = (n - (k + 1)) + 1 by omega, S_succ, show k + 1 + (n - (k + 1)) = n by omega]
    · rw [if_neg c, ih, show n + 1 - (k + 1) = 0 by omega, show n - (k + 1) = 0 by omega, Int.add_zero]
theorem gf_more {ns : List Int} : ∀ {P : Int → Prop} {b : Int}, El.Gcd P b → El.Gcd (fun y => P y ∨ y ∈ ns) (gf b ns) := by
  induction ns with
  | nil => intro P b h; exact h.cong fun y => by simp
  | cons m ns ih =>
    intro P b h
    have h1 : El.Gcd (fun y => P y ∨ y = m) (gI b m) := h.more fun y => Iff.rfl
    exact (ih h1).cong fun y => by simp [or_assoc]
theorem gf_gcd {n : Nat} (x : El.Row) : El.Gcd (El.Pts n x) (gf 0 (vec n x)) := (gf_more (El.Gcd.none (P := fun _ => False) fun _ h => h)).cong fun y => by
  constructor
  · rintro ⟨i, hi, rfl⟩
    exact .inr (List.mem_map.mpr ⟨i, List.mem_range.mpr hi, rfl⟩)
  · rintro (h | h)
    · exact h.elim
    · obtain ⟨i, hi, rfl⟩ := List.mem_map.mp h
      exact ⟨i, List.mem_range.mp hi, rfl⟩
theorem gcd_one {P : Int → Prop} {g : Int} (h : El.Gcd P 1) (hg : El.Gcd P g) : g = 1 := by
  have := h.mx 1 g fun x hx => by rw [Int.one_mul]; exact hg.dv x hx
  have a := Int.le_of_dvd (by decide) this
  have b := hg.nn
  rcases (show g = 0 ∨ g = 1 by omega) with e | e
  · rw [e] at this
    have := Int.zero_dvd.1 this
    omega
  · exact e
section
variable {P : Program} {w : World} {K : PySem.W.Frag} {mg : Str → Option Value} {base : Heap} {f : Addr} {fd : FuncData} {cF cR : Addr}
def spSettled (K : PySem.W.Frag) : Sp := fun vs H Q _ => ∃ (t z : Addr) (n w : Nat) (pv : List V) (ps : List El.Pv) (x : El.Row), vs = [.ref t, .ref z] ∧ SqT K H t pv ∧ Rs (PvAt K n) H pv ps.reverse ∧ TV K H z n x ∧ n ≤ 10 ∧ ps.length ≤ 10 ∧
  (∀ p ∈ ps, p.1 < n ∧ 0 < p.2.1 p.1 ∧ ∀ j, B w (p.2.1 j)) ∧ (∀ i, B w (x i)) ∧ 0 < w ∧ w ≤ 8000 ∧ gf 0 (vec n (seti n ps x)) = 1 ∧ ∀ r H', Same H H' → TV K H' r n (setd n ps x) → Q (.ref r) H'
abbrev s_settled : Stmt := top 31
abbrev N_settled : List Str := ["pivots", "point", "numbers", "index", "row", "_", "rest", "shared", "factor", "number", "place"]
theorem sc_settled : FnScope N_settled ["pivots", "point"] (defScope s_settled) := ⟨rfl, rfl, rfl, by decide +kernel, rfl, by decide +kernel, by decide +kernel⟩
theorem ok_settled (F : Fun K "settled" "settled" s_settled f fd) (T : Txt mg) : FnOk P w K mg base CX0 1 f fd ["pivots", "point"] (spSettled K) := by
  refine F.ok sc_settled (fun vs H Q E h => ?_) (fun cdv A outer s H vs Q E hr h => ?_)
  · obtain ⟨t, z, n, w, us, ps, x, rfl, _⟩ := h
    rfl
  obtain ⟨t, z, n, w, us, ps, x, rfl, ht, rps, hx, hn, hps, hp, hxB, hw0, hw4, h9, q⟩ := h
  refine ⟨_, (pss_cons (ps_set (i := 2) sc_settled.nd rfl (Or.inr rfl) (pe_callTy call_list_of (by rfl) T.b_list (by decide +kernel) (pa_cons (pv 1) pa_nil)))
  (pss_cons (ps_for PassesOwn.never rfl (RT.pi_revA rfl T.b_reversed (pv 0)) (pg_tup rfl (pgs_cons (pg_name (i := 3) sc_settled.nd rfl (Or.inl rfl)) (pgs_cons (pg_name (i := 4) sc_settled.nd rfl (Or.inr rfl)) (pgs_cons (pg_name (i := 5) sc_settled.nd rfl (Or.inl rfl)) pgs_nil)))) (pss_cons (ps_set (i := 6) sc_settled.nd rfl (Or.inl rfl) (pe_callB (cr_sum rfl) (by rfl) T.b_sum (by decide +kernel) (pa_cons (pe_lc (own := [("place", 10)]) (g := gName 10) (tt := tYes) (by rfl) sc_settled.nd (pi_range2 (by rfl) T.b_range (pa_cons (pe_op op_add (pv 3) pe_int) (pa_cons (pe_callB call_len_seq (by rfl) T.b_len PySem.boot_len (pa_cons (pv 2) pa_nil)) pa_nil))) (blkOk_by (N := N_settled) (sc := defScope s_settled) (by decide +kernel)) (fun _ _ _ _ _ => (pg_name (i := 10) sc_settled.nd rfl (Or.inl rfl))) (fun _ _ _ _ _ => pts_nil) (fun _ _ _ _ _ => (pe_op op_mulW (pe_ix (ix_tupK (K := K) rfl) (pv 4) (pv 10) (fun _ _ => rfl)) (pe_ix (ix_listK (K := K) rfl) (pv 2) (pv 10) (fun _ _ => rfl))))) pa_nil)))
  (pss_cons (ps_set (i := 7) sc_settled.nd rfl (Or.inr rfl) (pe_callBfun cr_gcd rfl T.g_gcd (pa_cons (pv 6) (pa_cons (pe_ix ix_tup (pv 4) (pv 3) (fun _ _ => rfl)) pa_nil))))
  (pss_cons (ps_set (i := 8) sc_settled.nd rfl (Or.inr rfl) (pe_op op_fdivW (pe_ix ix_tup (pv 4) (pv 3) (fun _ _ => rfl)) (pv 7)))
  (pss_cons (ps_set (i := 2) sc_settled.nd rfl (Or.inr rfl) (pe_lc (own := [("number", 9)]) (g := gName 9) (tt := tYes) (by rfl) sc_settled.nd (pi_list (pv 2)) (blkOk_by (N := N_settled) (sc := defScope s_settled) (by decide +kernel)) (fun _ _ _ _ _ => (pg_name (i := 9) sc_settled.nd rfl (Or.inl rfl))) (fun _ _ _ _ _ => pts_nil) (fun _ _ _ _ _ => (pe_op op_mulW (pv 8) (pv 9)))))
  (pss_one (ps_asg (pe_op op_fdivW (pe_un un_neg (pv 6)) (pv 7)) (pg_sub (pv 2) (pv 3) set_list))))))))
  (pss_cons (ps_set (i := 7) sc_settled.nd rfl (Or.inr rfl) pe_int)
  (pss_cons (ps_for PassesOwn.never rfl (pi_list (pv 2)) (pg_name (i := 9) sc_settled.nd rfl (Or.inl rfl)) (pss_one (ps_set (i := 7) sc_settled.nd rfl (Or.inr rfl) (pe_callBfun cr_gcd rfl T.g_gcd (pa_cons (pv 7) (pa_cons (pv 9) pa_nil))))))
  (pss_one (ps_ret (pe_callTy call_tuple_of (by rfl) T.b_tuple (by decide +kernel) (pa_cons (pe_lc (own := [("number", 9)]) (g := gName 9) (tt := tYes) (by rfl) sc_settled.nd (pi_list (pv 2)) (blkOk_by (N := N_settled) (sc := defScope s_settled) (by decide +kernel)) (fun _ _ _ _ _ => (pg_name (i := 9) sc_settled.nd rfl (Or.inl rfl))) (fun _ _ _ _ _ => pts_nil) (fun _ _ _ _ _ => (pe_op op_fdivW (pv 9) (pv 7)))) pa_nil)))))))), ?_⟩
  refine ⟨_, rfl, z, _, rfl, .inr hx, fun N hN => ?_⟩
  have hlen : us.length = ps.length := by rw [rps.1, List.length_reverse]
  refine ⟨_, rfl, t, us, rfl, .inr ⟨Same_seqT (same_new hN _) ht, RT.for_ItvT (fun i σ H1 => ∃ (N : Addr) (v3 v4 v5 v6 v7 v8 v9 : Option V), σ = [some (.ref t), some (.ref z), some (.ref N), v3, v4, v5, v6, v7, v8, v9, none] ∧ Same H H1 ∧ H1 N = some (.lst ((vec n (seti n (ps.take i) x)).map V.int)) ∧ ∀ j, B (w + i * (w + 10)) (seti n (ps.take i) x j)) ⟨N, none, none, none, none, none, none, none, rfl, same_new hN _, upd_same, fun j => by rw [Nat.zero_mul, Nat.add_zero]; exact hxB j⟩ (fun i σ H1 ⟨N, v3, v4, v5, v6, v7, v8, v9, e, s, _⟩ => Same_seqT s ht) ?_ ?_⟩⟩
  · rintro i v σ H1 hi hv ⟨N, v3, v4, v5, v6, v7, v8, v9, rfl, sH, hNv, hyB⟩
    have hi' : i < ps.length := by omega
    have hrev : ps.reverse[us.length - 1 - i]? = some ps[i] := by
      rw [hlen, List.getElem?_reverse (by omega), show ps.length - 1 - (ps.length - 1 - i) = i by omega, List.getElem?_eq_getElem hi']
    obtain ⟨tp, r, rfl, htp, hr2⟩ := rps.2 _ _ _ hv hrev
    obtain ⟨hk, hpos, hrB⟩ := hp _ (List.getElem_mem hi')
    have hsn := seti_snoc (n := n) (x := x) (List.getElem?_eq_getElem hi')
    generalize ps[i] = p at *
    obtain ⟨k, row, sc⟩ := p
    generalize seti n (ps.take i) x = y at *
    have hexp : w + (w + i * (w + 10)) ≤ 1000000 := by
      have : i * (w + 10) ≤ 10 * 8010 := Nat.mul_le_mul (by omega) (by omega)
      omega
    have hr3 : SqT K H1 r ((vec n row).map V.int) := Same_seqT sH hr2
    refine ⟨tp, _, rfl, Same_seqT sH htp, rfl, _, _, rfl, _, _, rfl, _, _, rfl, rfl, ?_⟩
    refine ⟨_, rfl, _, _, rfl, rfl, _, rfl, _, _, rfl, .inl (SqL.of hNv), (k : Int) + 1, (n : Int), by rw [vec_lenV], ⟨by omega, by omega, by omega, by omega⟩, fun D hD => ?_⟩
    refine lc_m (walk_range (lo := (k : Int) + 1) (n := ((n : Int) - ((k : Int) + 1)).toNat)) RI (stb_RI (K := K)) (List.range (n - (k + 1))) (by rw [List.length_range]; omega) (by rw [List.length_range]; omega) hD (fun _ _ => trivial) (fun _ _ _ _ => ys_fn) (fun j => row (k + 1 + j) * y (k + 1 + j)) (fun c j v H2 H3 hc s1 s2 yl A B hA => ?_) (fun H2 l1 s1 hl1 rz => ?_)
    · obtain ⟨hc1, rfl⟩ := in_range hc
      rw [yl.2]
      have ec : ((k : Int) + 1 + (j : Int)).toNat = k + 1 + j := by omega
      refine ⟨rfl, lc_yes ⟨_, rfl, _, rfl, r, _, _, _, rfl, rfl, Same_seqT s2 hr3, at_pos (by omega) (by rw [ec]; exact vecV_at (by omega)), _, rfl, _, rfl, N, _, _, _, rfl, rfl, SqL.of (s2 _ _ hNv), at_pos (by omega) (by rw [ec]; exact vecV_at (by omega)), _, _, rfl, rfl, wmul (hrB _) (hyB _) hw0 (by omega) ?_, hA _ _ (fun _ _ h => h) rfl⟩⟩
      exact hexp
    · have hs : ((List.range (n - (k + 1))).map fun j => row (k + 1 + j) * y (k + 1 + j)).sum = El.rest n k row y := rest_S.symm
      have hl1' : H2 D = some (.lst (((List.range (n - (k + 1))).map fun j => row (k + 1 + j) * y (k + 1 + j)).map V.int)) := by rw [hl1, rz.ints]
      refine ⟨D, _, rfl, SqL.of hl1', ?_⟩
      rw [hs]
      have hr4 : SqT K H2 r ((vec n row).map V.int) := Same_seqT s1 hr3
      have hkk : atI ((vec n row).map V.int) (k : Int) = some (.int (row k)) := at_pos (by omega) (by rw [Int.toNat_natCast]; exact vecV_at hk)
      have hg0 : (0 : Int) < ((Nat.gcd (El.rest n k row y).natAbs (row k).natAbs : Nat) : Int) := by
        have : 0 < Nat.gcd (El.rest n k row y).natAbs (row k).natAbs := Nat.gcd_pos_of_pos_right _ (by have := hpos; simp only at this; omega)
        omega
      have hgB : B w ((Nat.gcd (El.rest n k row y).natAbs (row k).natAbs : Nat) : Int) := by
        have h1 : Nat.gcd (El.rest n k row y).natAbs (row k).natAbs ≤ (row k).natAbs := Nat.le_of_dvd (by have := hpos; simp only at this; omega) (Nat.gcd_dvd_right _ _)
        have h2 : (row k).natAbs < 2 ^ w := hrB k
        show Int.natAbs _ < 2 ^ w
        rw [Int.natAbs_natCast]
        omega
      refine ⟨_, rfl, _, rfl, _, rfl, r, _, _, _, rfl, rfl, hr4, hkk, _, _, rfl, ?_⟩
      refine ⟨_, rfl, _, rfl, r, _, _, _, rfl, rfl, hr4, hkk, _, rfl, _, _, rfl, rfl, wdiv hg0 hgB hw0 (by omega), ?_⟩
      refine ⟨_, rfl, N, rfl, ⟨_, SqL.of (s1 _ _ hNv)⟩, fun D2 hD2 => ?_⟩
      generalize hgg : ((Nat.gcd (El.rest n k row y).natAbs (row k).natAbs : Nat) : Int) = g at *
      refine lc_m (walk_list (K := K) (a := N) (xs := (vec n y).map V.int)) RI (stb_RI (K := K)) (List.range n) (by rw [vec_lenV, List.length_range]) (by rw [List.length_range]; omega) hD2 (fun H' s => s.seq (SqL.of (s1 _ _ hNv))) (fun _ _ _ _ => ys_at) (fun j => row k / g * y j) (fun c j v H3 H4 hc s3 s4 yl A B hA => ?_) (fun H3 l3 s3 hl3 rz3 => ?_)
      · obtain ⟨hc1, rfl⟩ := in_range hc
        have e := yl.2
        rw [vecV_at hc1] at e
        cases e
        exact ⟨rfl, lc_yes ⟨_, rfl, _, rfl, _, _, rfl, rfl, wmul (P09.B.div hg0 (hrB k)) (hyB _) hw0 (by omega) hexp, hA _ _ (fun _ _ h => h) rfl⟩⟩
      · have hl3' : H3 D2 = some (.lst ((vec n fun j => row k / g * y j).map V.int)) := by rw [hl3, rz3.ints]; rfl
        refine ⟨_, rfl, _, rfl, _, rfl, _, _, rfl, rfl, wdiv hg0 hgB hw0 (by omega), _, rfl, _, rfl, D2, _, _, k, rfl, rfl, hl3', by rw [vec_lenV]; unfold ixN; rw [if_pos (by omega), if_pos (by omega)]; congr 1, ?_⟩
        have sN : Same H (upd H3 D2 (.lst (((vec n fun j => row k / g * y j).map V.int).set k (.int (-El.rest n k row y / g))))) := same_at (sH.trans (s1.trans s3)) ((sH.trans s1).free hD2)
        refine ⟨D2, _, _, _, _, _, _, _, rfl, sN, ?_, fun j => ?_⟩
        · rw [upd_same, vec_set hk, hsn]
          congr 3
          refine vec_congr fun b _ => ?_
          show _ = El.sett1 n k row y b
          unfold El.sett1
          rw [show (Int.gcd (El.rest n k row y) (row k) : Int) = g from hgg]
        · rw [hsn]
          have hb := El.sett1_bound (n := n) (k := k) row y (R := 2 ^ w) (X := 2 ^ (w + i * (w + 10))) hk hpos (fun j => by
            have h : (row j).natAbs < 2 ^ w := hrB j
            have : (((2 : Nat) ^ w : Nat) : Int) = (2 : Int) ^ w := by norm_cast
            omega) (fun j => by
            have h : (y j).natAbs < 2 ^ (w + i * (w + 10)) := hyB j
            have : (((2 : Nat) ^ (w + i * (w + 10)) : Nat) : Int) = (2 : Int) ^ (w + i * (w + 10)) := by norm_cast
            omega) j
          have hR : (((2 : Nat) ^ w : Nat) : Int) = (2 : Int) ^ w := by norm_cast
          have hX : (((2 : Nat) ^ (w + i * (w + 10)) : Nat) : Int) = (2 : Int) ^ (w + i * (w + 10)) := by norm_cast
          rw [← hR, ← hX] at hb
          show (El.sett1 n k row y j).natAbs < 2 ^ (w + (i + 1) * (w + 10))
          have e1 : w + (i + 1) * (w + 10) = 10 + (w + (w + i * (w + 10))) := by
            rw [Nat.add_mul]
            omega
          rw [e1, Nat.pow_add, Nat.pow_add 2 w]
          exact ten_bound hn (Nat.two_pow_pos _) (Nat.two_pow_pos _) hb
  · rintro σ H1 ⟨N, v3, v4, v5, v6, v7, v8, v9, rfl, sH, hNv, hyB⟩
    rw [hlen, List.take_length] at hNv
    obtain ⟨y, hy⟩ : ∃ y, y = seti n ps x := ⟨_, rfl⟩
    have hd : setd n ps x = fun i => y i / gf 0 (vec n y) := by rw [hy]; rfl
    rw [← hy] at hNv h9
    have hg : 0 < gf 0 (vec n y) := by rw [h9]; decide
    have hgB : B 9000 (gf 0 (vec n y)) := by
      rw [h9]
      exact Nat.one_lt_two_pow (by decide)
    refine ⟨_, rfl, N, rfl, ⟨_, SqL.of hNv⟩, for_list (K := K) (a := N) (xs := (vec n y).map V.int) (fun i σ H' => ∃ v9 : Option V, σ = [some (.ref t), some (.ref z), some (.ref N), v3, v4, v5, v6, some (.int (gf 0 ((vec n y).take i))), v8, v9, none] ∧ H' = H1) ⟨v9, rfl, rfl⟩ (fun i σ H' _ ⟨_, _, e⟩ => by rw [e]; exact SqL.of hNv) ?_ ?_⟩
    · rintro i v σ H' hi ⟨v9, rfl, rfl⟩
      obtain ⟨m, hmi, rfl⟩ := ints_at hi
      refine ⟨_, rfl, _, rfl, _, _, rfl, some (V.int m), ?_, rfl⟩
      rw [take_one hmi, gf_snoc]
      rfl
    · rintro σ H' ⟨v9, rfl, rfl⟩
      rw [List.length_map, List.take_length]
      refine ⟨_, rfl, N, rfl, ⟨_, SqL.of hNv⟩, fun D hD => ?_⟩
      refine lc_m (walk_list (K := K) (a := N) (xs := (vec n y).map V.int)) RI (stb_RI (K := K)) (List.range n) (by rw [vec_lenV, List.length_range]) (by rw [List.length_range]; omega) hD (fun H' s => s.seq (SqL.of hNv)) (fun _ _ _ _ => ys_at) (fun j => y j / gf 0 (vec n y)) (fun c j v H3 H4 hc s3 s4 yl A B hA => ?_) (fun H2 l1 s1 hl1 rz => ?_)
      · obtain ⟨hc1, rfl⟩ := in_range hc
        have e := yl.2
        rw [vecV_at hc1] at e
        cases e
        exact ⟨rfl, lc_yes ⟨_, rfl, _, rfl, _, _, rfl, rfl, wdiv hg hgB (by decide) (by decide), hA _ _ (fun _ _ h => h) rfl⟩⟩
      · refine ⟨D, l1, rfl, .inl ⟨SqL.of hl1, fun u hu => ?_⟩⟩
        refine q u _ (sH.trans (s1.trans (same_new hu _))) ?_
        unfold TV
        rw [hd, ← show l1 = (vec n fun i => y i / gf 0 (vec n y)).map V.int from rz.ints]
        exact SqT.of upd_same
end
end P09
namespace P09
open PySem PySem.Spec PyProof.Rows L2 SX EX WK
theorem made_same {H1 H5 : Hp} {x dx : Addr} {o : HO} (h1 : H1 x = none) (h2 : H1 dx = none) (hb : But x (upd (upd H1 dx (.own x)) x o) H5) : Same H1 H5 := fun c u e => by
  have c1 : c ≠ x := fun z => by rw [z, h1] at e; cases e
  have c2 : c ≠ dx := fun z => by rw [z, h2] at e; cases e
  exact hb c u (by rw [upd_ne c1, upd_ne c2]; exact e) c1
/-- the sizes at which a form is judged -/
structure JOk (n w : Nat) (bd : Int) (M : Nat → Nat → Int) : Prop where
  n10 : n ≤ 10
  whole : Whole n M
  bd1 : 1 ≤ bd
  abs : ∀ i j, -bd ≤ M i j ∧ M i j ≤ bd
  bB : B w (El.bnd bd n)
  w0 : 0 < w
  w1 : w ≤ 4475
theorem JOk.piv {n w : Nat} {bd : Int} {M : Nat → Nat → Int} (h : JOk n w bd M) {k : Nat} {S : List Nat} {d : Int} {B' : Nat → Nat → Int} {ps : List El.Pv} (r : El.Run M k S d B' ps) (hk : k ≤ n) : ∀ p ∈ ps, p.1 < n ∧ 0 < p.2.1 p.1 ∧ (∀ j, B w (p.2.1 j)) ∧ 0 < p.2.2 ∧ B 9000 p.2.2 := fun p hp => by
  have q := r.pivots h.whole.sym bd h.bd1 h.abs p hp
  have hlt : p.1 < n := Nat.lt_of_lt_of_le q.small hk
  have m1 := El.bnd_mono h.bd1 (show p.1 + 1 ≤ n by omega)
  have m0 := El.bnd_mono h.bd1 (show p.1 ≤ n by omega)
  have p0 := El.bnd_pos h.bd1 p.1
  have p1 := El.bnd_pos h.bd1 (p.1 + 1)
  have hw : (El.bnd bd n).natAbs < 2 ^ w := h.bB
  refine ⟨hlt, q.pos, fun j => ?_, q.spos, ?_⟩
  · have a := q.row j
    show (p.2.1 j).natAbs < 2 ^ w
    omega
  · have a := q.scale
    have b := q.spos
    have c : El.bnd bd p.1 * El.bnd bd (p.1 + 1) ≤ El.bnd bd n * El.bnd bd n := Int.mul_le_mul m0 m1 (by omega) (by omega)
    show p.2.2.natAbs < 2 ^ 9000
    have e : p.2.2.natAbs ≤ (El.bnd bd n).natAbs * (El.bnd bd n).natAbs := by
      rw [← Int.natAbs_mul]
      omega
    have f : (El.bnd bd n).natAbs * (El.bnd bd n).natAbs < 2 ^ w * 2 ^ w := Nat.mul_lt_mul'' hw hw
    rw [← Nat.pow_add] at f
    have g : (2 : Nat) ^ (w + w) ≤ 2 ^ 9000 := Nat.pow_le_pow_right (by decide) (by have := h.w1; omega)
    exact Nat.lt_of_lt_of_le (Nat.lt_of_le_of_lt e f) g
theorem JOk.bad {n w : Nat} {bd : Int} {M : Nat → Nat → Int} (h : JOk n w bd M) {k : Nat} {S : List Nat} {d : Int} {B' : Nat → Nat → Int} {ps : List El.Pv} (r : El.Run M k S d B' ps) (hk : k < n) {x : El.Row} (bad : BadAt n k B' x) :
    (∀ i, B (w + 1) (x i)) ∧ gf 0 (vec n (seti n ps x)) = 1 := by
  obtain ⟨hB, _, _⟩ := run_bound h.whole h.bd1 h.abs h.bB r hk
  have two : 1 ≤ 2 ^ w := Nat.one_le_two_pow
  have facts : (∀ i, (x i).natAbs ≤ 2 ^ w) ∧ (∃ i, i < n ∧ x i = 1) ∧ ∀ i, i < k → x i = 0 := by
    rcases bad with ⟨_, rfl⟩ | ⟨_, p, hp, hpn, _, _, rfl⟩
    · refine ⟨fun i => ?_, ⟨k, hk, if_pos rfl⟩, fun i hi => ?_⟩
      · unfold El.unitP
        split
        · exact two
        · exact Nat.zero_le _
      · unfold El.unitP
        rw [if_neg (by omega)]
    · refine ⟨fun i => ?_, ⟨p, hpn, ?_⟩, fun i hi => ?_⟩
      · have hb : (B' p p).natAbs < 2 ^ w := hB p p
        unfold El.sideP
        have ha : (amt k p B').natAbs ≤ 2 ^ w := by
          unfold amt
          split <;> omega
        by_cases c1 : i = k
        · rw [if_pos c1, if_neg (by omega)]
          omega
        · rw [if_neg c1]
          split <;> omega
      · unfold El.sideP
        rw [if_neg (by omega), if_pos rfl]
        omega
      · unfold El.sideP
        rw [if_neg (by omega), if_neg (by omega)]
        omega
  obtain ⟨f1, ⟨i0, hi, hx1⟩, f0⟩ := facts
  have f2 : ∀ i, (x i).natAbs < 2 ^ (w + 1) := fun i => by
    have := f1 i
    rw [Nat.pow_succ]
    omega
  refine ⟨f2, gcd_one ?_ (gf_gcd _)⟩
  rw [← seti_setl]
  exact r.prim n (by omega) (fun y => ⟨_, gf_gcd y⟩) x (fun i hm => f0 i ((r.inv h.whole.sym).small i hm)) (El.Gcd.one ⟨i0, hi, hx1.symm⟩)
end P09
namespace P09
open PySem PySem.Spec PyProof.Rows L2 SX EX WK
theorem FormAt.same {K : PySem.W.Frag} {H H' : Hp} {C p : Addr} {n : Nat} {m : List (List Int)} {b : Int} (h : FormAt K H C p n m b) (s : Same H H') : FormAt K H' C p n m b := let ⟨dx, e, h1, h2⟩ := h; ⟨dx, e, s _ _ h1, h2.tk (WK.Same.tk s)⟩
/-- the errors of the text -/
structure Err (K : PySem.W.Frag) (mg : Str → Option Value) (cF cB cC cS cW fB : Addr) : Prop where
  g_Form : mg "Form" = some (.ref cF)
  g_BelowZero : mg "BelowZero" = some (.ref cB)
  g_CableError : mg "CableError" = some (.ref cC)
  g_SizesDiffer : mg "SizesDiffer" = some (.ref cS)
  g_BadRow : mg "BadRow" = some (.ref cW)
  o_BelowZero : OexC K cB
  i_BelowZero : PySem.W.findIn K (.ref cB) "__init__" = some (some (.ref fB))
  t_BelowZero : PySem.W.typeIn K (.ref fB) = some (.type "function")
  xB : XCls K cB
  no_BelowZero_point : PySem.W.findIn K (.ref cB) "point" = some none
  eBC : PySem.W.exmOne K (.ref cB) (.ref cC) = some true
  kBV : PySem.W.kitOne K (.ref cB) (.type "ValueError") = some true
  kBS : PySem.W.kitOne K (.ref cB) (.ref cS) = some false
  kBB : PySem.W.kitOne K (.ref cB) (.ref cB) = some true
  kBW : PySem.W.kitOne K (.ref cB) (.ref cW) = some false
section
variable {K : PySem.W.Frag} {mg : Str → Option Value} {cF cB cC cS cW fB : Addr}
theorem Err.x_BelowZero (U : Err K mg cF cB cC cS cW fB) : XfC K cB := U.xB.xf
end
/-- a point where the table M is below 0 -/
def Below (K : PySem.W.Frag) (H : Hp) (n : Nat) (M : Nat → El.Row) (z : Addr) : Prop := ∃ (k : Nat) (S : List Nat) (d : Int) (B' : Nat → El.Row) (ps : List El.Pv) (x : El.Row), k < n ∧ El.Run M k S d B' ps ∧ BadAt n k B' x ∧ TV K H z n (setd n ps x)
theorem Below.same {K : PySem.W.Frag} {H H' : Hp} {n : Nat} {M : Nat → El.Row} {z : Addr} (s : Same H H') (h : Below K H n M z) : Below K H' n M z := let ⟨k, S, d, B', ps, x, h1, h2, h3, h4⟩ := h; ⟨k, S, d, B', ps, x, h1, h2, h3, Same_seqT s h4⟩
/-- what is raised of a table below 0, and of two sizes -/
def BelX (K : PySem.W.Frag) (cB : Addr) (n : Nat) (M : Nat → El.Row) (H : Hp) (E : XK) : Prop := ∀ (z d : Addr) H', Same H H' → Below K H' n M z → H' d = some (.xd [("point", .ref z)]) → E (.ref cB) (some d) H'
theorem BelX.same {K : PySem.W.Frag} {cB : Addr} {n : Nat} {M : Nat → El.Row} {H H' : Hp} {E : XK} (h : BelX K cB n M H E) (s : Same H H') : BelX K cB n M H' E := fun z d H2 s2 => h z d H2 (s.trans s2)
section
variable {P : Program} {w : World} {K : PySem.W.Frag} {mg : Str → Option Value} {base : Heap} {f : Addr} {fd : FuncData} {cR cF cB cC cS cW fB : Addr} {fdB fdN : FuncData}
def spInitP (K : PySem.W.Frag) (C : Addr) : Sp := fun vs H Q _ => ∃ (a z : Addr) (us : List V), vs = [.ref a, .ref z] ∧ SqT K H z us ∧ H a = some (exo a C none) ∧ ∀ dx, H dx = none → dx ≠ a → Q .non (upd (upd H dx (exd dx [("point", .ref z)])) a (exo a C (some dx)))
abbrev s_iBZ : Stmt := mth 8 0
abbrev N_iBZ : List Str := ["self", "point"]
theorem sc_iBZ : FnScope N_iBZ ["self", "point"] (defScope s_iBZ) := ⟨rfl, rfl, rfl, by decide +kernel, rfl, by decide +kernel, by decide +kernel⟩
theorem ok_iBZ (F : Fun K "__init__" "BelowZero.__init__" s_iBZ f fd) (T : Txt mg) (U : Err K mg cF cB cC cS cW fB) : FnOk P w K mg base CX0 1 f fd ["self", "point"] (spInitP K cB) := by
  refine F.ok sc_iBZ (fun vs H Q E h => ?_) (fun cdv A outer s H vs Q E hr h => ?_)
  · obtain ⟨a, z, us, rfl, _⟩ := h
    rfl
  obtain ⟨a, z, us, rfl, hz, ha, q⟩ := h
  refine ⟨_, (pss_one (ps_ost (pv 0) (pe_callTy call_tuple_of (by rfl) T.b_tuple (by decide +kernel) (pa_cons (pv 1) pa_nil)))), ?_⟩
  refine ⟨_, rfl, z, _, rfl, .inr ⟨hz, ?_⟩⟩
  exact ⟨_, rfl, a, cB, rfl, U.o_BelowZero, U.no_BelowZero_point, .inl ⟨ha, q⟩⟩
def spChecked (K : PySem.W.Frag) (cF cB : Addr) : Sp := fun vs H Q E => ∃ (p : Addr) (n w : Nat) (b bd : Int) (M : Nat → Nat → Int), vs = [.ref p] ∧ FormAt K H cF p n (mat n M) b ∧ JOk n w bd M ∧
  (∀ t us H' S d B' ps, Same H H' → El.Run M n S d B' ps → SqT K H' t us → Rs (PvAt K n) H' us ps.reverse → Q (.ref t) H') ∧ BelX K cB n M H E
abbrev s_checked : Stmt := top 33
abbrev N_checked : List Str := ["form", "pivots", "point"]
theorem sc_checked : FnScope N_checked ["form"] (defScope s_checked) := ⟨rfl, rfl, rfl, by decide +kernel, rfl, by decide +kernel, by decide +kernel⟩
theorem ok_checked (F : Fun K "checked" "checked" s_checked f fd) (T : Txt mg) (U : Err K mg cF cB cC cS cW fB) (O : Obs K cF cR) (IN_BelowZero : FnOk P w K mg base CX0 1 fB fdB ["self", "point"] (spInitP K cB)) (B_BelowZero : Binds K fdB ["self", "point"] []) (C_eliminated : Cal P w K mg base 3 "eliminated" ["entries"] (spElim K)) (C_settled : Cal P w K mg base 1 "settled" ["pivots", "point"] (spSettled K)) : FnOk P w K mg base (L2N.CX P w) 5 f fd ["form"] (spChecked K cF cB) := by
  refine okR F sc_checked (fun vs H Q E h => ?_) (fun cdv A outer s H vs Q E hr h => ?_)
  · obtain ⟨p, n, w, b, bd, M, rfl, _⟩ := h
    rfl
  obtain ⟨p, n, w, b, bd, M, rfl, ⟨dx, e, hf, hz⟩, jo, q1, q2⟩ := h
  refine ⟨_, (pss_cons (ps_asg (pe_cal C_eliminated (hr.mono (by omega)) rfl (pa_cons (pe_fld (pv 0) rfl) pa_nil)) (pg_tup rfl (pgs_cons (pg_name (i := 1) sc_checked.nd rfl (Or.inl rfl)) (pgs_cons (pg_name (i := 2) sc_checked.nd rfl (Or.inl rfl)) pgs_nil))))
  (pss_cons (ps_if (pt_cmpR op_notN (pv 2) pe_non (nomark _)) (pss_one (L2N.ps_raise rfl (L2N.takes_of rfl rfl rfl rfl) (pmkI U.o_BelowZero U.i_BelowZero U.t_BelowZero IN_BelowZero (hr.mono (by omega)) B_BelowZero passN rfl U.g_BelowZero (pa_cons (pe_cal C_settled (hr.mono (by omega)) rfl (pa_cons (pv 1) (pa_cons (pv 2) pa_nil))) pa_nil)))) pss_nil)
  (pss_one (ps_ret (pv 1))))), ?_⟩
  refine ⟨_, rfl, p, cF, dx, _, _, rfl, hf, O.clF, O.F_entries, rfl, _, n, w, bd, M, rfl, hz, by have := jo.n10; omega, jo.whole, jo.bd1, jo.abs, jo.bB, jo.w0, by have := jo.w1; omega, fun r t us H1 S d B' ps s1 run hr1 ht1 rps => ?_, fun r t z us H1 k S d B' ps x s1 hk run bad hr1 ht1 rps htv => ?_⟩
  · refine ⟨r, _, rfl, hr1, rfl, _, _, rfl, _, _, rfl, rfl, ?_⟩
    refine ⟨_, rfl, rfl, _, rfl, ifF (by rw [decide_eq_true rfl]; rfl) ⟨_, rfl, ?_⟩⟩
    exact q1 t us H1 S d B' ps s1 run ht1 rps
  · refine ⟨r, _, rfl, hr1, rfl, _, _, rfl, _, _, rfl, rfl, ?_⟩
    refine ⟨_, rfl, rfl, _, rfl, ifT (by rw [decide_eq_false (fun e => by cases e)]; rfl) ?_⟩
    obtain ⟨hxB, hi0⟩ := jo.bad run hk bad
    refine ⟨_, rfl, _, rfl, t, z, n, w + 1, us, ps, x, rfl, ht1, rps, htv, jo.n10, ?_, fun p hp => ?_, hxB, by omega, by have := jo.w1; omega, hi0, fun r3 H3 s3 hv => ?_⟩
    · have := run.many
      have l := run.leads
      rw [← List.length_map (as := ps) (f := (·.1)), l]
      have := jo.n10
      omega
    · obtain ⟨g1, g2, g3, _⟩ := jo.piv run (by omega) p hp
      exact ⟨g1, g2, fun j => (g3 j).mono (by omega)⟩
    · refine ⟨by show 1 ≤ 1000; decide, fun a ha => ?_⟩
      refine ⟨a, r3, _, rfl, Same_seqT (same_new ha _) hv, upd_same, fun dx hdx hne => ⟨rfl, dx, [("point", V.ref r3)], upd_same, ?_, ?_, ?_⟩⟩
      · rw [upd_ne hne, upd_same]
      · have := hdx
        rw [upd_ne hne] at this
        exact this
      · have key : ∀ H5, Same H3 H5 → H5 dx = some (.xd [("point", V.ref r3)]) → E (.ref cB) (some dx) H5 := fun H5 sx e => q2 r3 dx H5 (s1.trans (s3.trans sx)) ⟨k, S, d, B', ps, x, hk, run, bad, Same_seqT sx hv⟩ e
        refine key _ (fun b o e => ?_) upd_same
        have h1 : b ≠ a := ne_of_none e ha
        have h2 : b ≠ dx := ne_of_none e (by
          have := hdx
          rw [upd_ne hne] at this
          exact this)
        rw [upd_ne h2, del_ne h1, upd_ne h1, upd_ne h2, upd_ne h1]
        exact e
end
end P09
namespace P09
open PySem PySem.Spec PyProof.Rows L2 SX EX WK
theorem stb_PvAt' {K : PySem.W.Frag} {n : Nat} {H H' : Hp} {vs : List V} {ps : List El.Pv} (h : Rs (PvAt K n) H vs ps) (s : Same H H') : Rs (PvAt K n) H' vs ps := h.tk stb_PvAt fun _ _ h => Same_seqT s h
section
variable {P : Program} {w : World} {K : PySem.W.Frag} {mg : Str → Option Value} {base : Heap} {f : Addr} {fd : FuncData} {cF cR cB cN cC cT cS fB fN : Addr} {fdB fdN : FuncData}
def spLeadsF (K : PySem.W.Frag) (cF cB : Addr) : Sp := fun vs H Q E => ∃ (p : Addr) (n w : Nat) (b bd : Int) (M : Nat → Nat → Int), vs = [.ref p] ∧ FormAt K H cF p n (mat n M) b ∧ JOk n w bd M ∧
  (∀ t H' S d B' ps, Same H H' → El.Run M n S d B' ps → SqT K H' t ((ps.reverse.map fun p => (p.1 : Int)).map V.int) → Q (.ref t) H') ∧ BelX K cB n M H E
abbrev s_leads : Stmt := top 34
abbrev N_leads : List Str := ["form", "pivot"]
theorem sc_leads : FnScope N_leads ["form"] (defScope s_leads) := ⟨rfl, rfl, rfl, by decide +kernel, rfl, by decide +kernel, by decide +kernel⟩
theorem ok_leads (F : Fun K "leads" "leads" s_leads f fd) (T : Txt mg) (C_checked : CalX P w K mg base 5 "checked" ["form"] (spChecked K cF cB)) : FnOk P w K mg base (L2N.CX P w) 6 f fd ["form"] (spLeadsF K cF cB) := by
  refine okR F sc_leads (fun vs H Q E h => ?_) (fun cdv A outer s H vs Q E hr h => ?_)
  · obtain ⟨p, n, w, b, bd, M, rfl, _⟩ := h
    rfl
  obtain ⟨p, n, w, b, bd, M, rfl, hF, jo, q1, q2⟩ := h
  refine ⟨_, (pss_one (ps_ret (pe_callTy call_tuple_of (by rfl) T.b_tuple (by decide +kernel) (pa_cons (pe_lc (own := [("pivot", 1)]) (g := gName 1) (tt := tYes) (by rfl) sc_leads.nd (pi_tup (pe_calX C_checked (hr.mono (by omega)) rfl (L2N.takes_of rfl rfl rfl rfl) (pa_cons (pv 0) pa_nil))) (blkOk_by (N := N_leads) (sc := defScope s_leads) (by decide +kernel)) (fun _ _ _ _ _ => (pg_name (i := 1) sc_leads.nd rfl (Or.inl rfl))) (fun _ _ _ _ _ => pts_nil) (fun _ _ _ _ _ => (pe_ix (ix_tupK (K := K) rfl) (pv 1) pe_int (fun _ _ => rfl)))) pa_nil)))), ?_⟩
  refine ⟨_, rfl, p, n, w, b, bd, M, rfl, hF, jo, fun t us H1 S d B' ps s1 run ht rps => ?_, q2⟩
  refine ⟨t, rfl, ⟨_, ht⟩, fun D hD => ?_⟩
  have hlen : ps.reverse.length ≤ n := by
    have := run.many
    rw [← run.leads, List.length_map] at this
    rw [List.length_reverse]
    exact this
  have n10 := jo.n10
  refine lc_m (walk_tup (K := K) (a := t) (xs := us)) RI (stb_RI (K := K)) ps.reverse (by rw [rps.1]) (by omega) hD (fun H' s => Same_seqT s ht) (fun _ _ _ _ => ys_at) (fun p => (p.1 : Int)) (fun c p' v H2 H3 hc s2 s3 yl A B hA => ?_) (fun H2 l1 s2 hl1 rz => ?_)
  · obtain ⟨q1', q2', rfl, hq, _⟩ := rps.2 _ _ _ yl.2 hc
    exact ⟨rfl, lc_yes ⟨_, rfl, q1', _, 0, _, rfl, rfl, Same_seqT s3 hq, at_pos (by decide) rfl, hA _ _ (fun _ _ h => h) rfl⟩⟩
  · refine ⟨D, l1, rfl, .inl ⟨SqL.of hl1, fun u hu => ?_⟩⟩
    refine q1 u _ S d B' ps (s1.trans (s2.trans (same_new hu _))) run ?_
    rw [← rz.ints]
    exact SqT.of upd_same
end
end P09
namespace PySem.El
/-- indexes below a, the newest first -/
def rs (a : Nat) : List Nat := (List.range a).reverse
theorem rs_succ (a : Nat) : rs (a + 1) = a :: rs a := by
  unfold rs
  rw [List.range_succ, List.reverse_append]
  rfl
theorem mem_rs {a s : Nat} : s ∈ rs a ↔ s < a := by
  unfold rs
  rw [List.mem_reverse, List.mem_range]
theorem rs_length (a : Nat) : (rs a).length = a := by
  unfold rs
  rw [List.length_reverse, List.length_range]
/-- a block of a table beside further columns -/
def Au (A : Nat → Row) (l : Nat → Nat) (r : Nat) (C : Nat → Row) : Nat → Row := fun i j =>
  if i < r then (if j < r then A (l i) (l j) else C i (j - r)) else (if j < r then C j (i - r) else 0)
theorem Au_sym {A : Nat → Row} (hA : ∀ i j, A i j = A j i) (l : Nat → Nat) (r : Nat) (C : Nat → Row) : ∀ i j, Au A l r C i j = Au A l r C j i := fun i j => by
  unfold Au
  by_cases c1 : i < r <;> by_cases c2 : j < r <;> simp [c1, c2, hA]
theorem Run.aug {A : Nat → Row} {k S d B ps} (h : Run A k S d B ps) (l : Nat → Nat) (r : Nat) (C : Nat → Row) (hl : ∀ i j, i < j → j < r → l i < l j) :
    ∀ a, a ≤ r → S = (rs a).map l → ∃ B' ps', Run (Au A l r C) a (rs a) d B' ps' ∧ ∀ i j, a ≤ i → i < r → a ≤ j → j < r → B' i j = B (l i) (l j) := by
  induction h with
  | begin =>
    intro a _ e
    have h0 : a = 0 := by
      have := congrArg List.length e
      rw [List.length_map, rs_length] at this
      exact this.symm
    subst h0
    refine ⟨Au A l r C, [], .begin, fun i j _ hi _ hj => ?_⟩
    unfold Au
    rw [if_pos hi, if_pos hj]
  | skip _ _ ih => exact ih
  | @pivot k S d B ps h hp ih =>
    intro a ha e
    cases a with
    | zero => cases e
    | succ a =>
      rw [rs_succ, List.map_cons] at e
      have e1 := (List.cons.inj e).1
      have e2 := (List.cons.inj e).2
      obtain ⟨B', ps', run', hB⟩ := ih a (by omega) e2
      have hk : B' a a = B k k := by rw [hB a a (by omega) (by omega) (by omega) (by omega), e1]
      have hp' : 0 < B' a a := by rw [hk]; exact hp
      have := run'.pivot hp'
      rw [← rs_succ] at this
      refine ⟨_, _, by rw [← hk]; exact this, fun i j hi hir hj hjr => ?_⟩
      unfold redu
      rw [if_pos ⟨by omega, by omega⟩, if_pos ⟨by rw [e1]; exact hl a i (by omega) hir, by rw [e1]; exact hl a j (by omega) hjr⟩, hk]
      rw [hB i j (by omega) hir (by omega) hjr, hB a i (by omega) (by omega) (by omega) hir, hB a j (by omega) (by omega) (by omega) hjr, e1]
/-- a sum over a list of indexes -/
theorem sm_rs (r : Nat) (f : Nat → Int) : ((rs r).map f).sum = sm r f := by
  induction r with
  | zero => rfl
  | succ r ih =>
    rw [rs_succ, List.map_cons, List.sum_cons, ih]
    show _ = sm r f + f r
    omega
/-- what spans is told by the unit columns -/
theorem Sp.unit {M : Nat → Row} {r : Nat} (hu : ∀ s t, s < r → t < r → M s (r + t) = if s = t then 1 else 0) {w : Row} (h : Sp ((rs r).map M) w) : ∀ x, w x = sm r fun s => w (r + s) * M s x := by
  induction h with
  | zero => intro x; simp [sm_zero]
  | add w k v _ hv ih =>
    intro x
    obtain ⟨t, ht, rfl⟩ := List.mem_map.1 hv
    have htr := mem_rs.1 ht
    show w x + k * M t x = sm r fun s => (w (r + s) + k * M t (r + s)) * M s x
    rw [ih x]
    have e : (sm r fun s => (w (r + s) + k * M t (r + s)) * M s x) = (sm r fun s => w (r + s) * M s x) + sm r fun s => if s = t then k * M s x else 0 := by
      rw [← sm_add]
      apply sm_congr
      intro s hs
      rw [hu t s htr hs]
      by_cases c : s = t
      · rw [if_pos c.symm, if_pos c]; grind
      · rw [if_neg (fun z => c z.symm), if_neg c]; grind
    rw [e, sm_one (fun s => k * M s x) htr]
/-- the rows behind the block: combinations of the block's rows -/
theorem Run.comb {M : Nat → Row} (hM : ∀ i j, M i j = M j i) {r : Nat} {d : Int} {B : Nat → Row} {ps : List Pv} (h : Run M r (rs r) d B ps) (hu : ∀ s t, s < r → t < r → M s (r + t) = if s = t then 1 else 0) (hz : ∀ i j, r ≤ i → r ≤ j → M i j = 0) {i : Nat} (hi : r ≤ i) (x : Nat) :
    d * M i x + sm r (fun s => B i (r + s) * M s x) = B i x := by
  obtain ⟨m, w, hm, hw, he⟩ := (h.inv hM).span i hi
  have hc : ∀ s, w (r + s) = m * B i (r + s) := fun s => by
    have := he (r + s)
    rw [hz i (r + s) hi (by omega), Int.mul_zero, Int.mul_zero, Int.zero_add] at this
    exact this
  have h1 := hw.unit hu x
  have h2 := he x
  have h3 : w x = m * sm r (fun s => B i (r + s) * M s x) := by
    rw [h1, ← sm_mul]
    exact sm_congr fun s _ => by rw [hc s, Int.mul_assoc]
  rw [h3, ← Int.mul_add] at h2
  exact Int.eq_of_mul_eq_mul_left hm h2
end PySem.El
namespace PySem.El
/-- unit columns beside a block of r rows -/
structure Beside (M : Nat → Row) (r : Nat) : Prop where
  sym : ∀ i j, M i j = M j i
  one : ∀ s t, s < r → t < r → M s (r + t) = if s = t then 1 else 0
  zero : ∀ i j, r ≤ i → r ≤ j → M i j = 0
/-- the table while its first k columns are cleared -/
def GJ (B : Nat → Row) (r k : Nat) (d : Int) : Nat → Row := fun i j =>
  if i < k then (if j < k then (if i = j then d else 0) else -B (r + i) j) else B i j
/-- one clearing -/
def clr (T : Nat → Row) (k : Nat) (d : Int) : Nat → Row := fun i j =>
  if i = k then T k j else (T k k * T i j - T i k * T k j) / d
theorem Run.units {M : Nat → Row} {r : Nat} (hM : Beside M r) {k S d B ps} (h : Run M k S d B ps) : ∀ s, k ≤ s → s < r → ∀ i, k ≤ i → B i (r + s) = d * M i (r + s) := by
  induction h with
  | begin => intro s _ _ i _; rw [Int.one_mul]
  | skip _ _ ih => intro s hs hr i hi; exact ih s (by omega) hr i (by omega)
  | @pivot k S d B ps h hp ih =>
    intro s hs hr i hi
    have hd := (h.inv hM.sym).dpos
    have e1 := ih s (by omega) hr i (by omega)
    have e2 := ih s (by omega) hr k (by omega)
    rw [hM.one k s (by omega) hr, if_neg (by omega), Int.mul_zero] at e2
    unfold redu
    rw [if_pos ⟨by omega, by omega⟩, e1, e2, Int.mul_zero, Int.sub_zero, Int.mul_left_comm, Int.mul_ediv_cancel_left _ (by omega)]
theorem Run.cleared {M : Nat → Row} {r : Nat} (hM : Beside M r) {k : Nat} {d : Int} {B ps} (h : Run M k (rs k) d B ps) (hp : 0 < B k k) (hk : k < r) {i : Nat} (hi : i < r) (j : Nat) :
    clr (GJ B r k d) k d i j = GJ (redu B k d) r (k + 1) (B k k) i j := by
  have hI := h.inv hM.sym
  have hd := hI.dpos
  have low : ∀ i j, j < k → B i j = 0 := hI.low
  have Tk : ∀ j, GJ B r k d k j = B k j := fun j => by unfold GJ; rw [if_neg (by omega)]
  unfold clr
  rw [Tk, Tk]
  by_cases c1 : i = k
  · subst c1
    rw [if_pos rfl]
    unfold GJ
    rw [if_pos (by omega)]
    by_cases c2 : j < i
    · rw [if_pos (by omega), if_neg (by omega), low i j c2]
    · by_cases c3 : j = i
      · subst c3
        rw [if_pos (by omega), if_pos rfl]
      · rw [if_neg (by omega)]
        have e := hI.exact hp (r + i) j
        have u1 := h.units hM i (by omega) hi j (by omega)
        have u2 := h.units hM i (by omega) hi i (by omega)
        have z : M j (r + i) = 0 := by
          by_cases c : j < r
          · rw [hM.one j i c hi, if_neg c3]
          · exact hM.zero j (r + i) (by omega) (by omega)
        rw [hM.one i i hi hi, if_pos rfl, Int.mul_one] at u2
        rw [z, Int.mul_zero] at u1
        rw [hI.sym (r + i) j, u1, u2] at e
        have : d * redu B i d (r + i) j = d * (-B i j) := by rw [e]; grind
        have := Int.eq_of_mul_eq_mul_left (by omega) this
        rw [this, Int.neg_neg]
  · rw [if_neg c1]
    by_cases c2 : i < k
    · have Ti : ∀ j, GJ B r k d i j = if j < k then (if i = j then d else 0) else -B (r + i) j := fun j => by unfold GJ; rw [if_pos c2]
      have Ri : GJ (redu B k d) r (k + 1) (B k k) i j = if j < k + 1 then (if i = j then B k k else 0) else -redu B k d (r + i) j := by unfold GJ; rw [if_pos (by omega)]
      rw [Ri, Ti, Ti, if_neg (show ¬ k < k by omega)]
      by_cases c3 : j < k
      · rw [if_pos c3, if_pos (show j < k + 1 by omega), low k j c3, Int.mul_zero, Int.sub_zero]
        by_cases c4 : i = j
        · rw [if_pos c4, if_pos c4, Int.mul_ediv_cancel _ (by omega)]
        · rw [if_neg c4, if_neg c4, Int.mul_zero, Int.zero_ediv]
      · rw [if_neg c3]
        by_cases c4 : j = k
        · subst c4
          rw [if_pos (show j < j + 1 by omega), if_neg c1]
          have : B j j * -B (r + i) j - -B (r + i) j * B j j = 0 := by grind
          rw [this, Int.zero_ediv]
        · rw [if_neg (show ¬ j < k + 1 by omega)]
          have e := hI.exact hp (r + i) j
          have : B k k * -B (r + i) j - -B (r + i) k * B k j = d * (-redu B k d (r + i) j) := by
            rw [show d * (-redu B k d (r + i) j) = -(d * redu B k d (r + i) j) from Int.mul_neg _ _, e, hI.sym k (r + i)]
            grind
          rw [this, Int.mul_ediv_cancel_left _ (by omega)]
    · have Ti : ∀ j, GJ B r k d i j = B i j := fun j => by unfold GJ; rw [if_neg c2]
      have Ri : GJ (redu B k d) r (k + 1) (B k k) i j = redu B k d i j := by unfold GJ; rw [if_neg (by omega)]
      rw [Ri, Ti, Ti]
      unfold redu
      by_cases c3 : k < j
      · rw [if_pos ⟨by omega, c3⟩, hI.sym k i]
      · rw [if_neg (by omega)]
        by_cases c4 : j = k
        · subst c4
          rw [Int.mul_comm, Int.sub_self, Int.zero_ediv]
        · rw [low i j (by omega), low k j (by omega), Int.mul_zero, Int.mul_zero, Int.sub_self, Int.zero_ediv]
/-- the steps of an elimination all of whose indexes are leads -/
theorem Run.steps {M : Nat → Row} (hM : ∀ i j, M i j = M j i) {r : Nat} : ∀ {d B ps}, Run M r (rs r) d B ps → ∀ k, k < r → ∃ d' B' ps', Run M k (rs k) d' B' ps' ∧ 0 < B' k k := by
  induction r with
  | zero => intro _ _ _ _ k hk; omega
  | succ r ih =>
    intro d B ps h k hk
    have key : ∃ d' B' ps', Run M r (rs r) d' B' ps' ∧ 0 < B' r r := by
      rw [rs_succ] at h
      cases h with
      | skip h' _ =>
        have := (h'.inv hM).small r (List.mem_cons_self ..)
        omega
      | pivot h' hp => exact ⟨_, _, _, h', hp⟩
    by_cases e : k = r
    · rw [e]; exact key
    · obtain ⟨_, _, _, h', _⟩ := key
      exact ih h' k (by omega)
/-- what the clearing leaves is an inverse, up to d -/
theorem Run.inverse {M : Nat → Row} {r : Nat} (hM : Beside M r) {d : Int} {B ps} (h : Run M r (rs r) d B ps) {i x : Nat} (hi : i < r) (hx : x < r) :
    sm r (fun s => -B (r + i) (r + s) * M s x) = if i = x then d else 0 := by
  have e := h.comb hM.sym hM.one hM.zero (i := r + i) (by omega) x
  rw [(h.inv hM.sym).low (r + i) x hx, hM.sym (r + i) x, hM.one x i hx hi] at e
  have : sm r (fun s => -B (r + i) (r + s) * M s x) = -sm r (fun s => B (r + i) (r + s) * M s x) := by
    rw [show (fun s => -B (r + i) (r + s) * M s x) = fun s => (-1) * (B (r + i) (r + s) * M s x) from funext fun s => by grind, sm_mul]
    grind
  rw [this]
  by_cases c : i = x
  · rw [if_pos c.symm] at e
    rw [if_pos c]
    omega
  · rw [if_neg (Ne.symm c)] at e
    rw [if_neg c]
    omega
/-- leads stand in falling order -/
theorem Run.fall {A : Nat → Row} {k S d B ps} (h : Run A k S d B ps) : S.Pairwise (fun a b => b < a) ∧ ∀ s ∈ S, s < k := by
  induction h with
  | begin => exact ⟨.nil, by simp⟩
  | skip _ _ ih => exact ⟨ih.1, fun s hs => by have := ih.2 s hs; omega⟩
  | pivot _ _ ih =>
    refine ⟨List.pairwise_cons.2 ⟨fun s hs => ih.2 s hs, ih.1⟩, fun s hs => ?_⟩
    rcases List.mem_cons.1 hs with e | m
    · omega
    · have := ih.2 s m; omega
/-- the i-th lead -/
def led (S : List Nat) (i : Nat) : Nat := S.reverse.getD i 0
theorem led_map (S : List Nat) : (rs S.length).map (led S) = S := by
  have h : ∀ T : List Nat, (List.range T.length).map (fun i => T.getD i 0) = T := fun T => by
    refine List.ext_getElem? fun i => ?_
    rw [List.getElem?_map]
    by_cases hi : i < T.length
    · rw [List.getElem?_range hi]
      simp [List.getElem?_eq_getElem hi, hi]
    · rw [List.getElem?_eq_none (by simpa using hi), List.getElem?_eq_none (by omega)]
      rfl
  unfold rs led
  have := h S.reverse
  rw [List.length_reverse] at this
  rw [List.map_reverse, this, List.reverse_reverse]
theorem led_mem {S : List Nat} {i : Nat} (hi : i < S.length) : led S i ∈ S := by
  unfold led
  rw [← List.mem_reverse, List.getD_eq_getElem?_getD, List.getElem?_eq_getElem (by rw [List.length_reverse]; exact hi)]
  exact List.getElem_mem _
theorem led_of {S : List Nat} {s : Nat} (hs : s ∈ S) : ∃ i, i < S.length ∧ led S i = s := by
  rw [← List.mem_reverse] at hs
  obtain ⟨i, hi, e⟩ := List.getElem_of_mem hs
  refine ⟨i, by rw [List.length_reverse] at hi; exact hi, ?_⟩
  unfold led
  rw [List.getD_eq_getElem?_getD, List.getElem?_eq_getElem hi]
  exact e
theorem led_mono {S : List Nat} (h : S.Pairwise (fun a b => b < a)) {i j : Nat} (hij : i < j) (hj : j < S.length) : led S i < led S j := by
  have h2 : S.reverse.Pairwise (fun a b => a < b) := by rw [List.pairwise_reverse]; exact h
  unfold led
  have l : S.reverse.length = S.length := List.length_reverse
  rw [List.getD_eq_getElem?_getD, List.getD_eq_getElem?_getD, List.getElem?_eq_getElem (by omega), List.getElem?_eq_getElem (by omega)]
  exact List.pairwise_iff_getElem.1 h2 i j (by omega) (by omega) hij
end PySem.El
namespace PySem.El
theorem sm_swap (n m : Nat) (f : Nat → Nat → Int) : sm n (fun i => sm m (fun j => f i j)) = sm m (fun j => sm n (fun i => f i j)) := by
  induction n with
  | zero => simp [sm, sm_zero]
  | succ n ih => simp only [sm]; rw [ih, ← sm_add]
/-- a sum over the leads alone -/
theorem sm_leads {l : Nat → Nat} {f : Nat → Int} : ∀ {n r : Nat}, (∀ i, i < r → l i < n) → (∀ i j, i < j → j < r → l i < l j) → (∀ j, j < n → (∀ i, i < r → l i ≠ j) → f j = 0) → sm n f = sm r (fun i => f (l i)) := fun {n} => by
  induction n with
  | zero =>
    intro r h _ _
    cases r with
    | zero => rfl
    | succ r => exact absurd (h 0 (by omega)) (by omega)
  | succ n ih =>
    intro r h hm h0
    cases r with
    | zero =>
      show sm n f + f n = 0
      rw [h0 n (by omega) (fun i hi => by omega), ih (r := 0) (fun i hi => by omega) (fun i j _ hj => by omega) (fun j hj _ => h0 j (by omega) (fun i hi => by omega))]
      rfl
    | succ r =>
      by_cases e : l r = n
      · show sm n f + f n = sm r _ + f (l r)
        rw [e, ih (r := r) (fun i hi => by have := hm i r hi (by omega); omega) (fun i j a b => hm i j a (by omega)) (fun j hj hne => h0 j (by omega) (fun i hi => by
          by_cases c : i = r
          · rw [c]; omega
          · exact hne i (by omega)))]
      · have hlt : ∀ i, i < r + 1 → l i < n := fun i hi => by
          have a := h i hi
          by_cases c : i = r
          · rw [c] at a ⊢; omega
          · have := hm i r (by omega) (by omega)
            have := h r (by omega)
            omega
        show sm n f + f n = _
        rw [h0 n (by omega) (fun i hi => by have := hlt i hi; omega), ih (r := r + 1) hlt hm (fun j hj hne => h0 j (by omega) hne)]
        omega
theorem lin_congr {n : Nat} {r x r' x' : Row} (h : ∀ j, j < n → r j * x j = r' j * x' j) : lin n r x = lin n r' x' := sm_congr h
theorem lin_comb (n : Nat) (r x y : Row) (a b : Int) : lin n r (fun j => a * x j + b * y j) = a * lin n r x + b * lin n r y := by
  unfold lin
  rw [← sm_mul, ← sm_mul, ← sm_add]
  exact sm_congr fun j _ => by grind
theorem lin_comm (n : Nat) (r x : Row) : lin n r x = lin n x r := sm_congr fun j _ => Int.mul_comm _ _
/-- what spans tells 0 where the spanning rows do -/
theorem Sp.lin {rows : List Row} {w : Row} (h : Sp rows w) {n : Nat} {z : Row} (hz : ∀ r ∈ rows, lin n r z = 0) : lin n w z = 0 := by
  induction h with
  | zero => unfold El.lin; rw [sm_congr (g := fun _ => 0) (fun j _ => by simp), sm_zero]
  | add w k v _ hv ih =>
    have : El.lin n (comb w k v) z = El.lin n w z + k * El.lin n v z := by
      unfold El.lin
      rw [← sm_mul, ← sm_add]
      exact sm_congr fun j _ => by simp only [comb]; grind
    rw [this, ih, hz v hv]
    simp
/-- no point but 0 that stands on leads alone is told 0 by all rows -/
theorem Run.ker {A : Nat → Row} (hA : ∀ i j, A i j = A j i) {k S d B ps} (h : Run A k S d B ps) {n : Nat} (hk : k ≤ n) : ∀ {z : Row}, (∀ i, i < n → lin n (A i) z = 0) → (∀ i, i ∉ S → z i = 0) → ∀ i, z i = 0 := by
  induction h with
  | begin => intro z _ h0 i; exact h0 i (by simp)
  | skip _ _ ih => intro z hz h0; exact ih (by omega) hz h0
  | @pivot k S d B ps h hp ih =>
    intro z hz h0
    have hI := h.inv hA
    obtain ⟨m, w, hm, hw, he⟩ := hI.span k (Nat.le_refl k)
    have e1 : lin n w z = 0 := hw.lin fun r hr => by
      obtain ⟨s, hs, rfl⟩ := List.mem_map.1 hr
      exact hz s (by have := hI.small s hs; omega)
    have e2 : m * lin n (B k) z = 0 := by
      have : m * lin n (B k) z = m * d * lin n (A k) z + lin n w z := by
        unfold lin
        rw [← sm_mul, ← sm_mul, ← sm_add]
        exact sm_congr fun j _ => by have := he j; grind
      rw [this, hz k (by omega), e1]
      simp
    have e3 : lin n (B k) z = 0 := by
      rcases Int.mul_eq_zero.1 e2 with c | c
      · exact absurd c hm
      · exact c
    have e4 : lin n (B k) z = B k k * z k := by
      unfold lin
      rw [← sm_one (fun j => B k j * z j) (show k < n by omega)]
      refine sm_congr fun j _ => ?_
      by_cases c : j = k
      · rw [if_pos c]
      · rw [if_neg c]
        by_cases c2 : j < k
        · rw [hI.low k j c2]; simp
        · rw [h0 j (fun m => by
            rcases List.mem_cons.1 m with e | m
            · exact c e
            · have := hI.small j m; omega)]
          simp
    rw [e3] at e4
    have e5 : z k = 0 := by
      rcases Int.mul_eq_zero.1 e4.symm with c | c
      · omega
      · exact c
    refine ih (by omega) hz fun i hi => ?_
    by_cases c : i = k
    · rw [c]; exact e5
    · exact h0 i fun m => by
        rcases List.mem_cons.1 m with e | m
        · exact c e
        · exact hi m
/-- a point beside the leads that all rows tell 0 -/
structure Ker (n : Nat) (A : Nat → Row) (S : List Nat) (k : Nat) (y : Row) : Prop where
  zero : ∀ i, i < n → lin n (A i) y = 0
  pos : 0 < y k
  on : ∀ i, i ∉ S → i ≠ k → y i = 0
theorem Ker.more {n : Nat} {A : Nat → Row} {S S' : List Nat} {k : Nat} {y : Row} (h : Ker n A S k y) (hs : ∀ s ∈ S, s ∈ S') : Ker n A S' k y := ⟨h.zero, h.pos, fun i hi hne => h.on i (fun m => hi (hs i m)) hne⟩
theorem Ker.same {n : Nat} {A : Nat → Row} (hA : ∀ i j, A i j = A j i) {S d B ps} (h : Run A n S d B ps) {k : Nat} {y z : Row} (hy : Ker n A S k y) (hz : Ker n A S k z) (w : Row) : z k * lin n w y = y k * lin n w z := by
  have e : ∀ i, z k * y i + (-(y k)) * z i = 0 := h.ker hA (Nat.le_refl n) (z := fun i => z k * y i + (-(y k)) * z i) (fun i hi => by
    rw [lin_comb, hy.zero i hi, hz.zero i hi]; simp) (fun i hi => by
    by_cases c : i = k
    · rw [c]; grind
    · rw [hy.on i hi c, hz.on i hi c]; simp)
  unfold lin
  rw [← sm_mul, ← sm_mul]
  exact sm_congr fun i _ => by have := e i; grind
theorem Ker.same0 {n : Nat} {A : Nat → Row} (hA : ∀ i j, A i j = A j i) {S d B ps} (h : Run A n S d B ps) {k : Nat} {y z : Row} (hy : Ker n A S k y) (hz : Ker n A S k z) (w : Row) : lin n w y = 0 ↔ lin n w z = 0 := by
  have e := hy.same hA h hz w
  have p1 := hy.pos
  have p2 := hz.pos
  constructor
  · intro c
    rw [c, Int.mul_zero] at e
    rcases Int.mul_eq_zero.1 e.symm with q | q
    · omega
    · exact q
  · intro c
    rw [c, Int.mul_zero] at e
    rcases Int.mul_eq_zero.1 e with q | q
    · omega
    · exact q
theorem lsum_lin (n : Nat) (ps : List Pv) (c : Pv → Int) (i : Nat) (z : Row) : sm n (fun j => lsum ps (fun p => c p * (p.2.1 i * p.2.1 j)) * z j) = lsum ps (fun p => c p * p.2.1 i * lin n p.2.1 z) := by
  induction ps with
  | nil => simp [lsum, sm_zero]
  | cons p ps ih =>
    have e : ∀ j, lsum (p :: ps) (fun p => c p * (p.2.1 i * p.2.1 j)) * z j = c p * p.2.1 i * (p.2.1 j * z j) + lsum ps (fun p => c p * (p.2.1 i * p.2.1 j)) * z j := fun j => by
      simp only [lsum, List.foldr_cons]; grind
    rw [sm_congr fun j _ => e j, sm_add, sm_mul, ih]
    rfl
/-- a settled point beside the leads -/
theorem Run.kerSet {A : Nat → Row} (hA : ∀ i j, A i j = A j i) {n S d B ps} (h : Run A n S d B ps) (hs : ∀ p ∈ ps, 0 < p.2.2) {k : Nat} (hk : k ∉ S) : Ker n A S k (setl n ps (unitP k)) := by
  obtain ⟨h1, f, hf, h2⟩ := h.settled hA n (Nat.le_refl n) (unitP k)
  refine ⟨fun i _ => ?_, ?_, fun i hi hne => ?_⟩
  · have hW := wprod_pos hs
    have e : wprod ps * lin n (A i) (setl n ps (unitP k)) = 0 := by
      unfold lin
      rw [← sm_mul]
      have := lsum_lin n ps (fun p => wprod ps / p.2.2) i (setl n ps (unitP k))
      rw [sm_congr (g := fun j => lsum ps (fun p => wprod ps / p.2.2 * (p.2.1 i * p.2.1 j)) * setl n ps (unitP k) j) (fun j hj => by
        rw [← Int.mul_assoc, h.whole hA (wprod ps) (fun p => wprod ps / p.2.2) (fun p hp => by rw [Int.mul_comm]; exact Int.mul_ediv_cancel' (wprod_dvd hp)) i j hj]), this]
      rw [lsum_congr (g := fun p => 0 * (0 : Int)) (fun p hp => by rw [h1 p hp]; simp), lsum_mul, Int.zero_mul]
    rcases Int.mul_eq_zero.1 e with c | c
    · omega
    · exact c
  · rw [h2 k hk]
    unfold unitP
    rw [if_pos rfl]
    omega
  · rw [h2 i hi]
    unfold unitP
    rw [if_neg hne, Int.mul_zero]
/-- the solution solves -/
theorem Run.solves {A : Nat → Row} (hA : ∀ i j, A i j = A j i) {n S d B ps} (h : Run A n S d B ps) {N : Nat → Row} (hN : ∀ i x, i < S.length → x < S.length → sm S.length (fun s => N i s * A (led S s) (led S x)) = if i = x then d else 0) (hNs : ∀ i j, i < S.length → j < S.length → N i j = N j i)
    {z w : Row} {c1 c2 : Int} (hz0 : ∀ j, j < n → j ∉ S → z j = 0) (hz : ∀ i, i < S.length → c1 * z (led S i) = c2 * sm S.length (fun s => N i s * w (led S s)))
    (hf : ∀ k, k < n → k ∉ S → ∃ y, Ker n A S k y ∧ lin n w y = 0) : ∀ k, k < n → c1 * lin n (A k) z = c2 * d * w k := by
  have hfall := h.fall
  have sml : ∀ {f : Nat → Int}, (∀ j, j < n → j ∉ S → f j = 0) → sm n f = sm S.length (fun i => f (led S i)) := fun {f} h0 => sm_leads (fun i hi => hfall.2 _ (led_mem hi)) (fun i j a b => led_mono hfall.1 a b) (fun j hj hne => h0 j hj fun m => by
    obtain ⟨i, hi, e⟩ := led_of m
    exact hne i hi e)
  have lead : ∀ k, k ∈ S → c1 * lin n (A k) z = c2 * d * w k := fun k hk => by
    obtain ⟨x, hx, rfl⟩ := led_of hk
    unfold lin
    rw [sml (fun j hj hjS => by rw [hz0 j hj hjS, Int.mul_zero]), ← sm_mul]
    rw [sm_congr (g := fun i => c2 * sm S.length (fun s => N i s * A (led S x) (led S i) * w (led S s))) (fun i hi => by
      have := hz i hi
      rw [show c1 * (A (led S x) (led S i) * z (led S i)) = A (led S x) (led S i) * (c1 * z (led S i)) by grind, this, Int.mul_left_comm, ← sm_mul]
      congr 1
      exact sm_congr fun s _ => by grind), sm_mul, sm_swap]
    rw [sm_congr (g := fun s => if s = x then d * w (led S s) else 0) (fun s hs => by
      have := hN s x hs hx
      rw [sm_congr (g := fun i => w (led S s) * (N s i * A (led S i) (led S x))) (fun i hi => by rw [hNs i s hi hs, hA (led S x) (led S i)]; grind), sm_mul, this]
      by_cases c : s = x
      · rw [if_pos c, if_pos c, Int.mul_comm]
      · rw [if_neg c, if_neg c, Int.mul_zero]), sm_one (fun s => d * w (led S s)) hx]
    grind
  intro k hk
  by_cases m : k ∈ S
  · exact lead k m
  · obtain ⟨y, hy, hw⟩ := hf k hk m
    have e1 : lin n (fun j => c1 * lin n (A j) z + (-(c2 * d)) * w j) y = 0 := by
      rw [lin_comm, lin_comb, lin_comm n y w, hw, Int.mul_zero, Int.add_zero]
      have : lin n y (fun j => lin n (A j) z) = 0 := by
        unfold lin
        rw [sm_congr (g := fun j => sm n (fun i => z i * (A i j * y j))) (fun j _ => by rw [← sm_mul]; exact sm_congr fun i _ => by rw [hA j i]; grind), sm_swap]
        rw [sm_congr (g := fun i => 0) (fun i hi => by
          rw [sm_mul]
          have := hy.zero i hi
          unfold lin at this
          rw [this, Int.mul_zero]), sm_zero]
      rw [this, Int.mul_zero]
    have e2 : lin n (fun j => c1 * lin n (A j) z + (-(c2 * d)) * w j) y = (c1 * lin n (A k) z + (-(c2 * d)) * w k) * y k := by
      unfold lin
      rw [← sm_one (fun j => (c1 * sm n (fun i => A j i * z i) + (-(c2 * d)) * w j) * y j) hk]
      refine sm_congr fun j hj => ?_
      by_cases c : j = k
      · rw [if_pos c]
      · rw [if_neg c]
        by_cases m2 : j ∈ S
        · have := lead j m2
          unfold lin at this
          show (c1 * sm n (fun i => A j i * z i) + (-(c2 * d)) * w j) * y j = 0
          rw [this]
          grind
        · rw [hy.on j m2 c, Int.mul_zero]
    rw [e1] at e2
    rcases Int.mul_eq_zero.1 e2.symm with c | c
    · grind
    · have := hy.pos; omega
end PySem.El
namespace PySem.El
/-- one step of the law's elimination; the column n is the demand -/
def lst (R : Nat → Row) (k : Nat) : Nat → Row := fun i j => if k < i then R k k * R i j - R i k * R k j else R i j
structure LI (A : Nat → Row) (w : Row) (n : Nat) (S : List Nat) (k : Nat) (B R : Nat → Row) : Prop where
  ex : ∃ c : Int, 0 < c ∧ ∀ i j, k ≤ i → i < n → j < n → R i j = c * B i j
  comb : ∀ i, k ≤ i → i < n → ∃ y : Row, 0 < y i ∧ (∀ x, x ∉ S → x ≠ i → y x = 0) ∧ (∀ j, j < n → R i j = lin n (A j) y) ∧ R i n = lin n w y
theorem lin_unit {n i : Nat} (r : Row) (hi : i < n) : lin n r (unitP i) = r i := by
  unfold lin unitP
  rw [← sm_one r hi]
  exact sm_congr fun j _ => by
    by_cases c : j = i
    · rw [if_pos c, if_pos c, Int.mul_one]
    · rw [if_neg c, if_neg c, Int.mul_zero]
theorem LI.begin {A M : Nat → Row} {g : Int} (hg : 0 < g) (hA : ∀ i j, A i j = A j i) {w : Row} {n : Nat} {R : Nat → Row} (h0 : ∀ i j, i < n → j < n → A i j = g * M i j) (h1 : ∀ i j, i < n → j < n → R i j = A i j) (h2 : ∀ i, i < n → R i n = w i) : LI A w n [] 0 M R where
  ex := ⟨g, hg, fun i j _ hi hj => by rw [h1 i j hi hj, h0 i j hi hj]⟩
  comb := fun i _ hi => ⟨unitP i, by unfold unitP; rw [if_pos rfl]; decide, fun x _ hx => by unfold unitP; rw [if_neg hx], fun j hj => by rw [lin_unit _ hi, h1 i j hi hj, hA], by rw [lin_unit _ hi, h2 i hi]⟩
theorem LI.skip {A : Nat → Row} {w : Row} {n : Nat} {S k B R} (h : LI A w n S k B R) : LI A w n S (k + 1) B R where
  ex := let ⟨c, h0, h1⟩ := h.ex; ⟨c, h0, fun i j hi => h1 i j (by omega)⟩
  comb := fun i hi => h.comb i (by omega)
theorem LI.pivot {A M : Nat → Row} {w : Row} {n : Nat} {S k d B R} (h : LI A w n S k B R) (hI : Inv M S k d B) (hp : 0 < B k k) (hk : k < n) : LI A w n (k :: S) (k + 1) (redu B k d) (lst R k) where
  ex := by
    obtain ⟨c, h0, h1⟩ := h.ex
    refine ⟨c * c * d, Int.mul_pos (Int.mul_pos h0 h0) hI.dpos, fun i j hi hin hj => ?_⟩
    unfold lst
    rw [if_pos (by omega), h1 k k (by omega) hk hk, h1 i j (by omega) hin hj, h1 i k (by omega) hin hk, h1 k j (by omega) hk hj, Int.mul_assoc (c * c), hI.exact hp, hI.sym k i]
    grind
  comb := fun i hi hin => by
    obtain ⟨c, h0, h1⟩ := h.ex
    obtain ⟨y, y1, y2, y3, y4⟩ := h.comb i (by omega) hin
    obtain ⟨z, z1, z2, z3, z4⟩ := h.comb k (by omega) hk
    have hkk : 0 < R k k := by rw [h1 k k (by omega) hk hk]; exact Int.mul_pos h0 hp
    refine ⟨fun x => R k k * y x + (-(R i k)) * z x, ?_, fun x hx hne => ?_, fun j hj => ?_, ?_⟩
    · show 0 < R k k * y i + (-(R i k)) * z i
      rw [z2 i (fun m => by have := hI.small i m; omega) (by omega), Int.mul_zero, Int.add_zero]
      exact Int.mul_pos hkk y1
    · show R k k * y x + (-(R i k)) * z x = 0
      rw [y2 x (fun m => hx (List.mem_cons_of_mem _ m)) hne, z2 x (fun m => hx (List.mem_cons_of_mem _ m)) (fun e => hx (by rw [e]; exact List.mem_cons_self ..))]
      simp
    · unfold lst
      rw [if_pos (by omega), lin_comb, ← y3 j hj, ← z3 j hj]
      grind
    · unfold lst
      rw [if_pos (by omega), lin_comb, ← y4, ← z4]
      grind
theorem LI.ker {A : Nat → Row} {w : Row} {n : Nat} {S k B R} (h : LI A w n S k B R) (hk : k < n) (hz : ∀ j, j < n → R k j = 0) : ∃ y, Ker n A S k y ∧ lin n w y = R k n := by
  obtain ⟨y, y1, y2, y3, y4⟩ := h.comb k (Nat.le_refl k) hk
  exact ⟨y, ⟨fun i hi => by rw [← y3 i hi, hz i hi], y1, fun i hi hne => y2 i hi hne⟩, y4.symm⟩
/-- the first place beside the leads that misses the demand -/
def Mi (A : Nat → Row) (w : Row) (n : Nat) (S : List Nat) (k : Nat) : Option Nat → Prop
  | none => ∀ f, f < k → f ∉ S → ∃ y, Ker n A S f y ∧ lin n w y = 0
  | some m => m < k ∧ m ∉ S ∧ (∃ y, Ker n A S m y ∧ lin n w y ≠ 0) ∧ ∀ f, f < m → f ∉ S → ∃ y, Ker n A S f y ∧ lin n w y = 0
theorem Mi.pivot {A : Nat → Row} {w : Row} {n : Nat} {S k m} (h : Mi A w n S k m) : Mi A w n (k :: S) (k + 1) m := by
  cases m with
  | none =>
    intro f hf hS
    have hne : f ≠ k := fun e => hS (by rw [e]; exact List.mem_cons_self ..)
    obtain ⟨y, h1, h2⟩ := h f (by omega) (fun m => hS (List.mem_cons_of_mem _ m))
    exact ⟨y, h1.more fun s hs => List.mem_cons_of_mem _ hs, h2⟩
  | some m =>
    obtain ⟨h1, h2, ⟨y, h3, h4⟩, h5⟩ := h
    refine ⟨by omega, fun c => ?_, ⟨y, h3.more fun s hs => List.mem_cons_of_mem _ hs, h4⟩, fun f hf hS => ?_⟩
    · rcases List.mem_cons.1 c with e | c
      · omega
      · exact h2 c
    · obtain ⟨y, h1, h2⟩ := h5 f hf (fun m => hS (List.mem_cons_of_mem _ m))
      exact ⟨y, h1.more fun s hs => List.mem_cons_of_mem _ hs, h2⟩
theorem Mi.keep {A : Nat → Row} {w : Row} {n : Nat} {S k} {m : Option Nat} (h : Mi A w n S k m) (hy : m = none → ∃ y, Ker n A S k y ∧ lin n w y = 0) : Mi A w n S (k + 1) m := by
  cases m with
  | none =>
    intro f hf hS
    by_cases e : f = k
    · rw [e]; exact hy rfl
    · exact h f (by omega) hS
  | some m =>
    obtain ⟨h1, h2, h3, h5⟩ := h
    exact ⟨by omega, h2, h3, h5⟩
theorem Mi.set {A : Nat → Row} {w : Row} {n : Nat} {S k} (h : Mi A w n S k none) (hS : k ∉ S) (hy : ∃ y, Ker n A S k y ∧ lin n w y ≠ 0) : Mi A w n S (k + 1) (some k) := ⟨by omega, hS, hy, fun f hf hS => h f hf hS⟩
theorem Ker.scale {A M : Nat → Row} {g : Int} (hg : 0 < g) {n : Nat} {S : List Nat} {k : Nat} {y : Row} (e : ∀ i j, A i j = g * M i j) (h : Ker n A S k y) : Ker n M S k y := by
  refine ⟨fun i hi => ?_, h.2, h.3⟩
  have h1 := h.1 i hi
  have h2 : lin n (A i) y = g * lin n (M i) y := by
    unfold lin
    rw [← sm_mul]
    exact sm_congr fun j _ => by rw [e i j, Int.mul_assoc]
  rw [h2] at h1
  rcases Int.mul_eq_zero.mp h1 with h3 | h3
  · omega
  · exact h3
theorem Mi.scale {A M : Nat → Row} {g : Int} (hg : 0 < g) {w : Row} {n : Nat} {S k m} (e : ∀ i j, A i j = g * M i j) (h : Mi A w n S k m) : Mi M w n S k m := by
  cases m with
  | none =>
    intro f hf hS
    obtain ⟨y, h1, h2⟩ := h f hf hS
    exact ⟨y, h1.scale hg e, h2⟩
  | some m =>
    obtain ⟨h1, h2, ⟨y, h3, h4⟩, h5⟩ := h
    exact ⟨h1, h2, ⟨y, h3.scale hg e, h4⟩, fun f hf hS => let ⟨y, h1, h2⟩ := h5 f hf hS; ⟨y, h1.scale hg e, h2⟩⟩
end PySem.El
set_option exponentiation.threshold 70000
namespace P09
open PySem PySem.Spec PyProof.Rows L2 SX EX WK
def frs (n : Nat) (S : List Nat) : List Nat := (List.range n).filter fun i => !decide (i ∈ S)
theorem mem_frs {n : Nat} {S : List Nat} {k : Nat} : k ∈ frs n S ↔ k < n ∧ k ∉ S := by
  unfold frs
  rw [List.mem_filter, List.mem_range]
  simp
theorem frs_fm {S : List Nat} : ∀ (l : List Nat), l.filterMap (fun i => if i ∈ S then none else some (i : Int)) = (l.filter fun i => !decide (i ∈ S)).map (fun (i : Nat) => (i : Int))
  | [] => rfl
  | i :: l => by
    by_cases c : i ∈ S
    · rw [List.filterMap_cons, if_pos c, List.filter_cons, if_neg (by simp [c])]
      exact frs_fm l
    · rw [List.filterMap_cons, if_neg c, List.filter_cons, if_pos (by simp [c]), List.map_cons]
      exact congrArg _ (frs_fm l)
theorem frs_len {n : Nat} {S : List Nat} : (frs n S).length ≤ n := by
  have := List.length_filter_le (fun i => !decide (i ∈ S)) (List.range n)
  rw [List.length_range] at this
  exact this
/-- a settled point beside the leads -/
def FreeAt (K : PySem.W.Frag) (n : Nat) (ps : List El.Pv) : Hp → V → Nat → Prop := fun H v k => ∃ a, v = .ref a ∧ TV K H a n (setd n ps (El.unitP k))
theorem stb_FreeAt {K : PySem.W.Frag} {n : Nat} {ps : List El.Pv} : Stb K (FreeAt K n ps) := fun _ _ _ _ s ⟨a, h1, h2⟩ => ⟨a, h1, s _ _ h2⟩
theorem unit_one {n : Nat} {M : Nat → El.Row} (sy : ∀ i j, M i j = M j i) {S : List Nat} {d : Int} {B' : Nat → El.Row} {ps : List El.Pv} (run : El.Run M n S d B' ps) {k : Nat} (hk : k < n) (hS : k ∉ S) : gf 0 (vec n (seti n ps (El.unitP k))) = 1 := by
  refine gcd_one ?_ (gf_gcd _)
  rw [← seti_setl]
  refine run.prim n (Nat.le_refl n) (fun y => ⟨_, gf_gcd y⟩) _ (fun i hm => ?_) (El.Gcd.one ⟨k, hk, ?_⟩)
  · unfold El.unitP
    rw [if_neg fun e => hS (by rw [← e]; exact hm)]
  · unfold El.unitP
    rw [if_pos rfl]
theorem run_pos {A : Nat → El.Row} (hA : ∀ i j, A i j = A j i) {k : Nat} {S : List Nat} {d : Int} {B' : Nat → El.Row} {ps : List El.Pv} (h : El.Run A k S d B' ps) : ∀ p ∈ ps, 0 < p.2.2 := by
  induction h with
  | begin => intro p hp; cases hp
  | skip _ _ ih => exact ih
  | pivot h hp ih =>
    intro p hm
    rcases List.mem_cons.mp hm with e | e
    · rw [e]
      exact Int.mul_pos (h.inv hA).dpos hp
    · exact ih p e
theorem setd_ker {n : Nat} {M : Nat → El.Row} (sy : ∀ i j, M i j = M j i) {S : List Nat} {d : Int} {B' : Nat → El.Row} {ps : List El.Pv} (run : El.Run M n S d B' ps) {k : Nat} (hk : k < n) (hS : k ∉ S) : El.Ker n M S k (setd n ps (El.unitP k)) := by
  have e : setd n ps (El.unitP k) = El.setl n ps (El.unitP k) := by
    funext i
    show seti n ps (El.unitP k) i / gf 0 (vec n (seti n ps (El.unitP k))) = _
    rw [unit_one sy run hk hS, Int.ediv_one, seti_setl]
  rw [e]
  exact run.kerSet sy (run_pos sy run) hS
theorem ps_len {M : Nat → El.Row} {k : Nat} {S : List Nat} {d : Int} {B' : Nat → El.Row} {ps : List El.Pv} (run : El.Run M k S d B' ps) : ps.length ≤ k := by
  have m := run.many
  rw [← run.leads, List.length_map] at m
  exact m
theorem tb_con {w n : Nat} (hn : n ≤ 10) : ∀ k, El.tb (fun _ => ((2 ^ w : Nat) : Int)) n k ≤ ((2 ^ (k * (w + 4)) : Nat) : Int)
  | 0 => by simp [El.tb]
  | k + 1 => by
    have ih := tb_con (w := w) hn k
    have h1 : (n : Int) * ((2 ^ w : Nat) : Int) ≤ ((2 ^ (w + 4) : Nat) : Int) := by
      rw [← Int.natCast_mul, Nat.pow_add, Nat.mul_comm n]
      exact Int.ofNat_le.mpr (Nat.mul_le_mul_left _ (by omega))
    have h2 : 0 ≤ (n : Int) * ((2 ^ w : Nat) : Int) := Int.mul_nonneg (by omega) (Int.natCast_nonneg _)
    show El.tb (fun _ => ((2 ^ w : Nat) : Int)) n k * ((n : Int) * ((2 ^ w : Nat) : Int)) ≤ _
    have h3 := Int.mul_le_mul ih h1 h2 (Int.natCast_nonneg _)
    have h4 : ((2 ^ (k * (w + 4)) : Nat) : Int) * ((2 ^ (w + 4) : Nat) : Int) = ((2 ^ ((k + 1) * (w + 4)) : Nat) : Int) := by
      rw [← Int.natCast_mul, ← Nat.pow_add, show k * (w + 4) + (w + 4) = (k + 1) * (w + 4) by rw [Nat.add_mul, Nat.one_mul]]
    rw [h4] at h3
    exact h3
/-- the bound of a settled point beside the leads -/
theorem free_B {n w : Nat} {bd : Int} {M : Nat → Nat → Int} (jo : JOk n w bd M) {S : List Nat} {d : Int} {B' : Nat → Nat → Int} {ps : List El.Pv} (run : El.Run M n S d B' ps) {k : Nat} (hk : k < n) (hS : k ∉ S) : ∀ i, B 60000 (setd n ps (El.unitP k) i) := fun i => by
  have e : setd n ps (El.unitP k) i = El.setl n ps (El.unitP k) i := by
    show seti n ps (El.unitP k) i / gf 0 (vec n (seti n ps (El.unitP k))) = _
    rw [unit_one jo.whole.sym run hk hS, Int.ediv_one, seti_setl]
  rw [e]
  have n10 := jo.n10
  have w1 := jo.w1
  have pv := run.pivots jo.whole.sym bd jo.bd1 jo.abs
  have hb := run.setl_bound (fun _ => ((2 ^ w : Nat) : Int)) (fun k => El.bnd bd k * El.bnd bd (k + 1)) n (fun _ => by have : 0 < 2 ^ w := Nat.two_pow_pos w; omega) (fun p hp => by
    have q := pv p hp
    refine { q with row := fun j => ?_ }
    have a := q.row j
    have m := El.bnd_mono jo.bd1 (show p.1 + 1 ≤ n by have := q.small; omega)
    have c : (El.bnd bd n).natAbs < 2 ^ w := jo.bB
    omega) (Nat.le_refl n) (El.unitP k) ((1 : Nat) : Int) (Int.natCast_nonneg _) (fun j => by unfold El.unitP; split <;> decide) i
  have tc := tb_con (w := w) n10 n
  have h4 : n * (w + 4) ≤ 10 * (w + 4) := Nat.mul_le_mul_right _ (by omega)
  have h5 : (2 : Nat) ^ (n * (w + 4)) < 2 ^ 60000 := Nat.pow_lt_pow_right (by decide) (by omega)
  show (El.setl n ps (El.unitP k) i).natAbs < 2 ^ 60000
  generalize (2 : Nat) ^ (n * (w + 4)) = a1 at *
  generalize (2 : Nat) ^ 60000 = a2 at *
  omega
section
theorem lkFs (n e b : V) : ([("size", n), ("entries", e), ("bottom", b)] : List (Str × V)).lookup ("size" : Str) = some n := by rw [lk_hit]
theorem lkFe (n e b : V) : ([("size", n), ("entries", e), ("bottom", b)] : List (Str × V)).lookup ("entries" : Str) = some e := by rw [lk_skip (by decide +kernel), lk_hit]
theorem lkFb (n e b : V) : ([("size", n), ("entries", e), ("bottom", b)] : List (Str × V)).lookup ("bottom" : Str) = some b := by rw [lk_skip (by decide +kernel), lk_skip (by decide +kernel), lk_hit]
theorem lkFx {x : Str} (n e b : V) (h1 : ¬ x = ("size" : Str)) (h2 : ¬ x = ("entries" : Str)) (h3 : ¬ x = ("bottom" : Str)) : ([("size", n), ("entries", e), ("bottom", b)] : List (Str × V)).lookup x = none := by
  rw [lk_skip h1, lk_skip h2, lk_skip h3]
  rfl
end
end P09
namespace P09
open PySem PySem.Spec PyProof.Rows L2 SX EX WK
/-- a table of r rows of m numbers -/
def RTab (H : Hp) (a : Addr) (r m : Nat) (f : Nat → Nat → Int) : Prop := ∃ rs : List Addr, H a = some (.lst (rs.map V.ref)) ∧ rs.length = r ∧ ∀ i, i < r → ∃ p, rs[i]? = some p ∧ H p = some (.lst ((vec m (f i)).map V.int))
theorem GT.rtab {H0 H : Hp} {a : Addr} {rs : List Addr} {n i : Nat} {f : Nat → Nat → Int} (h : GT H0 H a rs n i f) : RTab H a i n f := ⟨rs, h.at_, h.len, h.row⟩
theorem RTab.same {H H' : Hp} {a : Addr} {r m : Nat} {f : Nat → Nat → Int} (h : RTab H a r m f) (s : Same H H') : RTab H' a r m f := let ⟨rs, h1, h2, h3⟩ := h; ⟨rs, s _ _ h1, h2, fun i hi => let ⟨p, e1, e2⟩ := h3 i hi; ⟨p, e1, s _ _ e2⟩⟩
theorem RTab.congr {H : Hp} {a : Addr} {r m : Nat} {f g : Nat → Nat → Int} (h : RTab H a r m f) (e : ∀ i j, i < r → j < m → f i j = g i j) : RTab H a r m g := let ⟨rs, h1, h2, h3⟩ := h; ⟨rs, h1, h2, fun i hi => let ⟨p, e1, e2⟩ := h3 i hi; ⟨p, e1, by rw [e2, vec_congr fun j hj => e i j hi hj]⟩⟩
section
variable {P : Program} {w : World} {K : PySem.W.Frag} {mg : Str → Option Value} {base : Heap} {f : Addr} {fd : FuncData} {cF cR : Addr}
def spCleared (K : PySem.W.Frag) : Sp := fun vs H Q _ => ∃ (a : Addr) (r m k w : Nat) (d : Int) (M : Nat → Nat → Int), vs = [.ref a, .int k, .int d] ∧ RTab H a r m M ∧ r ≤ 1000 ∧ m ≤ 2000 ∧ k < r ∧ k < m ∧ (∀ i j, i < r → j < m → B w (M i j)) ∧ 0 < d ∧ B w d ∧ 0 < w ∧ w ≤ 9000 ∧
  ∀ t H', Same H H' → RTab H' t r m (El.clr M k d) → Q (.ref t) H'
abbrev s_cleared : Stmt := top 36
abbrev N_cleared : List Str := ["table", "at", "divisor", "main", "pivot", "changed", "index", "line", "off", "number", "other"]
theorem sc_cleared : FnScope N_cleared ["table", "at", "divisor"] (defScope s_cleared) := ⟨rfl, rfl, rfl, by decide +kernel, rfl, by decide +kernel, by decide +kernel⟩
theorem ok_cleared (F : Fun K "cleared" "cleared" s_cleared f fd) (T : Txt mg) : FnOk P w K mg base CX0 1 f fd ["table", "at", "divisor"] (spCleared K) := by
  refine F.ok sc_cleared (fun vs H Q E h => ?_) (fun cdv A outer s H vs Q E hr h => ?_)
  · obtain ⟨a, r, m, k, w, d, M, rfl, _⟩ := h
    rfl
  obtain ⟨a, r, m, k, w, d, M, rfl, ht, hr10, hm10, hk, hkm, hB, hd, hdB, hw, hw9, q⟩ := h
  refine ⟨_, (pss_cons (ps_set (i := 3) sc_cleared.nd rfl (Or.inl rfl) (pe_ix ix_list (pv 0) (pv 1) (fun _ _ => rfl)))
  (pss_cons (ps_set (i := 4) sc_cleared.nd rfl (Or.inr rfl) (pe_ix ix_list /-?-/ (pv 3) (pv 1) (fun _ _ => rfl)))
  (pss_cons (ps_set (i := 5) sc_cleared.nd rfl (Or.inl rfl) (pe_lst pa_nil))
  (pss_cons (ps_for PassesOwn.never rfl (pi_enum (by rfl) T.b_enumerate (pa_cons (pv 0) pa_nil)) (pg_tup rfl (pgs_cons (pg_name (i := 6) sc_cleared.nd rfl (Or.inl rfl)) (pgs_cons (pg_name (i := 7) sc_cleared.nd rfl (Or.inl rfl)) pgs_nil))) (pss_one (ps_if (pt_cmpR op_eq (pv 6) (pv 1) (nomark _)) (pss_one (ps_expr (pe_bm PySem.F.plainAttrs_list PySem.F.slot_list_append PySem.F.type_list_append mt_append (pv 5) (pa_cons (pv 3) pa_nil)))) (pss_cons (ps_set (i := 8) sc_cleared.nd rfl (Or.inr rfl) (pe_ix ix_list /-?-/ (pv 7) (pv 1) (fun _ _ => rfl)))
  (pss_one (ps_expr (pe_bm PySem.F.plainAttrs_list PySem.F.slot_list_append PySem.F.type_list_append mt_append (pv 5) (pa_cons (pe_lc (own := [("number", 9), ("other", 10)]) (tt := tYes) (by rfl) sc_cleared.nd (WZ.pi_zipB (by rfl) T.b_zip (pa_cons (pv 7) (pa_cons (pv 3) pa_nil))) (blkOk_by (N := N_cleared) (sc := defScope s_cleared) (by decide +kernel)) (fun _ _ _ _ _ => (pg_tupK (K := K) (n := 2) rfl rfl (pgs_cons (pg_name (i := 9) sc_cleared.nd rfl (Or.inl rfl)) (pgs_cons (pg_name (i := 10) sc_cleared.nd rfl (Or.inl rfl)) pgs_nil)))) (fun _ _ _ _ _ => pts_nil) (fun _ _ _ _ _ => (pe_op op_fdivW (pe_op op_sub (pe_op op_mulW (pv 4) (pv 9)) (pe_op op_mulW (pv 8) (pv 10))) (pv 2)))) pa_nil))))))))
  (pss_one (ps_ret (pv 5))))))), ?_⟩
  obtain ⟨rs, ha, hl, row⟩ := ht
  have rowV : ∀ i, i < r → ∃ p, (rs.map V.ref)[i]? = some (V.ref p) ∧ H p = some (.lst ((vec m (M i)).map V.int)) := fun i hi => by
    obtain ⟨p, h1, h2⟩ := row i hi
    exact ⟨p, by rw [List.getElem?_map, h1]; rfl, h2⟩
  obtain ⟨pk, hpk, hpkr⟩ := rowV k hk
  refine ⟨_, rfl, _, rfl, a, _, _, _, rfl, rfl, SqL.of ha, at_pos (by omega) (by rw [Int.toNat_natCast]; exact hpk), ?_⟩
  refine ⟨_, rfl, _, rfl, pk, _, _, _, rfl, rfl, SqL.of hpkr, at_pos (by omega) (by rw [Int.toNat_natCast]; exact vecV_at hkm), ?_⟩
  refine ⟨line_ge (by decide), fun L hL => ?_⟩
  have hLk : pk ≠ L := fun z => by rw [z, hL] at hpkr; cases hpkr
  refine ⟨_, rfl, a, _, rfl, SqL.of (same_new hL _ _ _ ha), for_it (walk_enum (K := K) (a := a) (xs := rs.map V.ref)) (fun i σ H1 => ∃ (v6 v7 v8 : Option V) (ps : List Addr), σ = [some (.ref a), some (.int (k : Int)), some (.int d), some (.ref pk), some (.int (M k k)), some (.ref L), v6, v7, v8, none, none] ∧ GT H H1 L ps m i (El.clr M k d)) ⟨none, none, none, [], rfl, GT.start hL⟩ (fun i σ H' _ ⟨_, _, _, _, _, g⟩ => SqL.of (g.same _ _ ha)) ?_ ?_⟩
  · rintro i x σ H1 H2 hi ⟨v6, v7, v8, ps, rfl, g⟩ y
    have s2 := ys_pair y
    obtain ⟨Tp, x1, x2, rfl, hT, rfl, e1, e2⟩ := y
    cases e1
    have hir : i < r := by rw [List.length_map] at hi; omega
    obtain ⟨pi, hpi, hpir⟩ := rowV i hir
    rw [show (rs.map V.ref)[i]? = some x2 from e2] at hpi
    cases hpi
    have s02 := g.same.trans s2
    have hpiL : pi ≠ L := fun z => by rw [z, hL] at hpir; cases hpir
    have gl := g.len
    refine ⟨_, _, rfl, SqT.of upd_same, rfl, _, _, rfl, _, _, rfl, rfl, ?_⟩
    refine ⟨_, rfl, _, rfl, rfl, _, rfl, ?_⟩
    by_cases e : i = k
    · subst e
      refine ifT (int_eq rfl) ?_
      refine ⟨_, rfl, tyV_of (s2 _ _ g.at_), _, rfl, L, _, _, rfl, rfl, s2 _ _ g.at_, ?_, ?_⟩
      · rw [List.length_map, gl]
        exact Nat.lt_of_lt_of_le (by omega : i < 1001) (line_ge (by decide))
      · refine ⟨_, _, _, ps ++ [pk], rfl, g.snoc hL s2 ?_ hLk⟩
        rw [s02 _ _ hpkr]
        congr 3
        refine vec_congr fun j _ => ?_
        unfold El.clr
        rw [if_pos rfl]
    · refine ifF (int_ne fun z => e (Int.ofNat_inj.mp z)) ?_
      refine ⟨_, rfl, _, rfl, pi, _, _, _, rfl, rfl, SqL.of (s02 _ _ hpir), at_pos (by omega) (by rw [Int.toNat_natCast]; exact vecV_at hkm), ?_⟩
      refine ⟨_, rfl, tyV_of (s2 _ _ g.at_), _, rfl, _, rfl, true, true, pi, pk, _, _, rfl, SqL.of (s02 _ _ hpir), SqL.of (s02 _ _ hpkr), fun D hD => ?_⟩
      refine lc_m (WZ.walk_zA (K := K) (k := true) (l := true) (a := pi) (b := pk) (xs := (vec m (M i)).map V.int) (ys := (vec m (M k)).map V.int) (n := m) vec_lenV.symm vec_lenV.symm) RI (stb_RI (K := K)) (List.range m) (by rw [List.length_range]) (by rw [List.length_range]; omega) hD (fun H' s => ⟨SqL.of (s _ _ (s02 _ _ hpir)), SqL.of (s _ _ (s02 _ _ hpkr))⟩) (fun _ _ _ _ => ys_pair) (fun j => (M k k * M i j - M i k * M k j) / d) (fun c j v H3 H4 hc s3 s4 yl A B hA => ?_) (fun H3 l1 s3 hl1 rz => ?_)
      · obtain ⟨hc1, rfl⟩ := in_range hc
        obtain ⟨Tq, x3, x4, rfl, hT2, rfl, e3, e4⟩ := yl
        have e5 := (show ((vec m (M i)).map V.int)[j]? = some x3 from e3).symm.trans (vecV_at hc1)
        have e6 := (show ((vec m (M k)).map V.int)[j]? = some x4 from e4).symm.trans (vecV_at hc1)
        cases e5
        cases e6
        exact ⟨_, _, rfl, SqT.of upd_same, rfl, _, _, rfl, _, _, rfl, rfl, rfl, lc_yes ⟨_, rfl, _, rfl, _, _, rfl, rfl, wmul (hB k k hk hkm) (hB i j hir hc1) hw hw (by omega), _, rfl, _, rfl, _, _, rfl, rfl, wmul (hB i k hir hkm) (hB k j hk hc1) hw hw (by omega), _, _, rfl, rfl, _, rfl, _, _, rfl, rfl, wdiv hd hdB hw hw9, hA _ _ (fun _ _ h => h) rfl⟩⟩
      · have hDL : D ≠ L := fun z => by rw [z, s2 _ _ g.at_] at hD; cases hD
        refine ⟨L, _, _, rfl, rfl, s3 _ _ (s2 _ _ g.at_), ?_, ?_⟩
        · rw [List.length_map, gl]
          exact Nat.lt_of_lt_of_le (by omega : i < 1001) (line_ge (by decide))
        · refine ⟨_, _, _, ps ++ [D], rfl, g.snoc hL (s2.trans s3) ?_ hDL⟩
          rw [hl1, rz.ints]
          show some (HO.lst (List.map V.int (vec m fun j => (M k k * M i j - M i k * M k j) / d))) = _
          congr 3
          refine vec_congr fun j _ => ?_
          unfold El.clr
          rw [if_neg e]
  · rintro σ H1 ⟨v6, v7, v8, ps, rfl, g⟩
    rw [List.length_map, hl] at g
    exact ⟨_, rfl, q L H1 g.same g.rtab⟩
end
end P09
namespace P09
open PySem PySem.Spec PyProof.Rows L2 SX EX WK
theorem vec_cat {a b : Nat} {x y : Nat → Int} : (vec a x).map V.int ++ (vec b y).map V.int = (vec (a + b) fun i => if i < a then x i else y (i - a)).map V.int := by
  refine List.ext_getElem? fun i => ?_
  by_cases hi : i < a
  · rw [List.getElem?_append_left (by rw [vec_lenV]; exact hi), vecV_at hi, vecV_at (by omega), if_pos hi]
  · rw [List.getElem?_append_right (by rw [vec_lenV]; omega), vec_lenV]
    by_cases h2 : i < a + b
    · rw [vecV_at (by omega), vecV_at h2, if_neg hi]
    · rw [List.getElem?_eq_none (by rw [vec_lenV]; omega), List.getElem?_eq_none (by rw [vec_lenV]; omega)]
theorem cut_tail {m a b : Nat} {y : Nat → Int} (h : m = a + b) : cutV ((vec m y).map V.int) (some (a : Int)) none = (vec b fun i => y (a + i)).map V.int := by
  subst h
  unfold cutV
  rw [vec_lenV, sIx_of rfl (by omega)]
  have e : HT.sIx (a + b) (a + b) none = a + b := rfl
  rw [e]
  refine List.ext_getElem? fun i => ?_
  by_cases hi : i < b
  · rw [vecV_at hi, List.getElem?_take, if_pos (by omega), List.getElem?_drop, vecV_at (by omega)]
  · rw [List.getElem?_eq_none (by rw [List.length_take, List.length_drop, vec_lenV]; omega), List.getElem?_eq_none (by rw [vec_lenV]; omega)]
/-- unit columns -/
def one : Nat → El.Row := fun i j => if i = j then 1 else 0
theorem au_beside {A : Nat → El.Row} (hA : ∀ i j, A i j = A j i) (l : Nat → Nat) (r : Nat) : El.Beside (El.Au A l r one) r where
  sym := El.Au_sym hA l r one
  one := fun s t hs ht => by
    unfold El.Au one
    rw [if_pos hs, if_neg (by omega), Nat.add_sub_cancel_left]
  zero := fun i j hi hj => by
    unfold El.Au
    rw [if_neg (by omega), if_neg (by omega)]
theorem au_abs {A : Nat → El.Row} {l : Nat → Nat} {r : Nat} {bd : Int} (b1 : 1 ≤ bd) (hA : ∀ i j, -bd ≤ A i j ∧ A i j ≤ bd) (i j : Nat) : -bd ≤ El.Au A l r one i j ∧ El.Au A l r one i j ≤ bd := by
  unfold El.Au one
  by_cases c1 : i < r <;> by_cases c2 : j < r <;> simp only [c1, c2, if_true, if_false]
  · exact hA _ _
  · split <;> omega
  · split <;> omega
  · omega
/-- the bounds of the table while it is cleared -/
theorem gj_B {A : Nat → El.Row} (hA : ∀ i j, A i j = A j i) {l : Nat → Nat} {r w : Nat} {bd : Int} (b1 : 1 ≤ bd) (hb : ∀ i j, -bd ≤ A i j ∧ A i j ≤ bd) (hw : B w (El.bnd bd (r + 1))) {k : Nat} {d : Int} {B' : Nat → El.Row} {ps : List El.Pv} (run : El.Run (El.Au A l r one) k (El.rs k) d B' ps) (hk : k ≤ r) : (∀ i j, i < r → B w (El.GJ B' r k d i j)) ∧ 0 < d ∧ B w d := by
  have sy := El.Au_sym hA l r one
  have inv := run.inv sy
  have m1 := El.bnd_mono b1 (show k + 1 ≤ r + 1 by omega)
  have m2 := El.bnd_mono b1 (show k ≤ r + 1 by omega)
  have hw' : (El.bnd bd (r + 1)).natAbs < 2 ^ w := hw
  have db := El.Run.dbound inv run.many bd b1 (au_abs b1 hb) run
  have dp := inv.dpos
  have p0 := El.bnd_pos b1 (r + 1)
  have dB : B w d := by show d.natAbs < 2 ^ w; omega
  have rB : ∀ i j, k ≤ i → B w (B' i j) := fun i j hi => by
    have := run.rbound sy bd b1 (au_abs b1 hb) hi j
    show (B' i j).natAbs < 2 ^ w
    omega
  refine ⟨fun i j hi => ?_, dp, dB⟩
  unfold El.GJ
  by_cases c1 : i < k
  · rw [if_pos c1]
    by_cases c2 : j < k
    · rw [if_pos c2]
      split
      · exact dB
      · show Int.natAbs 0 < 2 ^ w
        exact Nat.two_pow_pos w
    · rw [if_neg c2]
      show (-B' (r + i) j).natAbs < 2 ^ w
      rw [Int.natAbs_neg]
      exact rB (r + i) j (by omega)
  · rw [if_neg c1]
    exact rB i j (by omega)
theorem tm_rows {K : PySem.W.Frag} {H : Hp} {u : Addr} {vs : List V} {r : Nat} {N : Nat → El.Row} (hu : SqT K H u vs) (h : Rs (Fz K) H vs ((List.range r).map fun i => .tup ((vec r (N i)).map Td.int))) : Fz K H (.ref u) (tm r N) := by
  have e : (List.range r).map (fun i => Td.tup ((vec r (N i)).map Td.int)) = (mat r N).map fun x => .tup (x.map Td.int) := by
    unfold mat
    rw [List.map_map]
    rfl
  rw [e] at h
  exact .tup hu h.fz
section
variable {P : Program} {w : World} {K : PySem.W.Frag} {mg : Str → Option Value} {base : Heap} {f : Addr} {fd : FuncData} {cF cR : Addr}
def spBlock (K : PySem.W.Frag) : Sp := fun vs H Q _ => ∃ (v : V) (x : Addr) (n r w : Nat) (bd d : Int) (A : Nat → Nat → Int) (l : Nat → Nat) (B' : Nat → El.Row) (ps : List El.Pv), vs = [v, .ref x] ∧ Fz K H v (tm n A) ∧ SqL K H x ((vec r fun i => (l i : Int)).map V.int) ∧ r ≤ n ∧ n ≤ 10 ∧ (∀ i, i < r → l i < n) ∧ (∀ i j, A i j = A j i) ∧
  El.Run (El.Au A l r one) r (El.rs r) d B' ps ∧ 1 ≤ bd ∧ (∀ i j, -bd ≤ A i j ∧ A i j ≤ bd) ∧ B w (El.bnd bd (r + 1)) ∧ 0 < w ∧ w ≤ 9000 ∧
  ∀ t u H', Same H H' → SqT K H' t [.ref u, .int d] → Fz K H' (.ref u) (tm r fun i s => -B' (r + i) (r + s)) → Q (.ref t) H'
abbrev s_block_inverse : Stmt := top 37
abbrev N_block_inverse : List Str := ["entries", "indexes", "many", "table", "place", "index", "unit", "det", "pivot", "other", "line", "column"]
theorem sc_block_inverse : FnScope N_block_inverse ["entries", "indexes"] (defScope s_block_inverse) := ⟨rfl, rfl, rfl, by decide +kernel, rfl, by decide +kernel, by decide +kernel⟩
theorem ok_block_inverse (F : Fun K "block_inverse" "block_inverse" s_block_inverse f fd) (T : Txt mg) (C_cleared : Cal P w K mg base 1 "cleared" ["table", "at", "divisor"] (spCleared K)) : FnOk P w K mg base CX0 2 f fd ["entries", "indexes"] (spBlock K) := by
  refine F.ok sc_block_inverse (fun vs H Q E h => ?_) (fun cdv A outer s H vs Q E hr h => ?_)
  · obtain ⟨v, x, n, r, w, bd, d, M, l, B', ps, rfl, _⟩ := h
    rfl
  obtain ⟨v, x, n, r, w, bd, d, M, l, B', ps, rfl, hz, hx, hrn, n10, hl, sy, run, b1, hb, hw, w0, w9, q⟩ := h
  refine ⟨_, (pss_cons (ps_set (i := 2) sc_block_inverse.nd rfl (Or.inr rfl) (pe_callB call_len_seq (by rfl) T.b_len PySem.boot_len (pa_cons (pv 1) pa_nil)))
  (pss_cons (ps_set (i := 3) sc_block_inverse.nd rfl (Or.inl rfl) (pe_lst pa_nil))
  (pss_cons (ps_for PassesOwn.never rfl (pi_enum (by rfl) T.b_enumerate (pa_cons (pv 1) pa_nil)) (pg_tup rfl (pgs_cons (pg_name (i := 4) sc_block_inverse.nd rfl (Or.inr rfl)) (pgs_cons (pg_name (i := 5) sc_block_inverse.nd rfl (Or.inr rfl)) pgs_nil))) (pss_cons (ps_setLc (i := 6) (own := [("other", 9)]) (g := gName 9) (tt := tYes) (by rfl) sc_block_inverse.nd rfl rfl (sw_true rfl rfl rfl (by decide +kernel)) (pi_range1 (by rfl) T.b_range (pa_cons (pv 2) pa_nil)) (blkOk_by (N := N_block_inverse) (sc := defScope s_block_inverse) (by decide +kernel)) (fun _ _ _ _ _ => (pg_name (i := 9) sc_block_inverse.nd rfl (Or.inl rfl))) (fun _ _ _ _ _ => pts_nil) (fun _ _ _ _ _ => (pe_callTy call_int1 (by rfl) T.b_int (by decide +kernel) (pa_cons (pe_cmpR op_eq (pv 4) (pv 9) (nomark _)) pa_nil))))
  (pss_one (ps_expr (pe_bm PySem.F.plainAttrs_list PySem.F.slot_list_append PySem.F.type_list_append mt_append (pv 3) (pa_cons (pe_op op_cat (pe_lc (own := [("column", 11)]) (g := gName 11) (tt := tYes) (by rfl) sc_block_inverse.nd (pi_list (pv 1)) (blkOk_by (N := N_block_inverse) (sc := defScope s_block_inverse) (by decide +kernel)) (fun _ _ _ _ _ => (pg_name (i := 11) sc_block_inverse.nd rfl (Or.inl rfl))) (fun _ _ _ _ _ => pts_nil) (fun _ _ _ _ _ => (pe_ix (ix_tupK (K := K) rfl) (pe_ix (ix_tupK (K := K) rfl) (pv 0) (pv 5) (fun _ _ => rfl)) (pv 11) (fun _ _ => rfl)))) (pv 6)) pa_nil))))))
  (pss_cons (ps_set (i := 7) sc_block_inverse.nd rfl (Or.inl rfl) pe_int)
  (pss_cons (ps_for PassesOwn.never rfl (pi_range1 (by rfl) T.b_range (pa_cons (pv 2) pa_nil)) (pg_name (i := 4) sc_block_inverse.nd rfl (Or.inr rfl)) (pss_cons (ps_set (i := 8) sc_block_inverse.nd rfl (Or.inl rfl) (pe_ix ix_list /-?-/ (pe_ix ix_list (pv 3) (pv 4) (fun _ _ => rfl)) (pv 4) (fun _ _ => rfl)))
  (pss_cons (ps_set (i := 3) sc_block_inverse.nd rfl (Or.inl rfl) (pe_cal C_cleared (hr.mono (by omega)) rfl (pa_cons (pv 3) (pa_cons (pv 4) (pa_cons (pv 7) pa_nil)))))
  (pss_one (ps_set (i := 7) sc_block_inverse.nd rfl (Or.inl rfl) (pv 8))))))
  (pss_one (ps_ret (pe_tup (pa_cons (pe_callTy call_tuple_of (by rfl) T.b_tuple (by decide +kernel) (pa_cons (pe_lc (own := [("line", 10)]) (g := gName 10) (tt := tYes) (by rfl) sc_block_inverse.nd (pi_list (pv 3)) (blkOk_by (N := N_block_inverse) (sc := defScope s_block_inverse) (by decide +kernel)) (fun _ _ _ _ _ => (pg_name (i := 10) sc_block_inverse.nd rfl (Or.inl rfl))) (fun _ _ _ _ _ => pts_nil) (fun _ _ _ _ _ => (pe_callTy (call_tuple_ofK (K := K) rfl) (by rfl) T.b_tuple (by decide +kernel) (pa_cons (pe_slice (sl_listK (K := K) rfl) /-?-/ (pv 10) (po_some (pv 2)) po_none) pa_nil)))) pa_nil)) (pa_cons (pv 7) pa_nil)))))))))), ?_⟩
  obtain ⟨a, vs, rfl, ha, hvl, hrow⟩ := fz_mat hz
  rw [mat_len] at hvl
  have bs := au_beside sy l r
  refine ⟨_, rfl, _, _, rfl, .inl hx, ?_⟩
  rw [vec_lenV]
  refine ⟨line_ge (by decide), fun L hL => ?_⟩
  have sL := same_new hL (.lst [])
  refine ⟨_, rfl, x, _, rfl, sL.seq hx, for_it (walk_enum (K := K) (a := x) (xs := (vec r fun i => (l i : Int)).map V.int)) (fun i σ H1 => ∃ (v4 v5 v6 : Option V) (ps : List Addr), σ = [some (.ref a), some (.ref x), some (.int (r : Int)), some (.ref L), v4, v5, v6, none, none, none, none, none] ∧ GT H H1 L ps (r + r) i (El.Au M l r one)) ⟨none, none, none, [], rfl, GT.start hL⟩ (fun i σ H' _ ⟨_, _, _, _, _, g⟩ => g.same.seq hx) ?_ ?_⟩
  · rintro i y σ H1 H2 hi ⟨v4, v5, v6, ps, rfl, g⟩ yl
    have s2 := ys_pair yl
    obtain ⟨Tp, x1, x2, rfl, hT, rfl, e1, e2⟩ := yl
    cases e1
    rw [vec_lenV] at hi
    have ex := (show ((vec r fun i => (l i : Int)).map V.int)[i]? = some x2 from e2).symm.trans (vecV_at hi)
    cases ex
    have gl := g.len
    have s02 := g.same.trans s2
    refine ⟨_, _, rfl, SqT.of upd_same, rfl, _, _, rfl, _, _, rfl, rfl, ?_⟩
    refine ⟨_, rfl, (r : Int), rfl, by omega, by omega, fun D hD => ?_⟩
    refine lc_m (walk_range (lo := 0) (n := r)) RI (stb_RI (K := K)) (List.range r) (by rw [List.length_range]) (by rw [List.length_range]; omega) hD (fun _ _ => trivial) (fun _ _ _ _ => ys_fn) (fun j => one i j) (fun c j u H3 H4 hc s3 s4 yl A B hA => ?_) (fun H3 l1 s3 hl1 rz => ?_)
    · obtain ⟨hc1, rfl⟩ := in_range hc
      rw [yl.2]
      refine ⟨rfl, lc_yes ⟨_, rfl, _, rfl, rfl, .inr ⟨_, rfl, hA _ _ (fun _ _ h => h) ?_⟩⟩⟩
      show V.int _ = V.int (one i j)
      unfold one
      by_cases e : i = j
      · rw [if_pos e, int_eq (by omega), if_pos rfl]
      · rw [if_neg e, int_ne (by omega), if_neg Bool.false_ne_true]
    · have hDL : D ≠ L := fun z => by rw [z, s2 _ _ g.at_] at hD; cases hD
      have hD3 : H3 D = some (.lst ((vec r (one i)).map V.int)) := by rw [hl1, rz.ints]; rfl
      have s03 := s02.trans s3
      refine ⟨_, rfl, tyV_of (s3 _ _ (s2 _ _ g.at_)), _, rfl, x, rfl, ⟨_, s03.seq hx⟩, fun D2 hD2 => ?_⟩
      obtain ⟨pe, hpe, hpr⟩ := hrow (l i) _ (mat_at (hl i hi))
      refine lc_m (walk_list (K := K) (a := x) (xs := (vec r fun i => (l i : Int)).map V.int)) RI (stb_RI (K := K)) (List.range r) (by rw [vec_lenV, List.length_range]) (by rw [List.length_range]; omega) hD2 (fun H' s => (s03.trans s).seq hx) (fun _ _ _ _ => ys_at) (fun j => M (l i) (l j)) (fun c j u H4 H5 hc s4 s5 yl A B hA => ?_) (fun H4 l2 s4 hl2 rz2 => ?_)
      · obtain ⟨hc1, rfl⟩ := in_range hc
        have e := yl.2
        rw [vecV_at hc1] at e
        cases e
        have s05 := s03.trans s5
        exact ⟨rfl, lc_yes ⟨_, rfl, _, rfl, a, _, _, _, rfl, rfl, Same_seqT s05 ha, at_pos (by omega) (by rw [Int.toNat_natCast]; exact hpe), _, rfl, pe, _, _, _, rfl, rfl, Same_seqT s05 hpr, at_pos (by omega) (by rw [Int.toNat_natCast]; exact vecV_at (hl j hc1)), hA _ _ (fun _ _ h => h) rfl⟩⟩
      · have hD4 : H4 D2 = some (.lst ((vec r fun j => M (l i) (l j)).map V.int)) := by rw [hl2, rz2.ints]; rfl
        refine ⟨_, rfl, D2, D, _, _, rfl, rfl, hD4, s4 _ _ hD3, ?_, fun R hR => ?_⟩
        · rw [vec_lenV, vec_lenV]
          exact line_ge (by omega)
        have hRL : R ≠ L := fun z => by rw [z, s4 _ _ (s3 _ _ (s2 _ _ g.at_))] at hR; cases hR
        have sR := same_new hR (.lst ((vec r fun j => M (l i) (l j)).map V.int ++ (vec r (one i)).map V.int))
        have s6 := s2.trans (s3.trans (s4.trans sR))
        refine ⟨L, _, _, rfl, rfl, (s3.trans (s4.trans sR)) _ _ (s2 _ _ g.at_), ?_, ?_⟩
        · rw [List.length_map, gl]
          exact Nat.lt_of_lt_of_le (by omega : i < 1001) (line_ge (by decide))
        · refine ⟨_, _, _, ps ++ [R], rfl, g.snoc hL s6 ?_ hRL⟩
          rw [upd_same, vec_cat]
          congr 3
          refine vec_congr fun j hj => ?_
          unfold El.Au
          rw [if_pos hi]
  rintro σ H1 ⟨v4, v5, v6, ps0, rfl, g⟩
  rw [vec_lenV] at g
  refine ⟨_, rfl, (r : Int), rfl, by omega, by omega, for_range (lo := 0) (n := r) (fun k σ H2 => ∃ (v4 v8 : Option V) (tb : Addr) (d : Int) (B' : Nat → El.Row) (ps : List El.Pv), σ = [some (.ref a), some (.ref x), some (.int (r : Int)), some (.ref tb), v4, v5, v6, some (.int d), v8, none, none, none] ∧ El.Run (El.Au M l r one) k (El.rs k) d B' ps ∧ Same H H2 ∧ RTab H2 tb r (r + r) (El.GJ B' r k d)) ⟨v4, none, L, 1, _, _, rfl, .begin, g.same, g.rtab.congr fun i j _ _ => by unfold El.GJ; rw [if_neg (by omega)]⟩ ?_ ?_⟩
  · rintro k σ H2 hk ⟨v4, v8, tb, dk, Bk, psk, rfl, rk, sH, ht⟩
    obtain ⟨d2, B2, ps2, r2, hp⟩ := run.steps bs.sym k hk
    obtain ⟨_, e1, e2, _⟩ := r2.same rk
    subst e1 e2
    obtain ⟨gB, dp, dB⟩ := gj_B sy b1 hb hw rk (by omega)
    obtain ⟨rs2, h1, h2, h3⟩ := id ht
    obtain ⟨pk, hpk, hpkr⟩ := h3 k hk
    have e0 : (0 + (k : Int)).toNat = k := by omega
    refine ⟨_, rfl, _, rfl, tb, _, _, _, rfl, rfl, SqL.of h1, at_pos (by omega) (by rw [e0, List.getElem?_map, hpk]; rfl), _, rfl, pk, _, _, _, rfl, rfl, SqL.of hpkr, at_pos (by omega) (by rw [e0]; exact vecV_at (by omega)), ?_⟩
    refine ⟨_, rfl, _, rfl, _, rfl, tb, r, r + r, k, w, d2, _, by rw [Int.zero_add]; rfl, ht, by omega, by omega, hk, by omega, fun i j hi _ => gB i j hi, dp, dB, w0, w9, fun t H3 s3 ht3 => ?_⟩
    have pv := rk.pivot hp
    rw [← El.rs_succ] at pv
    have eg : El.GJ B2 r k d2 k k = B2 k k := by unfold El.GJ; rw [if_neg (by omega)]
    exact ⟨_, rfl, _, _, t, El.GJ B2 r k d2 k k, El.redu B2 k d2, _, rfl, by rw [eg]; exact pv, sH.trans s3, by rw [eg]; exact ht3.congr fun i j hi _ => rk.cleared bs hp hk hi j⟩
  rintro σ H2 ⟨v4, v8, tb, d2, B2, ps2, rfl, r2, sH, ht⟩
  obtain ⟨_, e1, e2, _⟩ := r2.same run
  subst e1 e2
  obtain ⟨rs2, h1, h2, h3⟩ := ht
  refine ⟨_, rfl, tb, rfl, ⟨_, SqL.of h1⟩, fun D hD => ?_⟩
  refine lc_m (walk_list (K := K) (a := tb) (xs := rs2.map V.ref)) (Fz K) stb_Fz (List.range r) (by rw [List.length_map, List.length_range, h2]) (by rw [List.length_range]; omega) hD (fun H' s => s.seq (SqL.of h1)) (fun _ _ _ _ => ys_at) (fun i => .tup ((vec r fun s => -B2 (r + i) (r + s)).map Td.int)) (fun c i u H3 H4 hc s3 s4 yl A B hA => ?_) (fun H3 l1 s3 hl1 rz => ?_)
  · obtain ⟨hc1, rfl⟩ := in_range hc
    obtain ⟨p, hp1, hp2⟩ := h3 i hc1
    have e := yl.2
    rw [List.getElem?_map, hp1] at e
    cases e
    refine ⟨rfl, lc_yes ⟨_, rfl, _, rfl, _, rfl, p, _, rfl, SqL.of (s4 _ _ hp2), fun l2 hl2 => ?_⟩⟩
    refine ⟨l2, _, rfl, .inl ⟨SqL.of upd_same, fun t ht => ?_⟩⟩
    refine hA _ _ ((same_new hl2 _).trans (same_new ht _)) (.tup (SqT.of ?_) (FzAll.of_ints _))
    rw [upd_same, cut_tail (a := r) (b := r) rfl]
    congr 3
    refine vec_congr fun s hs => ?_
    unfold El.GJ
    rw [if_pos hc1, if_neg (by omega)]
  · refine ⟨D, l1, rfl, .inl ⟨SqL.of hl1, fun u hu => ?_⟩⟩
    have su := same_new hu (.tup l1)
    refine ⟨_, rfl, two_line, fun t ht => ?_⟩
    have st := same_new ht (.tup [.ref u, .int d2])
    exact q t u _ (sH.trans (s3.trans (su.trans st))) (SqT.of upd_same) (tm_rows (Same_seqT st (SqT.of upd_same)) (rz.tk stb_Fz fun _ _ h => Same_seqT (su.trans st) h))
end
end P09
set_option exponentiation.threshold 80000
namespace P09
open PySem PySem.Spec PyProof.Rows L2 SX EX WK
section
variable {P : Program} {w : World} {K : PySem.W.Frag} {mg : Str → Option Value} {base : Heap} {f : Addr} {fd : FuncData} {cF cR : Addr}
abbrev s_vector : Stmt := top 16
abbrev N_vector : List Str := ["numbers", "bottom", "number"]
theorem sc_vector : FnScope N_vector ["numbers", "bottom"] (defScope s_vector) := ⟨rfl, rfl, rfl, by decide +kernel, rfl, by decide +kernel, by decide +kernel⟩
theorem ok_vector (F : Fun K "vector" "vector" s_vector f fd) (T : Txt mg) (C_lowered : Cal P w K mg base 1 "lowered" ["numbers", "bottom"] spLow) : FnOk P w K mg base CX0 2 f fd ["numbers", "bottom"] spLow := by
  refine F.ok sc_vector (fun vs H Q E h => ?_) (fun cdv A outer s H vs Q E hr h => ?_)
  · obtain ⟨l, ns, b, rfl, _⟩ := h
    rfl
  obtain ⟨l, ns, b, rfl, hl, hb, hB, hn, q⟩ := h
  refine ⟨_, (pss_cons (ps_if (pt_cmpR op_eq (pv 1) pe_int (nomark _)) (pss_one ps_never) pss_nil)
  (pss_cons (ps_if (pt_cmpR op_lt (pv 1) pe_int (nomark _)) (pss_one (ps_ret (pe_cal C_lowered (hr.mono (by omega)) rfl (pa_cons (pe_lc (own := [("number", 2)]) (g := gName 2) (tt := tYes) (by rfl) sc_vector.nd (pi_list (pv 0)) (blkOk_by (N := N_vector) (sc := defScope s_vector) (by decide +kernel)) (fun _ _ _ _ _ => (pg_name (i := 2) sc_vector.nd rfl (Or.inl rfl))) (fun _ _ _ _ _ => pts_nil) (fun _ _ _ _ _ => (pe_un un_neg (pv 2)))) (pa_cons (pe_un un_neg (pv 1)) pa_nil))))) pss_nil)
  (pss_one (ps_ret (pe_cal C_lowered (hr.mono (by omega)) rfl (pa_cons (pv 0) (pa_cons (pv 1) pa_nil))))))), ?_⟩
  refine ⟨_, rfl, rfl, _, rfl, ifF (int_ne (by omega)) ?_⟩
  refine ⟨_, rfl, _, _, rfl, rfl, _, rfl, ifF (decide_eq_false (by omega)) ?_⟩
  exact ⟨_, rfl, _, rfl, l, ns, b, rfl, hl, hb, hB, hn, q⟩
def spDotL (K : PySem.W.Frag) : Sp := fun vs H Q _ => ∃ (v1 v2 : V) (n k1 k2 : Nat) (x y : Nat → Int), vs = [v1, v2] ∧ Sn K H v1 (tv n x) ∧ Sn K H v2 (tv n y) ∧ n ≤ 1000 ∧ (∀ i, i < n → B k1 (x i)) ∧ (∀ i, i < n → B k2 (y i)) ∧ 0 < k1 ∧ 0 < k2 ∧ k1 + k2 ≤ 900000 ∧
  ∀ H', Same H H' → Q (.int (S n fun i => x i * y i)) H'
abbrev s_dot : Stmt := top 17
abbrev N_dot : List Str := ["one", "two", "first", "second"]
theorem sc_dot : FnScope N_dot ["one", "two"] (defScope s_dot) := ⟨rfl, rfl, rfl, by decide +kernel, rfl, by decide +kernel, by decide +kernel⟩
theorem ok_dot (F : Fun K "dot" "dot" s_dot f fd) (T : Txt mg) : FnOk P w K mg base CX0 1 f fd ["one", "two"] (spDotL K) := by
  refine F.ok sc_dot (fun vs H Q E h => ?_) (fun cdv A outer s H vs Q E hr h => ?_)
  · obtain ⟨v1, v2, n, k1, k2, x, y, rfl, _⟩ := h
    rfl
  obtain ⟨v1, v2, n, k1, k2, x, y, rfl, h1, h2, hn, hx, hy, p1, p2, hk, q⟩ := h
  refine ⟨_, (pss_one (ps_ret (pe_callB (cr_sum rfl) (by rfl) T.b_sum (by decide +kernel) (pa_cons (pe_lc (own := [("first", 2), ("second", 3)]) (tt := tYes) (by rfl) sc_dot.nd (WZ.pi_zipB (by rfl) T.b_zip (pa_cons (pv 0) (pa_cons (pv 1) pa_nil))) (blkOk_by (N := N_dot) (sc := defScope s_dot) (by decide +kernel)) (fun _ _ _ _ _ => (pg_tupK (K := K) (n := 2) rfl rfl (pgs_cons (pg_name (i := 2) sc_dot.nd rfl (Or.inl rfl)) (pgs_cons (pg_name (i := 3) sc_dot.nd rfl (Or.inl rfl)) pgs_nil)))) (fun _ _ _ _ _ => pts_nil) (fun _ _ _ _ _ => (pe_op op_mulW (pv 2) (pv 3)))) pa_nil)))), ?_⟩
  obtain ⟨k, a, rfl, ha⟩ := sn_ints h1
  obtain ⟨l, b, rfl, hb⟩ := sn_ints h2
  refine ⟨_, rfl, _, rfl, k, l, a, b, _, _, rfl, ha, hb, fun D hD => ?_⟩
  refine lc_m (WZ.walk_zA (K := K) (k := k) (l := l) (a := a) (b := b) (xs := (vec n x).map V.int) (ys := (vec n y).map V.int) (n := n) vec_lenV.symm vec_lenV.symm) RI (stb_RI (K := K)) (List.range n) (by rw [List.length_range]) (by rw [List.length_range]; omega) hD (fun H' s => ⟨sq_same s ha, sq_same s hb⟩) (fun _ _ _ _ => ys_pair) (fun i => x i * y i) (fun c i v H1 H2 hc s1 s2 yl A B hA => ?_) (fun H' l1 s1 hl1 rs => ?_)
  · obtain ⟨hc1, rfl⟩ := in_range hc
    obtain ⟨Tp, x1, x2, rfl, hT, rfl, e1, e2⟩ := yl
    have e3 := (show ((vec n x).map V.int)[i]? = some x1 from e1).symm.trans (vecV_at hc1)
    have e4 := (show ((vec n y).map V.int)[i]? = some x2 from e2).symm.trans (vecV_at hc1)
    cases e3
    cases e4
    exact ⟨_, _, rfl, SqT.of upd_same, rfl, _, _, rfl, _, _, rfl, rfl, rfl, lc_yes ⟨_, rfl, _, rfl, _, _, rfl, rfl, wmul (hx i hc1) (hy i hc1) p1 p2 (by omega), hA _ _ (fun _ _ h => h) rfl⟩⟩
  · exact ⟨D, _, rfl, SqL.of (by rw [hl1, rs.ints]), q H' s1⟩
def spPoint (K : PySem.W.Frag) (cF : Addr) : Sp := fun vs H Q _ => ∃ (p : Addr) (v : V) (n : Nat) (m : List (List Int)) (b : Int) (ns : List Int), vs = [.ref p, v] ∧ FormAt K H cF p n m b ∧ Sn K H v (.tup (ns.map Td.int)) ∧ ns.length = n ∧ Q .non H
abbrev s_check_point : Stmt := top 22
abbrev N_check_point : List Str := ["form", "point"]
theorem sc_check_point : FnScope N_check_point ["form", "point"] (defScope s_check_point) := ⟨rfl, rfl, rfl, by decide +kernel, rfl, by decide +kernel, by decide +kernel⟩
theorem ok_check_point (F : Fun K "check_point" "check_point" s_check_point f fd) (T : Txt mg) (O : Obs K cF cR) : FnOk P w K mg base CX0 1 f fd ["form", "point"] (spPoint K cF) := by
  refine F.ok sc_check_point (fun vs H Q E h => ?_) (fun cdv A outer s H vs Q E hr h => ?_)
  · obtain ⟨p, v, n, m, b, ns, rfl, _⟩ := h
    rfl
  obtain ⟨p, v, n, m, b, ns, rfl, hp, hv, hn, q⟩ := h
  refine ⟨_, (pss_one (ps_if (pt_cmpR op_ne (pe_callB call_len_seq (by rfl) T.b_len PySem.boot_len (pa_cons (pv 1) pa_nil)) (pe_fld (pv 0) rfl) (nomark _)) (pss_one ps_never) pss_nil)), ?_⟩
  obtain ⟨k, a, rfl, ha⟩ := sn_ints hv
  obtain ⟨dx, e, h1, h2⟩ := hp
  refine ⟨_, rfl, _, _, rfl, sq_or ha, _, rfl, p, cF, dx, _, _, rfl, h1, O.clF, O.F_size, lkFs _ _ _, rfl, _, rfl, ifF ?_ q⟩
  rw [List.length_map, hn]
  simp
/-- the value between two points -/
def bil (n : Nat) (f : Nat → Nat → Int) (x y : Nat → Int) : Int := S n fun i => x i * S n fun j => f i j * y j
def spBetw (K : PySem.W.Frag) (cF : Addr) : Sp := fun vs H Q _ => ∃ (p : Addr) (v1 v2 : V) (n : Nat) (g : Nat → Nat → Int) (b : Int) (x y : Nat → Int), vs = [.ref p, v1, v2] ∧ FormAt K H cF p n (mat n g) b ∧ Sn K H v1 (tv n x) ∧ Sn K H v2 (tv n y) ∧ n ≤ 16 ∧ 0 < b ∧ B 9000 b ∧
  (∀ i, i < n → B 60000 (x i)) ∧ (∀ i, i < n → B 60000 (y i)) ∧ (∀ i j, i < n → j < n → B 9000 (g i j)) ∧ ∀ r H', Same H H' → FrAt H' r (bil n g x y / gI (bil n g x y) b) (b / gI (bil n g x y) b) → Q (.ref r) H'
abbrev s_mbetween : Stmt := mth 24 7
abbrev N_mbetween : List Str := ["self", "one", "two", "line"]
theorem sc_mbetween : FnScope N_mbetween ["self", "one", "two"] (defScope s_mbetween) := ⟨rfl, rfl, rfl, by decide +kernel, rfl, by decide +kernel, by decide +kernel⟩
theorem ok_mbetween (F : Fun K "between" "Form.between" s_mbetween f fd) (T : Txt mg) (O : Obs K cF cR) (C_check_point : Cal P w K mg base 1 "check_point" ["form", "point"] (spPoint K cF)) (C_fraction : Cal P w K mg base 1 "fraction" ["top", "bottom"] spFraction) (C_dot : Cal P w K mg base 1 "dot" ["one", "two"] (spDotL K)) :
    FnOk P w K mg base CX0 2 f fd ["self", "one", "two"] (spBetw K cF) := by
  refine F.ok sc_mbetween (fun vs H Q E h => ?_) (fun cdv A outer s H vs Q E hr h => ?_)
  · obtain ⟨p, v1, v2, n, g, b, x, y, rfl, _⟩ := h
    rfl
  obtain ⟨p, v1, v2, n, g, b, x, y, rfl, hp, h1, h2, hn, hb, hB, bx, by_, bg, q⟩ := h
  refine ⟨_, (pss_cons (ps_expr (pe_cal C_check_point (hr.mono (by omega)) rfl (pa_cons (pv 0) (pa_cons (pv 1) pa_nil))))
  (pss_cons (ps_expr (pe_cal C_check_point (hr.mono (by omega)) rfl (pa_cons (pv 0) (pa_cons (pv 2) pa_nil))))
  (pss_one (ps_ret (pe_cal C_fraction (hr.mono (by omega)) rfl (pa_cons (pe_cal C_dot (hr.mono (by omega)) rfl (pa_cons (pv 1) (pa_cons (pe_lc (own := [("line", 3)]) (g := gName 3) (tt := tYes) (by rfl) sc_mbetween.nd (pi_tup (pe_fld (pv 0) rfl)) (blkOk_by (N := N_mbetween) (sc := defScope s_mbetween) (by decide +kernel)) (fun _ _ _ _ _ => (pg_name (i := 3) sc_mbetween.nd rfl (Or.inl rfl))) (fun _ _ _ _ _ => pts_nil) (fun _ _ _ _ _ => (pe_cal C_dot (hr.mono (by omega)) rfl (pa_cons (pv 3) (pa_cons (pv 2) pa_nil))))) pa_nil))) (pa_cons (pe_fld (pv 0) rfl) pa_nil))))))), ?_⟩
  refine ⟨_, rfl, _, rfl, p, v1, n, _, b, _, rfl, hp, h1, vec_len, ?_⟩
  refine ⟨_, rfl, _, rfl, p, v2, n, _, b, _, rfl, hp, h2, vec_len, ?_⟩
  obtain ⟨dx, e, hi, hz⟩ := hp
  obtain ⟨a, vs, ea, he, hl, hrow⟩ := fz_mat hz
  cases ea
  rw [mat_len] at hl
  refine ⟨_, rfl, _, rfl, p, cF, dx, _, _, rfl, hi, O.clF, O.F_entries, lkFe _ _ _, e, rfl, ⟨_, he⟩, fun D hD => ?_⟩
  refine lc_m (walk_tup (K := K) (a := e) (xs := vs)) RI (stb_RI (K := K)) (List.range n) (by rw [hl, List.length_range]) (by rw [List.length_range]; omega) hD (fun H' s => Same_seqT s he) (fun _ _ _ _ => ys_at) (fun i => S n fun j => g i j * y j) (fun c i v H1 H2 hc s1 s2 yl A B hA => ?_) (fun H3 l1 s3 hl1 rs => ?_)
  · obtain ⟨hc1, rfl⟩ := in_range hc
    obtain ⟨p1, hp1, hp2⟩ := hrow i _ (mat_at hc1)
    rw [yl.2] at hp1
    cases hp1
    exact ⟨rfl, lc_yes ⟨_, rfl, _, rfl, _, _, n, 9000, 60000, g i, y, rfl, .tup (Same_seqT s2 hp2) (FzAll.of_ints _).sn, h2.same s2, by omega, fun j hj => bg i j hc1 hj, by_, by decide, by decide, by decide, fun H' s => hA _ _ s rfl⟩⟩
  · have hD2 : H3 D = some (.lst ((vec n fun i => S n fun j => g i j * y j).map V.int)) := by rw [hl1, rs.ints]; rfl
    refine ⟨_, _, n, 60000, 69004, x, _, rfl, h1.same s3, .lst hD2 (FzAll.of_ints _).sn, by omega, bx, fun i hi => ?_, by decide, by decide, by decide, fun H4 s4 => ?_⟩
    · exact BS (k := 69000) (c := 4) (fun j hj => (P09.B.mul (m := 9000) (n := 60000) (bg i j hi hj) (by_ j hj)).mono (Nat.le_of_ble_eq_true rfl)) hn
    · refine ⟨_, rfl, p, cF, dx, _, _, rfl, s4 _ _ (s3 _ _ hi), O.clF, O.F_bottom, lkFb _ _ _, _, _, rfl, hb, hB, fun r H5 s5 hr => q r H5 (s3.trans (s4.trans s5)) hr⟩
def spCall (K : PySem.W.Frag) (cF : Addr) : Sp := fun vs H Q _ => ∃ (p : Addr) (v1 : V) (n : Nat) (g : Nat → Nat → Int) (b : Int) (x : Nat → Int), vs = [.ref p, v1] ∧ FormAt K H cF p n (mat n g) b ∧ Sn K H v1 (tv n x) ∧ n ≤ 16 ∧ 0 < b ∧ B 9000 b ∧
  (∀ i, i < n → B 60000 (x i)) ∧ (∀ i j, i < n → j < n → B 9000 (g i j)) ∧ ∀ r H', Same H H' → FrAt H' r (bil n g x x / gI (bil n g x x) b) (b / gI (bil n g x x) b) → Q (.ref r) H'
abbrev s_mcall : Stmt := mth 24 6
abbrev N_mcall : List Str := ["self", "point"]
theorem sc_mcall : FnScope N_mcall ["self", "point"] (defScope s_mcall) := ⟨rfl, rfl, rfl, by decide +kernel, rfl, by decide +kernel, by decide +kernel⟩
theorem ok_mcall (F : Fun K "__call__" "Form.__call__" s_mcall f fd) (T : Txt mg) (O : Obs K cF cR) (C_mbetween : CalM P w K mg base 2 cF "between" ["self", "one", "two"] (spBetw K cF)) : FnOk P w K mg base CX0 3 f fd ["self", "point"] (spCall K cF) := by
  refine F.ok sc_mcall (fun vs H Q E h => ?_) (fun cdv A outer s H vs Q E hr h => ?_)
  · obtain ⟨p, v1, n, g, b, x, rfl, _⟩ := h
    rfl
  obtain ⟨p, v1, n, g, b, x, rfl, hp, h1, hn, hb, hB, bx, bg, q⟩ := h
  refine ⟨_, (pss_one (ps_ret (pe_calM O.clF C_mbetween (hr.mono (by omega)) (pv 0) (pa_cons (pv 1) (pa_cons (pv 1) pa_nil))))), ?_⟩
  obtain ⟨dx, e, hi, hz⟩ := id hp
  exact ⟨_, rfl, p, dx, _, rfl, hi, lkFx _ _ _ (by decide +kernel) (by decide +kernel) (by decide +kernel), _, rfl, _, rfl, p, v1, v1, n, g, b, x, x, rfl, hp, h1, h1, hn, hb, hB, bx, bx, bg, q⟩
/-- at: the numbers over a divisor -/
def spAt (K : PySem.W.Frag) (cF : Addr) : Sp := fun vs H Q _ => ∃ (p t : Addr) (v1 : V) (d : Int) (n : Nat) (g : Nat → Nat → Int) (b : Int) (x : Nat → Int), vs = [.ref p, .ref t] ∧ H t = some (.tup [v1, .int d]) ∧ FormAt K H cF p n (mat n g) b ∧ Sn K H v1 (tv n x) ∧ n ≤ 16 ∧ 0 < b ∧ B 1000 b ∧ 0 < d ∧ B 2000 d ∧
  (∀ i, i < n → B 3000 (x i)) ∧ (∀ i j, i < n → j < n → B 1000 (g i j)) ∧ ∀ r H' u v, Same H H' → 0 < v → u * (b * d * d) = bil n g x x * v → gI u v = 1 → B 5000 v → B 7008 u → FrAt H' r u v → Q (.ref r) H'
abbrev s_mat : Stmt := mth 24 8
abbrev N_mat : List Str := ["self", "passed", "numbers", "divisor", "top", "bottom"]
theorem sc_mat : FnScope N_mat ["self", "passed"] (defScope s_mat) := ⟨rfl, rfl, rfl, by decide +kernel, rfl, by decide +kernel, by decide +kernel⟩
theorem ok_mat (F : Fun K "at" "Form.at" s_mat f fd) (T : Txt mg) (O : Obs K cF cR) (C_fraction : Cal P w K mg base 1 "fraction" ["top", "bottom"] spFraction) (C_mbetween : CalM P w K mg base 2 cF "between" ["self", "one", "two"] (spBetw K cF)) : FnOk P w K mg base CX0 3 f fd ["self", "passed"] (spAt K cF) := by
  refine F.ok sc_mat (fun vs H Q E h => ?_) (fun cdv A outer s H vs Q E hr h => ?_)
  · obtain ⟨p, t, v1, d, n, g, b, x, rfl, _⟩ := h
    rfl
  obtain ⟨p, t, v1, d, n, g, b, x, rfl, ht, hp, h1, hn, hb, hB, hd, hdB, bx, bg, q⟩ := h
  refine ⟨_, (pss_cons (ps_asg (pv 1) (pg_tup rfl (pgs_cons (pg_name (i := 2) sc_mat.nd rfl (Or.inl rfl)) (pgs_cons (pg_name (i := 3) sc_mat.nd rfl (Or.inl rfl)) pgs_nil))))
  (pss_cons (ps_asg (pe_calM O.clF C_mbetween (hr.mono (by omega)) (pv 0) (pa_cons (pv 2) (pa_cons (pv 2) pa_nil))) (pg_tup rfl (pgs_cons (pg_name (i := 4) sc_mat.nd rfl (Or.inl rfl)) (pgs_cons (pg_name (i := 5) sc_mat.nd rfl (Or.inl rfl)) pgs_nil))))
  (pss_one (ps_ret (pe_cal C_fraction (hr.mono (by omega)) rfl (pa_cons (pv 4) (pa_cons (pe_op op_mulW (pe_op op_mulW (pv 5) (pv 3)) (pv 3)) pa_nil))))))), ?_⟩
  obtain ⟨dx, e, hi, hz⟩ := id hp
  refine ⟨_, rfl, _, _, rfl, SqT.of ht, rfl, _, _, rfl, _, _, rfl, rfl, ?_⟩
  refine ⟨_, rfl, p, dx, _, rfl, hi, lkFx _ _ _ (by decide +kernel) (by decide +kernel) (by decide +kernel), _, rfl, _, rfl, p, v1, v1, n, g, b, x, x, rfl, hp, h1, h1, hn, hb, hB.mono (by decide), fun i hi => (bx i hi).mono (by decide), fun i hi => (bx i hi).mono (by decide), fun i j hi hj => (bg i j hi hj).mono (by decide), fun r H1 s1 hr1 => ?_⟩
  have g1 := gI_pos' (t := bil n g x x) hb
  have db := gI_dvd2 (t := bil n g x x) (b := b)
  have dt := gI_dvd1 (t := bil n g x x) (b := b)
  generalize gI (bil n g x x) b = c at g1 db dt hr1
  have h0 := quot_pos g1 db (by omega)
  have hbc : B 1000 (b / c) := B.div g1 hB
  refine ⟨_, _, rfl, SqT.of hr1, rfl, _, _, rfl, _, _, rfl, rfl, ?_⟩
  refine ⟨_, rfl, _, rfl, _, rfl, _, _, rfl, rfl, wmul hbc hdB (by decide) (by decide) (by decide), _, rfl, _, _, rfl, rfl, wmul (m := 3000) (B.mul (m := 1000) (n := 2000) hbc hdB) hdB (by decide) (by decide) (by decide), ?_⟩
  have hbot : 0 < b / c * d * d := Int.mul_pos (Int.mul_pos (by omega) hd) hd
  have hbB : B 5000 (b / c * d * d) := B.mul (m := 3000) (n := 2000) (B.mul (m := 1000) (n := 2000) hbc hdB) hdB
  have hbil : B 7008 (bil n g x x) := BS (k := 7004) (c := 4) (fun i hi => B.mul (m := 3000) (n := 4004) (bx i hi) (BS (k := 4000) (c := 4) (fun j hj => B.mul (m := 1000) (n := 3000) (bg i j hi hj) (bx j hj)) hn)) hn
  refine ⟨_, _, rfl, hbot, hbB.mono (by decide), fun r2 H2 s2 hr2 => ?_⟩
  have g2 := gI_pos' (t := bil n g x x / c) hbot
  have h2 := quot_pos g2 (gI_dvd2 (t := bil n g x x / c) (b := b / c * d * d)) (by omega)
  refine q r2 H2 _ _ (s1.trans s2) (by omega) ?_ (gI_one hbot) (B.div g2 hbB) (B.div g2 (B.div g1 hbil)) hr2
  refine cross2 g2 gI_dvd1 gI_dvd2 ?_
  have e1 := cross g1 dt db
  have e2 : bil n g x x / c * (b * d * d) = bil n g x x / c * b * d * d := by simp only [Int.mul_assoc]
  rw [e2, e1]
  simp only [Int.mul_assoc]
end
end P09
namespace PySem.El
/-! Determinants of any table by elimination with exchanges of rows. -/
def rws (u : Nat → Row) : Nat → List Row
  | 0 => []
  | n + 1 => u n :: rws u n
def clm : Nat → List Nat
  | 0 => []
  | n + 1 => n :: clm n
/-- the determinant of the first n rows and columns -/
def dt (u : Nat → Row) (n : Nat) : Int := D (clm n) (rws u n)
theorem rws_len (u : Nat → Row) : ∀ n, (rws u n).length = n
  | 0 => rfl
  | n + 1 => by rw [rws, List.length_cons, rws_len u n]
theorem clm_len : ∀ n, (clm n).length = n
  | 0 => rfl
  | n + 1 => by rw [clm, List.length_cons, clm_len n]
theorem clm_mem {x : Nat} : ∀ {n}, x ∈ clm n ↔ x < n
  | 0 => by simp [clm]
  | n + 1 => by rw [clm, List.mem_cons, clm_mem]; omega
theorem rws_mem {u : Nat → Row} {r : Row} : ∀ {n}, r ∈ rws u n → ∃ i, i < n ∧ r = u i
  | 0, h => by simp [rws] at h
  | n + 1, h => by
    rw [rws, List.mem_cons] at h
    rcases h with h | h
    · exact ⟨n, by omega, h⟩
    · obtain ⟨i, h1, h2⟩ := rws_mem h
      exact ⟨i, by omega, h2⟩
theorem rws_congr {u v : Nat → Row} : ∀ {n}, (∀ i, i < n → u i = v i) → rws u n = rws v n
  | 0, _ => rfl
  | n + 1, h => by rw [rws, rws, h n (by omega), rws_congr fun i hi => h i (by omega)]
def sgm (u : Nat → Row) (lo : Nat) : Nat → List Row
  | 0 => []
  | t + 1 => u (lo + t) :: sgm u lo t
theorem rws_sgm (u : Nat → Row) (lo : Nat) : ∀ t, rws u (lo + t) = sgm u lo t ++ rws u lo
  | 0 => rfl
  | t + 1 => by rw [Nat.add_succ, rws, rws_sgm u lo t]; rfl
theorem sgm_congr {u v : Nat → Row} {lo : Nat} : ∀ {t}, (∀ i, lo ≤ i → i < lo + t → u i = v i) → sgm u lo t = sgm v lo t
  | 0, _ => rfl
  | t + 1, h => by rw [sgm, sgm, h (lo + t) (by omega) (by omega), sgm_congr fun i h1 h2 => h i h1 (by omega)]
theorem D_exch (cs : List Nat) (a b c : List Row) (x y : Row) : D cs (a ++ x :: (b ++ y :: c)) = -D cs (a ++ y :: (b ++ x :: c)) := by
  have h0 := D_far cs (comb x 1 y) b a c
  have h1 := D_lin cs a (b ++ comb x 1 y :: c) x y 1
  have h2 := D_lin cs (a ++ x :: b) c x y 1
  have h3 := D_lin cs (a ++ y :: b) c x y 1
  have h4 := D_far cs x b a c
  have h5 := D_far cs y b a c
  simp only [List.append_assoc, List.cons_append] at h2 h3
  rw [h1, h2, h3, h4, h5] at h0
  omega
theorem D_sp_at (cs : List Nat) (a rows : List Row) (u w : Row) (h : Sp rows w) : D cs (a ++ (fun j => u j + w j) :: rows) = D cs (a ++ u :: rows) := by
  induction h with
  | zero => simp
  | add w k v _ hv ih =>
    rw [comb_assoc]
    have h := D_lin cs a rows (fun j => u j + w j) v k
    obtain ⟨b, c, rfl⟩ := List.append_of_mem hv
    rw [h, D_far cs v b a c, ih]
    omega
theorem D_scale_at (cs : List Nat) (a rows : List Row) (k : Int) (v : Row) : D cs (a ++ (fun j => k * v j) :: rows) = k * D cs (a ++ v :: rows) := by
  have h := D_lin cs a rows (fun _ => 0) v k
  have hz := D_zero cs a rows (fun _ => 0) (fun _ _ => rfl)
  have he : comb (fun _ => 0) k v = fun j => k * v j := by funext j; simp [comb]
  rw [he, hz] at h
  rw [h]; omega
theorem E_span (f : List Row → Int) : ∀ (rows pre : List Row), ∃ w, Sp rows w ∧ ∀ c, E c f pre rows = w c
  | [], pre => ⟨fun _ => 0, .zero, fun c => rfl⟩
  | r :: rs, pre => by
    obtain ⟨w, h1, h2⟩ := E_span f rs (pre ++ [r])
    refine ⟨comb (fun j => -1 * w j) (f (pre ++ rs)) r, .add _ _ _ (Sp_scale (Sp_mono (fun x hx => List.mem_cons_of_mem _ hx) h1) _) (List.mem_cons_self ..), fun c => ?_⟩
    show r c * f (pre ++ rs) - E c f (pre ++ [r]) rs = -1 * w c + f (pre ++ rs) * r c
    rw [h2 c, Int.mul_comm (r c)]
    omega
/-- behind k steps: the rows u stand, the pivots' product is d, the rest of the rows is P -/
structure Gb (u : Nat → Row) (n k : Nat) (d : Int) (P : Nat → Row) : Prop where
  piv : d = dt u k
  nz : d ≠ 0
  mn : ∀ i j, k ≤ i → i < n → P i j = D (j :: clm k) (u i :: rws u k)
  low : ∀ i j, k ≤ i → i < n → j < k → P i j = 0
theorem Gb.begin (u : Nat → Row) (n : Nat) {P : Nat → Row} (h : ∀ i j, i < n → P i j = u i j) : Gb u n 0 1 P where
  piv := rfl
  nz := by decide
  mn := fun i j _ hi => by rw [h i j hi]; simp [D, E, clm, rws]
  low := fun i j _ _ hj => by omega
theorem Gb.span {u : Nat → Row} {n k : Nat} {d : Int} {P : Nat → Row} (h : Gb u n k d P) {i : Nat} (hi : k ≤ i) (hn : i < n) : ∃ w, Sp (rws u k) w ∧ ∀ j, d * u i j + w j = P i j := by
  obtain ⟨w, h1, h2⟩ := E_span (D (clm k)) (rws u k) [u i]
  refine ⟨fun j => -1 * w j, Sp_scale h1 _, fun j => ?_⟩
  have e := h.mn i j hi hn
  have e2 : D (j :: clm k) (u i :: rws u k) = u i j * D (clm k) (rws u k) - E j (D (clm k)) [u i] (rws u k) := rfl
  rw [e, e2, h2 j, h.piv]
  show D (clm k) (rws u k) * u i j + -1 * w j = _
  rw [Int.mul_comm (u i j)]
  omega
theorem Gb.pivot {u : Nat → Row} {n k : Nat} {d : Int} {P : Nat → Row} (h : Gb u n k d P) (hk : k < n) : P k k = dt u (k + 1) := h.mn k k (Nat.le_refl k) hk
/-- the next row -/
def nxt (u : Nat → Row) (k : Nat) : Nat → Row := fun i j => D (j :: clm (k + 1)) (u i :: rws u (k + 1))
theorem Gb.exact {u : Nat → Row} {n k : Nat} {d : Int} {P : Nat → Row} (h : Gb u n k d P) (hk : k < n) (hp : P k k ≠ 0) {i : Nat} (hi : k < i) (hn : i < n) (j : Nat) : d * nxt u k i j = P k k * P i j - P i k * P k j := by
  obtain ⟨w, w1, w2⟩ := h.span (Nat.le_of_lt hi) hn
  obtain ⟨z, z1, z2⟩ := h.span (Nat.le_refl k) hk
  have hb := D_border (clm (k + 1)) (rws u (k + 1)) (u i) (fun x => P k k * w x + (-(P i k)) * P k x) (fun x => P k k * P i x - P i k * P k x) (d * P k k) j ?_ ?_ ?_
  · have e : D (clm (k + 1)) (rws u (k + 1)) = P k k := (h.pivot hk).symm
    rw [e] at hb
    have : P k k * (d * nxt u k i j) = P k k * (P k k * P i j - P i k * P k j) := by
      have e2 : (d * P k k) * nxt u k i j = (P k k * P i j - P i k * P k j) * P k k := hb
      rw [Int.mul_comm (P k k) (P k k * P i j - P i k * P k j), ← e2]
      grind
    exact Int.eq_of_mul_eq_mul_left hp this
  · refine Sp_add (Sp_scale (Sp_mono (fun x hx => List.mem_cons_of_mem _ hx) w1) _) (Sp_scale ?_ _)
    have e : (fun x => P k x) = fun x => d * u k x + z x := funext fun x => (z2 x).symm
    show Sp (rws u (k + 1)) (P k)
    rw [show P k = fun x => P k x from rfl, e]
    have s1 : Sp (rws u (k + 1)) (comb z d (u k)) := .add _ _ _ (Sp_mono (fun x hx => List.mem_cons_of_mem _ hx) z1) (List.mem_cons_self ..)
    have e3 : comb z d (u k) = fun x => d * u k x + z x := by funext x; simp only [comb]; omega
    rw [← e3]
    exact s1
  · intro x
    have := w2 x
    show d * P k k * u i x + (P k k * w x + -(P i k) * P k x) = P k k * P i x - P i k * P k x
    rw [← this]
    grind
  · intro x hx
    have hx := clm_mem.mp hx
    show P k k * P i x - P i k * P k x = 0
    by_cases c : x = k
    · rw [c, Int.mul_comm]
      omega
    · rw [h.low i x (by omega) hn (by omega), h.low k x (Nat.le_refl k) hk (by omega)]
      simp
theorem Gb.step {u : Nat → Row} {n k : Nat} {d : Int} {P P' : Nat → Row} (h : Gb u n k d P) (hk : k < n) (hp : P k k ≠ 0) (e : ∀ i j, k < i → i < n → P' i j = nxt u k i j) : Gb u n (k + 1) (P k k) P' where
  piv := h.pivot hk
  nz := hp
  mn := fun i j hi hn => e i j (by omega) hn
  low := fun i j hi hn hj => by
    have e1 := h.exact hk hp (i := i) (by omega) hn j
    have e2 : d * nxt u k i j = 0 := by
      rw [e1]
      by_cases c : j = k
      · rw [c, Int.mul_comm]
        omega
      · rw [h.low i j (by omega) hn (by omega), h.low k j (Nat.le_refl k) hk (by omega)]
        simp
    rw [e i j (by omega) hn]
    rcases Int.mul_eq_zero.mp e2 with c | c
    · exact absurd c h.nz
    · exact c
/-- two rows exchanged -/
def xch {α : Type} (u : Nat → α) (k i : Nat) : Nat → α := fun a => if a = k then u i else if a = i then u k else u a
theorem xch_same {α : Type} (u : Nat → α) (k : Nat) : xch u k k = u := by
  funext a
  unfold xch
  split
  · rename_i c; rw [c]
  · rfl
theorem Gb.xch {u : Nat → Row} {n k : Nat} {d : Int} {P : Nat → Row} (h : Gb u n k d P) {i : Nat} (hk : k ≤ i) (hi : i < n) : Gb (xch u k i) n k d (xch P k i) := by
  have e : rws (El.xch u k i) k = rws u k := rws_congr fun a ha => by unfold El.xch; rw [if_neg (by omega), if_neg (by omega)]
  refine ⟨by unfold dt; rw [e]; exact h.piv, h.nz, fun a j ha hn => ?_, fun a j ha hn hj => ?_⟩
  · rw [e]
    unfold El.xch
    by_cases c : a = k
    · rw [if_pos c, if_pos c]; exact h.mn i j hk hi
    · rw [if_neg c, if_neg c]
      by_cases c2 : a = i
      · rw [if_pos c2, if_pos c2]; exact h.mn k j (Nat.le_refl k) (by omega)
      · rw [if_neg c2, if_neg c2]; exact h.mn a j ha hn
  · unfold El.xch
    by_cases c : a = k
    · rw [if_pos c]; exact h.low i j hk hi hj
    · rw [if_neg c]
      by_cases c2 : a = i
      · rw [if_pos c2]; exact h.low k j (Nat.le_refl k) (by omega) hj
      · rw [if_neg c2]; exact h.low a j ha hn hj
theorem rws_two {u : Nat → Row} {n k i : Nat} (hk : k < i) (hi : i < n) : rws u n = sgm u (i + 1) (n - (i + 1)) ++ u i :: (sgm u (k + 1) (i - (k + 1)) ++ u k :: rws u k) := by
  have e1 := rws_sgm u (i + 1) (n - (i + 1))
  rw [show i + 1 + (n - (i + 1)) = n by omega] at e1
  have e2 := rws_sgm u (k + 1) (i - (k + 1))
  rw [show k + 1 + (i - (k + 1)) = i by omega] at e2
  rw [e1, rws, e2]
  rfl
theorem dt_xch {u : Nat → Row} {n k i : Nat} (hk : k < i) (hi : i < n) : dt (xch u k i) n = -dt u n := by
  unfold dt
  rw [rws_two (u := xch u k i) hk hi, rws_two (u := u) hk hi]
  have a1 : sgm (xch u k i) (i + 1) (n - (i + 1)) = sgm u (i + 1) (n - (i + 1)) := sgm_congr fun a h1 h2 => by unfold xch; rw [if_neg (by omega), if_neg (by omega)]
  have a2 : sgm (xch u k i) (k + 1) (i - (k + 1)) = sgm u (k + 1) (i - (k + 1)) := sgm_congr fun a h1 h2 => by unfold xch; rw [if_neg (by omega), if_neg (by omega)]
  have a3 : rws (xch u k i) k = rws u k := rws_congr fun a ha => by unfold xch; rw [if_neg (by omega), if_neg (by omega)]
  have a4 : xch u k i i = u k := by unfold xch; rw [if_neg (by omega), if_pos rfl]
  have a5 : xch u k i k = u i := by unfold xch; rw [if_pos rfl]
  rw [a1, a2, a3, a4, a5]
  exact D_exch _ _ _ _ _ _
/-- a row turned about -/
def ngr (u : Nat → Row) (i : Nat) : Nat → Row := fun a => if a = i then fun j => -1 * u i j else u a
theorem dt_ngr {u : Nat → Row} {n i : Nat} (hi : i < n) : dt (ngr u i) n = -dt u n := by
  unfold dt
  have e1 := rws_sgm (ngr u i) (i + 1) (n - (i + 1))
  have e2 := rws_sgm u (i + 1) (n - (i + 1))
  rw [show i + 1 + (n - (i + 1)) = n by omega] at e1 e2
  have a1 : sgm (ngr u i) (i + 1) (n - (i + 1)) = sgm u (i + 1) (n - (i + 1)) := sgm_congr fun a h1 h2 => by unfold ngr; rw [if_neg (by omega)]
  have a3 : rws (ngr u i) i = rws u i := rws_congr fun a ha => by unfold ngr; rw [if_neg (by omega)]
  have a4 : ngr u i i = fun j => -1 * u i j := by unfold ngr; rw [if_pos rfl]
  rw [e1, e2, rws, rws, a1, a3, a4, D_scale_at]
  omega
theorem Gb.ngr {u : Nat → Row} {n k : Nat} {d : Int} {P : Nat → Row} (h : Gb u n k d P) {i : Nat} (hk : k ≤ i) : Gb (ngr u i) n k d (ngr P i) := by
  have e : rws (El.ngr u i) k = rws u k := rws_congr fun a ha => by unfold El.ngr; rw [if_neg (by omega)]
  refine ⟨by unfold dt; rw [e]; exact h.piv, h.nz, fun a j ha hn => ?_, fun a j ha hn hj => ?_⟩
  · rw [e]
    unfold El.ngr
    by_cases c : a = i
    · subst c
      rw [if_pos rfl, if_pos rfl]
      have := D_scale (j :: clm k) (rws u k) (-1) (u a)
      show -1 * P a j = _
      rw [this, h.mn a j ha hn]
    · rw [if_neg c, if_neg c]; exact h.mn a j ha hn
  · unfold El.ngr
    by_cases c : a = i
    · subst c
      rw [if_pos rfl]
      show -1 * P a j = 0
      rw [h.low a j ha hn hj]
      rfl
    · rw [if_neg c]; exact h.low a j ha hn hj
/-! ### a column without a pivot -/
def zz (Z : List Nat) (r : Row) : Bool := Z.all fun z => decide (r z = 0)
theorem E_many (c : Nat) (cs Z : List Nat) (ih : ∀ rows : List Row, cs.length < rows.countP (zz Z) → D (cs ++ Z) rows = 0) : ∀ (rows pre : List Row), cs.length + 1 < (pre ++ rows).countP (zz Z) → E c (D (cs ++ Z)) pre rows = 0
  | [], _, _ => rfl
  | r :: rs, pre, h => by
    have h1 : cs.length < (pre ++ rs).countP (zz Z) := by
      rw [List.countP_append] at h ⊢
      rw [List.countP_cons] at h
      split at h <;> omega
    have h2 := E_many c cs Z ih rs (pre ++ [r]) (by rw [List.append_assoc]; exact h)
    show r c * D (cs ++ Z) (pre ++ rs) - E c (D (cs ++ Z)) (pre ++ [r]) rs = 0
    rw [ih _ h1, h2]
    simp
theorem D_many (Z : List Nat) : ∀ (cs : List Nat) (rows : List Row), cs.length < rows.countP (zz Z) → D (cs ++ Z) rows = 0
  | [], rows, h => by
    obtain ⟨r, hr, hz⟩ := List.countP_pos_iff.mp h
    obtain ⟨a, b, rfl⟩ := List.append_of_mem hr
    refine D_zero _ a b r fun j hj => ?_
    unfold zz at hz
    rw [List.all_eq_true] at hz
    exact of_decide_eq_true (hz j hj)
  | c :: cs, rows, h => E_many c cs Z (D_many Z cs) rows [] h
theorem clm_app (k : Nat) : ∀ t, ∃ cs, clm (k + t) = cs ++ clm k ∧ cs.length = t
  | 0 => ⟨[], rfl, rfl⟩
  | t + 1 => by
    obtain ⟨cs, h1, h2⟩ := clm_app k t
    refine ⟨(k + t) :: cs, ?_, by rw [List.length_cons, h2]⟩
    rw [Nat.add_succ, clm, h1]
    rfl
theorem dt_up {u v : Nat → Row} {k : Nat} {d : Int} (cs : List Nat) (hv : ∀ i, k ≤ i → ∃ w, Sp (rws u k) w ∧ ∀ j, d * u i j + w j = v i j) : ∀ (t : Nat) (a : List Row), D cs (a ++ (sgm v k t ++ rws u k)) = d ^ t * D cs (a ++ (sgm u k t ++ rws u k))
  | 0, a => by rw [Int.pow_zero, Int.one_mul]; rfl
  | t + 1, a => by
    have ih := dt_up cs hv t (a ++ [v (k + t)])
    rw [List.append_assoc, List.append_assoc] at ih
    show D cs (a ++ ([v (k + t)] ++ (sgm v k t ++ rws u k))) = _
    rw [ih]
    obtain ⟨w, w1, w2⟩ := hv (k + t) (by omega)
    have e : v (k + t) = fun j => d * u (k + t) j + w j := funext fun j => (w2 j).symm
    have e2 : D cs (a ++ ([v (k + t)] ++ (sgm u k t ++ rws u k))) = d * D cs (a ++ (u (k + t) :: (sgm u k t ++ rws u k))) := by
      rw [e, ← D_scale_at]
      exact D_sp_at cs a (sgm u k t ++ rws u k) (fun j => d * u (k + t) j) w (Sp_mono (fun x hx => List.mem_append_right _ hx) w1)
    rw [e2, Int.pow_succ, Int.mul_assoc]
    rfl
theorem sgm_count {v : Nat → Row} {Z : List Nat} {k : Nat} : ∀ t, (∀ i, k ≤ i → i < k + t → zz Z (v i) = true) → (sgm v k t).countP (zz Z) = t
  | 0, _ => rfl
  | t + 1, h => by
    rw [sgm, List.countP_cons, sgm_count t fun i h1 h2 => h i h1 (by omega), h (k + t) (by omega) (by omega)]
    rfl
theorem Gb.none {u : Nat → Row} {n k : Nat} {d : Int} {P : Nat → Row} (h : Gb u n k d P) (hk : k < n) (hz : ∀ i, k ≤ i → i < n → P i k = 0) : dt u n = 0 := by
  have v0 : ∀ i, k ≤ i → ∃ w, Sp (rws u k) w ∧ ∀ j, d * u i j + w j = (fun a => if a < n then P a else fun j => d * u a j) i j := fun i hi => by
    by_cases c : i < n
    · obtain ⟨w, w1, w2⟩ := h.span hi c
      exact ⟨w, w1, fun j => by show _ = (if i < n then P i else _) j; rw [if_pos c]; exact w2 j⟩
    · exact ⟨fun _ => 0, .zero, fun j => by show d * u i j + 0 = (if i < n then P i else _) j; rw [if_neg c, Int.add_zero]⟩
  have e := dt_up (clm n) v0 (n - k) []
  have e1 := rws_sgm u k (n - k)
  rw [show k + (n - k) = n by omega] at e1
  rw [List.nil_append, List.nil_append, ← e1] at e
  obtain ⟨cs, c1, c2⟩ := clm_app (k + 1) (n - (k + 1))
  rw [show k + 1 + (n - (k + 1)) = n by omega] at c1
  have z : D (clm n) (sgm (fun a => if a < n then P a else fun j => d * u a j) k (n - k) ++ rws u k) = 0 := by
    rw [c1]
    refine D_many _ _ _ ?_
    rw [List.countP_append, sgm_count (n - k) fun i h1 h2 => ?_]
    · omega
    · unfold zz
      rw [List.all_eq_true]
      intro x hx
      have hx := clm_mem.mp hx
      refine decide_eq_true ?_
      show (if i < n then P i else _) x = 0
      rw [if_pos (by omega)]
      by_cases c : x = k
      · rw [c]; exact hz i h1 (by omega)
      · exact h.low i x h1 (by omega) (by omega)
  rw [z] at e
  rcases Int.mul_eq_zero.mp e.symm with c | c
  · exact absurd c (Int.pow_ne_zero h.nz)
  · exact c
theorem dt_scale {u v : Nat → Row} {g : Int} (n : Nat) (e : ∀ i j, v i j = g * u i j) : dt v n = g ^ n * dt u n := by
  have h := dt_up (u := u) (v := v) (k := 0) (d := g) (clm n) (fun i _ => ⟨fun _ => 0, .zero, fun j => by rw [e i j]; exact Int.add_zero _⟩) n []
  have e1 := rws_sgm u 0 n
  have e2 := rws_sgm v 0 n
  rw [Nat.zero_add] at e1 e2
  unfold dt
  rw [e1, e2]
  exact h
/-- what elimination finds is bounded -/
theorem Gb.bound {u : Nat → Row} {n k : Nat} {d : Int} {P : Nat → Row} (h : Gb u n k d P) {M : Int} (hM : 0 ≤ M) (hu : ∀ i j, i < n → -M ≤ u i j ∧ u i j ≤ M) (hk : k ≤ n) :
    (-(bnd M k) ≤ d ∧ d ≤ bnd M k) ∧ ∀ i j, k ≤ i → i < n → -(bnd M (k + 1)) ≤ P i j ∧ P i j ≤ bnd M (k + 1) := by
  have hr : ∀ r ∈ rws u k, ∀ c : Nat, -M ≤ r c ∧ r c ≤ M := fun r hr c => by
    obtain ⟨i, h1, rfl⟩ := rws_mem hr
    exact hu i c (by omega)
  constructor
  · have := D_bound hM (clm k) (rws u k) (by rw [rws_len, clm_len]) fun r hr' c _ => hr r hr' c
    rw [clm_len] at this
    rw [h.piv]
    exact this
  · intro i j hi hn
    have := D_bound hM (j :: clm k) (u i :: rws u k) (by rw [List.length_cons, List.length_cons, rws_len, clm_len]) fun r hr' c _ => by
      rcases List.mem_cons.mp hr' with e | e
      · rw [e]; exact hu i c hn
      · exact hr r e c
    rw [List.length_cons, clm_len] at this
    rw [h.mn i j hi hn]
    exact this
end PySem.El
namespace PySem.El
theorem Q_lin (n : Nat) (A : Nat → Row) (x : Row) : Q n A x = sm n (fun i => x i * lin n (A i) x) := by
  unfold Q lin
  exact sm_congr fun i _ => by
    rw [← sm_mul]
    exact sm_congr fun j _ => by grind
theorem sq_nn (x : Int) : 0 ≤ x * x := by
  rcases Int.le_total 0 x with c | c
  · exact Int.mul_nonneg c c
  · exact Int.mul_nonneg_of_nonpos_of_nonpos c c
theorem lsum_nn {ps : List Pv} {f : Pv → Int} (h : ∀ p ∈ ps, 0 ≤ f p) : 0 ≤ lsum ps f := by
  induction ps with
  | nil => simp [lsum]
  | cons p ps ih =>
    have a := h p (List.mem_cons_self ..)
    have b := ih fun q hq => h q (List.mem_cons_of_mem _ hq)
    simp only [lsum, List.foldr_cons] at *
    omega
theorem lsum_0 {ps : List Pv} {f : Pv → Int} (h : ∀ p ∈ ps, 0 ≤ f p) (h0 : lsum ps f = 0) : ∀ p ∈ ps, f p = 0 := by
  induction ps with
  | nil => simp
  | cons p ps ih =>
    have a := h p (List.mem_cons_self ..)
    have b := lsum_nn fun q hq => h q (List.mem_cons_of_mem _ hq)
    have e : lsum (p :: ps) f = f p + lsum ps f := rfl
    rw [e] at h0
    intro q hq
    rcases List.mem_cons.1 hq with c | c
    · rw [c]; omega
    · exact ih (fun q hq => h q (List.mem_cons_of_mem _ hq)) (by omega) q c
/-- the rows of a whole elimination by its pivots -/
theorem Run.wlin {A : Nat → Row} (hA : ∀ i j, A i j = A j i) {n S d B ps} (h : Run A n S d B ps) (i : Nat) (z : Row) :
    wprod ps * lin n (A i) z = lsum ps (fun p => wprod ps / p.2.2 * p.2.1 i * lin n p.2.1 z) := by
  unfold lin
  rw [← sm_mul]
  have := lsum_lin n ps (fun p => wprod ps / p.2.2) i z
  rw [sm_congr (g := fun j => lsum ps (fun p => wprod ps / p.2.2 * (p.2.1 i * p.2.1 j)) * z j) (fun j hj => by
    rw [← Int.mul_assoc, h.whole hA (wprod ps) (fun p => wprod ps / p.2.2) (fun p hp => by rw [Int.mul_comm]; exact Int.mul_ediv_cancel' (wprod_dvd hp)) i j hj]), this]
  rfl
theorem lsum_sm (n : Nat) (ps : List Pv) (c : Pv → Int) (z : Row) : sm n (fun i => z i * lsum ps (fun p => c p * p.2.1 i * lin n p.2.1 z)) = lsum ps (fun p => c p * (lin n p.2.1 z * lin n p.2.1 z)) := by
  induction ps with
  | nil => simp [lsum, sm_zero]
  | cons p ps ih =>
    have e : ∀ i, z i * lsum (p :: ps) (fun p => c p * p.2.1 i * lin n p.2.1 z) = c p * lin n p.2.1 z * (p.2.1 i * z i) + z i * lsum ps (fun p => c p * p.2.1 i * lin n p.2.1 z) := fun i => by
      simp only [lsum, List.foldr_cons]; grind
    rw [sm_congr fun i _ => e i, sm_add, sm_mul, ih]
    show c p * lin n p.2.1 z * lin n p.2.1 z + _ = lsum (p :: ps) _
    simp only [lsum, List.foldr_cons]
    grind
/-- where the value is 0 all rows tell 0 -/
theorem Run.null {A : Nat → Row} (hA : ∀ i j, A i j = A j i) {n S d B ps} (h : Run A n S d B ps) (hs : ∀ p ∈ ps, 0 < p.2.2) {z : Row} (hz : Q n A z = 0) : ∀ i, lin n (A i) z = 0 := by
  have hW := wprod_pos hs
  have cp : ∀ p ∈ ps, 0 < wprod ps / p.2.2 := fun p hp => by
    obtain ⟨c, hc⟩ := wprod_dvd hp
    have s0 := hs p hp
    have : wprod ps / p.2.2 = c := by rw [hc]; exact Int.mul_ediv_cancel_left _ (by omega)
    rw [this]
    rw [hc] at hW
    exact Int.pos_of_mul_pos_right hW s0
  have e : lsum ps (fun p => wprod ps / p.2.2 * (lin n p.2.1 z * lin n p.2.1 z)) = 0 := by
    rw [← lsum_sm, sm_congr (g := fun i => wprod ps * (z i * lin n (A i) z)) (fun i _ => by rw [← h.wlin hA]; grind), sm_mul, ← Q_lin, hz, Int.mul_zero]
  have z0 := lsum_0 (fun p hp => Int.mul_nonneg (Int.le_of_lt (cp p hp)) (sq_nn _)) e
  have l0 : ∀ p ∈ ps, lin n p.2.1 z = 0 := fun p hp => by
    have c := cp p hp
    rcases Int.mul_eq_zero.1 (z0 p hp) with q | q
    · omega
    · rcases Int.mul_eq_zero.1 q with q | q <;> exact q
  intro i
  have := h.wlin hA i z
  rw [lsum_congr (g := fun p => 0 * (0 : Int)) (fun p hp => by rw [l0 p hp]; simp), lsum_mul, Int.zero_mul] at this
  rcases Int.mul_eq_zero.1 this with c | c
  · omega
  · exact c
/-- a row that is told 0 by all, as a value -/
theorem Q_null {n : Nat} {A : Nat → Row} {z : Row} (h : ∀ i, i < n → lin n (A i) z = 0) : Q n A z = 0 := by
  rw [Q_lin, sm_congr (g := fun _ => 0) (fun i hi => by rw [h i hi, Int.mul_zero]), sm_zero]
/-- leads are told by what all rows tell 0 -/
theorem Run.noKer {A : Nat → Row} (hA : ∀ i j, A i j = A j i) {k S d B ps} (h : Run A k S d B ps) {n : Nat} (hk : k ≤ n) {s : Nat} (hs : s ∈ S) {y : Row} (hy : ∀ i, i < n → lin n (A i) y = 0) (h0 : ∀ j, s < j → y j = 0) : y s = 0 := by
  induction h with
  | begin => simp at hs
  | skip _ _ ih => exact ih (by omega) hs
  | @pivot k S d B ps h hp ih =>
    rcases List.mem_cons.1 hs with e | m
    · subst e
      have hI := h.inv hA
      obtain ⟨m, w, hm, hw, he⟩ := hI.span s (Nat.le_refl s)
      have e1 : lin n w y = 0 := hw.lin fun r hr => by
        obtain ⟨t, ht, rfl⟩ := List.mem_map.1 hr
        exact hy t (by have := hI.small t ht; omega)
      have e2 : m * lin n (B s) y = 0 := by
        have : m * lin n (B s) y = m * d * lin n (A s) y + lin n w y := by
          unfold lin
          rw [← sm_mul, ← sm_mul, ← sm_add]
          exact sm_congr fun j _ => by have := he j; grind
        rw [this, hy s (by omega), e1]
        simp
      have e3 : lin n (B s) y = B s s * y s := by
        unfold lin
        rw [← sm_one (fun j => B s j * y j) (show s < n by omega)]
        refine sm_congr fun j _ => ?_
        by_cases c : j = s
        · rw [if_pos c]
        · rw [if_neg c]
          by_cases c2 : j < s
          · rw [hI.low s j c2]; simp
          · rw [h0 j (by omega)]; simp
      rw [e3] at e2
      rcases Int.mul_eq_zero.1 e2 with c | c
      · exact absurd c hm
      · rcases Int.mul_eq_zero.1 c with c | c
        · omega
        · exact c
    · exact ih (by omega) m
end PySem.El
namespace PySem.El
theorem sm_le {n : Nat} {f g : Nat → Int} (h : ∀ i, i < n → f i ≤ g i) : sm n f ≤ sm n g := by
  induction n with
  | zero => exact Int.le_refl _
  | succ n ih =>
    have a := ih fun i hi => h i (by omega)
    have b := h n (by omega)
    simp only [sm]
    omega
theorem sm_const (n : Nat) (c : Int) : sm n (fun _ => c) = n * c := by
  induction n with
  | zero => simp [sm]
  | succ n ih =>
    simp only [sm]
    rw [ih]
    have : ((n + 1 : Nat) : Int) = (n : Int) + 1 := by omega
    rw [this]; grind
theorem lin_sym {n : Nat} {A : Nat → Row} (hA : ∀ i j, A i j = A j i) (x z : Row) : sm n (fun i => z i * lin n (A i) x) = sm n (fun i => x i * lin n (A i) z) := by
  unfold lin
  rw [sm_congr (g := fun i => sm n (fun j => z i * (A i j * x j))) (fun i _ => (sm_mul n (z i) _).symm), sm_swap]
  exact sm_congr fun i _ => by
    rw [← sm_mul]
    exact sm_congr fun j _ => by rw [hA j i]; grind
/-- an index that is no lead: the rest's row was 0 -/
theorem Run.free {A : Nat → Row} {m S d B ps} (h : Run A m S d B ps) {k : Nat} (hk : k < m) (hS : k ∉ S) : ∃ S3 d3 B3 ps3, Run A k S3 d3 B3 ps3 ∧ ∀ x, B3 k x = 0 := by
  induction h with
  | begin => omega
  | @skip m S d B ps h hz ih =>
    by_cases e : k = m
    · subst e; exact ⟨_, _, _, _, h, hz⟩
    · exact ih (by omega) hS
  | @pivot m S d B ps h hp ih =>
    exact ih (by
      have : k ≠ m := fun e => hS (by rw [e]; exact List.mem_cons_self ..)
      omega) fun q => hS (List.mem_cons_of_mem _ q)
/-- the point of such an index -/
theorem Run.kerAt {A : Nat → Row} (hA : ∀ i j, A i j = A j i) {k S d B ps} (h : Run A k S d B ps) (hs : ∀ p ∈ ps, 0 < p.2.2) (hz : ∀ x, B k x = 0) {n : Nat} (hk : k < n) : ∃ y : Row, 0 < y k ∧ (∀ j, j ∉ S → j ≠ k → y j = 0) ∧ ∀ i, lin n (A i) y = 0 := by
  obtain ⟨h1, f, hf, h2⟩ := h.settled hA n (by omega) (unitP k)
  have hI := h.inv hA
  have kS : k ∉ S := fun m => by have := hI.small k m; omega
  have y0 : ∀ j, j ∉ S → j ≠ k → setl n ps (unitP k) j = 0 := fun j hj hne => by
    rw [h2 j hj]
    unfold unitP
    rw [if_neg hne, Int.mul_zero]
  refine ⟨_, ?_, y0, fun i => ?_⟩
  · rw [h2 k kS]
    unfold unitP
    rw [if_pos rfl]
    omega
  · have hW := wprod_pos hs
    have hd := hI.dpos
    have e1 : d * (wprod ps * lin n (A i) (setl n ps (unitP k))) = d * lsum ps (fun p => wprod ps / p.2.2 * p.2.1 i * lin n p.2.1 (setl n ps (unitP k))) + wprod ps * lin n (B i) (setl n ps (unitP k)) := by
      rw [← lsum_lin]
      unfold lin
      rw [← sm_mul, ← sm_mul, ← sm_mul, ← sm_mul, ← sm_add]
      exact sm_congr fun j _ => by
        have := h.squares hA (wprod ps) (fun p => wprod ps / p.2.2) (fun p hp => by rw [Int.mul_comm]; exact Int.mul_ediv_cancel' (wprod_dvd hp)) i j
        grind
    have e2 : lin n (B i) (setl n ps (unitP k)) = 0 := by
      unfold lin
      rw [sm_congr (g := fun _ => 0) (fun j _ => by
        by_cases c : j < k
        · rw [hI.low i j c, Int.zero_mul]
        · by_cases c2 : j = k
          · rw [c2, hI.sym, hz, Int.zero_mul]
          · rw [y0 j (fun m => by have := hI.small j m; omega) c2, Int.mul_zero]), sm_zero]
    have e3 : lsum ps (fun p => wprod ps / p.2.2 * p.2.1 i * lin n p.2.1 (setl n ps (unitP k))) = 0 := by
      rw [lsum_congr (g := fun p => 0 * (0 : Int)) (fun p hp => by rw [h1 p hp]; simp), lsum_mul, Int.zero_mul]
    rw [e2, e3, Int.mul_zero, Int.mul_zero] at e1
    rcases Int.mul_eq_zero.1 e1 with c | c
    · omega
    · rcases Int.mul_eq_zero.1 c with c | c
      · omega
      · exact c
/-- what all rows of a table tell 0 -/
def Nul (n : Nat) (A : Nat → Row) (x : Row) : Prop := ∀ i, i < n → lin n (A i) x = 0
/-- more points that are told 0: fewer leads -/
theorem Run.sub {A A' : Nat → Row} (hA : ∀ i j, A i j = A j i) (hA' : ∀ i j, A' i j = A' j i) {n S d B ps S' d' B' ps'} (h : Run A n S d B ps) (h' : Run A' n S' d' B' ps') (sp : ∀ {k S d B ps}, Run A k S d B ps → ∀ p ∈ ps, 0 < p.2.2) (hn : ∀ x, Nul n A x → Nul n A' x) : ∀ s ∈ S', s ∈ S := fun s hs => by
  rcases Classical.em (s ∈ S) with c | c
  · exact c
  · have hsn := h'.fall.2 s hs
    obtain ⟨S3, d3, B3, ps3, r3, hz⟩ := h.free hsn c
    obtain ⟨y, y1, y2, y3⟩ := r3.kerAt hA (sp r3) hz hsn
    have := h'.noKer hA' (Nat.le_refl n) hs (hn y fun i _ => y3 i) (fun j hj => y2 j (fun m => by have := r3.fall.2 j m; omega) (by omega))
    omega
/-- falling lists -/
theorem fall_len {S' : List Nat} : ∀ {S : List Nat}, S.Pairwise (fun a b => b < a) → S'.Pairwise (fun a b => b < a) → (∀ s ∈ S', s ∈ S) → S'.length ≤ S.length ∧ (S.length ≤ S'.length → S = S') := fun {S} => by
  induction S generalizing S' with
  | nil =>
    intro _ _ h
    cases S' with
    | nil => exact ⟨Nat.le_refl _, fun _ => rfl⟩
    | cons a T => exact absurd (h a (List.mem_cons_self ..)) (by simp)
  | cons a T ih =>
    intro h1 h2 h
    cases S' with
    | nil => exact ⟨Nat.zero_le _, fun c => by simp at c⟩
    | cons a' T' =>
      have p1 := List.pairwise_cons.1 h1
      have p2 := List.pairwise_cons.1 h2
      by_cases e : a' = a
      · subst e
        have := ih p1.2 p2.2 fun s hs => by
          rcases List.mem_cons.1 (h s (List.mem_cons_of_mem _ hs)) with c | c
          · have := p2.1 s hs; omega
          · exact c
        refine ⟨by simpa using this.1, fun c => ?_⟩
        rw [this.2 (by simpa using c)]
      · have m : a' ∈ T := by
          rcases List.mem_cons.1 (h a' (List.mem_cons_self ..)) with c | c
          · exact absurd c e
          · exact c
        have lt := p1.1 a' m
        have := ih p1.2 h2 fun s hs => by
          rcases List.mem_cons.1 (h s hs) with c | c
          · rcases List.mem_cons.1 hs with c2 | c2
            · omega
            · have := p2.1 s c2; omega
          · exact c
        refine ⟨by simp at this ⊢; omega, fun c => ?_⟩
        simp at this c
        omega
theorem Ker.nul {n : Nat} {A : Nat → Row} {S : List Nat} {k : Nat} {y : Row} (h : Ker n A S k y) : Nul n A y := h.zero
/-- a value is bounded below by the rest's -/
theorem Run.low {A : Nat → Row} (hA : ∀ i j, A i j = A j i) {k S d B ps} (h : Run A k S d B ps) (n : Nat) (x : Row) : Q n B x ≤ d * Q n A x := by
  induction h with
  | begin => omega
  | skip _ _ ih => exact ih
  | @pivot k S d B ps h hp ih =>
    have hI := h.inv hA
    have e := hI.value hp n x
    have hd := hI.dpos
    have s := sq_nn (lin n (B k) x)
    have a : B k k * Q n B x ≤ B k k * (d * Q n A x) := Int.mul_le_mul_of_nonneg_left ih (by omega)
    have b : d * Q n (redu B k d) x ≤ d * (B k k * Q n A x) := by
      have : B k k * (d * Q n A x) = d * (B k k * Q n A x) := by grind
      omega
    exact Int.le_of_mul_le_mul_left b hd
theorem Run.outB {A : Nat → Row} {n : Nat} (hO : ∀ i j, n ≤ j → A i j = 0) {k S d B ps} (h : Run A k S d B ps) : ∀ i j, n ≤ j → B i j = 0 := by
  induction h with
  | begin => exact hO
  | skip _ _ ih => exact ih
  | pivot _ _ ih =>
    intro i j hj
    unfold redu
    rw [ih _ _ hj, ih _ _ hj, Int.mul_zero, Int.mul_zero, Int.sub_zero, Int.zero_ediv]
    split <;> rfl
theorem Run.nn {A : Nat → Row} (hA : ∀ i j, A i j = A j i) {n : Nat} (hP : Psd n A) {k S d B ps} (h : Run A k S d B ps) (hk : k ≤ n) (x : Row) : 0 ≤ Q n B x := by
  rcases Int.lt_or_le (Q n B x) 0 with c | c
  · obtain ⟨h1, f, hf, h2⟩ := h.settled hA n hk x
    have := h.negAt hA n x _ h1 1 f (by decide) hf (fun i _ hS => by rw [Int.one_mul]; exact h2 i hS) c
    have := hP (setl n ps x)
    omega
  · exact c
/-- a table without a value below 0 is eliminated -/
theorem Psd.run {A : Nat → Row} (hA : ∀ i j, A i j = A j i) {n : Nat} (hO : ∀ i j, n ≤ j → A i j = 0) (hP : Psd n A) : ∀ k, k ≤ n → ∃ S d B ps, Run A k S d B ps := fun k => by
  induction k with
  | zero => intro _; exact ⟨_, _, _, _, .begin⟩
  | succ k ih =>
    intro hk
    obtain ⟨S, d, B, ps, r⟩ := ih (by omega)
    have hI := r.inv hA
    have h1 := r.nn hA hP (by omega) (unitP k)
    rw [Q_unit B (show k < n by omega)] at h1
    by_cases c : 0 < B k k
    · exact ⟨_, _, _, _, r.pivot c⟩
    · have h0 : B k k = 0 := by omega
      refine ⟨_, _, _, _, r.skip fun x => ?_⟩
      rcases Classical.em (B k x = 0) with z | z
      · exact z
      · exfalso
        have x1 : ¬ x < k := fun q => z (hI.low k x q)
        have x2 : x < n := by
          rcases Nat.lt_or_ge x n with q | q
          · exact q
          · exact absurd (r.outB hO k x q) z
        have := Q_side_neg B (show k < n by omega) x2 (hI.sym k x) h0 z _ rfl
        have := r.nn hA hP (show k ≤ n by omega) (sideP (if 0 < B k x then -((B x x).natAbs + 1 : Int) else ((B x x).natAbs + 1 : Int)) k x)
        omega
end PySem.El
namespace PySem.El
/-! A table that undoes another one on its leads. -/
theorem lin_mul_l (n : Nat) (c : Int) (r x : Row) : lin n (fun j => c * r j) x = c * lin n r x := by
  unfold lin
  rw [← sm_mul]
  exact sm_congr fun j _ => Int.mul_assoc _ _ _
theorem lin_mul_r (n : Nat) (c : Int) (r x : Row) : lin n r (fun j => c * x j) = c * lin n r x := by
  rw [lin_comm, lin_mul_l, lin_comm]
theorem lin_zero {n : Nat} {r x : Row} (h : ∀ j, j < n → r j * x j = 0) : lin n r x = 0 := by
  unfold lin
  rw [sm_congr (g := fun _ => 0) h, sm_zero]
theorem lin_pick {n k : Nat} {r x : Row} (hk : k < n) (h : ∀ j, j < n → j ≠ k → r j * x j = 0) : lin n r x = r k * x k := by
  unfold lin
  rw [← sm_one (fun j => r j * x j) hk]
  refine sm_congr fun j hj => ?_
  by_cases c : j = k
  · rw [if_pos c]
  · rw [if_neg c, h j hj c]
/-- U V U, as it is multiplied out -/
def sw (n : Nat) (U V : Nat → Row) : Nat → Row := fun i j => lin n (fun q => lin n (U i) (V q)) (U j)
structure Ps (n : Nat) (S : List Nat) (A T : Nat → Row) (c : Int) : Prop where
  symA : ∀ i j, A i j = A j i
  symT : ∀ i j, T i j = T j i
  zero : ∀ a b, a ∉ S ∨ b ∉ S → T a b = 0
  un : ∀ a x, a ∈ S → x ∈ S → lin n (T a) (A x) = if a = x then c else 0
  sub : ∀ s, s ∈ S → s < n
  pos : 0 < c
section
variable {n : Nat} {S : List Nat} {A T : Nat → Row} {c : Int}
theorem Ps.at (h : Ps n S A T c) {i : Nat} (hi : i ∈ S) (q : Nat) : lin n (A i) (T q) = if i = q then c else 0 := by
  by_cases hq : q ∈ S
  · rw [lin_comm, h.un q i hq hi]
    by_cases e : i = q
    · rw [if_pos e, if_pos e.symm]
    · rw [if_neg e, if_neg (Ne.symm e)]
  · rw [if_neg (fun e => hq (by rw [← e]; exact hi))]
    exact lin_zero fun j _ => by rw [h.zero q j (.inl hq), Int.mul_zero]
theorem Ps.aza (h : Ps n S A T c) {d : Int} {B : Nat → Row} {ps : List Pv} (run : Run A n S d B ps) (hk : ∀ k, k < n → k ∉ S → ∃ y, Ker n A S k y) {i j : Nat} (hi : i < n) (hj : j < n) : sw n A T i j = c * A i j := by
  have onS : ∀ i, i ∈ S → ∀ j, sw n A T i j = c * A i j := fun i hS j => by
    unfold sw
    rw [lin_pick (k := i) (h.sub i hS) fun q _ hne => by
      show lin n (A i) (T q) * A j q = 0
      rw [h.at hS q, if_neg (Ne.symm hne), Int.zero_mul]]
    show lin n (A i) (T i) * A j i = _
    rw [h.at hS i, if_pos rfl, h.symA j i]
  by_cases hS : i ∈ S
  · exact onS i hS j
  obtain ⟨y, y1, y2, y3⟩ := hk i hi hS
  have e1 : sm n (fun a => y a * sw n A T a j) = 0 := by
    have e : ∀ q, sm n (fun a => y a * lin n (A a) (T q)) = 0 := fun q => by
      have e2 : sm n (fun a => y a * lin n (A a) (T q)) = sm n (fun a => T q a * lin n (A a) y) := lin_sym h.symA (T q) y
      rw [e2]
      rw [sm_congr (g := fun _ => 0) fun a ha => by rw [y1 a ha, Int.mul_zero], sm_zero]
    have e3 : sm n (fun a => y a * sw n A T a j) = sm n (fun q => A j q * sm n (fun a => y a * lin n (A a) (T q))) := by
      unfold sw
      rw [sm_congr (g := fun a => sm n (fun q => A j q * (y a * lin n (A a) (T q)))) fun a _ => ?_, sm_swap]
      · exact sm_congr fun q _ => sm_mul n (A j q) _
      · show y a * sm n (fun q => lin n (A a) (T q) * A j q) = _
        rw [← sm_mul]
        exact sm_congr fun q _ => by grind
    rw [e3, sm_congr (g := fun _ => 0) fun q _ => by rw [e q, Int.mul_zero], sm_zero]
  have e2 : sm n (fun a => y a * (c * A a j)) = 0 := by
    have : sm n (fun a => y a * (c * A a j)) = c * lin n (A j) y := by
      unfold lin
      rw [← sm_mul]
      exact sm_congr fun a _ => by rw [h.symA a j]; grind
    rw [this, y1 j hj, Int.mul_zero]
  have e3 : sm n (fun a => y a * sw n A T a j - y a * (c * A a j)) = 0 := by rw [sm_sub, e1, e2]; rfl
  have e4 : sm n (fun a => y a * sw n A T a j - y a * (c * A a j)) = y i * sw n A T i j - y i * (c * A i j) := by
    rw [← sm_one (fun a => y a * sw n A T a j - y a * (c * A a j)) hi]
    refine sm_congr fun a ha => ?_
    by_cases e : a = i
    · rw [if_pos e]
    · rw [if_neg e]
      by_cases hs : a ∈ S
      · rw [onS a hs j]
        omega
      · rw [y3 a hs e]
        simp
  rw [e4] at e3
  have : y i * sw n A T i j = y i * (c * A i j) := by omega
  exact Int.eq_of_mul_eq_mul_left (by omega) this
theorem Ps.zaz (h : Ps n S A T c) (i j : Nat) : sw n T A i j = c * T i j := by
  unfold sw
  by_cases hS : i ∈ S
  · rw [lin_pick (k := i) (h.sub i hS) fun q _ hne => by
      show lin n (T i) (A q) * T j q = 0
      by_cases hq : q ∈ S
      · rw [h.un i q hS hq, if_neg (Ne.symm hne), Int.zero_mul]
      · rw [h.zero j q (.inr hq), Int.mul_zero]]
    show lin n (T i) (A i) * T j i = _
    rw [h.un i i hS hS, if_pos rfl, h.symT j i]
  · rw [h.zero i j (.inl hS), Int.mul_zero]
    refine lin_zero fun q _ => ?_
    show lin n (T i) (A q) * T j q = 0
    rw [lin_zero fun p _ => by rw [h.zero i p (.inl hS), Int.zero_mul], Int.zero_mul]
theorem Ps.psd (h : Ps n S A T c) (hA : Psd n A) : Psd n T := fun y => by
  have q : ∀ (M : Nat → Row) (x : Row), Q n M x = sm n (fun i => x i * lin n (M i) x) := fun M x => by
    unfold Q lin
    refine sm_congr fun i _ => ?_
    rw [← sm_mul]
    exact sm_congr fun j _ => by grind
  obtain ⟨z, hz⟩ : ∃ z : Row, z = fun i => lin n (T i) y := ⟨_, rfl⟩
  have h1 := hA z
  rw [q] at h1
  have e : sm n (fun i => z i * lin n (A i) z) = c * Q n T y := by
    have e1 : sm n (fun i => z i * lin n (A i) z) = sm n (fun i => y i * lin n (T i) (fun p => lin n (A p) z)) := by
      have := lin_sym (n := n) h.symT y (fun p => lin n (A p) z)
      rw [← this]
      exact sm_congr fun i _ => by rw [hz, Int.mul_comm]
    rw [e1, q, ← sm_mul]
    refine sm_congr fun i hi => ?_
    have e2 : lin n (T i) (fun p => lin n (A p) z) = c * lin n (T i) y := by
      have e3 : lin n (T i) (fun p => lin n (A p) z) = sm n (fun j => y j * sw n T A i j) := by
        have a1 := lin_sym (n := n) h.symA z (T i)
        have a2 := lin_sym (n := n) h.symT y (fun p => lin n (T i) (A p))
        show sm n (fun p => T i p * lin n (A p) z) = _
        rw [a1, sm_congr (g := fun p => lin n (T i) (A p) * lin n (T p) y) fun p _ => by rw [hz, lin_comm n (A p) (T i), Int.mul_comm], a2]
        exact sm_congr fun j _ => by unfold sw; rw [lin_comm n (T j)]
      rw [e3]
      unfold lin
      rw [← sm_mul]
      exact sm_congr fun j _ => by rw [h.zaz i j]; grind
    rw [e2]
    grind
  rw [e] at h1
  rcases Int.lt_or_le (Q n T y) 0 with c1 | c1
  · have := Int.mul_neg_of_pos_of_neg h.pos c1
    omega
  · exact c1
/-- the leads of what undoes are the same ones -/
theorem Ps.leads (h : Ps n S A T c) {S2 : List Nat} {d : Int} {B : Nat → Row} {ps : List Pv} (run : Run T n S2 d B ps) (hk : ∀ k, k < n → k ∉ S2 → ∃ y, Ker n T S2 k y) (k : Nat) : k ∈ S2 ↔ k ∈ S := by
  have sub2 : ∀ s, s ∈ S2 → s < n := fun s hs => (run.inv h.symT).small s hs
  have one : ∀ k, k ∈ S2 → k ∈ S := fun k hm => by
    refine Classical.byContradiction fun hS => ?_
    have hkn := sub2 k hm
    have z := run.ker h.symT (Nat.le_refl n) (z := unitP k) (fun i hi => by
      rw [lin_unit _ hkn]
      exact h.zero i k (.inr hS)) (fun i hi => by
      unfold unitP
      rw [if_neg fun e => hi (by rw [e]; exact hm)]) k
    unfold unitP at z
    rw [if_pos rfl] at z
    cases z
  refine ⟨one k, fun hS => ?_⟩
  refine Classical.byContradiction fun hm => ?_
  have hkn := h.sub k hS
  obtain ⟨y, y1, y2, y3⟩ := hk k hkn hm
  have ys : ∀ i, i ∉ S → y i = 0 := fun i hi => y3 i (fun m => hi (one i m)) fun e => hi (by rw [e]; exact hS)
  -- A (T y) = 0
  have e1 : sm n (fun i => A k i * lin n (T i) y) = 0 := by
    rw [sm_congr (g := fun _ => 0) fun i hi => by rw [y1 i hi, Int.mul_zero], sm_zero]
  have e2 : sm n (fun i => A k i * lin n (T i) y) = sm n (fun i => y i * lin n (T i) (A k)) := lin_sym h.symT y (A k)
  rw [e1] at e2
  have e3 : sm n (fun i => y i * lin n (T i) (A k)) = y k * c := by
    rw [← sm_one (fun i => y i * c) hkn]
    refine sm_congr fun i _ => ?_
    by_cases e : i = k
    · rw [if_pos e, e, h.un k k hS hS, if_pos rfl]
    · rw [if_neg e]
      by_cases hs : i ∈ S
      · rw [h.un i k hs hS, if_neg e, Int.mul_zero]
      · rw [ys i hs, Int.zero_mul]
  rw [e3] at e2
  have := Int.mul_pos y2 h.pos
  omega
/-- what undoes what undoes -/
theorem Ps.back (h : Ps n S A T c) {S2 : List Nat} {Y : Nat → Row} {c2 : Int} (h2 : Ps n S2 T Y c2) (hS : ∀ k, k ∈ S2 ↔ k ∈ S) {i j : Nat} (hi : i ∈ S) (hj : j ∈ S) : c2 * A i j = c * Y i j := by
  have hi2 := (hS i).mpr hi
  -- Y T A in two ways
  have e1 : sm n (fun a => Y i a * lin n (T a) (A j)) = c * Y i j := by
    rw [← sm_one (fun a => c * Y i a) (h.sub j hj)]
    refine sm_congr fun a _ => ?_
    by_cases e : a = j
    · rw [if_pos e, e, h.un j j hj hj, if_pos rfl, Int.mul_comm]
    · rw [if_neg e]
      by_cases hs : a ∈ S
      · rw [h.un a j hs hj, if_neg e, Int.mul_zero]
      · rw [h2.zero i a (.inr fun m => hs ((hS a).mp m)), Int.zero_mul]
  have e2 : sm n (fun a => Y i a * lin n (T a) (A j)) = sm n (fun q => A j q * lin n (Y i) (T q)) := by
    unfold lin
    rw [sm_congr (g := fun a => sm n (fun q => Y i a * (T a q * A j q))) fun a _ => (sm_mul n (Y i a) _).symm, sm_swap]
    refine sm_congr fun q _ => ?_
    rw [← sm_mul]
    exact sm_congr fun a _ => by rw [h.symT a q]; grind
  have e3 : sm n (fun q => A j q * lin n (Y i) (T q)) = c2 * A i j := by
    rw [← sm_one (fun q => c2 * A q j) (h.sub i hi)]
    refine sm_congr fun q _ => ?_
    by_cases hq : q ∈ S
    · rw [h2.un i q hi2 ((hS q).mpr hq)]
      by_cases e : q = i
      · rw [if_pos e, if_pos e.symm, h.symA j q, Int.mul_comm]
      · rw [if_neg e, if_neg (Ne.symm e), Int.mul_zero]
    · rw [if_neg (fun e => hq (by rw [e]; exact hi)), lin_zero fun p _ => by rw [h.zero q p (.inl hq), Int.mul_zero], Int.mul_zero]
  rw [← e3, ← e2, e1]
end
end PySem.El
namespace PySem.El
theorem sm_last (n : Nat) (f : Nat → Int) : sm (n + 1) f = sm n f + f n := rfl
/-- a sum that only has some places -/
theorem sm_inj {n : Nat} {l : Nat → Nat} : ∀ {m : Nat} {f : Nat → Int}, (∀ a, a < m → l a < n) → (∀ a b, a < m → b < m → l a = l b → a = b) → (∀ i, i < n → (∀ a, a < m → l a ≠ i) → f i = 0) → sm n f = sm m (fun a => f (l a)) := by
  intro m
  induction m with
  | zero =>
    intro f _ _ h0
    rw [sm_congr (g := fun _ => 0) fun i hi => h0 i hi (fun a ha => by omega), sm_zero]
    rfl
  | succ m ih =>
    intro f hl inj h0
    have e1 : sm n f = sm n (fun i => if i = l m then 0 else f i) + f (l m) := by
      have := sm_one f (hl m (by omega))
      rw [← this, ← sm_add]
      refine sm_congr fun i _ => ?_
      by_cases c : i = l m
      · rw [if_pos c, if_pos c, Int.zero_add]
      · rw [if_neg c, if_neg c, Int.add_zero]
    rw [e1, sm_last, ih (f := fun i => if i = l m then 0 else f i) (fun a ha => hl a (by omega)) (fun a b ha hb => inj a b (by omega) (by omega)) fun i hi hne => ?_]
    · congr 1
      refine sm_congr fun a ha => ?_
      show (if l a = l m then 0 else f (l a)) = _
      rw [if_neg fun e => by have := inj a m (by omega) (by omega) e; omega]
    · by_cases c : i = l m
      · exact if_pos c
      · show (if i = l m then 0 else f i) = 0
        rw [if_neg c]
        refine h0 i hi fun a ha => ?_
        by_cases e : a = m
        · rw [e]; exact fun z => c z.symm
        · exact hne a (by omega)
theorem sm_app (a b : Nat) (f : Nat → Int) : sm (a + b) f = sm a f + sm b (fun i => f (a + i)) := by
  induction b with
  | zero => rw [Nat.add_zero, show sm 0 (fun i => f (a + i)) = 0 from rfl, Int.add_zero]
  | succ b ih => rw [← Nat.add_assoc, sm_last, sm_last, ih, Int.add_assoc]
theorem spread {π : Nat → Nat} (y : Row) : ∀ {n : Nat}, (∀ a b, a < n → b < n → π a = π b → a = b) → ∃ x : Row, ∀ p, p < n → x (π p) = y p := by
  intro n
  induction n with
  | zero => exact fun _ => ⟨fun _ => 0, fun p hp => by omega⟩
  | succ n ih =>
    intro inj
    obtain ⟨x, hx⟩ := ih fun a b ha hb => inj a b (by omega) (by omega)
    refine ⟨fun i => if i = π n then y n else x i, fun p hp => ?_⟩
    show (if π p = π n then y n else x (π p)) = y p
    by_cases c : p = n
    · rw [c, if_pos rfl]
    · rw [if_neg fun e => c (inj p n hp (by omega) e), hx p (by omega)]
/-- places that are seen, in their order, behind the other ones -/
structure Pm (n r m : Nat) (os ks : Nat → Nat) : Prop where
  nn : r + m = n
  o : ∀ p, p < r → os p < n
  k : ∀ a, a < m → ks a < n
  oi : ∀ p q, p < r → q < r → os p = os q → p = q
  ki : ∀ a b, a < m → b < m → ks a = ks b → a = b
  ok : ∀ p a, p < r → a < m → os p ≠ ks a
  all : ∀ i, i < n → (∃ p, p < r ∧ os p = i) ∨ ∃ a, a < m ∧ ks a = i
def pm (r : Nat) (os ks : Nat → Nat) : Nat → Nat := fun p => if p < r then os p else ks (p - r)
def Pe (A : Nat → Row) (n r : Nat) (os ks : Nat → Nat) : Nat → Row := fun i j => if i < n ∧ j < n then A (pm r os ks i) (pm r os ks j) else 0
section
variable {n r m : Nat} {os ks : Nat → Nat} {A : Nat → Row}
theorem pm_o {p : Nat} (h : p < r) : pm r os ks p = os p := if_pos h
theorem pm_k (a : Nat) : pm r os ks (r + a) = ks a := by
  unfold pm
  rw [if_neg (by omega)]
  congr 1
  omega
theorem Pm.lt (P : Pm n r m os ks) {p : Nat} (h : p < n) : pm r os ks p < n := by
  unfold pm
  have := P.nn
  by_cases c : p < r
  · rw [if_pos c]; exact P.o p c
  · rw [if_neg c]; exact P.k _ (by omega)
theorem Pm.inj (P : Pm n r m os ks) {p q : Nat} (hp : p < n) (hq : q < n) (e : pm r os ks p = pm r os ks q) : p = q := by
  unfold pm at e
  have := P.nn
  by_cases c : p < r <;> by_cases c2 : q < r
  · rw [if_pos c, if_pos c2] at e; exact P.oi p q c c2 e
  · rw [if_pos c, if_neg c2] at e; exact (P.ok p (q - r) c (by omega) e).elim
  · rw [if_neg c, if_pos c2] at e; exact (P.ok q (p - r) c2 (by omega) e.symm).elim
  · rw [if_neg c, if_neg c2] at e; have := P.ki (p - r) (q - r) (by omega) (by omega) e; omega
theorem Pm.on (P : Pm n r m os ks) {i : Nat} (hi : i < n) : ∃ p, p < n ∧ pm r os ks p = i := by
  have := P.nn
  rcases P.all i hi with ⟨p, h1, h2⟩ | ⟨a, h1, h2⟩
  · exact ⟨p, by omega, by rw [pm_o h1, h2]⟩
  · exact ⟨r + a, by omega, by rw [pm_k, h2]⟩
theorem Pm.smA (P : Pm n r m os ks) (f : Nat → Int) : sm n f = sm n (fun p => f (pm r os ks p)) :=
  sm_inj (fun a ha => P.lt ha) (fun a b ha hb => P.inj ha hb) fun i hi h => by
    obtain ⟨p, h1, h2⟩ := P.on hi
    exact (h p h1 h2).elim
theorem Pe_sym (hA : ∀ i j, A i j = A j i) (i j : Nat) : Pe A n r os ks i j = Pe A n r os ks j i := by
  unfold Pe
  by_cases c : i < n ∧ j < n
  · rw [if_pos c, if_pos ⟨c.2, c.1⟩, hA]
  · rw [if_neg c, if_neg fun z => c ⟨z.2, z.1⟩]
theorem Pe_out (i j : Nat) (hj : n ≤ j) : Pe A n r os ks i j = 0 := if_neg (by omega)
theorem Pe_in {i j : Nat} (hi : i < n) (hj : j < n) : Pe A n r os ks i j = A (pm r os ks i) (pm r os ks j) := if_pos ⟨hi, hj⟩
theorem Pm.linA (P : Pm n r m os ks) {j : Nat} (hj : j < n) (x : Row) : lin n (A (pm r os ks j)) x = lin n (Pe A n r os ks j) (fun p => x (pm r os ks p)) := by
  unfold El.lin
  rw [P.smA]
  exact sm_congr fun p hp => by rw [Pe_in hj hp]
theorem Pm.QA (P : Pm n r m os ks) (x : Row) : Q n A x = Q n (Pe A n r os ks) (fun p => x (pm r os ks p)) := by
  rw [Q_lin, Q_lin, P.smA]
  exact sm_congr fun p hp => by rw [P.linA hp]
theorem Pm.psd (P : Pm n r m os ks) (h : Psd n A) : Psd n (Pe A n r os ks) := fun y => by
  obtain ⟨x, hx⟩ := spread (π := pm r os ks) y (n := n) fun a b ha hb => P.inj ha hb
  have e : El.Q n (Pe A n r os ks) y = El.Q n (Pe A n r os ks) (fun p => x (pm r os ks p)) := Q_congr fun i j hi hj => by rw [hx i hi, hx j hj]
  rw [e, ← P.QA]
  exact h x
end
theorem Run.pp {A : Nat → Row} (hA : ∀ i j, A i j = A j i) {k S d B ps} (h : Run A k S d B ps) : ∀ p ∈ ps, 0 < p.2.2 := by
  induction h with
  | begin => intro p hp; cases hp
  | skip _ _ ih => exact ih
  | pivot h' hp ih =>
    intro p hm
    rcases List.mem_cons.1 hm with rfl | hm
    · exact Int.mul_pos (h'.inv hA).dpos hp
    · exact ih p hm
theorem Run.free2 {A : Nat → Row} {m S d B ps} (h : Run A m S d B ps) {k : Nat} (hk : k < m) (hS : k ∉ S) : ∃ S3 d3 B3 ps3, Run A k S3 d3 B3 ps3 ∧ (∀ x, B3 k x = 0) ∧ ∀ s ∈ S3, s ∈ S := by
  induction h with
  | begin => omega
  | @skip m S d B ps h hz ih =>
    by_cases e : k = m
    · subst e; exact ⟨_, _, _, _, h, hz, fun _ h => h⟩
    · exact ih (by omega) hS
  | @pivot m S d B ps h hp ih =>
    obtain ⟨S3, d3, B3, ps3, h1, h2, h3⟩ := ih (by
      have : k ≠ m := fun e => hS (by rw [e]; exact List.mem_cons_self ..)
      omega) fun q => hS (List.mem_cons_of_mem _ q)
    exact ⟨S3, d3, B3, ps3, h1, h2, fun s hs => List.mem_cons_of_mem _ (h3 s hs)⟩
/-- the rows that are no leads tell 0 where the leads do -/
theorem Run.all0 {A : Nat → Row} (hA : ∀ i j, A i j = A j i) {r S d B ps} (h : Run A r S d B ps) {n : Nat} (hr : r ≤ n) {x : Row} (hx : ∀ s ∈ S, lin n (A s) x = 0) {p : Nat} (hp : p < r) : lin n (A p) x = 0 := by
  by_cases c : p ∈ S
  · exact hx p c
  · obtain ⟨S3, d3, B3, ps3, h1, h2, h3⟩ := h.free2 hp c
    obtain ⟨y, y0, y1, y2⟩ := h1.kerAt hA (h1.pp hA) h2 (n := n) (by omega)
    have e := lin_sym (n := n) hA y x
    have e1 : sm n (fun i => x i * lin n (A i) y) = 0 := by
      rw [sm_congr (g := fun _ => 0) fun i _ => by rw [y2 i, Int.mul_zero], sm_zero]
    have e2 : sm n (fun i => y i * lin n (A i) x) = y p * lin n (A p) x := by
      rw [← sm_one (fun i => y i * lin n (A i) x) (show p < n by omega)]
      refine sm_congr fun i _ => ?_
      by_cases ci : i = p
      · rw [if_pos ci]
      · rw [if_neg ci]
        by_cases cs : i ∈ S3
        · rw [hx i (h3 i cs), Int.mul_zero]
        · rw [y1 i cs ci, Int.zero_mul]
    have : y p * lin n (A p) x = 0 := by
      first
        | rw [← e2, e, e1]
        | rw [← e2, ← e, e1]
    rcases Int.mul_eq_zero.mp this with z | z
    · omega
    · exact z
/-- what the rest tells of such a point -/
theorem Run.rest {A : Nat → Row} (hA : ∀ i j, A i j = A j i) {r S d B ps} (h : Run A r S d B ps) {n : Nat} {x : Row} (hx : ∀ s ∈ S, lin n (A s) x = 0) {i : Nat} (hi : r ≤ i) : d * lin n (A i) x = lin n (B i) x := by
  obtain ⟨m, w, hm, hw, he⟩ := (h.inv hA).span i hi
  have h0 : lin n w x = 0 := hw.lin fun q hq => by
    obtain ⟨s, hs, rfl⟩ := List.mem_map.mp hq
    exact hx s hs
  have e : m * (d * lin n (A i) x) + lin n w x = m * lin n (B i) x := by
    unfold lin
    rw [← sm_mul, ← sm_mul, ← sm_mul, ← sm_add]
    exact sm_congr fun j _ => by
      have := he j
      grind
  rw [h0, Int.add_zero] at e
  exact Int.eq_of_mul_eq_mul_left hm e
end PySem.El
namespace PySem.El
def uno : Nat → Row := fun i j => if i = j then 1 else 0
theorem au_uno {A : Nat → Row} (hA : ∀ i j, A i j = A j i) (l : Nat → Nat) (r : Nat) : Beside (Au A l r uno) r where
  sym := Au_sym hA l r uno
  one := fun s t hs ht => by
    unfold Au uno
    rw [if_pos hs, if_neg (by omega), Nat.add_sub_cancel_left]
  zero := fun i j hi hj => by
    unfold Au
    rw [if_neg (by omega), if_neg (by omega)]
/-- a table that undoes the block of the leads, up to d -/
structure Nv (A : Nat → Row) (S : List Nat) (d : Int) (N : Nat → Row) : Prop where
  inv : ∀ i x, i < S.length → x < S.length → sm S.length (fun s => N i s * A (led S s) (led S x)) = if i = x then d else 0
  sym : ∀ i s, i < S.length → s < S.length → N i s = N s i
theorem Run.undo {A : Nat → Row} (hA : ∀ i j, A i j = A j i) {r S d B ps} (h : Run A r S d B ps) : ∃ N, Nv A S d N := by
  have fall := h.fall
  obtain ⟨B2, ps2, run2, _⟩ := h.aug (led S) S.length uno (fun i j hij hj => led_mono fall.1 hij hj) S.length (Nat.le_refl _) (led_map S).symm
  have bs := au_uno hA (led S) S.length
  refine ⟨fun i s => -B2 (S.length + i) (S.length + s), fun i x hi hx => ?_, fun i s _ _ => by rw [(run2.inv bs.sym).sym]⟩
  rw [← run2.inverse bs hi hx]
  exact sm_congr fun s hs => by unfold Au; rw [if_pos hs, if_pos hx]
/-- the point that is told at the seen places and settles at the other ones -/
structure Fil (A : Nat → Row) (r m : Nat) (S : List Nat) (d : Int) (N : Nat → Row) (v x : Row) : Prop where
  k : ∀ a, a < m → x (r + a) = d * v a
  l : ∀ t, t < S.length → x (led S t) = -sm S.length (fun s => N t s * sm m (fun a => A (led S s) (r + a) * v a))
  z : ∀ p, p < r → p ∉ S → x p = 0
theorem sm_neg (n : Nat) (f : Nat → Int) : sm n (fun i => -f i) = -sm n f := by
  rw [sm_congr (g := fun i => (-1) * f i) (fun i _ => by omega), sm_mul]
  omega
theorem led_inj {S : List Nat} (h : S.Pairwise (fun a b => b < a)) {i j : Nat} (hi : i < S.length) (hj : j < S.length) (e : led S i = led S j) : i = j := by
  rcases Nat.lt_trichotomy i j with c | c | c
  · have := led_mono h c hj; omega
  · exact c
  · have := led_mono h c hi; omega
section
variable {A : Nat → Row} {n r m : Nat} {S : List Nat} {d : Int} {B : Nat → Row} {ps : List Pv} {N : Nat → Row} {v x : Row}
theorem Fil.lead (hA : ∀ i j, A i j = A j i) (hn : r + m = n) (h : Run A r S d B ps) (nv : Nv A S d N) (f : Fil A r m S d N v x) {t : Nat} (ht : t < S.length) : lin n (A (led S t)) x = 0 := by
  have fall := h.fall
  have sub : ∀ s, s < S.length → led S s < r := fun s hs => fall.2 _ (led_mem hs)
  obtain ⟨c, hc⟩ : ∃ c : Row, c = fun s => sm m (fun a => A (led S s) (r + a) * v a) := ⟨_, rfl⟩
  have e1 : lin n (A (led S t)) x = sm S.length (fun i => A (led S t) (led S i) * x (led S i)) + sm m (fun a => A (led S t) (r + a) * x (r + a)) := by
    unfold lin
    rw [sm_inj (l := fun q => if q < S.length then led S q else r + (q - S.length)) (m := S.length + m) (f := fun j => A (led S t) j * x j), sm_app]
    · congr 1
      · exact sm_congr fun i hi => by
          show A (led S t) (if i < S.length then led S i else _) * x (if i < S.length then led S i else _) = _
          rw [if_pos hi]
      · refine sm_congr fun a _ => ?_
        show A (led S t) (if S.length + a < S.length then _ else r + (S.length + a - S.length)) * x (if S.length + a < S.length then _ else r + (S.length + a - S.length)) = _
        rw [if_neg (by omega), Nat.add_sub_cancel_left]
    · intro q hq
      show (if q < S.length then led S q else r + (q - S.length)) < n
      by_cases c : q < S.length
      · rw [if_pos c]; have := sub q c; omega
      · rw [if_neg c]; omega
    · intro q1 q2 h1 h2 e
      have e : (if q1 < S.length then led S q1 else r + (q1 - S.length)) = (if q2 < S.length then led S q2 else r + (q2 - S.length)) := e
      by_cases c1 : q1 < S.length <;> by_cases c2 : q2 < S.length
      · rw [if_pos c1, if_pos c2] at e; exact led_inj fall.1 c1 c2 e
      · rw [if_pos c1, if_neg c2] at e; have := sub q1 c1; omega
      · rw [if_neg c1, if_pos c2] at e; have := sub q2 c2; omega
      · rw [if_neg c1, if_neg c2] at e; omega
    · intro i hi hne
      by_cases c : i < r
      · have : i ∉ S := fun hm => by
          obtain ⟨q, h1, h2⟩ := led_of hm
          refine hne q (by omega) ?_
          show (if q < S.length then led S q else _) = i
          rw [if_pos h1, h2]
        show A (led S t) i * x i = 0
        rw [f.z i c this, Int.mul_zero]
      · exfalso
        refine hne (S.length + (i - r)) (by omega) ?_
        show (if S.length + (i - r) < S.length then _ else r + (S.length + (i - r) - S.length)) = i
        rw [if_neg (by omega)]
        omega
  have e2 : sm m (fun a => A (led S t) (r + a) * x (r + a)) = d * c t := by
    rw [hc]
    show _ = d * sm m (fun a => A (led S t) (r + a) * v a)
    rw [← sm_mul]
    exact sm_congr fun a ha => by rw [f.k a ha]; grind
  have e3 : sm S.length (fun i => A (led S t) (led S i) * x (led S i)) = -(d * c t) := by
    have a1 : sm S.length (fun i => A (led S t) (led S i) * x (led S i)) = sm S.length (fun i => sm S.length (fun s => -(A (led S t) (led S i) * (N i s * c s)))) := sm_congr fun i hi => by
      rw [f.l i hi, sm_neg, sm_mul]
      rw [hc]
      grind
    rw [a1, sm_swap]
    have a2 : sm S.length (fun s => sm S.length (fun i => -(A (led S t) (led S i) * (N i s * c s)))) = sm S.length (fun s => if s = t then -(d * c s) else 0) := sm_congr fun s hs => by
      rw [sm_neg, sm_congr (g := fun i => c s * (N s i * A (led S i) (led S t))) fun i hi => by rw [nv.sym i s hi hs, hA (led S t) (led S i)]; grind, sm_mul, nv.inv s t hs ht]
      by_cases e : s = t
      · rw [if_pos e, if_pos e, Int.mul_comm]
      · rw [if_neg e, if_neg e, Int.mul_zero]
        rfl
    rw [a2]
    exact sm_one (fun s => -(d * c s)) ht
  rw [e1, e2, e3]
  omega
/-- what is told of it -/
theorem Run.told (hA : ∀ i j, A i j = A j i) (hn : r + m = n) (h : Run A r S d B ps) (nv : Nv A S d N) (f : Fil A r m S d N v x) : (∀ p, p < r → lin n (A p) x = 0) ∧ ∀ b, b < m → lin n (A (r + b)) x = lin m (fun a => B (r + b) (r + a)) v := by
  have hx : ∀ s ∈ S, lin n (A s) x = 0 := fun s hs => by
    obtain ⟨t, h1, h2⟩ := led_of hs
    rw [← h2]
    exact f.lead hA hn h nv h1
  refine ⟨fun p hp => h.all0 hA (by omega) hx hp, fun b hb => ?_⟩
  have e := h.rest hA (n := n) hx (show r ≤ r + b by omega)
  have hI := h.inv hA
  have e2 : lin n (B (r + b)) x = d * lin m (fun a => B (r + b) (r + a)) v := by
    unfold lin
    rw [sm_inj (l := fun a => r + a) (m := m), ← sm_mul]
    · exact sm_congr fun a ha => by
        show B (r + b) (r + a) * x (r + a) = _
        rw [f.k a ha]
        grind
    · intro a ha; show r + a < n; omega
    · intro a b _ _ e; have : r + a = r + b := e; omega
    · intro i hi hne
      by_cases c : i < r
      · rw [hI.low _ _ c, Int.zero_mul]
      · exact (hne (i - r) (by omega) (show r + (i - r) = i by omega)).elim
  rw [e2] at e
  exact Int.eq_of_mul_eq_mul_left (by have := hI.dpos; omega) e
theorem Run.fil (h : Run A r S d B ps) (m : Nat) (N : Nat → Row) (v : Row) : ∃ x, Fil A r m S d N v x := by
  have fall := h.fall
  have sub : ∀ s, s < S.length → led S s < r := fun s hs => fall.2 _ (led_mem hs)
  obtain ⟨g, hg⟩ : ∃ g : Row, g = fun t => -sm S.length (fun s => N t s * sm m (fun a => A (led S s) (r + a) * v a)) := ⟨_, rfl⟩
  refine ⟨fun p => if p < r then sm S.length (fun t => if led S t = p then g t else 0) else d * v (p - r), fun a ha => ?_, fun t ht => ?_, fun p hp hS => ?_⟩
  · show (if r + a < r then _ else d * v (r + a - r)) = _
    rw [if_neg (by omega), Nat.add_sub_cancel_left]
  · show (if led S t < r then sm S.length (fun t' => if led S t' = led S t then g t' else 0) else _) = _
    rw [if_pos (sub t ht), sm_congr (g := fun t' => if t' = t then g t' else 0) fun i hi => ?_, sm_one g ht, hg]
    by_cases c : i = t
    · rw [c, if_pos rfl, if_pos rfl]
    · rw [if_neg c, if_neg fun e => c (led_inj fall.1 hi ht e)]
  · show (if p < r then sm S.length (fun t => if led S t = p then g t else 0) else _) = 0
    rw [if_pos hp, sm_congr (g := fun _ => 0) fun i hi => if_neg fun e => hS (by rw [← e]; exact led_mem hi), sm_zero]
end
/-- what is left of A when only the places ks are seen -/
structure Seen (n : Nat) (A : Nat → Row) (ks : Nat → Nat) (m : Nat) (E : Nat → Row) (c : Int) : Prop where
  pos : 0 < c
  ext : ∀ v : Row, ∃ (x : Row) (z : Int), 0 < z ∧ (∀ a, a < m → x (ks a) = z * v a) ∧ (∀ i, i < n → (∀ a, a < m → ks a ≠ i) → lin n (A i) x = 0) ∧ ∀ a, a < m → c * lin n (A (ks a)) x = z * lin m (E a) v
section
variable {n m : Nat} {A : Nat → Row} {ks : Nat → Nat} {E : Nat → Row} {c : Int}
theorem Pm.told {r : Nat} {os : Nat → Nat} (P : Pm n r m os ks) (hA : ∀ i j, A i j = A j i) {S d B ps} (h : Run (Pe A n r os ks) r S d B ps) {N : Nat → Row} (nv : Nv (Pe A n r os ks) S d N) {v x : Row} (f : Fil (Pe A n r os ks) r m S d N v (fun p => x (pm r os ks p))) : (∀ i, i < n → (∀ a, a < m → ks a ≠ i) → lin n (A i) x = 0) ∧ ∀ a, a < m → lin n (A (ks a)) x = lin m (fun b => B (r + a) (r + b)) v := by
  have nn := P.nn
  obtain ⟨t1, t2⟩ := h.told (Pe_sym hA) nn nv f
  refine ⟨fun i hi hne => ?_, fun a ha => ?_⟩
  · rcases P.all i hi with ⟨p, h1, h2⟩ | ⟨a, h1, h2⟩
    · have := P.linA (A := A) (show p < n by omega) x
      rw [pm_o h1, h2] at this
      rw [this]
      exact t1 p h1
    · exact (hne a h1 h2).elim
  · have := P.linA (A := A) (show r + a < n by omega) x
    rw [pm_k] at this
    rw [this]
    exact t2 a ha
theorem Pm.seen {r : Nat} {os : Nat → Nat} (P : Pm n r m os ks) (hA : ∀ i j, A i j = A j i) {S d B ps} (h : Run (Pe A n r os ks) r S d B ps) : Seen n A ks m (fun a b => B (r + a) (r + b)) d := by
  have nn := P.nn
  have dp := (h.inv (Pe_sym hA)).dpos
  obtain ⟨N, nv⟩ := h.undo (Pe_sym hA)
  refine ⟨dp, fun v => ?_⟩
  obtain ⟨y, fy⟩ := h.fil m N v
  obtain ⟨x, hx⟩ := spread (π := pm r os ks) y (n := n) fun a b ha hb => P.inj ha hb
  have sub : ∀ s, s ∈ S → s < r := h.fall.2
  have f : Fil (Pe A n r os ks) r m S d N v (fun p => x (pm r os ks p)) := ⟨fun a ha => by
      show x (pm r os ks (r + a)) = _
      rw [hx _ (by omega)]; exact fy.k a ha, fun t ht => by
      show x (pm r os ks (led S t)) = _
      rw [hx _ (by have := sub _ (led_mem ht); omega)]; exact fy.l t ht, fun p hp hS => by
      show x (pm r os ks p) = _
      rw [hx _ (by omega)]; exact fy.z p hp hS⟩
  obtain ⟨t1, t2⟩ := P.told hA h nv f
  refine ⟨x, d, dp, fun a ha => ?_, t1, fun a ha => by rw [t2 a ha]⟩
  have := f.k a ha
  rw [pm_k] at this
  exact this
/-- another bottom, another scale -/
theorem Seen.turn (h : Seen n A ks m E c) (hk : ∀ a, a < m → ks a < n) {T E' : Nat → Row} {g c' : Int} (hT : ∀ i j, i < n → j < n → T i j = g * A i j) (hc : 0 < c') (hE : ∀ a b, a < m → b < m → c' * g * E a b = c * E' a b) : Seen n T ks m E' c' := by
  refine ⟨hc, fun v => ?_⟩
  obtain ⟨x, z, z0, h1, h2, h3⟩ := h.ext v
  have e : ∀ i, i < n → lin n (T i) x = g * lin n (A i) x := fun i hi => by
    unfold lin
    rw [← sm_mul]
    exact sm_congr fun j hj => by rw [hT i j hi hj, Int.mul_assoc]
  refine ⟨x, z, z0, h1, fun i hi hne => by rw [e i hi, h2 i hi hne, Int.mul_zero], fun a ha => ?_⟩
  rw [e _ (hk a ha)]
  have e2 : c * lin m (E' a) v = c' * g * lin m (E a) v := by
    unfold lin
    rw [← sm_mul, ← sm_mul]
    exact sm_congr fun b hb => by rw [← Int.mul_assoc, ← hE a b ha hb]; grind
  have := h3 a ha
  have cp := h.pos
  refine Int.eq_of_mul_eq_mul_left (a := c) (by omega) ?_
  have e4 : c * (c' * (g * lin n (A (ks a)) x)) = c' * g * (c * lin n (A (ks a)) x) := by grind
  have e5 : c * (z * lin m (E' a) v) = z * (c * lin m (E' a) v) := by grind
  rw [e4, e5, this, e2]
  grind
theorem null_of {n : Nat} {A : Nat → Row} (hA : ∀ i j, A i j = A j i) (hP : Psd n A) {w : Row} (h : Q n A w = 0) {i : Nat} (hi : i < n) : lin n (A i) w = 0 := by
  have e : ∀ s t : Int, Q n A (fun j => s * w j + t * unitP i j) = s * s * Q n A w + 2 * s * t * lin n (A i) w + t * t * A i i := fun s t => by
    have q : ∀ y : Row, sm n (fun j => unitP i j * y j) = y i := fun y => by
      rw [← sm_one y hi]
      exact sm_congr fun j _ => by
        unfold unitP
        by_cases c : j = i
        · rw [if_pos c, if_pos c, Int.one_mul]
        · rw [if_neg c, if_neg c, Int.zero_mul]
    have l1 : ∀ j, lin n (A j) (fun k => s * w k + t * unitP i k) = s * lin n (A j) w + t * A j i := fun j => by
      rw [lin_comb]
      congr 2
      rw [lin_comm]
      exact q (A j)
    rw [Q_lin, sm_congr (g := fun j => (s * s) * (w j * lin n (A j) w) + (s * t) * (A i j * w j) + ((s * t) * (unitP i j * lin n (A j) w) + (t * t) * (unitP i j * A j i))) fun j _ => by rw [l1 j, hA j i]; grind]
    rw [sm_add, sm_add, sm_add, sm_mul, sm_mul, sm_mul, sm_mul, ← Q_lin, q, q (fun j => A j i)]
    show s * s * Q n A w + s * t * lin n (A i) w + (s * t * lin n (A i) w + t * t * A i i) = _
    grind
  have b0 := hP.diag hi
  have h1 := hP (fun j => (-(A i i + 1) * lin n (A i) w) * w j + 1 * unitP i j)
  rw [e, h] at h1
  rcases Classical.em (lin n (A i) w = 0) with z | z
  · exact z
  · exfalso
    have sq : 1 ≤ lin n (A i) w * lin n (A i) w := by
      have : 0 ≤ lin n (A i) w * lin n (A i) w := by
        rcases Int.lt_or_le (lin n (A i) w) 0 with c | c
        · have := Int.mul_nonneg (show 0 ≤ -lin n (A i) w by omega) (show 0 ≤ -lin n (A i) w by omega)
          rw [Int.neg_mul_neg] at this
          exact this
        · exact Int.mul_nonneg c c
      rcases Classical.em (lin n (A i) w * lin n (A i) w = 0) with y | y
      · rcases Int.mul_eq_zero.mp y with y | y <;> exact (z y).elim
      · omega
    have e2 : 2 * (-(A i i + 1) * lin n (A i) w) * 1 * lin n (A i) w = -(2 * (A i i + 1) * (lin n (A i) w * lin n (A i) w)) := by grind
    rw [e2] at h1
    have e3 : 2 * (A i i + 1) * 1 ≤ 2 * (A i i + 1) * (lin n (A i) w * lin n (A i) w) := Int.mul_le_mul_of_nonneg_left sq (by omega)
    omega
end
end PySem.El
namespace PySem.El
/-- places in some order, each once -/
structure Pl (n m : Nat) (ks : Nat → Nat) : Prop where
  k : ∀ a, a < m → ks a < n
  ki : ∀ a b, a < m → b < m → ks a = ks b → a = b
section
variable {n m : Nat} {A : Nat → Row} {ks : Nat → Nat} {E : Nat → Row} {c : Int}
/-- the product of two points, one of which settles -/
theorem Pl.sum (P : Pl n m ks) {x y : Row} {c q z : Int} {v u : Row} (hy : ∀ a, a < m → y (ks a) = q * v a) (hx : ∀ i, i < n → (∀ a, a < m → ks a ≠ i) → lin n (A i) x = 0) (h3 : ∀ a, a < m → c * lin n (A (ks a)) x = z * lin m (E a) u) : c * sm n (fun i => y i * lin n (A i) x) = q * z * sm m (fun a => v a * lin m (E a) u) := by
  rw [sm_inj (l := ks) (m := m) P.k P.ki fun i hi hne => by rw [hx i hi hne, Int.mul_zero], ← sm_mul, ← sm_mul]
  exact sm_congr fun a ha => by
    show c * (y (ks a) * lin n (A (ks a)) x) = _
    rw [hy a ha]
    have := h3 a ha
    grind
theorem Q_comb (hA : ∀ i j, A i j = A j i) (s t : Int) (x y : Row) : Q n A (fun i => s * x i + t * y i) = s * s * Q n A x + 2 * s * t * sm n (fun i => y i * lin n (A i) x) + t * t * Q n A y := by
  rw [Q_lin, sm_congr (g := fun j => (s * s) * (x j * lin n (A j) x) + (s * t) * (x j * lin n (A j) y) + ((s * t) * (y j * lin n (A j) x) + (t * t) * (y j * lin n (A j) y))) fun j _ => by rw [lin_comb]; grind]
  rw [sm_add, sm_add, sm_add, sm_mul, sm_mul, sm_mul, sm_mul, ← Q_lin, ← Q_lin, lin_sym (n := n) hA y x]
  grind
theorem Seen.uniq (hA : ∀ i j, A i j = A j i) (hP : Psd n A) (P : Pl n m ks) {E' : Nat → Row} {c' : Int} (h : Seen n A ks m E c) (h' : Seen n A ks m E' c') {a b : Nat} (ha : a < m) (hb : b < m) : c' * E a b = c * E' a b := by
  obtain ⟨x, z, z0, h1, h2, h3⟩ := h.ext (unitP b)
  obtain ⟨x', z', z0', h1', h2', h3'⟩ := h'.ext (unitP b)
  have l0 : ∀ i, lin n (A i) (fun j => z' * x j + (-z) * x' j) = z' * lin n (A i) x + (-z) * lin n (A i) x' := fun i => lin_comb n _ _ _ _ _
  have q0 : Q n A (fun j => z' * x j + (-z) * x' j) = 0 := by
    rw [Q_lin, sm_congr (g := fun _ => 0) fun i hi => ?_, sm_zero]
    rcases Classical.em (∃ a, a < m ∧ ks a = i) with ⟨a, ha, e⟩ | hne
    · show (z' * x i + (-z) * x' i) * _ = 0
      rw [← e, h1 a ha, h1' a ha]
      have : z' * (z * unitP b a) + -z * (z' * unitP b a) = 0 := by grind
      rw [this, Int.zero_mul]
    · have hne : ∀ a, a < m → ks a ≠ i := fun a ha e => hne ⟨a, ha, e⟩
      rw [l0, h2 i hi hne, h2' i hi hne, Int.mul_zero, Int.mul_zero, Int.add_zero, Int.mul_zero]
  have e0 := null_of hA hP q0 (P.k a ha)
  rw [l0] at e0
  have u : ∀ M : Nat → Row, lin m (M a) (unitP b) = M a b := fun M => by
    rw [← sm_one (fun j => M a j) hb]
    exact sm_congr fun j _ => by
      show M a j * unitP b j = _
      unfold unitP
      by_cases e : j = b
      · rw [if_pos e, if_pos e, Int.mul_one]
      · rw [if_neg e, if_neg e, Int.mul_zero]
  have e1 := h3 a ha
  have e2 := h3' a ha
  rw [u] at e1 e2
  have cp := h.pos
  have cp' := h'.pos
  have zz := Int.mul_pos z0 z0'
  refine Int.eq_of_mul_eq_mul_left (a := z * z') (by omega) ?_
  have f1 : z * z' * (c' * E a b) = c' * z' * (c * lin n (A (ks a)) x) := by rw [e1]; grind
  have f2 : z * z' * (c * E' a b) = c * z * (c' * lin n (A (ks a)) x') := by rw [e2]; grind
  rw [f1, f2]
  have f3 : z' * lin n (A (ks a)) x = z * lin n (A (ks a)) x' := by
    have : -z * lin n (A (ks a)) x' = -(z * lin n (A (ks a)) x') := Int.neg_mul ..
    omega
  have f4 : c' * z' * (c * lin n (A (ks a)) x) = c' * c * (z' * lin n (A (ks a)) x) := by grind
  rw [f4, f3]
  grind
theorem Seen.comp (P : Pl n m ks) {k : Nat} {fs : Nat → Nat} {F : Nat → Row} {e : Int} (h : Seen n A ks m E c) (Pf : Pl m k fs) (h2 : Seen m E fs k F e) : Seen n A (fun a => ks (fs a)) k F (c * e) := by
  refine ⟨Int.mul_pos h.pos h2.pos, fun v => ?_⟩
  obtain ⟨y, z1, z10, a1, a2, a3⟩ := h2.ext v
  obtain ⟨x, z2, z20, b1, b2, b3⟩ := h.ext y
  have cp := h.pos
  refine ⟨x, z2 * z1, Int.mul_pos z20 z10, fun a ha => ?_, fun i hi hne => ?_, fun a ha => ?_⟩
  · show x (ks (fs a)) = _
    rw [b1 _ (Pf.k a ha), a1 a ha, Int.mul_assoc]
  · rcases Classical.em (∃ b, b < m ∧ ks b = i) with ⟨b, hb, eb⟩ | hn
    · have e1 := b3 b hb
      rw [a2 b hb (fun a ha z => hne a ha (by show ks (fs a) = i; rw [z, eb])), Int.mul_zero, eb] at e1
      rcases Int.mul_eq_zero.mp e1 with z | z
      · omega
      · exact z
    · exact b2 i hi fun a ha z => hn ⟨a, ha, z⟩
  · show c * e * lin n (A (ks (fs a))) x = _
    have e1 := b3 _ (Pf.k a ha)
    have e2 := a3 a ha
    have : c * e * lin n (A (ks (fs a))) x = e * (c * lin n (A (ks (fs a))) x) := by grind
    rw [this, e1]
    have : e * (z2 * lin m (E (fs a)) y) = z2 * (e * lin m (E (fs a)) y) := by grind
    rw [this, e2]
    grind
theorem Seen.psd (hP : Psd n A) (P : Pl n m ks) (h : Seen n A ks m E c) : Psd m E := fun v => by
  obtain ⟨x, z, z0, h1, h2, h3⟩ := h.ext v
  have e := P.sum h1 h2 h3
  rw [← Q_lin, ← Q_lin] at e
  have := hP x
  have cp := h.pos
  have l : 0 ≤ c * Q n A x := Int.mul_nonneg (by omega) this
  rw [e] at l
  rcases Int.lt_or_le (Q m E v) 0 with q | q
  · have := Int.mul_neg_of_pos_of_neg (Int.mul_pos z0 z0) q
    omega
  · exact q
/-- nothing is told less where the seen places have these values -/
theorem Seen.least (hA : ∀ i j, A i j = A j i) (hP : Psd n A) (P : Pl n m ks) (h : Seen n A ks m E c) {y v : Row} {q : Int} (hy : ∀ a, a < m → y (ks a) = q * v a) : q * q * Q m E v ≤ c * Q n A y := by
  obtain ⟨x, z, z0, h1, h2, h3⟩ := h.ext v
  have e := P.sum h1 h2 h3
  have e2 := P.sum hy h2 h3
  rw [← Q_lin, ← Q_lin] at e
  rw [← Q_lin] at e2
  have p := hP (fun i => (-q) * x i + z * y i)
  rw [Q_comb hA] at p
  have cp := h.pos
  have l : 0 ≤ c * (-q * -q * Q n A x + 2 * -q * z * sm n (fun i => y i * lin n (A i) x) + z * z * Q n A y) := Int.mul_nonneg (by omega) p
  have f : c * (-q * -q * Q n A x + 2 * -q * z * sm n (fun i => y i * lin n (A i) x) + z * z * Q n A y) = q * q * (c * Q n A x) - 2 * q * z * (c * sm n (fun i => y i * lin n (A i) x)) + z * z * (c * Q n A y) := by grind
  rw [f, e, e2] at l
  have f2 : q * q * (z * z * Q m E v) - 2 * q * z * (q * z * Q m E v) + z * z * (c * Q n A y) = z * z * (c * Q n A y - q * q * Q m E v) := by grind
  rw [f2] at l
  have zz := Int.mul_pos z0 z0
  rcases Int.lt_or_le (c * Q n A y - q * q * Q m E v) 0 with w | w
  · have := Int.mul_neg_of_pos_of_neg zz w
    omega
  · omega
end
/-- the elimination of a block is the beginning of that of the whole table -/
def cut (r : Nat) (M : Nat → Row) : Nat → Row := fun i j => if i < r ∧ j < r then M i j else 0
theorem Run.cut {A : Nat → Row} {k S d B ps} (h : Run A k S d B ps) (r : Nat) (hk : k ≤ r) : ∃ ps', Run (El.cut r A) k S d (El.cut r B) ps' := by
  induction h with
  | begin => exact ⟨[], .begin⟩
  | skip h hz ih =>
    obtain ⟨ps', h'⟩ := ih (by omega)
    refine ⟨ps', h'.skip fun x => ?_⟩
    unfold El.cut
    rw [hz x]
    exact ite_self _
  | @pivot k S d B ps h hp ih =>
    obtain ⟨ps', h'⟩ := ih (by omega)
    have e : El.cut r B k k = B k k := if_pos ⟨by omega, by omega⟩
    have h2 := h'.pivot (by rw [e]; exact hp)
    have e2 : redu (El.cut r B) k d = El.cut r (redu B k d) := by
      funext i j
      show (if k < i ∧ k < j then (El.cut r B k k * El.cut r B i j - El.cut r B k i * El.cut r B k j) / d else 0) = if i < r ∧ j < r then (if k < i ∧ k < j then (B k k * B i j - B k i * B k j) / d else 0) else 0
      have c0 : ∀ a b, a < r → b < r → El.cut r B a b = B a b := fun a b ha hb => if_pos ⟨ha, hb⟩
      have c1 : ∀ a b, ¬ (a < r ∧ b < r) → El.cut r B a b = 0 := fun a b h => if_neg h
      by_cases c2 : k < i ∧ k < j
      · rw [if_pos c2, if_pos c2, e]
        by_cases ci : i < r
        · by_cases cj : j < r
          · rw [if_pos ⟨ci, cj⟩, c0 i j ci cj, c0 k i (by omega) ci, c0 k j (by omega) cj]
          · rw [if_neg fun z => cj z.2, c1 i j fun z => cj z.2, c1 k j fun z => cj z.2, Int.mul_zero, Int.mul_zero, Int.sub_self, Int.zero_ediv]
        · rw [if_neg fun z => ci z.1, c1 i j fun z => ci z.1, c1 k i fun z => ci z.2, Int.mul_zero, Int.zero_mul, Int.sub_self, Int.zero_ediv]
      · rw [if_neg c2, if_neg c2]
        exact (ite_self _).symm
    rw [e2, e] at h2
    exact ⟨_, h2⟩
end PySem.El
set_option maxHeartbeats 6000000
set_option exponentiation.threshold 70000
namespace P09
open PySem PySem.Spec PyProof.Rows L2 SX EX WK
/-- the form of the table T over U, in lowest terms -/
def FAt (K : PySem.W.Frag) (H : Hp) (cF p : Addr) (n : Nat) (T : Nat → Nat → Int) (U : Int) : Prop := FormAt K H cF p n (mat n fun i j => T i j / gf U (mat n T).flatten) (U / gf U (mat n T).flatten)
theorem B.quot {k : Nat} {x g : Int} (h : B k x) : B k (x / g) := Nat.lt_of_le_of_lt (Int.natAbs_ediv_le_natAbs x g) h
theorem setd_B {n w : Nat} {bd : Int} {M : Nat → Nat → Int} (jo : JOk n w bd M) {k : Nat} {S : List Nat} {d : Int} {B' : Nat → Nat → Int} {ps : List El.Pv} (run : El.Run M k S d B' ps) (hk : k < n) {x : El.Row} (bad : BadAt n k B' x) : ∀ i, B 60000 (setd n ps x i) := fun i => by
  obtain ⟨xB, g1⟩ := jo.bad run hk bad
  have e : setd n ps x i = El.setl n ps x i := by
    show seti n ps x i / gf 0 (vec n (seti n ps x)) = _
    rw [g1, Int.ediv_one, seti_setl]
  rw [e]
  have n10 := jo.n10
  have w1 := jo.w1
  have pv := run.pivots jo.whole.sym bd jo.bd1 jo.abs
  have hb := run.setl_bound (fun _ => ((2 ^ w : Nat) : Int)) (fun k => El.bnd bd k * El.bnd bd (k + 1)) n (fun _ => by have : 0 < 2 ^ w := Nat.two_pow_pos w; omega) (fun p hp => by
    have q := pv p hp
    refine { q with small := Nat.lt_trans q.small hk, row := fun j => ?_ }
    have a := q.row j
    have m := El.bnd_mono jo.bd1 (show p.1 + 1 ≤ n by have := q.small; omega)
    have c : (El.bnd bd n).natAbs < 2 ^ w := jo.bB
    omega) (by omega) x ((2 ^ (w + 1) : Nat) : Int) (Int.natCast_nonneg _) (fun j => by have : (x j).natAbs < 2 ^ (w + 1) := xB j; omega) i
  have tc := tb_con (w := w) n10 k
  have h3 : ((2 ^ (w + 1) : Nat) : Int) * El.tb (fun _ => ((2 ^ w : Nat) : Int)) n k ≤ ((2 ^ (w + 1) : Nat) : Int) * ((2 ^ (k * (w + 4)) : Nat) : Int) := Int.mul_le_mul_of_nonneg_left tc (Int.natCast_nonneg _)
  rw [← Int.natCast_mul, ← Nat.pow_add] at h3
  have h4 : k * (w + 4) ≤ 10 * (w + 4) := Nat.mul_le_mul_right _ (by omega)
  have h5 : (2 : Nat) ^ (w + 1 + k * (w + 4)) < 2 ^ 60000 := Nat.pow_lt_pow_right (by decide) (by omega)
  show (El.setl n ps x i).natAbs < 2 ^ 60000
  generalize (2 : Nat) ^ (w + 1 + k * (w + 4)) = a1 at *
  generalize (2 : Nat) ^ 60000 = a2 at *
  omega
theorem bad_neg {n k : Nat} {B' : Nat → El.Row} {x : El.Row} (hk : k < n) (hs : ∀ i j, B' i j = B' j i) (bad : BadAt n k B' x) : El.Q n B' x < 0 := by
  rcases bad with ⟨h0, rfl⟩ | ⟨h0, p, hp, hpn, hne, _, rfl⟩
  · rw [El.Q_unit B' hk]
    exact h0
  · exact El.Q_side_neg B' hk hpn (hs k p) h0 hne (amt k p B') rfl
theorem bad_value {n w : Nat} {bd : Int} {M : Nat → Nat → Int} (jo : JOk n w bd M) {k : Nat} {S : List Nat} {d : Int} {B' : Nat → Nat → Int} {ps : List El.Pv} (run : El.Run M k S d B' ps) (hk : k < n) {x : El.Row} (bad : BadAt n k B' x) : El.Q n M (setd n ps x) < 0 := by
  obtain ⟨_, g1⟩ := jo.bad run hk bad
  obtain ⟨hz, f0, hf0, hs⟩ := run.settled jo.whole.sym n (by omega) x
  have e : setd n ps x = El.setl n ps x := by
    funext i
    show seti n ps x i / gf 0 (vec n (seti n ps x)) = _
    rw [g1, Int.ediv_one, seti_setl]
  rw [e]
  refine run.negAt jo.whole.sym n x _ hz 1 f0 (by decide) hf0 (fun i hi hS => ?_) (bad_neg hk (run.inv jo.whole.sym).sym bad)
  rw [Int.one_mul]
  exact hs i hS
theorem neg_scale {n : Nat} {g : Int} (hg : 0 < g) {M : Nat → El.Row} {y : El.Row} (h : El.Q n M y < 0) : El.Q n (fun i j => g * M i j) y < 0 := by
  have e : El.Q n (fun i j => g * M i j) y = g * El.Q n M y := by
    rw [← El.Q_mul]
  rw [e]
  exact Int.mul_neg_of_pos_of_neg hg h
def cutT (n : Nat) (f : Nat → Nat → Int) : Nat → Nat → Int := fun i j => if i < n ∧ j < n then f i j else 0
theorem cutT_in {n : Nat} {f : Nat → Nat → Int} {i j : Nat} (hi : i < n) (hj : j < n) : f i j = cutT n f i j := by
  unfold cutT
  rw [if_pos ⟨hi, hj⟩]
theorem le_of_mul {G x T bd : Int} (hG : 0 < G) (e : G * x = T) (h : -bd ≤ T ∧ T ≤ bd) : -bd ≤ x ∧ x ≤ bd := by
  rcases Int.lt_or_le x 0 with c | c
  · have h1 : G * x ≤ 1 * x := by
      have := Int.mul_le_mul_of_nonneg_right (show (1 : Int) ≤ G by omega) (show 0 ≤ -x by omega)
      rw [Int.mul_neg, Int.mul_neg] at this
      omega
    omega
  · have h1 : 1 * x ≤ G * x := Int.mul_le_mul_of_nonneg_right (by omega) c
    omega
theorem jok_of {n w : Nat} {bd G : Int} {M T : Nat → Nat → Int} (n10 : n ≤ 10) (hG : 0 < G) (hM : ∀ i j, i < n → j < n → G * M i j = T i j) (hs : ∀ i j, i < n → j < n → T i j = T j i) (b1 : 1 ≤ bd) (abs : ∀ i j, i < n → j < n → -bd ≤ T i j ∧ T i j ≤ bd) (bB : B w (El.bnd bd n)) (w0 : 0 < w) (w1 : w ≤ 4475) : JOk n w bd (cutT n M) := by
  have sy : ∀ i j, i < n → j < n → M i j = M j i := fun i j hi hj => by
    have h1 := hM i j hi hj
    rw [hs i j hi hj, ← hM j i hj hi] at h1
    exact Int.eq_of_mul_eq_mul_left (by omega) h1
  refine ⟨n10, ⟨fun i j => ?_, fun i j hj => ?_⟩, b1, fun i j => ?_, bB, w0, w1⟩
  · unfold cutT
    by_cases c : i < n ∧ j < n
    · rw [if_pos c, if_pos ⟨c.2, c.1⟩, sy i j c.1 c.2]
    · rw [if_neg c, if_neg (fun z => c ⟨z.2, z.1⟩)]
  · unfold cutT
    rw [if_neg (by omega)]
  · unfold cutT
    by_cases c : i < n ∧ j < n
    · rw [if_pos c]
      exact le_of_mul hG (hM i j c.1 c.2) (abs i j c.1 c.2)
    · rw [if_neg c]
      omega
theorem two_new {H : Hp} {x dx : Addr} {u o : HO} (hx : H x = none) (hd : H dx = none) : Same H (upd (upd H dx u) x o) := fun c v e => by
  have c1 : c ≠ x := fun z => by rw [z, hx] at e; cases e
  have c2 : c ≠ dx := fun z => by rw [z, hd] at e; cases e
  rw [upd_ne c1, upd_ne c2]
  exact e
/-- the common part, the program's table and bottom -/
abbrev GF (n : Nat) (T : Nat → Nat → Int) (l : Int) : Int := gf l (mat n T).flatten
abbrev MF (n : Nat) (T : Nat → Nat → Int) (l : Int) : Nat → Nat → Int := cutT n fun i j => T i j / GF n T l
abbrev BF (n : Nat) (T : Nat → Nat → Int) (l : Int) : Int := l / GF n T l
theorem mf_in {n : Nat} {T : Nat → Nat → Int} {l : Int} {i j : Nat} (hi : i < n) (hj : j < n) : MF n T l i j = T i j / GF n T l := (cutT_in (f := fun i j => T i j / GF n T l) hi hj).symm
theorem B.abs {k : Nat} {x : Int} (h : B k x) : -(2 ^ k : Int) ≤ x ∧ x ≤ (2 ^ k : Int) := by
  have h1 : x.natAbs < 2 ^ k := h
  have h2 : ((2 ^ k : Nat) : Int) = (2 : Int) ^ k := Int.natCast_pow 2 k
  omega
theorem fat_mf {K : PySem.W.Frag} {H : Hp} {cF p : Addr} {n : Nat} {T : Nat → Nat → Int} {l : Int} (h : FAt K H cF p n T l) : FormAt K H cF p n (mat n (MF n T l)) (BF n T l) := by
  unfold FAt at h
  rw [mat_congr (fun i j hi hj => cutT_in (f := fun i j => T i j / gf l (mat n T).flatten) hi hj)] at h
  exact h
theorem B_abs {k : Nat} {x : Int} (h : B k x) : -(2 ^ k : Int) ≤ x ∧ x ≤ (2 ^ k : Int) := by
  have h1 : x.natAbs < 2 ^ k := h
  have h2 : ((2 ^ k : Nat) : Int) = (2 : Int) ^ k := Int.natCast_pow 2 k
  omega
theorem one_le_pow (k : Nat) : (1 : Int) ≤ 2 ^ k := by
  have h2 : ((2 ^ k : Nat) : Int) = (2 : Int) ^ k := Int.natCast_pow 2 k
  have := Nat.two_pow_pos k
  omega
theorem flat_div (n : Nat) (T : Nat → Nat → Int) (G : Int) : (mat n fun i j => T i j / G).flatten = (mat n T).flatten.map (· / G) := by
  unfold mat vec
  rw [List.map_flatten, List.map_map]
  congr 1
  refine List.map_congr_left fun i _ => ?_
  show (List.range n).map _ = ((List.range n).map (T i)).map (· / G)
  rw [List.map_map]
  rfl
theorem gf_mf {n : Nat} {T : Nat → Nat → Int} {l : Int} (hl : 0 < l) : gf (BF n T l) (mat n (MF n T l)).flatten = 1 := by
  have e : mat n (MF n T l) = mat n fun i j => T i j / GF n T l := (mat_congr (fun i j hi hj => cutT_in (f := fun i j => T i j / GF n T l) hi hj)).symm
  rw [e, flat_div]
  exact gf_one hl _
section
variable {n : Nat} {T : Nat → Nat → Int} {l : Int}
theorem gf_mul (hl : 0 < l) : GF n T l * BF n T l = l := Int.mul_ediv_cancel' (gf_dvd _).1
theorem gf_mt (hl : 0 < l) {i j : Nat} (hi : i < n) (hj : j < n) : GF n T l * MF n T l i j = T i j := by
  show GF n T l * cutT n (fun i j => T i j / GF n T l) i j = _
  rw [← cutT_in (f := fun i j => T i j / GF n T l) hi hj]
  exact Int.mul_ediv_cancel' ((gf_dvd _).2 _ (mat_mem hi hj))
theorem mt0 {i j : Nat} (c : ¬ (i < n ∧ j < n)) : MF n T l i j = 0 := by
  show cutT n (fun i j => T i j / GF n T l) i j = 0
  unfold cutT
  rw [if_neg c]
theorem mt_B {k : Nat} (h : ∀ i j, i < n → j < n → B k (T i j)) : ∀ i j, B k (MF n T l i j) := fun i j => by
  by_cases c : i < n ∧ j < n
  · show B k (cutT n (fun i j => T i j / GF n T l) i j)
    rw [← cutT_in (f := fun i j => T i j / GF n T l) c.1 c.2]
    exact P09.B.quot (h i j c.1 c.2)
  · rw [mt0 c]
    exact Nat.two_pow_pos _
theorem mt_sym (h : ∀ i j, i < n → j < n → T i j = T j i) (i j : Nat) : MF n T l i j = MF n T l j i := by
  by_cases c : i < n ∧ j < n
  · show cutT n (fun i j => T i j / GF n T l) i j = cutT n (fun i j => T i j / GF n T l) j i
    rw [← cutT_in (f := fun i j => T i j / GF n T l) c.1 c.2, ← cutT_in (f := fun i j => T i j / GF n T l) c.2 c.1, h i j c.1 c.2]
  · rw [mt0 c, mt0 fun d => c ⟨d.2, d.1⟩]
theorem bf_pos (hl : 1 ≤ l) : 0 < BF n T l := Int.lt_of_lt_of_le (by decide : (0 : Int) < 1) (quot_pos (gf_pos (by omega) _) (gf_dvd _).1 hl)
end
section
variable {P : Program} {w : World} {K : PySem.W.Frag} {mg : Str → Option Value} {base : Heap} {f : Addr} {fd : FuncData} {cF cR : Addr}
theorem mk_form {H : Hp} {x dx : Addr} {v : V} {n : Nat} {R : Nat → Nat → Int} {low : Int} {Q : VK} {E : XK} (hx : H x = none) (hdx : H dx = none) (sn : Sn K H v (tdm (mat n R))) (hs : ∀ i j, i < n → j < n → R i j = R j i) (hn : n ≤ 10) (l0 : 0 < low) (lB : B 9000 low) (q : ∀ H3, Same H H3 → FAt K H3 cF x n R low → Q .non H3) :
    spForm K cF [.ref x, v, .int low] (upd (upd H dx (.own x)) x (.ins cF dx [])) Q E := by
  refine ⟨x, dx, v, mat n R, low, rfl, upd_same, sn.same (two_new hx hdx), mat_sqr, mat_sym (fun i j hi hj => hs i j hi hj), by rw [mat_len]; omega, l0, lB, fun H3 hF hbut => ?_⟩
  rw [mat_len, dm_mat] at hF
  exact q H3 (made_same hx hdx hbut) hF
end
end P09
namespace PySem.El
/-- the places that are not seen, in their order -/
def oth (n m : Nat) (ks : Nat → Nat) : List Nat := (List.range n).filter fun i => decide (∀ a, a < m → ks a ≠ i)
abbrev rO (n m : Nat) (ks : Nat → Nat) : Nat := (oth n m ks).length
def oS (n m : Nat) (ks : Nat → Nat) : Nat → Nat := fun p => (oth n m ks).getD p 0
section
variable {n m : Nat} {ks : Nat → Nat}
theorem oth_mem {i : Nat} : i ∈ oth n m ks ↔ i < n ∧ ∀ a, a < m → ks a ≠ i := by
  unfold oth
  rw [List.mem_filter, List.mem_range, decide_eq_true_iff]
theorem oS_mem {p : Nat} (hp : p < rO n m ks) : oS n m ks p ∈ oth n m ks := by
  unfold oS
  rw [List.getD_eq_getElem?_getD, List.getElem?_eq_getElem hp]
  exact List.getElem_mem _
theorem oS_of {i : Nat} (h : i ∈ oth n m ks) : ∃ p, p < rO n m ks ∧ oS n m ks p = i := by
  obtain ⟨p, hp, e⟩ := List.getElem_of_mem h
  refine ⟨p, hp, ?_⟩
  unfold oS
  rw [List.getD_eq_getElem?_getD, List.getElem?_eq_getElem hp]
  exact e
theorem oS_at {p : Nat} (hp : p < rO n m ks) : (oth n m ks)[p]? = some (oS n m ks p) := by
  unfold oS
  rw [List.getD_eq_getElem?_getD, List.getElem?_eq_getElem hp]
  rfl
theorem oth_sorted : (oth n m ks).Pairwise (· < ·) := List.Pairwise.filter _ List.pairwise_lt_range
theorem oS_mono {p q : Nat} (hpq : p < q) (hq : q < rO n m ks) : oS n m ks p < oS n m ks q := by
  unfold oS
  rw [List.getD_eq_getElem?_getD, List.getD_eq_getElem?_getD, List.getElem?_eq_getElem (Nat.lt_trans hpq hq), List.getElem?_eq_getElem hq]
  exact List.pairwise_iff_getElem.1 oth_sorted p q (Nat.lt_trans hpq hq) hq hpq
theorem Pl.pm (P : Pl n m ks) : Pm n (rO n m ks) m (oS n m ks) ks := by
  have inj : ∀ p q, p < rO n m ks → q < rO n m ks → oS n m ks p = oS n m ks q → p = q := fun p q hp hq e => by
    rcases Nat.lt_trichotomy p q with c | c | c
    · have := oS_mono c hq; omega
    · exact c
    · have := oS_mono c hp; omega
  have all : ∀ i, i < n → (∃ p, p < rO n m ks ∧ oS n m ks p = i) ∨ ∃ a, a < m ∧ ks a = i := fun i hi => by
    rcases Classical.em (∃ a, a < m ∧ ks a = i) with c | c
    · exact .inr c
    · exact .inl (oS_of (oth_mem.mpr ⟨hi, fun a ha e => c ⟨a, ha, e⟩⟩))
  have o : ∀ p, p < rO n m ks → oS n m ks p < n := fun p hp => (oth_mem.mp (oS_mem hp)).1
  have ok : ∀ p a, p < rO n m ks → a < m → oS n m ks p ≠ ks a := fun p a hp ha e => (oth_mem.mp (oS_mem hp)).2 a ha e.symm
  refine ⟨?_, o, P.k, inj, P.ki, ok, all⟩
  have o1 : ∀ n : Nat, sm n (fun _ => 1) = (n : Int) := fun n => by
    induction n with
    | zero => rfl
    | succ n ih => rw [sm_last, ih]; omega
  have e := sm_add n (fun i => if ∃ a, a < m ∧ ks a = i then 0 else 1) (fun i => if ∃ a, a < m ∧ ks a = i then 1 else 0)
  rw [sm_congr (g := fun _ => 1) (fun i _ => by
    by_cases c : ∃ a, a < m ∧ ks a = i
    · rw [if_pos c, if_pos c]; rfl
    · rw [if_neg c, if_neg c]; rfl), o1] at e
  rw [sm_inj (l := oS n m ks) (m := rO n m ks) (f := fun i => if ∃ a, a < m ∧ ks a = i then 0 else 1) o inj fun i hi hne => ?_] at e
  · rw [sm_inj (l := ks) (m := m) (f := fun i => if ∃ a, a < m ∧ ks a = i then 1 else 0) P.k P.ki fun i hi hne => ?_] at e
    · rw [sm_congr (g := fun _ => 1) (fun p hp => if_neg fun ⟨a, ha, z⟩ => ok p a hp ha z.symm), o1, sm_congr (g := fun _ => 1) (fun a ha => if_pos ⟨a, ha, rfl⟩), o1] at e
      omega
    · exact if_neg fun ⟨a, ha, z⟩ => hne a ha z
  · rcases all i hi with ⟨p, h1, h2⟩ | c
    · exact (hne p h1 h2).elim
    · exact if_pos c
end
end PySem.El
set_option exponentiation.threshold 3000
namespace P09
open PySem PySem.Spec PyProof.Rows L2 SX EX WK
/-- a class without its keyword: the bottom is 1 -/
def CalK1 (P : Program) (w : World) (K : PySem.W.Frag) (mg : Str → Option Value) (base : Heap) (k : Nat) (x : Str) (C : Addr) (n : Nat) (sp : Sp) : Prop :=
  ∃ (f : Addr) (fd : FuncData) (ps : List Str) (g : List Value → List Value → List Value), Mk K C f ∧ FnOk P w K mg base CX0 k f fd ps sp ∧ mg x = some (.ref C) ∧ KBn K fd ps (n + 1) [] g (fun vs _ => vs ++ [.int 1])
theorem pe_calK1 {X : Cx} {k n : Nat} {C : Addr} {x : Str} {sp : Sp} {p pos : Pos} {e : Expr} {es : List Expr} {t : TA} (M : CalK1 X.prog X.w X.K X.mg X.base k x C n sp) (hr : Room (k + 1) X.A) (hg : Gl X x) (ha : PA X (e :: es) t)
    (hall : (backToKw pos (keywordEach [] X.env)).all (·.1.isSome) = true := by rfl) (hks : (backToKw pos (keywordEach [] X.env)).filterMap (·.1) = [] := by rfl) (hdb : (x == ("__debug__" : Str)) = false := by decide)
    (he : starEach (e :: es) X.env = (false, eval e X.env) :: starEach es X.env := by rfl) (hpl : ((backTo pos (starEach (e :: es) X.env)).any (·.1) || (backToKw pos (keywordEach [] X.env)).any (·.1.isNone)) = false := by rfl) :
    PE X (.Call (.Name x p) (e :: es) [] pos) (tMakeK C n 0 sp (fun vs _ => vs ++ [.int 1]) E0 t tNil) := by
  obtain ⟨f, fd, ps, g, M, F, hm, hb⟩ := M
  exact pe_makeK M F hr hg hm hb pass0 ha pk_nil hall hks hdb he hpl
/-- the places ks, written out -/
abbrev pv_ (m : Nat) (ks : Nat → Nat) : List Int := vec m fun a => (ks a : Int)
theorem pv_mem {m : Nat} {ks : Nat → Nat} {i : Nat} : (i : Int) ∈ pv_ m ks ↔ ∃ a, a < m ∧ ks a = i := by
  show (i : Int) ∈ (List.range m).map _ ↔ _
  rw [List.mem_map]
  constructor
  · rintro ⟨a, h1, h2⟩
    exact ⟨a, List.mem_range.mp h1, by omega⟩
  · rintro ⟨a, h1, h2⟩
    exact ⟨a, List.mem_range.mpr h1, by show (ks a : Int) = i; omega⟩
theorem oth_fm (n m : Nat) (ks : Nat → Nat) : ((List.range n).filterMap fun i => if ∃ a, a < m ∧ ks a = i then none else some (i : Int)) = pv_ (El.rO n m ks) (El.oS n m ks) := by
  have e : ∀ l : List Nat, (l.filterMap fun i => if ∃ a, a < m ∧ ks a = i then none else some (i : Int)) = (l.filter fun i => decide (∀ a, a < m → ks a ≠ i)).map fun (i : Nat) => (i : Int) := fun l => by
    induction l with
    | nil => rfl
    | cons i l ih =>
      by_cases c : ∃ a, a < m ∧ ks a = i
      · rw [List.filterMap_cons_none (by rw [if_pos c]), List.filter_cons_of_neg (by
          rw [decide_eq_true_iff]
          intro h
          obtain ⟨a, h1, h2⟩ := c
          exact h a h1 h2), ih]
      · rw [List.filterMap_cons_some (by rw [if_neg c]), List.filter_cons_of_pos (p := fun i => decide (∀ a, a < m → ks a ≠ i)) (decide_eq_true fun a ha z => c ⟨a, ha, z⟩), ih]
        rfl
  rw [e]
  show (El.oth n m ks).map _ = (List.range (El.oth n m ks).length).map fun p => ((El.oS n m ks p : Nat) : Int)
  refine List.ext_getElem? fun p => ?_
  rw [List.getElem?_map, List.getElem?_map]
  by_cases hp : p < (El.oth n m ks).length
  · rw [El.oS_at hp, List.getElem?_range hp]
    rfl
  · rw [List.getElem?_eq_none (by omega), List.getElem?_eq_none (by rw [List.length_range]; omega)]
    rfl
/-- the block of the other places -/
abbrev Blk (A : Nat → Nat → Int) (n m : Nat) (ks : Nat → Nat) : Nat → Nat → Int := El.cut (El.rO n m ks) (El.Pe A n (El.rO n m ks) (El.oS n m ks) ks)
theorem blk_in {A : Nat → Nat → Int} {n m : Nat} {ks : Nat → Nat} (P : El.Pl n m ks) {i j : Nat} (hi : i < El.rO n m ks) (hj : j < El.rO n m ks) : Blk A n m ks i j = A (El.oS n m ks i) (El.oS n m ks j) := by
  have nn := P.pm.nn
  show (if i < El.rO n m ks ∧ j < El.rO n m ks then El.Pe A n (El.rO n m ks) (El.oS n m ks) ks i j else 0) = _
  rw [if_pos ⟨hi, hj⟩, El.Pe_in (by omega) (by omega), El.pm_o hi, El.pm_o hj]
theorem gf_unit (l : List Int) : gf 1 l = 1 := by
  have h1 := (gf_dvd (b := 1) l).1
  have h2 := gf_pos (b := 1) (by decide) l
  have := Int.le_of_dvd (by decide) h1
  omega
theorem bnd_B {w : Nat} {bd : Int} {i j : Nat} (b1 : 1 ≤ bd) (h : i ≤ j) (hB : B w (El.bnd bd j)) : B w (El.bnd bd i) := by
  have m := El.bnd_mono b1 h
  have p := El.bnd_pos b1 i
  have h1 : (El.bnd bd j).natAbs < 2 ^ w := hB
  show (El.bnd bd i).natAbs < 2 ^ w
  omega
theorem JOk.blk {n w : Nat} {bd : Int} {A : Nat → Nat → Int} (jo : JOk n w bd A) {m : Nat} {ks : Nat → Nat} (P : El.Pl n m ks) : JOk (El.rO n m ks) w bd (Blk A n m ks) := by
  have nn := P.pm.nn
  have n10 := jo.n10
  refine ⟨by omega, ⟨fun i j => ?_, fun i j hj => if_neg (by omega)⟩, jo.bd1, fun i j => ?_, bnd_B jo.bd1 (by omega) jo.bB, jo.w0, jo.w1⟩
  · show El.cut _ _ i j = El.cut _ _ j i
    unfold El.cut
    by_cases c : i < El.rO n m ks ∧ j < El.rO n m ks
    · rw [if_pos c, if_pos ⟨c.2, c.1⟩, El.Pe_sym jo.whole.sym]
    · rw [if_neg c, if_neg fun z => c ⟨z.2, z.1⟩]
  · by_cases c : i < El.rO n m ks ∧ j < El.rO n m ks
    · rw [blk_in P c.1 c.2]
      exact jo.abs _ _
    · have := jo.bd1
      show -bd ≤ El.cut _ _ i j ∧ El.cut _ _ i j ≤ bd
      unfold El.cut
      rw [if_neg c]
      omega
theorem run_blk {n w : Nat} {bd : Int} {A : Nat → Nat → Int} (jo : JOk n w bd A) (ps : El.Psd n A) {m : Nat} {ks : Nat → Nat} (P : El.Pl n m ks) {S : List Nat} {d : Int} {B' : Nat → El.Row} {pv : List El.Pv} (run : El.Run (Blk A n m ks) (El.rO n m ks) S d B' pv) : ∃ B2 ps2, El.Run (El.Pe A n (El.rO n m ks) (El.oS n m ks) ks) (El.rO n m ks) S d B2 ps2 := by
  have nn := P.pm.nn
  obtain ⟨S2, d2, B2, ps2, run2⟩ := (P.pm.psd ps).run (El.Pe_sym jo.whole.sym) (fun i j hj => El.Pe_out i j hj) (El.rO n m ks) (by omega)
  obtain ⟨ps3, run3⟩ := run2.cut (El.rO n m ks) (Nat.le_refl _)
  obtain ⟨e1, e2, _, _⟩ := run3.same run
  subst e1 e2
  exact ⟨B2, ps2, run2⟩
theorem psd_cut {n r : Nat} {M : Nat → El.Row} (h : El.Psd n M) (hr : r ≤ n) : El.Psd r (El.cut r M) := fun y => by
  obtain ⟨z, hz⟩ : ∃ z : El.Row, z = fun i => if i < r then y i else 0 := ⟨_, rfl⟩
  have e : El.Q n M z = El.Q r (El.cut r M) y := by
    rw [El.Q_lin, El.Q_lin]
    have z0 : ∀ i, i < r → z i = y i := fun i hi => by rw [hz]; exact if_pos hi
    have z1 : ∀ i, ¬ i < r → z i = 0 := fun i hi => by rw [hz]; exact if_neg hi
    have red : ∀ g : Nat → Int, (∀ i, ¬ i < r → g i = 0) → El.sm n g = El.sm r g := fun g hg => by
      refine El.sm_inj (l := fun i => i) (fun a ha => by omega) (fun a b _ _ e => e) fun i _ hne => hg i fun c => hne i c rfl
    rw [red _ fun i hi => by rw [z1 i hi, Int.zero_mul]]
    refine El.sm_congr fun i hi => ?_
    rw [z0 i hi]
    congr 1
    unfold El.lin
    rw [red _ fun j hj => by rw [z1 j hj, Int.mul_zero]]
    refine El.sm_congr fun j hj => ?_
    rw [z0 j hj]
    congr 1
    exact (if_pos ⟨hi, hj⟩).symm
  rw [← e]
  exact h z
section
variable {P : Program} {w : World} {K : PySem.W.Frag} {mg : Str → Option Value} {base : Heap} {f : Addr} {fd : FuncData} {cF cR cB : Addr}
def spCross (K : PySem.W.Frag) (cF : Addr) : Sp := fun vs H Q _ => ∃ (p x : Addr) (n i m : Nat) (b : Int) (A : Nat → Nat → Int) (ks : Nat → Nat), vs = [.ref p, .int i, .ref x] ∧ FormAt K H cF p n (mat n A) b ∧ (SqL K H x ((pv_ m ks).map V.int) ∨ SqT K H x ((pv_ m ks).map V.int)) ∧ i < n ∧ (∀ a, a < m → ks a < n) ∧ m ≤ 1000 ∧ n ≤ 1000 ∧
  ∀ l H', Same H H' → H' l = some (.lst ((vec m fun a => A i (ks a)).map V.int)) → Q (.ref l) H'
abbrev s_cross : Stmt := top 40
abbrev N_cross : List Str := ["form", "index", "places", "place"]
theorem sc_cross : FnScope N_cross ["form", "index", "places"] (defScope s_cross) := ⟨rfl, rfl, rfl, by decide +kernel, rfl, by decide +kernel, by decide +kernel⟩
theorem ok_cross (F : Fun K "cross" "cross" s_cross f fd) (T : Txt mg) (O : Obs K cF cR) : FnOk P w K mg base CX0 1 f fd ["form", "index", "places"] (spCross K cF) := by
  refine F.ok sc_cross (fun vs H Q E h => ?_) (fun cdv A outer s H vs Q E hr h => ?_)
  · obtain ⟨p, x, n, i, m, b, M, ks, rfl, _⟩ := h
    rfl
  obtain ⟨p, x, n, i, m, b, M, ks, rfl, hF, hx, hi, hk, hm, hn, q⟩ := h
  refine ⟨_, (pss_one (ps_ret (pe_lc (own := [("place", 3)]) (g := gName 3) (tt := tYes) (by rfl) sc_cross.nd (pi_or (pi_list (pv 2)) (pi_tup (pv 2))) (blkOk_by (N := N_cross) (sc := defScope s_cross) (by decide +kernel)) (fun _ _ _ _ _ => (pg_name (i := 3) sc_cross.nd rfl (Or.inl rfl))) (fun _ _ _ _ _ => pts_nil) (fun _ _ _ _ _ => (pe_ix (ix_tupK (K := K) rfl) (pe_ix (ix_tupK (K := K) rfl) (pe_fldK (K := K) rfl (pv 0) rfl) (pv 1) (fun _ _ => rfl)) (pv 3) (fun _ _ => rfl)))))), ?_⟩
  obtain ⟨dx, e, hf, hz⟩ := hF
  obtain ⟨a2, vs, ea, he, hvl, hrow⟩ := fz_mat hz
  cases ea
  obtain ⟨r, hr1, hr2⟩ := hrow i _ (mat_at hi)
  have el : ∀ {c : Nat} {v : V}, ((pv_ m ks).map V.int)[c]? = some v → c < m ∧ v = .int (ks c : Int) := fun {c v} h => by
    have hc : c < m := by
      have := (List.getElem?_eq_some_iff.mp h).1
      rw [vec_lenV] at this
      exact this
    rw [vecV_at hc] at h
    cases h
    exact ⟨hc, rfl⟩
  have fin : ∀ (D : Addr) (H3 : Hp) (l3 : List V), Same H H3 → H3 D = some (.lst l3) → Rs RI H3 l3 ((List.range m).map fun a => M i (ks a)) → Q (.ref D) H3 := fun D H3 l3 s3 hl3 rz => q D H3 s3 (by rw [hl3, rz.ints]; rfl)
  rcases hx with hx | hx
  · refine .inl ⟨_, rfl, x, rfl, ⟨_, hx⟩, fun D hD => ?_⟩
    refine lc_m (walk_list (K := K) (a := x) (xs := (pv_ m ks).map V.int)) RI (stb_RI (K := K)) (List.range m) (by rw [vec_lenV, List.length_range]) (by rw [List.length_range]; omega) hD (fun H' s => s.seq hx) (fun _ _ _ _ => ys_at) (fun a => M i (ks a)) (fun c a v H1 H2 hc s1 s2 yl A B hA => ?_) (fun H3 l3 s3 hl3 rz => fin D H3 l3 s3 hl3 rz)
    obtain ⟨hc1, rfl⟩ := in_range hc
    obtain ⟨_, rfl⟩ := el yl.2
    exact ⟨rfl, lc_yes ⟨_, rfl, p, cF, dx, _, _, rfl, s2 _ _ hf, O.clF, O.F_entries, lkFe _ _ _, _, rfl, e, _, _, _, rfl, rfl, Same_seqT s2 he, atI_nat hr1, _, rfl, r, _, _, _, rfl, rfl, Same_seqT s2 hr2, atI_nat (vecV_at (hk a hc1)), hA _ _ (fun _ _ h => h) rfl⟩⟩
  · refine .inr ⟨_, rfl, x, rfl, ⟨_, hx⟩, fun D hD => ?_⟩
    refine lc_m (walk_tup (K := K) (a := x) (xs := (pv_ m ks).map V.int)) RI (stb_RI (K := K)) (List.range m) (by rw [vec_lenV, List.length_range]) (by rw [List.length_range]; omega) hD (fun H' s => Same_seqT s hx) (fun _ _ _ _ => ys_at) (fun a => M i (ks a)) (fun c a v H1 H2 hc s1 s2 yl A B hA => ?_) (fun H3 l3 s3 hl3 rz => fin D H3 l3 s3 hl3 rz)
    obtain ⟨hc1, rfl⟩ := in_range hc
    obtain ⟨_, rfl⟩ := el yl.2
    exact ⟨rfl, lc_yes ⟨_, rfl, p, cF, dx, _, _, rfl, s2 _ _ hf, O.clF, O.F_entries, lkFe _ _ _, _, rfl, e, _, _, _, rfl, rfl, Same_seqT s2 he, atI_nat hr1, _, rfl, r, _, _, _, rfl, rfl, Same_seqT s2 hr2, atI_nat (vecV_at (hk a hc1)), hA _ _ (fun _ _ h => h) rfl⟩⟩
def spSettling (K : PySem.W.Frag) (cF : Addr) : Sp := fun vs H Q _ => ∃ (p kt : Addr) (n m w : Nat) (b bd : Int) (A : Nat → Nat → Int) (ks : Nat → Nat), vs = [.ref p, .ref kt] ∧ FormAt K H cF p n (mat n A) b ∧ SqT K H kt ((pv_ m ks).map V.int) ∧ El.Pl n m ks ∧ JOk n w bd A ∧ El.Psd n A ∧
  ∀ l H' S d B' ps, Same H H' → El.Run (El.Pe A n (El.rO n m ks) (El.oS n m ks) ks) (El.rO n m ks) S d B' ps → H' l = some (.lst ((pv_ S.length fun i => El.oS n m ks (El.led S i)).map V.int)) → Q (.ref l) H'
abbrev s_settling : Stmt := top 39
abbrev N_settling : List Str := ["form", "kept", "others", "block", "index", "place", "i", "j"]
theorem sc_settling : FnScope N_settling ["form", "kept"] (defScope s_settling) := ⟨rfl, rfl, rfl, by decide +kernel, rfl, by decide +kernel, by decide +kernel⟩
theorem ok_settling (F : Fun K "settling" "settling" s_settling f fd) (T : Txt mg) (O : Obs K cF cR) (C_leads : CalX P w K mg base 6 "leads" ["form"] (spLeadsF K cF cB)) (C1_Form : CalK1 P w K mg base 4 "Form" cF 1 (spForm K cF)) : FnOk P w K mg base CX0 7 f fd ["form", "kept"] (spSettling K cF) := by
  refine F.ok sc_settling (fun vs H Q E h => ?_) (fun cdv A outer s H vs Q E hr h => ?_)
  · obtain ⟨p, kt, n, m, w, b, bd, M, ks, rfl, _⟩ := h
    rfl
  obtain ⟨p, kt, n, m, w, b, bd, M, ks, rfl, hF, hkt, hP, jo, psd, q⟩ := h
  refine ⟨_, (pss_cons (ps_set (i := 2) sc_settling.nd rfl (Or.inr rfl) (pe_lc (own := [("index", 4)]) (g := gName 4) (by rfl) sc_settling.nd (pi_range1 (by rfl) T.b_range (pa_cons (pe_fld (pv 0) rfl) pa_nil)) (blkOk_by (N := N_settling) (sc := defScope s_settling) (by decide +kernel)) (fun _ _ _ _ _ => (pg_name (i := 4) sc_settling.nd rfl (Or.inl rfl))) (fun _ _ _ _ _ => (pts_one (pt_cmpR (op_notIn_seqK (K := K) rfl) (pv 4) (pv 1) (by rfl)))) (fun _ _ _ _ _ => (pv 4))))
  (pss_cons (ps_set (i := 3) sc_settling.nd rfl (Or.inl rfl) (pe_calK1 C1_Form (hr.mono (by omega)) rfl (pa_cons (pe_lc (own := [("i", 6)]) (g := gName 6) (tt := tYes) (by rfl) sc_settling.nd (pi_list (pv 2)) (blkOk_by (N := N_settling) (sc := defScope s_settling) (by decide +kernel)) (fun _ _ _ _ _ => (pg_name (i := 6) sc_settling.nd rfl (Or.inr rfl))) (fun _ _ _ _ _ => pts_nil) (fun _ _ _ _ _ => (pe_lc (own := [("j", 7)]) (g := gName 7) (tt := tYes) (by rfl) sc_settling.nd (pi_listK (K := K) rfl (pv 2)) (blk_nest (N := N_settling) (sc0 := defScope s_settling) rfl (by decide +kernel)) (fun _ _ _ _ _ => (pg_name (i := 7) sc_settling.nd rfl (Or.inl rfl))) (fun _ _ _ _ _ => pts_nil) (fun _ _ _ _ _ => (pe_ix (ix_tupK (K := K) rfl) (pe_ix (ix_tupK (K := K) rfl) (pe_fldK (K := K) rfl (pv 0) rfl) (pv 6) (fun _ _ => rfl)) (pv 7) (fun _ _ => rfl)))))) pa_nil)))
  (pss_one (ps_ret (pe_lc (own := [("place", 5)]) (g := gName 5) (tt := tYes) (by rfl) sc_settling.nd (pi_tup (pe_calX C_leads (hr.mono (by omega)) rfl takesN (pa_cons (pv 3) pa_nil))) (blkOk_by (N := N_settling) (sc := defScope s_settling) (by decide +kernel)) (fun _ _ _ _ _ => (pg_name (i := 5) sc_settling.nd rfl (Or.inl rfl))) (fun _ _ _ _ _ => pts_nil) (fun _ _ _ _ _ => (pe_ix (ix_listK (K := K) rfl) (pv 2) (pv 5) (fun _ _ => rfl)))))))), ?_⟩
  have n10 := jo.n10
  have nn := hP.pm.nn
  obtain ⟨r, hr0⟩ : ∃ r, r = El.rO n m ks := ⟨_, rfl⟩
  obtain ⟨os, hos⟩ : ∃ os, os = El.oS n m ks := ⟨_, rfl⟩
  obtain ⟨dx, e, hf, hz⟩ := id hF
  obtain ⟨a2, vs, ea, he, hvl, hrow⟩ := fz_mat hz
  cases ea
  have row : ∀ i, i < n → ∃ r, vs[i]? = some (.ref r) ∧ SqT K H r ((vec n (M i)).map V.int) := fun i hi => hrow i _ (mat_at hi)
  have on : ∀ p, p < r → os p < n := fun p hp => by rw [hos]; exact hP.pm.o p (by rw [← hr0]; exact hp)
  refine ⟨_, rfl, p, cF, dx, _, _, rfl, hf, O.clF, O.F_size, lkFs _ _ _, (n : Int), rfl, by omega, by omega, fun D hD => ?_⟩
  refine lc_f (K := K) (walk_range (lo := 0) (n := n)) RI stb_RI (List.range n) (by rw [List.length_range]) (by rw [List.length_range]; omega) hD (fun _ _ => trivial) (fun _ _ _ _ => ys_fn) (fun i => if ∃ a, a < m ∧ ks a = i then none else some (i : Int)) (fun c i v H1 H2 hc s1 s2 yl A B hA hB => ?_) (fun H1 l1 s1 hl1 rz => ?_)
  · obtain ⟨hc1, rfl⟩ := in_range hc
    rw [yl.2]
    refine ⟨rfl, _, rfl, _, rfl, kt, _, rfl, .inr (Same_seqT s2 hkt), rfl, flat_ints _, ?_⟩
    rw [inV_ints]
    refine ⟨_, rfl, ?_⟩
    by_cases c : ∃ a, a < m ∧ ks a = i
    · refine ifF ?_ (hB (if_pos c) _ fun _ _ h => h)
      rw [Int.zero_add, decide_eq_true (pv_mem.mpr c)]
      rfl
    · refine ifT ?_ ⟨_, rfl, hA _ _ _ (if_neg c) (fun _ _ h => h) (by show V.int _ = V.int _; rw [Int.zero_add])⟩
      rw [Int.zero_add, decide_eq_false fun z => c (pv_mem.mp z)]
      rfl
  rw [oth_fm, ← hr0, ← hos] at rz
  have hD1 : H1 D = some (.lst ((pv_ r os).map V.int)) := by rw [hl1, rz.ints]
  have hDS := SqL.of (K := K) hD1
  have el : ∀ {c : Nat} {v : V}, ((pv_ r os).map V.int)[c]? = some v → c < r ∧ v = .int (os c : Int) := fun {c v} h => by
    have hc : c < r := by
      have := (List.getElem?_eq_some_iff.mp h).1
      rw [vec_lenV] at this
      exact this
    rw [vecV_at hc] at h
    cases h
    exact ⟨hc, rfl⟩
  -- the block
  refine ⟨_, rfl, D, rfl, ⟨_, hDS⟩, fun LD hLD => ?_⟩
  refine lc_gm (walk_list (K := K) (a := D) (xs := (pv_ r os).map V.int)) (RL LD) stb_RL (List.range r) (by rw [vec_lenV, List.length_range]) (by rw [List.length_range]; omega) hLD (fun H' s => s.seq hDS) (fun _ _ _ _ => ys_at) (fun i => vec r fun j => M (os i) (os j)) (fun c i v H3 H4 hc s3 s4 yl hdl A B' hA => ?_) (fun H3 l3 s3 hl3 rz3 => ?_)
  · obtain ⟨hc1, rfl⟩ := in_range hc
    obtain ⟨_, rfl⟩ := el yl.2
    refine ⟨rfl, lc_yes ⟨_, rfl, D, rfl, ⟨_, s4.seq hDS⟩, fun D2 hD2 => ?_⟩⟩
    refine lc_m (walk_list (K := K) (a := D) (xs := (pv_ r os).map V.int)) RI (stb_RI (K := K)) (List.range r) (by rw [vec_lenV, List.length_range]) (by rw [List.length_range]; omega) hD2 (fun H' s => (s4.trans s).seq hDS) (fun _ _ _ _ => ys_at) (fun j => M (os i) (os j)) (fun c j v H5 H6 hc s5 s6 yl A2 B2 hA2 => ?_) (fun H5 l5 s5 hl5 rz5 => ?_)
    · obtain ⟨hj1, rfl⟩ := in_range hc
      obtain ⟨_, rfl⟩ := el yl.2
      obtain ⟨r1, hr1, hr2⟩ := row (os i) (on i hc1)
      have s16 := s1.trans (s4.trans s6)
      exact ⟨rfl, lc_yes ⟨_, rfl, p, cF, dx, _, _, rfl, s16 _ _ hf, O.clF, O.F_entries, lkFe _ _ _, _, rfl, e, _, _, _, rfl, rfl, Same_seqT s16 he, atI_nat hr1, _, rfl, r1, _, _, _, rfl, rfl, Same_seqT s16 hr2, atI_nat (vecV_at (on j hj1)), hA2 _ _ (fun _ _ h => h) rfl⟩⟩
    · refine hA _ _ s5 ⟨D2, rfl, fun z => ?_, by rw [hl5, rz5.ints]; rfl⟩
      obtain ⟨l, hl⟩ := hdl
      rw [z, hl] at hD2
      cases hD2
  have tabL : Sn K H3 (.ref LD) (tdm (mat r fun i j => M (os i) (os j))) := (LTab.of hl3 rz3).sn (K := K)
  have bl : ∀ i j, i < r → j < r → M (os i) (os j) = Blk M n m ks i j := fun i j hi hj => by
    rw [blk_in hP (by rw [← hr0]; exact hi) (by rw [← hr0]; exact hj), hos]
  rw [mat_congr bl] at tabL
  have joB := jo.blk hP
  rw [← hr0] at joB
  refine ⟨rfl, rfl, fun f1 dx0 hfo hdx0 _ => mk_form (n := r) (R := Blk M n m ks) hfo hdx0 tabL (fun i j _ _ => joB.whole.sym i j) (by omega) (by decide) (show B 9000 1 by exact Nat.one_lt_two_pow (by decide)) (fun H7 s37 hFB => ⟨rfl, ?_⟩)⟩
  have hFB2 : FormAt K H7 cF f1 r (mat r (Blk M n m ks)) 1 := by
    unfold FAt at hFB
    rw [gf_unit] at hFB
    have e1 : (mat r fun i j => Blk M n m ks i j / 1) = mat r (Blk M n m ks) := mat_congr fun i j _ _ => Int.ediv_one _
    rw [e1] at hFB
    exact hFB
  have psB : El.Psd r (Blk M n m ks) := by
    rw [hr0]
    exact psd_cut (hP.pm.psd psd) (by omega)
  have s17 := s3.trans s37
  refine ⟨_, rfl, f1, r, w, 1, bd, Blk M n m ks, rfl, hFB2, joB, fun t H8 S d B' ps s8 run ht => ?_, fun z dd H8 s8 bz hd8 => ?_⟩
  · have hDS8 := (s17.trans s8).seq hDS
    have runP : ∃ B2 ps2, El.Run (El.Pe M n (El.rO n m ks) (El.oS n m ks) ks) (El.rO n m ks) S d B2 ps2 := run_blk jo psd hP (by rw [← hr0]; exact run)
    obtain ⟨B2, ps2, run2⟩ := runP
    have hlen : ps.reverse.length = S.length := by rw [List.length_reverse, ← run.leads, List.length_map]
    have many := run.many
    refine ⟨t, rfl, ⟨_, ht⟩, fun D3 hD3 => ?_⟩
    refine lc_m (walk_tup (K := K) (a := t) (xs := (ps.reverse.map fun p => (p.1 : Int)).map V.int)) RI (stb_RI (K := K)) (List.range S.length) (by rw [List.length_map, List.length_map, hlen, List.length_range]) (by rw [List.length_range]; omega) hD3 (fun H' s => Same_seqT s ht) (fun _ _ _ _ => ys_at) (fun i => (os (El.led S i) : Int)) (fun c i v H9 H10 hc s9 s10 yl A2 B3 hA2 => ?_) (fun H9 l9 s9 hl9 rz9 => ?_)
    · obtain ⟨hi1, rfl⟩ := in_range hc
      have e1 : ((ps.reverse.map fun p => (p.1 : Int)).map V.int)[i]? = some (.int (El.led S i : Int)) := by
        have e2 : (ps.reverse.map fun p => (p.1 : Int)) = S.reverse.map fun (s : Nat) => (s : Int) := by
          rw [← run.leads, ← List.map_reverse, List.map_map]
          rfl
        rw [e2, List.getElem?_map, List.getElem?_map, List.getElem?_eq_getElem (by rw [List.length_reverse]; exact hi1)]
        unfold El.led
        rw [List.getD_eq_getElem?_getD, List.getElem?_eq_getElem (by rw [List.length_reverse]; exact hi1)]
        rfl
      have e3 := yl.2
      rw [e1] at e3
      cases e3
      have hlr : El.led S i < r := run.fall.2 _ (El.led_mem hi1)
      exact ⟨rfl, lc_yes ⟨_, rfl, _, rfl, D, _, _, _, rfl, rfl, s10.seq hDS8, atI_nat (vecV_at hlr), hA2 _ _ (fun _ _ h => h) rfl⟩⟩
    · refine q D3 H9 S d B2 ps2 (s1.trans (s17.trans (s8.trans s9))) run2 ?_
      rw [hl9, rz9.ints, ← hos]
      rfl
  · obtain ⟨k, S2, d2, B2, ps2, x, hk, run2, bad, _⟩ := bz
    have h1 := bad_value joB run2 hk bad
    have h2 := psB (setd r ps2 x)
    omega
end
end P09
namespace PySem.El
section
variable {A : Nat → Row} {n r m : Nat} {S : List Nat} {d : Int} {B : Nat → Row} {ps : List Pv} {N : Nat → Row} {v x : Row}
/-- a row's product with such a point -/
theorem Fil.split (hn : r + m = n) (h : Run A r S d B ps) (f : Fil A r m S d N v x) (M : Row) : lin n M x = sm S.length (fun i => M (led S i) * x (led S i)) + sm m (fun a => M (r + a) * x (r + a)) := by
  have fall := h.fall
  have sub : ∀ s, s < S.length → led S s < r := fun s hs => fall.2 _ (led_mem hs)
  unfold lin
  rw [sm_inj (l := fun q => if q < S.length then led S q else r + (q - S.length)) (m := S.length + m) (f := fun j => M j * x j), sm_app]
  · congr 1
    · exact sm_congr fun i hi => by
        show M (if i < S.length then led S i else _) * x (if i < S.length then led S i else _) = _
        rw [if_pos hi]
    · refine sm_congr fun a _ => ?_
      show M (if S.length + a < S.length then _ else r + (S.length + a - S.length)) * x (if S.length + a < S.length then _ else r + (S.length + a - S.length)) = _
      rw [if_neg (by omega), Nat.add_sub_cancel_left]
  · intro q hq
    show (if q < S.length then led S q else r + (q - S.length)) < n
    by_cases c : q < S.length
    · rw [if_pos c]; have := sub q c; omega
    · rw [if_neg c]; omega
  · intro q1 q2 h1 h2 e
    have e : (if q1 < S.length then led S q1 else r + (q1 - S.length)) = (if q2 < S.length then led S q2 else r + (q2 - S.length)) := e
    by_cases c1 : q1 < S.length <;> by_cases c2 : q2 < S.length
    · rw [if_pos c1, if_pos c2] at e; exact led_inj fall.1 c1 c2 e
    · rw [if_pos c1, if_neg c2] at e; have := sub q1 c1; omega
    · rw [if_neg c1, if_pos c2] at e; have := sub q2 c2; omega
    · rw [if_neg c1, if_neg c2] at e; omega
  · intro i hi hne
    by_cases c : i < r
    · have : i ∉ S := fun hm => by
        obtain ⟨q, h1, h2⟩ := led_of hm
        refine hne q (by omega) ?_
        show (if q < S.length then led S q else _) = i
        rw [if_pos h1, h2]
      show M i * x i = 0
      rw [f.z i c this, Int.mul_zero]
    · exfalso
      refine hne (S.length + (i - r)) (by omega) ?_
      show (if S.length + (i - r) < S.length then _ else r + (S.length + (i - r) - S.length)) = i
      rw [if_neg (by omega)]
      omega
theorem sm_unit {m a : Nat} (ha : a < m) (f : Nat → Int) : sm m (fun b => f b * unitP a b) = f a := by
  rw [← sm_one f ha]
  refine sm_congr fun j _ => ?_
  unfold unitP
  by_cases e : j = a
  · rw [if_pos e, if_pos e, Int.mul_one]
  · rw [if_neg e, if_neg e, Int.mul_zero]
/-- what is left between two seen places -/
theorem Run.left (hA : ∀ i j, A i j = A j i) (hn : r + m = n) (h : Run A r S d B ps) (nv : Nv A S d N) {a c : Nat} (ha : a < m) (hc : c < m) : d * A (r + a) (r + c) - sm S.length (fun i => sm S.length (fun s => N i s * A (r + a) (led S s)) * A (r + c) (led S i)) = B (r + a) (r + c) := by
  obtain ⟨x, f⟩ := h.fil m N (unitP a)
  have t := (h.told hA hn nv f).2 c hc
  have u : lin m (fun b => B (r + c) (r + b)) (unitP a) = B (r + c) (r + a) := sm_unit ha _
  rw [u, f.split hn h, (h.inv hA).sym (r + c) (r + a)] at t
  rw [← t]
  have e1 : sm m (fun b => A (r + c) (r + b) * x (r + b)) = d * A (r + a) (r + c) := by
    rw [sm_congr (g := fun b => d * A (r + c) (r + b) * unitP a b) fun b hb => by rw [f.k b hb]; grind]
    rw [sm_unit ha (fun b => d * A (r + c) (r + b)), hA (r + c) (r + a)]
  have e2 : sm S.length (fun i => A (r + c) (led S i) * x (led S i)) = -sm S.length (fun i => sm S.length (fun s => N i s * A (r + a) (led S s)) * A (r + c) (led S i)) := by
    rw [← sm_neg]
    refine sm_congr fun i hi => ?_
    rw [f.l i hi, sm_congr (g := fun s => N i s * A (r + a) (led S s)) fun s hs => by rw [sm_unit ha (fun b => A (led S s) (r + b)), hA (led S s) (r + a)]]
    grind
  rw [e1, e2]
  omega
end
end PySem.El
set_option exponentiation.threshold 3000
namespace P09
open PySem PySem.Spec PyProof.Rows L2 SX EX WK
abbrev PeK (A : Nat → Nat → Int) (n m : Nat) (ks : Nat → Nat) : Nat → Nat → Int := El.Pe A n (El.rO n m ks) (El.oS n m ks) ks
theorem au_congr {A A' : Nat → Nat → Int} {l l' : Nat → Nat} {r : Nat} {C : Nat → Nat → Int} (h : ∀ i j, i < r → j < r → A (l i) (l j) = A' (l' i) (l' j)) : El.Au A l r C = El.Au A' l' r C := by
  funext i j
  unfold El.Au
  by_cases c : i < r
  · rw [if_pos c, if_pos c]
    by_cases c2 : j < r
    · rw [if_pos c2, if_pos c2, h i j c c2]
    · rw [if_neg c2, if_neg c2]
  · rw [if_neg c, if_neg c]
theorem sp_block {n m w : Nat} {bd d : Int} {A : Nat → Nat → Int} {ks : Nat → Nat} {S : List Nat} {B' : Nat → El.Row} {ps : List El.Pv} (P : El.Pl n m ks) (jo : JOk n w bd A) (bw : B w (El.bnd bd (n + 1))) (run : El.Run (PeK A n m ks) (El.rO n m ks) S d B' ps) :
    ∃ (B2 : Nat → El.Row) (ps2 : List El.Pv), El.Run (El.Au A (fun i => El.oS n m ks (El.led S i)) S.length one) S.length (El.rs S.length) d B2 ps2 ∧ B w (El.bnd bd (S.length + 1)) ∧ El.Nv (PeK A n m ks) S d (fun i s => -B2 (S.length + i) (S.length + s)) ∧ (∀ i s, B w (-B2 (S.length + i) (S.length + s))) ∧ 0 < d ∧ B w d ∧ (∀ i, i < S.length → El.oS n m ks (El.led S i) < n) ∧ S.length ≤ n := by
  have sy := jo.whole.sym
  have n10 := jo.n10
  have nn := P.pm.nn
  have syP : ∀ i j, PeK A n m ks i j = PeK A n m ks j i := El.Pe_sym sy
  have fall := run.fall
  have many := run.many
  have sub : ∀ i, i < S.length → El.led S i < El.rO n m ks := fun i hi => fall.2 _ (El.led_mem hi)
  obtain ⟨B2, ps2, run2, _⟩ := run.aug (El.led S) S.length one (fun i j hij hj => El.led_mono fall.1 hij hj) S.length (Nat.le_refl _) (El.led_map S).symm
  have ea : El.Au (PeK A n m ks) (El.led S) S.length one = El.Au A (fun i => El.oS n m ks (El.led S i)) S.length one := au_congr fun i j hi hj => by
    have h1 := sub i hi
    have h2 := sub j hj
    show El.Pe A n _ _ ks _ _ = _
    rw [El.Pe_in (by omega) (by omega), El.pm_o h1, El.pm_o h2]
  have bs := au_beside syP (El.led S) S.length
  have b1 := jo.bd1
  have inv := run2.inv bs.sym
  have absP : ∀ i j, -bd ≤ PeK A n m ks i j ∧ PeK A n m ks i j ≤ bd := fun i j => by
    show -bd ≤ El.Pe A n _ _ ks i j ∧ El.Pe A n _ _ ks i j ≤ bd
    unfold El.Pe
    split
    · exact jo.abs _ _
    · omega
  have hw : B w (El.bnd bd (S.length + 1)) := bnd_B b1 (by omega) bw
  have hb : ∀ i s, B w (-B2 (S.length + i) (S.length + s)) := fun i s => by
    have := run2.rbound bs.sym bd b1 (au_abs b1 absP) (i := S.length + i) (by omega) (S.length + s)
    have h1 : (El.bnd bd (S.length + 1)).natAbs < 2 ^ w := hw
    have p0 := El.bnd_pos b1 (S.length + 1)
    show (-B2 (S.length + i) (S.length + s)).natAbs < 2 ^ w
    omega
  have db := El.Run.dbound (run.inv syP) run.many bd b1 absP run
  have hd : B w d := by
    have h1 : (El.bnd bd (n + 1)).natAbs < 2 ^ w := bw
    have m2 := El.bnd_mono b1 (show El.rO n m ks ≤ n + 1 by omega)
    have p0 := El.bnd_pos b1 (n + 1)
    have dp := inv.dpos
    show d.natAbs < 2 ^ w
    omega
  refine ⟨B2, ps2, by rw [← ea]; exact run2, hw, ⟨fun i x hi hx => ?_, fun i s _ _ => by show -_ = -_; rw [inv.sym]⟩, hb, inv.dpos, hd, fun i hi => P.pm.o _ (sub i hi), by omega⟩
  rw [← run2.inverse bs hi hx]
  exact El.sm_congr fun s hs => by unfold El.Au; rw [if_pos hs, if_pos hx]
theorem S_sm (n : Nat) (f : Nat → Int) : S n f = El.sm n f := by
  induction n with
  | zero => rfl
  | succ n ih => rw [S_succ, ih]; rfl
theorem S_Q {n : Nat} {M : Nat → Nat → Int} {x : Nat → Int} : (S n fun i => x i * S n fun j => M i j * x j) = El.Q n M x := by
  rw [S_sm, El.Q_lin]
  exact El.sm_congr fun i _ => by rw [S_sm]; rfl
theorem left_val {n m : Nat} {d : Int} {A : Nat → Nat → Int} {ks : Nat → Nat} {S : List Nat} {B' N : Nat → El.Row} {ps : List El.Pv} (P : El.Pl n m ks) (sy : ∀ i j, A i j = A j i) (run : El.Run (PeK A n m ks) (El.rO n m ks) S d B' ps) (nv : El.Nv (PeK A n m ks) S d N) {a c : Nat} (ha : a < m) (hc : c < m) :
    d * A (ks a) (ks c) - P09.S S.length (fun i => (P09.S S.length fun s => N i s * A (ks a) (El.oS n m ks (El.led S s))) * A (ks c) (El.oS n m ks (El.led S i))) = B' (El.rO n m ks + a) (El.rO n m ks + c) := by
  have nn := P.pm.nn
  have fall := run.fall
  have pe : ∀ a s, a < m → s < S.length → El.Pe A n (El.rO n m ks) (El.oS n m ks) ks (El.rO n m ks + a) (El.led S s) = A (ks a) (El.oS n m ks (El.led S s)) := fun a s ha hs => by
    have h1 := fall.2 _ (El.led_mem hs)
    rw [El.Pe_in (by omega) (by omega), El.pm_k, El.pm_o h1]
  have e := run.left (n := n) (m := m) (El.Pe_sym sy) nn nv ha hc
  rw [← e]
  congr 1
  · congr 1
    show _ = El.Pe A n _ _ ks _ _
    rw [El.Pe_in (by omega) (by omega), El.pm_k, El.pm_k]
  · rw [S_sm]
    refine El.sm_congr fun i hi => ?_
    rw [S_sm, pe c i hc hi]
    congr 1
    exact El.sm_congr fun s hs => by rw [pe a s ha hs]
section
variable {P : Program} {w : World} {K : PySem.W.Frag} {mg : Str → Option Value} {base : Heap} {f : Addr} {fd : FuncData} {cF cR cB : Addr}
theorem pv_dep {m : Nat} {ks : Nat → Nat} : (Td.tup ((pv_ m ks).map Td.int)).dep ≤ 3 := by
  have h : Td.deps ((pv_ m ks).map Td.int) ≤ 0 := deps_all fun t m => by
    obtain ⟨i, _, rfl⟩ := List.mem_map.mp m
    exact Nat.le_refl _
  show Td.deps ((pv_ m ks).map Td.int) + 1 ≤ 3
  omega
/-- what is left of the table A where only the places ks are seen -/
abbrev Lft (m r : Nat) (B' : Nat → El.Row) : Nat → Nat → Int := fun a c => B' (r + a) (r + c)
def spSeen (K : PySem.W.Frag) (cF cB : Addr) : Sp := fun vs H Q E => ∃ (p : Addr) (kv : V) (n m w kb : Nat) (b bd : Int) (A : Nat → Nat → Int) (ks : Nat → Nat), vs = [.ref p, kv] ∧ FormAt K H cF p n (mat n A) b ∧ Sn K H kv (.tup ((pv_ m ks).map Td.int)) ∧ El.Pl n m ks ∧ JOk n w bd A ∧ B w (El.bnd bd (n + 1)) ∧ (∀ i j, B w (A i j)) ∧ 0 < b ∧ B kb b ∧ 0 < kb ∧ w + kb ≤ 9000 ∧
  (∀ q H' S d B' ps, Same H H' → El.Psd n A → El.Run (PeK A n m ks) (El.rO n m ks) S d B' ps → FAt K H' cF q m (fun a c => B' (El.rO n m ks + a) (El.rO n m ks + c)) (d * b) → B w d → Q (.ref q) H') ∧ BelX K cB n A H E
abbrev s_seen_from : Stmt := top 41
abbrev N_seen_from : List Str := ["form", "keep", "kept", "inside", "numbers", "det", "entries", "index", "ties", "pulled", "line", "other"]
theorem sc_seen_from : FnScope N_seen_from ["form", "keep"] (defScope s_seen_from) := ⟨rfl, rfl, rfl, by decide +kernel, rfl, by decide +kernel, by decide +kernel⟩
theorem ok_seen_from (F : Fun K "seen_from" "seen_from" s_seen_from f fd) (T : Txt mg) (O : Obs K cF cR) (C_checked : CalX P w K mg base 5 "checked" ["form"] (spChecked K cF cB)) (C_frozen : Cal P w K mg base 3 "frozen" ["value"] (spFz K 3)) (C_settling : Cal P w K mg base 7 "settling" ["form", "kept"] (spSettling K cF)) (C_block_inverse : Cal P w K mg base 2 "block_inverse" ["entries", "indexes"] (spBlock K)) (C_cross : Cal P w K mg base 1 "cross" ["form", "index", "places"] (spCross K cF)) (C_dot : Cal P w K mg base 1 "dot" ["one", "two"] (spDotL K)) (C_Form : CalK P w K mg base 4 "Form" cF 1 ["bottom"] (spForm K cF)) : FnOk P w K mg base (L2N.CX P w) 8 f fd ["form", "keep"] (spSeen K cF cB) := by
  refine okR F sc_seen_from (fun vs H Q E h => ?_) (fun cdv A outer s H vs Q E hr h => ?_)
  · obtain ⟨p, kv, n, m, w, kb, b, bd, M, ks, rfl, _⟩ := h
    rfl
  obtain ⟨p, kv, n, m, w, kb, b, bd, M, ks, rfl, hF, hkv, hP, jo, bw, aB, b0, bB, kb0, wk, q, qx⟩ := h
  refine ⟨_, (pss_cons (ps_expr (pe_calX C_checked (hr.mono (by omega)) rfl (L2N.takes_of rfl rfl rfl rfl) (pa_cons (pv 0) pa_nil)))
  (pss_cons (ps_set (i := 2) sc_seen_from.nd rfl (Or.inl rfl) (pe_cal C_frozen (hr.mono (by omega)) rfl (pa_cons (pv 1) pa_nil)))
  (pss_cons (ps_set (i := 3) sc_seen_from.nd rfl (Or.inr rfl) (pe_cal C_settling (hr.mono (by omega)) rfl (pa_cons (pv 0) (pa_cons (pv 2) pa_nil))))
  (pss_cons (ps_asg (pe_cal C_block_inverse (hr.mono (by omega)) rfl (pa_cons (pe_fld (pv 0) rfl) (pa_cons (pv 3) pa_nil))) (pg_tup rfl (pgs_cons (pg_name (i := 4) sc_seen_from.nd rfl (Or.inl rfl)) (pgs_cons (pg_name (i := 5) sc_seen_from.nd rfl (Or.inr rfl)) pgs_nil))))
  (pss_cons (ps_set (i := 6) sc_seen_from.nd rfl (Or.inl rfl) (pe_lst pa_nil))
  (pss_cons (ps_for (passes_of rfl) rfl (pi_tup (pv 2)) (pg_name (i := 7) sc_seen_from.nd rfl (Or.inr rfl)) (pss_cons (ps_set (i := 8) sc_seen_from.nd rfl (Or.inr rfl) (pe_cal C_cross (hr.mono (by omega)) rfl (pa_cons (pv 0) (pa_cons (pv 7) (pa_cons (pv 3) pa_nil)))))
  (pss_cons (ps_set (i := 9) sc_seen_from.nd rfl (Or.inr rfl) (pe_lc (own := [("line", 10)]) (g := gName 10) (tt := tYes) (by rfl) sc_seen_from.nd (pi_tup (pv 4)) (blkOk_by (N := N_seen_from) (sc := defScope s_seen_from) (by decide +kernel)) (fun _ _ _ _ _ => (pg_name (i := 10) sc_seen_from.nd rfl (Or.inl rfl))) (fun _ _ _ _ _ => pts_nil) (fun _ _ _ _ _ => (pe_cal C_dot (hr.mono (by omega)) rfl (pa_cons (pv 10) (pa_cons (pv 8) pa_nil))))))
  (pss_one (ps_expr (pe_bm PySem.F.plainAttrs_list PySem.F.slot_list_append PySem.F.type_list_append mt_append (pv 6) (pa_cons (pe_lc (own := [("other", 11)]) (g := gName 11) (tt := tYes) (by rfl) sc_seen_from.nd (pi_tup (pv 2)) (blkOk_by (N := N_seen_from) (sc := defScope s_seen_from) (by decide +kernel)) (fun _ _ _ _ _ => (pg_name (i := 11) sc_seen_from.nd rfl (Or.inl rfl))) (fun _ _ _ _ _ => pts_nil) (fun _ _ _ _ _ => (pe_op op_sub (pe_op op_mulW (pv 5) (pe_ix (ix_tupK (K := K) rfl) (pe_ix (ix_tupK (K := K) rfl) (pe_fldK (K := K) rfl (pv 0) rfl) (pv 7) (fun _ _ => rfl)) (pv 11) (fun _ _ => rfl))) (pe_cal C_dot (hr.mono (by omega)) rfl (pa_cons (pv 9) (pa_cons (pe_cal C_cross (hr.mono (by omega)) rfl (pa_cons (pv 0) (pa_cons (pv 11) (pa_cons (pv 3) pa_nil)))) pa_nil)))))) pa_nil)))))))
  (pss_one (ps_ret (pe_calK C_Form (hr.mono (by omega)) rfl (pa_cons (pv 6) pa_nil) (pk_cons (pe_op op_mulW (pv 5) (pe_fld (pv 0) rfl)) pk_nil)))))))))), ?_⟩
  have n10 := jo.n10
  have nn := hP.pm.nn
  have sy := jo.whole.sym
  refine ⟨_, rfl, p, n, w, b, bd, M, rfl, hF, jo, fun t us H1 S0 d0 B0 ps0 s1 run0 _ _ => ?_, qx⟩
  have psd : El.Psd n M := run0.psd sy
  refine ⟨_, rfl, kv, _, rfl, hkv.same s1, pv_dep, sm_ints (by rw [vec_len]; omega), fun v' H2 s2 hz2 => ?_⟩
  obtain ⟨kt, rfl, hkt⟩ := fz_ints hz2
  have s02 := s1.trans s2
  refine ⟨_, rfl, _, rfl, p, kt, n, m, w, b, bd, M, ks, rfl, hF.same s02, hkt, hP, jo, psd, fun il H3 S d B' ps s3 run hil => ?_⟩
  have s03 := s02.trans s3
  obtain ⟨dx, e, hf, hz⟩ := hF.same s03
  obtain ⟨B2, ps2, run2, hw2, nv, nB, dp, dB, lo, hSn⟩ := sp_block hP jo bw run
  obtain ⟨N, hN⟩ : ∃ N : Nat → El.Row, N = fun i s => -B2 (S.length + i) (S.length + s) := ⟨_, rfl⟩
  rw [← hN] at nv
  refine ⟨_, rfl, p, cF, dx, _, _, rfl, hf, O.clF, O.F_entries, lkFe _ _ _, _, rfl, .ref e, il, n, S.length, w, bd, d, M, _, B2, ps2, rfl, hz, SqL.of hil, hSn, n10, lo, sy, run2, jo.bd1, jo.abs, hw2, jo.w0, by omega, fun t u H4 s4 ht hu => ?_⟩
  rw [← hN] at hu
  have nB : ∀ i s, B w (N i s) := fun i s => by rw [hN]; exact nB i s
  obtain ⟨r, hr0⟩ : ∃ r, r = El.rO n m ks := ⟨_, rfl⟩
  obtain ⟨l, hl0⟩ : ∃ l : Nat → Nat, l = fun i => El.oS n m ks (El.led S i) := ⟨_, rfl⟩
  have hil : H3 il = some (.lst ((pv_ S.length l).map V.int)) := by rw [hl0]; exact hil
  have lo : ∀ i, i < S.length → l i < n := fun i hi => by rw [hl0]; exact lo i hi
  have wn : w ≤ 4475 := jo.w1
  have w0 := jo.w0
  have s04 := s03.trans s4
  have hkt4 := Same_seqT (s3.trans s4) hkt
  have hF4 := hF.same s04
  obtain ⟨dx4, e4, hf4, hz4⟩ := id hF4
  obtain ⟨a2, vs, ea, he4, hvl, hrow⟩ := fz_mat hz4
  cases ea
  obtain ⟨u2, us2, eu, hus, hul, hurow⟩ := fz_mat hu
  cases eu
  rw [mat_len] at hul
  have hil4 := s4 _ _ hil
  refine ⟨_, _, rfl, ht, rfl, _, _, rfl, _, _, rfl, rfl, ?_⟩
  refine ⟨line_ge (by decide), fun L hL => ?_⟩
  have el : ∀ {c : Nat} {v : V}, ((pv_ m ks).map V.int)[c]? = some v → c < m ∧ v = .int (ks c : Int) := fun {c v} h => by
    have hc : c < m := by
      have := (List.getElem?_eq_some_iff.mp h).1
      rw [vec_lenV] at this
      exact this
    rw [vecV_at hc] at h
    cases h
    exact ⟨hc, rfl⟩
  refine ⟨_, rfl, kt, rfl, ⟨_, Same_seqT (same_new hL _) hkt4⟩, for_tup (K := K) (a := kt) (xs := (pv_ m ks).map V.int) (fun a σ H5 => ∃ (v7 v8 v9 : Option V) (rs : List Addr), σ = [some (.ref p), some kv, some (.ref kt), some (.ref il), some (.ref u), some (.int d), some (.ref L), v7, v8, v9, none, none] ∧ GT H4 H5 L rs m a (fun a c => B' (r + a) (r + c))) ⟨none, none, none, [], rfl, GT.start hL⟩ (fun i σ H' _ ⟨_, _, _, _, _, g⟩ => Same_seqT g.same hkt4) ?_ ?_⟩
  · rintro a x σ H5 hx ⟨v7, v8, v9, rs, rfl, g⟩
    obtain ⟨ha, rfl⟩ := el hx
    have gl := g.len
    have s5 := g.same
    refine ⟨_, rfl, _, rfl, _, rfl, p, il, n, ks a, S.length, b, M, l, rfl, hF4.same s5, .inl (SqL.of (s5 _ _ hil4)), hP.k a ha, lo, by omega, by omega, fun ties H6 s6 hties => ?_⟩
    have s56 := s5.trans s6
    refine ⟨_, rfl, u, rfl, ⟨_, Same_seqT s56 hus⟩, fun D hD => ?_⟩
    refine lc_m (walk_tup (K := K) (a := u) (xs := us2)) RI (stb_RI (K := K)) (List.range S.length) (by rw [hul, List.length_range]) (by rw [List.length_range]; omega) hD (fun H' s => Same_seqT (s56.trans s) hus) (fun _ _ _ _ => ys_at) (fun i => P09.S S.length fun s => N i s * M (ks a) (l s)) (fun c i v H7 H8 hc s7 s8 yl A B2 hA => ?_) (fun H7 l7 s7 hl7 rz7 => ?_)
    · obtain ⟨hi1, rfl⟩ := in_range hc
      obtain ⟨rr, hrr1, hrr2⟩ := hurow i _ (mat_at hi1)
      have e1 := yl.2
      rw [hrr1] at e1
      cases e1
      exact ⟨rfl, lc_yes ⟨_, rfl, _, rfl, _, _, S.length, w, w, N i, fun s => M (ks a) (l s), rfl, .tup (Same_seqT (s56.trans s8) hrr2) (FzAll.of_ints _).sn, .lst (s8 _ _ hties) (FzAll.of_ints _).sn, by omega, fun s _ => nB i s, fun s _ => aB _ _, w0, w0, by omega, fun H' s => hA _ _ s rfl⟩⟩
    have hD7 : H7 D = some (.lst ((vec S.length fun i => P09.S S.length fun s => N i s * M (ks a) (l s)).map V.int)) := by rw [hl7, rz7.ints]; rfl
    have s57 := s56.trans s7
    have hL7 := (s6.trans s7) _ _ g.at_
    refine ⟨_, rfl, tyV_of hL7, _, rfl, kt, rfl, ⟨_, Same_seqT s57 hkt4⟩, fun D2 hD2 => ?_⟩
    refine lc_m (walk_tup (K := K) (a := kt) (xs := (pv_ m ks).map V.int)) RI (stb_RI (K := K)) (List.range m) (by rw [vec_lenV, List.length_range]) (by rw [List.length_range]; omega) hD2 (fun H' s => Same_seqT (s57.trans s) hkt4) (fun _ _ _ _ => ys_at) (fun c => B' (r + a) (r + c)) (fun c i v H8 H9 hc s8 s9 yl A B2 hA => ?_) (fun H8 l8 s8 hl8 rz8 => ?_)
    · obtain ⟨hi1, rfl⟩ := in_range hc
      obtain ⟨_, rfl⟩ := el yl.2
      have s59 := s57.trans s9
      obtain ⟨r1, hr1, hr2⟩ := hrow (ks a) _ (mat_at (hP.k a ha))
      have puB : ∀ j, j < S.length → B (w + w + 4) (P09.S S.length fun s => N j s * M (ks a) (l s)) := fun j _ => BS (k := w + w) (c := 4) (fun s _ => P09.B.mul (nB j s) (aB _ _)) (by omega)
      refine ⟨rfl, lc_yes ⟨_, rfl, _, rfl, p, cF, dx4, _, _, rfl, s59 _ _ hf4, O.clF, O.F_entries, lkFe _ _ _, _, rfl, e4, _, _, _, rfl, rfl, Same_seqT s59 he4, atI_nat hr1, _, rfl, r1, _, _, _, rfl, rfl, Same_seqT s59 hr2, atI_nat (vecV_at (hP.k i hi1)), _, _, rfl, rfl, wmul dB (aB _ _) w0 w0 (by omega), _, rfl, _, rfl, _, rfl, _, rfl, p, il, n, ks i, S.length, b, M, l, rfl, hF4.same s59, .inl (SqL.of (s59 _ _ hil4)), hP.k i hi1, lo, by omega, by omega, fun tc H10 s10 htc => ?_⟩⟩
      refine ⟨_, _, S.length, w + w + 4, w, _, fun s => M (ks i) (l s), rfl, .lst (s10 _ _ (s9 _ _ hD7)) (FzAll.of_ints _).sn, .lst htc (FzAll.of_ints _).sn, by omega, puB, fun s _ => aB _ _, by omega, w0, by omega, fun H11 s11 => ⟨_, _, rfl, rfl, hA _ _ (s10.trans s11) ?_⟩⟩
      show V.int _ = V.int _
      have e5 := left_val hP sy run nv ha hi1
      rw [hr0, ← e5, hl0]
    · have hD8 : H8 D2 = some (.lst ((vec m fun c => B' (r + a) (r + c)).map V.int)) := by rw [hl8, rz8.ints]; rfl
      have hDL : D2 ≠ L := fun z => by rw [z, hL7] at hD2; cases hD2
      refine ⟨L, _, _, rfl, rfl, s8 _ _ hL7, ?_, ?_⟩
      · rw [List.length_map, gl]
        exact Nat.lt_of_lt_of_le (by omega : a < 1001) (line_ge (by decide))
      · exact ⟨_, _, _, rs ++ [D2], rfl, g.snoc hL (s6.trans (s7.trans s8)) hD8 hDL⟩
  · rintro σ H5 ⟨v7, v8, v9, rs, rfl, g⟩
    rw [vec_lenV] at g
    have s5 := g.same
    have syB := (run.inv (El.Pe_sym sy)).sym
    refine ⟨_, rfl, _, rfl, _, rfl, p, cF, dx4, _, _, rfl, s5 _ _ hf4, O.clF, O.F_bottom, lkFb _ _ _, _, _, rfl, rfl, wmul dB bB w0 kb0 (by omega), rfl, rfl, fun f1 dx0 hfo hdx0 _ => mk_form (n := m) (R := fun a c => B' (r + a) (r + c)) hfo hdx0 (LTab.sn g.tab) (fun i j _ _ => syB _ _) (by omega) (Int.mul_pos dp b0) ((P09.B.mul dB bB).mono wk) (fun H6 s6 hFA => ⟨rfl, ?_⟩)⟩
    rw [hr0] at hFA
    exact q f1 H6 S d B' ps (s04.trans (s5.trans s6)) psd run hFA dB
end
end P09
set_option exponentiation.threshold 3000
namespace P09
open PySem PySem.Spec PyProof.Rows L2 SX EX WK
def put1 (g : Nat → Int) (j : Nat) (v : Int) : Nat → Int := fun b => if b = j then v else g b
theorem put1_at {g : Nat → Int} {j : Nat} {v : Int} : put1 g j v j = v := if_pos rfl
theorem put1_ne {g : Nat → Int} {j b : Nat} {v : Int} (h : b ≠ j) : put1 g j v b = g b := if_neg h
/-- the point that filled works out -/
theorem fil_of {n m : Nat} {d : Int} {A : Nat → Nat → Int} {ks : Nat → Nat} {S : List Nat} {B' N : Nat → El.Row} {ps : List El.Pv} (P : El.Pl n m ks) (sy : ∀ i j, A i j = A j i) (run : El.Run (PeK A n m ks) (El.rO n m ks) S d B' ps) {v g : Nat → Int} (h1 : ∀ a, a < m → g (ks a) = d * v a) (h2 : ∀ t, t < S.length → g (El.oS n m ks (El.led S t)) = -P09.S S.length fun s => N t s * P09.S m fun a => A (El.oS n m ks (El.led S s)) (ks a) * v a) (h3 : ∀ i, (∀ a, a < m → ks a ≠ i) → (∀ t, t < S.length → El.oS n m ks (El.led S t) ≠ i) → g i = 0) :
    El.Fil (PeK A n m ks) (El.rO n m ks) m S d N v (fun p => g (El.pm (El.rO n m ks) (El.oS n m ks) ks p)) := by
  have nn := P.pm.nn
  have fall := run.fall
  refine ⟨fun a ha => ?_, fun t ht => ?_, fun p hp hS => ?_⟩
  · show g (El.pm _ _ ks _) = _
    rw [El.pm_k]
    exact h1 a ha
  · show g (El.pm _ _ ks _) = _
    rw [El.pm_o (fall.2 _ (El.led_mem ht)), h2 t ht, S_sm]
    congr 1
    refine El.sm_congr fun s hs => ?_
    congr 1
    rw [S_sm]
    refine El.sm_congr fun a ha => ?_
    have h4 := fall.2 _ (El.led_mem hs)
    show _ = El.Pe A n _ _ ks _ _ * _
    rw [El.Pe_in (by omega) (by omega), El.pm_k, El.pm_o h4]
  · show g (El.pm _ _ ks _) = 0
    rw [El.pm_o hp]
    refine h3 _ (fun a ha e => P.pm.ok p a hp ha e.symm) fun t ht e => hS ?_
    have := P.pm.oi _ _ (fall.2 _ (El.led_mem ht)) hp e
    rw [← this]
    exact El.led_mem ht
section
variable {P : Program} {w : World} {K : PySem.W.Frag} {mg : Str → Option Value} {base : Heap} {f : Addr} {fd : FuncData} {cF cR cB : Addr}
def spFilled (K : PySem.W.Frag) (cF cB : Addr) : Sp := fun vs H Q E => ∃ (p : Addr) (kv vv : V) (n m w : Nat) (b bd : Int) (A : Nat → Nat → Int) (ks : Nat → Nat) (v : Nat → Int), vs = [.ref p, kv, vv] ∧ FormAt K H cF p n (mat n A) b ∧ Sn K H kv (.tup ((pv_ m ks).map Td.int)) ∧ Sn K H vv (tv m v) ∧ El.Pl n m ks ∧ JOk n w bd A ∧ B w (El.bnd bd (n + 1)) ∧ (∀ i j, B w (A i j)) ∧ (∀ a, a < m → B 40 (v a)) ∧
  (∀ t u H' S d B' ps N g, Same H H' → El.Psd n A → El.Run (PeK A n m ks) (El.rO n m ks) S d B' ps → El.Nv (PeK A n m ks) S d N → El.Fil (PeK A n m ks) (El.rO n m ks) m S d N v (fun p => g (El.pm (El.rO n m ks) (El.oS n m ks) ks p)) → B w d → (∀ i, B (w + w + 48) (g i)) → H' t = some (.tup [.ref u, .int (d / gf d (vec n g))]) → H' u = some (.tup ((vec n fun i => g i / gf d (vec n g)).map V.int)) → Q (.ref t) H') ∧ BelX K cB n A H E
abbrev s_filled : Stmt := top 42
abbrev N_filled : List Str := ["form", "keep", "values", "kept", "inside", "numbers", "det", "pulls", "found", "place", "index"]
theorem sc_filled : FnScope N_filled ["form", "keep", "values"] (defScope s_filled) := ⟨rfl, rfl, rfl, by decide +kernel, rfl, by decide +kernel, by decide +kernel⟩
theorem ok_filled (F : Fun K "filled" "filled" s_filled f fd) (T : Txt mg) (O : Obs K cF cR) (C_checked : CalX P w K mg base 5 "checked" ["form"] (spChecked K cF cB)) (C_frozen : Cal P w K mg base 3 "frozen" ["value"] (spFz K 3)) (C_settling : Cal P w K mg base 7 "settling" ["form", "kept"] (spSettling K cF)) (C_block_inverse : Cal P w K mg base 2 "block_inverse" ["entries", "indexes"] (spBlock K)) (C_cross : Cal P w K mg base 1 "cross" ["form", "index", "places"] (spCross K cF)) (C_dot : Cal P w K mg base 1 "dot" ["one", "two"] (spDotL K)) (C_vector : Cal P w K mg base 2 "vector" ["numbers", "bottom"] spLow) : FnOk P w K mg base (L2N.CX P w) 8 f fd ["form", "keep", "values"] (spFilled K cF cB) := by
  refine okR F sc_filled (fun vs H Q E h => ?_) (fun cdv A outer s H vs Q E hr h => ?_)
  · obtain ⟨p, kv, vv, n, m, w, b, bd, M, ks, v, rfl, _⟩ := h
    rfl
  obtain ⟨p, kv, vv, n, m, w, b, bd, M, ks, v, rfl, hF, hkv, hvv, hP, jo, bw, aB, vB, q, qx⟩ := h
  refine ⟨_, (pss_cons (ps_expr (pe_calX C_checked (hr.mono (by omega)) rfl (L2N.takes_of rfl rfl rfl rfl) (pa_cons (pv 0) pa_nil)))
  (pss_cons (ps_set (i := 3) sc_filled.nd rfl (Or.inr rfl) (pe_cal C_frozen (hr.mono (by omega)) rfl (pa_cons (pv 1) pa_nil)))
  (pss_cons (ps_set (i := 4) sc_filled.nd rfl (Or.inl rfl) (pe_cal C_settling (hr.mono (by omega)) rfl (pa_cons (pv 0) (pa_cons (pv 3) pa_nil))))
  (pss_cons (ps_asg (pe_cal C_block_inverse (hr.mono (by omega)) rfl (pa_cons (pe_fld (pv 0) rfl) (pa_cons (pv 4) pa_nil))) (pg_tup rfl (pgs_cons (pg_name (i := 5) sc_filled.nd rfl (Or.inl rfl)) (pgs_cons (pg_name (i := 6) sc_filled.nd rfl (Or.inl rfl)) pgs_nil))))
  (pss_cons (ps_setLc (i := 7) (own := [("index", 10)]) (g := gName 10) (tt := tYes) (by rfl) sc_filled.nd rfl rfl (sw_true rfl rfl rfl (by decide +kernel)) (pi_list (pv 4)) (blkOk_by (N := N_filled) (sc := defScope s_filled) (by decide +kernel)) (fun _ _ _ _ _ => (pg_name (i := 10) sc_filled.nd rfl (Or.inl rfl))) (fun _ _ _ _ _ => pts_nil) (fun _ _ _ _ _ => (pe_cal C_dot (hr.mono (by omega)) rfl (pa_cons (pe_cal C_cross (hr.mono (by omega)) rfl (pa_cons (pv 0) (pa_cons (pv 10) (pa_cons (pv 3) pa_nil)))) (pa_cons (pv 2) pa_nil)))))
  (pss_cons (ps_setLc (i := 8) (own := [("index", 10)]) (g := gName 10) (tt := tYes) (by rfl) sc_filled.nd rfl rfl (sw_true rfl rfl rfl (by decide +kernel)) (pi_range1 (by rfl) T.b_range (pa_cons (pe_fld (pv 0) rfl) pa_nil)) (blkOk_by (N := N_filled) (sc := defScope s_filled) (by decide +kernel)) (fun _ _ _ _ _ => (pg_name (i := 10) sc_filled.nd rfl (Or.inl rfl))) (fun _ _ _ _ _ => pts_nil) (fun _ _ _ _ _ => pe_int))
  (pss_cons (ps_for (passes_of rfl) rfl (pi_range1 (by rfl) T.b_range (pa_cons (pe_callB call_len_seq (by rfl) T.b_len PySem.boot_len (pa_cons (pv 3) pa_nil)) pa_nil)) (pg_name (i := 9) sc_filled.nd rfl (Or.inl rfl)) (pss_one (ps_asg (pe_op op_mulW (pv 6) (pe_ix ix_or (pv 2) (pv 9) (fun _ _ => rfl))) (pg_sub (pv 8) (pe_ix ix_tup (pv 3) (pv 9) (fun _ _ => rfl)) set_list))))
  (pss_cons (ps_for (passes_of rfl) rfl (pi_range1 (by rfl) T.b_range (pa_cons (pe_callB call_len_seq (by rfl) T.b_len PySem.boot_len (pa_cons (pv 4) pa_nil)) pa_nil)) (pg_name (i := 9) sc_filled.nd rfl (Or.inl rfl)) (pss_one (ps_asg (pe_un un_neg (pe_cal C_dot (hr.mono (by omega)) rfl (pa_cons (pe_ix ix_tup (pv 5) (pv 9) (fun _ _ => rfl)) (pa_cons (pv 7) pa_nil)))) (pg_sub (pv 8) (pe_ix ix_list (pv 4) (pv 9) (fun _ _ => rfl)) set_list))))
  (pss_one (ps_ret (pe_cal C_vector (hr.mono (by omega)) rfl (pa_cons (pv 8) (pa_cons (pv 6) pa_nil))))))))))))), ?_⟩
  have n10 := jo.n10
  have nn := hP.pm.nn
  have sy := jo.whole.sym
  obtain ⟨kk, va, rfl, hva⟩ := sn_ints hvv
  refine ⟨_, rfl, p, n, w, b, bd, M, rfl, hF, jo, fun t us H1 S0 d0 B0 ps0 s1 run0 _ _ => ?_, qx⟩
  have psd : El.Psd n M := run0.psd sy
  refine ⟨_, rfl, kv, _, rfl, hkv.same s1, pv_dep, sm_ints (by rw [vec_len]; omega), fun v' H2 s2 hz2 => ?_⟩
  obtain ⟨kt, rfl, hkt⟩ := fz_ints hz2
  have s02 := s1.trans s2
  refine ⟨_, rfl, _, rfl, p, kt, n, m, w, b, bd, M, ks, rfl, hF.same s02, hkt, hP, jo, psd, fun il H3 S d B' ps s3 run hil => ?_⟩
  have s03 := s02.trans s3
  obtain ⟨dx, e, hf, hz⟩ := hF.same s03
  obtain ⟨B2, ps2, run2, hw2, nv, nB, dp, dB, lo, hSn⟩ := sp_block hP jo bw run
  obtain ⟨N, hN⟩ : ∃ N : Nat → El.Row, N = fun i s => -B2 (S.length + i) (S.length + s) := ⟨_, rfl⟩
  rw [← hN] at nv
  refine ⟨_, rfl, p, cF, dx, _, _, rfl, hf, O.clF, O.F_entries, lkFe _ _ _, _, rfl, .ref e, il, n, S.length, w, bd, d, M, _, B2, ps2, rfl, hz, SqL.of hil, hSn, n10, lo, sy, run2, jo.bd1, jo.abs, hw2, jo.w0, by have := jo.w1; omega, fun t u H4 s4 ht hu => ?_⟩
  rw [← hN] at hu
  have nB : ∀ i s, B w (N i s) := fun i s => by rw [hN]; exact nB i s
  obtain ⟨l, hl0⟩ : ∃ l : Nat → Nat, l = fun i => El.oS n m ks (El.led S i) := ⟨_, rfl⟩
  have hil : H3 il = some (.lst ((pv_ S.length l).map V.int)) := by rw [hl0]; exact hil
  have lo : ∀ i, i < S.length → l i < n := fun i hi => by rw [hl0]; exact lo i hi
  have wn : w ≤ 4475 := jo.w1
  have w0 := jo.w0
  have s04 := s03.trans s4
  have hkt4 := Same_seqT (s3.trans s4) hkt
  have hva4 := sq_same s04 hva
  have hF4 := hF.same s04
  obtain ⟨dx4, e4, hf4, hz4⟩ := id hF4
  obtain ⟨u2, us2, eu, hus, hul, hurow⟩ := fz_mat hu
  cases eu
  rw [mat_len] at hul
  have hil4 := s4 _ _ hil
  have sn_va : ∀ {H'}, Same H4 H' → Sn K H' (.ref va) (tv m v) := fun s => hvv.same (s04.trans s)
  refine ⟨_, _, rfl, ht, rfl, _, _, rfl, _, _, rfl, rfl, ?_⟩
  have el : ∀ {m : Nat} {ks : Nat → Nat} {c : Nat} {v : V}, ((pv_ m ks).map V.int)[c]? = some v → c < m ∧ v = .int (ks c : Int) := fun {m ks c v} h => by
    have hc : c < m := by
      have := (List.getElem?_eq_some_iff.mp h).1
      rw [vec_lenV] at this
      exact this
    rw [vecV_at hc] at h
    cases h
    exact ⟨hc, rfl⟩
  -- pulls
  refine ⟨_, rfl, il, rfl, ⟨_, SqL.of hil4⟩, fun D1 hD1 => ?_⟩
  refine lc_m (walk_list (K := K) (a := il) (xs := (pv_ S.length l).map V.int)) RI (stb_RI (K := K)) (List.range S.length) (by rw [vec_lenV, List.length_range]) (by rw [List.length_range]; omega) hD1 (fun H' s => s.seq (SqL.of hil4)) (fun _ _ _ _ => ys_at) (fun s => P09.S m fun a => M (l s) (ks a) * v a) (fun c i x H5 H6 hc s5 s6 yl A B2 hA => ?_) (fun H5 l5 s5 hl5 rz5 => ?_)
  · obtain ⟨hi1, rfl⟩ := in_range hc
    obtain ⟨_, rfl⟩ := el yl.2
    exact ⟨rfl, lc_yes ⟨_, rfl, _, rfl, _, rfl, p, kt, n, l i, m, b, M, ks, rfl, hF4.same s6, .inr (Same_seqT s6 hkt4), lo i hi1, hP.k, by omega, by omega, fun tc H7 s7 htc => ⟨_, rfl, _, _, m, w, 40, fun a => M (l i) (ks a), v, rfl, .lst htc (FzAll.of_ints _).sn, sn_va (s6.trans s7), by omega, fun a _ => aB _ _, vB, w0, by decide, by omega, fun H8 s8 => hA _ _ (s7.trans s8) rfl⟩⟩⟩
  have hD5 : H5 D1 = some (.lst ((vec S.length fun s => P09.S m fun a => M (l s) (ks a) * v a).map V.int)) := by rw [hl5, rz5.ints]; rfl
  have cB' : ∀ s, B (w + 40 + 4) (P09.S m fun a => M (l s) (ks a) * v a) := fun s => BS (k := w + 40) (c := 4) (fun a ha => P09.B.mul (aB _ _) (vB a ha)) (by omega)
  -- found
  refine ⟨_, rfl, p, cF, dx4, _, _, rfl, s5 _ _ hf4, O.clF, O.F_size, lkFs _ _ _, (n : Int), rfl, by omega, by omega, fun D hD => ?_⟩
  refine lc_m (walk_range (lo := 0) (n := n)) RI (stb_RI (K := K)) (List.range n) (by rw [List.length_range]) (by rw [List.length_range]; omega) hD (fun _ _ => trivial) (fun _ _ _ _ => ys_fn) (fun _ => 0) (fun c i x H6 H7 hc s6 s7 yl A B2 hA => ?_) (fun H6 l6 s6 hl6 rz6 => ?_)
  · obtain ⟨hi1, rfl⟩ := in_range hc
    rw [yl.2]
    exact ⟨rfl, lc_yes (hA _ _ (fun _ _ h => h) rfl)⟩
  have hD6 : H6 D = some (.lst ((vec n fun _ => 0).map V.int)) := by rw [hl6, rz6.ints]; rfl
  have s46 := s5.trans s6
  have hDa : ∀ {c : Addr} {o : HO}, H5 c = some o → c ≠ D := fun h z => by rw [z, hD] at h; cases h
  have i0 : ∀ i : Nat, (0 + (i : Int)).toNat = i := fun i => by omega
  have ixj : ∀ {j : Nat}, j < n → ixN n (j : Int) = some j := fun {j} hj => by unfold ixN; rw [if_pos (by omega), if_pos (by omega)]; congr 1
  -- the told places
  refine ⟨_, rfl, kt, _, rfl, .inr (Same_seqT s46 hkt4), (m : Int), by rw [vec_lenV], by omega, by omega, for_range (lo := 0) (n := m) (fun k σ H' => ∃ (v9 : Option V) (g : Nat → Int), σ = [some (.ref p), some kv, some (.ref va), some (.ref kt), some (.ref il), some (.ref u), some (.int d), some (.ref D1), some (.ref D), v9, none] ∧ Same H5 H' ∧ H' D = some (.lst ((vec n g).map V.int)) ∧ (∀ a, a < k → g (ks a) = d * v a) ∧ (∀ i, (∀ a, a < k → ks a ≠ i) → g i = 0) ∧ ∀ i, B (w + 40) (g i)) ⟨none, fun _ => 0, rfl, s6, hD6, fun a ha => by omega, fun _ _ => rfl, fun _ => Nat.two_pow_pos _⟩ ?_ ?_⟩
  · rintro a σ H7 ha ⟨v9, g, rfl, s7, hD7, g1, g2, gB⟩
    have s47 := s5.trans s7
    refine ⟨_, rfl, _, rfl, _, rfl, ix_any (sq_same s47 hva4) (ixv ha) ⟨_, _, rfl, rfl, wmul dB (vB a ha) w0 (by decide) (by omega), ?_⟩⟩
    refine ⟨_, rfl, _, rfl, _, rfl, kt, _, _, _, rfl, rfl, Same_seqT s47 hkt4, ixv ha, D, _, _, ks a, rfl, rfl, hD7, by rw [vec_lenV]; exact ixj (hP.k a ha), ?_⟩
    refine ⟨_, put1 g (ks a) (d * v a), rfl, same_at s7 hD, by rw [upd_same, vec_set (hP.k a ha)]; rfl, fun a2 ha2 => ?_, fun i hi => ?_, fun i => ?_⟩
    · by_cases c : a2 = a
      · rw [c]; exact put1_at
      · rw [put1_ne fun e => c (hP.ki a2 a (by omega) ha e)]
        exact g1 a2 (by omega)
    · rw [put1_ne (Ne.symm (hi a (by omega)))]
      exact g2 i fun a2 h => hi a2 (by omega)
    · unfold put1
      split
      · exact P09.B.mul dB (vB a ha)
      · exact gB i
  rintro σ H7 ⟨v9, g, rfl, s7, hD7, g1, g2, gB⟩
  have s47 := s5.trans s7
  -- the settled ones
  have inj : ∀ t1 t2, t1 < S.length → t2 < S.length → l t1 = l t2 → t1 = t2 := fun t1 t2 h1 h2 e => by
    rw [hl0] at e
    have fall := run.fall
    exact El.led_inj fall.1 h1 h2 (hP.pm.oi _ _ (fall.2 _ (El.led_mem h1)) (fall.2 _ (El.led_mem h2)) e)
  have apart : ∀ t a, t < S.length → a < m → ks a ≠ l t := fun t a ht ha e => by
    rw [hl0] at e
    exact hP.pm.ok _ a (run.fall.2 _ (El.led_mem ht)) ha e.symm
  refine ⟨_, rfl, il, _, rfl, .inl (SqL.of (s47 _ _ hil4)), (S.length : Int), by rw [vec_lenV], by omega, by omega, for_range (lo := 0) (n := S.length) (fun k σ H' => ∃ (v9 : Option V) (g : Nat → Int), σ = [some (.ref p), some kv, some (.ref va), some (.ref kt), some (.ref il), some (.ref u), some (.int d), some (.ref D1), some (.ref D), v9, none] ∧ Same H5 H' ∧ H' D = some (.lst ((vec n g).map V.int)) ∧ (∀ a, a < m → g (ks a) = d * v a) ∧ (∀ t, t < k → g (l t) = -P09.S S.length fun s => N t s * P09.S m fun a => M (l s) (ks a) * v a) ∧ (∀ i, (∀ a, a < m → ks a ≠ i) → (∀ t, t < k → l t ≠ i) → g i = 0) ∧ ∀ i, B (w + w + 48) (g i)) ⟨v9, g, rfl, s7, hD7, g1, fun t ht => by omega, fun i h1 _ => g2 i h1, fun i => (gB i).mono (by omega)⟩ ?_ ?_⟩
  · rintro t2 σ H8 ht2 ⟨v9, g, rfl, s8, hD8, g1, g2, g3, gB⟩
    have s48 := s5.trans s8
    obtain ⟨rr, hrr1, hrr2⟩ := hurow t2 _ (mat_at ht2)
    refine ⟨_, rfl, _, rfl, u, _, _, _, rfl, rfl, Same_seqT s48 hus, at_pos (by omega) (by rw [i0]; exact hrr1), _, rfl, _, _, S.length, w, w + 40 + 4, N t2, _, rfl, .tup (Same_seqT s48 hrr2) (FzAll.of_ints _).sn, .lst (s8 _ _ hD5) (FzAll.of_ints _).sn, by omega, fun s _ => nB _ _, fun s _ => cB' s, w0, by omega, by omega, fun H9 s9 => ⟨_, rfl, ?_⟩⟩
    have s49 := s48.trans s9
    refine ⟨_, rfl, _, rfl, _, rfl, il, _, _, _, rfl, rfl, SqL.of (s49 _ _ hil4), ixv ht2, D, _, _, l t2, rfl, rfl, s9 _ _ hD8, by rw [vec_lenV]; exact ixj (lo t2 ht2), ?_⟩
    refine ⟨_, put1 g (l t2) (-P09.S S.length fun s => N t2 s * P09.S m fun a => M (l s) (ks a) * v a), rfl, same_at (s8.trans s9) hD, by rw [upd_same, vec_set (lo t2 ht2)]; rfl, fun a ha => ?_, fun t3 ht3 => ?_, fun i hi hj => ?_, fun i => ?_⟩
    · rw [put1_ne (apart t2 a ht2 ha)]
      exact g1 a ha
    · by_cases c : t3 = t2
      · rw [c]; exact put1_at
      · rw [put1_ne fun e => c (inj t3 t2 (by omega) ht2 e)]
        exact g2 t3 (by omega)
    · rw [put1_ne (Ne.symm (hj t2 (by omega)))]
      exact g3 i hi fun t3 h => hj t3 (by omega)
    · unfold put1
      split
      · have h1 := BS (k := w + (w + 40 + 4)) (c := 4) (fun s (_ : s < S.length) => P09.B.mul (nB t2 s) (cB' s)) (by omega)
        have h2 : B (w + w + 48) (P09.S S.length fun s => N t2 s * P09.S m fun a => M (l s) (ks a) * v a) := h1.mono (by omega)
        show (-P09.S S.length _).natAbs < _
        rw [Int.natAbs_neg]
        exact h2
      · exact gB i
  · rintro σ H8 ⟨v9, g, rfl, s8, hD8, g1, g2, g3, gB⟩
    refine ⟨_, rfl, _, rfl, D, _, d, rfl, hD8, dp, dB.mono (by omega), by rw [vec_len]; omega, fun r t9 H9 s9 hr9 ht9 => ?_⟩
    refine q r t9 H9 S d B' ps N g (s04.trans (s5.trans (s8.trans s9))) psd run nv (fil_of hP sy run g1 (by rw [hl0] at g2; exact g2) (fun i h1 h2 => g3 i h1 (by rw [hl0]; exact h2))) dB gB hr9 ?_
    rw [ht9]
    congr 2
    generalize gf d (vec n g) = gg
    refine congrArg (List.map V.int) ?_
    show ((List.range n).map g).map _ = _
    rw [List.map_map]
    rfl
end
end P09
namespace P09
open PySem PySem.Spec PyProof.Rows L2 SX EX WK
theorem B.add {k : Nat} {x y : Int} (hx : B k x) (hy : B k y) : B (k + 1) (x + y) := by
  show (x + y).natAbs < 2 ^ (k + 1)
  have h1 : x.natAbs < 2 ^ k := hx
  have h2 : y.natAbs < 2 ^ k := hy
  have h3 := Int.natAbs_add_le x y
  rw [Nat.pow_succ]
  omega
/-- a table that grows by rows: so far i of them -/
structure MG (H0 H : Hp) (a : Addr) (rs : List Addr) (n i : Nat) (f : Nat → Nat → Int) : Prop where
  same : Same H0 H
  at_ : H a = some (.lst (rs.map V.ref))
  len : rs.length = i
  nd : rs.Nodup
  na : a ∉ rs
  fr : ∀ r ∈ rs, H0 r = none
  row : ∀ (j : Nat), j < i → ∃ p, rs[j]? = some p ∧ H p = some (.lst ((vec n (f j)).map V.int))
theorem MG.start {H0 : Hp} {D : Addr} {n : Nat} {f : Nat → Nat → Int} (h : H0 D = none) : MG H0 (upd H0 D (.lst [])) D [] n 0 f := ⟨new_same h _, upd_same, rfl, List.nodup_nil, by simp, by simp, fun i hi => by omega⟩
theorem MG.mt {H0 H : Hp} {a : Addr} {rs : List Addr} {n : Nat} {f : Nat → Nat → Int} (h : MG H0 H a rs n n f) : MT H0 H a rs n f := ⟨h.same, h.at_, h.len, h.nd, h.na, h.fr, h.row⟩
theorem MG.snoc {H0 H H' : Hp} {a p : Addr} {rs : List Addr} {n i : Nat} {f : Nat → Nat → Int} (h : MG H0 H a rs n i f) (h0 : H0 a = none) (s : Same H H') (hp : H p = none) (hr : H' p = some (.lst ((vec n (f i)).map V.int))) : MG H0 (upd H' a (.lst (rs.map V.ref ++ [.ref p]))) a (rs ++ [p]) n (i + 1) f := by
  have hpa : p ≠ a := fun z => by rw [z, h.at_] at hp; cases hp
  refine ⟨same_at (h.same.trans s) h0, ?_, by rw [List.length_append, h.len]; rfl, ?_, ?_, fun r hr' => ?_, fun j hj => ?_⟩
  · rw [upd_same, List.map_append]
    rfl
  · refine List.nodup_append.mpr ⟨h.nd, by simp, fun x hx y hy z => ?_⟩
    rw [List.mem_singleton] at hy
    subst hy
    subst z
    obtain ⟨j, hj⟩ := List.getElem?_of_mem hx
    have hlt : j < i := by
      have := (List.getElem?_eq_some_iff.mp hj).1
      rw [h.len] at this
      exact this
    obtain ⟨p2, e1, e2⟩ := h.row j hlt
    rw [hj] at e1
    cases e1
    rw [e2] at hp
    cases hp
  · intro hm
    rcases List.mem_append.mp hm with m | m
    · exact h.na m
    · exact hpa (List.mem_singleton.mp m).symm
  · rcases List.mem_append.mp hr' with m | m
    · exact h.fr r m
    · rw [List.mem_singleton.mp m]
      cases e : H0 p with
      | none => rfl
      | some u => rw [h.same _ _ e] at hp; cases hp
  · by_cases e : j < i
    · obtain ⟨p2, e1, e2⟩ := h.row j e
      have hlt : j < rs.length := by rw [h.len]; exact e
      have m := List.mem_of_getElem? e1
      exact ⟨p2, by rw [List.getElem?_append_left hlt]; exact e1, by rw [upd_ne (fun z => h.na (by rw [← z]; exact m))]; exact s _ _ e2⟩
    · have e2 : j = i := by omega
      subst e2
      exact ⟨p, by rw [List.getElem?_append_right (by rw [h.len]; omega), h.len, Nat.sub_self]; rfl, by rw [upd_ne hpa]; exact hr⟩
/-- what stands apart from the table stays apart -/
theorem MT.put {H0 H : Hp} {a c : Addr} {rs : List Addr} {n : Nat} {f : Nat → Nat → Int} {o : HO} (h : MT H0 H a rs n f) (h0 : H0 c = none) (ha : c ≠ a) (hr : c ∉ rs) : MT H0 (upd H c o) a rs n f := by
  refine ⟨same_at h.same h0, by rw [upd_ne (Ne.symm ha)]; exact h.at_, h.len, h.nd, h.na, h.fr, fun i hi => ?_⟩
  obtain ⟨p, h1, h2⟩ := h.row i hi
  exact ⟨p, h1, by rw [upd_ne (fun z => hr (by rw [← z]; exact List.mem_of_getElem? h1))]; exact h2⟩
theorem MT.apart {H0 H : Hp} {a c : Addr} {rs : List Addr} {n : Nat} {f : Nat → Nat → Int} (h : MT H0 H a rs n f) (hc : H c = none) : c ≠ a ∧ c ∉ rs := by
  refine ⟨fun z => (by rw [z, h.at_] at hc; cases hc), fun m => ?_⟩
  obtain ⟨j, hj⟩ := List.getElem?_of_mem m
  have hlt : j < n := by
    have := (List.getElem?_eq_some_iff.mp hj).1
    rw [h.len] at this
    exact this
  obtain ⟨p2, e1, e2⟩ := h.row j hlt
  rw [hj] at e1
  cases e1
  rw [e2] at hc
  cases hc
/-- between two states behind k: the rows below i are done, of the row i the first j -/
def mixk (k : Nat) (f g : Nat → Nat → Int) (i j : Nat) : Nat → Nat → Int := fun a b => if k < a ∧ k < b ∧ (a < i ∨ (a = i ∧ b < j)) then g a b else f a b
theorem mixk_put {k : Nat} (f g : Nat → Nat → Int) {i j : Nat} (hi : k < i) (hj : k < j) : ∀ a b, put (mixk k f g i j) i j (g i j) a b = mixk k f g i (j + 1) a b := fun a b => by
  unfold put mixk
  by_cases h : a = i ∧ b = j
  · rw [if_pos h, if_pos ⟨by omega, by omega, .inr ⟨h.1, by omega⟩⟩, h.1, h.2]
  · rw [if_neg h]
    by_cases h2 : k < a ∧ k < b ∧ (a < i ∨ (a = i ∧ b < j))
    · rw [if_pos h2, if_pos (by omega)]
    · rw [if_neg h2, if_neg (by omega)]
theorem mixk_at (k : Nat) (f g : Nat → Nat → Int) (i j : Nat) : mixk k f g i j i j = f i j := by
  unfold mixk
  rw [if_neg (by omega)]
theorem mixk_0 (k : Nat) (f g : Nat → Nat → Int) : mixk k f g (k + 1) (k + 1) = f := by
  funext a b
  unfold mixk
  rw [if_neg (by omega)]
theorem mixk_row (k : Nat) (f g : Nat → Nat → Int) (n i : Nat) : ∀ a b, a < n → b < n → mixk k f g i n a b = mixk k f g (i + 1) (k + 1) a b := fun a b ha hb => by
  unfold mixk
  by_cases h : k < a ∧ k < b ∧ a < i + 1
  · rw [if_pos (by omega), if_pos (by omega)]
  · rw [if_neg (by omega), if_neg (by omega)]
theorem mixk_n (k : Nat) (f g : Nat → Nat → Int) (n j : Nat) : ∀ a b, a < n → b < n → mixk k f g n j a b = if k < a ∧ k < b then g a b else f a b := fun a b ha hb => by
  unfold mixk
  by_cases h : k < a ∧ k < b
  · rw [if_pos (by omega), if_pos h]
  · rw [if_neg (by omega), if_neg h]
/-- the numbers that a step has made so far -/
def Made (n k i j : Nat) (R : Nat → El.Row) (x : Int) : Prop := ∃ a b, k < a ∧ k < b ∧ a < n ∧ b < n ∧ (a < i ∨ (a = i ∧ b < j)) ∧ x = El.numer R k a b
theorem made_0 {n k : Nat} {R : Nat → El.Row} : ∀ x, ¬ Made n k (k + 1) (k + 1) R x := fun x ⟨a, b, h1, h2, _, _, h3, _⟩ => by omega
theorem made_put {n k i j : Nat} {R : Nat → El.Row} (hi : k < i) (hj : k < j) (hin : i < n) (hjn : j < n) (y : Int) : Made n k i (j + 1) R y ↔ Made n k i j R y ∨ y = El.numer R k i j := by
  constructor
  · rintro ⟨a, b, h1, h2, h3, h4, h5, rfl⟩
    by_cases e : a = i ∧ b = j
    · exact .inr (by rw [e.1, e.2])
    · exact .inl ⟨a, b, h1, h2, h3, h4, by omega, rfl⟩
  · rintro (⟨a, b, h1, h2, h3, h4, h5, rfl⟩ | rfl)
    · exact ⟨a, b, h1, h2, h3, h4, by omega, rfl⟩
    · exact ⟨i, j, hi, hj, hin, hjn, by omega, rfl⟩
theorem made_row {n k i : Nat} {R : Nat → El.Row} (y : Int) : Made n k (i + 1) (k + 1) R y ↔ Made n k i n R y := by
  constructor
  · rintro ⟨a, b, h1, h2, h3, h4, h5, rfl⟩
    exact ⟨a, b, h1, h2, h3, h4, by omega, rfl⟩
  · rintro ⟨a, b, h1, h2, h3, h4, h5, rfl⟩
    exact ⟨a, b, h1, h2, h3, h4, by omega, rfl⟩
theorem made_n {n k j : Nat} {R : Nat → El.Row} (y : Int) : El.Nums n k R y ↔ Made n k n j R y := by
  constructor
  · rintro ⟨a, b, h1, h2, h3, h4, rfl⟩
    exact ⟨a, b, h1, h2, h3, h4, by omega, rfl⟩
  · rintro ⟨a, b, h1, h2, h3, h4, h5, rfl⟩
    exact ⟨a, b, h1, h2, h3, h4, rfl⟩
/-- a table that is below 0 somewhere, seen at the index k -/
def Bd (n k : Nat) (B' : Nat → El.Row) : Prop := B' k k < 0 ∨ (B' k k = 0 ∧ ∃ j, k < j ∧ j < n ∧ B' k j ≠ 0)
section
variable {P : Program} {w : World} {K : PySem.W.Frag} {mg : Str → Option Value} {base : Heap} {f : Addr} {fd : FuncData} {cF cR : Addr}
/-- what the law's elimination answers -/
def LdV (H : Hp) (n : Nat) (M : Nat → El.Row) (sv : V) : Prop := (∃ r S d B' ps, sv = .ref r ∧ El.Run M n S d B' ps ∧ H r = some (.lst ((ps.reverse.map fun p => (p.1 : Int)).map V.int))) ∨ (sv = .non ∧ ∃ k S d B' ps, k < n ∧ El.Run M k S d B' ps ∧ Bd n k B')
theorem LdV.same {H H' : Hp} {n : Nat} {M : Nat → El.Row} {sv : V} (h : LdV H n M sv) (s : Same H H') : LdV H' n M sv := by
  rcases h with ⟨r, S, d, B', ps, h1, h2, h3⟩ | h
  · exact .inl ⟨r, S, d, B', ps, h1, h2, s _ _ h3⟩
  · exact .inr h
def spLeads (K : PySem.W.Frag) : Sp := fun vs H Q _ => ∃ (a : Addr) (n w : Nat) (bd : Int) (M R : Nat → Nat → Int), vs = [.ref a] ∧ LTab H a n R ∧ JOk n w bd M ∧ El.Out n R ∧ (∀ i j, B w (R i j)) ∧ El.Tie 0 R M ∧ ∀ sv H', Same H H' → LdV H' n M sv → Q sv H'
abbrev s__law_leads : Stmt := top 54
abbrev N__law_leads : List Str := ["table", "size", "line", "rest", "leads_v", "k", "pivot", "j", "shared", "i"]
theorem sc__law_leads : FnScope N__law_leads ["table"] (defScope s__law_leads) := ⟨rfl, rfl, rfl, by decide +kernel, rfl, by decide +kernel, by decide +kernel⟩
theorem ok__law_leads (F : Fun K "_law_leads" "_law_leads" s__law_leads f fd) (T : Txt mg) (C__law_gcd : Cal P w K mg base 1 "_law_gcd" ["one", "two"] spGcd) : FnOk P w K mg base CX0 2 f fd ["table"] (spLeads K) := by
  refine F.ok sc__law_leads (fun vs H Q E h => ?_) (fun cdv A outer s H vs Q E hr h => ?_)
  · obtain ⟨a, n, w, bd, M, R, rfl, _⟩ := h
    rfl
  obtain ⟨a, n, w, bd, M, R0, rfl, ht, jo, out0, hB0, tie0, q⟩ := h
  have q1 : ∀ r H' S d B' ps, Same H H' → El.Run M n S d B' ps → H' r = some (.lst ((ps.reverse.map fun p => (p.1 : Int)).map V.int)) → Q (.ref r) H' := fun r H' S d B' ps s1 h1 h2 => q _ _ s1 (.inl ⟨r, S, d, B', ps, rfl, h1, h2⟩)
  have q2 : ∀ H' k S d B' ps, Same H H' → k < n → El.Run M k S d B' ps → Bd n k B' → Q .non H' := fun H' k S d B' ps s1 h1 h2 h3 => q _ _ s1 (.inr ⟨rfl, k, S, d, B', ps, h1, h2, h3⟩)
  refine ⟨_, (pss_cons (ps_set (i := 1) sc__law_leads.nd rfl (Or.inl rfl) (pe_callB call_len_seq (by rfl) T.b_len PySem.boot_len (pa_cons (pv 0) pa_nil)))
  (pss_cons (ps_setLc (i := 3) (own := [("line", 2)]) (g := gName 2) (tt := tYes) (by rfl) sc__law_leads.nd rfl rfl (sw_true rfl rfl rfl (by decide +kernel)) (pi_list (pv 0)) (blkOk_by (N := N__law_leads) (sc := defScope s__law_leads) (by decide +kernel)) (fun _ _ _ _ _ => (pg_name (i := 2) sc__law_leads.nd rfl (Or.inl rfl))) (fun _ _ _ _ _ => pts_nil) (fun _ _ _ _ _ => (pe_callTy (call_list_ofK (K := K) rfl) (by rfl) T.b_list (by decide +kernel) (pa_cons (pv 2) pa_nil))))
  (pss_cons (ps_set (i := 4) sc__law_leads.nd rfl (Or.inl rfl) (pe_lst pa_nil))
  (pss_cons (ps_for PassesOwn.never rfl (pi_range1 (by rfl) T.b_range (pa_cons (pv 1) pa_nil)) (pg_name (i := 5) sc__law_leads.nd rfl (Or.inl rfl)) (pss_cons (ps_set (i := 2) sc__law_leads.nd rfl (Or.inr rfl) (pe_callTy call_list_of (by rfl) T.b_list (by decide +kernel) (pa_cons (pe_ix ix_list (pv 3) (pv 5) (fun _ _ => rfl)) pa_nil)))
  (pss_cons (ps_set (i := 6) sc__law_leads.nd rfl (Or.inl rfl) (pe_ix ix_list (pv 2) (pv 5) (fun _ _ => rfl)))
  (pss_cons (ps_if (pt_cmpR op_lt (pv 6) pe_int (nomark _)) (pss_one (ps_ret pe_non)) pss_nil)
  (pss_cons (ps_if (PW.pt (pw_and (pt_cmpR op_eq (pv 6) pe_int (nomark _)) (pw_and1 (pt_val (pe_callB (cr_any rfl) (by rfl) T.b_any (by decide +kernel) (pa_cons (pe_lc (own := [("j", 7)]) (g := gName 7) (tt := tYes) (by rfl) sc__law_leads.nd (pi_range2 (by rfl) T.b_range (pa_cons (pe_op op_add (pv 5) pe_int) (pa_cons (pv 1) pa_nil))) (blkOk_by (N := N__law_leads) (sc := defScope s__law_leads) (by decide +kernel)) (fun _ _ _ _ _ => (pg_name (i := 7) sc__law_leads.nd rfl (Or.inl rfl))) (fun _ _ _ _ _ => pts_nil) (fun _ _ _ _ _ => (pe_cmpR op_ne (pe_ix (ix_listK (K := K) rfl) (pv 2) (pv 7) (fun _ _ => rfl)) pe_int (nomark _)))) pa_nil)))))) (pss_one (ps_ret pe_non)) pss_nil)
  (pss_one (ps_if (pt_cmpR op_gt (pv 6) pe_int (nomark _)) (pss_cons (ps_expr (pe_bm PySem.F.plainAttrs_list PySem.F.slot_list_append PySem.F.type_list_append mt_append (pv 4) (pa_cons (pv 5) pa_nil)))
  (pss_cons (ps_set (i := 8) sc__law_leads.nd rfl (Or.inl rfl) pe_int)
  (pss_cons (ps_for PassesOwn.never rfl (pi_range2 (by rfl) T.b_range (pa_cons (pe_op op_add (pv 5) pe_int) (pa_cons (pv 1) pa_nil))) (pg_name (i := 9) sc__law_leads.nd rfl (Or.inl rfl)) (pss_one (ps_for PassesOwn.never rfl (pi_range2 (by rfl) T.b_range (pa_cons (pe_op op_add (pv 5) pe_int) (pa_cons (pv 1) pa_nil))) (pg_name (i := 7) sc__law_leads.nd rfl (Or.inl rfl)) (pss_cons (ps_asg (pe_op op_sub (pe_op op_mulW (pv 6) (pe_ix ix_list (pe_ix ix_list (pv 3) (pv 9) (fun _ _ => rfl)) (pv 7) (fun _ _ => rfl))) (pe_op op_mulW (pe_ix ix_list (pv 2) (pv 9) (fun _ _ => rfl)) (pe_ix ix_list (pv 2) (pv 7) (fun _ _ => rfl)))) (pg_sub (pe_ix ix_list (pv 3) (pv 9) (fun _ _ => rfl)) (pv 7) set_list))
  (pss_one (ps_if (pt_cmpR op_ne (pv 8) pe_int (nomark _)) (pss_one (ps_set (i := 8) sc__law_leads.nd rfl (Or.inl rfl) (pe_cal C__law_gcd (hr.mono (by omega)) rfl (pa_cons (pv 8) (pa_cons (pe_ix ix_list (pe_ix ix_list (pv 3) (pv 9) (fun _ _ => rfl)) (pv 7) (fun _ _ => rfl)) pa_nil))))) pss_nil))))))
  (pss_one (ps_if (pt_cmpR op_gt (pv 8) pe_int (nomark _)) (pss_one (ps_for PassesOwn.never rfl (pi_range2 (by rfl) T.b_range (pa_cons (pe_op op_add (pv 5) pe_int) (pa_cons (pv 1) pa_nil))) (pg_name (i := 9) sc__law_leads.nd rfl (Or.inl rfl)) (pss_one (ps_for PassesOwn.never rfl (pi_range2 (by rfl) T.b_range (pa_cons (pe_op op_add (pv 5) pe_int) (pa_cons (pv 1) pa_nil))) (pg_name (i := 7) sc__law_leads.nd rfl (Or.inl rfl)) (pss_one (ps_asg (pe_op op_fdivW (pe_ix ix_list (pe_ix ix_list (pv 3) (pv 9) (fun _ _ => rfl)) (pv 7) (fun _ _ => rfl)) (pv 8)) (pg_sub (pe_ix ix_list (pv 3) (pv 9) (fun _ _ => rfl)) (pv 7) set_list))))))) pss_nil))))) pss_nil)))))))
  (pss_one (ps_ret (pv 4))))))), ?_⟩
  have n10 := jo.n10
  have w1 := jo.w1
  obtain ⟨vs, ha, hl, row⟩ := ht.at
  refine ⟨_, rfl, a, _, rfl, .inl (SqL.of ha), ?_⟩
  rw [hl]
  refine ⟨_, rfl, a, rfl, ⟨_, SqL.of ha⟩, fun L hL => ?_⟩
  refine lc_list (K := K) (a := a) (xs := vs) (fun i H' => ∃ rs, MG H H' L rs n i R0) ⟨[], MG.start hL⟩ (fun i H' _ ⟨_, z⟩ => SqL.of (z.same _ _ ha)) (fun i x H1 hx ⟨rs, z⟩ => ?_) (fun H1 ⟨rs, z⟩ => ?_)
  · have hi : i < n := by have := (List.getElem?_eq_some_iff.mp hx).1; omega
    obtain ⟨p, h1, h2⟩ := row i hi
    rw [hx] at h1
    cases h1
    refine ⟨rfl, lc_yes ⟨_, rfl, p, _, rfl, .inl (SqL.of (z.same _ _ h2)), fun D hD => ⟨_, (same_new hD _) _ _ z.at_, ?_, _, z.snoc hL (same_new hD _) hD upd_same⟩⟩⟩
    rw [List.length_map, z.len]
    exact Nat.lt_of_lt_of_le (by omega : i < 1001) (line_ge (by decide))
  · rw [hl] at z
    have mt := z.mt
    clear z
    refine ⟨line_ge (by decide), fun F0 hF0 => ?_⟩
    obtain ⟨apL, apR⟩ := mt.apart hF0
    have hF00 : H F0 = none := by
      cases e : H F0 with
      | none => rfl
      | some u => rw [mt.same _ _ e] at hF0; cases hF0
    have mt0 := mt.keep (same_new hF0 (.lst []))
    refine ⟨_, rfl, (n : Int), rfl, by omega, by omega, ?_⟩
    refine for_range (lo := 0) (n := n) (fun k σ H2 => ∃ (v2 v5 v6 v7 v8 v9 : Option V) (R : Nat → El.Row) (S : List Nat) (d : Int) (B' : Nat → El.Row) (ps : List El.Pv), σ = [some (.ref a), some (.int n), v2, some (.ref L), some (.ref F0), v5, v6, v7, v8, v9] ∧ MT H H2 L rs n R ∧
      H2 F0 = some (.lst ((ps.reverse.map fun p => (p.1 : Int)).map V.int)) ∧ El.Run M k S d B' ps ∧ El.Tie k R B' ∧ El.Out n R ∧ ∀ i j, k ≤ i → k ≤ j → B w (R i j)) ⟨none, none, none, none, none, none, R0, [], 1, M, [], rfl, mt0, upd_same, .begin, tie0, out0, fun i j _ _ => hB0 i j⟩ ?_ ?_
    · rintro k σ H2 hk ⟨v2, v5, v6, v7, v8, v9, R, S, d, B', ps, rfl, mt2, hF2, run, tie, out, hB⟩
      have e0 : (0 + (k : Int)).toNat = k := by omega
      obtain ⟨pk, hpk1, hpk2⟩ := mt2.row k hk
      have ixk : atI (rs.map V.ref) (0 + (k : Int)) = some (.ref pk) := at_pos (by omega) (by rw [e0, List.getElem?_map, hpk1]; rfl)
      refine ⟨_, rfl, _, rfl, L, _, _, _, rfl, rfl, SqL.of mt2.at_, ixk, pk, _, rfl, .inl (SqL.of hpk2), fun D hD => ?_⟩
      have mt3 := mt2.keep (same_new hD (.lst ((vec n (R k)).map V.int)))
      have hF3 := (same_new hD (.lst ((vec n (R k)).map V.int))) _ _ hF2
      have hD3 : upd H2 D (.lst ((vec n (R k)).map V.int)) D = some (.lst ((vec n (R k)).map V.int)) := upd_same
      obtain ⟨dpL, dpR⟩ := mt2.apart hD
      have hDF : D ≠ F0 := fun z => by rw [z, hF2] at hD; cases hD
      generalize upd H2 D (.lst ((vec n (R k)).map V.int)) = H3 at *
      refine ⟨_, rfl, _, rfl, D, _, _, _, rfl, rfl, SqL.of hD3, ixv hk, ?_⟩
      refine ⟨_, rfl, _, _, rfl, rfl, _, rfl, ?_⟩
      have tp := tie.pos (Nat.le_refl k) (Nat.le_refl k)
      have tz := tie.zero (Nat.le_refl k) (Nat.le_refl k)
      by_cases c1 : R k k < 0
      · refine ifT (decide_eq_true c1) ?_
        exact q2 H3 k S d B' ps mt3.same hk run (.inl (by omega))
      refine ifF (decide_eq_false c1) ?_
      refine ⟨_, rfl, rfl, _, rfl, ?_⟩
      by_cases c2 : R k k = 0
      · refine ifT (int_eq c2) ?_
        obtain ⟨N, hN⟩ : ∃ N, N = ((n : Int) - (0 + (k : Int) + 1)).toNat := ⟨_, rfl⟩
        refine ⟨_, rfl, _, _, rfl, rfl, _, rfl, _, _, rfl, ⟨by omega, by omega, by omega, by omega⟩, fun D2 hD2 => ?_⟩
        rw [← hN]
        refine lc_m (walk_range (lo := 0 + (k : Int) + 1) (n := N)) RB (stb_RB (K := K)) (List.range N) (by rw [List.length_range]) (by rw [List.length_range]; omega) hD2 (fun _ _ => trivial) (fun _ _ _ _ => ys_fn) (fun i => !decide (R k (k + 1 + i) = 0)) (fun c i x H4 H5 hc s4 s5 y A B hA => ?_) (fun H4 l s4 hl4 rz => ?_)
        · obtain ⟨hc1, rfl⟩ := in_range hc
          rw [y.2]
          have hci : k + 1 + i < n := by omega
          refine ⟨rfl, lc_yes ⟨_, rfl, _, rfl, D, _, _, _, rfl, rfl, SqL.of (s5 _ _ hD3), at_pos (by omega) (by rw [show (0 + (k : Int) + 1 + (i : Int)).toNat = k + 1 + i by omega]; exact vecV_at hci), rfl, hA _ _ (fun _ _ h => h) ?_⟩⟩
          show V.bl _ = V.bl _
          congr 2
          rw [Bool.eq_iff_iff, decide_eq_true_iff, decide_eq_true_iff]
          exact ⟨fun e => V.int.inj e, fun e => by rw [e]⟩
        · refine ⟨D2, _, rfl, SqL.of (by rw [hl4, rz.bls]), _, rfl, ?_⟩
          cases ha2 : ((List.range N).map fun i => !decide (R k (k + 1 + i) = 0)).any id with
          | true =>
            refine ifT rfl ?_
            rw [List.any_eq_true] at ha2
            obtain ⟨b, hb, hb2⟩ := ha2
            obtain ⟨i, hi, rfl⟩ := List.mem_map.mp hb
            have hi2 := List.mem_range.mp hi
            have hne : R k (k + 1 + i) ≠ 0 := by simpa using hb2
            exact q2 H4 k S d B' ps (mt3.same.trans s4) hk run (.inr ⟨tz.mp c2, k + 1 + i, by omega, by omega, fun e => hne ((tie.zero (Nat.le_refl k) (by omega)).mpr e)⟩)
          | false =>
            refine ifF rfl ?_
            refine ⟨_, rfl, _, _, rfl, rfl, _, rfl, ifF (decide_eq_false (by omega)) ?_⟩
            have hz : ∀ p, k < p → p < n → R k p = 0 := fun p hp hpn => by
              rw [List.any_eq_false] at ha2
              have h := ha2 (!decide (R k (k + 1 + (p - (k + 1))) = 0)) (List.mem_map.mpr ⟨p - (k + 1), List.mem_range.mpr (by omega), rfl⟩)
              rw [show k + 1 + (p - (k + 1)) = p by omega] at h
              simpa using h
            have hrow := run_row jo.whole run (tz.mp c2) fun p hp hpn => (tie.zero (Nat.le_refl k) (by omega)).mp (hz p hp hpn)
            exact ⟨_, _, _, _, _, _, R, S, d, B', ps, rfl, mt3.keep s4, s4 _ _ hF3, run.skip hrow, tie.skip, out, fun i j hi hj => hB i j (by omega) (by omega)⟩
      refine ifF (int_ne c2) ?_
      have hpos : 0 < R k k := by omega
      refine ⟨_, rfl, _, _, rfl, rfl, _, rfl, ifT (decide_eq_true hpos) ?_⟩
      have hkB : 0 < B' k k := tp.mp hpos
      have hlen : (((ps.reverse.map fun p => (p.1 : Int)).map V.int)).length ≤ k := by
        have h1 := run.many
        rw [← run.leads, List.length_map] at h1
        rw [List.length_map, List.length_map, List.length_reverse]
        exact h1
      refine ⟨_, rfl, tyV_of hF3, _, rfl, F0, _, _, rfl, rfl, hF3, Nat.lt_of_lt_of_le (by omega : _ < 1001) (line_ge (by decide)), ?_⟩
      have mt4 := mt3.put (o := .lst ((ps.reverse.map fun p => (p.1 : Int)).map V.int ++ [.int (0 + (k : Int))])) hF00 apL apR
      have hD4 : upd H3 F0 (.lst ((ps.reverse.map fun p => (p.1 : Int)).map V.int ++ [.int (0 + (k : Int))])) D = some (.lst ((vec n (R k)).map V.int)) := by
        rw [upd_ne hDF]
        exact hD3
      have hF4 : upd H3 F0 (.lst ((ps.reverse.map fun p => (p.1 : Int)).map V.int ++ [.int (0 + (k : Int))])) F0 = some (.lst ((((k, B' k, d * B' k k) :: ps).reverse.map fun p => (p.1 : Int)).map V.int)) := by
        rw [upd_same, Int.zero_add]
        simp
      generalize upd H3 F0 (.lst ((ps.reverse.map fun p => (p.1 : Int)).map V.int ++ [.int (0 + (k : Int))])) = H4 at *
      have bR : ∀ i j, k ≤ i → k ≤ j → B 4475 (R i j) := fun i j hi hj => (hB i j hi hj).mono w1
      have bN : ∀ i j, k ≤ i → k ≤ j → B 8951 (El.numer R k i j) := fun i j hi hj => by
        have h1 := B.mul (bR k k (Nat.le_refl k) (Nat.le_refl k)) (bR i j hi hj)
        have h2 := B.mul (bR k i (Nat.le_refl k) hi) (bR k j (Nat.le_refl k) hj)
        have h3 := B.add h1 (y := -(R k i * R k j)) (by show (-(R k i * R k j)).natAbs < _; rw [Int.natAbs_neg]; exact h2)
        unfold El.numer
        rw [Int.sub_eq_add_neg]
        exact h3
      refine ⟨_, rfl, _, _, rfl, rfl, _, rfl, _, _, rfl, ⟨by omega, by omega, by omega, by omega⟩, ?_⟩
      refine for_range (lo := 0 + (k : Int) + 1) (n := ((n : Int) - (0 + (k : Int) + 1)).toNat) (fun t σ H5 => ∃ (v7 v9 : Option V) (g : Int), σ = [some (.ref a), some (.int n), some (.ref D), some (.ref L), some (.ref F0), some (.int (0 + (k : Int))), some (.int (R k k)), v7, some (.int g), v9] ∧
        MT H H5 L rs n (mixk k R (El.numer R k) (k + 1 + t) (k + 1)) ∧ El.Gcd (Made n k (k + 1 + t) (k + 1) R) g ∧ B 9000 g ∧ H5 D = some (.lst ((vec n (R k)).map V.int)) ∧ H5 F0 = some (.lst ((((k, B' k, d * B' k k) :: ps).reverse.map fun p => (p.1 : Int)).map V.int)))
        ⟨_, _, 0, rfl, by rw [Nat.add_zero, mixk_0]; exact mt4, El.Gcd.none made_0, by decide, hD4, hF4⟩ ?_ ?_
      · rintro t σ H5 ht ⟨v7, v9, g, rfl, mt5, gc, bg, hD5, hF5⟩
        refine ⟨_, rfl, _, _, rfl, rfl, _, rfl, _, _, rfl, ⟨by omega, by omega, by omega, by omega⟩, ?_⟩
        refine for_range (lo := 0 + (k : Int) + 1) (n := ((n : Int) - (0 + (k : Int) + 1)).toNat) (fun u σ H5 => ∃ (v7 : Option V) (g : Int), σ = [some (.ref a), some (.int n), some (.ref D), some (.ref L), some (.ref F0), some (.int (0 + (k : Int))), some (.int (R k k)), v7, some (.int g), some (.int (0 + (k : Int) + 1 + (t : Int)))] ∧
          MT H H5 L rs n (mixk k R (El.numer R k) (k + 1 + t) (k + 1 + u)) ∧ El.Gcd (Made n k (k + 1 + t) (k + 1 + u) R) g ∧ B 9000 g ∧ H5 D = some (.lst ((vec n (R k)).map V.int)) ∧ H5 F0 = some (.lst ((((k, B' k, d * B' k k) :: ps).reverse.map fun p => (p.1 : Int)).map V.int)))
          ⟨_, g, rfl, mt5, gc, bg, hD5, hF5⟩ ?_ ?_
        · clear mt5 gc bg hD5 hF5
          rintro u σ H6 hu ⟨v7, g, rfl, mt6, gc, bg, hD6, hF6⟩
          have hi : k + 1 + t < n := by omega
          have hj : k + 1 + u < n := by omega
          obtain ⟨pi, hpi1, hpi2⟩ := mt6.row (k + 1 + t) hi
          have ei : (0 + (k : Int) + 1 + (t : Int)).toNat = k + 1 + t := by omega
          have ej : (0 + (k : Int) + 1 + (u : Int)).toNat = k + 1 + u := by omega
          have ixi : atI (rs.map V.ref) (0 + (k : Int) + 1 + (t : Int)) = some (.ref pi) := at_pos (by omega) (by rw [ei, List.getElem?_map, hpi1]; rfl)
          refine ⟨_, rfl, _, rfl, _, rfl, L, _, _, _, rfl, rfl, SqL.of mt6.at_, ixi, _, rfl, pi, _, _, _, rfl, rfl, SqL.of hpi2, at_pos (by omega) (by rw [ej]; exact vecV_at hj), _, _, rfl, rfl, ?_⟩
          rw [mixk_at]
          refine ⟨wmul (bR k k (Nat.le_refl k) (Nat.le_refl k)) (bR _ _ (by omega) (by omega)) (by decide) (by decide) (by decide), ?_⟩
          refine ⟨_, rfl, _, rfl, D, _, _, _, rfl, rfl, SqL.of hD6, at_pos (by omega) (by rw [ei]; exact vecV_at hi), _, rfl, _, rfl, D, _, _, _, rfl, rfl, SqL.of hD6, at_pos (by omega) (by rw [ej]; exact vecV_at hj), _, _, rfl, rfl, wmul (bR k _ (Nat.le_refl k) (by omega)) (bR k _ (Nat.le_refl k) (by omega)) (by decide) (by decide) (by decide), _, _, rfl, rfl, ?_⟩
          refine ⟨_, rfl, _, rfl, L, _, _, _, rfl, rfl, SqL.of mt6.at_, ixi, _, rfl, pi, _, _, k + 1 + u, rfl, rfl, hpi2, by rw [vec_lenV]; unfold ixN; rw [if_pos (by omega), if_pos (by omega)]; congr 1, ?_⟩
          have mpi := List.mem_of_getElem? hpi1
          have st := (mt6.set (v := El.numer R k (k + 1 + t) (k + 1 + u)) hi hj hpi1).congr fun x y _ _ => mixk_put R (El.numer R k) (by omega) (by omega) x y
          have hD7 : upd H6 pi (.lst (((vec n (mixk k R (El.numer R k) (k + 1 + t) (k + 1 + u) (k + 1 + t))).map V.int).set (k + 1 + u) (.int (El.numer R k (k + 1 + t) (k + 1 + u))))) D = some (.lst ((vec n (R k)).map V.int)) := by
            rw [upd_ne (fun z => dpR (by rw [z]; exact mpi))]
            exact hD6
          have hF7 : upd H6 pi (.lst (((vec n (mixk k R (El.numer R k) (k + 1 + t) (k + 1 + u) (k + 1 + t))).map V.int).set (k + 1 + u) (.int (El.numer R k (k + 1 + t) (k + 1 + u))))) F0 = some (.lst ((((k, B' k, d * B' k k) :: ps).reverse.map fun p => (p.1 : Int)).map V.int)) := by
            rw [upd_ne (fun z => apR (by rw [z]; exact mpi))]
            exact hF6
          have hv7 : ((vec n (mixk k R (El.numer R k) (k + 1 + t) (k + 1 + (u + 1)) (k + 1 + t))).map V.int)[k + 1 + u]? = some (.int (El.numer R k (k + 1 + t) (k + 1 + u))) := by
            rw [vecV_at hj]
            unfold mixk
            rw [if_pos (by omega)]
          obtain ⟨pi', hpi1', hpi2'⟩ := st.row (k + 1 + t) hi
          rw [hpi1] at hpi1'
          cases hpi1'
          have hst := st
          have gc2 : El.Gcd (Made n k (k + 1 + t) (k + 1 + (u + 1)) R) (gI g (El.numer R k (k + 1 + t) (k + 1 + u))) := gc.more fun y => made_put (by omega) (by omega) hi hj y
          have bg2 : B 9000 (gI g (El.numer R k (k + 1 + t) (k + 1 + u))) := by
            by_cases z : El.numer R k (k + 1 + t) (k + 1 + u) = 0
            · rw [z]
              show (((Nat.gcd g.natAbs (0 : Int).natAbs : Nat) : Int)).natAbs < _
              rw [show (0 : Int).natAbs = 0 from rfl, Nat.gcd_zero_right]
              exact bg
            · have h1 : Nat.gcd g.natAbs (El.numer R k (k + 1 + t) (k + 1 + u)).natAbs ≤ (El.numer R k (k + 1 + t) (k + 1 + u)).natAbs := Nat.le_of_dvd (by omega) (Nat.gcd_dvd_right _ _)
              have h2 := (bN (k + 1 + t) (k + 1 + u) (by omega) (by omega)).mono (show 8951 ≤ 9000 by decide)
              exact Nat.lt_of_le_of_lt h1 h2
          refine ⟨_, rfl, rfl, _, rfl, ?_⟩
          by_cases g1 : g = 1
          · refine ifF (ne_F g1) ⟨_, g, rfl, hst, ?_, ?_, hD7, hF7⟩
            · have e : gI g (El.numer R k (k + 1 + t) (k + 1 + u)) = g := by rw [g1]; exact gI_unit _
              rw [e] at gc2
              exact gc2
            · exact bg
          · refine ifT (ne_T g1) ⟨_, rfl, _, rfl, _, rfl, L, _, _, _, rfl, rfl, SqL.of hst.at_, ixi, _, rfl, pi, _, _, _, rfl, rfl, SqL.of hpi2', at_pos (by omega) (by rw [ej]; exact hv7), g, _, rfl, (bN _ _ (by omega) (by omega)).mono (by decide), _, _, rfl, hst, gc2, bg2, hD7, hF7⟩
        · rintro σ H6 ⟨v7, g, rfl, mt6, gc, bg, hD6, hF6⟩
          have en : k + 1 + ((n : Int) - (0 + (k : Int) + 1)).toNat = n := by omega
          rw [en] at mt6 gc
          exact ⟨_, _, g, rfl, mt6.congr (mixk_row _ _ _ _ _), gc.cong made_row, bg, hD6, hF6⟩
      · rintro σ H5 ⟨v7, v9, g, rfl, mt5, gc, bg, hD5, hF5⟩
        have en : k + 1 + ((n : Int) - (0 + (k : Int) + 1)).toNat = n := by omega
        rw [en] at mt5 gc
        have gcN : El.Gcd (El.Nums n k R) g := gc.cong made_n
        have mt5' := mt5.congr (mixk_n _ _ _ _ _)
        obtain ⟨tie', bnd'⟩ := El.Tie.next (run.inv jo.whole.sym) hkB tie out g gcN
        have fin : ∀ H9, MT H H9 L rs n (El.next k R g) → H9 F0 = some (.lst ((((k, B' k, d * B' k k) :: ps).reverse.map fun p => (p.1 : Int)).map V.int)) → ∀ v7 v8 v9 : Option V, ∃ (v2 v5 v6 v7' v8' v9' : Option V) (R' : Nat → El.Row) (S : List Nat) (d : Int) (B' : Nat → El.Row) (ps : List El.Pv), [some (V.ref a), some (.int n), some (.ref D), some (.ref L), some (.ref F0), some (.int (0 + (k : Int))), some (.int (R k k)), v7, v8, v9] = [some (.ref a), some (.int n), v2, some (.ref L), some (.ref F0), v5, v6, v7', v8', v9'] ∧ MT H H9 L rs n R' ∧
            H9 F0 = some (.lst ((ps.reverse.map fun p => (p.1 : Int)).map V.int)) ∧ El.Run M (k + 1) S d B' ps ∧ El.Tie (k + 1) R' B' ∧ El.Out n R' ∧ ∀ i j, k + 1 ≤ i → k + 1 ≤ j → B w (R' i j) := fun H9 mt9 hF9 v7 v8 v9 => by
          refine ⟨_, _, _, v7, v8, v9, El.next k R g, _, _, _, _, rfl, mt9, hF9, .pivot run hkB, tie', El.next_out out, fun i j hi hj => ?_⟩
          by_cases c : i < n ∧ j < n
          · have b1 := bnd' i j (by omega) (by omega)
            have b2 := (run_bound jo.whole jo.bd1 jo.abs jo.bB (.pivot run hkB) (show k + 1 < n by omega)).1 i j
            exact Nat.lt_of_le_of_lt b1 b2
          · rw [El.next_out out i j (by omega)]
            exact Nat.two_pow_pos w
        refine ⟨_, rfl, _, _, rfl, rfl, _, rfl, ?_⟩
        by_cases g1 : 1 < g
        · refine ifT (decide_eq_true g1) ?_
          have en2 : (El.next k R g) = fun a b => if k < a ∧ k < b then (fun a b => El.numer R k a b / g) a b else (fun a b => if k < a ∧ k < b then El.numer R k a b else R a b) a b := by
            funext x y
            unfold El.next
            rw [if_pos g1]
            by_cases c : k < x ∧ k < y
            · rw [if_pos c, if_pos c]
            · rw [if_neg c, if_neg c]
              show R x y = if k < x ∧ k < y then El.numer R k x y else R x y
              rw [if_neg c]
          clear gc mt5
          refine ⟨_, rfl, _, _, rfl, rfl, _, rfl, _, _, rfl, ⟨by omega, by omega, by omega, by omega⟩, ?_⟩
          refine for_range (lo := 0 + (k : Int) + 1) (n := ((n : Int) - (0 + (k : Int) + 1)).toNat) (fun t σ H5 => ∃ (v7 v9 : Option V), σ = [some (.ref a), some (.int n), some (.ref D), some (.ref L), some (.ref F0), some (.int (0 + (k : Int))), some (.int (R k k)), v7, some (.int g), v9] ∧
            MT H H5 L rs n (mixk k (fun a b => if k < a ∧ k < b then El.numer R k a b else R a b) (fun a b => El.numer R k a b / g) (k + 1 + t) (k + 1)) ∧ H5 F0 = some (.lst ((((k, B' k, d * B' k k) :: ps).reverse.map fun p => (p.1 : Int)).map V.int)))
            ⟨_, _, rfl, by rw [Nat.add_zero, mixk_0]; exact mt5', hF5⟩ ?_ ?_
          · clear mt5' hF5
            rintro t σ H5 ht ⟨v7, v9, rfl, mt5, hF5⟩
            refine ⟨_, rfl, _, _, rfl, rfl, _, rfl, _, _, rfl, ⟨by omega, by omega, by omega, by omega⟩, ?_⟩
            refine for_range (lo := 0 + (k : Int) + 1) (n := ((n : Int) - (0 + (k : Int) + 1)).toNat) (fun u σ H5 => ∃ (v7 : Option V), σ = [some (.ref a), some (.int n), some (.ref D), some (.ref L), some (.ref F0), some (.int (0 + (k : Int))), some (.int (R k k)), v7, some (.int g), some (.int (0 + (k : Int) + 1 + (t : Int)))] ∧
              MT H H5 L rs n (mixk k (fun a b => if k < a ∧ k < b then El.numer R k a b else R a b) (fun a b => El.numer R k a b / g) (k + 1 + t) (k + 1 + u)) ∧ H5 F0 = some (.lst ((((k, B' k, d * B' k k) :: ps).reverse.map fun p => (p.1 : Int)).map V.int)))
              ⟨_, rfl, mt5, hF5⟩ ?_ ?_
            · clear mt5 hF5
              rintro u σ H6 hu ⟨v7, rfl, mt6, hF6⟩
              have hi : k + 1 + t < n := by omega
              have hj : k + 1 + u < n := by omega
              obtain ⟨pi, hpi1, hpi2⟩ := mt6.row (k + 1 + t) hi
              have ei : (0 + (k : Int) + 1 + (t : Int)).toNat = k + 1 + t := by omega
              have ej : (0 + (k : Int) + 1 + (u : Int)).toNat = k + 1 + u := by omega
              have ixi : atI (rs.map V.ref) (0 + (k : Int) + 1 + (t : Int)) = some (.ref pi) := at_pos (by omega) (by rw [ei, List.getElem?_map, hpi1]; rfl)
              refine ⟨_, rfl, _, rfl, L, _, _, _, rfl, rfl, SqL.of mt6.at_, ixi, _, rfl, pi, _, _, _, rfl, rfl, SqL.of hpi2, at_pos (by omega) (by rw [ej]; exact vecV_at hj), _, rfl, _, _, rfl, rfl, wdiv (by omega) (bg.mono (by decide)) (by decide) (show 9000 ≤ 9000 by decide), ?_⟩
              refine ⟨_, rfl, _, rfl, L, _, _, _, rfl, rfl, SqL.of mt6.at_, ixi, _, rfl, pi, _, _, k + 1 + u, rfl, rfl, hpi2, by rw [vec_lenV]; unfold ixN; rw [if_pos (by omega), if_pos (by omega)]; congr 1, ?_⟩
              rw [mixk_at, if_pos (by omega)]
              have mpi := List.mem_of_getElem? hpi1
              have st := (mt6.set (v := El.numer R k (k + 1 + t) (k + 1 + u) / g) hi hj hpi1).congr fun x y _ _ => mixk_put _ (fun a b => El.numer R k a b / g) (by omega) (by omega) x y
              refine ⟨_, rfl, st, ?_⟩
              rw [upd_ne (fun z => apR (by rw [z]; exact mpi))]
              exact hF6
            · rintro σ H6 ⟨v7, rfl, mt6, hF6⟩
              rw [en] at mt6
              exact ⟨_, _, rfl, mt6.congr (mixk_row _ _ _ _ _), hF6⟩
          · rintro σ H6 ⟨v7, v9, rfl, mt6, hF6⟩
            rw [en] at mt6
            exact fin H6 ((mt6.congr (mixk_n _ _ _ _ _)).congr fun x y _ _ => by rw [en2]) hF6 _ _ _
        · refine ifF (decide_eq_false g1) (fin H5 (mt5'.congr fun x y _ _ => ?_) hF5 _ _ _)
          unfold El.next
          rw [if_neg g1]
    · rintro σ H2 ⟨v2, v5, v6, v7, v8, v9, R, S, d, B', ps, rfl, mt2, hF2, run, _⟩
      exact ⟨_, rfl, q1 _ _ _ _ _ _ mt2.same run hF2⟩
end
end P09
namespace P09
open PySem PySem.Spec PyProof.Rows L2 SX EX WK
section
variable {P : Program} {w : World} {K : PySem.W.Frag} {mg : Str → Option Value} {base : Heap} {f : Addr} {fd : FuncData} {cF cR : Addr}
def spLawV (K : PySem.W.Frag) : Sp := fun vs H Q _ => ∃ (a : Addr) (v : V) (n : Nat) (M : Nat → Nat → Int) (x : Nat → Int), vs = [.ref a, v, v] ∧ LTab H a n M ∧ Sn K H v (tv n x) ∧ n ≤ 16 ∧ (∀ i j, i < n → j < n → B 9000 (M i j)) ∧ (∀ i, i < n → B 60000 (x i)) ∧ ∀ H', Same H H' → Q (.int (El.Q n M x)) H'
abbrev s__law_value : Stmt := top 53
abbrev N__law_value : List Str := ["table", "one", "two", "total", "i"]
theorem sc__law_value : FnScope N__law_value ["table", "one", "two"] (defScope s__law_value) := ⟨rfl, rfl, rfl, by decide +kernel, rfl, by decide +kernel, by decide +kernel⟩
theorem ok__law_value (F : Fun K "_law_value" "_law_value" s__law_value f fd) (T : Txt mg) (C__law_dot : Cal P w K mg base 1 "_law_dot" ["one", "two"] (spDot K)) : FnOk P w K mg base CX0 2 f fd ["table", "one", "two"] (spLawV K) := by
  refine F.ok sc__law_value (fun vs H Q E h => ?_) (fun cdv A outer s H vs Q E hr h => ?_)
  · obtain ⟨a, v, n, M, x, rfl, _⟩ := h
    rfl
  obtain ⟨a, v, n, M, x, rfl, ht, hv, hn, hM, hx, q⟩ := h
  refine ⟨_, (pss_cons (ps_set (i := 3) sc__law_value.nd rfl (Or.inl rfl) pe_int)
  (pss_cons (ps_for PassesOwn.never rfl (pi_range1 (by rfl) T.b_range (pa_cons (pe_callB call_len_seq (by rfl) T.b_len PySem.boot_len (pa_cons (pv 0) pa_nil)) pa_nil)) (pg_name (i := 4) sc__law_value.nd rfl (Or.inl rfl)) (pss_one (ps_if (pt_cmpR op_ne (pe_ix ix_or (pv 1) (pv 4) (fun _ _ => rfl)) pe_int (nomark _)) (pss_one (ps_set (i := 3) sc__law_value.nd rfl (Or.inl rfl) (pe_op op_add (pv 3) (pe_op op_mulW (pe_ix ix_or (pv 1) (pv 4) (fun _ _ => rfl)) (pe_cal C__law_dot (hr.mono (by omega)) rfl (pa_cons (pe_ix ix_list (pv 0) (pv 4) (fun _ _ => rfl)) (pa_cons (pv 2) pa_nil))))))) pss_nil)))
  (pss_one (ps_ret (pv 3))))), ?_⟩
  have ht' := ht
  obtain ⟨kk, p, rfl, hp⟩ := sn_ints hv
  obtain ⟨rs, ha, hl, row⟩ := ht'
  have hlen : (rs.map V.ref).length = n := by rw [List.length_map, hl]
  refine ⟨_, rfl, a, _, rfl, .inl (SqL.of ha), (n : Int), by rw [hlen], by omega, by omega, ?_⟩
  refine for_range (lo := 0) (n := n) (fun i σ H1 => ∃ v4 : Option V, σ = [some (.ref a), some (.ref p), some (.ref p), some (.int (S i fun i => x i * S n fun j => M i j * x j)), v4] ∧ Same H H1) ⟨none, rfl, fun _ _ h => h⟩ ?_ ?_
  · rintro i σ H1 hi ⟨v4, rfl, sH⟩
    have e0 : (0 + (i : Int)).toNat = i := by omega
    have hp1 := sq_same sH hp
    refine ⟨_, rfl, _, rfl, ix_any hp1 (ixv hi) ⟨rfl, _, rfl, ?_⟩⟩
    by_cases c : x i = 0
    · refine ifF (ne_F c) ⟨some (.int (0 + (i : Int))), ?_, sH⟩
      rw [S_succ, c, Int.zero_mul, Int.add_zero]
      rfl
    · obtain ⟨r, h1, h2⟩ := row i hi
      refine ifT (ne_T c) ⟨_, rfl, _, rfl, _, rfl, ix_any hp1 (ixv hi) ?_⟩
      refine ⟨_, rfl, _, rfl, a, _, _, _, rfl, rfl, SqL.of (sH _ _ ha), at_pos (by omega) (by rw [e0, List.getElem?_map, h1]; rfl), _, rfl, .ref r, .ref p, n, 9000, 60000, M i, x, rfl, .lst (sH _ _ h2) ((FzAll.of_ints _).sn), hv.same sH, by omega, fun j hj => hM i j hi hj, hx, by decide, by decide, by decide, fun H2 s2 => ?_⟩
      refine ⟨_, _, rfl, rfl, wmul (hx i hi) (BS (k := 69000) (c := 10) (fun j hj => ?_) (by omega)) (by decide) (by decide) (by decide), _, _, rfl, rfl, some (.int (0 + (i : Int))), ?_, sH.trans s2⟩
      · exact (P09.B.mul (m := 9000) (n := 60000) (hM i j hi hj) (hx j hj)).mono (Nat.le_of_ble_eq_true rfl)
      · rw [S_succ]
        rfl
  · rintro σ H1 ⟨v4, rfl, sH⟩
    refine ⟨_, rfl, ?_⟩
    rw [S_Q]
    exact q H1 sH
end
end P09
namespace P09
open PySem PySem.Spec PyProof.Rows L2 SX EX WK
theorem ixa {m k : Nat} {x : Nat → Int} {z : Int} (h0 : 0 ≤ z) (e : z.toNat = k) (hk : k < m) : atI ((vec m x).map V.int) z = some (.int (x k)) := at_pos h0 (by rw [e]; exact vecV_at hk)
theorem B60 {x : Int} (h : -1000000000000000000 < x ∧ x < 1000000000000000000) : B 60 x := by
  show x.natAbs < 2 ^ 60
  omega
theorem md {x m : Int} (hm : 0 < m) : 0 ≤ x % m ∧ x % m < m := ⟨Int.emod_nonneg _ (by omega), Int.emod_lt_of_pos _ hm⟩
theorem cut_head {m a : Nat} {y : Nat → Int} {z : Int} (e : z = (a : Int)) (h : a ≤ m) : cutV ((vec m y).map V.int) none (some z) = (vec a y).map V.int := by
  unfold cutV
  rw [vec_lenV, sIx_of e h]
  have e0 : HT.sIx m 0 none = 0 := rfl
  rw [e0]
  refine List.ext_getElem? fun i => ?_
  by_cases hi : i < a
  · rw [vecV_at hi, List.getElem?_take, if_pos (by omega), List.drop_zero, vecV_at (by omega)]
  · rw [List.getElem?_eq_none (by rw [List.length_take, List.length_drop, vec_lenV]; omega), List.getElem?_eq_none (by rw [vec_lenV]; omega)]
theorem szs {zs : List Int} (h : zs.all (fun z => decide (0 < z) && decide (z.natAbs < 2 ^ 2000)) = true) : ∀ z ∈ zs, 0 < z ∧ z.natAbs < 2 ^ 2000 := fun z hz => by
  have := List.all_eq_true.mp h z hz
  rw [Bool.and_eq_true] at this
  exact ⟨of_decide_eq_true this.1, of_decide_eq_true this.2⟩
theorem none_of {H H' : Hp} {r : Addr} (s : Same H H') (h : H' r = none) : H r = none := by
  cases e : H r with
  | none => rfl
  | some o => rw [s _ _ e] at h; cases h
theorem dg {ns zs : List Int} {i : Nat} {z : Int} (d : Dig ns zs) (e : zs[i]? = some z) : ∃ n, (ns.map V.int)[i]? = some (.int n) ∧ 0 ≤ n ∧ n < z := by
  obtain ⟨n, h1, h2, h3⟩ := d.get e
  exact ⟨n, at_int h1, h2, h3⟩
theorem pick {cs : List Int} {d : Int} (h0 : 0 ≤ d) (h1 : d < (cs.length : Nat)) : ∃ x, x ∈ cs ∧ (cs.map V.int)[d.toNat]? = some (.int x) := by
  have hl : d.toNat < cs.length := by omega
  exact ⟨cs[d.toNat], List.getElem_mem hl, at_int (List.getElem?_eq_getElem hl)⟩
/-- between two states: the rows below i are done, of the row i the first j -/
def mix (f g : Nat → Nat → Int) (i j : Nat) : Nat → Nat → Int := fun a b => if a < i ∨ (a = i ∧ b < j) then g a b else f a b
theorem mix_put (f g : Nat → Nat → Int) (i j : Nat) : ∀ a b, put (mix f g i j) i j (g i j) a b = mix f g i (j + 1) a b := fun a b => by
  unfold put mix
  by_cases h : a = i ∧ b = j
  · rw [if_pos h, if_pos (.inr ⟨h.1, by omega⟩), h.1, h.2]
  · rw [if_neg h]
    by_cases h2 : a < i ∨ (a = i ∧ b < j)
    · rw [if_pos h2, if_pos (by omega)]
    · rw [if_neg h2, if_neg (by omega)]
theorem mix_at (f g : Nat → Nat → Int) (i j : Nat) : mix f g i j i j = f i j := by
  unfold mix
  rw [if_neg (by omega)]
theorem mix_row (f g : Nat → Nat → Int) (n i : Nat) : ∀ a b, a < n → b < n → mix f g i n a b = mix f g (i + 1) 0 a b := fun a b ha hb => by
  unfold mix
  by_cases h : a < i + 1
  · rw [if_pos (by omega), if_pos (by omega)]
  · rw [if_neg (by omega), if_neg (by omega)]
/-- a row and its weight -/
abbrev RZ := (Nat → Int) × Int
def wsz (ps : List RZ) (i j : Nat) : Int := (ps.map fun p => p.2 * p.1 i * p.1 j).sum
theorem wsz_snoc {ps : List RZ} {k : Nat} {p : RZ} (h : ps[k]? = some p) (i j : Nat) : wsz (ps.take (k + 1)) i j = wsz (ps.take k) i j + p.2 * p.1 i * p.1 j := by
  unfold wsz
  rw [take_one h, List.map_append, List.sum_append]
  simp
def LT (H : Hp) (r : Addr) (xs : List V) : Prop := H r = some (.lst xs) ∨ H r = some (.tup xs)
theorem LT.same {H H' : Hp} {r : Addr} {xs : List V} (h : LT H r xs) (s : Same H H') : LT H' r xs := h.imp (s _ _) (s _ _)
/-- a pair: a row, as a list or a tuple, and a weight of at most wb bits -/
def PrR (n wb : Nat) : Hp → V → RZ → Prop := fun H v z => ∃ q r : Addr, v = .ref q ∧ H q = some (.tup [.ref r, .int z.2]) ∧ LT H r ((vec n z.1).map V.int) ∧ B wb z.2 ∧ ∀ i, i < n → B 17 (z.1 i)
def PrD (D : Addr) (n wb : Nat) : Hp → V → RZ → Prop := fun H v z => ∃ q r : Addr, v = .ref q ∧ q ≠ D ∧ r ≠ D ∧ H q = some (.tup [.ref r, .int z.2]) ∧ LT H r ((vec n z.1).map V.int) ∧ B wb z.2 ∧ ∀ i, i < n → B 17 (z.1 i)
theorem PrD.pr {D : Addr} {n wb : Nat} {H : Hp} {v : V} {z : RZ} (h : PrD D n wb H v z) : PrR n wb H v z := let ⟨q, r, h1, _, _, h2, h3, h4, h5⟩ := h; ⟨q, r, h1, h2, h3, h4, h5⟩
theorem stb_PrD {D : Addr} {n wb : Nat} : StbD D (PrD D n wb) := fun _ _ _ _ _ e ⟨q, r, h1, h2, h3, h4, h5, h6, h7⟩ => ⟨q, r, h1, h2, h3, e _ _ h2 h4, h5.imp (e _ _ h3) (e _ _ h3), h6, h7⟩
/-- a list of pairs -/
def PsZ (n wb : Nat) (H : Hp) (a : Addr) (ps : List RZ) : Prop := ∃ vs, H a = some (.lst vs) ∧ Rs (PrR n wb) H vs ps
theorem PsZ.same {n wb : Nat} {H H' : Hp} {a : Addr} {ps : List RZ} (h : PsZ n wb H a ps) (s : Same H H') : PsZ n wb H' a ps := by
  obtain ⟨vs, h1, h2, h3⟩ := h
  exact ⟨vs, s _ _ h1, h2, fun i v z a b => let ⟨q, r, e1, e2, e3, e4, e5⟩ := h3 i v z a b; ⟨q, r, e1, s _ _ e2, e3.same s, e4, e5⟩⟩
theorem or_ix {K : PySem.W.Frag} {H : Hp} {r : Addr} {n i : Nat} {x : Nat → Int} {Q : VK} (h : LT H r ((vec n x).map V.int)) (hi : i < n) (q : Q (.int (x i)) H) : rIxL K (.ref r) (.int (0 + (i : Int))) H Q ∨ rIxT K (.ref r) (.int (0 + (i : Int))) H Q := by
  rcases h with h | h
  · exact .inl ⟨r, _, _, _, rfl, rfl, SqL.of h, ixv hi, q⟩
  · exact .inr ⟨r, _, _, _, rfl, rfl, SqT.of h, ixv hi, q⟩
section
variable {P : Program} {w : World} {K : PySem.W.Frag} {mg : Str → Option Value} {base : Heap} {f : Addr} {fd : FuncData} {cF cR : Addr}
def spTab (K : PySem.W.Frag) : Sp := fun vs H Q _ => ∃ (a : Addr) (n wb : Nat) (ps : List RZ), vs = [.int n, .ref a] ∧ PsZ n wb H a ps ∧ 0 < wb ∧ wb ≤ 100 ∧ n ≤ 16 ∧ ∀ r H', Same H H' → LTab H' r n (wsz ps) → Q (.ref r) H'
abbrev s__law_table : Stmt := top 52
abbrev N__law_table : List Str := ["size", "pairs", "i", "j", "table", "pair"]
theorem sc__law_table : FnScope N__law_table ["size", "pairs"] (defScope s__law_table) := ⟨rfl, rfl, rfl, by decide +kernel, rfl, by decide +kernel, by decide +kernel⟩
theorem ok__law_table (F : Fun K "_law_table" "_law_table" s__law_table f fd) (T : Txt mg) : FnOk P w K mg base CX0 1 f fd ["size", "pairs"] (spTab K) := by
  refine F.ok sc__law_table (fun vs H Q E h => ?_) (fun cdv A outer s H vs Q E hr h => ?_)
  · obtain ⟨a, n, wb, ps, rfl, _⟩ := h
    rfl
  obtain ⟨a, n, wb, ps, rfl, hps, wb0, wb1, hn, q⟩ := h
  refine ⟨_, (pss_cons (ps_setLc (i := 4) (own := [("i", 2)]) (g := gName 2) (tt := tYes) (by rfl) sc__law_table.nd rfl rfl (sw_true rfl rfl rfl (by decide +kernel)) (pi_range1 (by rfl) T.b_range (pa_cons (pv 0) pa_nil)) (blkOk_by (N := N__law_table) (sc := defScope s__law_table) (by decide +kernel)) (fun _ _ _ _ _ => (pg_name (i := 2) sc__law_table.nd rfl (Or.inl rfl))) (fun _ _ _ _ _ => pts_nil) (fun _ _ _ _ _ => (pe_lc (own := [("j", 3)]) (g := gName 3) (tt := tYes) (by rfl) sc__law_table.nd (pi_range1 (by rfl) T.b_range (pa_cons (pv 0) pa_nil)) (blk_nest (N := N__law_table) (sc0 := defScope s__law_table) rfl (by decide +kernel)) (fun _ _ _ _ _ => (pg_name (i := 3) sc__law_table.nd rfl (Or.inl rfl))) (fun _ _ _ _ _ => pts_nil) (fun _ _ _ _ _ => pe_int))))
  (pss_cons (ps_for PassesOwn.never rfl (pi_list (pv 1)) (pg_name (i := 5) sc__law_table.nd rfl (Or.inl rfl)) (pss_one (ps_for PassesOwn.never rfl (pi_range1 (by rfl) T.b_range (pa_cons (pv 0) pa_nil)) (pg_name (i := 2) sc__law_table.nd rfl (Or.inl rfl)) (pss_one (ps_for PassesOwn.never rfl (pi_range1 (by rfl) T.b_range (pa_cons (pv 0) pa_nil)) (pg_name (i := 3) sc__law_table.nd rfl (Or.inl rfl)) (pss_one (ps_asg (pe_op op_add (pe_ix ix_list /-?-/ (pe_ix ix_list (pv 4) (pv 2) (fun _ _ => rfl)) (pv 3) (fun _ _ => rfl)) (pe_op op_mulW (pe_op op_mulW (pe_ix ix_tup (pv 5) pe_int (fun _ _ => rfl)) (pe_ix ix_or (pe_ix ix_tup (pv 5) pe_int (fun _ _ => rfl)) (pv 2) (fun _ _ => rfl))) (pe_ix ix_or (pe_ix ix_tup (pv 5) pe_int (fun _ _ => rfl)) (pv 3) (fun _ _ => rfl)))) (pg_sub (pe_ix ix_list (pv 4) (pv 2) (fun _ _ => rfl)) (pv 3) set_list))))))))
  (pss_one (ps_ret (pv 4))))), ?_⟩
  obtain ⟨vs, ha, hl, hrow⟩ := hps
  refine ⟨_, rfl, (n : Int), rfl, by omega, by omega, fun D hD => ?_⟩
  refine ⟨fun i m H' => m = n - i ∧ i ≤ n ∧ ∃ rs, ZT H H' D rs n i, ⟨_, rfl, Nat.zero_le _, [], new_same hD _, upd_same, rfl, List.nodup_nil, by simp, by simp, by simp⟩, ?_⟩
  rintro i m H1 ⟨rfl, hi, rs, z⟩
  by_cases hlt : i < n
  · refine .inr ⟨by show i < (n : Int).toNat; omega, fun H' => ∃ rs, ZT H H' D rs n (i + 1), fun H' h' => ⟨_, by omega, rfl, hlt, h'⟩, ?_⟩
    rintro x H2 ⟨rfl, rfl⟩
    refine ⟨rfl, lc_yes ⟨_, rfl, (n : Int), rfl, by omega, by omega, fun D2 hD2 => ?_⟩⟩
    refine lc_m (walk_range (lo := 0) (n := n)) RI (stb_RI (K := K)) (List.range n) (by rw [List.length_range]) (by rw [List.length_range]; omega) hD2 (fun _ _ => trivial) (fun _ _ _ _ => ys_fn) (fun _ => (0 : Int)) (fun c j x2 H3 H4 hc s3 s4 y A B hA => ?_) (fun H3 l s3 hl3 rs3 => ?_)
    · rw [y.2]
      exact ⟨rfl, lc_yes (hA _ _ (fun _ _ h => h) rfl)⟩
    · have hz := zero_vec (m := n) rs3
      refine ⟨rs.map V.ref, s3 _ _ z.at_, sizes (by rw [List.length_map, z.len]; omega), rs ++ [D2], ?_⟩
      exact z.snoc hD s3 hD2 (by rw [hl3, hz])
  · have ei : i = n := by omega
    subst ei
    refine .inl ⟨by show (i : Int).toNat ≤ i; omega, ?_⟩
    clear hlt
    have mt := z.mt
    refine ⟨_, rfl, a, rfl, ⟨_, SqL.of (mt.same _ _ ha)⟩, for_list (K := K) (a := a) (xs := vs) (fun k σ H' => ∃ v2 v3 v5 : Option V, σ = [some (.int i), some (.ref a), v2, v3, some (.ref D), v5] ∧ MT H H' D rs i (wsz (ps.take k))) ⟨none, none, none, rfl, mt⟩ (fun k σ H' _ ⟨_, _, _, _, s⟩ => SqL.of (s.same _ _ ha)) ?_ ?_⟩
    · rintro k x σ H2 hx ⟨v2, v3, v5, rfl, mt2⟩
      obtain ⟨p, hp⟩ : ∃ p, ps[k]? = some p := ⟨_, List.getElem?_eq_getElem (by have := (List.getElem?_eq_some_iff.mp hx).1; omega)⟩
      obtain ⟨r1, r2, rfl, hr2, hr3, b1, b17⟩ := hrow k x p hx hp
      refine ⟨_, rfl, (i : Int), rfl, by omega, by omega, for_range (lo := 0) (n := i) (fun r σ H' => ∃ v2 v3 : Option V, σ = [some (.int i), some (.ref a), v2, v3, some (.ref D), some (.ref r1)] ∧ MT H H' D rs i (mix (wsz (ps.take k)) (wsz (ps.take (k + 1))) r 0)) ⟨v2, v3, rfl, mt2.congr fun a b _ _ => by unfold mix; rw [if_neg (by omega)]⟩ ?_ ?_⟩
      · rintro r σ H3 hr ⟨v2, v3, rfl, mt3⟩
        refine ⟨_, rfl, (i : Int), rfl, by omega, by omega, for_range (lo := 0) (n := i) (fun c σ H' => ∃ v3 : Option V, σ = [some (.int i), some (.ref a), some (.int (0 + (r : Int))), v3, some (.ref D), some (.ref r1)] ∧ MT H H' D rs i (mix (wsz (ps.take k)) (wsz (ps.take (k + 1))) r c)) ⟨v3, rfl, mt3⟩ ?_ ?_⟩
        · rintro c σ H4 hc ⟨v3, rfl, mt4⟩
          have hri : r < i := by omega
          have hci : c < i := by omega
          obtain ⟨pr, hpr1, hpr2⟩ := mt4.row r hri
          have er : (0 + (r : Int)).toNat = r := by omega
          have ix : atI (rs.map V.ref) (0 + (r : Int)) = some (.ref pr) := at_pos (by omega) (by rw [er, List.getElem?_map, hpr1]; rfl)
          have t1 := SqT.of (K := K) (mt4.same _ _ hr2)
          have t2 := hr3.same mt4.same
          refine ⟨_, rfl, _, rfl, D, _, _, _, rfl, rfl, SqL.of mt4.at_, ix, _, rfl, pr, _, _, _, rfl, rfl, SqL.of hpr2, ixv hci, ?_⟩
          refine ⟨_, rfl, r1, _, 1, _, rfl, rfl, t1, at_pos (by decide) rfl, _, rfl, r1, _, 0, _, rfl, rfl, t1, at_pos (by decide) rfl, _, rfl, or_ix t2 hri ⟨_, _, rfl, rfl, wmul b1 (b17 r hri) wb0 (by decide) (by omega), ?_⟩⟩
          refine ⟨_, rfl, r1, _, 0, _, rfl, rfl, t1, at_pos (by decide) rfl, _, rfl, or_ix t2 hci ⟨_, _, rfl, rfl, wmul (P09.B.mul b1 (b17 r hri)) (b17 c hci) (by omega) (by decide) (by omega), _, _, rfl, rfl, ?_⟩⟩
          refine ⟨_, rfl, _, rfl, D, _, _, _, rfl, rfl, SqL.of mt4.at_, ix, _, rfl, pr, _, _, c, rfl, rfl, hpr2, by rw [vec_lenV]; unfold ixN; rw [if_pos (by omega), if_pos (by omega)]; congr 1; omega, some (.int (0 + (c : Int))), rfl, ?_⟩
          have st := mt4.set (v := mix (wsz (ps.take k)) (wsz (ps.take (k + 1))) r c r c + p.2 * p.1 r * p.1 c) hri hci hpr1
          refine st.congr fun x y _ _ => ?_
          rw [mix_at, ← wsz_snoc hp]
          exact mix_put _ _ _ _ _ _
        · rintro σ H4 ⟨v3, rfl, mt4⟩
          exact ⟨some (.int (0 + (r : Int))), v3, rfl, mt4.congr (mix_row _ _ _ _)⟩
      · rintro σ H3 ⟨v2, v3, rfl, mt3⟩
        refine ⟨v2, v3, some (.ref r1), rfl, mt3.congr fun x y hx hy => ?_⟩
        unfold mix
        rw [if_pos (by omega)]
    · rintro σ H2 ⟨v2, v3, v5, rfl, mt2⟩
      rw [hl, List.take_length] at mt2
      exact ⟨_, rfl, q D H2 mt2.same mt2.ltab⟩
end
end P09
namespace P09
open PySem PySem.Spec PyProof.Rows L2 SX EX WK
/-- a drawn line -/
def Ln (H : Hp) (p : Addr) (m : Nat) (y : Nat → Int) : Prop := H p = some (.lst ((vec m y).map V.int)) ∧ ∀ i, i < m → 0 ≤ y i ∧ y i < 1000
theorem Ln.same {H H' : Hp} {p : Addr} {m : Nat} {y : Nat → Int} (h : Ln H p m y) (e : Same H H') : Ln H' p m y := ⟨e _ _ h.1, h.2⟩
theorem B17 {x : Int} (h : -100000 < x ∧ x < 100000) : B 17 x := by
  show x.natAbs < 2 ^ 17
  omega
theorem B30 {x : Int} (h : -1000000000 < x ∧ x < 1000000000) : B 30 x := by
  show x.natAbs < 2 ^ 30
  omega
section
variable {P : Program} {w : World} {K : PySem.W.Frag} {mg : Str → Option Value} {base : Heap} {f : Addr} {fd : FuncData} {cF cR : Addr}
def spDrow : Sp := fun vs H Q _ => ∃ (p : Addr) (n : Nat) (k : Int) (z : Nat → Int), vs = [.int n, .int k, .ref p] ∧ Ln H p 12 z ∧ n ≤ 10 ∧ ∀ r H' x, H r = none → Same H H' → H' r = some (.lst ((vec n x).map V.int)) → (∀ i, i < n → B 17 (x i)) → Q (.ref r) H'
theorem b2_le (p : Bool) : 0 ≤ b2 p ∧ b2 p ≤ 1 := by cases p <;> decide
theorem b2_01 (p : Bool) : b2 p = 0 ∨ b2 p = 1 := by cases p <;> simp [b2]
theorem bi_le (p : Bool) : 0 ≤ (if p = true then (1 : Int) else 0) ∧ (if p = true then (1 : Int) else 0) ≤ 1 := by cases p <;> decide
theorem mulb {x b : Int} (hx : -50000 < x ∧ x < 50000) (hb : b = 0 ∨ b = 1) : -50000 < x * b ∧ x * b < 50000 := by
  rcases hb with h | h
  · rw [h, Int.mul_zero]
    omega
  · rw [h, Int.mul_one]
    exact hx
theorem bi01 (p : Bool) : (if p = true then (1 : Int) else 0) = 0 ∨ (if p = true then (1 : Int) else 0) = 1 := by cases p <;> simp
abbrev s__law_draw_row : Stmt := top 55
abbrev N__law_draw_row : List Str := ["size", "kind", "row", "small", "one", "two", "k"]
theorem sc__law_draw_row : FnScope N__law_draw_row ["size", "kind", "row"] (defScope s__law_draw_row) := ⟨rfl, rfl, rfl, by decide +kernel, rfl, by decide +kernel, by decide +kernel⟩
theorem ok__law_draw_row (F : Fun K "_law_draw_row" "_law_draw_row" s__law_draw_row f fd) (T : Txt mg) : FnOk P w K mg base CX0 1 f fd ["size", "kind", "row"] spDrow := by
  refine F.ok sc__law_draw_row (fun vs H Q E h => ?_) (fun cdv A outer s H vs Q E hr h => ?_)
  · obtain ⟨p, n, k, z, rfl, _⟩ := h
    rfl
  obtain ⟨p, n, k, z, rfl, hp, hn, q⟩ := h
  refine ⟨_, (pss_cons (ps_setLc (i := 3) (own := [("k", 6)]) (g := gName 6) (tt := tYes) (by rfl) sc__law_draw_row.nd rfl rfl (sw_true rfl rfl rfl (by decide +kernel)) (pi_range1 (by rfl) T.b_range (pa_cons (pv 0) pa_nil)) (blkOk_by (N := N__law_draw_row) (sc := defScope s__law_draw_row) (by decide +kernel)) (fun _ _ _ _ _ => (pg_name (i := 6) sc__law_draw_row.nd rfl (Or.inl rfl))) (fun _ _ _ _ _ => pts_nil) (fun _ _ _ _ _ => (pe_op op_sub (pe_ix (ix_listK (K := K) rfl) (pv 2) (pv 6) (fun _ _ => rfl)) pe_int)))
  (C8.pss_cut (ps_if (PW.pt (pw_and (pt_cmpR op_gt (pv 0) pe_int (nomark _)) (pw_and1 (pt_cmpR op_eq (pv 1) pe_int (nomark _))))) (pss_cons (ps_set (i := 4) sc__law_draw_row.nd rfl (Or.inr rfl) (pe_op op_mod (pe_callTy call_int1 (by rfl) T.b_int (by decide +kernel) (pa_cons (pe_ix ix_list (pv 2) pe_int (fun _ _ => rfl)) pa_nil)) (pv 0)))
  (pss_cons (ps_set (i := 5) sc__law_draw_row.nd rfl (Or.inr rfl) (pe_op op_mod (pe_callTy call_int1 (by rfl) T.b_int (by decide +kernel) (pa_cons (pe_op op_add (pe_op op_add (pv 4) pe_int) (pe_op op_mod (pe_callTy call_int1 (by rfl) T.b_int (by decide +kernel) (pa_cons (pe_ix ix_list (pv 2) pe_int (fun _ _ => rfl)) pa_nil)) (pe_op op_sub (pv 0) pe_int))) pa_nil)) (pv 0)))
  (pss_one (ps_ret (pe_lc (own := [("k", 6)]) (g := gName 6) (tt := tYes) (by rfl) sc__law_draw_row.nd (pi_range1 (by rfl) T.b_range (pa_cons (pv 0) pa_nil)) (blkOk_by (N := N__law_draw_row) (sc := defScope s__law_draw_row) (by decide +kernel)) (fun _ _ _ _ _ => (pg_name (i := 6) sc__law_draw_row.nd rfl (Or.inl rfl))) (fun _ _ _ _ _ => pts_nil) (fun _ _ _ _ _ => (pe_op op_sub (pe_callTy call_int1 (by rfl) T.b_int (by decide +kernel) (pa_cons (pe_cmpR op_eq (pv 6) (pv 4) (nomark _)) pa_nil)) (pe_callTy call_int1 (by rfl) T.b_int (by decide +kernel) (pa_cons (pe_cmpR op_eq (pv 6) (pv 5) (nomark _)) pa_nil))))))))) pss_nil)
  (C8.pss_cut (ps_if (PW.pt (pw_and (pt_cmpR op_gt (pv 0) pe_int (nomark _)) (pw_and1 (pt_cmpR op_eq (pv 1) pe_int (nomark _))))) (pss_one (ps_ret (pe_op op_cat (pe_slice sl_list (pv 3) po_none (po_some (pe_op op_sub (pv 0) pe_int))) (pe_lst (pa_cons (pe_ix ix_list (pv 3) pe_int (fun _ _ => rfl)) pa_nil))))) pss_nil)
  (pss_cons (ps_if (pt_cmpR op_eq (pv 1) pe_int (nomark _)) (pss_one (ps_ret (pe_ifExp (pt_cmpR op_lt (pv 0) pe_int (nomark _)) (pe_lc (own := [("k", 6)]) (g := gName 6) (tt := tYes) (by rfl) sc__law_draw_row.nd (pi_range1 (by rfl) T.b_range (pa_cons (pv 0) pa_nil)) (blkOk_by (N := N__law_draw_row) (sc := defScope s__law_draw_row) (by decide +kernel)) (fun _ _ _ _ _ => (pg_name (i := 6) sc__law_draw_row.nd rfl (Or.inl rfl))) (fun _ _ _ _ _ => pts_nil) (fun _ _ _ _ _ => (pe_op op_add (pe_op op_mul (pe_op op_sub (pe_ix (ix_listK (K := K) rfl) (pv 2) (pv 6) (fun _ _ => rfl)) pe_int) pe_int) (pe_ix (ix_listK (K := K) rfl) (pv 2) (pe_op op_add (pv 6) pe_int) (fun _ _ => rfl))))) (pv 3)))) pss_nil)
  (pss_cons (ps_if (pt_cmpR op_eq (pv 1) pe_int (nomark _)) (pss_one (ps_ret (pe_lc (own := [("k", 6)]) (g := gName 6) (tt := tYes) (by rfl) sc__law_draw_row.nd (pi_range1 (by rfl) T.b_range (pa_cons (pv 0) pa_nil)) (blkOk_by (N := N__law_draw_row) (sc := defScope s__law_draw_row) (by decide +kernel)) (fun _ _ _ _ _ => (pg_name (i := 6) sc__law_draw_row.nd rfl (Or.inl rfl))) (fun _ _ _ _ _ => pts_nil) (fun _ _ _ _ _ => (pe_op op_mul (pe_op op_sub (pe_ix (ix_listK (K := K) rfl) (pv 2) (pv 6) (fun _ _ => rfl)) pe_int) (pe_callTy call_int1 (by rfl) T.b_int (by decide +kernel) (pa_cons (pe_cmpR op_ge (pe_ix (ix_listK (K := K) rfl) (pv 2) (pv 6) (fun _ _ => rfl)) pe_int (nomark _)) pa_nil))))))) pss_nil)
  (C8.pss_cut (ps_if (PW.pt (pw_and (pt_cmpR op_gt (pv 0) pe_int (nomark _)) (pw_and1 (pt_cmpR op_eq (pv 1) pe_int (nomark _))))) (pss_one (ps_ret (pe_lc (own := [("k", 6)]) (g := gName 6) (tt := tYes) (by rfl) sc__law_draw_row.nd (pi_range1 (by rfl) T.b_range (pa_cons (pv 0) pa_nil)) (blkOk_by (N := N__law_draw_row) (sc := defScope s__law_draw_row) (by decide +kernel)) (fun _ _ _ _ _ => (pg_name (i := 6) sc__law_draw_row.nd rfl (Or.inl rfl))) (fun _ _ _ _ _ => pts_nil) (fun _ _ _ _ _ => (pe_op op_mul (pe_callTy call_int1 (by rfl) T.b_int (by decide +kernel) (pa_cons (pe_cmpR op_eq (pv 6) (pe_op op_mod (pe_callTy call_int1 (by rfl) T.b_int (by decide +kernel) (pa_cons (pe_ix (ix_listK (K := K) rfl) (pv 2) pe_int (fun _ _ => rfl)) pa_nil)) (pv 0)) (nomark _)) pa_nil)) (pe_op op_add pe_int (pe_op op_mod (pe_callTy call_int1 (by rfl) T.b_int (by decide +kernel) (pa_cons (pe_ix (ix_listK (K := K) rfl) (pv 2) pe_int (fun _ _ => rfl)) pa_nil)) pe_int))))))) pss_nil)
  (C8.pss_cut (ps_if (PW.pt (pw_and (pt_cmpR op_eq (pv 1) pe_int (nomark _)) (pw_and1 (pt_cmpR op_eq (pe_ix ix_list (pv 2) pe_int (fun _ _ => rfl)) pe_int (nomark _))))) (pss_one (ps_ret (pe_lc (own := [("k", 6)]) (g := gName 6) (tt := tYes) (by rfl) sc__law_draw_row.nd (pi_range1 (by rfl) T.b_range (pa_cons (pv 0) pa_nil)) (blkOk_by (N := N__law_draw_row) (sc := defScope s__law_draw_row) (by decide +kernel)) (fun _ _ _ _ _ => (pg_name (i := 6) sc__law_draw_row.nd rfl (Or.inl rfl))) (fun _ _ _ _ _ => pts_nil) (fun _ _ _ _ _ => pe_int)))) pss_nil)
  (pss_one (ps_ret (pv 3)))))))))), ?_⟩
  refine ⟨_, rfl, (n : Int), rfl, by omega, by omega, fun D hD => ?_⟩
  refine lc_m (walk_range (lo := 0) (n := n)) RI (stb_RI (K := K)) (List.range n) (by rw [List.length_range]) (by rw [List.length_range]; omega) hD (fun _ _ => trivial) (fun _ _ _ _ => ys_fn) (fun k => z k - 3) (fun c i x H1 H2 hc s1 s2 yl A B hA => ?_) (fun H1 l s1 hl1 rs => ?_)
  · obtain ⟨hc1, rfl⟩ := in_range hc
    rw [yl.2]
    exact ⟨rfl, lc_yes ⟨_, rfl, _, rfl, p, _, _, _, rfl, rfl, SqL.of (s2 _ _ hp.1), ixv (by omega), _, _, rfl, rfl, hA _ _ (fun _ _ h => h) rfl⟩⟩
  have hs : H1 D = some (.lst ((vec n fun k => z k - 3).map V.int)) := by rw [hl1, rs.ints]; rfl
  have bs : ∀ i, i < n → B 17 (z i - 3) := fun i hi => B17 (by have := hp.2 i (by omega); omega)
  have hp1 := s1 _ _ hp.1
  have pst : ∀ i, i < 12 → -1 < z i ∧ z i < 1000 := fun i hi => by have := hp.2 i hi; omega
  have rg : (-(2 ^ 62) : Int) ≤ (n : Int) ∧ (n : Int) < 2 ^ 62 := ⟨by omega, by omega⟩
  -- 4
  refine ⟨fun σ' H' => σ' = [some (.int n), some (.int k), some (.ref p), some (.ref D), none, none, none] ∧ H' = H1, ?_, ?_⟩
  · refine ⟨_, rfl, _, _, rfl, rfl, _, rfl, ite2 (fun c1 => ?_) (fun _ => ⟨rfl, rfl⟩)⟩
    have hn1 : 1 < (n : Int) := of_decide_eq_true c1
    refine ⟨_, rfl, rfl, _, rfl, ite2 (fun _ => ?_) (fun _ => ⟨rfl, rfl⟩)⟩
    refine ⟨_, rfl, p, _, 0, _, rfl, rfl, SqL.of hp1, ixa (k := 0) (by decide) rfl (by decide), .inl ⟨_, rfl, _, rfl, _, _, rfl, rfl, (by show (0 : Int) < n; omega), ?_⟩⟩
    refine ⟨_, rfl, _, _, rfl, rfl, _, rfl, p, _, 1, _, rfl, rfl, SqL.of hp1, ixa (k := 1) (by decide) rfl (by decide), .inl ⟨_, rfl, _, rfl, _, _, rfl, rfl, _, _, rfl, rfl, (by show (0 : Int) < (n : Int) - 1; omega), _, _, rfl, rfl, .inl ⟨_, rfl, _, rfl, _, _, rfl, rfl, (by show (0 : Int) < n; omega), ?_⟩⟩⟩
    refine ⟨_, rfl, (n : Int), rfl, rg.1, rg.2, fun D2 hD2 => ?_⟩
    refine lc_m (walk_range (lo := 0) (n := n)) RI (stb_RI (K := K)) (List.range n) (by rw [List.length_range]) (by rw [List.length_range]; omega) hD2 (fun _ _ => trivial) (fun _ _ _ _ => ys_fn) (fun (i : Nat) => b2 (decide (V.int (0 + (i : Int)) = V.int (z 0 % (n : Int)))) - b2 (decide (V.int (0 + (i : Int)) = V.int ((z 0 % (n : Int) + 1 + z 1 % ((n : Int) - 1)) % (n : Int))))) (fun c i x H3 H4 hc s3 s4 yl A B hA => ?_) (fun H3 l s3 hl3 rs => ?_)
    · obtain ⟨hc1, rfl⟩ := in_range hc
      rw [yl.2]
      exact ⟨rfl, lc_yes ⟨_, rfl, _, rfl, rfl, .inr ⟨_, rfl, _, rfl, _, rfl, rfl, .inr ⟨_, rfl, _, _, rfl, rfl, hA _ _ (fun _ _ h => h) rfl⟩⟩⟩⟩
    · refine q D2 H3 _ (none_of s1 hD2) (s1.trans s3) (by rw [hl3, rs.ints]; rfl) fun i hi => B17 ?_
      have h1 := b2_le (decide (V.int (0 + (i : Int)) = V.int (z 0 % (n : Int))))
      have h2 := b2_le (decide (V.int (0 + (i : Int)) = V.int ((z 0 % (n : Int) + 1 + z 1 % ((n : Int) - 1)) % (n : Int))))
      omega
  rintro σ H' ⟨rfl, rfl⟩
  -- 5
  refine ⟨fun σ' H2 => σ' = [some (.int n), some (.int k), some (.ref p), some (.ref D), none, none, none] ∧ H2 = H', ?_, ?_⟩
  · refine ⟨_, rfl, _, _, rfl, rfl, _, rfl, ite2 (fun c1 => ?_) (fun _ => ⟨rfl, rfl⟩)⟩
    have hn1 : 1 < (n : Int) := of_decide_eq_true c1
    refine ⟨_, rfl, rfl, _, rfl, ite2 (fun _ => ?_) (fun _ => ⟨rfl, rfl⟩)⟩
    refine ⟨_, rfl, _, rfl, _, _, rfl, rfl, _, rfl, D, _, rfl, SqL.of hs, fun l2 hl2 => ?_⟩
    have s2 := same_new (H := H') hl2 (.lst (cutV ((vec n fun k => z k - 3).map V.int) none (some ((n : Int) - 1))))
    refine ⟨_, rfl, D, _, 0, _, rfl, rfl, SqL.of (s2 _ _ hs), ixa (k := 0) (by decide) rfl (by omega), line_ge (by show 1 ≤ 100000; decide), fun l3 hl3 => ?_⟩
    have s3 := same_new hl3 (.lst [V.int (z 0 - 3)])
    have hc := cut_head (m := n) (y := fun k => z k - 3) (a := n - 1) (z := (n : Int) - 1) (by omega) (by omega)
    refine ⟨l2, l3, _, _, rfl, rfl, s3 _ _ upd_same, upd_same, ?_, fun r hr' => ?_⟩
    · rw [hc, vec_lenV]
      exact line_ge (by show n - 1 + 1 ≤ 100000; omega)
    · refine q r _ (fun i => if i < n - 1 then z i - 3 else z 0 - 3) (none_of (s1.trans (s2.trans s3)) hr') (s1.trans (s2.trans (s3.trans (same_new hr' _)))) ?_ fun i hi => ?_
      · rw [upd_same, hc, show [V.int (z 0 - 3)] = (vec 1 fun _ => z 0 - 3).map V.int from rfl, vec_cat, show n - 1 + 1 = n by omega]
      · show B 17 (if i < n - 1 then z i - 3 else z 0 - 3)
        split
        · exact bs i hi
        · exact bs 0 (by omega)
  rintro σ H2 ⟨rfl, rfl⟩
  -- 6
  refine ⟨_, rfl, rfl, _, rfl, ite2 (fun _ => ?_) (fun _ => ?_)⟩
  · refine ⟨_, rfl, _, _, rfl, rfl, _, rfl, ite2 (fun c => ?_) (fun _ => ⟨_, rfl, q D H2 _ hD s1 hs bs⟩)⟩
    have hn9 : (n : Int) < 10 := of_decide_eq_true c
    refine ⟨_, rfl, (n : Int), rfl, rg.1, rg.2, fun D2 hD2 => ?_⟩
    refine lc_m (walk_range (lo := 0) (n := n)) RI (stb_RI (K := K)) (List.range n) (by rw [List.length_range]) (by rw [List.length_range]; omega) hD2 (fun _ _ => trivial) (fun _ _ _ _ => ys_fn) (fun i => (z i - 3) * 37 + z (i + 1)) (fun c i x H3 H4 hc s3 s4 yl A B hA => ?_) (fun H3 l s3 hl3 rs => ?_)
    · obtain ⟨hc1, rfl⟩ := in_range hc
      rw [yl.2]
      have b1 := pst i (by omega)
      exact ⟨rfl, lc_yes ⟨_, rfl, _, rfl, p, _, _, _, rfl, rfl, SqL.of (s4 _ _ hp1), ixv (by omega), _, _, rfl, rfl, _, _, rfl, rfl, .inr (by decide), _, rfl, _, rfl, _, _, rfl, rfl, p, _, _, _, rfl, rfl, SqL.of (s4 _ _ hp1), ixa (k := i + 1) (by omega) (by omega) (by omega), _, _, rfl, rfl, hA _ _ (fun _ _ h => h) rfl⟩⟩
    · refine q D2 H3 _ (none_of s1 hD2) (s1.trans s3) (by rw [hl3, rs.ints]; rfl) fun i hi => B17 ?_
      have b1 := pst i (by omega)
      have b2 := pst (i + 1) (by omega)
      omega
  -- 7
  refine ⟨_, rfl, rfl, _, rfl, ite2 (fun _ => ?_) (fun _ => ?_)⟩
  · refine ⟨_, rfl, (n : Int), rfl, rg.1, rg.2, fun D2 hD2 => ?_⟩
    refine lc_m (walk_range (lo := 0) (n := n)) RI (stb_RI (K := K)) (List.range n) (by rw [List.length_range]) (by rw [List.length_range]; omega) hD2 (fun _ _ => trivial) (fun _ _ _ _ => ys_fn) (fun i => (z i - 3) * b2 (decide (z i ≥ 4))) (fun c i x H3 H4 hc s3 s4 yl A B hA => ?_) (fun H3 l s3 hl3 rs => ?_)
    · obtain ⟨hc1, rfl⟩ := in_range hc
      rw [yl.2]
      have b1 := pst i (by omega)
      exact ⟨rfl, lc_yes ⟨_, rfl, _, rfl, p, _, _, _, rfl, rfl, SqL.of (s4 _ _ hp1), ixv (by omega), _, _, rfl, rfl, _, rfl, _, rfl, p, _, _, _, rfl, rfl, SqL.of (s4 _ _ hp1), ixv (by omega), _, _, rfl, rfl, .inr ⟨_, rfl, _, _, rfl, rfl, .inl ⟨by omega, by omega⟩, hA _ _ (fun _ _ h => h) rfl⟩⟩⟩
    · refine q D2 H3 _ (none_of s1 hD2) (s1.trans s3) (by rw [hl3, rs.ints]; rfl) fun i hi => B17 ?_
      have b1 := pst i (by omega)
      have := mulb (x := z i - 3) (by omega) (b2_01 (decide (z i ≥ 4)))
      omega
  -- 8
  refine ⟨fun σ' H3 => σ' = [some (.int n), some (.int k), some (.ref p), some (.ref D), none, none, none] ∧ H3 = H2, ?_, ?_⟩
  · refine ⟨_, rfl, _, _, rfl, rfl, _, rfl, ite2 (fun c1 => ?_) (fun _ => ⟨rfl, rfl⟩)⟩
    have hn1 : 0 < (n : Int) := of_decide_eq_true c1
    refine ⟨_, rfl, rfl, _, rfl, ite2 (fun _ => ?_) (fun _ => ⟨rfl, rfl⟩)⟩
    refine ⟨_, rfl, (n : Int), rfl, rg.1, rg.2, fun D2 hD2 => ?_⟩
    refine lc_m (walk_range (lo := 0) (n := n)) RI (stb_RI (K := K)) (List.range n) (by rw [List.length_range]) (by rw [List.length_range]; omega) hD2 (fun _ _ => trivial) (fun _ _ _ _ => ys_fn) (fun (i : Nat) => b2 (decide (V.int (0 + (i : Int)) = V.int (z 0 % (n : Int)))) * (1 + z 1 % 3)) (fun c i x H3 H4 hc s3 s4 yl A B hA => ?_) (fun H3 l s3 hl3 rs => ?_)
    · obtain ⟨hc1, rfl⟩ := in_range hc
      rw [yl.2]
      have h1 := b2_le (decide (V.int (0 + (i : Int)) = V.int (z 0 % (n : Int))))
      refine ⟨rfl, lc_yes ⟨_, rfl, _, rfl, p, _, 0, _, rfl, rfl, SqL.of (s4 _ _ hp1), ixa (k := 0) (by decide) rfl (by decide), .inl ⟨_, rfl, _, rfl, _, _, rfl, rfl, hn1, rfl, .inr ⟨_, rfl, ?_⟩⟩⟩⟩
      exact ⟨_, rfl, p, _, 1, _, rfl, rfl, SqL.of (s4 _ _ hp1), ixa (k := 1) (by decide) rfl (by decide), .inl ⟨_, rfl, _, _, rfl, rfl, (by show (0 : Int) < 3; decide), _, _, rfl, rfl, _, _, rfl, rfl, .inl (by have h2 : (if decide (V.int (0 + (i : Int)) = V.int (z 0 % (n : Int))) = true then (1 : Int) else 0) = b2 (decide (V.int (0 + (i : Int)) = V.int (z 0 % (n : Int)))) := rfl; first | (constructor <;> omega) | (rw [h2]; constructor <;> omega)), hA _ _ (fun _ _ h => h) rfl⟩⟩
    · refine q D2 H3 _ (none_of s1 hD2) (s1.trans s3) (by rw [hl3, rs.ints]; rfl) fun i hi => B17 ?_
      have h0 := md (x := z 1) (m := 3) (by decide)
      rw [Int.mul_comm]
      have := mulb (x := 1 + z 1 % 3) (by omega) (b2_01 (decide (V.int (0 + (i : Int)) = V.int (z 0 % (n : Int)))))
      omega
  rintro σ H3 ⟨rfl, rfl⟩
  -- 9
  refine ⟨fun σ' H4 => σ' = [some (.int n), some (.int k), some (.ref p), some (.ref D), none, none, none] ∧ H4 = H3, ?_, ?_⟩
  · refine ⟨_, rfl, rfl, _, rfl, ite2 (fun _ => ?_) (fun _ => ⟨rfl, rfl⟩)⟩
    refine ⟨_, rfl, p, _, 0, _, rfl, rfl, SqL.of hp1, ixa (k := 0) (by decide) rfl (by decide), rfl, _, rfl, ite2 (fun _ => ?_) (fun _ => ⟨rfl, rfl⟩)⟩
    refine ⟨_, rfl, (n : Int), rfl, rg.1, rg.2, fun D2 hD2 => ?_⟩
    refine lc_m (walk_range (lo := 0) (n := n)) RI (stb_RI (K := K)) (List.range n) (by rw [List.length_range]) (by rw [List.length_range]; omega) hD2 (fun _ _ => trivial) (fun _ _ _ _ => ys_fn) (fun _ => (0 : Int)) (fun c i x H5 H4 hc s3 s4 yl A B hA => ?_) (fun H4 l s3 hl3 rs => ?_)
    · rw [yl.2]
      exact ⟨rfl, lc_yes (hA _ _ (fun _ _ h => h) rfl)⟩
    · exact q D2 H4 _ (none_of s1 hD2) (s1.trans s3) (by rw [hl3, rs.ints]; rfl) fun i hi => B17 (by decide)
  rintro σ H4 ⟨rfl, rfl⟩
  exact ⟨_, rfl, q D H4 _ hD s1 hs bs⟩
def spWt : Sp := fun vs H Q _ => ∃ (k : Int) (p : Addr) (z : Nat → Int), vs = [.int k, .ref p] ∧ Ln H p 12 z ∧ ∀ s H', Same H H' → B 30 s → 0 ≤ s → Q (.int s) H'
abbrev s__law_draw_weight : Stmt := top 56
abbrev N__law_draw_weight : List Str := ["kind", "row"]
theorem sc__law_draw_weight : FnScope N__law_draw_weight ["kind", "row"] (defScope s__law_draw_weight) := ⟨rfl, rfl, rfl, by decide +kernel, rfl, by decide +kernel, by decide +kernel⟩
theorem ok__law_draw_weight (F : Fun K "_law_draw_weight" "_law_draw_weight" s__law_draw_weight f fd) (T : Txt mg) : FnOk P w K mg base CX0 1 f fd ["kind", "row"] spWt := by
  refine F.ok sc__law_draw_weight (fun vs H Q E h => ?_) (fun cdv A outer s H vs Q E hr h => ?_)
  · obtain ⟨k, p, z, rfl, _⟩ := h
    rfl
  obtain ⟨k, a, z, rfl, hp, q⟩ := h
  refine ⟨_, (pss_cons (ps_if (pt_cmpR op_eq (pv 0) pe_int (nomark _)) (pss_one (ps_ret pe_int)) pss_nil)
  (pss_cons (ps_if (pt_cmpR op_eq (pv 0) pe_int (nomark _)) (pss_one (ps_ret (pe_op op_add pe_int (pe_ix ix_list (pv 1) pe_int (fun _ _ => rfl))))) pss_nil)
  (pss_cons (ps_if (pt_cmpR op_eq (pv 0) pe_int (nomark _)) (pss_one (ps_ret (pe_ix ix_list (pe_lst (pa_cons pe_int (pa_cons pe_int pa_nil))) (pe_op op_mod (pe_callTy call_int1 (by rfl) T.b_int (by decide +kernel) (pa_cons (pe_ix ix_list (pv 1) pe_int (fun _ _ => rfl)) pa_nil)) pe_int) (fun _ _ => rfl)))) pss_nil)
  (pss_cons (ps_if (pt_cmpR op_eq (pv 0) pe_int (nomark _)) (pss_one (ps_ret (pe_op op_add pe_int (pe_op op_mul (pe_ix ix_list (pv 1) pe_int (fun _ _ => rfl)) pe_int)))) pss_nil)
  (pss_one (ps_ret (pe_op op_add pe_int (pe_ix ix_list (pv 1) pe_int (fun _ _ => rfl))))))))), ?_⟩
  have sm : Same H H := fun _ _ h => h
  have ha := SqL.of (K := K) hp.1
  have b0 := hp.2 10 (by decide)
  have b1 := hp.2 11 (by decide)
  have i0 : atI ((vec 12 z).map V.int) 10 = some (.int (z 10)) := ixa (k := 10) (by decide) rfl (by decide)
  have i1 : atI ((vec 12 z).map V.int) 11 = some (.int (z 11)) := ixa (k := 11) (by decide) rfl (by decide)
  refine ⟨_, rfl, rfl, _, rfl, ite2 (fun _ => q 1 H sm (by decide) (by decide)) (fun _ => ?_)⟩
  refine ⟨_, rfl, rfl, _, rfl, ite2 (fun _ => ?_) (fun _ => ?_)⟩
  · exact ⟨_, rfl, a, _, 11, _, rfl, rfl, ha, i1, _, _, rfl, rfl, q _ H sm (B30 (by omega)) (by omega)⟩
  refine ⟨_, rfl, rfl, _, rfl, ite2 (fun _ => ?_) (fun _ => ?_)⟩
  · refine ⟨two_line, fun l hl => ⟨_, rfl, a, _, 11, _, rfl, rfl, (same_new hl _).seq ha, i1, .inl ⟨_, rfl, _, _, rfl, rfl, (by show (0 : Int) < 2; decide), ?_⟩⟩⟩
    have g := md (x := z 11) (m := 2) (by decide)
    obtain ⟨x, hx, hp⟩ := pick (cs := [1, 1000000]) g.1 g.2
    have hb : ∀ x ∈ ([1, 1000000] : List Int), 1 ≤ x ∧ x ≤ 1000000 := by decide
    exact ⟨l, _, _, _, rfl, rfl, SqL.of upd_same, at_pos g.1 hp, q _ _ (same_new hl _) (B30 (by have := hb x hx; omega)) (by have := hb x hx; omega)⟩
  refine ⟨_, rfl, rfl, _, rfl, ite2 (fun _ => ?_) (fun _ => ?_)⟩
  · exact ⟨_, rfl, a, _, 11, _, rfl, rfl, ha, i1, _, _, rfl, rfl, .inr (by decide), _, _, rfl, rfl, q _ H sm (B30 (by omega)) (by omega)⟩
  exact ⟨_, rfl, a, _, 10, _, rfl, rfl, ha, i0, _, _, rfl, rfl, q _ H sm (B30 (by omega)) (by omega)⟩
end
end P09
namespace P09
open PySem PySem.Spec PyProof.Rows L2 SX EX WK
theorem Dig.mem {ns zs : List Int} (d : Dig ns zs) {m : Int} (h : ∀ z ∈ zs, z ≤ m) : ∀ n ∈ ns, 0 ≤ n ∧ n < m := fun n hn => by
  obtain ⟨i, hi⟩ := List.mem_iff_getElem?.mp hn
  have hl : i < zs.length := by
    have := (List.getElem?_eq_some_iff.mp hi).1
    have := d.len
    omega
  obtain ⟨n', h1, h2, h3⟩ := d.get (List.getElem?_eq_getElem hl)
  rw [hi] at h1
  cases h1
  have := h _ (List.getElem_mem hl)
  omega
/-- a list that grows -/
structure Gr {α : Type} (R : Hp → V → α → Prop) (H0 : Hp) (D : Addr) (zs : List α) (H : Hp) : Prop where
  same : Same H0 H
  at_ : ∃ vs, H D = some (.lst vs) ∧ Rs R H vs zs
theorem Gr.start {α : Type} {R : Hp → V → α → Prop} {H : Hp} {D : Addr} (h : H D = none) : Gr R H D [] (upd H D (.lst [])) := ⟨new_same h _, [], upd_same, Rs.nil⟩
theorem Gr.keep {α : Type} {R : Hp → V → α → Prop} {H0 H H' : Hp} {D : Addr} {zs : List α} (st : StbD D R) (g : Gr R H0 D zs H) (e : Same H H') : Gr R H0 D zs H' := by
  obtain ⟨s, vs, h1, h2⟩ := g
  exact ⟨s.trans e, vs, e _ _ h1, h2.tkD st ⟨vs, h1⟩ fun b o _ h => e _ _ h⟩
theorem Gr.push {α : Type} {R : Hp → V → α → Prop} {H0 H : Hp} {D : Addr} {zs : List α} {vs : List V} {v : V} {z : α} (st : StbD D R) (s : Same H0 H) (hD : H0 D = none) (h1 : H D = some (.lst vs)) (h2 : Rs R H vs zs) (r : R H v z) : Gr R H0 D (zs ++ [z]) (upd H D (.lst (vs ++ [v]))) := by
  refine ⟨same_at s hD, _, upd_same, Rs.snoc (h2.tkD st ⟨vs, h1⟩ fun b o hb h => ?_) (st _ _ _ _ ⟨vs, h1⟩ (fun b o hb h => ?_) r)⟩
  all_goals
    rw [upd_ne hb]
    exact h
theorem one_line : 1 ≤ sizeLine := line_ge (by omega)
def zsW : List Int := [7, 7, 7, 7, 7, 7, 7, 7, 7, 7, 9, 1000]
theorem zsW_ok : ∀ z ∈ zsW, 0 < z ∧ z.natAbs < 2 ^ 2000 := szs (by decide +kernel)
theorem ln_dig {ns zs : List Int} {H : Hp} {p : Addr} {m : Nat} (d : Dig ns zs) (hl : zs.length = m) (hz : ∀ z ∈ zs, z ≤ 1000) (h : H p = some (.lst (ns.map V.int))) : ∃ y, ns = vec m y ∧ Ln H p m y := by
  have e : ns = vec m fun i => ns.getD i 0 := vec_of (by rw [d.len, hl])
  refine ⟨_, e, by rw [← e]; exact h, fun i hi => ?_⟩
  have hi2 : i < ns.length := by rw [d.len, hl]; exact hi
  have := d.mem hz _ (List.getElem_mem hi2)
  show 0 ≤ ns.getD i 0 ∧ ns.getD i 0 < 1000
  rw [List.getD_eq_getElem?_getD, List.getElem?_eq_getElem hi2]
  exact this
theorem zsW_le : ∀ z ∈ zsW, z ≤ 1000 := by decide
theorem gr_psz {n wb : Nat} {H0 H : Hp} {D : Addr} {ps : List RZ} (g : Gr (PrD D n wb) H0 D ps H) : PsZ n wb H D ps := let ⟨_, vs, h1, h2, h3⟩ := g; ⟨vs, h1, h2, fun i v z a b => (h3 i v z a b).pr⟩
section
variable {P : Program} {w : World} {K : PySem.W.Frag} {mg : Str → Option Value} {base : Heap} {f : Addr} {fd : FuncData} {cF cR : Addr}
def spDps (K : PySem.W.Frag) : Sp := fun vs H Q _ => ∃ (a ks : Addr) (ns : List Int) (at_ m k0 k1 : Int) (n : Nat), vs = [.ref a, .int at_, .int n, .int m, .ref ks] ∧ SqL K H a (ns.map V.int) ∧ 0 ≤ at_ ∧ at_ ≤ 100 ∧ m ≤ 60 ∧ -100 ≤ m ∧ n ≤ 10 ∧ H ks = some (.lst [.int k0, .int k1]) ∧ ∀ r H' ps, Same H H' → PsZ n 30 H' r ps → ps.length = m.toNat → Q (.ref r) H'
abbrev s__law_draw_pairs : Stmt := top 59
abbrev N__law_draw_pairs : List Str := ["script", "at", "size", "many", "kinds", "pairs", "k", "row"]
theorem sc__law_draw_pairs : FnScope N__law_draw_pairs ["script", "at", "size", "many", "kinds"] (defScope s__law_draw_pairs) := ⟨rfl, rfl, rfl, by decide +kernel, rfl, by decide +kernel, by decide +kernel⟩
theorem ok__law_draw_pairs (F : Fun K "_law_draw_pairs" "_law_draw_pairs" s__law_draw_pairs f fd) (T : Txt mg) (C__law_cell : Cal P w K mg base 1 "_law_cell" ["script", "k"] (spCell K)) (C__law_digits : Cal P w K mg base 1 "_law_digits" ["cell", "sizes"] (spDigits K)) (C__law_draw_row : Cal P w K mg base 1 "_law_draw_row" ["size", "kind", "row"] spDrow)
    (C__law_draw_weight : Cal P w K mg base 1 "_law_draw_weight" ["kind", "row"] spWt) : FnOk P w K mg base CX0 2 f fd ["script", "at", "size", "many", "kinds"] (spDps K) := by
  refine F.ok sc__law_draw_pairs (fun vs H Q E h => ?_) (fun cdv A outer s H vs Q E hr h => ?_)
  · obtain ⟨a, ks, ns, at_, m, k0, k1, n, rfl, _⟩ := h
    rfl
  obtain ⟨a, ks, ns, at_, m, k0, k1, n, rfl, ha, ha0, ha1, hm, hm0, hn, hks, q⟩ := h
  refine ⟨_, (pss_cons (ps_set (i := 5) sc__law_draw_pairs.nd rfl (Or.inl rfl) (pe_lst pa_nil))
  (pss_cons (ps_for PassesOwn.never rfl (pi_range1 (by rfl) T.b_range (pa_cons (pv 3) pa_nil)) (pg_name (i := 6) sc__law_draw_pairs.nd rfl (Or.inl rfl)) (pss_cons (ps_set (i := 7) sc__law_draw_pairs.nd rfl (Or.inl rfl) (pe_cal C__law_digits (hr.mono (by omega)) rfl (pa_cons (pe_cal C__law_cell (hr.mono (by omega)) rfl (pa_cons (pv 0) (pa_cons (pe_op op_add (pv 1) (pv 6)) pa_nil))) (pa_cons (pe_op op_cat (pe_op op_rep (pe_lst (pa_cons pe_int pa_nil)) pe_int) (pe_lst (pa_cons pe_int (pa_cons pe_int pa_nil)))) pa_nil))))
  (pss_one (ps_expr (pe_bm PySem.F.plainAttrs_list PySem.F.slot_list_append PySem.F.type_list_append mt_append (pv 5) (pa_cons (pe_tup (pa_cons (pe_cal C__law_draw_row (hr.mono (by omega)) rfl (pa_cons (pv 2) (pa_cons (pe_ix ix_list (pv 4) pe_int (fun _ _ => rfl)) (pa_cons (pv 7) pa_nil)))) (pa_cons (pe_cal C__law_draw_weight (hr.mono (by omega)) rfl (pa_cons (pe_ix ix_list (pv 4) pe_int (fun _ _ => rfl)) (pa_cons (pv 7) pa_nil))) pa_nil))) pa_nil))))))
  (pss_one (ps_ret (pv 5))))), ?_⟩
  refine ⟨line_ge (by decide), fun D hD => ?_⟩
  refine ⟨_, rfl, m, rfl, by omega, by omega, for_range (lo := 0) (n := m.toNat) (fun k σ H' => ∃ (v6 v7 : Option V) (ps : List RZ), σ = [some (.ref a), some (.int at_), some (.int n), some (.int m), some (.ref ks), some (.ref D), v6, v7] ∧ Gr (PrD D n 30) H D ps H' ∧ ps.length = k) ⟨none, none, [], rfl, Gr.start hD, rfl⟩ ?_ ?_⟩
  · rintro k σ H1 hk ⟨v6, v7, ps, rfl, gr, hlen⟩
    refine ⟨_, rfl, _, rfl, _, rfl, _, _, rfl, rfl, a, ns, at_ + (0 + (k : Int)), rfl, gr.same.seq ha, by omega, by omega, fun c => ?_⟩
    refine ⟨one_line, fun l1 hl1 => ⟨l1, 10, _, rfl, rfl, upd_same, by decide, by decide, line_ge (by decide), fun l2 hl2 => ?_⟩⟩
    refine ⟨two_line, fun l3 hl3 => ⟨l2, l3, _, _, rfl, rfl, same_new hl3 _ _ _ upd_same, upd_same, line_ge (by decide), fun l4 hl4 => ?_⟩⟩
    have s4 := fun o => (same_new hl1 (.lst [V.int 7])).trans ((same_new hl2 (.lst (List.replicate (10 : Int).toNat [V.int 7]).flatten)).trans ((same_new hl3 (.lst [V.int 9, V.int 1000])).trans (same_new hl4 o)))
    refine ⟨c, l4, zsW, rfl, SqL.of upd_same, by decide, zsW_ok, fun p ls hp hd => ?_⟩
    have s5 := (s4 (.lst ((List.replicate (10 : Int).toNat [V.int 7]).flatten ++ [V.int 9, V.int 1000]))).trans (same_new hp (.lst (ls.map V.int)))
    obtain ⟨y, ely, hln⟩ := ln_dig (p := p) hd (m := 12) rfl zsW_le upd_same
    have gr5 := gr.keep stb_PrD s5
    generalize hH5 : upd _ p (.lst (ls.map V.int)) = H5 at *
    refine ⟨_, rfl, .inl ⟨rfl, _, SqL.of gr5.at_.choose_spec.1⟩, ?_⟩
    refine ⟨_, rfl, _, rfl, ks, _, 0, _, rfl, rfl, SqL.of (gr5.same _ _ hks), at_pos (by decide) rfl, _, rfl, p, n, k0, y, rfl, hln, hn, fun r H6 x hrn s6 hr6 hx => ?_⟩
    have gr6 := gr5.keep stb_PrD s6
    refine ⟨_, rfl, ks, _, 1, _, rfl, rfl, SqL.of (gr6.same _ _ hks), at_pos (by decide) rfl, _, rfl, k1, p, y, rfl, hln.same s6, fun wg H7 s7 hw _ => ⟨two_line, fun tp htp => ?_⟩⟩
    have gr8 := gr6.keep stb_PrD (s7.trans (same_new htp (.tup [.ref r, .int wg])))
    obtain ⟨ss, vs, hvs, hrs⟩ := gr8
    refine ⟨D, _, _, rfl, rfl, hvs, sizes (by have := hrs.1; omega), ?_⟩
    refine ⟨some (.int (0 + (k : Int))), some (.ref p), ps ++ [(x, wg)], rfl, Gr.push stb_PrD ss hD hvs hrs ⟨tp, r, rfl, fun z => ?_, fun z => ?_, upd_same, .inl (same_new htp _ _ _ (s7 _ _ hr6)), hw, hx⟩, by rw [List.length_append, hlen]; rfl⟩
    · have := gr6.at_
      obtain ⟨vs2, h2, _⟩ := this
      rw [z, s7 _ _ h2] at htp
      cases htp
    · obtain ⟨vs2, h2, _⟩ := gr5.at_
      rw [z, h2] at hrn
      cases hrn
  · rintro σ H1 ⟨v6, v7, ps, rfl, gr, hlen⟩
    exact ⟨_, rfl, q D H1 ps gr.same (gr_psz gr) hlen⟩
end
end P09
namespace P09
open PySem PySem.Spec PyProof.Rows L2 SX EX WK
def zsS : List Int := [7, 50, 10, 8, 9]
theorem zsS_ok : ∀ z ∈ zsS, 0 < z ∧ z.natAbs < 2 ^ 2000 := szs (by decide +kernel)
theorem zsS_le : ∀ z ∈ zsS, z ≤ 1000 := by decide
theorem five_line : 5 ≤ sizeLine := line_ge (by omega)
/-- the bottoms of the menu -/
theorem base_at {d : Int} (h0 : 0 ≤ d) (h1 : d < 9) : ∃ z : Int, ([V.int 1, V.int 1, V.int 2, V.int 3, V.int 6, V.int 12, V.int 7, V.int 1, V.int 1000] : List V)[d.toNat]? = some (.int z) ∧ 1 ≤ z ∧ z ≤ 1000 := by
  have : d = 0 ∨ d = 1 ∨ d = 2 ∨ d = 3 ∨ d = 4 ∨ d = 5 ∨ d = 6 ∨ d = 7 ∨ d = 8 := by omega
  rcases this with e | e | e | e | e | e | e | e | e <;> (subst e; exact ⟨_, rfl, by decide, by decide⟩)
theorem nine_line : 9 ≤ sizeLine := line_ge (by omega)
theorem dig_lt {ns zs : List Int} {i : Nat} {z : Int} {m : Nat} {y : Nat → Int} (d : Dig ns zs) (hl : zs.length = m) (e : ns = vec m y) (h : zs[i]? = some z) : 0 ≤ y i ∧ y i < z := by
  obtain ⟨n, h1, h2, h3⟩ := d.get h
  have hi : i < m := by have := (List.getElem?_eq_some_iff.mp h).1; omega
  rw [e] at h1
  have : (vec m y)[i]? = some (y i) := by
    show ((List.range m).map y)[i]? = some (y i)
    rw [List.getElem?_map, List.getElem?_range hi]
    rfl
  rw [this] at h1
  cases h1
  exact ⟨h2, h3⟩
section
variable {P : Program} {w : World} {K : PySem.W.Frag} {mg : Str → Option Value} {base : Heap} {f : Addr} {fd : FuncData} {cF cR : Addr}
def spLong (K : PySem.W.Frag) : Sp := fun vs H Q _ => ∃ (a : Addr) (ns : List Int) (at_ : Int), vs = [.ref a, .int at_] ∧ SqL K H a (ns.map V.int) ∧ 0 ≤ at_ ∧ at_ ≤ 100 ∧ ∀ r pl H' (n : Nat) b ps, Same H H' → H' r = some (.lst [.int (n : Int), .ref pl, .int b]) → n ≤ 10 → 1 ≤ b → b ≤ 1000 → PsZ n 30 H' pl ps → ps.length ≤ 60 → (∀ p ∈ ps, 0 ≤ p.2) → Q (.ref r) H'
abbrev s__law_draw_long : Stmt := top 57
abbrev N__law_draw_long : List Str := ["script", "at", "shape", "size", "pairs", "k", "row"]
theorem sc__law_draw_long : FnScope N__law_draw_long ["script", "at"] (defScope s__law_draw_long) := ⟨rfl, rfl, rfl, by decide +kernel, rfl, by decide +kernel, by decide +kernel⟩
theorem ok__law_draw_long (F : Fun K "_law_draw_long" "_law_draw_long" s__law_draw_long f fd) (T : Txt mg) (C__law_cell : Cal P w K mg base 1 "_law_cell" ["script", "k"] (spCell K)) (C__law_digits : Cal P w K mg base 1 "_law_digits" ["cell", "sizes"] (spDigits K)) (C__law_draw_row : Cal P w K mg base 1 "_law_draw_row" ["size", "kind", "row"] spDrow)
    (C__law_draw_weight : Cal P w K mg base 1 "_law_draw_weight" ["kind", "row"] spWt) : FnOk P w K mg base CX0 2 f fd ["script", "at"] (spLong K) := by
  refine F.ok sc__law_draw_long (fun vs H Q E h => ?_) (fun cdv A outer s H vs Q E hr h => ?_)
  · obtain ⟨a, ns, at_, rfl, _⟩ := h
    rfl
  obtain ⟨a, ns, at_, rfl, ha, ha0, ha1, q⟩ := h
  refine ⟨_, (pss_cons (ps_set (i := 2) sc__law_draw_long.nd rfl (Or.inl rfl) (pe_cal C__law_digits (hr.mono (by omega)) rfl (pa_cons (pe_cal C__law_cell (hr.mono (by omega)) rfl (pa_cons (pv 0) (pa_cons (pv 1) pa_nil))) (pa_cons (pe_lst (pa_cons pe_int (pa_cons pe_int (pa_cons pe_int (pa_cons pe_int (pa_cons pe_int pa_nil)))))) pa_nil))))
  (pss_cons (ps_set (i := 3) sc__law_draw_long.nd rfl (Or.inl rfl) (pe_op op_add pe_int (pe_ix ix_list (pv 2) pe_int (fun _ _ => rfl))))
  (pss_cons (ps_set (i := 4) sc__law_draw_long.nd rfl (Or.inl rfl) (pe_lst pa_nil))
  (pss_cons (ps_for PassesOwn.never rfl (pi_range1 (by rfl) T.b_range (pa_cons (pe_op op_add pe_int (pe_ix ix_list (pv 2) pe_int (fun _ _ => rfl))) pa_nil)) (pg_name (i := 5) sc__law_draw_long.nd rfl (Or.inl rfl)) (pss_cons (ps_set (i := 6) sc__law_draw_long.nd rfl (Or.inl rfl) (pe_cal C__law_digits (hr.mono (by omega)) rfl (pa_cons (pe_cal C__law_cell (hr.mono (by omega)) rfl (pa_cons (pv 0) (pa_cons (pe_op op_add (pe_op op_add (pv 1) pe_int) (pv 5)) pa_nil))) (pa_cons (pe_op op_cat (pe_op op_rep (pe_lst (pa_cons pe_int pa_nil)) pe_int) (pe_lst (pa_cons pe_int (pa_cons pe_int pa_nil)))) pa_nil))))
  (pss_one (ps_expr (pe_bm PySem.F.plainAttrs_list PySem.F.slot_list_append PySem.F.type_list_append mt_append (pv 4) (pa_cons (pe_tup (pa_cons (pe_callTy call_tuple_of (by rfl) T.b_tuple (by decide +kernel) (pa_cons (pe_cal C__law_draw_row (hr.mono (by omega)) rfl (pa_cons (pv 3) (pa_cons (pe_ix ix_list (pv 2) pe_int (fun _ _ => rfl)) (pa_cons (pv 6) pa_nil)))) pa_nil)) (pa_cons (pe_cal C__law_draw_weight (hr.mono (by omega)) rfl (pa_cons (pe_ix ix_list (pv 2) pe_int (fun _ _ => rfl)) (pa_cons (pv 6) pa_nil))) pa_nil))) pa_nil))))))
  (pss_one (ps_ret (pe_lst (pa_cons (pv 3) (pa_cons (pv 4) (pa_cons (pe_ix ix_list (pe_lst (pa_cons pe_int (pa_cons pe_int (pa_cons pe_int (pa_cons pe_int (pa_cons pe_int (pa_cons pe_int (pa_cons pe_int (pa_cons pe_int (pa_cons pe_int pa_nil)))))))))) (pe_ix ix_list (pv 2) pe_int (fun _ _ => rfl)) (fun _ _ => rfl)) pa_nil)))))))))), ?_⟩
  refine ⟨_, rfl, _, rfl, a, ns, at_, rfl, ha, by omega, by omega, fun c => ⟨five_line, fun l1 hl1 => ?_⟩⟩
  have s1 := same_new hl1 (.lst [V.int 7, V.int 50, V.int 10, V.int 8, V.int 9])
  refine ⟨c, l1, zsS, rfl, SqL.of upd_same, by decide, zsS_ok, fun sh ls hsh hd => ?_⟩
  have s2 := s1.trans (same_new hsh (.lst (ls.map V.int)))
  obtain ⟨g, elg, hsh2⟩ := ln_dig (p := sh) hd (m := 5) rfl zsS_le upd_same
  have g0 := dig_lt (i := 0) hd rfl elg rfl
  have g1 := dig_lt (i := 1) hd rfl elg rfl
  have g4 := dig_lt (i := 4) hd rfl elg rfl
  generalize hH2 : upd _ sh (.lst (ls.map V.int)) = H2 at *
  refine ⟨_, rfl, sh, _, 0, _, rfl, rfl, SqL.of hsh2.1, ixa (k := 0) (by decide) rfl (by decide), _, _, rfl, rfl, ?_⟩
  obtain ⟨n, hn⟩ : ∃ n : Nat, 4 + g 0 = (n : Int) := ⟨(4 + g 0).toNat, by omega⟩
  show gName 3 (V.int (4 + g 0)) _ H2 _
  rw [hn]
  have n10 : n ≤ 10 := by omega
  refine ⟨line_ge (by decide), fun D hD => ?_⟩
  refine ⟨_, rfl, sh, _, 1, _, rfl, rfl, SqL.of (same_new hD _ _ _ hsh2.1), ixa (k := 1) (by decide) rfl (by decide), _, _, rfl, rfl, _, rfl, by omega, by omega, for_range (lo := 0) (n := (11 + g 1).toNat) (fun k σ H' => ∃ (v5 v6 : Option V) (ps : List RZ), σ = [some (.ref a), some (.int at_), some (.ref sh), some (.int n), some (.ref D), v5, v6] ∧ Gr (PrD D n 30) H2 D ps H' ∧ ps.length = k ∧ ∀ p ∈ ps, 0 ≤ p.2) ⟨none, none, [], rfl, Gr.start hD, rfl, fun p hp => by cases hp⟩ ?_ ?_⟩
  · rintro k σ H3 hk ⟨v5, v6, ps, rfl, gr, hlen, hps0⟩
    have s23 := s2.trans gr.same
    refine ⟨_, rfl, _, rfl, _, _, rfl, rfl, _, rfl, _, _, rfl, rfl, a, ns, at_ + 1 + (0 + (k : Int)), rfl, s23.seq ha, by omega, by omega, fun c => ?_⟩
    refine ⟨one_line, fun l1 hl1 => ⟨l1, 10, _, rfl, rfl, upd_same, by decide, by decide, line_ge (by decide), fun l2 hl2 => ?_⟩⟩
    refine ⟨two_line, fun l3 hl3 => ⟨l2, l3, _, _, rfl, rfl, same_new hl3 _ _ _ upd_same, upd_same, line_ge (by decide), fun l4 hl4 => ?_⟩⟩
    have s4 := fun o => (same_new hl1 (.lst [V.int 7])).trans ((same_new hl2 (.lst (List.replicate (10 : Int).toNat [V.int 7]).flatten)).trans ((same_new hl3 (.lst [V.int 9, V.int 1000])).trans (same_new hl4 o)))
    refine ⟨c, l4, zsW, rfl, SqL.of upd_same, by decide, zsW_ok, fun p ls hp hd => ?_⟩
    have s5 := (s4 (.lst ((List.replicate (10 : Int).toNat [V.int 7]).flatten ++ [V.int 9, V.int 1000]))).trans (same_new hp (.lst (ls.map V.int)))
    obtain ⟨y, ely, hln⟩ := ln_dig (p := p) hd (m := 12) rfl zsW_le upd_same
    have gr5 := gr.keep stb_PrD s5
    generalize hH5 : upd _ p (.lst (ls.map V.int)) = H5 at *
    refine ⟨_, rfl, .inl ⟨rfl, _, SqL.of gr5.at_.choose_spec.1⟩, ?_⟩
    refine ⟨_, rfl, _, rfl, sh, _, 2, _, rfl, rfl, SqL.of (gr5.same _ _ hsh2.1), ixa (k := 2) (by decide) rfl (by decide), _, rfl, p, n, g 2, y, rfl, hln, n10, fun r H6 x hrn s6 hr6 hx => ?_⟩
    refine ⟨r, _, rfl, .inl ⟨SqL.of hr6, fun tr htr => ?_⟩⟩
    have s67 := s6.trans (same_new htr (.tup ((vec n x).map V.int)))
    have gr6 := gr5.keep stb_PrD s67
    refine ⟨_, rfl, sh, _, 3, _, rfl, rfl, SqL.of (gr6.same _ _ hsh2.1), ixa (k := 3) (by decide) rfl (by decide), _, rfl, g 3, p, y, rfl, hln.same s67, fun wg H7 s7 hw hw0 => ⟨two_line, fun tp htp => ?_⟩⟩
    have gr8 := gr6.keep stb_PrD (s7.trans (same_new htp (.tup [.ref tr, .int wg])))
    obtain ⟨ss, vs, hvs, hrs⟩ := gr8
    refine ⟨D, _, _, rfl, rfl, hvs, sizes (by have := hrs.1; omega), ?_⟩
    refine ⟨some (.int (0 + (k : Int))), some (.ref p), ps ++ [(x, wg)], rfl, Gr.push stb_PrD ss hD hvs hrs ⟨tp, tr, rfl, fun z => ?_, fun z => ?_, upd_same, .inr (same_new htp _ _ _ (s7 _ _ upd_same)), hw, hx⟩, by rw [List.length_append, hlen]; rfl, fun p hp => (List.mem_append.mp hp).elim (hps0 p) fun z => by rw [List.mem_singleton.mp z]; exact hw0⟩
    · obtain ⟨vs2, h2, _⟩ := gr6.at_
      rw [z, s7 _ _ h2] at htp
      cases htp
    · obtain ⟨vs2, h2, _⟩ := gr5.at_
      rw [z, s6 _ _ h2] at htr
      cases htr
  · rintro σ H3 ⟨v5, v6, ps, rfl, gr, hlen, hps0⟩
    obtain ⟨b, hb1, hb2, hb3⟩ := base_at g4.1 g4.2
    refine ⟨_, rfl, _, rfl, nine_line, fun lb hlb => ?_⟩
    have sb := same_new hlb (.lst [V.int 1, V.int 1, V.int 2, V.int 3, V.int 6, V.int 12, V.int 7, V.int 1, V.int 1000])
    refine ⟨_, rfl, sh, _, 4, _, rfl, rfl, SqL.of (sb _ _ (gr.same _ _ hsh2.1)), ixa (k := 4) (by decide) rfl (by decide), lb, _, _, _, rfl, rfl, SqL.of upd_same, at_pos g4.1 hb1, three_line, fun r hr' => ?_⟩
    have sr := sb.trans (same_new hr' (.lst [.int (n : Int), .ref D, .int b]))
    exact q r D _ n b ps (s2.trans (gr.same.trans sr)) upd_same n10 hb2 hb3 ((gr_psz gr).same sr) (by omega) hps0
/-- where a row begins -/
def pl (n : Nat) : Nat → Nat
  | 0 => 0
  | i + 1 => pl n i + (n - i)
theorem pl_le : ∀ n, n ≤ 6 → ∀ i, i < n → pl n i + (n - i) ≤ 21 := by decide
theorem put_sym {f : Nat → Nat → Int} {i j : Nat} {v : Int} (h : ∀ a b, f a b = f b a) : ∀ a b, put (put f i j v) j i v a b = put (put f i j v) j i v b a := fun a b => by
  unfold put
  by_cases c1 : a = j ∧ b = i
  · rw [if_pos c1]
    by_cases c2 : b = j ∧ a = i
    · rw [if_pos c2]
    · rw [if_neg c2, if_pos ⟨c1.2, c1.1⟩]
  · rw [if_neg c1]
    by_cases c2 : b = j ∧ a = i
    · rw [if_pos c2, if_pos ⟨c2.2, c2.1⟩]
    · rw [if_neg c2, if_neg (fun z => c2 ⟨z.2, z.1⟩), if_neg (fun z => c1 ⟨z.2, z.1⟩), h a b]
theorem put_B {f : Nat → Nat → Int} {i j : Nat} {v : Int} {k : Nat} (h : ∀ a b, B k (f a b)) (hv : B k v) : ∀ a b, B k (put f i j v a b) := fun a b => by
  unfold put
  split
  · exact hv
  · exact h a b
def zsQ : List Int := [19, 19, 19, 19, 19, 19, 19, 19, 19, 19, 19, 19, 19, 19, 19, 19, 19, 19, 19, 19, 19]
theorem zsQ_ok : ∀ z ∈ zsQ, 0 < z ∧ z.natAbs < 2 ^ 2000 := szs (by decide +kernel)
theorem zsQ_le : ∀ z ∈ zsQ, z ≤ 1000 := by decide
def spRaw (K : PySem.W.Frag) : Sp := fun vs H Q _ => ∃ (a : Addr) (ns : List Int) (at_ : Int) (n : Nat), vs = [.ref a, .int at_, .int n] ∧ SqL K H a (ns.map V.int) ∧ 0 ≤ at_ ∧ at_ ≤ 100 ∧ n ≤ 6 ∧ ∀ r H' f, Same H H' → LTab H' r n f → (∀ a b, f a b = f b a) → (∀ a b, B 17 (f a b)) → Q (.ref r) H'
abbrev s__law_raw : Stmt := top 60
abbrev N__law_raw : List Str := ["script", "at", "size", "row", "i", "j", "table", "place"]
theorem sc__law_raw : FnScope N__law_raw ["script", "at", "size"] (defScope s__law_raw) := ⟨rfl, rfl, rfl, by decide +kernel, rfl, by decide +kernel, by decide +kernel⟩
theorem ok__law_raw (F : Fun K "_law_raw" "_law_raw" s__law_raw f fd) (T : Txt mg) (C__law_cell : Cal P w K mg base 1 "_law_cell" ["script", "k"] (spCell K)) (C__law_digits : Cal P w K mg base 1 "_law_digits" ["cell", "sizes"] (spDigits K)) : FnOk P w K mg base CX0 2 f fd ["script", "at", "size"] (spRaw K) := by
  refine F.ok sc__law_raw (fun vs H Q E h => ?_) (fun cdv A outer s H vs Q E hr h => ?_)
  · obtain ⟨a, ns, at_, n, rfl, _⟩ := h
    rfl
  obtain ⟨a, ns, at_, n, rfl, ha, ha0, ha1, hn, q⟩ := h
  refine ⟨_, (pss_cons (ps_set (i := 3) sc__law_raw.nd rfl (Or.inl rfl) (pe_cal C__law_digits (hr.mono (by omega)) rfl (pa_cons (pe_cal C__law_cell (hr.mono (by omega)) rfl (pa_cons (pv 0) (pa_cons (pv 1) pa_nil))) (pa_cons (pe_op op_rep (pe_lst (pa_cons pe_int pa_nil)) pe_int) pa_nil))))
  (pss_cons (ps_setLc (i := 6) (own := [("i", 4)]) (g := gName 4) (tt := tYes) (by rfl) sc__law_raw.nd rfl rfl (sw_true rfl rfl rfl (by decide +kernel)) (pi_range1 (by rfl) T.b_range (pa_cons (pv 2) pa_nil)) (blkOk_by (N := N__law_raw) (sc := defScope s__law_raw) (by decide +kernel)) (fun _ _ _ _ _ => (pg_name (i := 4) sc__law_raw.nd rfl (Or.inl rfl))) (fun _ _ _ _ _ => pts_nil) (fun _ _ _ _ _ => (pe_lc (own := [("j", 5)]) (g := gName 5) (tt := tYes) (by rfl) sc__law_raw.nd (pi_range1 (by rfl) T.b_range (pa_cons (pv 2) pa_nil)) (blk_nest (N := N__law_raw) (sc0 := defScope s__law_raw) rfl (by decide +kernel)) (fun _ _ _ _ _ => (pg_name (i := 5) sc__law_raw.nd rfl (Or.inl rfl))) (fun _ _ _ _ _ => pts_nil) (fun _ _ _ _ _ => pe_int))))
  (pss_cons (ps_set (i := 7) sc__law_raw.nd rfl (Or.inl rfl) pe_int)
  (pss_cons (ps_for PassesOwn.never rfl (pi_range1 (by rfl) T.b_range (pa_cons (pv 2) pa_nil)) (pg_name (i := 4) sc__law_raw.nd rfl (Or.inl rfl)) (pss_one (ps_for PassesOwn.never rfl (pi_range2 (by rfl) T.b_range (pa_cons (pv 4) (pa_cons (pv 2) pa_nil))) (pg_name (i := 5) sc__law_raw.nd rfl (Or.inl rfl)) (pss_cons (ps_asg (pe_op op_sub (pe_ix ix_list (pv 3) (pv 7) (fun _ _ => rfl)) pe_int) (pg_sub (pe_ix ix_list (pv 6) (pv 4) (fun _ _ => rfl)) (pv 5) set_list))
  (pss_cons (ps_asg (pe_op op_sub (pe_ix ix_list (pv 3) (pv 7) (fun _ _ => rfl)) pe_int) (pg_sub (pe_ix ix_list (pv 6) (pv 5) (fun _ _ => rfl)) (pv 4) set_list))
  (pss_one (ps_set (i := 7) sc__law_raw.nd rfl (Or.inl rfl) (pe_op op_add (pv 7) pe_int))))))))
  (pss_one (ps_ret (pv 6))))))), ?_⟩
  refine ⟨_, rfl, _, rfl, a, ns, at_, rfl, ha, by omega, by omega, fun c => ?_⟩
  refine ⟨one_line, fun l1 hl1 => ⟨l1, 21, _, rfl, rfl, upd_same, by decide, by decide, line_ge (by decide), fun l2 hl2 => ?_⟩⟩
  have s2 := (same_new hl1 (.lst [V.int 19])).trans (same_new hl2 (.lst (List.replicate (21 : Int).toNat [V.int 19]).flatten))
  refine ⟨c, l2, zsQ, rfl, SqL.of upd_same, by decide, zsQ_ok, fun p ls hp hd => ?_⟩
  have s3 := s2.trans (same_new hp (.lst (ls.map V.int)))
  obtain ⟨y, ely, hln⟩ := ln_dig (p := p) hd (m := 21) rfl zsQ_le upd_same
  generalize hH3 : upd _ p (.lst (ls.map V.int)) = H3 at *
  refine ⟨_, rfl, (n : Int), rfl, by omega, by omega, fun D hD => ?_⟩
  refine ⟨fun i m H' => m = n - i ∧ i ≤ n ∧ ∃ rs, ZT H3 H' D rs n i, ⟨_, rfl, Nat.zero_le _, [], new_same hD _, upd_same, rfl, List.nodup_nil, by simp, by simp, by simp⟩, ?_⟩
  rintro i m H1 ⟨rfl, hi, rs, z⟩
  by_cases hlt : i < n
  · refine .inr ⟨by show i < (n : Int).toNat; omega, fun H' => ∃ rs, ZT H3 H' D rs n (i + 1), fun H' h' => ⟨_, by omega, rfl, hlt, h'⟩, ?_⟩
    rintro x H2 ⟨rfl, rfl⟩
    refine ⟨rfl, lc_yes ⟨_, rfl, (n : Int), rfl, by omega, by omega, fun D2 hD2 => ?_⟩⟩
    refine lc_m (walk_range (lo := 0) (n := n)) RI (stb_RI (K := K)) (List.range n) (by rw [List.length_range]) (by rw [List.length_range]; omega) hD2 (fun _ _ => trivial) (fun _ _ _ _ => ys_fn) (fun _ => (0 : Int)) (fun c j x2 H3 H4 hc s3 s4 y A B hA => ?_) (fun H3 l s3 hl3 rs3 => ?_)
    · rw [y.2]
      exact ⟨rfl, lc_yes (hA _ _ (fun _ _ h => h) rfl)⟩
    · have hz := zero_vec (m := n) rs3
      refine ⟨rs.map V.ref, s3 _ _ z.at_, sizes (by rw [List.length_map, z.len]; omega), rs ++ [D2], ?_⟩
      exact z.snoc hD s3 hD2 (by rw [hl3, hz])
  · have ei : i = n := by omega
    subst ei
    refine .inl ⟨by show (i : Int).toNat ≤ i; omega, ?_⟩
    clear hlt
    have mt := z.mt
    refine ⟨_, rfl, (i : Int), rfl, by omega, by omega, for_range (lo := 0) (n := i) (fun k σ H' => ∃ (v4 v5 : Option V) (f : Nat → Nat → Int), σ = [some (.ref a), some (.int at_), some (.int i), some (.ref p), v4, v5, some (.ref D), some (.int (pl i k : Nat))] ∧ MT H3 H' D rs i f ∧ (∀ a b, f a b = f b a) ∧ ∀ a b, B 17 (f a b)) ⟨none, none, _, rfl, mt, fun _ _ => rfl, fun _ _ => by decide⟩ ?_ ?_⟩
    · rintro k σ H4 hk ⟨v4, v5, f, rfl, mt4, sy, bB⟩
      have hpl := pl_le i hn k hk
      refine ⟨_, rfl, _, rfl, _, _, rfl, ⟨by omega, by omega, by omega, by omega⟩, for_range (lo := 0 + (k : Int)) (n := ((i : Int) - (0 + (k : Int))).toNat) (fun j σ H' => ∃ (v5 : Option V) (f : Nat → Nat → Int), σ = [some (.ref a), some (.int at_), some (.int i), some (.ref p), some (.int (0 + (k : Int))), v5, some (.ref D), some (.int ((pl i k + j : Nat) : Int))] ∧ MT H3 H' D rs i f ∧ (∀ a b, f a b = f b a) ∧ ∀ a b, B 17 (f a b)) ⟨v5, f, rfl, mt4, sy, bB⟩ ?_ ?_⟩
      · rintro j σ H5 hj ⟨v5, f, rfl, mt5, sy, bB⟩
        have hki : k + j < i := by omega
        have hp5 := mt5.same _ _ hln.1
        have hpj : pl i k + j < 21 := by omega
        have e1 : (0 + (k : Int)).toNat = k := by omega
        have e2 : (0 + (k : Int) + (j : Int)).toNat = k + j := by omega
        obtain ⟨pk, hpk1, hpk2⟩ := mt5.row k hk
        have vB : B 17 (y (pl i k + j) - 9) := B17 (by have := hln.2 _ hpj; omega)
        refine ⟨_, rfl, _, rfl, p, _, _, _, rfl, rfl, SqL.of hp5, ixa (k := pl i k + j) (by omega) (by omega) hpj, _, _, rfl, rfl, ?_⟩
        refine ⟨_, rfl, _, rfl, D, _, _, _, rfl, rfl, SqL.of mt5.at_, at_pos (by omega) (by rw [e1, List.getElem?_map, hpk1]; rfl), _, rfl, pk, _, _, k + j, rfl, rfl, hpk2, by rw [vec_lenV]; unfold ixN; rw [if_pos (by omega), if_pos (by omega)]; congr 1, ?_⟩
        have mt6 := mt5.set (v := y (pl i k + j) - 9) hk hki hpk1
        have hp6 := mt6.same _ _ hln.1
        obtain ⟨pj, hpj1, hpj2⟩ := mt6.row (k + j) hki
        refine ⟨_, rfl, _, rfl, p, _, _, _, rfl, rfl, SqL.of hp6, ixa (k := pl i k + j) (by omega) (by omega) hpj, _, _, rfl, rfl, ?_⟩
        refine ⟨_, rfl, _, rfl, D, _, _, _, rfl, rfl, SqL.of mt6.at_, at_pos (by omega) (by rw [e2, List.getElem?_map, hpj1]; rfl), _, rfl, pj, _, _, k, rfl, rfl, hpj2, by rw [vec_lenV]; unfold ixN; rw [if_pos (by omega), if_pos (by omega)]; congr 1, ?_⟩
        have mt7 := mt6.set (v := y (pl i k + j) - 9) hki hk hpj1
        refine ⟨_, rfl, _, _, rfl, rfl, ?_⟩
        exact ⟨some (.int (0 + (k : Int) + (j : Int))), _, rfl, mt7, put_sym sy, put_B (put_B bB vB) vB⟩
      · rintro σ H5 ⟨v5, f, rfl, mt5, sy, bB⟩
        refine ⟨some (.int (0 + (k : Int))), v5, f, ?_, mt5, sy, bB⟩
        rw [show pl i k + ((i : Int) - (0 + (k : Int))).toNat = pl i (k + 1) by show _ = pl i k + (i - k); omega]
    · rintro σ H4 ⟨v4, v5, f, rfl, mt4, sy, bB⟩
      exact ⟨_, rfl, q D H4 f (s3.trans mt4.same) mt4.ltab sy bB⟩
end
end P09
namespace P09
open PySem PySem.Spec PyProof.Rows L2 SX EX WK
/-! the draws once more, now with what they tell -/
def celS (s c : Int) : Int := (s * 31 + c % 1000003) % 1000003
def cellF (ns : List Int) (k : Int) : Int := if k < (ns.length : Int) then ns.getD k.toNat 0 else (((ns.foldl celS 17 + 7) * (k + 3) * 69621) % 2147483647)
theorem cellF_at {ns : List Int} {k z : Int} (h : k < (ns.length : Int)) (e : ns[k.toNat]? = some z) : cellF ns k = z := by
  unfold cellF
  rw [if_pos h, List.getD_eq_getElem?_getD, e]
  rfl
theorem cellF_out {ns : List Int} {k : Int} (h : ¬ k < (ns.length : Int)) : cellF ns k = ((ns.foldl celS 17 + 7) * (k + 3) * 69621) % 2147483647 := if_neg h
def bigS (s : Int × List Int) (x : Int) : Int × List Int := (s.1 / x, s.2 ++ [s.1 % x])
def smlS (s : Int × List Int) (x : Int) : Int × List Int := ((s.1 * 48271 + 974711 * (0 + (s.2.length : Int)) + 12345) % 2147483647, s.2 ++ [((s.1 * 48271 + 974711 * (0 + (s.2.length : Int)) + 12345) % 2147483647 * ((s.1 * 48271 + 974711 * (0 + (s.2.length : Int)) + 12345) % 2147483647 / 65537 + 3)) % 2147483629 / 19 % x])
def digF (c : Int) (zs : List Int) : List Int := if 10 ^ (18 : Int).toNat ≤ c then (zs.foldl bigS (c - 10 ^ (18 : Int).toNat, [])).2 else (zs.foldl smlS (c % 2147483629, [])).2
def spCellF (K : PySem.W.Frag) : Sp := fun vs H Q _ => ∃ (a : Addr) (ns : List Int) (k : Int), vs = [.ref a, .int k] ∧ SqL K H a (ns.map V.int) ∧ 0 ≤ k ∧ k ≤ 1000 ∧ Q (.int (cellF ns k)) H
def spDigitsF (K : PySem.W.Frag) : Sp := fun vs H Q _ => ∃ (c : Int) (a : Addr) (zs : List Int), vs = [.int c, .ref a] ∧ SqL K H a (zs.map V.int) ∧ zs.length ≤ 1000 ∧ (∀ z ∈ zs, 0 < z ∧ z.natAbs < 2 ^ 2000) ∧
  ∀ p, H p = none → Dig (digF c zs) zs → Q (.ref p) (upd H p (.lst ((digF c zs).map V.int)))
section
variable {P : Program} {w : World} {K : PySem.W.Frag} {mg : Str → Option Value} {base : Heap} {f : Addr} {fd : FuncData} {cF cR : Addr}
theorem okF__law_cell (F : Fun K "_law_cell" "_law_cell" s__law_cell f fd) (T : Txt mg) : FnOk P w K mg base CX0 1 f fd ["script", "k"] (spCellF K) := by
  refine F.ok sc__law_cell (fun vs H Q E h => ?_) (fun cdv A outer s H vs Q E hr h => ?_)
  · obtain ⟨a, ns, k, rfl, _⟩ := h
    rfl
  obtain ⟨a, ns, k, rfl, hs, h0, h1, q⟩ := h
  refine ⟨_, (pss_cons (ps_if (pt_cmpR op_lt (pv 1) (pe_callB call_len_seq (by rfl) T.b_len PySem.boot_len (pa_cons (pv 0) pa_nil)) (nomark _)) (pss_one (ps_ret (pe_ix ix_list (pv 0) (pv 1) (fun _ _ => rfl)))) pss_nil)
  (pss_cons (ps_set (i := 2) sc__law_cell.nd rfl (Or.inl rfl) pe_int)
  (pss_cons (ps_for PassesOwn.never rfl (pi_list (pv 0)) (pg_name (i := 3) sc__law_cell.nd rfl (Or.inl rfl)) (pss_one (ps_set (i := 2) sc__law_cell.nd rfl (Or.inl rfl) (pe_op op_mod (pe_callTy call_int1 (by rfl) T.b_int (by decide +kernel) (pa_cons (pe_op op_add (pe_op op_mul (pv 2) pe_int) (pe_op op_mod (pe_callTy call_int1 (by rfl) T.b_int (by decide +kernel) (pa_cons (pv 3) pa_nil)) pe_int)) pa_nil)) pe_int))))
  (pss_one (ps_ret (pe_op op_mod (pe_callTy call_int1 (by rfl) T.b_int (by decide +kernel) (pa_cons (pe_op op_mul (pe_op op_mul (pe_op op_add (pv 2) pe_int) (pe_op op_add (pv 1) pe_int)) pe_int) pa_nil)) pe_int)))))), ?_⟩
  refine ⟨_, rfl, _, rfl, a, _, rfl, .inl hs, _, _, rfl, rfl, _, rfl, ?_⟩
  refine ite2 (fun c => ?_) (fun c => ?_)
  · have c' : k < (((ns.map V.int).length : Nat) : Int) := of_decide_eq_true c
    rw [List.length_map] at c'
    obtain ⟨z, hz⟩ : ∃ z, ns[k.toNat]? = some z := ⟨ns[k.toNat]'(by omega), List.getElem?_eq_getElem (by omega)⟩
    exact ⟨_, rfl, _, rfl, a, _, k, _, rfl, rfl, hs, at_pos h0 (int_at hz), by rw [cellF_at c' hz] at q; exact q⟩
  · refine ⟨_, rfl, a, rfl, ⟨_, hs⟩, for_list (K := K) (a := a) (xs := ns.map V.int) (fun i σ H' => ∃ (z : Int) (v : Option V), σ = [some (.ref a), some (.int k), some (.int z), v] ∧ H' = H ∧ z = (ns.take i).foldl celS 17)
      ⟨17, none, rfl, rfl, rfl⟩ (fun i σ H' _ ⟨_, _, _, e, _⟩ => by rw [e]; exact hs) ?_ ?_⟩
    · rintro i y σ H' hi ⟨z, v, rfl, rfl, ez⟩
      obtain ⟨x, hx, rfl⟩ := map_int hi
      refine ⟨_, rfl, _, _, rfl, rfl, .inr (by decide), _, rfl, .inl ⟨_, rfl, _, _, rfl, rfl, (by show (0 : Int) < 1000003; decide), _, _, rfl, rfl, .inl ⟨_, rfl, _, _, rfl, rfl, (by show (0 : Int) < 1000003; decide), ?_⟩⟩⟩
      exact ⟨_, _, rfl, rfl, by rw [take_snoc hx, List.foldl_append, ← ez]; rfl⟩
    · rintro σ H' ⟨z, v, rfl, rfl, ez⟩
      rw [List.length_map, List.take_length] at ez
      refine ⟨_, rfl, _, _, rfl, rfl, _, rfl, _, _, rfl, rfl, _, _, rfl, rfl, .inr (by omega), _, _, rfl, rfl, .inr (by decide), .inl ⟨_, rfl, _, _, rfl, rfl, (by show (0 : Int) < 2147483647; decide), ?_⟩⟩
      rw [cellF_out (by intro h; exact c (decide_eq_true (by rw [List.length_map]; exact h))), ← ez] at q
      exact q
theorem okF__law_digits (F : Fun K "_law_digits" "_law_digits" s__law_digits f fd) (T : Txt mg) : FnOk P w K mg base CX0 1 f fd ["cell", "sizes"] (spDigitsF K) := by
  refine F.ok sc__law_digits (fun vs H Q E h => ?_) (fun cdv A outer s H vs Q E hr h => ?_)
  · obtain ⟨c, a, zs, rfl, _⟩ := h
    rfl
  obtain ⟨c, a, zs, rfl, hs, hz9, hz, q⟩ := h
  refine ⟨_, (pss_cons (ps_set (i := 2) sc__law_digits.nd rfl (Or.inl rfl) (pe_lst pa_nil))
  (pss_cons (ps_set (i := 3) sc__law_digits.nd rfl (Or.inl rfl) (pe_callTy call_int1 (by rfl) T.b_int (by decide +kernel) (pa_cons (pv 0) pa_nil)))
  (pss_cons (ps_if (pt_cmpR op_ge (pv 3) (pe_op op_pow pe_int pe_int) (nomark _)) (pss_cons (ps_set (i := 3) sc__law_digits.nd rfl (Or.inl rfl) (pe_op op_sub (pv 3) (pe_op op_pow pe_int pe_int)))
  (pss_cons (ps_for PassesOwn.never rfl (pi_list (pv 1)) (pg_name (i := 4) sc__law_digits.nd rfl (Or.inl rfl)) (pss_cons (ps_expr (pe_bm PySem.F.plainAttrs_list PySem.F.slot_list_append PySem.F.type_list_append mt_append (pv 2) (pa_cons (pe_op op_mod (pe_callTy call_int1 (by rfl) T.b_int (by decide +kernel) (pa_cons (pv 3) pa_nil)) (pv 4)) pa_nil)))
  (pss_one (ps_set (i := 3) sc__law_digits.nd rfl (Or.inl rfl) (pe_op op_fdivW (pe_callTy call_int1 (by rfl) T.b_int (by decide +kernel) (pa_cons (pv 3) pa_nil)) (pv 4))))))
  (pss_one (ps_ret (pv 2))))) pss_nil)
  (pss_cons (ps_set (i := 5) sc__law_digits.nd rfl (Or.inl rfl) (pe_op op_mod (pe_callTy call_int1 (by rfl) T.b_int (by decide +kernel) (pa_cons (pv 3) pa_nil)) pe_int))
  (pss_cons (ps_for PassesOwn.never rfl (pi_range1 (by rfl) T.b_range (pa_cons (pe_callB call_len_seq (by rfl) T.b_len PySem.boot_len (pa_cons (pv 1) pa_nil)) pa_nil)) (pg_name (i := 6) sc__law_digits.nd rfl (Or.inl rfl)) (pss_cons (ps_set (i := 5) sc__law_digits.nd rfl (Or.inl rfl) (pe_op op_mod (pe_callTy call_int1 (by rfl) T.b_int (by decide +kernel) (pa_cons (pe_op op_add (pe_op op_add (pe_op op_mul (pv 5) pe_int) (pe_op op_mul pe_int (pv 6))) pe_int) pa_nil)) pe_int))
  (pss_cons (ps_set (i := 7) sc__law_digits.nd rfl (Or.inl rfl) (pe_op op_mod (pe_callTy call_int1 (by rfl) T.b_int (by decide +kernel) (pa_cons (pe_op op_mul (pv 5) (pe_op op_add (pe_op op_fdiv (pv 5) pe_int) pe_int)) pa_nil)) pe_int))
  (pss_one (ps_expr (pe_bm PySem.F.plainAttrs_list PySem.F.slot_list_append PySem.F.type_list_append mt_append (pv 2) (pa_cons (pe_op op_mod (pe_op op_fdiv (pv 7) pe_int) (pe_ix ix_list (pv 1) (pv 6) (fun _ _ => rfl))) pa_nil)))))))
  (pss_one (ps_ret (pv 2)))))))), ?_⟩
  have keep : ∀ {p : Addr} {o : HO}, H p = none → SqL K (upd H p o) a (zs.map V.int) := fun hp => (same_new hp _).seq hs
  refine ⟨(by show 0 ≤ sizeLine; exact Nat.zero_le _), fun p hp => ?_⟩
  refine ⟨_, rfl, .inl ⟨_, rfl, ?_⟩⟩
  refine ⟨_, rfl, _, _, rfl, rfl, ⟨by decide, by decide, by decide⟩, _, _, rfl, rfl, _, rfl, ?_⟩
  refine ite2 (fun cb => ?_) (fun cb => ?_)
  · refine ⟨_, rfl, _, _, rfl, rfl, ⟨by decide, by decide, by decide⟩, _, _, rfl, rfl, ?_⟩
    refine ⟨_, rfl, a, rfl, ⟨_, keep hp⟩, for_list (K := K) (a := a) (xs := zs.map V.int) (fun i σ H' => ∃ (z : Int) (v : Option V) (ns : List Int), σ = [some (.int c), some (.ref a), some (.ref p), some (.int z), v, none, none, none] ∧ H' = upd H p (.lst (ns.map V.int)) ∧ Dig ns (zs.take i) ∧ (z, ns) = (zs.take i).foldl bigS (c - 10 ^ (18 : Int).toNat, []))
      ⟨_, none, [], rfl, rfl, .nil, rfl⟩ (fun i σ H' _ ⟨_, _, _, _, e, _⟩ => by rw [e]; exact keep hp) ?_ ?_⟩
    · rintro i y σ H' hi ⟨z, v, ns, rfl, rfl, hd, ef⟩
      obtain ⟨x, hx, rfl⟩ := map_int hi
      have hx2 := hz x (List.mem_of_getElem? hx)
      have hlen : ns.length ≤ 1000 := by
        have := hd.len
        rw [List.length_take] at this
        omega
      refine ⟨_, rfl, .inl ⟨rfl, _, SqL.of upd_same⟩, _, rfl, .inl ⟨_, rfl, _, rfl, _, _, rfl, rfl, hx2.1, p, _, _, rfl, rfl, upd_same, by rw [List.length_map]; exact small1000 hlen, ?_⟩⟩
      refine ⟨_, rfl, .inl ⟨_, rfl, _, rfl, _, _, rfl, rfl, wide_div hx2.1 hx2.2 (by decide) (by decide), ?_⟩⟩
      exact ⟨_, _, ns ++ [z % x], rfl, by rw [upd_upd, snoc_int], by rw [take_snoc hx]; exact hd.snoc (Int.emod_nonneg _ (by omega)) (Int.emod_lt_of_pos _ hx2.1), by rw [take_snoc hx, List.foldl_append, ← ef]; rfl⟩
    · rintro σ H' ⟨z, v, ns, rfl, rfl, hd, ef⟩
      rw [List.length_map, List.take_length] at hd ef
      have en : ns = digF c zs := by
        unfold digF
        rw [if_pos (of_decide_eq_true cb), ← ef]
      rw [en] at hd ⊢
      exact ⟨_, rfl, q p hp hd⟩
  · refine ⟨_, rfl, .inl ⟨_, rfl, _, _, rfl, rfl, (by show (0 : Int) < 2147483629; decide), ?_⟩⟩
    refine ⟨_, rfl, a, _, rfl, .inl (keep hp), _, rfl, by rw [List.length_map]; omega, by rw [List.length_map]; omega, for_range (lo := 0) (n := (((zs.map V.int).length : Nat) : Int).toNat)
      (fun i σ H' => ∃ (sd : Int) (v6 v7 : Option V) (r : Int) (ns : List Int), σ = [some (.int c), some (.ref a), some (.ref p), some (.int r), none, some (.int sd), v6, v7] ∧ 0 ≤ sd ∧ sd < 2147483648 ∧ H' = upd H p (.lst (ns.map V.int)) ∧ Dig ns (zs.take i) ∧ (sd, ns) = (zs.take i).foldl smlS (c % 2147483629, []))
      ⟨_, none, none, _, [], rfl, Int.emod_nonneg _ (by decide), Int.lt_trans (Int.emod_lt_of_pos _ (by decide)) (by decide), rfl, .nil, rfl⟩ ?_ ?_⟩
    · rintro i σ H' hi ⟨sd, v6, v7, r, ns, rfl, hs0, hs1, rfl, hd, ef⟩
      rw [Int.toNat_natCast, List.length_map] at hi
      have hli : ns.length = i := by
        have := hd.len
        rw [List.length_take] at this
        omega
      obtain ⟨x, hx⟩ : ∃ x, zs[i]? = some x := ⟨zs[i], List.getElem?_eq_getElem hi⟩
      have hx2 := hz x (List.mem_of_getElem? hx)
      have hlen : ns.length ≤ 1000 := by
        have := hd.len
        rw [List.length_take] at this
        omega
      refine ⟨_, rfl, _, _, rfl, rfl, .inr (by decide), _, rfl, _, _, rfl, rfl, .inl (by decide), _, _, rfl, rfl, _, _, rfl, rfl, .inl ⟨_, rfl, _, _, rfl, rfl, (by show (0 : Int) < 2147483647; decide), ?_⟩⟩
      have b0 : 0 ≤ (sd * 48271 + 974711 * (0 + (i : Int)) + 12345) % 2147483647 := Int.emod_nonneg _ (by decide)
      have b1 : (sd * 48271 + 974711 * (0 + (i : Int)) + 12345) % 2147483647 < 2147483648 := Int.lt_trans (Int.emod_lt_of_pos _ (by decide)) (by decide)
      refine ⟨_, rfl, _, rfl, _, _, rfl, rfl, ⟨by decide, by decide⟩, _, _, rfl, rfl, _, _, rfl, rfl, .inl ⟨Int.lt_of_lt_of_le (by decide) b0, Int.lt_trans b1 (by decide)⟩, .inl ⟨_, rfl, _, _, rfl, rfl, (by show (0 : Int) < 2147483629; decide), ?_⟩⟩
      refine ⟨_, rfl, .inl ⟨rfl, _, SqL.of upd_same⟩, _, rfl, _, _, rfl, rfl, ⟨by decide, by decide⟩, _, rfl, _, rfl, a, _, _, _, rfl, rfl, keep hp, at_pos (by omega) (int_at (by rw [show ((0 : Int) + (i : Nat)).toNat = i by omega]; exact hx)), _, _, rfl, rfl, hx2.1, p, _, _, rfl, rfl, upd_same, by rw [List.length_map]; exact small1000 hlen, ?_⟩
      exact ⟨_, _, _, r, _, rfl, b0, b1, by rw [upd_upd, snoc_int], by rw [take_snoc hx]; exact hd.snoc (Int.emod_nonneg _ (by omega)) (Int.emod_lt_of_pos _ hx2.1), by rw [take_snoc hx, List.foldl_append, ← ef]; unfold smlS; rw [List.foldl_cons, List.foldl_nil, hli]⟩
    · rintro σ H' ⟨sd, v6, v7, r, ns, rfl, hs0, hs1, rfl, hd, ef⟩
      rw [Int.toNat_natCast, List.length_map, List.take_length] at hd ef
      have en : ns = digF c zs := by
        unfold digF
        rw [if_neg (fun h => cb (decide_eq_true h)), ← ef]
      rw [en] at hd ⊢
      exact ⟨_, rfl, q p hp hd⟩
end
end P09
namespace P09
open PySem PySem.Spec PyProof.Rows L2 SX EX WK
theorem dig_vec {ns zs : List Int} {m : Nat} (d : Dig ns zs) (hl : zs.length = m) : ∃ y : Nat → Int, ns = vec m y ∧ ∀ i z, zs[i]? = some z → 0 ≤ y i ∧ y i < z := by
  refine ⟨fun i => ns.getD i 0, vec_of (by rw [d.len, hl]), fun i z e => ?_⟩
  obtain ⟨n, h1, h2, h3⟩ := d.get e
  show 0 ≤ ns.getD i 0 ∧ ns.getD i 0 < z
  rw [List.getD_eq_getElem?_getD, h1]
  exact ⟨h2, h3⟩
def zsP : List Int := [21, 21, 21, 21, 21, 21, 21, 21, 21, 21, 6]
theorem zsP_ok : ∀ z ∈ zsP, 0 < z ∧ z.natAbs < 2 ^ 2000 := szs (by decide +kernel)
theorem zsP_le : ∀ z ∈ zsP, z ≤ 1000 := by decide
def ptF (c : Int) : Nat → Int := if (digF c zsP).getD 10 0 = 5 then fun k => ((digF c zsP).getD k 0 - 10) * 999983 + (k : Int) else fun k => (digF c zsP).getD k 0 - 10
def zsO : List Int := [2520, 2520, 2520, 2520, 2520, 2520, 2520, 2520, 2520, 2520]
theorem zsO_ok : ∀ z ∈ zsO, 0 < z ∧ z.natAbs < 2 ^ 2000 := szs (by decide +kernel)
theorem nil_line : 0 ≤ sizeLine := Nat.zero_le _
section
variable {P : Program} {w : World} {K : PySem.W.Frag} {mg : Str → Option Value} {base : Heap} {f : Addr} {fd : FuncData} {cF cR : Addr}
def spFrac : Sp := fun vs H Q _ => ∃ (p : Addr) (t b : Int), vs = [.ref p] ∧ FrAt H p t b ∧ 1 ≤ b ∧ B 40000 b ∧ gI t b = 1 ∧ Q (.bl true) H
abbrev s__law_is_fraction : Stmt := top 48
abbrev N__law_is_fraction : List Str := ["value"]
theorem sc__law_is_fraction : FnScope N__law_is_fraction ["value"] (defScope s__law_is_fraction) := ⟨rfl, rfl, rfl, by decide +kernel, rfl, by decide +kernel, by decide +kernel⟩
theorem ok__law_is_fraction (F : Fun K "_law_is_fraction" "_law_is_fraction" s__law_is_fraction f fd) (T : Txt mg) (C__law_whole : Cal P w K mg base 1 "_law_whole" ["value"] spLaw_whole) (C__law_gcd : Cal P w K mg base 1 "_law_gcd" ["one", "two"] spGcd) : FnOk P w K mg base CX0 2 f fd ["value"] spFrac := by
  refine F.ok sc__law_is_fraction (fun vs H Q E h => ?_) (fun cdv A outer s H vs Q E hr h => ?_)
  · obtain ⟨p, t, b, rfl, _⟩ := h
    rfl
  obtain ⟨p, t, b, rfl, hp, hb, hB, hg, q⟩ := h
  refine ⟨_, (pss_cons (ps_if (PW.pt (pw_or (pt_not (pt_val (pe_callB call_isi (by rfl) T.b_isinstance (by decide +kernel) (pa_cons (pv 0) (pa_cons (pe_bltn (v := .ty "tuple") (by rfl) T.b_tuple (by decide +kernel) rfl) pa_nil))))) (pw_or (pt_cmpR op_ne (pe_callB call_len_seq (by rfl) T.b_len PySem.boot_len (pa_cons (pv 0) pa_nil)) pe_int (nomark _)) (pw_or (pt_not (pt_val (pe_cal C__law_whole (hr.mono (by omega)) rfl (pa_cons (pe_ix ix_tup (pv 0) pe_int (fun _ _ => rfl)) pa_nil)))) (pw_or1 (pt_not (pt_val (pe_cal C__law_whole (hr.mono (by omega)) rfl (pa_cons (pe_ix ix_tup (pv 0) pe_int (fun _ _ => rfl)) pa_nil))))))))) (pss_one (ps_ret pe_bl)) pss_nil)
  (pss_one (ps_ret (pe_and (pe_cmpR op_ge (pe_ix ix_tup (pv 0) pe_int (fun _ _ => rfl)) pe_int (nomark _)) (pe_one (pe_cmpR op_eq (pe_cal C__law_gcd (hr.mono (by omega)) rfl (pa_cons (pe_ix ix_tup (pv 0) pe_int (fun _ _ => rfl)) (pa_cons (pe_ix ix_tup (pv 0) pe_int (fun _ _ => rfl)) pa_nil))) pe_int (nomark _))))))), ?_⟩
  refine ⟨_, rfl, _, _, _, _, true, rfl, .ty _, .base (.tup hp), kit6, true, rfl, ifF rfl ?_⟩
  refine ⟨_, rfl, p, _, rfl, .inr (SqT.of hp), rfl, _, rfl, ifF (by simp) ?_⟩
  refine ⟨_, rfl, p, _, 0, _, rfl, rfl, SqT.of hp, at_pos (by decide) rfl, t, rfl, true, rfl, ifF rfl ?_⟩
  refine ⟨_, rfl, p, _, 1, _, rfl, rfl, SqT.of hp, at_pos (by decide) rfl, b, rfl, true, rfl, ifF rfl ?_⟩
  refine ⟨_, rfl, p, _, 1, _, rfl, rfl, SqT.of hp, at_pos (by decide) rfl, _, _, rfl, rfl, _, rfl, ifT (decide_eq_true hb) ?_⟩
  refine ⟨_, rfl, p, _, 0, _, rfl, rfl, SqT.of hp, at_pos (by decide) rfl, _, rfl, p, _, 1, _, rfl, rfl, SqT.of hp, at_pos (by decide) rfl, t, b, rfl, hB, rfl, ?_⟩
  rw [hg]
  exact q
def spIsVec (K : PySem.W.Frag) : Sp := fun vs H Q _ => ∃ (t u : Addr) (n : Nat) (e : Int) (y : Nat → Int), vs = [.ref t, .int n] ∧ H t = some (.tup [.ref u, .int e]) ∧ H u = some (.tup ((vec n y).map V.int)) ∧ n ≤ 1000 ∧ 0 < e ∧ (∀ i, i < n → B 40000 (y i)) ∧ gf e (vec n y) = 1 ∧ ∀ H', Same H H' → Q (.bl true) H'
abbrev s__law_is_vector : Stmt := top 50
abbrev N__law_is_vector : List Str := ["value", "size", "shared", "number"]
theorem sc__law_is_vector : FnScope N__law_is_vector ["value", "size"] (defScope s__law_is_vector) := ⟨rfl, rfl, rfl, by decide +kernel, rfl, by decide +kernel, by decide +kernel⟩
theorem ok__law_is_vector (F : Fun K "_law_is_vector" "_law_is_vector" s__law_is_vector f fd) (T : Txt mg) (C__law_is_point : Cal P w K mg base 2 "_law_is_point" ["value", "size"] (spIsPoint K)) (C__law_gcd : Cal P w K mg base 1 "_law_gcd" ["one", "two"] spGcd) (C__law_whole : Cal P w K mg base 1 "_law_whole" ["value"] spLaw_whole) : FnOk P w K mg base CX0 3 f fd ["value", "size"] (spIsVec K) := by
  refine F.ok sc__law_is_vector (fun vs H Q E h => ?_) (fun cdv A outer s H vs Q E hr h => ?_)
  · obtain ⟨t, u, n, e, y, rfl, _⟩ := h
    rfl
  obtain ⟨t, u, n, e, y, rfl, ht, hu, hn, he, yB, hg, q⟩ := h
  refine ⟨_, (pss_cons (ps_if (PW.pt (pw_or (pt_not (pt_val (pe_callB call_isi (by rfl) T.b_isinstance (by decide +kernel) (pa_cons (pv 0) (pa_cons (pe_bltn (v := .ty "tuple") (by rfl) T.b_tuple (by decide +kernel) rfl) pa_nil))))) (pw_or (pt_cmpR op_ne (pe_callB call_len_seq (by rfl) T.b_len PySem.boot_len (pa_cons (pv 0) pa_nil)) pe_int (nomark _)) (pw_or (pt_not (pt_val (pe_cal C__law_whole (hr.mono (by omega)) rfl (pa_cons (pe_ix ix_tup (pv 0) pe_int (fun _ _ => rfl)) pa_nil)))) (pw_or1 (pt_cmpR op_lt (pe_ix ix_tup (pv 0) pe_int (fun _ _ => rfl)) pe_int (nomark _))))))) (pss_one (ps_ret pe_bl)) pss_nil)
  (pss_cons (ps_if (pt_not (pt_val (pe_cal C__law_is_point (hr.mono (by omega)) rfl (pa_cons (pe_ix ix_tup (pv 0) pe_int (fun _ _ => rfl)) (pa_cons (pv 1) pa_nil))))) (pss_one (ps_ret pe_bl)) pss_nil)
  (pss_cons (ps_set (i := 2) sc__law_is_vector.nd rfl (Or.inl rfl) (pe_ix ix_tup (pv 0) pe_int (fun _ _ => rfl)))
  (pss_cons (ps_for PassesOwn.never rfl (pi_tup (pe_ix ix_tup (pv 0) pe_int (fun _ _ => rfl))) (pg_name (i := 3) sc__law_is_vector.nd rfl (Or.inl rfl)) (pss_one (ps_set (i := 2) sc__law_is_vector.nd rfl (Or.inl rfl) (pe_cal C__law_gcd (hr.mono (by omega)) rfl (pa_cons (pv 2) (pa_cons (pv 3) pa_nil))))))
  (pss_one (ps_ret (pe_cmpR op_eq (pv 2) pe_int (nomark _)))))))), ?_⟩
  have hT := SqT.of (K := K) ht
  have hU := SqT.of (K := K) hu
  refine ⟨_, rfl, _, _, _, _, true, rfl, .ty _, ty_tup hT, kit6, true, rfl, ifF rfl ?_⟩
  refine ⟨_, rfl, t, _, rfl, .inr hT, rfl, _, rfl, ifF (by simp) ?_⟩
  refine ⟨_, rfl, t, _, 1, _, rfl, rfl, hT, at_pos (by decide) rfl, e, rfl, true, rfl, ifF rfl ?_⟩
  refine ⟨_, rfl, t, _, 1, _, rfl, rfl, hT, at_pos (by decide) rfl, _, _, rfl, rfl, _, rfl, ifF (decide_eq_false (by omega)) ?_⟩
  refine ⟨_, rfl, t, _, 0, _, rfl, rfl, hT, at_pos (by decide) rfl, _, rfl, u, n, y, rfl, hU, hn, fun H1 s1 => ⟨true, rfl, ifF rfl ?_⟩⟩
  have hT1 := Same_seqT s1 hT
  have hU1 := Same_seqT s1 hU
  refine ⟨_, rfl, t, _, 1, _, rfl, rfl, hT1, at_pos (by decide) rfl, ?_⟩
  refine ⟨_, rfl, t, _, 0, _, rfl, rfl, hT1, at_pos (by decide) rfl, u, rfl, ⟨_, hU1⟩, for_tup (K := K) (a := u) (xs := (vec n y).map V.int) (fun i σ H' => ∃ v3 : Option V, σ = [some (.ref t), some (.int n), some (.int (gf e ((vec n y).take i))), v3] ∧ H' = H1) ⟨none, rfl, rfl⟩ (fun i σ H' _ ⟨_, _, e⟩ => by rw [e]; exact hU1) ?_ ?_⟩
  · rintro i v σ H' hi ⟨v3, rfl, rfl⟩
    obtain ⟨m, hmi, rfl⟩ := ints_at hi
    have hm : B 40000 m := by
      obtain ⟨j, hj, rfl⟩ := List.mem_map.mp (List.mem_of_getElem? hmi)
      exact yB j (List.mem_range.mp hj)
    refine ⟨_, rfl, _, rfl, _, _, rfl, hm, some (V.int m), ?_, rfl⟩
    rw [take_one hmi, gf_snoc]
    rfl
  · rintro σ H' ⟨v3, rfl, rfl⟩
    rw [List.length_map, List.take_length, hg]
    exact ⟨_, rfl, rfl, q H' s1⟩
def spDpt (K : PySem.W.Frag) : Sp := fun vs H Q _ => ∃ (c : Int) (n : Nat), vs = [.int c, .int n] ∧ n ≤ 10 ∧ ∀ r H', Same H H' → H' r = some (.lst ((vec n (ptF c)).map V.int)) → (∀ k, k < n → B 40 (ptF c k)) → Q (.ref r) H'
abbrev s__law_draw_point : Stmt := top 58
abbrev N__law_draw_point : List Str := ["cell", "size", "row", "k"]
theorem sc__law_draw_point : FnScope N__law_draw_point ["cell", "size"] (defScope s__law_draw_point) := ⟨rfl, rfl, rfl, by decide +kernel, rfl, by decide +kernel, by decide +kernel⟩
theorem ok__law_draw_point (F : Fun K "_law_draw_point" "_law_draw_point" s__law_draw_point f fd) (T : Txt mg) (CF__law_digits : Cal P w K mg base 1 "_law_digits" ["cell", "sizes"] (spDigitsF K)) : FnOk P w K mg base CX0 2 f fd ["cell", "size"] (spDpt K) := by
  refine F.ok sc__law_draw_point (fun vs H Q E h => ?_) (fun cdv A outer s H vs Q E hr h => ?_)
  · obtain ⟨c, n, rfl, _⟩ := h
    rfl
  obtain ⟨c, n, rfl, hn, q⟩ := h
  refine ⟨_, (pss_cons (ps_set (i := 2) sc__law_draw_point.nd rfl (Or.inr rfl) (pe_cal CF__law_digits (hr.mono (by omega)) rfl (pa_cons (pv 0) (pa_cons (pe_op op_cat (pe_op op_rep (pe_lst (pa_cons pe_int pa_nil)) pe_int) (pe_lst (pa_cons pe_int pa_nil))) pa_nil))))
  (pss_cons (ps_if (pt_cmpR op_eq (pe_ix ix_list (pv 2) pe_int (fun _ _ => rfl)) pe_int (nomark _)) (pss_one (ps_ret (pe_lc (own := [("k", 3)]) (g := gName 3) (tt := tYes) (by rfl) sc__law_draw_point.nd (pi_range1 (by rfl) T.b_range (pa_cons (pv 1) pa_nil)) (blkOk_by (N := N__law_draw_point) (sc := defScope s__law_draw_point) (by decide +kernel)) (fun _ _ _ _ _ => (pg_name (i := 3) sc__law_draw_point.nd rfl (Or.inl rfl))) (fun _ _ _ _ _ => pts_nil) (fun _ _ _ _ _ => (pe_op op_add (pe_op op_mulW (pe_op op_sub (pe_ix (ix_listK (K := K) rfl) (pv 2) (pv 3) (fun _ _ => rfl)) pe_int) pe_int) (pv 3)))))) pss_nil)
  (pss_one (ps_ret (pe_lc (own := [("k", 3)]) (g := gName 3) (tt := tYes) (by rfl) sc__law_draw_point.nd (pi_range1 (by rfl) T.b_range (pa_cons (pv 1) pa_nil)) (blkOk_by (N := N__law_draw_point) (sc := defScope s__law_draw_point) (by decide +kernel)) (fun _ _ _ _ _ => (pg_name (i := 3) sc__law_draw_point.nd rfl (Or.inl rfl))) (fun _ _ _ _ _ => pts_nil) (fun _ _ _ _ _ => (pe_op op_sub (pe_ix (ix_listK (K := K) rfl) (pv 2) (pv 3) (fun _ _ => rfl)) pe_int))))))), ?_⟩
  refine ⟨_, rfl, one_line, fun l1 hl1 => ⟨l1, 10, _, rfl, rfl, upd_same, by decide, by decide, line_ge (by decide), fun l2 hl2 => ?_⟩⟩
  refine ⟨one_line, fun l3 hl3 => ⟨l2, l3, _, _, rfl, rfl, same_new hl3 _ _ _ upd_same, upd_same, line_ge (by decide), fun l4 hl4 => ?_⟩⟩
  have s4 := fun o => (same_new hl1 (.lst [V.int 21])).trans ((same_new hl2 (.lst (List.replicate (10 : Int).toNat [V.int 21]).flatten)).trans ((same_new hl3 (.lst [V.int 6])).trans (same_new hl4 o)))
  refine ⟨c, l4, zsP, rfl, SqL.of upd_same, by decide, zsP_ok, fun p hp hd => ?_⟩
  have s5 := (s4 (.lst ((List.replicate (10 : Int).toNat [V.int 21]).flatten ++ [V.int 6]))).trans (same_new hp (.lst ((digF c zsP).map V.int)))
  have dl : (digF c zsP).length = 11 := hd.len
  have hD0 : (digF c zsP) = vec 11 fun i => (digF c zsP).getD i 0 := vec_of dl
  obtain ⟨y, hy⟩ : ∃ y : Nat → Int, y = fun i => (digF c zsP).getD i 0 := ⟨_, rfl⟩
  rw [← hy] at hD0
  generalize hH5 : upd _ p (.lst ((digF c zsP).map V.int)) = H5 at *
  have h5p : H5 p = some (.lst ((vec 11 y).map V.int)) := by rw [← hH5, upd_same, ← hD0]
  have yb : ∀ i, i < 10 → 0 ≤ y i ∧ y i < 21 := fun i hi => by
    have e : zsP[i]? = some 21 := by
      have : ∀ i, i < 10 → zsP[i]? = some 21 := by decide
      exact this i hi
    obtain ⟨x, h1, h2⟩ := hd.get e
    rw [hy]
    show 0 ≤ (digF c zsP).getD i 0 ∧ (digF c zsP).getD i 0 < 21
    rw [List.getD_eq_getElem?_getD, h1]
    exact h2
  have hS := SqL.of (K := K) h5p
  have i0 : ∀ i : Nat, (0 + (i : Int)).toNat = i := fun i => by omega
  refine ⟨_, rfl, p, _, 10, _, rfl, rfl, hS, ixa (k := 10) (by decide) rfl (by decide), rfl, _, rfl, ite2 (fun ct => ?_) (fun cf => ?_)⟩
  · have c5 : y 10 = 5 := V.int.inj (of_decide_eq_true ct)
    have ep : ptF c = fun k => (y k - 10) * 999983 + (k : Int) := by
      unfold ptF
      rw [if_pos (by rw [hy] at c5; exact c5), hy]
    refine ⟨_, rfl, (n : Int), rfl, by omega, by omega, fun D hD => ?_⟩
    refine lc_m (walk_range (lo := 0) (n := n)) RI (stb_RI (K := K)) (List.range n) (by rw [List.length_range]) (by rw [List.length_range]; omega) hD (fun _ _ => trivial) (fun _ _ _ _ => ys_fn) (ptF c) (fun k i v H6 H7 hc s6 s7 yl A B2 hA => ?_) (fun H6 l6 s6 hl6 rz6 => ?_)
    · obtain ⟨hi, rfl⟩ := in_range hc
      rw [yl.2]
      have := yb i (by omega)
      refine ⟨rfl, lc_yes ⟨_, rfl, _, rfl, p, _, _, _, rfl, rfl, s7.seq hS, ixa (k := i) (by omega) (i0 i) (by omega), _, _, rfl, rfl, _, _, rfl, rfl, wmul (m := 30) (n := 30) (show (y i - 10).natAbs < 2 ^ 30 by omega) (by decide) (by decide) (by decide) (by decide), _, rfl, _, _, rfl, rfl, hA _ _ (fun _ _ h => h) ?_⟩⟩
      show V.int _ = V.int _
      rw [ep, Int.zero_add]
    · refine q D H6 (s5.trans s6) (by rw [hl6, rz6.ints]; rfl) fun k hk => ?_
      have := yb k (by omega)
      rw [ep]
      show ((y k - 10) * 999983 + (k : Int)).natAbs < 2 ^ 40
      omega
  · have c5 : ¬ y 10 = 5 := fun h => cf (decide_eq_true (by rw [h]))
    have ep : ptF c = fun k => y k - 10 := by
      unfold ptF
      rw [if_neg (by rw [hy] at c5; exact c5), hy]
    refine ⟨_, rfl, (n : Int), rfl, by omega, by omega, fun D hD => ?_⟩
    refine lc_m (walk_range (lo := 0) (n := n)) RI (stb_RI (K := K)) (List.range n) (by rw [List.length_range]) (by rw [List.length_range]; omega) hD (fun _ _ => trivial) (fun _ _ _ _ => ys_fn) (ptF c) (fun k i v H6 H7 hc s6 s7 yl A B2 hA => ?_) (fun H6 l6 s6 hl6 rz6 => ?_)
    · obtain ⟨hi, rfl⟩ := in_range hc
      rw [yl.2]
      refine ⟨rfl, lc_yes ⟨_, rfl, _, rfl, p, _, _, _, rfl, rfl, s7.seq hS, ixa (k := i) (by omega) (i0 i) (by omega), _, _, rfl, rfl, hA _ _ (fun _ _ h => h) ?_⟩⟩
      show V.int _ = V.int _
      rw [ep]
    · refine q D H6 (s5.trans s6) (by rw [hl6, rz6.ints]; rfl) fun k hk => ?_
      have := yb k (by omega)
      rw [ep]
      show (y k - 10).natAbs < 2 ^ 40
      omega
def spDmany (K : PySem.W.Frag) : Sp := fun vs H Q _ => ∃ (p : Addr) (x y : Int) (n : Nat), vs = [.ref p, .int n] ∧ H p = some (.lst [.int x, .int y]) ∧ n ≤ 1000 ∧ ∀ m : Nat, m ≤ n → Q (.int m) H
abbrev s__law_draw_many : Stmt := top 61
abbrev N__law_draw_many : List Str := ["row", "size"]
theorem sc__law_draw_many : FnScope N__law_draw_many ["row", "size"] (defScope s__law_draw_many) := ⟨rfl, rfl, rfl, by decide +kernel, rfl, by decide +kernel, by decide +kernel⟩
theorem ok__law_draw_many (F : Fun K "_law_draw_many" "_law_draw_many" s__law_draw_many f fd) (T : Txt mg) : FnOk P w K mg base CX0 1 f fd ["row", "size"] (spDmany K) := by
  refine F.ok sc__law_draw_many (fun vs H Q E h => ?_) (fun cdv A outer s H vs Q E hr h => ?_)
  · obtain ⟨p, x, y, n, rfl, _⟩ := h
    rfl
  obtain ⟨p, x, y, n, rfl, hp, hn, q⟩ := h
  refine ⟨_, (pss_cons (ps_if (PW.pt (pw_or (pt_cmpR op_eq (pe_ix ix_list (pv 0) pe_int (fun _ _ => rfl)) pe_int (nomark _)) (pw_or1 (pt_cmpR op_eq (pv 1) pe_int (nomark _))))) (pss_one (ps_ret pe_int)) pss_nil)
  (pss_cons (ps_if (PW.pt (pw_or (pt_cmpR op_eq (pe_ix ix_list (pv 0) pe_int (fun _ _ => rfl)) pe_int (nomark _)) (pw_or1 (pt_cmpR op_eq (pv 1) pe_int (nomark _))))) (pss_one (ps_ret (pv 1))) pss_nil)
  (pss_one (ps_ret (pe_op op_add pe_int (pe_op op_mod (pe_callTy call_int1 (by rfl) T.b_int (by decide +kernel) (pa_cons (pe_ix ix_list (pv 0) pe_int (fun _ _ => rfl)) pa_nil)) (pe_op op_sub (pv 1) pe_int))))))), ?_⟩
  have hS := SqL.of (K := K) hp
  refine ⟨_, rfl, p, _, 0, _, rfl, rfl, hS, at_pos (by decide) rfl, rfl, _, rfl, ite2 (fun _ => q 0 (by omega)) (fun _ => ⟨_, rfl, rfl, _, rfl, ite2 (fun _ => q 0 (by omega)) (fun c0 => ?_)⟩)⟩
  have n0 : ¬ ((n : Int) = 0) := fun h => c0 (decide_eq_true (congrArg V.int h))
  refine ⟨_, rfl, p, _, 0, _, rfl, rfl, hS, at_pos (by decide) rfl, rfl, _, rfl, ite2 (fun _ => ⟨_, rfl, q n (by omega)⟩) (fun _ => ⟨_, rfl, rfl, _, rfl, ite2 (fun _ => ⟨_, rfl, q n (by omega)⟩) (fun c1 => ?_)⟩)⟩
  have n1 : ¬ ((n : Int) = 1) := fun h => c1 (decide_eq_true (congrArg V.int h))
  have e0 := Int.emod_nonneg y (show (n : Int) - 1 ≠ 0 by omega)
  have e1 := Int.emod_lt_of_pos y (show (0 : Int) < (n : Int) - 1 by omega)
  refine ⟨_, rfl, p, _, 1, _, rfl, rfl, hS, at_pos (by decide) rfl, .inl ⟨_, rfl, _, rfl, _, _, rfl, rfl, _, _, rfl, rfl, (by omega), _, _, rfl, rfl, ?_⟩⟩
  have e2 : 1 + y % ((n : Int) - 1) = ((1 + y % ((n : Int) - 1)).toNat : Int) := by omega
  show Q (V.int (1 + y % ((n : Int) - 1))) H
  rw [e2]
  exact q _ (by omega)
/-- an order of the places below n -/
structure Ord (n k : Nat) (fo re : List Nat) : Prop where
  fl : fo.length = k
  rl : re.length = n - k
  nd : (fo ++ re).Nodup
  lt : ∀ x ∈ fo ++ re, x < n
theorem Ord.step {n k j x : Nat} {fo re : List Nat} (h : Ord n k fo re) (hj : re[j]? = some x) : Ord n (k + 1) (fo ++ [x]) (re.take j ++ re.drop (j + 1)) := by
  have hlt : j < re.length := (List.getElem?_eq_some_iff.mp hj).1
  have e : re = re.take j ++ x :: re.drop (j + 1) := by
    have h1 := (List.getElem?_eq_some_iff.mp hj).2
    have h2 := List.drop_eq_getElem_cons hlt
    rw [h1] at h2
    rw [← h2, List.take_append_drop]
  have pm : (fo ++ [x] ++ (re.take j ++ re.drop (j + 1))).Perm (fo ++ re) := by
    rw [List.append_assoc]
    refine List.Perm.append_left fo ?_
    conv => rhs; rw [e]
    show (x :: (re.take j ++ re.drop (j + 1))).Perm _
    exact (List.perm_middle).symm
  refine ⟨by rw [List.length_append, h.fl]; rfl, ?_, pm.nodup_iff.mpr h.nd, fun y hy => h.lt y (pm.mem_iff.mp hy)⟩
  rw [List.length_append, List.length_take, List.length_drop]
  have := h.rl
  omega
theorem Ord.pl {n : Nat} {fo re : List Nat} (h : Ord n n fo re) : fo = (List.range n).map (fun a => fo.getD a 0) ∧ ∀ m, m ≤ n → El.Pl n m fun a => fo.getD a 0 := by
  have at_ : ∀ a, a < n → fo[a]? = some (fo.getD a 0) := fun a ha => by
    rw [List.getD_eq_getElem?_getD, List.getElem?_eq_getElem (by rw [h.fl]; exact ha)]
    rfl
  refine ⟨List.ext_getElem? fun i => ?_, fun m hm => ⟨fun a ha => ?_, fun a b ha hb e => ?_⟩⟩
  · rw [List.getElem?_map]
    by_cases hi : i < n
    · rw [at_ i hi, List.getElem?_range hi]
      rfl
    · rw [List.getElem?_eq_none (by rw [h.fl]; omega), List.getElem?_eq_none (by rw [List.length_range]; omega)]
      rfl
  · exact h.lt _ (List.mem_append_left _ (List.mem_of_getElem? (at_ a (by omega))))
  · have nd := (List.nodup_append.mp h.nd).1
    have e : fo.getD a 0 = fo.getD b 0 := e
    have h1 := at_ a (by omega)
    rw [e, ← at_ b (by omega)] at h1
    exact (List.getElem?_inj (by rw [h.fl]; omega) nd).mp h1
abbrev nv (l : List Nat) : List V := (l.map fun (x : Nat) => (x : Int)).map V.int
theorem nv_at {l : List Nat} {i x : Nat} (h : l[i]? = some x) : (nv l)[i]? = some (.int (x : Int)) := by
  rw [List.getElem?_map, List.getElem?_map, h]
  rfl
theorem nv_len {l : List Nat} : (nv l).length = l.length := by rw [List.length_map, List.length_map]
def spDord (K : PySem.W.Frag) : Sp := fun vs H Q _ => ∃ (c : Int) (n : Nat), vs = [.int c, .int n] ∧ n ≤ 10 ∧ ∀ r H' ks, Same H H' → H' r = some (.lst ((pv_ n ks).map V.int)) → (∀ m, m ≤ n → El.Pl n m ks) → Q (.ref r) H'
abbrev s__law_draw_order : Stmt := top 62
abbrev N__law_draw_order : List Str := ["cell", "size", "row", "k", "rest", "found", "at"]
theorem sc__law_draw_order : FnScope N__law_draw_order ["cell", "size"] (defScope s__law_draw_order) := ⟨rfl, rfl, rfl, by decide +kernel, rfl, by decide +kernel, by decide +kernel⟩
theorem ok__law_draw_order (F : Fun K "_law_draw_order" "_law_draw_order" s__law_draw_order f fd) (T : Txt mg) (C__law_digits : Cal P w K mg base 1 "_law_digits" ["cell", "sizes"] (spDigits K)) : FnOk P w K mg base CX0 2 f fd ["cell", "size"] (spDord K) := by
  refine F.ok sc__law_draw_order (fun vs H Q E h => ?_) (fun cdv A outer s H vs Q E hr h => ?_)
  · obtain ⟨c, n, rfl, _⟩ := h
    rfl
  obtain ⟨c, n, rfl, hn, q⟩ := h
  refine ⟨_, (pss_cons (ps_set (i := 2) sc__law_draw_order.nd rfl (Or.inl rfl) (pe_cal C__law_digits (hr.mono (by omega)) rfl (pa_cons (pv 0) (pa_cons (pe_op op_rep (pe_lst (pa_cons pe_int pa_nil)) pe_int) pa_nil))))
  (pss_cons (ps_setLc (i := 4) (own := [("k", 3)]) (g := gName 3) (tt := tYes) (by rfl) sc__law_draw_order.nd rfl rfl (sw_true rfl rfl rfl (by decide +kernel)) (pi_range1 (by rfl) T.b_range (pa_cons (pv 1) pa_nil)) (blkOk_by (N := N__law_draw_order) (sc := defScope s__law_draw_order) (by decide +kernel)) (fun _ _ _ _ _ => (pg_name (i := 3) sc__law_draw_order.nd rfl (Or.inl rfl))) (fun _ _ _ _ _ => pts_nil) (fun _ _ _ _ _ => (pv 3)))
  (pss_cons (ps_set (i := 5) sc__law_draw_order.nd rfl (Or.inl rfl) (pe_lst pa_nil))
  (pss_cons (ps_for PassesOwn.never rfl (pi_range1 (by rfl) T.b_range (pa_cons (pv 1) pa_nil)) (pg_name (i := 3) sc__law_draw_order.nd rfl (Or.inl rfl)) (pss_cons (ps_set (i := 6) sc__law_draw_order.nd rfl (Or.inl rfl) (pe_op op_mod (pe_callTy call_int1 (by rfl) T.b_int (by decide +kernel) (pa_cons (pe_ix ix_list (pv 2) (pv 3) (fun _ _ => rfl)) pa_nil)) (pe_callB call_len_seq (by rfl) T.b_len PySem.boot_len (pa_cons (pv 4) pa_nil))))
  (pss_cons (ps_expr (pe_bm PySem.F.plainAttrs_list PySem.F.slot_list_append PySem.F.type_list_append mt_append (pv 5) (pa_cons (pe_ix ix_list (pv 4) (pv 6) (fun _ _ => rfl)) pa_nil)))
  (pss_one (ps_set (i := 4) sc__law_draw_order.nd rfl (Or.inl rfl) (pe_op op_cat (pe_slice sl_list (pv 4) po_none (po_some (pv 6))) (pe_slice sl_list (pv 4) (po_some (pe_op op_add (pv 6) pe_int)) po_none)))))))
  (pss_one (ps_ret (pv 5))))))), ?_⟩
  refine ⟨_, rfl, one_line, fun l1 hl1 => ⟨l1, 10, _, rfl, rfl, upd_same, by decide, by decide, line_ge (by decide), fun l2 hl2 => ?_⟩⟩
  have s2 := (same_new hl1 (.lst [V.int 2520])).trans (same_new hl2 (.lst (List.replicate (10 : Int).toNat [V.int 2520]).flatten))
  refine ⟨c, l2, zsO, rfl, SqL.of upd_same, by decide, zsO_ok, fun p ls hp hd => ?_⟩
  obtain ⟨y, rfl, hy⟩ := dig_vec hd (m := 10) rfl
  have s3 := s2.trans (same_new hp (.lst ((vec 10 y).map V.int)))
  generalize hH3 : upd _ p (.lst ((vec 10 y).map V.int)) = H3 at *
  have h3p : H3 p = some (.lst ((vec 10 y).map V.int)) := by rw [← hH3, upd_same]
  have i0 : ∀ i : Nat, (0 + (i : Int)).toNat = i := fun i => by omega
  refine ⟨_, rfl, (n : Int), rfl, by omega, by omega, fun D0 hD0 => ?_⟩
  refine lc_m (walk_range (lo := 0) (n := n)) RI (stb_RI (K := K)) (List.range n) (by rw [List.length_range]) (by rw [List.length_range]; omega) hD0 (fun _ _ => trivial) (fun _ _ _ _ => ys_fn) (fun i => (i : Int)) (fun k i v H6 H7 hc s6 s7 yl A B2 hA => ?_) (fun H4 l4 s4 hl4 rz4 => ?_)
  · obtain ⟨hi, rfl⟩ := in_range hc
    rw [yl.2]
    exact ⟨rfl, lc_yes ⟨_, rfl, hA _ _ (fun _ _ h => h) (by show V.int _ = V.int _; rw [Int.zero_add])⟩⟩
  have h4D : H4 D0 = some (.lst (nv (List.range n))) := by rw [hl4, rz4.ints]
  refine ⟨nil_line, fun L hL => ?_⟩
  have s5 := same_new hL (.lst [])
  refine ⟨_, rfl, (n : Int), rfl, by omega, by omega, for_range (lo := 0) (n := n) (fun k σ H' => ∃ (v3 v6 : Option V) (re : Addr) (fo rl : List Nat), σ = [some (.int c), some (.int n), some (.ref p), v3, some (.ref re), some (.ref L), v6] ∧ Same H4 H' ∧ H' re = some (.lst (nv rl)) ∧ H' L = some (.lst (nv fo)) ∧ re ≠ L ∧ Ord n k fo rl) ⟨_, none, D0, [], List.range n, rfl, s5, s5 _ _ h4D, upd_same, fun z => (by rw [z, hL] at h4D; cases h4D), ⟨rfl, by rw [List.length_range]; omega, by rw [List.nil_append]; exact List.nodup_range, fun x hx => List.mem_range.mp hx⟩⟩ ?_ ?_⟩
  · rintro k σ H6 hk ⟨v3, v6, re, fo, rl, rfl, s6, hre, hL6, hne, od⟩
    have hrl : (nv rl).length = n - k := by rw [nv_len, od.rl]
    obtain ⟨j, ej, hj⟩ : ∃ j : Nat, y k % (((n - k : Nat) : Int)) = (j : Int) ∧ j < n - k := by
      have h0 := Int.emod_nonneg (y k) (show ((n - k : Nat) : Int) ≠ 0 by omega)
      have h1 := Int.emod_lt_of_pos (y k) (show (0 : Int) < ((n - k : Nat) : Int) by omega)
      exact ⟨(y k % ((n - k : Nat) : Int)).toNat, by omega, by omega⟩
    obtain ⟨x, hx⟩ : ∃ x, rl[j]? = some x := ⟨_, List.getElem?_eq_getElem (by rw [od.rl]; exact hj)⟩
    have hS6 := SqL.of (K := K) ((s4.trans s6) _ _ h3p)
    refine ⟨_, rfl, _, rfl, p, _, _, _, rfl, rfl, hS6, ixa (k := k) (by omega) (i0 k) (by omega), .inl ⟨_, rfl, _, rfl, re, _, rfl, .inl (SqL.of hre), _, _, rfl, rfl, by rw [hrl]; omega, ?_⟩⟩
    rw [hrl]
    show gName 6 (V.int (y k % ((n - k : Nat) : Int))) _ _ _
    rw [ej]
    refine ⟨_, rfl, .inl ⟨rfl, _, SqL.of hL6⟩, _, rfl, _, rfl, re, _, _, _, rfl, rfl, SqL.of hre, atI_nat (nv_at hx), L, _, _, rfl, rfl, hL6, ?_, ?_⟩
    · rw [nv_len, od.fl]
      exact Nat.lt_of_lt_of_le (by omega : k < 1001) (line_ge (by decide))
    have s7 : Same H4 (upd H6 L (.lst (nv fo ++ [V.int x]))) := same_at s6 hL
    have hre7 : upd H6 L (.lst (nv fo ++ [V.int x])) re = some (.lst (nv rl)) := by rw [upd_ne hne]; exact hre
    have hL7 : upd H6 L (.lst (nv fo ++ [V.int x])) L = some (.lst (nv (fo ++ [x]))) := by
      rw [upd_same]
      show some (HO.lst (nv fo ++ [V.int x])) = some (HO.lst (((fo ++ [x]).map _).map V.int))
      rw [List.map_append, List.map_append]
      rfl
    generalize upd H6 L (.lst (nv fo ++ [V.int x])) = H7 at *
    have cut1 : cutV (nv rl) none (some (j : Int)) = nv (rl.take j) := by
      unfold cutV
      rw [hrl, sIx_of rfl (by omega)]
      have e0 : HT.sIx (n - k) 0 none = 0 := rfl
      rw [e0, List.drop_zero, Nat.sub_zero]
      show ((rl.map _).map V.int).take j = ((rl.take j).map _).map V.int
      rw [List.map_take, List.map_take]
    have cut2 : cutV (nv rl) (some ((j : Int) + 1)) none = nv (rl.drop (j + 1)) := by
      unfold cutV
      rw [hrl, sIx_of (k := j + 1) (by omega) (by omega)]
      have e0 : HT.sIx (n - k) (n - k) none = n - k := rfl
      rw [e0]
      show (((rl.map _).map V.int).drop (j + 1)).take _ = ((rl.drop (j + 1)).map _).map V.int
      rw [← List.map_drop, ← List.map_drop, List.take_of_length_le (by rw [List.length_map, List.length_map, List.length_drop, od.rl]; exact Nat.le_refl _)]
    refine ⟨_, rfl, _, rfl, _, rfl, re, _, rfl, SqL.of hre7, fun p1 hp1 => ?_⟩
    have s8 := same_new hp1 (.lst (cutV (nv rl) none (some (j : Int))))
    refine ⟨_, rfl, _, rfl, _, _, rfl, rfl, _, rfl, re, _, rfl, SqL.of (s8 _ _ hre7), fun p2 hp2 => ?_⟩
    have s9 := s8.trans (same_new hp2 (.lst (cutV (nv rl) (some ((j : Int) + 1)) none)))
    have h1 := (same_new hp2 (.lst (cutV (nv rl) (some ((j : Int) + 1)) none))) _ _ (upd_same (H := H7) (a := p1) (o := .lst (cutV (nv rl) none (some (j : Int)))))
    refine ⟨p1, p2, _, _, rfl, rfl, h1, upd_same, ?_, fun p3 hp3 => ?_⟩
    · rw [cut1, cut2, nv_len, nv_len]
      exact line_ge (by rw [List.length_take, List.length_drop, od.rl]; omega)
    · have od2 := od.step hx
      have sA := s9.trans (same_new hp3 (.lst (cutV (nv rl) none (some (j : Int)) ++ cutV (nv rl) (some ((j : Int) + 1)) none)))
      have hne3 : p3 ≠ L := fun z => by rw [z, s9 _ _ hL7] at hp3; cases hp3
      refine ⟨_, _, p3, fo ++ [x], rl.take j ++ rl.drop (j + 1), rfl, s7.trans sA, ?_, sA _ _ hL7, hne3, od2⟩
      rw [upd_same, cut1, cut2]
      show some (HO.lst (nv _ ++ nv _)) = some (HO.lst (((rl.take j ++ rl.drop (j + 1)).map _).map V.int))
      rw [List.map_append, List.map_append]
  · rintro σ H6 ⟨v3, v6, re, fo, rl, rfl, s6, hre, hL6, hne, od⟩
    obtain ⟨e1, e2⟩ := od.pl
    refine ⟨_, rfl, q L H6 _ (s3.trans (s4.trans s6)) ?_ e2⟩
    rw [hL6]
    have e3 : (fo.map fun (x : Nat) => (x : Int)) = pv_ n fun a => fo.getD a 0 := by
      conv => lhs; rw [e1]
      rw [List.map_map]
      rfl
    show some (HO.lst ((fo.map _).map V.int)) = _
    rw [e3]
end
end P09
set_option exponentiation.threshold 50000
namespace P09
open PySem PySem.Spec PyProof.Rows L2 SX EX WK
structure Frm (K : PySem.W.Frag) (mg : Str → Option Value) (cF : Addr) : Prop where
  g_Form : mg "Form" = some (.ref cF)
  kF : PySem.W.kitOne K (.ref cF) (.ref cF) = some true
  c1 : PySem.W.findIn K (.ref cF) "__class__" = some (some (.builtin "object.__class__"))
  c2 : PySem.W.specialIn K (.builtin "object.__class__") "__get__" = some (some (.builtin "getset_descriptor.__get__"))
  c3 : PySem.W.takesIn K (.builtin "object.__class__") = some true
  c4 : PySem.W.mroIn K cF (.type "object") = some true
theorem isForm {K : PySem.W.Frag} {mg : Str → Option Value} {cF : Addr} (U : Frm K mg cF) (cl : Cls K cF) {H : Hp} {p n : Nat} {m : List (List Int)} {b : Int} (h : FormAt K H cF p n m b) : TyX K H (.ref p) (.ref cF) := by
  obtain ⟨dx, e, h1, _⟩ := h
  exact .base (.ins h1 cl U.c1 U.c2 U.c3 U.c4)
theorem flat_at {n i : Nat} {g : Nat → Nat → Int} (hi : i < n) : ((mat n g).take (i + 1)).flatten = ((mat n g).take i).flatten ++ vec n (g i) := flat_take (mat_at hi)
section
variable {P : Program} {w : World} {K : PySem.W.Frag} {mg : Str → Option Value} {base : Heap} {f : Addr} {fd : FuncData} {cF cR : Addr}
def spIsForm (K : PySem.W.Frag) (cF : Addr) : Sp := fun vs H Q _ => ∃ (p a : Addr) (n : Nat) (g T : Nat → Nat → Int) (b u : Int), vs = [.ref p, .ref a, .int u] ∧ FormAt K H cF p n (mat n g) b ∧ LTab H a n T ∧ n ≤ 1000 ∧ 1 ≤ b ∧ B 20000 b ∧ gf b (mat n g).flatten = 1 ∧ (∀ i j, i < n → j < n → B 20000 (g i j)) ∧ (∀ i j, i < n → j < n → g i j * u = T i j * b) ∧ B 20000 u ∧ (∀ i j, i < n → j < n → B 20000 (T i j)) ∧ ∀ H', Same H H' → Q (.bl true) H'
abbrev s__law_is_form : Stmt := top 64
abbrev N__law_is_form : List Str := ["form", "table", "base", "many", "shared", "i", "j"]
theorem sc__law_is_form : FnScope N__law_is_form ["form", "table", "base"] (defScope s__law_is_form) := ⟨rfl, rfl, rfl, by decide +kernel, rfl, by decide +kernel, by decide +kernel⟩
theorem ok__law_is_form (F : Fun K "_law_is_form" "_law_is_form" s__law_is_form f fd) (T : Txt mg) (O : Obs K cF cR) (V0 : Frm K mg cF) (C__law_whole : Cal P w K mg base 1 "_law_whole" ["value"] spLaw_whole) (C__law_is_point : Cal P w K mg base 2 "_law_is_point" ["value", "size"] (spIsPoint K))
    (C__law_gcd : Cal P w K mg base 1 "_law_gcd" ["one", "two"] spGcd) : FnOk P w K mg base CX0 3 f fd ["form", "table", "base"] (spIsForm K cF) := by
  refine F.ok sc__law_is_form (fun vs H Q E h => ?_) (fun cdv A outer s H vs Q E hr h => ?_)
  · obtain ⟨p, a, n, g, M, b, u, rfl, _⟩ := h
    rfl
  obtain ⟨p, ta, n, g, M, b, u, rfl, hp, ht, hn, hb, bB, h1, bg, his, hu, bT, q⟩ := h
  refine ⟨_, (pss_cons (ps_set (i := 3) sc__law_is_form.nd rfl (Or.inl rfl) (pe_callB call_len_seq (by rfl) T.b_len PySem.boot_len (pa_cons (pv 1) pa_nil)))
  (pss_cons (ps_if (PW.pt (pw_or (pt_not (pt_val (pe_callB call_isi (by rfl) T.b_isinstance (by decide +kernel) (pa_cons (pv 0) (pa_cons (pe_glob (v := .ref _) rfl V0.g_Form rfl) pa_nil))))) (pw_or (pt_not (pt_val (pe_cal C__law_whole (hr.mono (by omega)) rfl (pa_cons (pe_fld (pv 0) rfl) pa_nil)))) (pw_or1 (pt_cmpR op_ne (pe_fld (pv 0) rfl) (pv 3) (nomark _)))))) (pss_one (ps_ret pe_bl)) pss_nil)
  (pss_cons (ps_if (PW.pt (pw_or (pt_not (pt_val (pe_cal C__law_whole (hr.mono (by omega)) rfl (pa_cons (pe_fld (pv 0) rfl) pa_nil)))) (pw_or1 (pt_cmpR op_lt (pe_fld (pv 0) rfl) pe_int (nomark _))))) (pss_one (ps_ret pe_bl)) pss_nil)
  (pss_cons (ps_if (PW.pt (pw_or (pt_not (pt_val (pe_callB call_isi (by rfl) T.b_isinstance (by decide +kernel) (pa_cons (pe_fld (pv 0) rfl) (pa_cons (pe_bltn (v := .ty "tuple") (by rfl) T.b_tuple (by decide +kernel) rfl) pa_nil))))) (pw_or1 (pt_cmpR op_ne (pe_callB call_len_seq (by rfl) T.b_len PySem.boot_len (pa_cons (pe_fld (pv 0) rfl) pa_nil)) (pv 3) (nomark _))))) (pss_one (ps_ret pe_bl)) pss_nil)
  (pss_cons (ps_set (i := 4) sc__law_is_form.nd rfl (Or.inl rfl) (pe_fld (pv 0) rfl))
  (pss_cons (ps_for PassesOwn.never rfl (pi_range1 (by rfl) T.b_range (pa_cons (pv 3) pa_nil)) (pg_name (i := 5) sc__law_is_form.nd rfl (Or.inl rfl)) (pss_cons (ps_if (pt_not (pt_val (pe_cal C__law_is_point (hr.mono (by omega)) rfl (pa_cons (pe_ix ix_tup (pe_fld (pv 0) rfl) (pv 5) (fun _ _ => rfl)) (pa_cons (pv 3) pa_nil))))) (pss_one (ps_ret pe_bl)) pss_nil)
  (pss_one (ps_for PassesOwn.never rfl (pi_range1 (by rfl) T.b_range (pa_cons (pv 3) pa_nil)) (pg_name (i := 6) sc__law_is_form.nd rfl (Or.inl rfl)) (pss_cons (ps_set (i := 4) sc__law_is_form.nd rfl (Or.inl rfl) (pe_cal C__law_gcd (hr.mono (by omega)) rfl (pa_cons (pv 4) (pa_cons (pe_ix ix_tup (pe_ix ix_tup (pe_fld (pv 0) rfl) (pv 5) (fun _ _ => rfl)) (pv 6) (fun _ _ => rfl)) pa_nil))))
  (pss_one (ps_if (pt_cmpR op_ne (pe_op op_mulW (pe_ix ix_tup (pe_ix ix_tup (pe_fld (pv 0) rfl) (pv 5) (fun _ _ => rfl)) (pv 6) (fun _ _ => rfl)) (pv 2)) (pe_op op_mulW (pe_ix ix_list (pe_ix ix_list (pv 1) (pv 5) (fun _ _ => rfl)) (pv 6) (fun _ _ => rfl)) (pe_fld (pv 0) rfl)) (nomark _)) (pss_one (ps_ret pe_bl)) pss_nil)))))))
  (pss_one (ps_ret (pe_cmpR op_eq (pv 4) pe_int (nomark _)))))))))), ?_⟩
  have ty := isForm V0 O.clF hp
  obtain ⟨ws, hta, hla, hrowa⟩ := ht.at
  refine ⟨_, rfl, _, _, rfl, .inl (SqL.of hta), ?_⟩
  rw [hla]
  obtain ⟨dx, e, hi, hz⟩ := hp
  obtain ⟨a, vs, ea, he, hl, hrow⟩ := fz_mat hz
  cases ea
  rw [mat_len] at hl
  have i0 : ∀ i : Nat, (0 + (i : Int)).toNat = i := fun i => by omega
  refine ⟨_, rfl, _, _, _, _, true, rfl, .own _, ty, V0.kF, true, rfl, ifF rfl ?_⟩
  refine ⟨_, rfl, p, cF, dx, _, _, rfl, hi, O.clF, O.F_size, lkFs _ _ _, _, rfl, true, rfl, ifF rfl ?_⟩
  refine ⟨_, rfl, p, cF, dx, _, _, rfl, hi, O.clF, O.F_size, lkFs _ _ _, _, rfl, rfl, _, rfl, ifF (ne_F rfl) ?_⟩
  refine ⟨_, rfl, p, cF, dx, _, _, rfl, hi, O.clF, O.F_bottom, lkFb _ _ _, _, rfl, true, rfl, ifF rfl ?_⟩
  refine ⟨_, rfl, p, cF, dx, _, _, rfl, hi, O.clF, O.F_bottom, lkFb _ _ _, _, _, rfl, rfl, _, rfl, ifF (decide_eq_false (by omega)) ?_⟩
  refine ⟨_, rfl, p, cF, dx, _, _, rfl, hi, O.clF, O.F_entries, lkFe _ _ _, _, _, _, _, true, rfl, .ty _, ty_tup he, kit6, true, rfl, ifF rfl ?_⟩
  refine ⟨_, rfl, p, cF, dx, _, _, rfl, hi, O.clF, O.F_entries, lkFe _ _ _, e, vs, rfl, .inr he, _, rfl, rfl, _, rfl, ifF (ne_F (by rw [hl])) ?_⟩
  refine ⟨_, rfl, p, cF, dx, _, _, rfl, hi, O.clF, O.F_bottom, lkFb _ _ _, ?_⟩
  refine ⟨_, rfl, (n : Int), rfl, by omega, by omega, for_range (lo := 0) (n := n) (fun i σ H' => ∃ v5 v6 : Option V, σ = [some (.ref p), some (.ref ta), some (.int u), some (.int n), some (.int (gf b ((mat n g).take i).flatten)), v5, v6] ∧ Same H H') ⟨none, none, rfl, fun _ _ h => h⟩ ?_ ?_⟩
  · rintro i σ H1 hi1 ⟨v5, v6, rfl, s1⟩
    obtain ⟨r, hr1, hr2⟩ := hrow i _ (mat_at hi1)
    obtain ⟨r3, hr3, hr4⟩ := hrowa i hi1
    have ix1 : ∀ {H' : Hp}, atI vs (0 + (i : Int)) = some (.ref r) := fun {_} => at_pos (by omega) (by rw [i0]; exact hr1)
    refine ⟨_, rfl, p, cF, dx, _, _, rfl, s1 _ _ hi, O.clF, O.F_entries, lkFe _ _ _, _, rfl, e, _, _, _, rfl, rfl, Same_seqT s1 he, ix1 (H' := H), _, rfl, r, n, g i, rfl, Same_seqT s1 hr2, hn, fun H2 s2 => ⟨true, rfl, ifF rfl ?_⟩⟩
    have s12 := s1.trans s2
    refine ⟨_, rfl, (n : Int), rfl, by omega, by omega, for_range (lo := 0) (n := n) (fun j σ H' => ∃ v6 : Option V, σ = [some (.ref p), some (.ref ta), some (.int u), some (.int n), some (.int (gf b (((mat n g).take i).flatten ++ (vec n (g i)).take j))), some (.int (0 + (i : Int))), v6] ∧ Same H H') ⟨v6, by rw [List.take_zero, List.append_nil]; rfl, s12⟩ ?_ ?_⟩
    · rintro j σ H3 hj1 ⟨v6, rfl, s3⟩
      have e1 : gf b (((mat n g).take i).flatten ++ (vec n (g i)).take (j + 1)) = gI (gf b (((mat n g).take i).flatten ++ (vec n (g i)).take j)) (g i j) := by
        rw [take_one (vec_at hj1), ← List.append_assoc, gf_snoc]
      refine ⟨_, rfl, _, rfl, p, cF, dx, _, _, rfl, s3 _ _ hi, O.clF, O.F_entries, lkFe _ _ _, _, rfl, e, _, _, _, rfl, rfl, Same_seqT s3 he, ix1 (H' := H), _, rfl, r, _, _, _, rfl, rfl, Same_seqT s3 hr2, ixv hj1, _, _, rfl, (bg i j hi1 hj1).mono (by decide), ?_⟩
      refine ⟨_, rfl, p, cF, dx, _, _, rfl, s3 _ _ hi, O.clF, O.F_entries, lkFe _ _ _, _, rfl, e, _, _, _, rfl, rfl, Same_seqT s3 he, ix1 (H' := H), _, rfl, r, _, _, _, rfl, rfl, Same_seqT s3 hr2, ixv hj1, _, rfl, _, _, rfl, rfl, wmul (bg i j hi1 hj1) hu (by decide) (by decide) (by decide), ?_⟩
      refine ⟨_, rfl, _, rfl, ta, _, _, _, rfl, rfl, SqL.of (s3 _ _ hta), at_pos (by omega) (by rw [i0]; exact hr3), _, rfl, r3, _, _, _, rfl, rfl, SqL.of (s3 _ _ hr4), ixv hj1, _, rfl, p, cF, dx, _, _, rfl, s3 _ _ hi, O.clF, O.F_bottom, lkFb _ _ _, _, _, rfl, rfl, wmul (bT i j hi1 hj1) bB (by decide) (by decide) (by decide), rfl, _, rfl, ifF (ne_F (his i j hi1 hj1)) ⟨some (.int (0 + (j : Int))), ?_, s3⟩⟩
      rw [e1]
      rfl
    · rintro σ H3 ⟨v6, rfl, s3⟩
      refine ⟨some (.int (0 + (i : Int))), v6, ?_, s3⟩
      have ev : (vec n (g i)).take n = vec n (g i) := List.take_of_length_le (by rw [vec_len]; exact Nat.le_refl _)
      rw [ev, flat_at hi1]
  · rintro σ H1 ⟨v5, v6, rfl, s1⟩
    refine ⟨_, rfl, rfl, ?_⟩
    rw [List.take_of_length_le (by rw [mat_len]; exact Nat.le_refl _), h1]
    exact q H1 s1
end
end P09
namespace P09
open PySem PySem.Spec PyProof.Rows L2 SX EX WK
theorem gf_all {b : Int} (hb : 0 ≤ b) (ns : List Int) : El.Gcd (fun y => y = b ∨ y ∈ ns) (gf b ns) := gf_more (P := fun y => y = b) ⟨hb, fun x hx => by rw [hx]; exact Int.dvd_refl _, fun a c h => h b rfl⟩
theorem mat_of_mem {n : Nat} {R : Nat → Nat → Int} {x : Int} (h : x ∈ (mat n R).flatten) : ∃ i j, i < n ∧ j < n ∧ x = R i j := by
  obtain ⟨l, hl, hx⟩ := List.mem_flatten.mp h
  obtain ⟨i, hi, rfl⟩ := List.mem_map.mp hl
  obtain ⟨j, hj, rfl⟩ := List.mem_map.mp hx
  exact ⟨i, j, List.mem_range.mp hi, List.mem_range.mp hj, rfl⟩
/-- how the law's own elimination stands ahead of the place k: p of the other places are done -/
structure LS (n r : Nat) (os ks : Nat → Nat) (A : Nat → Nat → Int) (k p : Nat) (S : List Nat) (d : Int) (B' : Nat → El.Row) (ps : List El.Pv) (R : Nat → Nat → Int) (s : Int) : Prop where
  run : El.Run (El.Pe A n r os ks) p S d B' ps
  pr : p ≤ r
  cnt : ∀ q, q < r → (os q < k ↔ q < p)
  s0 : 0 < s
  tie : ∀ i j, p ≤ i → i < n → p ≤ j → j < n → d * R (El.pm r os ks i) (El.pm r os ks j) = s * B' i j
  zero : ∀ i j, i < p → j < n → R (El.pm r os ks i) (El.pm r os ks j) = 0
  sym : ∀ i j, i < n → j < n → R (El.pm r os ks i) (El.pm r os ks j) = R (El.pm r os ks j) (El.pm r os ks i)
  one : gf s (mat n R).flatten = 1
section
variable {n r m : Nat} {os ks : Nat → Nat} {A : Nat → Nat → Int} {k p : Nat} {S : List Nat} {d : Int} {B' : Nat → El.Row} {ps : List El.Pv} {R : Nat → Nat → Int} {s : Int}
theorem LS.start (P : El.Pm n r m os ks) (hs : ∀ i j, A i j = A j i) : LS n r os ks A 0 0 [] 1 (El.Pe A n r os ks) [] A 1 := by
  refine ⟨.begin, by omega, fun q _ => by omega, by decide, fun i j _ hi _ hj => by rw [El.Pe_in hi hj], fun i j hi => by omega, fun i j _ _ => hs _ _, gf_unit _⟩
theorem LS.symB (hs : ∀ i j, A i j = A j i) (h : LS n r os ks A k p S d B' ps R s) : ∀ i j, B' i j = B' j i := (h.run.inv (El.Pe_sym hs)).sym
theorem LS.bound {w : Nat} {bd : Int} (P : El.Pm n r m os ks) (jo : JOk n w bd A) (bw : B w (El.bnd bd (n + 1))) (h : LS n r os ks A k p S d B' ps R s) : B w s ∧ ∀ i j, i < n → j < n → B w (R i j) := by
  have hs := jo.whole.sym
  have nn := P.nn
  have pr := h.pr
  have b1 := jo.bd1
  have dp := (h.run.inv (El.Pe_sym hs)).dpos
  have absP : ∀ i j, -bd ≤ El.Pe A n r os ks i j ∧ El.Pe A n r os ks i j ≤ bd := fun i j => by
    unfold El.Pe
    split
    · exact jo.abs _ _
    · omega
  have gc := gf_all (b := s) (Int.le_of_lt h.s0) (mat n R).flatten
  rw [h.one] at gc
  have cases2 : ∀ i j, i < n → j < n → (∃ i' j', p ≤ i' ∧ i' < n ∧ p ≤ j' ∧ j' < n ∧ d * R i j = s * B' i' j') ∨ R i j = 0 := fun i j hi hj => by
    obtain ⟨i', hi', ei⟩ := P.on hi
    obtain ⟨j', hj', ej⟩ := P.on hj
    by_cases c1 : p ≤ i'
    · by_cases c2 : p ≤ j'
      · exact .inl ⟨i', j', c1, hi', c2, hj', by rw [← ei, ← ej]; exact h.tie i' j' c1 hi' c2 hj'⟩
      · exact .inr (by rw [← ei, ← ej, h.sym i' j' hi' hj']; exact h.zero j' i' (by omega) hi')
    · exact .inr (by rw [← ei, ← ej]; exact h.zero i' j' (by omega) hj')
  have sd : s ∣ d := by
    have := gc.mx d s fun x hx => by
      rcases hx with rfl | hx
      · exact Int.dvd_mul_left _ _
      · obtain ⟨i, j, hi, hj, rfl⟩ := mat_of_mem hx
        rcases cases2 i j hi hj with ⟨i', j', _, _, _, _, e⟩ | e
        · rw [e]; exact Int.dvd_mul_right _ _
        · rw [e, Int.mul_zero]; exact Int.dvd_zero _
    rw [Int.mul_one] at this
    exact this
  have sle := Int.le_of_dvd dp sd
  have db := El.Run.dbound (h.run.inv (El.Pe_sym hs)) h.run.many bd b1 absP h.run
  have m1 := El.bnd_mono b1 (show p ≤ n + 1 by omega)
  have m2 := El.bnd_mono b1 (show p + 1 ≤ n + 1 by omega)
  have p0 := El.bnd_pos b1 (n + 1)
  have hb : (El.bnd bd (n + 1)).natAbs < 2 ^ w := bw
  have s0 := h.s0
  refine ⟨by show s.natAbs < 2 ^ w; omega, fun i j hi hj => ?_⟩
  rcases cases2 i j hi hj with ⟨i', j', c1, c2, c3, c4, e⟩ | e
  · have rb := h.run.rbound (El.Pe_sym hs) bd b1 absP c1 j'
    have l1 : (R i j).natAbs ≤ (B' i' j').natAbs := by
      have e2 := congrArg Int.natAbs e
      rw [Int.natAbs_mul, Int.natAbs_mul] at e2
      have e3 : s.natAbs * (B' i' j').natAbs ≤ d.natAbs * (B' i' j').natAbs := Nat.mul_le_mul_right _ (by omega)
      rw [← e2] at e3
      exact Nat.le_of_mul_le_mul_left e3 (by omega)
    show (R i j).natAbs < 2 ^ w
    omega
  · rw [e]
    exact Nat.two_pow_pos w
theorem LS.kept (P : El.Pm n r m os ks) (h : LS n r os ks A k p S d B' ps R s) {a : Nat} (ha : a < m) (e : ks a = k) : LS n r os ks A (k + 1) p S d B' ps R s := by
  refine { h with cnt := fun q hq => ?_ }
  have := P.ok q a hq ha
  have := h.cnt q hq
  constructor
  · intro h1
    exact this.mp (by omega)
  · intro h1
    have := this.mpr h1
    omega
/-- the place k is the next of the other ones -/
theorem LS.next (P : El.Pm n r m os ks) (mono : ∀ q1 q2, q1 < q2 → q2 < r → os q1 < os q2) (h : LS n r os ks A k p S d B' ps R s) (hk : k < n) (hne : ∀ a, a < m → ks a ≠ k) : p < r ∧ os p = k ∧ ∀ q, q < r → (os q < k + 1 ↔ q < p + 1) := by
  rcases P.all k hk with ⟨q, hq, e⟩ | ⟨a, ha, e⟩
  · have c1 := h.cnt q hq
    have c2 : q = p := by
      rcases Nat.lt_trichotomy q p with c | c | c
      · have := c1.mpr c; omega
      · exact c
      · have := mono p q c hq
        have := (h.cnt p (by omega)).mp (by omega)
        omega
    subst c2
    refine ⟨hq, e, fun q2 hq2 => ?_⟩
    have c3 := h.cnt q2 hq2
    by_cases c : q2 = q
    · subst c; omega
    · constructor
      · intro h1
        have : os q2 ≠ os q := fun z => c (P.oi q2 q hq2 hq z)
        have := c3.mp (by omega)
        omega
      · intro h1
        have := c3.mpr (by omega)
        omega
  · exact (hne a ha e).elim
theorem LS.skip (P : El.Pm n r m os ks) (hs : ∀ i j, A i j = A j i) (mono : ∀ q1 q2, q1 < q2 → q2 < r → os q1 < os q2) {S2 : List Nat} {d2 : Int} {B2 : Nat → El.Row} {ps2 : List El.Pv} (runR : El.Run (El.Pe A n r os ks) r S2 d2 B2 ps2) (h : LS n r os ks A k p S d B' ps R s) (hk : k < n) (hne : ∀ a, a < m → ks a ≠ k) (h0 : ¬ 0 < R k k) : LS n r os ks A (k + 1) (p + 1) S d B' ps R s := by
  obtain ⟨hp, e, cnt⟩ := h.next P mono hk hne
  have nn := P.nn
  obtain ⟨S3, d3, B3, ps3, run3, alt⟩ := runR.upto p hp
  obtain ⟨_, e2, e3, _⟩ := run3.same h.run
  subst e2 e3
  have ek : El.pm r os ks p = k := by rw [El.pm_o hp, e]
  have dp := (h.run.inv (El.Pe_sym hs)).dpos
  have zr : ∀ x, B3 p x = 0 := by
    rcases alt with c | c
    · exfalso
      have t := h.tie p p (Nat.le_refl _) (by omega) (Nat.le_refl _) (by omega)
      rw [ek] at t
      have := Int.mul_pos h.s0 c
      rw [← t] at this
      have h1 := Int.mul_le_mul_of_nonneg_left (show R k k ≤ 0 by omega) (Int.le_of_lt dp)
      rw [Int.mul_zero] at h1
      omega
    · exact c
  refine ⟨h.run.skip zr, hp, cnt, h.s0, fun i j hi hi2 hj hj2 => h.tie i j (by omega) hi2 (by omega) hj2, fun i j hi hj => ?_, h.sym, h.one⟩
  by_cases c : i < p
  · exact h.zero i j c hj
  · have c2 : i = p := by omega
    subst c2
    by_cases c3 : i ≤ j
    · have t := h.tie i j (Nat.le_refl _) (by omega) c3 hj
      rw [zr, Int.mul_zero] at t
      rcases Int.mul_eq_zero.mp t with z | z
      · omega
      · exact z
    · rw [h.sym i j (by omega) hj]
      exact h.zero j i (by omega) (by omega)
/-- one clearing, before its common part is taken out -/
def pvt (R : Nat → Nat → Int) (k : Nat) : Nat → Nat → Int := fun i j => R k k * R i j - R k i * R k j
theorem LS.pivot (P : El.Pm n r m os ks) (hs : ∀ i j, A i j = A j i) (mono : ∀ q1 q2, q1 < q2 → q2 < r → os q1 < os q2) (h : LS n r os ks A k p S d B' ps R s) (hk : k < n) (hne : ∀ a, a < m → ks a ≠ k) (h0 : 0 < R k k) {G : Int} (hG : G = gf (s * R k k) (mat n (pvt R k)).flatten) :
    LS n r os ks A (k + 1) (p + 1) (p :: S) (B' p p) (El.redu B' p d) ((p, B' p, d * B' p p) :: ps) (fun i j => pvt R k i j / G) (s * R k k / G) := by
  obtain ⟨hp, e, cnt⟩ := h.next P mono hk hne
  have nn := P.nn
  have ek : El.pm r os ks p = k := by rw [El.pm_o hp, e]
  have inv := h.run.inv (El.Pe_sym hs)
  have dp := inv.dpos
  have s0 := h.s0
  have sp : 0 < s * R k k := Int.mul_pos s0 h0
  have G0 : 0 < G := by rw [hG]; exact gf_pos sp _
  have Gd := gf_dvd (b := s * R k k) (mat n (pvt R k)).flatten
  rw [← hG] at Gd
  have Gs := Int.mul_ediv_cancel' Gd.1
  have Ge : ∀ i j, i < n → j < n → G * (pvt R k i j / G) = pvt R k i j := fun i j hi hj => Int.mul_ediv_cancel' (Gd.2 _ (mat_mem hi hj))
  have pos : 0 < B' p p := by
    have t := h.tie p p (Nat.le_refl _) (by omega) (Nat.le_refl _) (by omega)
    rw [ek] at t
    have h1 := Int.mul_pos dp h0
    rw [t] at h1
    rcases Int.lt_or_le 0 (B' p p) with c | c
    · exact c
    · have h2 := Int.mul_le_mul_of_nonneg_left c (Int.le_of_lt s0)
      rw [Int.mul_zero] at h2
      omega
  have lt : ∀ i, i < n → El.pm r os ks i < n := fun i hi => P.lt hi
  have rk : ∀ j, j < n → R k (El.pm r os ks j) = R (El.pm r os ks p) (El.pm r os ks j) := fun j _ => by rw [ek]
  refine ⟨h.run.pivot pos, hp, cnt, quot_pos G0 Gd.1 (by omega), fun i j hi hi2 hj hj2 => ?_, fun i j hi hj => ?_, fun i j hi hj => ?_, ?_⟩
  · have t1 := h.tie p p (Nat.le_refl _) (by omega) (Nat.le_refl _) (by omega)
    have t2 := h.tie i j (by omega) hi2 (by omega) hj2
    have t3 := h.tie p i (Nat.le_refl _) (by omega) (by omega) hi2
    have t4 := h.tie p j (Nat.le_refl _) (by omega) (by omega) hj2
    have ex := inv.exact pos i j
    rw [ek] at t1 t3 t4
    refine Int.eq_of_mul_eq_mul_left (a := G * (d * d)) (by have := Int.mul_pos G0 (Int.mul_pos dp dp); omega) ?_
    have e1 : G * (d * d) * (B' p p * (pvt R k (El.pm r os ks i) (El.pm r os ks j) / G)) = B' p p * (d * d * (G * (pvt R k (El.pm r os ks i) (El.pm r os ks j) / G))) := by grind
    have e2 : G * (d * d) * (s * R k k / G * El.redu B' p d i j) = G * (s * R k k / G) * (d * (d * El.redu B' p d i j)) := by grind
    rw [e1, e2, Ge _ _ (lt i hi2) (lt j hj2), Gs, ex]
    unfold pvt
    have e3 : d * d * (R k k * R (El.pm r os ks i) (El.pm r os ks j) - R k (El.pm r os ks i) * R k (El.pm r os ks j)) = d * R k k * (d * R (El.pm r os ks i) (El.pm r os ks j)) - d * R k (El.pm r os ks i) * (d * R k (El.pm r os ks j)) := by grind
    rw [e3, t1, t2, t3, t4]
    have e4 : s * R k k * (d * (B' p p * B' i j - B' p i * B' p j)) = s * (d * R k k) * (B' p p * B' i j - B' p i * B' p j) := by grind
    rw [e4, t1]
    grind
  · have z : pvt R k (El.pm r os ks i) (El.pm r os ks j) = 0 := by
      unfold pvt
      by_cases c : i < p
      · rw [h.zero i j c hj, rk i (by omega), h.sym p i (by omega) (by omega), h.zero i p c (by omega), Int.mul_zero, Int.zero_mul, Int.sub_self]
      · have c2 : i = p := by omega
        subst c2
        rw [ek, Int.sub_self]
    show pvt R k _ _ / G = 0
    rw [z, Int.zero_ediv]
  · show pvt R k _ _ / G = pvt R k _ _ / G
    congr 1
    unfold pvt
    rw [h.sym i j hi hj]
    grind
  · rw [hG, flat_div]
    exact gf_one sp _
end
end P09
set_option exponentiation.threshold 3000
namespace P09
open PySem PySem.Spec PyProof.Rows L2 SX EX WK
theorem MT.rebase {H0 H1 H : Hp} {a : Addr} {rs : List Addr} {n : Nat} {f : Nat → Nat → Int} (h : MT H1 H a rs n f) (s : Same H0 H1) : MT H0 H a rs n f := ⟨s.trans h.same, h.at_, h.len, h.nd, h.na, fun r hr => none_of s (h.fr r hr), h.row⟩
theorem mix_0 (f g : Nat → Nat → Int) : mix f g 0 0 = f := by
  funext a b
  unfold mix
  rw [if_neg (by omega)]
theorem mix_all (f g : Nat → Nat → Int) (n : Nat) : ∀ a b, a < n → b < n → mix f g n 0 a b = g a b := fun a b ha _ => if_pos (.inl ha)
theorem gI_B {k : Nat} {a b : Int} (ha : 0 < a) (h : B k a) : B k (gI a b) := by
  have h1 : Nat.gcd a.natAbs b.natAbs ≤ a.natAbs := Nat.le_of_dvd (by omega) (Nat.gcd_dvd_left _ _)
  show ((Nat.gcd a.natAbs b.natAbs : Nat) : Int).natAbs < _
  exact Nat.lt_of_le_of_lt h1 h
section
variable {P : Program} {w : World} {K : PySem.W.Frag} {mg : Str → Option Value} {base : Heap} {f : Addr} {fd : FuncData} {cF cR : Addr}
def spLSeen (K : PySem.W.Frag) : Sp := fun vs H Q _ => ∃ (a : Addr) (kv : V) (n m w : Nat) (bd : Int) (A : Nat → Nat → Int) (ks : Nat → Nat), vs = [.ref a, kv] ∧ LTab H a n A ∧ Sn K H kv (.tup ((pv_ m ks).map Td.int)) ∧ El.Pl n m ks ∧ JOk n w bd A ∧ B w (El.bnd bd (n + 1)) ∧ El.Psd n A ∧
  ∀ r tb H' S d B' ps R s, Same H H' → H' r = some (.lst [.ref tb, .int s]) → LTab H' tb m R → El.Run (PeK A n m ks) (El.rO n m ks) S d B' ps → 0 < s → (∀ a c, a < m → c < m → d * R a c = s * B' (El.rO n m ks + a) (El.rO n m ks + c)) → B w s → (∀ a c, a < m → c < m → B w (R a c)) → Q (.ref r) H'
abbrev s__law_seen : Stmt := top 63
abbrev N__law_seen : List Str := ["table", "keep", "line", "rest", "scale", "k", "pivot", "shared", "i", "j", "row", "number"]
theorem sc__law_seen : FnScope N__law_seen ["table", "keep"] (defScope s__law_seen) := ⟨rfl, rfl, rfl, by decide +kernel, rfl, by decide +kernel, by decide +kernel⟩
theorem ok__law_seen (F : Fun K "_law_seen" "_law_seen" s__law_seen f fd) (T : Txt mg) (C__law_gcd : Cal P w K mg base 1 "_law_gcd" ["one", "two"] spGcd) : FnOk P w K mg base CX0 2 f fd ["table", "keep"] (spLSeen K) := by
  refine F.ok sc__law_seen (fun vs H Q E h => ?_) (fun cdv A outer s H vs Q E hr h => ?_)
  · obtain ⟨a, kv, n, m, w, bd, M, ks, rfl, _⟩ := h
    rfl
  obtain ⟨a, kv, n, m, w, bd, M, ks, rfl, ht, hkv, hP, jo, bw, psd, q⟩ := h
  refine ⟨_, (pss_cons (ps_set (i := 3) sc__law_seen.nd rfl (Or.inr rfl) (pe_lc (own := [("line", 2)]) (g := gName 2) (tt := tYes) (by rfl) sc__law_seen.nd (pi_list (pv 0)) (blkOk_by (N := N__law_seen) (sc := defScope s__law_seen) (by decide +kernel)) (fun _ _ _ _ _ => (pg_name (i := 2) sc__law_seen.nd rfl (Or.inl rfl))) (fun _ _ _ _ _ => pts_nil) (fun _ _ _ _ _ => (pe_callTy (call_list_ofK (K := K) rfl) (by rfl) T.b_list (by decide +kernel) (pa_cons (pv 2) pa_nil)))))
  (pss_cons (ps_set (i := 4) sc__law_seen.nd rfl (Or.inl rfl) pe_int)
  (pss_cons (ps_for PassesOwn.never rfl (pi_range1 (by rfl) T.b_range (pa_cons (pe_callB call_len_seq (by rfl) T.b_len PySem.boot_len (pa_cons (pv 0) pa_nil)) pa_nil)) (pg_name (i := 5) sc__law_seen.nd rfl (Or.inl rfl)) (pss_one (ps_if (PW.pt (pw_and (pt_cmpR op_notIn_seq (pv 5) (pv 1) (by rfl)) (pw_and1 (pt_cmpR op_gt (pe_ix ix_list (pe_ix ix_list (pv 3) (pv 5) (fun _ _ => rfl)) (pv 5) (fun _ _ => rfl)) pe_int (nomark _))))) (pss_cons (ps_set (i := 6) sc__law_seen.nd rfl (Or.inl rfl) (pe_ix ix_list (pe_ix ix_list (pv 3) (pv 5) (fun _ _ => rfl)) (pv 5) (fun _ _ => rfl)))
  (pss_cons (ps_set (i := 2) sc__law_seen.nd rfl (Or.inl rfl) (pe_callTy call_list_of (by rfl) T.b_list (by decide +kernel) (pa_cons (pe_ix ix_list (pv 3) (pv 5) (fun _ _ => rfl)) pa_nil)))
  (pss_cons (ps_set (i := 4) sc__law_seen.nd rfl (Or.inl rfl) (pe_op op_mulW (pv 4) (pv 6)))
  (pss_cons (ps_set (i := 7) sc__law_seen.nd rfl (Or.inr rfl) (pv 4))
  (pss_cons (ps_for PassesOwn.never rfl (pi_range1 (by rfl) T.b_range (pa_cons (pe_callB call_len_seq (by rfl) T.b_len PySem.boot_len (pa_cons (pv 0) pa_nil)) pa_nil)) (pg_name (i := 8) sc__law_seen.nd rfl (Or.inl rfl)) (pss_one (ps_for PassesOwn.never rfl (pi_range1 (by rfl) T.b_range (pa_cons (pe_callB call_len_seq (by rfl) T.b_len PySem.boot_len (pa_cons (pv 0) pa_nil)) pa_nil)) (pg_name (i := 9) sc__law_seen.nd rfl (Or.inl rfl)) (pss_cons (ps_asg (pe_op op_sub (pe_op op_mulW (pv 6) (pe_ix ix_list (pe_ix ix_list (pv 3) (pv 8) (fun _ _ => rfl)) (pv 9) (fun _ _ => rfl))) (pe_op op_mulW (pe_ix ix_list (pv 2) (pv 8) (fun _ _ => rfl)) (pe_ix ix_list (pv 2) (pv 9) (fun _ _ => rfl)))) (pg_sub (pe_ix ix_list (pv 3) (pv 8) (fun _ _ => rfl)) (pv 9) set_list))
  (pss_one (ps_if (pt_cmpR op_ne (pv 7) pe_int (nomark _)) (pss_one (ps_set (i := 7) sc__law_seen.nd rfl (Or.inr rfl) (pe_cal C__law_gcd (hr.mono (by omega)) rfl (pa_cons (pv 7) (pa_cons (pe_ix ix_list (pe_ix ix_list (pv 3) (pv 8) (fun _ _ => rfl)) (pv 9) (fun _ _ => rfl)) pa_nil))))) pss_nil))))))
  (pss_cons (ps_set (i := 3) sc__law_seen.nd rfl (Or.inr rfl) (pe_lc (own := [("row", 10)]) (g := gName 10) (tt := tYes) (by rfl) sc__law_seen.nd (pi_list (pv 3)) (blkOk_by (N := N__law_seen) (sc := defScope s__law_seen) (by decide +kernel)) (fun _ _ _ _ _ => (pg_name (i := 10) sc__law_seen.nd rfl (Or.inl rfl))) (fun _ _ _ _ _ => pts_nil) (fun _ _ _ _ _ => (pe_lc (own := [("number", 11)]) (g := gName 11) (tt := tYes) (by rfl) sc__law_seen.nd (pi_listK (K := K) rfl (pv 10)) (blk_nest (N := N__law_seen) (sc0 := defScope s__law_seen) rfl (by decide +kernel)) (fun _ _ _ _ _ => (pg_name (i := 11) sc__law_seen.nd rfl (Or.inl rfl))) (fun _ _ _ _ _ => pts_nil) (fun _ _ _ _ _ => (pe_op op_fdivW (pv 11) (pv 7)))))))
  (pss_one (ps_set (i := 4) sc__law_seen.nd rfl (Or.inl rfl) (pe_op op_fdivW (pv 4) (pv 7)))))))))) pss_nil)))
  (pss_one (ps_ret (pe_lst (pa_cons (pe_lc (own := [("i", 8)]) (g := gName 8) (tt := tYes) (by rfl) sc__law_seen.nd (pi_or (pi_list (pv 1)) (pi_tup (pv 1))) (blkOk_by (N := N__law_seen) (sc := defScope s__law_seen) (by decide +kernel)) (fun _ _ _ _ _ => (pg_name (i := 8) sc__law_seen.nd rfl (Or.inr rfl))) (fun _ _ _ _ _ => pts_nil) (fun _ _ _ _ _ => (pe_lc (own := [("j", 9)]) (g := gName 9) (tt := tYes) (by rfl) sc__law_seen.nd (pi_or (pi_listK (K := K) rfl (pv 1)) (pi_tupK (K := K) rfl (pv 1))) (blk_nest (N := N__law_seen) (sc0 := defScope s__law_seen) rfl (by decide +kernel)) (fun _ _ _ _ _ => (pg_name (i := 9) sc__law_seen.nd rfl (Or.inl rfl))) (fun _ _ _ _ _ => pts_nil) (fun _ _ _ _ _ => (pe_ix (ix_listK (K := K) rfl) (pe_ix (ix_listK (K := K) rfl) (pv 3) (pv 8) (fun _ _ => rfl)) (pv 9) (fun _ _ => rfl)))))) (pa_cons (pv 4) pa_nil)))))))), ?_⟩
  have n10 := jo.n10
  have w1 := jo.w1
  have w0 := jo.w0
  have sy := jo.whole.sym
  have nn := hP.pm.nn
  have PP := hP.pm
  have mono : ∀ q1 q2, q1 < q2 → q2 < El.rO n m ks → El.oS n m ks q1 < El.oS n m ks q2 := fun q1 q2 h1 h2 => El.oS_mono h1 h2
  obtain ⟨S2, d2, B2, ps2, runR⟩ := (PP.psd psd).run (El.Pe_sym sy) (fun i j hj => El.Pe_out i j hj) (El.rO n m ks) (by omega)
  obtain ⟨kk, ka, rfl, hka⟩ := sn_ints hkv
  obtain ⟨vs, ha, hl, row⟩ := ht.at
  have i0 : ∀ i : Nat, (0 + (i : Int)).toNat = i := fun i => by omega
  -- rest
  refine ⟨_, rfl, a, rfl, ⟨_, SqL.of ha⟩, fun L hL => ?_⟩
  refine lc_list (K := K) (a := a) (xs := vs) (fun i H' => ∃ rs, MG H H' L rs n i M) ⟨[], MG.start hL⟩ (fun i H' _ ⟨_, z⟩ => SqL.of (z.same _ _ ha)) (fun i x H2 hx ⟨rs, z⟩ => ?_) (fun H1 ⟨rs, z⟩ => ?_)
  · have hi : i < n := by have := (List.getElem?_eq_some_iff.mp hx).1; omega
    obtain ⟨p, h1, h2⟩ := row i hi
    rw [hx] at h1
    cases h1
    refine ⟨rfl, lc_yes ⟨_, rfl, p, _, rfl, .inl (SqL.of (z.same _ _ h2)), fun D hD => ⟨_, (same_new hD _) _ _ z.at_, ?_, _, z.snoc hL (same_new hD _) hD upd_same⟩⟩⟩
    rw [List.length_map, z.len]
    exact Nat.lt_of_lt_of_le (by omega : i < 1001) (line_ge (by decide))
  rw [hl] at z
  have mt0 := z.mt
  clear z
  refine ⟨_, rfl, a, _, rfl, .inl (SqL.of (mt0.same _ _ ha)), (n : Int), by rw [hl], by omega, by omega, for_range (lo := 0) (n := n) (fun k σ H' => ∃ (v2 v5 v6 v7 v8 v9 : Option V) (L : Addr) (rs : List Addr) (R : Nat → Nat → Int) (sc : Int) (p : Nat) (S : List Nat) (d : Int) (B' : Nat → El.Row) (ps : List El.Pv), σ = [some (.ref a), some (.ref ka), v2, some (.ref L), some (.int sc), v5, v6, v7, v8, v9, none, none] ∧ MT H H' L rs n R ∧ LS n (El.rO n m ks) (El.oS n m ks) ks M k p S d B' ps R sc) ⟨none, none, none, none, none, none, L, rs, M, 1, 0, [], 1, _, [], rfl, mt0, LS.start PP sy⟩ ?_ ?_⟩
  · clear mt0
    rintro k σ H2 hk ⟨v2, v5, v6, v7, v8, v9, L, rs, R, sc, p, S, d, B', ps, rfl, mt, ls⟩
    have s2 := mt.same
    refine ⟨_, rfl, _, rfl, ka, _, rfl, sq_or (sq_same s2 hka), rfl, flat_ints _, _, rfl, ite2 (fun c => ?_) (fun c => ?_)⟩
    · rw [if_pos rfl, inV_ints, Int.zero_add] at c
      have hne : ∀ a, a < m → ks a ≠ k := fun a ha e => by
        rw [decide_eq_true (pv_mem.mpr ⟨a, ha, e⟩)] at c
        cases c
      obtain ⟨bs, bR⟩ := ls.bound PP jo bw
      obtain ⟨pk, hpk1, hpk2⟩ := mt.row k hk
      have ixk : atI (rs.map V.ref) (0 + (k : Int)) = some (.ref pk) := at_pos (by omega) (by rw [i0, List.getElem?_map, hpk1]; rfl)
      refine ⟨_, rfl, _, rfl, L, _, _, _, rfl, rfl, SqL.of mt.at_, ixk, _, rfl, pk, _, _, _, rfl, rfl, SqL.of hpk2, ixv hk, _, _, rfl, rfl, _, rfl, ite2 (fun c0 => ?_) (fun c0 => ?_)⟩
      · have h0 : 0 < R k k := of_decide_eq_true c0
        have rkB : B w (R k k) := bR k k hk hk
        refine ⟨_, rfl, _, rfl, L, _, _, _, rfl, rfl, SqL.of mt.at_, ixk, _, rfl, pk, _, _, _, rfl, rfl, SqL.of hpk2, ixv hk, ?_⟩
        refine ⟨_, rfl, _, rfl, L, _, _, _, rfl, rfl, SqL.of mt.at_, ixk, pk, _, rfl, .inl (SqL.of hpk2), fun D hD => ?_⟩
        obtain ⟨apL, apR⟩ := mt.apart hD
        have mt3 := mt.keep (same_new hD (.lst ((vec n (R k)).map V.int)))
        have hD3 : upd H2 D (.lst ((vec n (R k)).map V.int)) D = some (.lst ((vec n (R k)).map V.int)) := upd_same
        generalize upd H2 D (.lst ((vec n (R k)).map V.int)) = H3 at *
        refine ⟨_, rfl, _, rfl, _, _, rfl, rfl, wmul bs rkB w0 w0 (by omega), ?_⟩
        have sp : 0 < sc * R k k := Int.mul_pos ls.s0 h0
        have spB : B (w + w) (sc * R k k) := P09.B.mul bs rkB
        have bN : ∀ i j, i < n → j < n → B (w + w + 1) (pvt R k i j) := fun i j hi hj => by
          have h1 := P09.B.mul rkB (bR i j hi hj)
          have h2 := P09.B.mul (bR k i hk hi) (bR k j hk hj)
          have h3 := P09.B.add h1 (y := -(R k i * R k j)) (by show (-(R k i * R k j)).natAbs < _; rw [Int.natAbs_neg]; exact h2)
          unfold pvt
          rw [Int.sub_eq_add_neg]
          exact h3
        refine ⟨_, rfl, ?_⟩
        refine ⟨_, rfl, a, _, rfl, .inl (SqL.of (mt3.same _ _ ha)), (n : Int), by rw [hl], by omega, by omega, for_range (lo := 0) (n := n) (fun i σ H' => ∃ (v8 v9 : Option V), σ = [some (.ref a), some (.ref ka), some (.ref D), some (.ref L), some (.int (sc * R k k)), some (.int (0 + (k : Int))), some (.int (R k k)), some (.int (gf (sc * R k k) ((mat n (pvt R k)).take i).flatten)), v8, v9, none, none] ∧ MT H H' L rs n (mix R (pvt R k) i 0) ∧ H' D = some (.lst ((vec n (R k)).map V.int))) ⟨_, _, rfl, by rw [mix_0]; exact mt3, hD3⟩ ?_ ?_⟩
        · clear mt3 hD3
          rintro i σ H4 hi ⟨v8, v9, rfl, mt4, hD4⟩
          refine ⟨_, rfl, a, _, rfl, .inl (SqL.of (mt4.same _ _ ha)), (n : Int), by rw [hl], by omega, by omega, for_range (lo := 0) (n := n) (fun j σ H' => ∃ (v9 : Option V), σ = [some (.ref a), some (.ref ka), some (.ref D), some (.ref L), some (.int (sc * R k k)), some (.int (0 + (k : Int))), some (.int (R k k)), some (.int (gf (sc * R k k) (((mat n (pvt R k)).take i).flatten ++ (vec n (pvt R k i)).take j))), some (.int (0 + (i : Int))), v9, none, none] ∧ MT H H' L rs n (mix R (pvt R k) i j) ∧ H' D = some (.lst ((vec n (R k)).map V.int))) ⟨v9, by rw [List.take_zero, List.append_nil]; rfl, mt4, hD4⟩ ?_ ?_⟩
          · clear mt4 hD4
            rintro j σ H5 hj ⟨v9, rfl, mt5, hD5⟩
            obtain ⟨pi, hpi1, hpi2⟩ := mt5.row i hi
            have ixi : atI (rs.map V.ref) (0 + (i : Int)) = some (.ref pi) := at_pos (by omega) (by rw [i0, List.getElem?_map, hpi1]; rfl)
            refine ⟨_, rfl, _, rfl, _, rfl, L, _, _, _, rfl, rfl, SqL.of mt5.at_, ixi, _, rfl, pi, _, _, _, rfl, rfl, SqL.of hpi2, ixv hj, _, _, rfl, rfl, ?_⟩
            rw [mix_at]
            refine ⟨wmul rkB (bR i j hi hj) w0 w0 (by omega), ?_⟩
            refine ⟨_, rfl, _, rfl, D, _, _, _, rfl, rfl, SqL.of hD5, ixv hi, _, rfl, _, rfl, D, _, _, _, rfl, rfl, SqL.of hD5, ixv hj, _, _, rfl, rfl, wmul (bR k i hk hi) (bR k j hk hj) w0 w0 (by omega), _, _, rfl, rfl, ?_⟩
            refine ⟨_, rfl, _, rfl, L, _, _, _, rfl, rfl, SqL.of mt5.at_, ixi, _, rfl, pi, _, _, j, rfl, rfl, hpi2, by rw [vec_lenV]; unfold ixN; rw [if_pos (by omega), if_pos (by omega)]; congr 1; exact i0 j, ?_⟩
            have mpi := List.mem_of_getElem? hpi1
            have st := (mt5.set (v := pvt R k i j) hi hj hpi1).congr fun x y _ _ => mix_put R (pvt R k) i j x y
            have hD6 : upd H5 pi (.lst (((vec n (mix R (pvt R k) i j i)).map V.int).set j (.int (pvt R k i j)))) D = some (.lst ((vec n (R k)).map V.int)) := by
              rw [upd_ne (fun z => apR (by rw [z]; exact mpi))]
              exact hD5
            obtain ⟨pi', hpi1', hpi2'⟩ := st.row i hi
            rw [hpi1] at hpi1'
            cases hpi1'
            have hv : ((vec n (mix R (pvt R k) i (j + 1) i)).map V.int)[j]? = some (.int (pvt R k i j)) := by
              rw [vecV_at hj]
              unfold mix
              rw [if_pos (.inr ⟨rfl, by omega⟩)]
            have e1 : gf (sc * R k k) (((mat n (pvt R k)).take i).flatten ++ (vec n (pvt R k i)).take (j + 1)) = gI (gf (sc * R k k) (((mat n (pvt R k)).take i).flatten ++ (vec n (pvt R k i)).take j)) (pvt R k i j) := by
              rw [take_one (vec_at hj), ← List.append_assoc, gf_snoc]
            have hst := st
            refine ⟨_, rfl, rfl, _, rfl, ?_⟩
            by_cases g1 : gf (sc * R k k) (((mat n (pvt R k)).take i).flatten ++ (vec n (pvt R k i)).take j) = 1
            · refine ifF (ne_F g1) ⟨some (.int (0 + (j : Int))), ?_, hst, hD6⟩
              rw [e1, g1, gI_unit]
              rfl
            · refine ifT (ne_T g1) ⟨_, rfl, _, rfl, _, rfl, L, _, _, _, rfl, rfl, SqL.of hst.at_, ixi, _, rfl, pi, _, _, _, rfl, rfl, SqL.of hpi2', at_pos (by omega) (by rw [i0]; exact hv), _, _, rfl, (bN i j hi hj).mono (by omega), some (.int (0 + (j : Int))), ?_, hst, hD6⟩
              rw [e1]
              rfl
          · rintro σ H5 ⟨v9, rfl, mt5, hD5⟩
            refine ⟨some (.int (0 + (i : Int))), v9, ?_, mt5.congr (mix_row _ _ _ _), hD5⟩
            have ev : (vec n (pvt R k i)).take n = vec n (pvt R k i) := List.take_of_length_le (by rw [vec_len]; exact Nat.le_refl _)
            rw [ev, flat_at hi]
        · rintro σ H4 ⟨v8, v9, rfl, mt4, hD4⟩
          have mt5 := mt4.congr (mix_all R (pvt R k) n)
          rw [List.take_of_length_le (by rw [mat_len]; exact Nat.le_refl _)]
          obtain ⟨G, hG⟩ : ∃ G, G = gf (sc * R k k) (mat n (pvt R k)).flatten := ⟨_, rfl⟩
          rw [← hG]
          have G0 : 0 < G := by rw [hG]; exact gf_pos sp _
          have GB : B 9000 G := by
            have h1 := gf_le sp (mat n (pvt R k)).flatten
            rw [← hG] at h1
            have h2 : (sc * R k k).natAbs < 2 ^ (w + w) := spB
            have h3 : B (w + w) G := by
              show G.natAbs < 2 ^ (w + w)
              omega
            exact h3.mono (by omega)
          have ls2 := ls.pivot PP sy mono hk hne h0 hG
          have dv : ∀ x, CDivW x G := fun x => wide_div G0 GB (by decide) (by decide)
          refine ⟨_, rfl, L, rfl, ⟨_, SqL.of mt5.at_⟩, fun L2 hL2 => ?_⟩
          refine lc_list (K := K) (a := L) (xs := rs.map V.ref) (fun i H' => ∃ rs2, MG H4 H' L2 rs2 n i (fun i j => pvt R k i j / G)) ⟨[], MG.start hL2⟩ (fun i H' _ ⟨_, z⟩ => SqL.of (z.same _ _ mt5.at_)) (fun i x H5 hx ⟨rs2, z⟩ => ?_) (fun H5 ⟨rs2, z⟩ => ?_)
          · have hi : i < n := by
              have := (List.getElem?_eq_some_iff.mp hx).1
              rw [List.length_map, mt5.len] at this
              exact this
            obtain ⟨p1, h1, h2⟩ := mt5.row i hi
            rw [List.getElem?_map, h1] at hx
            cases hx
            have h2' := z.same _ _ h2
            refine ⟨rfl, lc_yes ⟨_, rfl, p1, rfl, ⟨_, SqL.of h2'⟩, fun D3 hD3 => ?_⟩⟩
            refine lc_m (walk_list (K := K) (a := p1) (xs := (vec n (pvt R k i)).map V.int)) RI (stb_RI (K := K)) (List.range n) (by rw [vec_lenV, List.length_range]) (by rw [List.length_range]; omega) hD3 (fun H' s => s.seq (SqL.of h2')) (fun _ _ _ _ => ys_at) (fun j => pvt R k i j / G) (fun c j v H6 H7 hc s6 s7 yl A2 B3 hA2 => ?_) (fun H6 l6 s6 hl6 rz6 => ?_)
            · obtain ⟨hj1, rfl⟩ := in_range hc
              have e0 := yl.2
              rw [vecV_at hj1] at e0
              cases e0
              exact ⟨rfl, lc_yes ⟨_, rfl, _, rfl, _, _, rfl, rfl, dv _, hA2 _ _ (fun _ _ h => h) rfl⟩⟩
            · refine ⟨_, s6 _ _ z.at_, ?_, _, z.snoc hL2 s6 hD3 (by rw [hl6, rz6.ints]; rfl)⟩
              rw [List.length_map, z.len]
              exact Nat.lt_of_lt_of_le (by omega : i < 1001) (line_ge (by decide))
          · rw [List.length_map, mt5.len] at z
            have mt6 := z.mt.rebase mt5.same
            refine ⟨_, rfl, _, rfl, _, _, rfl, rfl, dv _, ?_⟩
            exact ⟨_, _, _, _, _, _, L2, rs2, _, sc * R k k / G, p + 1, _, _, _, _, rfl, mt6, ls2⟩
      · have h0 : ¬ 0 < R k k := fun h => c0 (decide_eq_true h)
        exact ⟨_, _, _, _, _, _, L, rs, R, sc, p + 1, S, d, B', ps, rfl, mt, ls.skip PP sy mono runR hk hne h0⟩
    · rw [if_pos rfl, inV_ints, Int.zero_add] at c
      have : ∃ a, a < m ∧ ks a = k := by
        refine Classical.byContradiction fun hne => c ?_
        rw [decide_eq_false fun z => hne (pv_mem.mp z)]
        rfl
      obtain ⟨a1, ha1, ea⟩ := this
      exact ⟨_, _, _, _, _, _, L, rs, R, sc, p, S, d, B', ps, rfl, mt, ls.kept PP ha1 ea⟩
  · rintro σ H2 ⟨v2, v5, v6, v7, v8, v9, L, rs, R, sc, p, S, d, B', ps, rfl, mt, ls⟩
    have pe : p = El.rO n m ks := by
      have pr := ls.pr
      rcases Nat.lt_or_ge p (El.rO n m ks) with c | c
      · have := (ls.cnt p c).mp (PP.o p c)
        omega
      · omega
    subst pe
    obtain ⟨bs, bR⟩ := ls.bound PP jo bw
    have s2 := mt.same
    obtain ⟨R', hR'⟩ : ∃ R' : Nat → Nat → Int, R' = fun a c => R (ks a) (ks c) := ⟨_, rfl⟩
    have el : ∀ {c : Nat} {v : V}, ((pv_ m ks).map V.int)[c]? = some v → c < m ∧ v = .int (ks c : Int) := fun {c v} h => by
      have hc : c < m := by
        have := (List.getElem?_eq_some_iff.mp h).1
        rw [vec_lenV] at this
        exact this
      rw [vecV_at hc] at h
      cases h
      exact ⟨hc, rfl⟩
    have ixr : ∀ i, i < n → ∃ p, atI (rs.map V.ref) (i : Int) = some (.ref p) ∧ H2 p = some (.lst ((vec n (R i)).map V.int)) := fun i hi => by
      obtain ⟨p, h1, h2⟩ := mt.row i hi
      exact ⟨p, atI_nat (by rw [List.getElem?_map, h1]; rfl), h2⟩
    have fin : ∀ (D : Addr) (H3 : Hp) (l : List V), Same H2 H3 → H3 D = some (.lst l) → Rs (RL D) H3 l ((List.range m).map fun a => vec m (R' a)) → ∀ r, H3 r = none → Q (.ref r) (upd H3 r (.lst [.ref D, .int sc])) := fun D H3 l s3 hl3 rz r hr3 => by
      have tb := LTab.of hl3 rz
      refine q r D _ S d B' ps R' sc (s2.trans (s3.trans (same_new hr3 _))) upd_same (tb.same (same_new hr3 _)) ls.run ls.s0 (fun a c ha hc => ?_) bs (fun a c ha hc => by rw [hR']; exact bR _ _ (hP.k a ha) (hP.k c hc))
      have t := ls.tie (El.rO n m ks + a) (El.rO n m ks + c) (by omega) (by omega) (by omega) (by omega)
      rw [El.pm_k, El.pm_k] at t
      rw [hR']
      exact t
    have inner : ∀ (a : Nat) (D2 : Addr) (H4 H5 : Hp) (l5 : List V), H4 D2 = none → Same H4 H5 → H5 D2 = some (.lst l5) → Rs RI H5 l5 ((List.range m).map fun c => R' a c) → H5 D2 = some (.lst ((vec m (R' a)).map V.int)) := fun a D2 H4 H5 l5 _ _ h1 h2 => by rw [h1, h2.ints]; rfl
    cases kk with
    | true =>
      have hka2 : SqL K H2 ka ((pv_ m ks).map V.int) := sq_same s2 hka
      refine .inl ⟨_, rfl, ka, rfl, ⟨_, hka2⟩, fun D hD => ?_⟩
      refine lc_gm (walk_list (K := K) (a := ka) (xs := (pv_ m ks).map V.int)) (RL D) stb_RL (List.range m) (by rw [vec_lenV, List.length_range]) (by rw [List.length_range]; omega) hD (fun H' s => (s).seq hka2) (fun _ _ _ _ => ys_at) (fun a => vec m (R' a)) (fun c a x H4 H5 hc s4 s5 yl hdl A B3 hA => ?_) (fun H3 l3 s3 hl3 rz => ⟨_, rfl, two_line, fun r hr => fin D H3 l3 s3 hl3 rz r hr⟩)
      obtain ⟨ha1, rfl⟩ := in_range hc
      obtain ⟨_, rfl⟩ := el yl.2
      obtain ⟨pr, e1, e2⟩ := ixr (ks a) (hP.k a ha1)
      refine ⟨rfl, lc_yes (.inl ⟨_, rfl, ka, rfl, ⟨_, (s5).seq hka2⟩, fun D2 hD2 => ?_⟩)⟩
      refine lc_m (walk_list (K := K) (a := ka) (xs := (pv_ m ks).map V.int)) RI (stb_RI (K := K)) (List.range m) (by rw [vec_lenV, List.length_range]) (by rw [List.length_range]; omega) hD2 (fun H' s => (s5.trans s).seq hka2) (fun _ _ _ _ => ys_at) (fun c => R' a c) (fun c2 c v H6 H7 hc s6 s7 yl2 A2 B4 hA2 => ?_) (fun H6 l6 s6 hl6 rz6 => ?_)
      · obtain ⟨hc1, rfl⟩ := in_range hc
        obtain ⟨_, rfl⟩ := el yl2.2
        have s57 := s5.trans s7
        refine ⟨rfl, lc_yes ⟨_, rfl, _, rfl, L, _, _, _, rfl, rfl, SqL.of (s57 _ _ mt.at_), e1, _, rfl, pr, _, _, _, rfl, rfl, SqL.of (s57 _ _ e2), atI_nat (vecV_at (hP.k c hc1)), hA2 _ _ (fun _ _ h => h) ?_⟩⟩
        show V.int _ = V.int _
        rw [hR']
      · refine hA _ _ s6 ⟨D2, rfl, fun z => ?_, by rw [hl6, rz6.ints]; rfl⟩
        obtain ⟨l, hl⟩ := hdl
        rw [z, hl] at hD2
        cases hD2
    | false =>
      have hka2 : SqT K H2 ka ((pv_ m ks).map V.int) := sq_same s2 hka
      refine .inr ⟨_, rfl, ka, rfl, ⟨_, hka2⟩, fun D hD => ?_⟩
      refine lc_gm (walk_tup (K := K) (a := ka) (xs := (pv_ m ks).map V.int)) (RL D) stb_RL (List.range m) (by rw [vec_lenV, List.length_range]) (by rw [List.length_range]; omega) hD (fun H' s => Same_seqT (s) hka2) (fun _ _ _ _ => ys_at) (fun a => vec m (R' a)) (fun c a x H4 H5 hc s4 s5 yl hdl A B3 hA => ?_) (fun H3 l3 s3 hl3 rz => ⟨_, rfl, two_line, fun r hr => fin D H3 l3 s3 hl3 rz r hr⟩)
      obtain ⟨ha1, rfl⟩ := in_range hc
      obtain ⟨_, rfl⟩ := el yl.2
      obtain ⟨pr, e1, e2⟩ := ixr (ks a) (hP.k a ha1)
      refine ⟨rfl, lc_yes (.inr ⟨_, rfl, ka, rfl, ⟨_, Same_seqT (s5) hka2⟩, fun D2 hD2 => ?_⟩)⟩
      refine lc_m (walk_tup (K := K) (a := ka) (xs := (pv_ m ks).map V.int)) RI (stb_RI (K := K)) (List.range m) (by rw [vec_lenV, List.length_range]) (by rw [List.length_range]; omega) hD2 (fun H' s => Same_seqT (s5.trans s) hka2) (fun _ _ _ _ => ys_at) (fun c => R' a c) (fun c2 c v H6 H7 hc s6 s7 yl2 A2 B4 hA2 => ?_) (fun H6 l6 s6 hl6 rz6 => ?_)
      · obtain ⟨hc1, rfl⟩ := in_range hc
        obtain ⟨_, rfl⟩ := el yl2.2
        have s57 := s5.trans s7
        refine ⟨rfl, lc_yes ⟨_, rfl, _, rfl, L, _, _, _, rfl, rfl, SqL.of (s57 _ _ mt.at_), e1, _, rfl, pr, _, _, _, rfl, rfl, SqL.of (s57 _ _ e2), atI_nat (vecV_at (hP.k c hc1)), hA2 _ _ (fun _ _ h => h) ?_⟩⟩
        show V.int _ = V.int _
        rw [hR']
      · refine hA _ _ s6 ⟨D2, rfl, fun z => ?_, by rw [hl6, rz6.ints]; rfl⟩
        obtain ⟨l, hl⟩ := hdl
        rw [z, hl] at hD2
        cases hD2
end
end P09
set_option exponentiation.threshold 80000
namespace P09
open PySem PySem.Spec PyProof.Rows L2 SX EX WK
theorem wsz_sym (ps : List RZ) (i j : Nat) : wsz ps i j = wsz ps j i := by
  unfold wsz
  congr 1
  refine List.map_congr_left fun p _ => ?_
  grind
theorem wsz_le {n wb : Nat} {i j : Nat} (hi : i < n) (hj : j < n) : ∀ {ps : List RZ}, (∀ p ∈ ps, B wb p.2 ∧ ∀ i, i < n → B 17 (p.1 i)) → (wsz ps i j).natAbs ≤ ps.length * 2 ^ (wb + 34) := fun {ps} => by
  induction ps with
  | nil => intro _; simp [wsz]
  | cons p ps ih =>
    intro h
    have h1 := ih fun q hq => h q (List.mem_cons_of_mem _ hq)
    obtain ⟨h2, h3⟩ := h p (List.mem_cons_self ..)
    have h4 : (p.2 * p.1 i * p.1 j).natAbs < 2 ^ (wb + 17 + 17) := P09.B.mul (P09.B.mul h2 (h3 i hi)) (h3 j hj)
    have e : wsz (p :: ps) i j = p.2 * p.1 i * p.1 j + wsz ps i j := by simp [wsz]
    rw [e, List.length_cons, Nat.add_mul, Nat.one_mul]
    have := Int.natAbs_add_le (p.2 * p.1 i * p.1 j) (wsz ps i j)
    rw [show wb + 17 + 17 = wb + 34 by omega] at h4
    omega
theorem wsz_B {n wb c : Nat} {ps : List RZ} (hl : ps.length < 2 ^ c) (h : ∀ p ∈ ps, B wb p.2 ∧ ∀ i, i < n → B 17 (p.1 i)) : ∀ i j, i < n → j < n → B (c + (wb + 34)) (wsz ps i j) := fun i j hi hj => by
  have h1 := wsz_le hi hj h
  show (wsz ps i j).natAbs < 2 ^ (c + (wb + 34))
  rw [Nat.pow_add]
  exact Nat.lt_of_le_of_lt h1 (Nat.mul_lt_mul_of_pos_right hl (Nat.two_pow_pos _))
theorem psz_mem {n wb : Nat} {H : Hp} {a : Addr} {ps : List RZ} (h : PsZ n wb H a ps) : ∀ p ∈ ps, B wb p.2 ∧ ∀ i, i < n → B 17 (p.1 i) := fun p hp => by
  obtain ⟨vs, _, h2, h3⟩ := h
  obtain ⟨i, hi⟩ := List.getElem?_of_mem hp
  have hl : i < vs.length := by
    have := (List.getElem?_eq_some_iff.mp hi).1
    omega
  obtain ⟨_, _, _, _, _, h4, h5⟩ := h3 i _ p (List.getElem?_eq_getElem hl) hi
  exact ⟨h4, h5⟩
def zsD : List Int := [16, 10, 10, 8, 9]
theorem zsD_ok : ∀ z ∈ zsD, 0 < z ∧ z.natAbs < 2 ^ 2000 := szs (by decide +kernel)
theorem cut24 {g : Nat → Int} : cutV ((vec 5 g).map V.int) (some 2) (some 4) = [.int (g 2), .int (g 3)] := rfl
/-- what is known of a drawn table -/
structure DT (n : Nat) (T : Nat → Nat → Int) (l : Int) : Prop where
  n10 : n ≤ 10
  sym : ∀ i j, i < n → j < n → T i j = T j i
  tB : ∀ i j, i < n → j < n → B 70 (T i j)
  l1 : 1 ≤ l
  lB : B 20 l
theorem lB_of {l : Int} (h1 : 1 ≤ l) (h2 : l ≤ 1000) : B 20 l := by
  show l.natAbs < 2 ^ 20
  omega
section
variable {P : Program} {w : World} {K : PySem.W.Frag} {mg : Str → Option Value} {base : Heap} {f : Addr} {fd : FuncData} {cF cR : Addr}
def spDrawn (K : PySem.W.Frag) : Sp := fun vs H Q _ => ∃ (a : Addr) (ns : List Int) (k : Int), vs = [.ref a, .int k] ∧ SqL K H a (ns.map V.int) ∧ ∀ r tb H' n T l, Same H H' → H' r = some (.lst [.ref tb, .int l]) → LTab H' tb n T → DT n T l → Q (.ref r) H'
abbrev s__law_drawn : Stmt := top 65
abbrev N__law_drawn : List Str := ["script", "kind", "long", "shape", "size", "many", "table"]
theorem sc__law_drawn : FnScope N__law_drawn ["script", "kind"] (defScope s__law_drawn) := ⟨rfl, rfl, rfl, by decide +kernel, rfl, by decide +kernel, by decide +kernel⟩
theorem ok__law_drawn (F : Fun K "_law_drawn" "_law_drawn" s__law_drawn f fd) (T : Txt mg) (C__law_cell : Cal P w K mg base 1 "_law_cell" ["script", "k"] (spCell K)) (C__law_digits : Cal P w K mg base 1 "_law_digits" ["cell", "sizes"] (spDigits K)) (C__law_draw_long : Cal P w K mg base 2 "_law_draw_long" ["script", "at"] (spLong K)) (C__law_draw_pairs : Cal P w K mg base 2 "_law_draw_pairs" ["script", "at", "size", "many", "kinds"] (spDps K)) (C__law_table : Cal P w K mg base 1 "_law_table" ["size", "pairs"] (spTab K)) (C__law_raw : Cal P w K mg base 2 "_law_raw" ["script", "at", "size"] (spRaw K)) : FnOk P w K mg base CX0 3 f fd ["script", "kind"] (spDrawn K) := by
  refine F.ok sc__law_drawn (fun vs H Q E h => ?_) (fun cdv A outer s H vs Q E hr h => ?_)
  · obtain ⟨a, ns, k, rfl, _⟩ := h
    rfl
  obtain ⟨a, ns, k, rfl, ha, q⟩ := h
  refine ⟨_, (pss_cons (ps_if (pt_cmpR op_eq (pv 1) pe_int (nomark _)) (pss_cons (ps_set (i := 2) sc__law_drawn.nd rfl (Or.inl rfl) (pe_cal C__law_draw_long (hr.mono (by omega)) rfl (pa_cons (pv 0) (pa_cons pe_int pa_nil))))
  (pss_one (ps_ret (pe_lst (pa_cons (pe_cal C__law_table (hr.mono (by omega)) rfl (pa_cons (pe_ix ix_list (pv 2) pe_int (fun _ _ => rfl)) (pa_cons (pe_ix ix_list (pv 2) pe_int (fun _ _ => rfl)) pa_nil))) (pa_cons (pe_ix ix_list (pv 2) pe_int (fun _ _ => rfl)) pa_nil)))))) pss_nil)
  (pss_cons (ps_set (i := 3) sc__law_drawn.nd rfl (Or.inl rfl) (pe_cal C__law_digits (hr.mono (by omega)) rfl (pa_cons (pe_cal C__law_cell (hr.mono (by omega)) rfl (pa_cons (pv 0) (pa_cons pe_int pa_nil))) (pa_cons (pe_lst (pa_cons pe_int (pa_cons pe_int (pa_cons pe_int (pa_cons pe_int (pa_cons pe_int pa_nil)))))) pa_nil))))
  (pss_cons (ps_set (i := 4) sc__law_drawn.nd rfl (Or.inl rfl) (pe_ix ix_list (pe_lst (pa_cons pe_int (pa_cons pe_int (pa_cons pe_int (pa_cons pe_int (pa_cons pe_int (pa_cons pe_int (pa_cons pe_int (pa_cons pe_int (pa_cons pe_int (pa_cons pe_int (pa_cons pe_int (pa_cons pe_int (pa_cons pe_int (pa_cons pe_int (pa_cons pe_int (pa_cons pe_int pa_nil))))))))))))))))) (pe_ix ix_list (pv 3) pe_int (fun _ _ => rfl)) (fun _ _ => rfl)))
  (pss_cons (ps_if (pt_cmpR op_lt (pv 1) pe_int (nomark _)) (pss_one (ps_ret (pe_lst (pa_cons (pe_cal C__law_raw (hr.mono (by omega)) rfl (pa_cons (pv 0) (pa_cons pe_int (pa_cons (pv 4) pa_nil)))) (pa_cons (pe_op op_add pe_int (pe_ix ix_list (pv 3) pe_int (fun _ _ => rfl))) pa_nil))))) pss_nil)
  (pss_cons (ps_set (i := 5) sc__law_drawn.nd rfl (Or.inl rfl) (pe_ix ix_list (pe_lst (pa_cons (pe_op op_sub (pv 4) pe_int) (pa_cons (pe_op op_sub (pv 4) pe_int) (pa_cons pe_int (pa_cons (pv 4) (pa_cons (pv 4) (pa_cons (pe_op op_add (pv 4) pe_int) (pa_cons (pe_op op_sub (pv 4) pe_int) (pa_cons pe_int (pa_cons (pe_op op_add (pv 4) pe_int) (pa_cons (pe_op op_add (pv 4) pe_int) pa_nil))))))))))) (pe_ix ix_list (pv 3) pe_int (fun _ _ => rfl)) (fun _ _ => rfl)))
  (pss_cons (ps_set (i := 6) sc__law_drawn.nd rfl (Or.inl rfl) (pe_cal C__law_table (hr.mono (by omega)) rfl (pa_cons (pv 4) (pa_cons (pe_cal C__law_draw_pairs (hr.mono (by omega)) rfl (pa_cons (pv 0) (pa_cons pe_int (pa_cons (pv 4) (pa_cons (pe_callB (call_max2 rfl) (by rfl) T.b_max (by decide +kernel) (pa_cons pe_int (pa_cons (pv 5) pa_nil))) (pa_cons (pe_slice sl_list (pv 3) (po_some pe_int) (po_some pe_int)) pa_nil)))))) pa_nil))))
  (pss_one (ps_ret (pe_lst (pa_cons (pv 6) (pa_cons (pe_ix ix_list (pe_lst (pa_cons pe_int (pa_cons pe_int (pa_cons pe_int (pa_cons pe_int (pa_cons pe_int (pa_cons pe_int (pa_cons pe_int (pa_cons pe_int (pa_cons pe_int pa_nil)))))))))) (pe_ix ix_list (pv 3) pe_int (fun _ _ => rfl)) (fun _ _ => rfl)) pa_nil))))))))))), ?_⟩
  have tab : ∀ {n : Nat} {ps : List RZ} {H' : Hp} {pl : Addr}, PsZ n 30 H' pl ps → ps.length ≤ 60 → (∀ i j, i < n → j < n → wsz ps i j = wsz ps j i) ∧ ∀ i j, i < n → j < n → B 70 (wsz ps i j) := fun {n ps H' pl} h hl => ⟨fun i j _ _ => wsz_sym ps i j, fun i j hi hj => wsz_B (c := 6) (by show ps.length < 64; omega) (psz_mem h) i j hi hj⟩
  refine ⟨_, rfl, rfl, _, rfl, ite2 (fun _ => ?_) (fun _ => ?_)⟩
  · refine ⟨_, rfl, a, ns, 3, rfl, ha, by decide, by decide, fun lo pl H1 m b ps s1 hlo hm hb0 hb1 hps hpl _ => ?_⟩
    refine ⟨_, rfl, lo, _, 0, _, rfl, rfl, SqL.of hlo, at_pos (by decide) rfl, _, rfl, lo, _, 1, _, rfl, rfl, SqL.of hlo, at_pos (by decide) rfl, pl, m, 30, ps, rfl, hps, by decide, by decide, by omega, fun t1 H2 s2 hT => ?_⟩
    have hlo2 := s2 _ _ hlo
    obtain ⟨t0, tB⟩ := tab hps hpl
    exact ⟨_, rfl, lo, _, 2, _, rfl, rfl, SqL.of hlo2, at_pos (by decide) rfl, two_line, fun r hr => q r t1 _ m _ b (s1.trans (s2.trans (same_new hr _))) upd_same (hT.same (same_new hr _)) ⟨hm, t0, tB, hb0, lB_of hb0 hb1⟩⟩
  refine ⟨_, rfl, a, ns, 2, rfl, ha, by decide, by decide, fun c => ⟨five_line, fun l1 hl1 => ?_⟩⟩
  have s1 := same_new (H := H) hl1 (.lst [V.int 16, V.int 10, V.int 10, V.int 8, V.int 9])
  refine ⟨c, l1, zsD, rfl, SqL.of upd_same, by decide, zsD_ok, fun sh ds hsh hd => ?_⟩
  obtain ⟨g, rfl, hg⟩ := dig_vec hd (m := 5) rfl
  have s2 := s1.trans (same_new hsh (.lst ((vec 5 g).map V.int)))
  generalize hH2 : upd _ sh (.lst ((vec 5 g).map V.int)) = H2 at *
  have hsh2 : H2 sh = some (.lst ((vec 5 g).map V.int)) := by rw [← hH2, upd_same]
  have hS := SqL.of (K := K) hsh2
  have g0 := hg 0 16 rfl
  have g1 := hg 1 10 rfl
  have g4 := hg 4 9 rfl
  obtain ⟨sz, hsm, hsk⟩ := pick (cs := [3, 3, 4, 4, 2, 5, 3, 4, 2, 3, 1, 5, 4, 3, 6, 0]) (d := g 0) g0.1 g0.2
  have hsb : ∀ x ∈ ([3, 3, 4, 4, 2, 5, 3, 4, 2, 3, 1, 5, 4, 3, 6, 0] : List Int), 0 ≤ x ∧ x ≤ 6 := by decide
  have sb := hsb sz hsm
  obtain ⟨n, hn⟩ : ∃ n : Nat, sz = n := ⟨sz.toNat, by omega⟩
  subst hn
  have hn6 : n ≤ 6 := by omega
  refine ⟨line_ge (by show 16 ≤ 100000; decide), fun l2 hl2 => ?_⟩
  have s3 := fun o => same_new (H := H2) hl2 o
  refine ⟨_, rfl, sh, _, 0, _, rfl, rfl, (s3 _).seq hS, ixa (k := 0) (by decide) rfl (by decide), l2, _, _, _, rfl, rfl, SqL.of upd_same, at_pos g0.1 hsk, ?_⟩
  generalize hH3 : upd H2 l2 _ = H3
  have s23 : Same H2 H3 := by rw [← hH3]; exact s3 _
  clear hH3 s3
  have s3' := s2.trans s23
  have hsh3 := s23 _ _ hsh2
  have hS3 := SqL.of (K := K) hsh3
  refine ⟨_, rfl, _, _, rfl, rfl, _, rfl, ite2 (fun _ => ?_) (fun _ => ?_)⟩
  · refine ⟨_, rfl, _, rfl, a, ns, 3, n, rfl, s3'.seq ha, by decide, by decide, hn6, fun tb H4 F s4 hT sF bF => ?_⟩
    refine ⟨_, rfl, sh, _, 4, _, rfl, rfl, s4.seq hS3, ixa (k := 4) (by decide) rfl (by decide), _, _, rfl, rfl, two_line, fun r hr => ?_⟩
    exact q r tb _ n F _ (s3'.trans (s4.trans (same_new hr _))) upd_same (hT.same (same_new hr _)) ⟨by omega, fun i j _ _ => sF i j, fun i j _ _ => (bF i j).mono (by decide), by omega, lB_of (by omega) (by omega)⟩
  obtain ⟨mv, hmm, hmk⟩ := pick (cs := [(n : Int) - 1, (n : Int) - 2, 2, n, n, (n : Int) + 1, (n : Int) - 1, 3, (n : Int) + 2, (n : Int) + 3]) (d := g 1) g1.1 g1.2
  have mb : -2 ≤ mv ∧ mv ≤ 9 := by
    simp only [List.mem_cons, List.not_mem_nil, or_false] at hmm
    omega
  refine ⟨_, rfl, _, _, rfl, rfl, _, rfl, _, _, rfl, rfl, _, rfl, _, rfl, _, rfl, _, _, rfl, rfl, _, rfl, _, _, rfl, rfl, _, rfl, _, _, rfl, rfl, _, rfl, _, _, rfl, rfl, line_ge (by show 10 ≤ 100000; decide), fun l4 hl4 => ?_⟩
  have s4 := fun o => same_new (H := H3) hl4 o
  refine ⟨_, rfl, sh, _, 1, _, rfl, rfl, (s4 _).seq hS3, ixa (k := 1) (by decide) rfl (by decide), l4, _, _, _, rfl, rfl, SqL.of upd_same, at_pos g1.1 hmk, ?_⟩
  generalize hH4 : upd H3 l4 _ = H4
  have s4' : Same H3 H4 := by rw [← hH4]; exact s4 _
  clear hH4 s4
  have hS4 := s4'.seq hS3
  have mx : (if mv > 0 then mv else 0) ≤ 9 ∧ 0 ≤ (if mv > 0 then mv else 0) := by
    by_cases c : mv > 0
    · rw [if_pos c]; omega
    · rw [if_neg c]; omega
  refine ⟨_, rfl, _, rfl, _, rfl, _, rfl, _, _, rfl, ?_⟩
  refine ⟨_, rfl, _, rfl, _, rfl, sh, _, rfl, hS4, fun lk hlk => ?_⟩
  have sk := same_new hlk (.lst (cutV ((vec 5 g).map V.int) (some 2) (some 4)))
  have s5' := (s3'.trans s4').trans sk
  refine ⟨a, lk, ns, 4, (if mv > 0 then mv else 0), g 2, g 3, n, rfl, s5'.seq ha, by decide, by decide, by omega, by omega, by omega, by rw [upd_same, cut24], fun p5 H5 ps1 s5 hps1 hln1 => ?_⟩
  refine ⟨p5, n, 30, ps1, rfl, hps1, by decide, by decide, by omega, fun t1 H6 s6 hT1 => ?_⟩
  have s46 := sk.trans (s5.trans s6)
  have hS6 := s46.seq hS4
  obtain ⟨z, hz, z1, z2⟩ := base_at g4.1 g4.2
  refine ⟨_, rfl, nine_line, fun l5 hl5 => ?_⟩
  have s7 := fun o => same_new (H := H6) hl5 o
  refine ⟨_, rfl, sh, _, 4, _, rfl, rfl, (s7 _).seq hS6, ixa (k := 4) (by decide) rfl (by decide), l5, _, _, _, rfl, rfl, SqL.of upd_same, at_pos g4.1 hz, two_line, fun r hr => ?_⟩
  obtain ⟨t0, tB⟩ := tab hps1 (by omega)
  exact q r t1 _ n _ z ((s3'.trans s4').trans (s46.trans ((s7 _).trans (same_new hr _)))) upd_same ((hT1.same (s7 _)).same (same_new hr _)) ⟨by omega, t0, tB, z1, lB_of z1 z2⟩
end
end P09
set_option maxHeartbeats 6000000
set_option exponentiation.threshold 80000
namespace P09
open PySem PySem.Spec PyProof.Rows L2 SX EX WK
theorem bad_bd {n k : Nat} {B' : Nat → El.Row} {x : El.Row} (bad : BadAt n k B' x) : Bd n k B' := by
  rcases bad with ⟨h0, _⟩ | ⟨h0, p, hp, hpn, hne, _, _⟩
  · exact .inl h0
  · exact .inr ⟨h0, p, hp, hpn, hne⟩
theorem run_not_bd {n k : Nat} {M : Nat → El.Row} {S : List Nat} {d : Int} {B' : Nat → El.Row} {ps : List El.Pv} (run : El.Run M n S d B' ps) {S2 : List Nat} {d2 : Int} {B2 : Nat → El.Row} {ps2 : List El.Pv} (hk : k < n) (run2 : El.Run M k S2 d2 B2 ps2) (bd : Bd n k B2) : False := by
  obtain ⟨S3, d3, B3, ps3, run3, h⟩ := run.upto k hk
  obtain ⟨_, _, e, _⟩ := run3.same run2
  subst e
  rcases bd with b | ⟨b, j, _, _, hj⟩
  · rcases h with h | h
    · omega
    · have := h k
      omega
  · rcases h with h | h
    · omega
    · exact hj (h j)
theorem numA : (List.range 11).all (fun n => decide ((El.bnd (2 ^ 70) n).natAbs < 2 ^ 900) && decide ((El.bnd (2 ^ 70) (n + 1)).natAbs < 2 ^ 900)) = true := by decide +kernel
theorem numB : (List.range 11).all (fun r => (List.range (11 - r)).all fun m => decide ((El.bnd (El.bnd (2 ^ 70) (r + 1)) (m + 1)).natAbs < 2 ^ 3600) && decide ((El.bnd (El.bnd (2 ^ 70) (r + 1)) m).natAbs < 2 ^ 3600)) = true := by decide +kernel
section
variable {n : Nat} {T : Nat → Nat → Int} {l : Int}
theorem DT.g0 (h : DT n T l) : 0 < GF n T l := gf_pos (by have := h.l1; omega) _
theorem DT.gb (h : DT n T l) : GF n T l * BF n T l = l := gf_mul (by have := h.l1; omega)
theorem DT.b0 (h : DT n T l) : 0 < BF n T l := Int.lt_of_lt_of_le (by decide : (0 : Int) < 1) (quot_pos h.g0 (gf_dvd _).1 h.l1)
theorem DT.bB (h : DT n T l) : B 20 (BF n T l) := P09.B.quot h.lB
theorem DT.gt (h : DT n T l) {i j : Nat} (hi : i < n) (hj : j < n) : GF n T l * MF n T l i j = T i j := gf_mt (by have := h.l1; omega) hi hj
theorem DT.mB (h : DT n T l) : ∀ i j, B 70 (MF n T l i j) := mt_B h.tB
theorem DT.jok (h : DT n T l) : JOk n 900 (2 ^ 70) (MF n T l) ∧ B 900 (El.bnd (2 ^ 70) (n + 1)) := by
  have := List.all_eq_true.mp numA n (List.mem_range.mpr (by have := h.n10; omega))
  simp only [Bool.and_eq_true, decide_eq_true_iff] at this
  exact ⟨jok_of (T := T) h.n10 h.g0 (fun i j hi hj => Int.mul_ediv_cancel' ((gf_dvd _).2 _ (mat_mem hi hj))) h.sym (by decide) (fun i j hi hj => B_abs (h.tB i j hi hj)) this.1 (by decide) (by decide), this.2⟩
/-- the drawn table itself, nothing beside it -/
theorem DT.jokT (h : DT n T l) : JOk n 900 (2 ^ 70) (cutT n T) := by
  have := List.all_eq_true.mp numA n (List.mem_range.mpr (by have := h.n10; omega))
  simp only [Bool.and_eq_true, decide_eq_true_iff] at this
  exact jok_of (G := 1) (T := T) h.n10 (by decide) (fun i j _ _ => Int.one_mul _) h.sym (by decide) (fun i j hi hj => B_abs (h.tB i j hi hj)) this.1 (by decide) (by decide)
theorem DT.tie (h : DT n T l) : ∀ i j, cutT n T i j = GF n T l * MF n T l i j := fun i j => by
  by_cases c : i < n ∧ j < n
  · rw [← cutT_in c.1 c.2, h.gt c.1 c.2]
  · rw [mt0 c, Int.mul_zero]
    unfold cutT
    rw [if_neg c]
theorem ltab_cut {H : Hp} {a : Addr} (t : LTab H a n T) : LTab H a n (cutT n T) := by
  obtain ⟨rs, h1, h2, h3⟩ := t
  refine ⟨rs, h1, h2, fun i hi => ?_⟩
  obtain ⟨p, e1, e2⟩ := h3 i hi
  refine ⟨p, e1, ?_⟩
  rw [← vec_congr (fun j hj => cutT_in (f := T) hi hj)]
  exact e2
end
theorem kitP {K : PySem.W.Frag} {c a b : Value} (h1 : PySem.W.kitOne K c a = some false) (h2 : PySem.W.kitOne K c b = some false) : PySem.W.kitAny K c [a, b] = some false := by
  unfold PySem.W.kitAny
  rw [h1]
  unfold PySem.W.kitAny
  rw [h2]
  rfl
section
variable {P : Program} {w : World} {K : PySem.W.Frag} {mg : Str → Option Value} {base : Heap} {f : Addr} {fd : FuncData} {cF cR cB cC cS cW fB : Addr}
def spSR (K : PySem.W.Frag) (cF : Addr) : Sp := fun vs H Q _ => ∃ (p : Addr) (kv : V) (n m w kb : Nat) (b bd : Int) (A : Nat → Nat → Int) (ks : Nat → Nat), vs = [.ref p, kv] ∧ FormAt K H cF p n (mat n A) b ∧ Sn K H kv (.tup ((pv_ m ks).map Td.int)) ∧ El.Pl n m ks ∧ JOk n w bd A ∧ B w (El.bnd bd (n + 1)) ∧ (∀ i j, B w (A i j)) ∧ 0 < b ∧ B kb b ∧ 0 < kb ∧ w + kb ≤ 9000 ∧
  ¬ El.Psd n A ∧ ∀ z H', Same H H' → Below K H' n A z → Q (.ref z) H'
abbrev s__law_seen_refused : Stmt := top 66
abbrev N__law_seen_refused : List Str := ["form", "keep", "e"]
theorem sc__law_seen_refused : FnScope N__law_seen_refused ["form", "keep"] (defScope s__law_seen_refused) := ⟨rfl, rfl, rfl, by decide +kernel, rfl, by decide +kernel, by decide +kernel⟩
theorem ok__law_seen_refused (F : Fun K "_law_seen_refused" "_law_seen_refused" s__law_seen_refused f fd) (T : Txt mg) (U : Err K mg cF cB cC cS cW fB) (C_seen_from : CalX P w K mg base 8 "seen_from" ["form", "keep"] (spSeen K cF cB)) : FnOk P w K mg base CX0 9 f fd ["form", "keep"] (spSR K cF) := by
  refine F.ok sc__law_seen_refused (fun vs H Q E h => ?_) (fun cdv A outer s H vs Q E hr h => ?_)
  · obtain ⟨p, kv, n, m, w, kb, b, bd, M, ks, rfl, _⟩ := h
    rfl
  obtain ⟨p, kv, n, m, w, kb, b, bd, M, ks, rfl, hF, hkv, hP, jo, bw, aB, b0, bB, kb0, wk, np, q⟩ := h
  refine ⟨_, (pss_cons (L2N.ps_try_as (i := 2) rfl rfl sc__law_seen_refused.nd rfl rfl ⟨rfl, by decide, Or.inl U.g_CableError⟩ takesN (fun W pn xe tk _ => (pss_one (ps_expr (pe_calX C_seen_from (hr.mono (by omega)) rfl tk (pa_cons (pv 0) (pa_cons (pv 1) pa_nil)))))) (fun a oe cls d pn hz hf => (pss_one (ps_if (PW.pt (pw_and (pt_val (pe_callB (call_isX (K := K) rfl hz.zc hf) (by rfl) T.b_isinstance (by decide +kernel) (pa_cons (pv 2) (pa_cons (pe_glob (v := .ref _) rfl U.g_BelowZero rfl) pa_nil)))) (pw_and (pt_val (pe_callB (call_isX (K := K) rfl hz.zc hf) (by rfl) T.b_isinstance (by decide +kernel) (pa_cons (pv 2) (pa_cons (pe_bltn (v := .ty "ValueError") (by rfl) T.b_ValueError (by decide +kernel) rfl) pa_nil)))) (pw_and1 (pt_not (pt_val (pe_callB (call_isXT (K := K) rfl hz.zc hf) (by rfl) T.b_isinstance (by decide +kernel) (pa_cons (pv 2) (pa_cons (pe_tup (pa_cons (pe_glob (v := .ref _) rfl U.g_SizesDiffer rfl) (pa_cons (pe_glob (v := .ref _) rfl U.g_BadRow rfl) pa_nil))) pa_nil))))))))) (pss_one (ps_ret (pe_xf U.x_BelowZero U.no_BelowZero_point hz.zc hf (pv 2)))) pss_nil))))
  (pss_one (ps_ret pe_non))), ?_⟩
  refine ⟨_, rfl, _, rfl, p, kv, n, m, w, kb, b, bd, M, ks, rfl, hF, hkv, hP, jo, bw, aB, b0, bB, kb0, wk, fun q2 H2 S d B' ps s2 psd _ _ _ => (np psd).elim, fun z dd H4 s4 bz hd4 => ?_⟩
  refine ⟨true, U.eBC, fun _ e _ => ?_, fun z => Bool.noConfusion z⟩
  refine ⟨_, rfl, cB, _, _, true, rfl, .own _, rfl, U.xB, .inr ⟨dd, _, rfl, hd4⟩, U.kBB, _, rfl, ifT rfl ?_⟩
  refine ⟨_, rfl, cB, _, _, true, rfl, .ty _, rfl, U.xB, .inr ⟨dd, _, rfl, hd4⟩, U.kBV, _, rfl, ifT rfl ?_⟩
  refine ⟨_, rfl, two_line, fun tp htp => ⟨cB, tp, _, _, false, rfl, upd_same, .cons (.own _) (.cons (.own _) .nil), rfl, U.xB, .inr ⟨dd, _, rfl, same_new htp _ _ _ hd4⟩, kitP U.kBS U.kBW, _, rfl, ifT rfl ?_⟩⟩
  have sT := same_new htp (.tup [.ref cS, .ref cW])
  exact ⟨_, rfl, rfl, rfl, dd, _, .ref z, rfl, sT _ _ hd4, lk_hit, q z _ (s4.trans sT) (bz.same sT)⟩
def spFR (K : PySem.W.Frag) (cF : Addr) : Sp := fun vs H Q _ => ∃ (p : Addr) (kv vv : V) (n m w : Nat) (b bd : Int) (A : Nat → Nat → Int) (ks : Nat → Nat) (v : Nat → Int), vs = [.ref p, kv, vv] ∧ FormAt K H cF p n (mat n A) b ∧ Sn K H kv (.tup ((pv_ m ks).map Td.int)) ∧ Sn K H vv (tv m v) ∧ El.Pl n m ks ∧ JOk n w bd A ∧ B w (El.bnd bd (n + 1)) ∧ (∀ i j, B w (A i j)) ∧ (∀ a, a < m → B 40 (v a)) ∧
  ¬ El.Psd n A ∧ ∀ z H', Same H H' → Below K H' n A z → Q (.ref z) H'
abbrev s__law_filled_refused : Stmt := top 67
abbrev N__law_filled_refused : List Str := ["form", "keep", "values", "e"]
theorem sc__law_filled_refused : FnScope N__law_filled_refused ["form", "keep", "values"] (defScope s__law_filled_refused) := ⟨rfl, rfl, rfl, by decide +kernel, rfl, by decide +kernel, by decide +kernel⟩
theorem ok__law_filled_refused (F : Fun K "_law_filled_refused" "_law_filled_refused" s__law_filled_refused f fd) (T : Txt mg) (U : Err K mg cF cB cC cS cW fB) (C_filled : CalX P w K mg base 8 "filled" ["form", "keep", "values"] (spFilled K cF cB)) : FnOk P w K mg base CX0 9 f fd ["form", "keep", "values"] (spFR K cF) := by
  refine F.ok sc__law_filled_refused (fun vs H Q E h => ?_) (fun cdv A outer s H vs Q E hr h => ?_)
  · obtain ⟨p, kv, vv, n, m, w, b, bd, M, ks, v, rfl, _⟩ := h
    rfl
  obtain ⟨p, kv, vv, n, m, w, b, bd, M, ks, v, rfl, hF, hkv, hvv, hP, jo, bw, aB, vB, np, q⟩ := h
  refine ⟨_, (pss_cons (L2N.ps_try_as (i := 3) rfl rfl sc__law_filled_refused.nd rfl rfl ⟨rfl, by decide, Or.inl U.g_CableError⟩ takesN (fun W pn xe tk _ => (pss_one (ps_expr (pe_calX C_filled (hr.mono (by omega)) rfl tk (pa_cons (pv 0) (pa_cons (pv 1) (pa_cons (pv 2) pa_nil))))))) (fun a oe cls d pn hz hf => (pss_one (ps_if (PW.pt (pw_and (pt_val (pe_callB (call_isX (K := K) rfl hz.zc hf) (by rfl) T.b_isinstance (by decide +kernel) (pa_cons (pv 3) (pa_cons (pe_glob (v := .ref _) rfl U.g_BelowZero rfl) pa_nil)))) (pw_and (pt_val (pe_callB (call_isX (K := K) rfl hz.zc hf) (by rfl) T.b_isinstance (by decide +kernel) (pa_cons (pv 3) (pa_cons (pe_bltn (v := .ty "ValueError") (by rfl) T.b_ValueError (by decide +kernel) rfl) pa_nil)))) (pw_and1 (pt_not (pt_val (pe_callB (call_isXT (K := K) rfl hz.zc hf) (by rfl) T.b_isinstance (by decide +kernel) (pa_cons (pv 3) (pa_cons (pe_tup (pa_cons (pe_glob (v := .ref _) rfl U.g_SizesDiffer rfl) (pa_cons (pe_glob (v := .ref _) rfl U.g_BadRow rfl) pa_nil))) pa_nil))))))))) (pss_one (ps_ret (pe_xf U.x_BelowZero U.no_BelowZero_point hz.zc hf (pv 3)))) pss_nil))))
  (pss_one (ps_ret pe_non))), ?_⟩
  refine ⟨_, rfl, _, rfl, _, rfl, p, kv, vv, n, m, w, b, bd, M, ks, v, rfl, hF, hkv, hvv, hP, jo, bw, aB, vB, fun t u H2 S d B' ps N g s2 psd _ _ _ _ _ _ _ => (np psd).elim, fun z dd H4 s4 bz hd4 => ?_⟩
  refine ⟨true, U.eBC, fun _ e _ => ?_, fun z => Bool.noConfusion z⟩
  refine ⟨_, rfl, cB, _, _, true, rfl, .own _, rfl, U.xB, .inr ⟨dd, _, rfl, hd4⟩, U.kBB, _, rfl, ifT rfl ?_⟩
  refine ⟨_, rfl, cB, _, _, true, rfl, .ty _, rfl, U.xB, .inr ⟨dd, _, rfl, hd4⟩, U.kBV, _, rfl, ifT rfl ?_⟩
  refine ⟨_, rfl, two_line, fun tp htp => ⟨cB, tp, _, _, false, rfl, upd_same, .cons (.own _) (.cons (.own _) .nil), rfl, U.xB, .inr ⟨dd, _, rfl, same_new htp _ _ _ hd4⟩, kitP U.kBS U.kBW, _, rfl, ifT rfl ?_⟩⟩
  have sT := same_new htp (.tup [.ref cS, .ref cW])
  exact ⟨_, rfl, rfl, rfl, dd, _, .ref z, rfl, sT _ _ hd4, lk_hit, q z _ (s4.trans sT) (bz.same sT)⟩
end
end P09
set_option maxHeartbeats 6000000
set_option exponentiation.threshold 80000
namespace P09
open PySem PySem.Spec PyProof.Rows L2 SX EX WK
theorem lds_mem {A : Nat → El.Row} {k : Nat} {S : List Nat} {d : Int} {B' : Nat → El.Row} {ps : List El.Pv} (run : El.Run A k S d B' ps) (i : Nat) : (0 + (i : Int)) ∈ (ps.reverse.map fun p => (p.1 : Int)) ↔ i ∈ S := by
  rw [← run.leads, List.mem_map, List.mem_map]
  constructor
  · rintro ⟨p, hp, e⟩
    exact ⟨p, List.mem_reverse.mp hp, by omega⟩
  · rintro ⟨p, hp, e⟩
    exact ⟨p, List.mem_reverse.mpr hp, by omega⟩
theorem cut_out {n : Nat} {g : Nat → Nat → Int} : El.Out n (cutT n g) := fun i j h => by
  unfold cutT
  rw [if_neg (by omega)]
theorem cut_B {n k : Nat} {T : Nat → Nat → Int} (h : ∀ i j, i < n → j < n → B k (T i j)) (i j : Nat) : B k (cutT n T i j) := by
  by_cases c : i < n ∧ j < n
  · rw [← cutT_in c.1 c.2]
    exact h i j c.1 c.2
  · unfold cutT
    rw [if_neg c]
    exact Nat.two_pow_pos _
theorem pv_el {m : Nat} {ks : Nat → Nat} {c : Nat} {v : V} (h : ((pv_ m ks).map V.int)[c]? = some v) : c < m ∧ v = .int (ks c : Int) := by
  have hc : c < m := by
    have := (List.getElem?_eq_some_iff.mp h).1
    rw [vec_lenV] at this
    exact this
  rw [vecV_at hc] at h
  cases h
  exact ⟨hc, rfl⟩
theorem Q_B {n k1 k2 : Nat} {M : Nat → Nat → Int} {x : Nat → Int} (hn : n ≤ 16) (hM : ∀ i j, i < n → j < n → B k1 (M i j)) (hx : ∀ i, i < n → B k2 (x i)) : B (k2 + (k1 + k2 + 4) + 4) (El.Q n M x) := by
  rw [← S_Q]
  exact BS (k := k2 + (k1 + k2 + 4)) (c := 4) (fun i hi => P09.B.mul (hx i hi) (BS (k := k1 + k2) (c := 4) (fun j hj => P09.B.mul (hM i j hi hj) (hx j hj)) hn)) hn
section
variable {P : Program} {w : World} {K : PySem.W.Frag} {mg : Str → Option Value} {base : Heap} {f : Addr} {fd : FuncData} {cF cR : Addr}
def spFill (K : PySem.W.Frag) : Sp := fun vs H Q _ => ∃ (t uu dr tb : Addr) (kv vv : V) (n m : Nat) (e l top u : Int) (y v : Nat → Int) (T : Nat → Nat → Int) (ks : Nat → Nat) (S : List Nat) (d : Int) (B' : Nat → El.Row) (ps : List El.Pv), vs = [.ref t, .ref dr, kv, vv, .int top, .int u] ∧ H t = some (.tup [.ref uu, .int e]) ∧ H uu = some (.tup ((vec n y).map V.int)) ∧ H dr = some (.lst [.ref tb, .int l]) ∧ LTab H tb n T ∧ Sn K H kv (.tup ((pv_ m ks).map Td.int)) ∧ Sn K H vv (tv m v) ∧ El.Pl n m ks ∧ DT n T l ∧ El.Psd n (MF n T l) ∧
  0 < e ∧ B 3000 e ∧ (∀ i, i < n → B 3000 (y i)) ∧ gf e (vec n y) = 1 ∧ (∀ a, a < m → B 40 (v a)) ∧ B 3000 top ∧ B 3000 u ∧ (∀ a, a < m → y (ks a) = v a * e) ∧ El.Run (PeK (MF n T l) n m ks) (El.rO n m ks) S d B' ps ∧ (∀ p, p < El.rO n m ks → p ∉ S → y (El.oS n m ks p) = 0) ∧ El.Q n T y * u = top * e * e * l ∧ ∀ H', Same H H' → Q (.bl true) H'
abbrev s__law_is_filling : Stmt := top 68
abbrev N__law_is_filling : List Str := ["told", "drawn", "keep", "values", "top", "base", "table", "size", "k", "others", "heads", "i", "j"]
theorem sc__law_is_filling : FnScope N__law_is_filling ["told", "drawn", "keep", "values", "top", "base"] (defScope s__law_is_filling) := ⟨rfl, rfl, rfl, by decide +kernel, rfl, by decide +kernel, by decide +kernel⟩
theorem ok__law_is_filling (F : Fun K "_law_is_filling" "_law_is_filling" s__law_is_filling f fd) (T : Txt mg) (C__law_is_vector : Cal P w K mg base 3 "_law_is_vector" ["value", "size"] (spIsVec K)) (C__law_leads : Cal P w K mg base 2 "_law_leads" ["table"] (spLeads K)) (C__law_value : Cal P w K mg base 2 "_law_value" ["table", "one", "two"] (spLawV K)) : FnOk P w K mg base CX0 4 f fd ["told", "drawn", "keep", "values", "top", "base"] (spFill K) := by
  refine F.ok sc__law_is_filling (fun vs H Q E h => ?_) (fun cdv A outer s H vs Q E hr h => ?_)
  · obtain ⟨t, uu, dr, tb, kv, vv, n, m, e, l, top, u, y, v, M, ks, S, d, B', ps, rfl, _⟩ := h
    rfl
  obtain ⟨t, uu, dr, tb, kv, vv, n, m, e, l, top, u, y, v, M, ks, S, d, B', ps, rfl, ht, huu, hdr, htb, hkv, hvv, hP, dt, psd, e0, eB, yB, h1, vB, topB, uB, c1, run, c2, c3, q⟩ := h
  refine ⟨_, (pss_cons (ps_set (i := 6) sc__law_is_filling.nd rfl (Or.inr rfl) (pe_ix ix_list (pv 1) pe_int (fun _ _ => rfl)))
  (pss_cons (ps_set (i := 7) sc__law_is_filling.nd rfl (Or.inl rfl) (pe_callB call_len_seq (by rfl) T.b_len PySem.boot_len (pa_cons (pv 6) pa_nil)))
  (pss_cons (ps_if (pt_not (pt_val (pe_cal C__law_is_vector (hr.mono (by omega)) rfl (pa_cons (pv 0) (pa_cons (pv 7) pa_nil))))) (pss_one (ps_ret pe_bl)) pss_nil)
  (pss_cons (ps_for PassesOwn.never rfl (pi_range1 (by rfl) T.b_range (pa_cons (pe_callB call_len_seq (by rfl) T.b_len PySem.boot_len (pa_cons (pv 2) pa_nil)) pa_nil)) (pg_name (i := 8) sc__law_is_filling.nd rfl (Or.inl rfl)) (pss_one (ps_if (pt_cmpR op_ne (pe_ix ix_tup (pe_ix ix_tup (pv 0) pe_int (fun _ _ => rfl)) (pe_ix ix_or (pv 2) (pv 8) (fun _ _ => rfl)) (fun _ _ => rfl)) (pe_op op_mulW (pe_ix ix_or (pv 3) (pv 8) (fun _ _ => rfl)) (pe_ix ix_tup (pv 0) pe_int (fun _ _ => rfl))) (nomark _)) (pss_one (ps_ret pe_bl)) pss_nil)))
  (pss_cons (ps_set (i := 9) sc__law_is_filling.nd rfl (Or.inr rfl) (pe_lc (own := [("k", 8)]) (g := gName 8) (by rfl) sc__law_is_filling.nd (pi_range1 (by rfl) T.b_range (pa_cons (pv 7) pa_nil)) (blkOk_by (N := N__law_is_filling) (sc := defScope s__law_is_filling) (by decide +kernel)) (fun _ _ _ _ _ => (pg_name (i := 8) sc__law_is_filling.nd rfl (Or.inl rfl))) (fun _ _ _ _ _ => (pts_one (pt_cmpR (op_notIn_seqK (K := K) rfl) (pv 8) (pv 2) (by rfl)))) (fun _ _ _ _ _ => (pv 8))))
  (pss_cons (ps_set (i := 10) sc__law_is_filling.nd rfl (Or.inl rfl) (pe_cal C__law_leads (hr.mono (by omega)) rfl (pa_cons (pe_lc (own := [("i", 11)]) (g := gName 11) (tt := tYes) (by rfl) sc__law_is_filling.nd (pi_list (pv 9)) (blkOk_by (N := N__law_is_filling) (sc := defScope s__law_is_filling) (by decide +kernel)) (fun _ _ _ _ _ => (pg_name (i := 11) sc__law_is_filling.nd rfl (Or.inr rfl))) (fun _ _ _ _ _ => pts_nil) (fun _ _ _ _ _ => (pe_lc (own := [("j", 12)]) (g := gName 12) (tt := tYes) (by rfl) sc__law_is_filling.nd (pi_listK (K := K) rfl (pv 9)) (blk_nest (N := N__law_is_filling) (sc0 := defScope s__law_is_filling) rfl (by decide +kernel)) (fun _ _ _ _ _ => (pg_name (i := 12) sc__law_is_filling.nd rfl (Or.inl rfl))) (fun _ _ _ _ _ => pts_nil) (fun _ _ _ _ _ => (pe_ix (ix_listK (K := K) rfl) (pe_ix (ix_listK (K := K) rfl) (pv 6) (pv 11) (fun _ _ => rfl)) (pv 12) (fun _ _ => rfl)))))) pa_nil)))
  (pss_cons (ps_for PassesOwn.never rfl (pi_range1 (by rfl) T.b_range (pa_cons (pe_callB call_len_seq (by rfl) T.b_len PySem.boot_len (pa_cons (pv 9) pa_nil)) pa_nil)) (pg_name (i := 8) sc__law_is_filling.nd rfl (Or.inl rfl)) (pss_one (ps_if (PW.pt (pw_and (pt_cmpR op_notIn_seq (pv 8) (pv 10) (by rfl)) (pw_and1 (pt_cmpR op_ne (pe_ix ix_tup (pe_ix ix_tup (pv 0) pe_int (fun _ _ => rfl)) (pe_ix ix_list (pv 9) (pv 8) (fun _ _ => rfl)) (fun _ _ => rfl)) pe_int (nomark _))))) (pss_one (ps_ret pe_bl)) pss_nil)))
  (pss_one (ps_ret (pe_cmpR op_eq (pe_op op_mulW (pe_cal C__law_value (hr.mono (by omega)) rfl (pa_cons (pv 6) (pa_cons (pe_ix ix_tup (pv 0) pe_int (fun _ _ => rfl)) (pa_cons (pe_ix ix_tup (pv 0) pe_int (fun _ _ => rfl)) pa_nil)))) (pv 5)) (pe_op op_mulW (pe_op op_mulW (pe_op op_mulW (pv 4) (pe_ix ix_tup (pv 0) pe_int (fun _ _ => rfl))) (pe_ix ix_tup (pv 0) pe_int (fun _ _ => rfl))) (pe_ix ix_list (pv 1) pe_int (fun _ _ => rfl))) (nomark _))))))))))), ?_⟩
  have n10 := dt.n10
  have nn := hP.pm.nn
  obtain ⟨jo, bn⟩ := dt.jok
  obtain ⟨kk, ka, rfl, hka⟩ := sn_ints hkv
  obtain ⟨kk2, va, rfl, hva⟩ := sn_ints hvv
  obtain ⟨ws, htb1, htl, htr⟩ := htb.at
  have hT := SqT.of (K := K) ht
  have hU := SqT.of (K := K) huu
  have i0 : ∀ i : Nat, (0 + (i : Int)).toNat = i := fun i => by omega
  refine ⟨_, rfl, dr, _, 0, _, rfl, rfl, SqL.of hdr, at_pos (by decide) rfl, ?_⟩
  refine ⟨_, rfl, tb, _, rfl, .inl (SqL.of htb1), ?_⟩
  rw [htl]
  refine ⟨_, rfl, _, rfl, t, uu, n, e, y, rfl, ht, huu, by omega, e0, fun i hi => (yB i hi).mono (by decide), h1, fun H1 s1 => ⟨true, rfl, ifF rfl ?_⟩⟩
  -- the told places
  refine ⟨_, rfl, ka, _, rfl, sq_or (sq_same s1 hka), (m : Int), by rw [vec_lenV], by omega, by omega, for_range (lo := 0) (n := m) (fun k σ H' => ∃ v8 : Option V, σ = [some (.ref t), some (.ref dr), some (.ref ka), some (.ref va), some (.int top), some (.int u), some (.ref tb), some (.int n), v8, none, none, none, none] ∧ Same H H') ⟨none, rfl, s1⟩ ?_ ?_⟩
  · rintro a σ H2 ha ⟨v8, rfl, s2⟩
    refine ⟨_, rfl, t, _, 0, _, rfl, rfl, Same_seqT s2 hT, at_pos (by decide) rfl, _, rfl, _, rfl, ix_any (sq_same s2 hka) (ixv ha) ⟨uu, _, _, _, rfl, rfl, Same_seqT s2 hU, atI_nat (vecV_at (hP.k a ha)), _, rfl, _, rfl, ix_any (sq_same s2 hva) (ixv ha) ⟨_, rfl, t, _, 1, _, rfl, rfl, Same_seqT s2 hT, at_pos (by decide) rfl, _, _, rfl, rfl, wmul (vB a ha) eB (by decide) (by decide) (by decide), rfl, _, rfl, ifF (ne_F (c1 a ha)) ⟨some (.int (0 + (a : Int))), rfl, s2⟩⟩⟩⟩
  rintro σ H2 ⟨v8, rfl, s2⟩
  -- the others
  obtain ⟨r, hr0⟩ : ∃ r, r = El.rO n m ks := ⟨_, rfl⟩
  obtain ⟨os, hos⟩ : ∃ os, os = El.oS n m ks := ⟨_, rfl⟩
  have on : ∀ p, p < r → os p < n := fun p hp => by rw [hos]; exact hP.pm.o p (by rw [← hr0]; exact hp)
  refine ⟨_, rfl, (n : Int), rfl, by omega, by omega, fun D hD => ?_⟩
  refine lc_f (K := K) (walk_range (lo := 0) (n := n)) RI stb_RI (List.range n) (by rw [List.length_range]) (by rw [List.length_range]; omega) hD (fun _ _ => trivial) (fun _ _ _ _ => ys_fn) (fun i => if ∃ a, a < m ∧ ks a = i then none else some (i : Int)) (fun c i x H3 H4 hc s3 s4 yl A B2 hA hB => ?_) (fun H3 l3 s3 hl3 rz => ?_)
  · obtain ⟨hc1, rfl⟩ := in_range hc
    rw [yl.2]
    refine ⟨rfl, _, rfl, _, rfl, ka, _, rfl, sq_or (sq_same (s2.trans s4) hka), rfl, flat_ints _, ?_⟩
    rw [inV_ints]
    refine ⟨_, rfl, ?_⟩
    by_cases c : ∃ a, a < m ∧ ks a = i
    · refine ifF ?_ (hB (if_pos c) _ fun _ _ h => h)
      rw [Int.zero_add, decide_eq_true (pv_mem.mpr c)]
      rfl
    · refine ifT ?_ ⟨_, rfl, hA _ _ _ (if_neg c) (fun _ _ h => h) (by show V.int _ = V.int _; rw [Int.zero_add])⟩
      rw [Int.zero_add, decide_eq_false fun z => c (pv_mem.mp z)]
      rfl
  rw [oth_fm, ← hr0, ← hos] at rz
  have hD3 : H3 D = some (.lst ((pv_ r os).map V.int)) := by rw [hl3, rz.ints]
  have hDS := SqL.of (K := K) hD3
  have s03 := s2.trans s3
  -- heads
  refine ⟨_, rfl, D, rfl, ⟨_, hDS⟩, fun LD hLD => ?_⟩
  refine lc_gm (walk_list (K := K) (a := D) (xs := (pv_ r os).map V.int)) (RL LD) stb_RL (List.range r) (by rw [vec_lenV, List.length_range]) (by rw [List.length_range]; omega) hLD (fun H' s => s.seq hDS) (fun _ _ _ _ => ys_at) (fun i => vec r fun j => M (os i) (os j)) (fun c i v H4 H5 hc s4 s5 yl hdl A B3 hA => ?_) (fun H4 l4 s4 hl4 rz4 => ?_)
  · obtain ⟨hc1, rfl⟩ := in_range hc
    obtain ⟨_, rfl⟩ := pv_el yl.2
    refine ⟨rfl, lc_yes ⟨_, rfl, D, rfl, ⟨_, s5.seq hDS⟩, fun D2 hD2 => ?_⟩⟩
    refine lc_m (walk_list (K := K) (a := D) (xs := (pv_ r os).map V.int)) RI (stb_RI (K := K)) (List.range r) (by rw [vec_lenV, List.length_range]) (by rw [List.length_range]; omega) hD2 (fun H' s => (s5.trans s).seq hDS) (fun _ _ _ _ => ys_at) (fun j => M (os i) (os j)) (fun c j v H6 H7 hc s6 s7 yl A2 B4 hA2 => ?_) (fun H6 l6 s6 hl6 rz6 => ?_)
    · obtain ⟨hj1, rfl⟩ := in_range hc
      obtain ⟨_, rfl⟩ := pv_el yl.2
      obtain ⟨r1, hr1, hr2⟩ := htr (os i) (on i hc1)
      have s07 := s03.trans (s5.trans s7)
      exact ⟨rfl, lc_yes ⟨_, rfl, _, rfl, tb, _, _, _, rfl, rfl, SqL.of (s07 _ _ htb1), atI_nat hr1, _, rfl, r1, _, _, _, rfl, rfl, SqL.of (s07 _ _ hr2), atI_nat (vecV_at (on j hj1)), hA2 _ _ (fun _ _ h => h) rfl⟩⟩
    · refine hA _ _ s6 ⟨D2, rfl, fun z => ?_, by rw [hl6, rz6.ints]; rfl⟩
      obtain ⟨l, hl⟩ := hdl
      rw [z, hl] at hD2
      cases hD2
  have tabL := LTab.of hl4 rz4
  have joB := jo.blk hP
  have bt : ∀ i j, i < r → j < r → M (os i) (os j) = GF n M l * Blk (MF n M l) n m ks i j := fun i j hi hj => by
    rw [blk_in hP (by rw [← hr0]; exact hi) (by rw [← hr0]; exact hj), ← hos, dt.gt (on i hi) (on j hj)]
  obtain ⟨ws2, hw1, hw2, hw3⟩ := tabL
  have tabC : LTab H4 LD r (cutT r fun i j => M (os i) (os j)) := ⟨ws2, hw1, hw2, fun i hi => by
    obtain ⟨p, e1, e2⟩ := hw3 i hi
    refine ⟨p, e1, ?_⟩
    rw [← vec_congr (fun j hj => cutT_in (f := fun i j => M (os i) (os j)) hi hj)]
    exact e2⟩
  refine ⟨LD, r, 900, 2 ^ 70, Blk (MF n M l) n m ks, cutT r fun i j => M (os i) (os j), rfl, tabC, by rw [hr0]; exact joB, cut_out, cut_B fun i j hi hj => (dt.tB _ _ (on i hi) (on j hj)).mono (by decide), ⟨1, GF n M l, by decide, dt.g0, fun i j _ _ => ?_⟩, fun sv H5 s5 hsv => ?_⟩
  · by_cases c : i < r ∧ j < r
    · rw [← cutT_in c.1 c.2, Int.one_mul, bt i j c.1 c.2]
    · have z1 : Blk (MF n M l) n m ks i j = 0 := by
        show (if i < El.rO n m ks ∧ j < El.rO n m ks then _ else 0) = 0
        rw [if_neg (by rw [← hr0]; exact c)]
      rw [z1, Int.mul_zero]
      unfold cutT
      rw [if_neg c]
      rfl
  have psB : El.Psd r (Blk (MF n M l) n m ks) := by
    rw [hr0]
    exact psd_cut (hP.pm.psd psd) (by omega)
  obtain ⟨Sx, dx, Bx, px, runx⟩ := psB.run joB.whole.sym (fun i j hj => if_neg (by rw [← hr0]; omega)) r (Nat.le_refl _)
  rcases hsv with ⟨r1, S1, d1, B1, ps1, rfl, run1, hr1⟩ | ⟨rfl, k1, S1, d1, B1, ps1, hk1, run1, bd1⟩
  case inr => exact (run_not_bd runx hk1 run1 bd1).elim
  rw [hr0] at run1
  obtain ⟨B9, p9, run9⟩ := run_blk jo psd hP run1
  obtain ⟨rfl, _, _, _⟩ := run9.same run
  have s05 := s03.trans (s4.trans s5)
  have hD5 := (s4.trans s5).seq hDS
  have hU5 := Same_seqT s05 hU
  have hT5 := Same_seqT s05 hT
  refine ⟨_, rfl, D, _, rfl, .inl hD5, (r : Int), by rw [vec_lenV], by omega, by omega, for_range (lo := 0) (n := r) (fun k σ H' => ∃ v8 : Option V, σ = [some (.ref t), some (.ref dr), some (.ref ka), some (.ref va), some (.int top), some (.int u), some (.ref tb), some (.int n), v8, some (.ref D), some (.ref r1), none, none] ∧ H' = H5) ⟨_, rfl, rfl⟩ ?_ ?_⟩
  · rintro k σ H6 hk ⟨v8, rfl, hH⟩
    obtain rfl : H5 = H6 := hH.symm
    refine ⟨_, rfl, _, rfl, r1, _, rfl, .inl (SqL.of hr1), rfl, flat_ints _, _, rfl, ite2 (fun c => ?_) (fun _ => ⟨some (.int (0 + (k : Int))), rfl, rfl⟩)⟩
    rw [if_pos rfl, inV_ints] at c
    have kS : k ∉ S1 := fun m => by
      rw [decide_eq_true ((lds_mem run1 k).mpr m)] at c
      cases c
    have z := c2 k (by rw [← hr0]; exact hk) kS
    rw [← hos] at z
    exact ⟨_, rfl, t, _, 0, _, rfl, rfl, hT5, at_pos (by decide) rfl, _, rfl, _, rfl, D, _, _, _, rfl, rfl, hD5, ixv hk, uu, _, _, _, rfl, rfl, hU5, atI_nat (vecV_at (on k hk)), rfl, _, rfl, ifF (ne_F z) ⟨some (.int (0 + (k : Int))), rfl, rfl⟩⟩
  rintro σ H6 ⟨v8, rfl, hH⟩
  obtain rfl : H5 = H6 := hH.symm
  refine ⟨_, rfl, _, rfl, t, _, 0, _, rfl, rfl, hT5, at_pos (by decide) rfl, _, rfl, t, _, 0, _, rfl, rfl, hT5, at_pos (by decide) rfl, tb, .ref uu, n, M, y, rfl, LTab.same s05 htb, .tup hU5 (FzAll.of_ints _).sn, by omega, fun i j hi hj => (dt.tB i j hi hj).mono (by decide), fun i hi => (yB i hi).mono (by decide), fun H7 s7 => ?_⟩
  have hT7 := Same_seqT s7 hT5
  have QB := Q_B (k1 := 70) (k2 := 3000) (n := n) (by omega) dt.tB yB
  refine ⟨_, rfl, _, _, rfl, rfl, wmul QB uB (by decide) (by decide) (by decide), _, rfl, _, rfl, t, _, 1, _, rfl, rfl, hT7, at_pos (by decide) rfl, _, _, rfl, rfl, wmul topB eB (by decide) (by decide) (by decide), _, rfl, t, _, 1, _, rfl, rfl, hT7, at_pos (by decide) rfl, _, _, rfl, rfl, wmul (P09.B.mul topB eB) eB (by decide) (by decide) (by decide), _, rfl, dr, _, 1, _, rfl, rfl, SqL.of ((s05.trans s7) _ _ hdr), at_pos (by decide) rfl, _, _, rfl, rfl, wmul (P09.B.mul (P09.B.mul topB eB) eB) dt.lB (by decide) (by decide) (by decide), rfl, ?_⟩
  show Q (V.bl (decide (V.int (El.Q n M y * u) = V.int (top * e * e * l)))) _
  rw [c3, decide_eq_true rfl]
  exact q _ (s05.trans s7)
end
end P09
set_option maxHeartbeats 6000000
set_option exponentiation.threshold 80000
namespace P09
open PySem PySem.Spec PyProof.Rows L2 SX EX WK
theorem bil_Q {n : Nat} {M : Nat → Nat → Int} {x : Nat → Int} : bil n M x x = El.Q n M x := S_Q
section
variable {n m : Nat} {A : Nat → Nat → Int} {ks : Nat → Nat} {S : List Nat} {d : Int} {B' : Nat → El.Row} {ps : List El.Pv}
theorem run_E_abs (jo : JOk n 900 (2 ^ 70) A) (P : El.Pl n m ks) (run : El.Run (PeK A n m ks) (El.rO n m ks) S d B' ps) (a c : Nat) : -El.bnd (2 ^ 70) (El.rO n m ks + 1) ≤ B' (El.rO n m ks + a) (El.rO n m ks + c) ∧ B' (El.rO n m ks + a) (El.rO n m ks + c) ≤ El.bnd (2 ^ 70) (El.rO n m ks + 1) := by
  have absP : ∀ i j, -(2 ^ 70 : Int) ≤ PeK A n m ks i j ∧ PeK A n m ks i j ≤ 2 ^ 70 := fun i j => by
    show -(2 ^ 70 : Int) ≤ El.Pe A n _ _ ks i j ∧ El.Pe A n _ _ ks i j ≤ 2 ^ 70
    unfold El.Pe
    split
    · exact jo.abs _ _
    · have := jo.bd1
      omega
  exact run.rbound (El.Pe_sym jo.whole.sym) (2 ^ 70) jo.bd1 absP (by omega) _
theorem jok_E (jo : JOk n 900 (2 ^ 70) A) (P : El.Pl n m ks) (run : El.Run (PeK A n m ks) (El.rO n m ks) S d B' ps) {l : Int} (l0 : 0 < l) :
    JOk m 3600 (El.bnd (2 ^ 70) (El.rO n m ks + 1)) (MF m (fun a c => B' (El.rO n m ks + a) (El.rO n m ks + c)) l) ∧ B 3600 (El.bnd (El.bnd (2 ^ 70) (El.rO n m ks + 1)) (m + 1)) := by
  have nn := P.pm.nn
  have n10 := jo.n10
  have h1 := List.all_eq_true.mp numB (El.rO n m ks) (List.mem_range.mpr (by omega))
  have h2 := List.all_eq_true.mp h1 m (List.mem_range.mpr (by omega))
  simp only [Bool.and_eq_true, decide_eq_true_iff] at h2
  have syB := (run.inv (El.Pe_sym jo.whole.sym)).sym
  have p0 := El.bnd_pos jo.bd1 (El.rO n m ks + 1)
  exact ⟨jok_of (T := fun a c => B' (El.rO n m ks + a) (El.rO n m ks + c)) (by omega) (gf_pos l0 _) (fun i j hi hj => Int.mul_ediv_cancel' ((gf_dvd _).2 _ (mat_mem hi hj))) (fun i j _ _ => syB _ _) (by omega) (fun i j _ _ => run_E_abs jo P run i j) h2.2 (by decide) (by decide), h2.1⟩
theorem run_E_B (jo : JOk n 900 (2 ^ 70) A) (bn : B 900 (El.bnd (2 ^ 70) (n + 1))) (P : El.Pl n m ks) (run : El.Run (PeK A n m ks) (El.rO n m ks) S d B' ps) (a c : Nat) : B 900 (B' (El.rO n m ks + a) (El.rO n m ks + c)) := by
  have h1 := run_E_abs jo P run a c
  have nn := P.pm.nn
  have m2 := El.bnd_mono jo.bd1 (show El.rO n m ks + 1 ≤ n + 1 by omega)
  have hb : (El.bnd (2 ^ 70) (n + 1)).natAbs < 2 ^ 900 := bn
  have p0 := El.bnd_pos jo.bd1 (n + 1)
  show (B' (El.rO n m ks + a) (El.rO n m ks + c)).natAbs < 2 ^ 900
  omega
end
/-- every second place -/
theorem few_fm (m : Nat) : ((List.range m).filterMap fun (i : Nat) => if (i : Int) % 2 = 0 then some (i : Int) else none) = pv_ ((m + 1) / 2) (fun j => 2 * j) := by
  induction m with
  | zero => rfl
  | succ m ih =>
    rw [List.range_succ, List.filterMap_append, ih]
    by_cases c : (m : Int) % 2 = 0
    · have e : (m + 1 + 1) / 2 = (m + 1) / 2 + 1 := by omega
      rw [e]
      show _ ++ [m].filterMap _ = (List.range ((m + 1) / 2 + 1)).map _
      rw [List.range_succ, List.map_append, List.filterMap_cons_some (by rw [if_pos c])]
      congr 1
      show [(m : Int)] = [((2 * ((m + 1) / 2) : Nat) : Int)]
      congr 1
      omega
    · have e : (m + 1 + 1) / 2 = (m + 1) / 2 := by omega
      rw [e, List.filterMap_cons_none (by rw [if_neg c])]
      exact List.append_nil _
theorem few_pl (m : Nat) : El.Pl m ((m + 1) / 2) (fun j => 2 * j) := ⟨fun a ha => by show 2 * a < m; omega, fun a b _ _ e => by have : 2 * a = 2 * b := e; omega⟩
theorem Pl_comp {n m k : Nat} {ks fs : Nat → Nat} (P : El.Pl n m ks) (F : El.Pl m k fs) : El.Pl n k (fun a => ks (fs a)) := ⟨fun a ha => P.k _ (F.k a ha), fun a b ha hb e => F.ki a b ha hb (P.ki _ _ (F.k a ha) (F.k b hb) e)⟩
theorem psd_cutT {n : Nat} {T : Nat → Nat → Int} {l : Int} (dt : DT n T l) (psd : El.Psd n (MF n T l)) : El.Psd n (cutT n T) := fun y => by
  have e : El.Q n (cutT n T) y = GF n T l * El.Q n (MF n T l) y := by
    rw [← El.Q_mul]
    exact El.Q_congr fun i j _ _ => by rw [dt.tie i j]
  rw [e]
  exact Int.mul_nonneg (Int.le_of_lt dt.g0) (psd y)
/-- the law's own seen table -/
theorem seen_R {n m : Nat} {A : Nat → Nat → Int} {ks : Nat → Nat} (P : El.Pl n m ks) (sy : ∀ i j, A i j = A j i) {S : List Nat} {d : Int} {B' : Nat → El.Row} {ps : List El.Pv} (run : El.Run (PeK A n m ks) (El.rO n m ks) S d B' ps) {R : Nat → Nat → Int} {s : Int} (s0 : 0 < s) (hR : ∀ a c, a < m → c < m → d * R a c = s * B' (El.rO n m ks + a) (El.rO n m ks + c)) : El.Seen n A ks m R s :=
  (P.pm.seen sy run).turn P.k (g := 1) (fun i j _ _ => (Int.one_mul _).symm) s0 fun a b ha hb => by rw [Int.mul_one, hR a b ha hb]
section
variable {n m : Nat} {T : Nat → Nat → Int} {l : Int} {ks : Nat → Nat} {S : List Nat} {d : Int} {B' : Nat → El.Row} {ps : List El.Pv}
/-- the same, from the table in lowest terms -/
theorem seen_T (dt : DT n T l) (P : El.Pl n m ks) {E : Nat → Nat → Int} {c : Int} (h : El.Seen n (MF n T l) ks m E c) : El.Seen n (cutT n T) ks m (fun a b => GF n T l * E a b) c :=
  h.turn P.k (fun i j _ _ => dt.tie i j) h.pos fun a b _ _ => Int.mul_assoc _ _ _
/-- what the law tells and what the program tells -/
theorem told_eq (dt : DT n T l) (psd : El.Psd n (MF n T l)) (P : El.Pl n m ks) {E R : Nat → Nat → Int} {c s : Int} (h : El.Seen n (MF n T l) ks m E c) (h2 : El.Seen n (cutT n T) ks m R s) {a b : Nat} (ha : a < m) (hb : b < m) : c * R a b = s * (GF n T l * E a b) :=
  h2.uniq dt.jokT.whole.sym (psd_cutT dt psd) P (seen_T dt P h) ha hb
/-- told as a form -/
theorem form_eq (dt : DT n T l) {m : Nat} {E R : Nat → Nat → Int} {c s L : Int} (c0 : 0 < c) (L0 : 0 < L) (hL : L = c * BF n T l) (hR : ∀ a b, a < m → b < m → c * R a b = s * (GF n T l * E a b)) {i j : Nat} (hi : i < m) (hj : j < m) : MF m E L i j * (s * l) = R i j * BF m E L := by
  have g1 : 0 < GF m E L := gf_pos L0 _
  have e1 := gf_mt (n := m) (T := E) L0 hi hj
  have e2 := gf_mul (n := m) (T := E) L0
  have e3 := hR i j hi hj
  have e4 := dt.gb
  refine Int.eq_of_mul_eq_mul_left (a := GF m E L * c) (by have := Int.mul_pos g1 c0; omega) ?_
  have f1 : GF m E L * c * (MF m E L i j * (s * l)) = c * s * l * (GF m E L * MF m E L i j) := by grind
  have f2 : GF m E L * c * (R i j * BF m E L) = c * R i j * (GF m E L * BF m E L) := by grind
  rw [f1, f2, e1, e2, e3, hL]
  generalize BF n T l = b at *
  rw [← e4]
  grind
theorem val_eq {m : Nat} {E R : Nat → Nat → Int} {x y : Int} (h : ∀ i j, i < m → j < m → E i j * x = R i j * y) (v : Nat → Int) : El.Q m E v * x = El.Q m R v * y := by
  have e1 : El.Q m E v * x = El.Q m (fun i j => x * E i j) v := by rw [El.Q_mul, Int.mul_comm]
  have e2 : El.Q m R v * y = El.Q m (fun i j => y * R i j) v := by rw [El.Q_mul, Int.mul_comm]
  rw [e1, e2]
  exact El.Q_congr fun i j hi hj => by
    have := h i j hi hj
    have e3 : x * E i j = y * R i j := by grind
    rw [e3]
theorem Q_in {n : Nat} {T A : Nat → Nat → Int} {g : Int} (h : ∀ i j, i < n → j < n → g * A i j = T i j) (y : Nat → Int) : El.Q n T y = g * El.Q n A y := by
  rw [← El.Q_mul]
  exact El.Q_congr fun i j hi hj => by rw [h i j hi hj]
theorem Q_pts {n : Nat} {M : Nat → Nat → Int} {x y : Nat → Int} {G : Int} (h : ∀ i, i < n → G * y i = x i) : G * G * El.Q n M y = El.Q n M x := by
  have e : El.Q n M x = El.Q n (fun i j => G * G * M i j) y := El.Q_congr fun i j hi hj => by rw [← h i hi, ← h j hj]; grind
  rw [e, El.Q_mul]
/-- the filling's value -/
theorem fill_eq (dt : DT n T l) (P : El.Pl n m ks) (run : El.Run (PeK (MF n T l) n m ks) (El.rO n m ks) S d B' ps) {N : Nat → El.Row} (nv : El.Nv (PeK (MF n T l) n m ks) S d N) {v g : Nat → Int} (f : El.Fil (PeK (MF n T l) n m ks) (El.rO n m ks) m S d N v (fun p => g (El.pm (El.rO n m ks) (El.oS n m ks) ks p))) : El.Q n (MF n T l) g = d * El.Q m (fun a c => B' (El.rO n m ks + a) (El.rO n m ks + c)) v := by
  obtain ⟨t1, t2⟩ := P.pm.told dt.jok.1.whole.sym run nv f
  have hy : ∀ a, a < m → g (ks a) = d * v a := fun a ha => by
    have := f.k a ha
    rw [El.pm_k] at this
    exact this
  have e := P.sum (c := 1) (z := 1) (u := v) hy t1 (fun a ha => by rw [Int.one_mul, Int.one_mul]; exact t2 a ha)
  rw [Int.one_mul, ← El.Q_lin, ← El.Q_lin, Int.mul_one] at e
  exact e
end
end P09
set_option maxHeartbeats 8000000
set_option exponentiation.threshold 80000
namespace P09
open PySem PySem.Spec PyProof.Rows L2 SX EX WK
theorem belx {K : PySem.W.Frag} {cB : Addr} {n2 w2 : Nat} {bd2 : Int} {A2 : Nat → Nat → Int} {H2 : Hp} (jo2 : JOk n2 w2 bd2 A2) (ps2 : El.Psd n2 A2) : BelX K cB n2 A2 H2 (fun _ _ _ => False) := fun z dd H4 s4 bz hd4 => by
  obtain ⟨k, S2, d2, B2, pv2, x, hk, run2, bad, _⟩ := bz
  have h1 := bad_value jo2 run2 hk bad
  have h2 := ps2 (setd n2 pv2 x)
  omega
theorem vec_map {n : Nat} {g : Nat → Int} {f : Int → Int} : (vec n g).map f = vec n fun i => f (g i) := by
  show ((List.range n).map g).map f = _
  rw [List.map_map]
  rfl
theorem psd_mul {m : Nat} {E E' : Nat → Nat → Int} {g : Int} (g0 : 0 < g) (h : ∀ i j, i < m → j < m → g * E' i j = E i j) (p : El.Psd m E) : El.Psd m E' := fun y => by
  have e := Q_in h y
  have := p y
  rw [e] at this
  rcases Int.lt_or_le (El.Q m E' y) 0 with c | c
  · have := Int.mul_neg_of_pos_of_neg g0 c
    omega
  · exact c
theorem fill_val {n : Nat} {T : Nat → Nat → Int} {l : Int} (dt : DT n T l) {g : Nat → Int} {G d sc top qe : Int} (G0 : 0 < G) (hg : ∀ i, i < n → G ∣ g i) (hd : G ∣ d) (e1 : El.Q n (MF n T l) g = d * qe) (e2 : top * d = qe * (sc * GF n T l)) : El.Q n T (fun i => g i / G) * (sc * l) = top * (d / G) * (d / G) * l := by
  have f1 := Q_pts (M := T) (x := g) (y := fun i => g i / G) (G := G) fun i hi => Int.mul_ediv_cancel' (hg i hi)
  have f2 := Q_in (T := T) (A := MF n T l) (g := GF n T l) (fun i j hi hj => dt.gt hi hj) g
  have f3 := Int.mul_ediv_cancel' hd
  generalize El.Q n T (fun i => g i / G) = X at *
  generalize d / G = ee at *
  refine Int.eq_of_mul_eq_mul_left (a := G * G) (by have := Int.mul_pos G0 G0; omega) ?_
  have h1 : G * G * (X * (sc * l)) = G * G * X * (sc * l) := by grind
  have h2 : G * G * (top * ee * ee * l) = top * (G * ee) * (G * ee) * l := by grind
  rw [h1, h2, f1, f2, e1, f3]
  have h3 : top * d * d * l = (top * d) * (d * l) := by grind
  rw [h3, e2]
  grind
theorem form_eq2 {m : Nat} {E R : Nat → Nat → Int} {C s L g0 g1 b l : Int} (C0 : 0 < C) (L0 : 0 < L) (hL : g1 * L = C * b) (hl : g0 * b = l) (hR : ∀ a b, a < m → b < m → C * R a b = s * (g0 * (g1 * E a b))) {i j : Nat} (hi : i < m) (hj : j < m) : MF m E L i j * (s * l) = R i j * BF m E L := by
  have g3 : 0 < GF m E L := gf_pos L0 _
  have e1 := gf_mt (n := m) (T := E) L0 hi hj
  have e2 := gf_mul (n := m) (T := E) L0
  have e3 := hR i j hi hj
  refine Int.eq_of_mul_eq_mul_left (a := GF m E L * C) (by have := Int.mul_pos g3 C0; omega) ?_
  have f1 : GF m E L * C * (MF m E L i j * (s * l)) = C * s * l * (GF m E L * MF m E L i j) := by grind
  have f2 : GF m E L * C * (R i j * BF m E L) = C * R i j * (GF m E L * BF m E L) := by grind
  rw [f1, f2, e1, e2, e3, ← hl]
  have f3 : s * (g0 * (g1 * E i j)) * L = s * g0 * E i j * (g1 * L) := by grind
  rw [f3, hL]
  grind
theorem worth_val {g b l uu q QA v2 : Int} (h1 : g * b = l) (heq : uu * (b * q * q) = QA * v2) : uu * l * q * q = g * QA * v2 := by
  have e1 : uu * l * q * q = g * (uu * (b * q * q)) := by rw [← h1]; grind
  rw [e1, heq, Int.mul_assoc]
theorem worth_key {x y hh g1 QA QE t0 bb v2 uu q d b : Int} (low : q * q * QE ≤ d * QA) (eE : QE = g1 * t0) (d1 : hh * x = t0) (d2 : hh * y = bb) (gbb : g1 * bb = d * b) (heq : uu * (b * q * q) = QA * v2) (v20 : 0 < v2) (q0 : 0 < q) (g10 : 0 < g1) (hh0 : 0 < hh) : x * v2 ≤ uu * y := by
  have m1 := Int.mul_le_mul_of_nonneg_left low (Int.le_of_lt v20)
  have e1 : v2 * (d * QA) = d * (QA * v2) := by grind
  rw [e1, ← heq] at m1
  have e2 : v2 * (q * q * QE) = q * q * g1 * hh * (x * v2) := by rw [eE, ← d1]; grind
  have e3 : d * (uu * (b * q * q)) = q * q * g1 * hh * (uu * y) := by
    have h1 : d * (uu * (b * q * q)) = q * q * uu * (d * b) := by grind
    rw [h1, ← gbb, ← d2]
    grind
  rw [e2, e3] at m1
  exact Int.le_of_mul_le_mul_left m1 (Int.mul_pos (Int.mul_pos (Int.mul_pos q0 q0) g10) hh0)
section
variable {P : Program} {w : World} {K : PySem.W.Frag} {mg : Str → Option Value} {base : Heap} {f : Addr} {fd : FuncData} {cF cR cB : Addr}
def spRight (K : PySem.W.Frag) (cF : Addr) : Sp := fun vs H Q _ => ∃ (p dr tb oa : Addr) (kv vv : V) (n m : Nat) (l qq : Int) (v o : Nat → Int) (T : Nat → Nat → Int) (ks : Nat → Nat), vs = [.ref p, .ref dr, kv, vv, .ref oa, .int qq] ∧ FormAt K H cF p n (mat n (MF n T l)) (BF n T l) ∧ H dr = some (.lst [.ref tb, .int l]) ∧ LTab H tb n T ∧ Sn K H kv (.tup ((pv_ m ks).map Td.int)) ∧ Sn K H vv (tv m v) ∧ H oa = some (.lst ((vec n o).map V.int)) ∧ El.Pl n m ks ∧ DT n T l ∧ El.Psd n (MF n T l) ∧ (∀ a, a < m → B 40 (v a)) ∧ (∀ i, i < n → B 50 (o i)) ∧ 0 < qq ∧ B 10 qq ∧ ∀ H', Same H H' → Q (.bl true) H'
abbrev s__law_right : Stmt := top 69
abbrev N__law_right : List Str := ["form", "drawn", "keep", "values", "other", "q", "due", "shown", "top", "told", "k", "few", "rest", "z", "worth"]
theorem sc__law_right : FnScope N__law_right ["form", "drawn", "keep", "values", "other", "q"] (defScope s__law_right) := ⟨rfl, rfl, rfl, by decide +kernel, rfl, by decide +kernel, by decide +kernel⟩
theorem ok__law_right (F : Fun K "_law_right" "_law_right" s__law_right f fd) (T : Txt mg) (O : Obs K cF cR) (C__law_seen : Cal P w K mg base 2 "_law_seen" ["table", "keep"] (spLSeen K)) (C_seen_from : CalX P w K mg base 8 "seen_from" ["form", "keep"] (spSeen K cF cB)) (C__law_value : Cal P w K mg base 2 "_law_value" ["table", "one", "two"] (spLawV K)) (C__law_is_form : Cal P w K mg base 3 "_law_is_form" ["form", "table", "base"] (spIsForm K cF)) (C__law_is_filling : Cal P w K mg base 4 "_law_is_filling" ["told", "drawn", "keep", "values", "top", "base"] (spFill K)) (C__law_is_fraction : Cal P w K mg base 2 "_law_is_fraction" ["value"] spFrac) (C_filled : CalX P w K mg base 8 "filled" ["form", "keep", "values"] (spFilled K cF cB))
    (C_mcall : CalI P w K mg base 3 cF ["self", "point"] (spCall K cF)) (C_mat : CalM P w K mg base 3 cF "at" ["self", "passed"] (spAt K cF)) : FnOk P w K mg base CX0 9 f fd ["form", "drawn", "keep", "values", "other", "q"] (spRight K cF) := by
  refine F.ok sc__law_right (fun vs H Q E h => ?_) (fun cdv A outer s H vs Q E hr h => ?_)
  · obtain ⟨p, dr, tb, oa, kv, vv, n, m, l, qq, v, o, M, ks, rfl, _⟩ := h
    rfl
  obtain ⟨p, dr, tb, oa, kv, vv, n, m, l, qq, v, o, M, ks, rfl, hF, hdr, htb, hkv, hvv, hoa, hP, dt, psd, vB, oB, q0, qB, q⟩ := h
  refine ⟨_, (pss_cons (ps_set (i := 6) sc__law_right.nd rfl (Or.inl rfl) (pe_cal C__law_seen (hr.mono (by omega)) rfl (pa_cons (pe_ix ix_list (pv 1) pe_int (fun _ _ => rfl)) (pa_cons (pv 2) pa_nil))))
  (pss_cons (ps_set (i := 7) sc__law_right.nd rfl (Or.inl rfl) (pe_calX C_seen_from (hr.mono (by omega)) rfl takesN (pa_cons (pv 0) (pa_cons (pv 2) pa_nil))))
  (pss_cons (ps_if (pt_not (pt_val (pe_cal C__law_is_form (hr.mono (by omega)) rfl (pa_cons (pv 7) (pa_cons (pe_ix ix_list (pv 6) pe_int (fun _ _ => rfl)) (pa_cons (pe_op op_mulW (pe_ix ix_list (pv 6) pe_int (fun _ _ => rfl)) (pe_ix ix_list (pv 1) pe_int (fun _ _ => rfl))) pa_nil)))))) (pss_one (ps_ret pe_bl)) pss_nil)
  (pss_cons (ps_set (i := 8) sc__law_right.nd rfl (Or.inl rfl) (pe_cal C__law_value (hr.mono (by omega)) rfl (pa_cons (pe_ix ix_list (pv 6) pe_int (fun _ _ => rfl)) (pa_cons (pv 3) (pa_cons (pv 3) pa_nil)))))
  (pss_cons (ps_set (i := 9) sc__law_right.nd rfl (Or.inl rfl) (pe_calI C_mcall (i := 7) (hr.mono (by omega)) rfl (Or.inl rfl) (pa_cons (pv 3) pa_nil)))
  (pss_cons (ps_if (PW.pt (pw_or (pt_not (pt_val (pe_cal C__law_is_fraction (hr.mono (by omega)) rfl (pa_cons (pv 9) pa_nil)))) (pw_or1 (pt_cmpR op_ne (pe_op op_mulW (pe_op op_mulW (pe_ix ix_tup (pv 9) pe_int (fun _ _ => rfl)) (pe_ix ix_list (pv 6) pe_int (fun _ _ => rfl))) (pe_ix ix_list (pv 1) pe_int (fun _ _ => rfl))) (pe_op op_mulW (pv 8) (pe_ix ix_tup (pv 9) pe_int (fun _ _ => rfl))) (nomark _))))) (pss_one (ps_ret pe_bl)) pss_nil)
  (pss_cons (ps_if (pt_not (pt_val (pe_cal C__law_is_filling (hr.mono (by omega)) rfl (pa_cons (pe_calX C_filled (hr.mono (by omega)) rfl takesN (pa_cons (pv 0) (pa_cons (pv 2) (pa_cons (pv 3) pa_nil)))) (pa_cons (pv 1) (pa_cons (pv 2) (pa_cons (pv 3) (pa_cons (pv 8) (pa_cons (pe_op op_mulW (pe_ix ix_list (pv 6) pe_int (fun _ _ => rfl)) (pe_ix ix_list (pv 1) pe_int (fun _ _ => rfl))) pa_nil))))))))) (pss_one (ps_ret pe_bl)) pss_nil)
  (pss_cons (ps_setLc (i := 11) (own := [("k", 10)]) (g := gName 10) (by rfl) sc__law_right.nd rfl rfl (sw_true rfl rfl rfl (by decide +kernel)) (pi_range1 (by rfl) T.b_range (pa_cons (pe_callB call_len_seq (by rfl) T.b_len PySem.boot_len (pa_cons (pv 2) pa_nil)) pa_nil)) (blkOk_by (N := N__law_right) (sc := defScope s__law_right) (by decide +kernel)) (fun _ _ _ _ _ => (pg_name (i := 10) sc__law_right.nd rfl (Or.inl rfl))) (fun _ _ _ _ _ => (pts_one (pt_cmpR op_eq (pe_op op_mod (pe_callTy call_int1 (by rfl) T.b_int (by decide +kernel) (pa_cons (pv 10) pa_nil)) pe_int) pe_int (nomark _)))) (fun _ _ _ _ _ => (pv 10)))
  (pss_cons (ps_set (i := 12) sc__law_right.nd rfl (Or.inl rfl) (pe_cal C__law_seen (hr.mono (by omega)) rfl (pa_cons (pe_ix ix_list (pv 1) pe_int (fun _ _ => rfl)) (pa_cons (pe_lc (own := [("k", 10)]) (g := gName 10) (tt := tYes) (by rfl) sc__law_right.nd (pi_list (pv 11)) (blkOk_by (N := N__law_right) (sc := defScope s__law_right) (by decide +kernel)) (fun _ _ _ _ _ => (pg_name (i := 10) sc__law_right.nd rfl (Or.inl rfl))) (fun _ _ _ _ _ => pts_nil) (fun _ _ _ _ _ => (pe_ix (ix_orK (K := K) rfl) (pv 2) (pv 10) (fun _ _ => rfl)))) pa_nil))))
  (pss_cons (ps_if (pt_not (pt_val (pe_cal C__law_is_form (hr.mono (by omega)) rfl (pa_cons (pe_calX C_seen_from (hr.mono (by omega)) rfl takesN (pa_cons (pv 7) (pa_cons (pv 11) pa_nil))) (pa_cons (pe_ix ix_list (pv 12) pe_int (fun _ _ => rfl)) (pa_cons (pe_op op_mulW (pe_ix ix_list (pv 12) pe_int (fun _ _ => rfl)) (pe_ix ix_list (pv 1) pe_int (fun _ _ => rfl))) pa_nil)))))) (pss_one (ps_ret pe_bl)) pss_nil)
  (pss_cons (ps_set (i := 13) sc__law_right.nd rfl (Or.inl rfl) (pe_callTy call_list_of (by rfl) T.b_list (by decide +kernel) (pa_cons (pv 4) pa_nil)))
  (pss_cons (ps_for PassesOwn.never rfl (pi_range1 (by rfl) T.b_range (pa_cons (pe_callB call_len_seq (by rfl) T.b_len PySem.boot_len (pa_cons (pv 2) pa_nil)) pa_nil)) (pg_name (i := 10) sc__law_right.nd rfl (Or.inl rfl)) (pss_one (ps_asg (pe_op op_mulW (pe_ix ix_or (pv 3) (pv 10) (fun _ _ => rfl)) (pv 5)) (pg_sub (pv 13) (pe_ix ix_or (pv 2) (pv 10) (fun _ _ => rfl)) set_list))))
  (pss_cons (ps_set (i := 14) sc__law_right.nd rfl (Or.inl rfl) (pe_calM O.clF C_mat (hr.mono (by omega)) (pv 0) (pa_cons (pe_tup (pa_cons (pv 13) (pa_cons (pv 5) pa_nil))) pa_nil)))
  (pss_cons (ps_if (PW.pt (pw_or (pt_not (pt_val (pe_cal C__law_is_fraction (hr.mono (by omega)) rfl (pa_cons (pv 14) pa_nil)))) (pw_or1 (pt_cmpR op_ne (pe_op op_mulW (pe_op op_mulW (pe_op op_mulW (pe_ix ix_tup (pv 14) pe_int (fun _ _ => rfl)) (pe_ix ix_list (pv 1) pe_int (fun _ _ => rfl))) (pv 5)) (pv 5)) (pe_op op_mulW (pe_cal C__law_value (hr.mono (by omega)) rfl (pa_cons (pe_ix ix_list (pv 1) pe_int (fun _ _ => rfl)) (pa_cons (pv 13) (pa_cons (pv 13) pa_nil)))) (pe_ix ix_tup (pv 14) pe_int (fun _ _ => rfl))) (nomark _))))) (pss_one (ps_ret pe_bl)) pss_nil)
  (pss_one (ps_ret (pe_cmpR op_ge (pe_op op_mulW (pe_ix ix_tup (pv 14) pe_int (fun _ _ => rfl)) (pe_ix ix_tup (pv 9) pe_int (fun _ _ => rfl))) (pe_op op_mulW (pe_ix ix_tup (pv 9) pe_int (fun _ _ => rfl)) (pe_ix ix_tup (pv 14) pe_int (fun _ _ => rfl))) (nomark _)))))))))))))))))), ?_⟩
  have n10 := dt.n10
  have nn := hP.pm.nn
  obtain ⟨jo, bn⟩ := dt.jok
  have sy := jo.whole.sym
  have syT := dt.jokT.whole.sym
  have psT := psd_cutT dt psd
  have b0 := dt.b0
  have l1 := dt.l1
  have mB := dt.mB
  obtain ⟨kk, ka, rfl, hka⟩ := sn_ints hkv
  obtain ⟨kk2, va, rfl, hva⟩ := sn_ints hvv
  -- what the law tells
  refine ⟨_, rfl, dr, _, 0, _, rfl, rfl, SqL.of hdr, at_pos (by decide) rfl, _, rfl, tb, .ref ka, n, m, 900, 2 ^ 70, cutT n M, ks, rfl, ltab_cut htb, hkv, hP, dt.jokT, bn, psT, fun r1 tb1 H1 S1 d1 B1 ps1 R sc hs1 hr1 hR run1 s0 eR sB RB => ?_⟩
  have SR := seen_R hP syT run1 s0 eR
  -- what the program tells
  refine ⟨_, rfl, _, rfl, p, .ref ka, n, m, 900, 20, BF n M l, 2 ^ 70, MF n M l, ks, rfl, hF.same hs1, hkv.same hs1, hP, jo, bn, fun i j => (mB i j).mono (by decide), b0, dt.bB, by decide, by decide, fun f2 H2 S d B' ps hs2 _ run hFA dB => ?_, belx jo psd⟩
  have dp := (run.inv (El.Pe_sym sy)).dpos
  obtain ⟨EE, hEE⟩ : ∃ EE : Nat → Nat → Int, EE = fun a c => B' (El.rO n m ks + a) (El.rO n m ks + c) := ⟨_, rfl⟩
  rw [← hEE] at hFA
  have SE : El.Seen n (MF n M l) ks m EE d := by rw [hEE]; exact hP.pm.seen sy run
  have db0 : 0 < d * BF n M l := Int.mul_pos dp b0
  have F2 := fat_mf hFA
  have tR : ∀ a b, a < m → b < m → d * R a b = sc * (GF n M l * EE a b) := fun a b ha hb => told_eq dt psd hP SE SR ha hb
  have fR : ∀ i j, i < m → j < m → MF m EE (d * BF n M l) i j * (sc * l) = R i j * BF m EE (d * BF n M l) := fun i j hi hj => form_eq dt dp db0 rfl tR hi hj
  have EB : ∀ a c, B 900 (EE a c) := fun a c => by rw [hEE]; exact run_E_B jo bn hP run a c
  have E'B : ∀ i j, B 900 (MF m EE (d * BF n M l) i j) := mt_B fun i j _ _ => EB i j
  have b'0 : 0 < BF m EE (d * BF n M l) := bf_pos (by omega)
  have b'B : B 920 (BF m EE (d * BF n M l)) := P09.B.quot (P09.B.mul dB dt.bB)
  have slB : B 920 (sc * l) := P09.B.mul sB dt.lB
  have m16 : m ≤ 16 := by omega
  have s12 := hs1.trans hs2
  have hr1' := hs2 _ _ hr1
  have hdr2 := s12 _ _ hdr
  -- the form
  refine ⟨_, rfl, _, rfl, r1, _, 0, _, rfl, rfl, SqL.of hr1', at_pos (by decide) rfl, _, rfl, r1, _, 1, _, rfl, rfl, SqL.of hr1', at_pos (by decide) rfl, _, rfl, dr, _, 1, _, rfl, rfl, SqL.of hdr2, at_pos (by decide) rfl, _, _, rfl, rfl, wmul sB dt.lB (by decide) (by decide) (by decide), f2, tb1, m, MF m EE (d * BF n M l), R, BF m EE (d * BF n M l), sc * l, rfl, F2, hR.same hs2, by omega, by omega, b'B.mono (by decide), gf_mf db0, fun i j _ _ => (E'B i j).mono (by decide), fR, slB.mono (by decide), fun i j hi hj => (RB i j hi hj).mono (by decide), fun H3 hs3 => ⟨true, rfl, ifF rfl ?_⟩⟩
  have s13 := s12.trans hs3
  have hr13 := hs3 _ _ hr1'
  have hdr3 := hs3 _ _ hdr2
  have F3 := F2.same hs3
  -- top
  refine ⟨_, rfl, r1, _, 0, _, rfl, rfl, SqL.of hr13, at_pos (by decide) rfl, _, rfl, _, rfl, tb1, .ref va, m, R, v, rfl, hR.same (hs2.trans hs3), hvv.same s13, m16, fun i j hi hj => (RB i j hi hj).mono (by decide), fun i hi => (vB i hi).mono (by decide), fun H4 hs4 => ?_⟩
  have s14 := s13.trans hs4
  have F4 := F3.same hs4
  obtain ⟨dx4, e4, hi4, hz4⟩ := id F4
  have topB : B 1000 (El.Q m R v) := (Q_B (k1 := 900) (k2 := 40) m16 RB vB).mono (by decide)
  -- told
  refine ⟨f2, dx4, _, rfl, hi4, _, rfl, hi4, f2, .ref va, m, MF m EE (d * BF n M l), BF m EE (d * BF n M l), v, rfl, F4, hvv.same s14, m16, b'0, b'B.mono (by decide), fun i hi => (vB i hi).mono (by decide), fun i j _ _ => (E'B i j).mono (by decide), fun rt H5 hs5 hrt => ?_⟩
  rw [bil_Q] at hrt
  obtain ⟨t0, ht0⟩ : ∃ t0, t0 = El.Q m (MF m EE (d * BF n M l)) v := ⟨_, rfl⟩
  rw [← ht0] at hrt
  obtain ⟨bb, hbb⟩ : ∃ bb, bb = BF m EE (d * BF n M l) := ⟨_, rfl⟩
  rw [← hbb] at hrt b'0 b'B
  have t0B : B 1000 t0 := by rw [ht0]; exact (Q_B (k1 := 900) (k2 := 40) m16 (fun i j _ _ => E'B i j) vB).mono (by decide)
  have hh0 : 0 < gI t0 bb := gI_pos' b'0
  have tv1 : t0 * (sc * l) = El.Q m R v * bb := by rw [ht0, hbb]; exact val_eq fR v
  have s15 := s14.trans hs5
  have hTt := SqT.of (K := K) hrt
  have botp : 1 ≤ bb / gI t0 bb := quot_pos hh0 gI_dvd2 (by omega)
  have botB : B 920 (bb / gI t0 bb) := P09.B.quot b'B
  have t0qB : B 1000 (t0 / gI t0 bb) := P09.B.quot t0B
  have hr15 := (hs4.trans hs5) _ _ hr13
  have hdr5 := (hs4.trans hs5) _ _ hdr3
  refine ⟨_, rfl, rt, _, _, rfl, hrt, botp, botB.mono (by decide), gI_one b'0, true, rfl, ifF rfl ?_⟩
  refine ⟨_, rfl, rt, _, 0, _, rfl, rfl, hTt, at_pos (by decide) rfl, _, rfl, r1, _, 1, _, rfl, rfl, SqL.of hr15, at_pos (by decide) rfl, _, _, rfl, rfl, wmul t0qB sB (by decide) (by decide) (by decide), _, rfl, dr, _, 1, _, rfl, rfl, SqL.of hdr5, at_pos (by decide) rfl, _, _, rfl, rfl, wmul (P09.B.mul t0qB sB) dt.lB (by decide) (by decide) (by decide), _, rfl, _, rfl, rt, _, 1, _, rfl, rfl, hTt, at_pos (by decide) rfl, _, _, rfl, rfl, wmul topB botB (by decide) (by decide) (by decide), rfl, _, rfl, ifF (ne_F ?_) ?_⟩
  · rw [Int.mul_assoc]
    exact cross2 hh0 gI_dvd1 gI_dvd2 tv1
  -- filling
  obtain ⟨joE, bnE⟩ := jok_E jo hP run db0
  rw [← hEE] at joE
  refine ⟨_, rfl, _, rfl, _, rfl, p, .ref ka, .ref va, n, m, 900, BF n M l, 2 ^ 70, MF n M l, ks, v, rfl, hF.same s15, hkv.same s15, hvv.same s15, hP, jo, bn, fun i j => (mB i j).mono (by decide), vB, fun ft fu H6 S' d' B2 ps2 N g hs6 _ run2 nv fil _ gB hft hfu => ?_, belx jo psd⟩
  obtain ⟨rfl, rfl, rfl, rfl⟩ := run.same run2
  have s16 := s15.trans hs6
  have hdr6 := hs6 _ _ hdr5
  have hr16 := hs6 _ _ hr15
  obtain ⟨G, hG⟩ : ∃ G, G = gf d (vec n g) := ⟨_, rfl⟩
  rw [← hG] at hft hfu
  have G0 : 0 < G := by rw [hG]; exact gf_pos dp _
  have Gd := gf_dvd (b := d) (vec n g)
  rw [← hG] at Gd
  have gk : ∀ a, a < m → g (ks a) = d * v a := fun a ha => by
    have := fil.k a ha
    rw [El.pm_k] at this
    exact this
  refine ⟨_, rfl, _, rfl, _, rfl, _, rfl, _, rfl, r1, _, 1, _, rfl, rfl, SqL.of hr16, at_pos (by decide) rfl, _, rfl, dr, _, 1, _, rfl, rfl, SqL.of hdr6, at_pos (by decide) rfl, _, _, rfl, rfl, wmul sB dt.lB (by decide) (by decide) (by decide), ft, fu, dr, tb, .ref ka, .ref va, n, m, d / G, l, El.Q m R v, sc * l, fun i => g i / G, v, M, ks, S, d, B', ps, rfl, hft, hfu, hdr6, LTab.same s16 htb, hkv.same s16, hvv.same s16, hP, dt, psd, quot_pos G0 Gd.1 (by omega), (P09.B.quot dB).mono (by decide), fun i _ => (P09.B.quot (gB i)).mono (by decide), ?_, vB, topB.mono (by decide), slB.mono (by decide), fun a ha => ?_, run, fun q hq hS => ?_, ?_, fun H7 hs7 => ⟨true, rfl, ifF rfl ?_⟩⟩
  · have e1 := gf_one dp (vec n g)
    rw [← hG, vec_map] at e1
    exact e1
  · show g (ks a) / G = v a * (d / G)
    rw [gk a ha, Int.mul_comm, Int.mul_ediv_assoc _ Gd.1]
  · have := fil.z q hq hS
    have e1 : g (El.pm (El.rO n m ks) (El.oS n m ks) ks q) = 0 := this
    rw [El.pm_o hq] at e1
    show g (El.oS n m ks q) / G = 0
    rw [e1, Int.zero_ediv]
  · refine fill_val (qe := El.Q m EE v) dt G0 (fun i hi => Gd.2 _ (List.mem_map.mpr ⟨i, List.mem_range.mpr hi, rfl⟩)) Gd.1 ?_ ?_
    · rw [hEE]
      exact fill_eq dt hP run nv fil
    · exact val_eq (fun i j hi hj => by have := tR i j hi hj; grind) v
  -- a part of the places
  have s17 := s16.trans hs7
  have hdr7 := hs7 _ _ hdr6
  refine ⟨_, rfl, ka, _, rfl, sq_or (sq_same s17 hka), (m : Int), by rw [vec_lenV], by omega, by omega, fun FW hFW => ?_⟩
  refine lc_f (K := K) (walk_range (lo := 0) (n := m)) RI stb_RI (List.range m) (by rw [List.length_range]) (by rw [List.length_range]; omega) hFW (fun _ _ => trivial) (fun _ _ _ _ => ys_fn) (fun (i : Nat) => if (i : Int) % 2 = 0 then some (i : Int) else none) (fun c i x H8 H9 hc s8 s9 yl A B3 hA hB => ?_) (fun H8 l8 hs8 hl8 rz8 => ?_)
  · obtain ⟨hc1, rfl⟩ := in_range hc
    rw [yl.2]
    refine ⟨rfl, _, rfl, .inl ⟨_, rfl, _, _, rfl, rfl, (by show (0 : Int) < 2; decide), rfl, ?_⟩⟩
    refine ⟨_, rfl, ?_⟩
    by_cases c : (i : Int) % 2 = 0
    · refine ifT ?_ ⟨_, rfl, hA _ _ _ (if_pos c) (fun _ _ h => h) (by show V.int _ = V.int _; rw [Int.zero_add])⟩
      show decide (V.int ((0 + (i : Int)) % 2) = V.int 0) = true
      rw [Int.zero_add, c]
      exact decide_eq_true rfl
    · refine ifF ?_ (hB (if_neg c) _ fun _ _ h => h)
      exact int_ne (by rw [Int.zero_add]; exact c)
  rw [few_fm] at rz8
  obtain ⟨k2, hk2⟩ : ∃ k2, k2 = (m + 1) / 2 := ⟨_, rfl⟩
  rw [← hk2] at rz8
  have hFp : El.Pl m k2 (fun j => 2 * j) := by rw [hk2]; exact few_pl m
  have hPf := Pl_comp hP hFp
  have hFW8 : H8 FW = some (.lst ((pv_ k2 fun j => 2 * j).map V.int)) := by rw [hl8, rz8.ints]
  have hFS := SqL.of (K := K) hFW8
  have s18 := s17.trans hs8
  have hdr8 := hs8 _ _ hdr7
  have k2m : k2 ≤ 10 := by omega
  -- the law on it
  refine ⟨_, rfl, dr, _, 0, _, rfl, rfl, SqL.of hdr8, at_pos (by decide) rfl, _, rfl, FW, rfl, ⟨_, hFS⟩, fun K2 hK2 => ?_⟩
  refine lc_m (walk_list (K := K) (a := FW) (xs := (pv_ k2 fun j => 2 * j).map V.int)) RI (stb_RI (K := K)) (List.range k2) (by rw [vec_lenV, List.length_range]) (by rw [List.length_range]; omega) hK2 (fun H' s => s.seq hFS) (fun _ _ _ _ => ys_at) (fun j => (ks (2 * j) : Int)) (fun c j x H9 H10 hc s9 s10 yl A B3 hA => ?_) (fun H9 l9 hs9 hl9 rz9 => ?_)
  · obtain ⟨hj, rfl⟩ := in_range hc
    obtain ⟨_, rfl⟩ := pv_el yl.2
    exact ⟨rfl, lc_yes ⟨_, rfl, _, rfl, ix_any (sq_same (s18.trans s10) hka) (atI_nat (vecV_at (hFp.k j hj))) (hA _ _ (fun _ _ h => h) rfl)⟩⟩
  have hK9 : H9 K2 = some (.lst ((pv_ k2 fun j => ks (2 * j)).map V.int)) := by rw [hl9, rz9.ints]; rfl
  have s19 := s18.trans hs9
  refine ⟨tb, .ref K2, n, k2, 900, 2 ^ 70, cutT n M, fun j => ks (2 * j), rfl, ltab_cut (LTab.same s19 htb), .lst hK9 (FzAll.of_ints _).sn, hPf, dt.jokT, bn, psT, fun r4 tb4 H10 S4 d4 B4 ps4 R4 s4 hs10 hr4 hR4 run4 s40 eR4 s4B R4B => ?_⟩
  have SR4 := seen_R hPf syT run4 s40 eR4
  have s110 := s19.trans hs10
  have hdr10 := (hs9.trans hs10) _ _ hdr8
  have hFW10 := (hs9.trans hs10) _ _ hFW8
  have F10 := F4.same (((hs5.trans hs6).trans hs7).trans ((hs8.trans hs9).trans hs10))
  have psEE : El.Psd m EE := SE.psd psd hP
  have gE : ∀ i j, i < m → j < m → GF m EE (d * BF n M l) * MF m EE (d * BF n M l) i j = EE i j := fun i j hi hj => gf_mt db0 hi hj
  have psE := psd_mul (gf_pos db0 _) gE psEE
  rw [← hbb] at F10
  -- the program on it
  refine ⟨_, rfl, _, rfl, f2, .ref FW, m, k2, 3600, 920, bb, _, MF m EE (d * BF n M l), fun j => 2 * j, rfl, F10, .lst hFW10 (FzAll.of_ints _).sn, hFp, joE, bnE, fun i j => (E'B i j).mono (by decide), b'0, b'B, by decide, by decide, fun f3 H11 S3 d3 B3 ps3 hs11 _ run3 hFA3 d3B => ?_, belx joE psE⟩
  have d30 := (run3.inv (El.Pe_sym joE.whole.sym)).dpos
  obtain ⟨FF, hFF⟩ : ∃ FF : Nat → Nat → Int, FF = fun a c => B3 (El.rO m k2 (fun j => 2 * j) + a) (El.rO m k2 (fun j => 2 * j) + c) := ⟨_, rfl⟩
  rw [← hFF] at hFA3
  have SF : El.Seen m (MF m EE (d * BF n M l)) (fun j => 2 * j) k2 FF d3 := by rw [hFF]; exact hFp.pm.seen joE.whole.sym run3
  have SE2 : El.Seen m EE (fun j => 2 * j) k2 (fun a b => GF m EE (d * BF n M l) * FF a b) d3 := SF.turn hFp.k (fun i j hi hj => (gE i j hi hj).symm) d30 fun a b _ _ => Int.mul_assoc _ _ _
  have SC := SE.comp hP hFp SE2
  have tR4 : ∀ a b, a < k2 → b < k2 → d * d3 * R4 a b = s4 * (GF n M l * (GF m EE (d * BF n M l) * FF a b)) := fun a b ha hb => told_eq dt psd hPf SC SR4 ha hb
  have L0 : 0 < d3 * bb := Int.mul_pos d30 b'0
  have gbb : GF m EE (d * BF n M l) * bb = d * BF n M l := by rw [hbb]; exact gf_mul db0
  have fR4 : ∀ i j, i < k2 → j < k2 → MF k2 FF (d3 * bb) i j * (s4 * l) = R4 i j * BF k2 FF (d3 * bb) := fun i j hi hj => form_eq2 (b := BF n M l) (Int.mul_pos dp d30) L0 (by
    rw [← Int.mul_assoc, Int.mul_comm (GF m EE (d * BF n M l)) d3, Int.mul_assoc, gbb, ← Int.mul_assoc, Int.mul_comm d3 d]) dt.gb tR4 hi hj
  have F3B : ∀ i j, B 3600 (MF k2 FF (d3 * bb) i j) := mt_B fun i j hi hj => by
    rw [hFF]
    have nn3 := hFp.pm.nn
    have rb := run3.rbound (El.Pe_sym joE.whole.sym) _ joE.bd1 (fun i j => by
      show -El.bnd (2 ^ 70) (El.rO n m ks + 1) ≤ El.Pe (MF m EE (d * BF n M l)) m _ _ (fun j => 2 * j) i j ∧ El.Pe (MF m EE (d * BF n M l)) m _ _ (fun j => 2 * j) i j ≤ El.bnd (2 ^ 70) (El.rO n m ks + 1)
      have := joE.bd1
      unfold El.Pe
      split
      · exact joE.abs _ _
      · omega) (i := El.rO m k2 (fun j => 2 * j) + i) (by omega) (El.rO m k2 (fun j => 2 * j) + j)
    have m2 := El.bnd_mono joE.bd1 (show El.rO m k2 (fun j => 2 * j) + 1 ≤ m + 1 by omega)
    have hb : (El.bnd (El.bnd (2 ^ 70) (El.rO n m ks + 1)) (m + 1)).natAbs < 2 ^ 3600 := bnE
    have p0 := El.bnd_pos joE.bd1 (m + 1)
    show (B3 _ _).natAbs < 2 ^ 3600
    omega
  have s111 := s110.trans hs11
  have hr411 := hs11 _ _ hr4
  have hdr11 := hs11 _ _ hdr10
  refine ⟨_, rfl, r4, _, 0, _, rfl, rfl, SqL.of hr411, at_pos (by decide) rfl, _, rfl, r4, _, 1, _, rfl, rfl, SqL.of hr411, at_pos (by decide) rfl, _, rfl, dr, _, 1, _, rfl, rfl, SqL.of hdr11, at_pos (by decide) rfl, _, _, rfl, rfl, wmul s4B dt.lB (by decide) (by decide) (by decide), f3, tb4, k2, MF k2 FF (d3 * bb), R4, BF k2 FF (d3 * bb), s4 * l, rfl, fat_mf hFA3, hR4.same hs11, by omega, bf_pos (by omega), (P09.B.quot (P09.B.mul d3B b'B)).mono (by decide), gf_mf L0, fun i j _ _ => (F3B i j).mono (by decide), fR4, (P09.B.mul s4B dt.lB).mono (by decide), fun i j hi hj => (R4B i j hi hj).mono (by decide), fun H12 hs12 => ⟨true, rfl, ifF rfl ?_⟩⟩
  have s112 := s111.trans hs12
  have hdr12 := hs12 _ _ hdr11
  have hoa12 := s112 _ _ hoa
  -- another point
  refine ⟨_, rfl, oa, _, rfl, .inl (SqL.of hoa12), fun Z hZ => ?_⟩
  have sZ := same_new hZ (.lst ((vec n o).map V.int))
  have ixj : ∀ {j : Nat}, j < n → ixN n (j : Int) = some j := fun {j} hj => by unfold ixN; rw [if_pos (by omega), if_pos (by omega)]; congr 1
  refine ⟨_, rfl, ka, _, rfl, sq_or (sq_same (s112.trans sZ) hka), (m : Int), by rw [vec_lenV], by omega, by omega, for_range (lo := 0) (n := m) (fun k σ H' => ∃ (v10 : Option V) (zf : Nat → Int), σ = [some (.ref p), some (.ref dr), some (.ref ka), some (.ref va), some (.ref oa), some (.int qq), some (.ref r1), some (.ref f2), some (.int (El.Q m R v)), some (.ref rt), v10, some (.ref FW), some (.ref r4), some (.ref Z), none] ∧ Same H12 H' ∧ H' Z = some (.lst ((vec n zf).map V.int)) ∧ (∀ a, a < k → zf (ks a) = qq * v a) ∧ ∀ i, i < n → B 50 (zf i)) ⟨none, o, rfl, sZ, upd_same, fun a ha => by omega, oB⟩ ?_ ?_⟩
  · rintro a σ H13 ha ⟨v10, zf, rfl, s13', hZ13, z1, zB⟩
    have s113 := s112.trans s13'
    refine ⟨_, rfl, _, rfl, ix_any (sq_same s113 hva) (ixv ha) ⟨_, rfl, _, _, rfl, rfl, wmul (vB a ha) qB (by decide) (by decide) (by decide), ?_⟩⟩
    refine ⟨_, rfl, _, rfl, _, rfl, ix_any (sq_same s113 hka) (ixv ha) ⟨Z, _, _, ks a, rfl, rfl, hZ13, by rw [vec_lenV]; exact ixj (hP.k a ha), ?_⟩⟩
    refine ⟨_, put1 zf (ks a) (v a * qq), rfl, same_at s13' hZ, by rw [upd_same, vec_set (hP.k a ha)]; rfl, fun a2 ha2 => ?_, fun i hi => ?_⟩
    · by_cases c : a2 = a
      · rw [c, put1_at, Int.mul_comm]
      · rw [put1_ne fun e => c (hP.ki a2 a (by omega) ha e)]
        exact z1 a2 (by omega)
    · unfold put1
      split
      · exact P09.B.mul (vB a ha) qB
      · exact zB i hi
  rintro σ H13 ⟨v10, zf, rfl, s13', hZ13, z1, zB⟩
  have s113 := s112.trans s13'
  have hdr13 := s13' _ _ hdr12
  have FA13 := hF.same s113
  obtain ⟨dx13, e13, hi13, hz13⟩ := id FA13
  -- its worth
  refine ⟨_, rfl, p, dx13, _, rfl, hi13, lkFx _ _ _ (by decide +kernel) (by decide +kernel) (by decide +kernel), _, rfl, _, rfl, two_line, fun tp htp => ?_⟩
  have stp := same_new htp (.tup [.ref Z, .int qq])
  refine ⟨p, tp, .ref Z, qq, n, MF n M l, BF n M l, zf, rfl, upd_same, FA13.same stp, .lst (stp _ _ hZ13) (FzAll.of_ints _).sn, by omega, b0, dt.bB.mono (by decide), q0, qB.mono (by decide), fun i hi => (zB i hi).mono (by decide), fun i j _ _ => (mB i j).mono (by decide), fun rw' H14 uu v2 s14' v20 heq hg1 v2B uuB hfr => ?_⟩
  rw [bil_Q] at heq
  have s114 := (s113.trans stp).trans s14'
  have hW := SqT.of (K := K) hfr
  have hdr14 := s14' _ _ (stp _ _ hdr13)
  have hZ14 := s14' _ _ (stp _ _ hZ13)
  have hTt14 : SqT K H14 rt [.int (t0 / gI t0 bb), .int (bb / gI t0 bb)] := Same_seqT (((hs6.trans hs7).trans ((hs8.trans hs9).trans (hs10.trans hs11))).trans ((hs12.trans s13').trans (stp.trans s14'))) hTt
  refine ⟨_, rfl, rw', _, _, rfl, hfr, by omega, v2B.mono (by decide), hg1, true, rfl, ifF rfl ?_⟩
  refine ⟨_, rfl, rw', _, 0, _, rfl, rfl, hW, at_pos (by decide) rfl, _, rfl, dr, _, 1, _, rfl, rfl, SqL.of hdr14, at_pos (by decide) rfl, _, _, rfl, rfl, wmul uuB dt.lB (by decide) (by decide) (by decide), _, rfl, _, _, rfl, rfl, wmul (P09.B.mul uuB dt.lB) qB (by decide) (by decide) (by decide), _, rfl, _, _, rfl, rfl, wmul (P09.B.mul (P09.B.mul uuB dt.lB) qB) qB (by decide) (by decide) (by decide), ?_⟩
  refine ⟨_, rfl, dr, _, 0, _, rfl, rfl, SqL.of hdr14, at_pos (by decide) rfl, _, rfl, _, rfl, tb, .ref Z, n, M, zf, rfl, LTab.same s114 htb, .lst hZ14 (FzAll.of_ints _).sn, by omega, fun i j hi hj => (dt.tB i j hi hj).mono (by decide), fun i hi => (zB i hi).mono (by decide), fun H15 s15' => ?_⟩
  have hW15 := Same_seqT s15' hW
  have hTt15 := Same_seqT s15' hTt14
  have QzB := Q_B (k1 := 70) (k2 := 50) (n := n) (by omega) dt.tB zB
  have eT : El.Q n M zf = GF n M l * El.Q n (MF n M l) zf := Q_in (fun i j hi hj => dt.gt hi hj) zf
  refine ⟨_, rfl, rw', _, 1, _, rfl, rfl, hW15, at_pos (by decide) rfl, _, _, rfl, rfl, wmul QzB v2B (by decide) (by decide) (by decide), rfl, _, rfl, ifF (ne_F ?_) ?_⟩
  · rw [eT]
    exact worth_val dt.gb heq
  refine ⟨_, rfl, rw', _, 0, _, rfl, rfl, hW15, at_pos (by decide) rfl, _, rfl, rt, _, 1, _, rfl, rfl, hTt15, at_pos (by decide) rfl, _, _, rfl, rfl, wmul uuB botB (by decide) (by decide) (by decide), _, rfl, rt, _, 0, _, rfl, rfl, hTt15, at_pos (by decide) rfl, _, rfl, rw', _, 1, _, rfl, rfl, hW15, at_pos (by decide) rfl, _, _, rfl, rfl, wmul t0qB v2B (by decide) (by decide) (by decide), _, _, rfl, rfl, ?_⟩
  have key : t0 / gI t0 bb * v2 ≤ uu * (bb / gI t0 bb) := by
    have eE : El.Q m EE v = GF m EE (d * BF n M l) * t0 := by rw [ht0]; exact Q_in gE v
    exact worth_key (SE.least sy psd hP z1) eE (Int.mul_ediv_cancel' gI_dvd1) (Int.mul_ediv_cancel' gI_dvd2) gbb heq v20 q0 (gf_pos db0 _) hh0
  show Q (V.bl (decide _)) _
  rw [decide_eq_true key]
  exact q _ (s114.trans s15')
end
end P09
set_option maxHeartbeats 8000000
set_option exponentiation.threshold 80000
namespace P09
open PySem PySem.Spec PyProof.Rows L2 SX EX WK
theorem vec_rev {m : Nat} {f : Nat → Int} : ((vec m f).map V.int).reverse = (vec m fun a => f (m - 1 - a)).map V.int := by
  rw [← List.map_reverse]
  congr 1
  refine List.ext_getElem? fun i => ?_
  by_cases hi : i < m
  · rw [List.getElem?_reverse (by rw [vec_len]; exact hi), vec_len, vec_at (by omega), vec_at hi]
  · rw [List.getElem?_eq_none (by rw [List.length_reverse, vec_len]; omega), List.getElem?_eq_none (by rw [vec_len]; omega)]
theorem rev_pl {n m : Nat} {ks : Nat → Nat} (P : El.Pl n m ks) : El.Pl n m (fun a => ks (m - 1 - a)) := ⟨fun a ha => P.k _ (by omega), fun a b ha hb e => by have := P.ki _ _ (by omega) (by omega) e; omega⟩
def ipy (ns : List Int) : List PyData := ns.map PyData.int
theorem ipy_lay : ∀ ns : List Int, PyData.canLayAll0 (ipy ns) = true
  | [] => by unfold ipy; rw [List.map_nil, PyData.canLayAll0]
  | n :: ns => by
    have h := ipy_lay ns
    unfold ipy at h ⊢
    rw [List.map_cons, PyData.canLayAll0, h, PyData.canLay0]
    rfl
theorem ipy_dep : ∀ ns : List Int, PyData.depthAll (ipy ns) = 0
  | [] => by unfold ipy; rw [List.map_nil, PyData.depthAll]
  | n :: ns => by
    have h := ipy_dep ns
    unfold ipy at h ⊢
    rw [List.map_cons, PyData.depthAll, h, PyData.depth]
    rfl
theorem list_shaped (ns : List Int) : SeqAt.shaped (.list (ipy ns)) = true := by
  unfold SeqAt.shaped
  rw [Bool.and_eq_true]
  constructor
  · simp [PyData.canLay0, PyData.canLayAll0, ipy_lay]
  · refine decide_eq_true ?_
    simp only [PyData.depth, PyData.depthAll, ipy_dep]
    omega
theorem eqv_self {d : PyData} (h : SeqAt.shaped d = true) : PyData.eqv d d = true := SeqAt.eqv_refl _ (SeqAt.canLay_of_shaped h)
theorem dp_ints {K : PySem.W.Frag} {H : Hp} : ∀ ns : List Int, DpAll K H (ns.map V.int) (ipy ns)
  | [] => .nil
  | n :: ns => .cons (.int n) (dp_ints ns)
theorem cut12 {g : Nat → Int} : cutV ((vec 4 g).map V.int) (some 1) (some 3) = [.int (g 1), .int (g 2)] := rfl
theorem cut_hd {n m : Nat} {f : Nat → Int} (h : m ≤ n) : cutV ((vec n f).map V.int) none (some (m : Int)) = (vec m f).map V.int := cut_head rfl h
section
variable {P : Program} {w : World} {K : PySem.W.Frag} {mg : Str → Option Value} {base : Heap} {f : Addr} {fd : FuncData} {cF cR cB : Addr}
def spLaw (K : PySem.W.Frag) : Sp := fun vs H Q _ => ∃ (a : Addr) (ns : List Int), vs = [.ref a] ∧ SqL K H a (ns.map V.int) ∧ ns.length ≤ 63 ∧ ∀ H', Q (.bl true) H'
abbrev s_law : Stmt := top 70
abbrev N_law : List Str := ["script", "head", "drawn", "size", "order", "many", "keep", "values", "other", "form", "point", "turned", "line", "unknown"]
theorem sc_law : FnScope N_law ["script"] (defScope s_law) := ⟨rfl, rfl, rfl, by decide +kernel, rfl, by decide +kernel, by decide +kernel⟩
theorem ok_law (F : Fun K "law" "law" s_law f fd) (T : Txt mg) (O : Obs K cF cR) (CF__law_cell : Cal P w K mg base 1 "_law_cell" ["script", "k"] (spCellF K)) (C__law_digits : Cal P w K mg base 1 "_law_digits" ["cell", "sizes"] (spDigits K)) (C__law_drawn : Cal P w K mg base 3 "_law_drawn" ["script", "kind"] (spDrawn K)) (C__law_draw_order : Cal P w K mg base 2 "_law_draw_order" ["cell", "size"] (spDord K)) (C__law_draw_many : Cal P w K mg base 1 "_law_draw_many" ["row", "size"] (spDmany K)) (C__law_draw_point : Cal P w K mg base 2 "_law_draw_point" ["cell", "size"] (spDpt K))
    (C__law_leads : Cal P w K mg base 2 "_law_leads" ["table"] (spLeads K)) (C__law_seen_refused : Cal P w K mg base 9 "_law_seen_refused" ["form", "keep"] (spSR K cF)) (C__law_filled_refused : Cal P w K mg base 9 "_law_filled_refused" ["form", "keep", "values"] (spFR K cF)) (C__law_is_point : Cal P w K mg base 2 "_law_is_point" ["value", "size"] (spIsPoint K)) (C__law_value : Cal P w K mg base 2 "_law_value" ["table", "one", "two"] (spLawV K)) (C__law_right : Cal P w K mg base 9 "_law_right" ["form", "drawn", "keep", "values", "other", "q"] (spRight K cF)) (C_Form : CalK P w K mg base 4 "Form" cF 1 ["bottom"] (spForm K cF)) : FnOk P w K mg base CX0 10 f fd ["script"] (spLaw K) := by
  refine F.ok sc_law (fun vs H Q E h => ?_) (fun cdv A outer s H vs Q E hr h => ?_)
  · obtain ⟨a, ns, rfl, _⟩ := h
    rfl
  obtain ⟨a, ss, rfl, ha, _, q⟩ := h
  refine ⟨_, (pss_cons (ps_set (i := 1) sc_law.nd rfl (Or.inl rfl) (pe_cal C__law_digits (hr.mono (by omega)) rfl (pa_cons (pe_cal CF__law_cell (hr.mono (by omega)) rfl (pa_cons (pv 0) (pa_cons pe_int pa_nil))) (pa_cons (pe_lst (pa_cons pe_int (pa_cons pe_int (pa_cons pe_int (pa_cons pe_int pa_nil))))) pa_nil))))
  (pss_cons (ps_set (i := 2) sc_law.nd rfl (Or.inl rfl) (pe_cal C__law_drawn (hr.mono (by omega)) rfl (pa_cons (pv 0) (pa_cons (pe_ix ix_list (pv 1) pe_int (fun _ _ => rfl)) pa_nil))))
  (pss_cons (ps_set (i := 3) sc_law.nd rfl (Or.inl rfl) (pe_callB call_len_seq (by rfl) T.b_len PySem.boot_len (pa_cons (pe_ix ix_list (pv 2) pe_int (fun _ _ => rfl)) pa_nil)))
  (pss_cons (ps_set (i := 4) sc_law.nd rfl (Or.inl rfl) (pe_cal C__law_draw_order (hr.mono (by omega)) rfl (pa_cons (pe_cal CF__law_cell (hr.mono (by omega)) rfl (pa_cons (pv 0) (pa_cons pe_int pa_nil))) (pa_cons (pv 3) pa_nil))))
  (pss_cons (ps_set (i := 5) sc_law.nd rfl (Or.inl rfl) (pe_cal C__law_draw_many (hr.mono (by omega)) rfl (pa_cons (pe_slice sl_list (pv 1) (po_some pe_int) (po_some pe_int)) (pa_cons (pv 3) pa_nil))))
  (pss_cons (ps_set (i := 6) sc_law.nd rfl (Or.inl rfl) (pe_slice sl_list (pv 4) po_none (po_some (pv 5))))
  (pss_cons (ps_set (i := 7) sc_law.nd rfl (Or.inl rfl) (pe_cal C__law_draw_point (hr.mono (by omega)) rfl (pa_cons (pe_cal CF__law_cell (hr.mono (by omega)) rfl (pa_cons (pv 0) (pa_cons pe_int pa_nil))) (pa_cons (pe_callB call_len_seq (by rfl) T.b_len PySem.boot_len (pa_cons (pv 6) pa_nil)) pa_nil))))
  (pss_cons (ps_set (i := 8) sc_law.nd rfl (Or.inr rfl) (pe_cal C__law_draw_point (hr.mono (by omega)) rfl (pa_cons (pe_cal CF__law_cell (hr.mono (by omega)) rfl (pa_cons (pv 0) (pa_cons pe_int pa_nil))) (pa_cons (pv 3) pa_nil))))
  (pss_cons (ps_set (i := 9) sc_law.nd rfl (Or.inl rfl) (pe_calK C_Form (hr.mono (by omega)) rfl (pa_cons (pe_lc (own := [("line", 12)]) (g := gName 12) (tt := tYes) (by rfl) sc_law.nd (pi_list (pe_ix ix_list (pv 2) pe_int (fun _ _ => rfl))) (blkOk_by (N := N_law) (sc := defScope s_law) (by decide +kernel)) (fun _ _ _ _ _ => (pg_name (i := 12) sc_law.nd rfl (Or.inl rfl))) (fun _ _ _ _ _ => pts_nil) (fun _ _ _ _ _ => (pe_callTy (call_list_ofK (K := K) rfl) (by rfl) T.b_list (by decide +kernel) (pa_cons (pv 12) pa_nil)))) pa_nil) (pk_cons (pe_ix ix_list (pv 2) pe_int (fun _ _ => rfl)) pk_nil)))
  (pss_cons (ps_if (pt_cmpR op_isN (pe_cal C__law_leads (hr.mono (by omega)) rfl (pa_cons (pe_ix ix_list (pv 2) pe_int (fun _ _ => rfl)) pa_nil)) pe_non (nomark _)) (pss_cons (ps_for PassesOwn.never rfl (pi_list (pe_lst (pa_cons (pe_cal C__law_seen_refused (hr.mono (by omega)) rfl (pa_cons (pv 9) (pa_cons (pv 6) pa_nil))) (pa_cons (pe_cal C__law_filled_refused (hr.mono (by omega)) rfl (pa_cons (pv 9) (pa_cons (pe_callTy call_tuple_of (by rfl) T.b_tuple (by decide +kernel) (pa_cons (pv 6) pa_nil)) (pa_cons (pv 7) pa_nil)))) pa_nil)))) (pg_name (i := 10) sc_law.nd rfl (Or.inl rfl)) (pss_one (ps_if (PW.pt (pw_or (pt_not (pt_val (pe_cal C__law_is_point (hr.mono (by omega)) rfl (pa_cons (pv 10) (pa_cons (pv 3) pa_nil))))) (pw_or1 (pt_cmpR op_ge (pe_cal C__law_value (hr.mono (by omega)) rfl (pa_cons (pe_ix ix_list (pv 2) pe_int (fun _ _ => rfl)) (pa_cons (pv 10) (pa_cons (pv 10) pa_nil)))) pe_int (nomark _))))) (pss_one (ps_ret pe_bl)) pss_nil)))
  (pss_one (ps_ret pe_bl))) pss_nil)
  (pss_cons (ps_if (pt_not (pt_val (pe_cal C__law_right (hr.mono (by omega)) rfl (pa_cons (pv 9) (pa_cons (pv 2) (pa_cons (pv 6) (pa_cons (pv 7) (pa_cons (pv 8) (pa_cons (pe_op op_add pe_int (pe_ix ix_list (pv 1) pe_int (fun _ _ => rfl))) pa_nil))))))))) (pss_one (ps_ret pe_bl)) pss_nil)
  (pss_cons (ps_set (i := 11) sc_law.nd rfl (Or.inl rfl) (pe_callTy call_tuple_of (by rfl) T.b_tuple (by decide +kernel) (pa_cons (pe_revL (pv 6)) pa_nil)))
  (pss_cons (ps_if (pt_not (pt_val (pe_cal C__law_right (hr.mono (by omega)) rfl (pa_cons (pv 9) (pa_cons (pv 2) (pa_cons (pv 11) (pa_cons (pe_callTy call_tuple_of (by rfl) T.b_tuple (by decide +kernel) (pa_cons (pe_revL (pv 7)) pa_nil)) (pa_cons (pv 8) (pa_cons pe_int pa_nil))))))))) (pss_one (ps_ret pe_bl)) pss_nil)
  (pss_cons (ps_if (pt_not (pt_val (pe_cal C__law_right (hr.mono (by omega)) rfl (pa_cons (pv 9) (pa_cons (pv 2) (pa_cons (pe_callTy call_tuple_of (by rfl) T.b_tuple (by decide +kernel) (pa_cons (pv 6) pa_nil)) (pa_cons (pe_lc (own := [("unknown", 13)]) (g := gName 13) (tt := tYes) (by rfl) sc_law.nd (pi_list (pv 6)) (blkOk_by (N := N_law) (sc := defScope s_law) (by decide +kernel)) (fun _ _ _ _ _ => (pg_name (i := 13) sc_law.nd rfl (Or.inl rfl))) (fun _ _ _ _ _ => pts_nil) (fun _ _ _ _ _ => (pe_ix (ix_listK (K := K) rfl) (pv 8) (pv 13) (fun _ _ => rfl)))) (pa_cons (pv 8) (pa_cons pe_int pa_nil))))))))) (pss_one (ps_ret pe_bl)) pss_nil)
  (pss_cons (ps_if (PW.pt (pw_or (pt_cmpR (op_neD hr.units) (pv 6) (pe_slice sl_list (pv 4) po_none (po_some (pv 5))) (nomark _)) (pw_or1 (pt_cmpR (op_neD hr.units) (pv 7) (pe_cal C__law_draw_point (hr.mono (by omega)) rfl (pa_cons (pe_cal CF__law_cell (hr.mono (by omega)) rfl (pa_cons (pv 0) (pa_cons pe_int pa_nil))) (pa_cons (pe_callB call_len_seq (by rfl) T.b_len PySem.boot_len (pa_cons (pv 6) pa_nil)) pa_nil))) (nomark _))))) (pss_one (ps_ret pe_bl)) pss_nil)
  (pss_one (ps_ret (pe_cal C__law_right (hr.mono (by omega)) rfl (pa_cons (pv 9) (pa_cons (pv 2) (pa_cons (pv 6) (pa_cons (pv 7) (pa_cons (pv 8) (pa_cons (pe_op op_add pe_int (pe_ix ix_list (pv 1) pe_int (fun _ _ => rfl))) pa_nil)))))))))))))))))))))))), ?_⟩
  refine ⟨_, rfl, a, ss, 0, rfl, ha, by decide, by decide, line_ge (by show 4 ≤ 100000; decide), fun l0 hl0 => ?_⟩
  have s0 := same_new hl0 (.lst [V.int 24, V.int 8, V.int 2520, V.int 6])
  refine ⟨_, l0, [24, 8, 2520, 6], rfl, SqL.of upd_same, by decide, szs (by decide), fun hd ds hhd hdd => ?_⟩
  obtain ⟨y, rfl, hy⟩ := dig_vec hdd (m := 4) rfl
  have y3 := hy 3 6 rfl
  have s1 := s0.trans (same_new hhd (.lst ((vec 4 y).map V.int)))
  generalize hH1 : upd _ hd (.lst ((vec 4 y).map V.int)) = H1 at *
  have hhd1 : H1 hd = some (.lst ((vec 4 y).map V.int)) := by rw [← hH1, upd_same]
  have hHS := SqL.of (K := K) hhd1
  -- drawn
  refine ⟨_, rfl, _, rfl, hd, _, 0, _, rfl, rfl, hHS, ixa (k := 0) (by decide) rfl (by decide), a, ss, y 0, rfl, s1.seq ha, fun dr tb H2 n M l s2 hdr htb dt => ?_⟩
  have s02 := s1.trans s2
  have n10 := dt.n10
  obtain ⟨ws, htb1, htl, htr⟩ := htb.at
  refine ⟨_, rfl, dr, _, 0, _, rfl, rfl, SqL.of hdr, at_pos (by decide) rfl, tb, _, rfl, .inl (SqL.of htb1), ?_⟩
  rw [htl]
  -- order
  refine ⟨_, rfl, a, ss, 1, rfl, s02.seq ha, by decide, by decide, _, rfl, _, n, rfl, n10, fun od H3 ks s3 hod hPl => ?_⟩
  have s03 := s02.trans s3
  -- many
  refine ⟨_, rfl, _, rfl, _, rfl, hd, _, rfl, (s2.trans s3).seq hHS, fun l1 hl1 => ?_⟩
  have s4 := same_new hl1 (.lst (cutV ((vec 4 y).map V.int) (some 1) (some 3)))
  refine ⟨_, rfl, l1, y 1, y 2, n, rfl, by rw [upd_same, cut12], by omega, fun m hmn => ?_⟩
  have s04 := s03.trans s4
  have hod4 := s4 _ _ hod
  have hP := hPl m hmn
  -- keep
  refine ⟨_, rfl, _, rfl, _, rfl, od, _, rfl, SqL.of hod4, fun kp hkp => ?_⟩
  rw [cut_hd hmn]
  have s5 := same_new hkp (.lst ((pv_ m ks).map V.int))
  have s05 := s04.trans s5
  have hkp5 : upd (upd H3 l1 (.lst (cutV ((vec 4 y).map V.int) (some 1) (some 3)))) kp (.lst ((pv_ m ks).map V.int)) kp = some (.lst ((pv_ m ks).map V.int)) := upd_same
  have s25 := s3.trans (s4.trans s5)
  have hod5 := s5 _ _ hod4
  generalize upd (upd H3 l1 (.lst (cutV ((vec 4 y).map V.int) (some 1) (some 3)))) kp (.lst ((pv_ m ks).map V.int)) = H5 at *
  have hKS := SqL.of (K := K) hkp5
  obtain ⟨c1, hc1⟩ : ∃ c, c = cellF ss 60 := ⟨_, rfl⟩
  obtain ⟨c2, hc2⟩ : ∃ c, c = cellF ss 61 := ⟨_, rfl⟩
  -- values
  refine ⟨_, rfl, a, ss, 60, rfl, s05.seq ha, by decide, by decide, _, rfl, kp, _, rfl, .inl hKS, ?_⟩
  rw [vec_lenV, ← hc1]
  refine ⟨c1, m, rfl, by omega, fun vl H6 s6 hvl vB => ?_⟩
  have s06 := s05.trans s6
  refine ⟨_, rfl, a, ss, 61, rfl, s06.seq ha, by decide, by decide, _, rfl, ?_⟩
  rw [← hc2]
  refine ⟨c2, n, rfl, n10, fun oa H7 s7 hoa oB => ?_⟩
  have s07 := s06.trans s7
  have s27 := s25.trans (s6.trans s7)
  have hdr7 := s27 _ _ hdr
  have htb7 := LTab.same s27 htb
  -- the form
  obtain ⟨rs, ht7, hl7, hrow7⟩ := id htb7
  refine ⟨_, rfl, dr, _, 0, _, rfl, rfl, SqL.of hdr7, at_pos (by decide) rfl, tb, rfl, ⟨_, SqL.of ht7⟩, fun LD hLD => ?_⟩
  refine lc_gm (walk_list (K := K) (a := tb) (xs := rs.map V.ref)) (RL LD) stb_RL (List.range n) (by rw [List.length_map, List.length_range]; exact hl7) (by rw [List.length_range]; omega) hLD (fun H' sw => sw.seq (SqL.of ht7)) (fun _ _ _ _ => ys_at) (fun i => vec n (M i)) (fun c i x H10 H11 hc s10 s11 yl hdl A B' hA => ?_) (fun H8 l8 s8 hl8 rz => ?_)
  · obtain ⟨hi, rfl⟩ := in_range hc
    obtain ⟨p, e1, e2⟩ := hrow7 i hi
    have e0 := yl.2
    rw [List.getElem?_map, e1] at e0
    cases e0
    obtain ⟨dl, hdl⟩ := hdl
    exact ⟨rfl, lc_yes ⟨_, rfl, p, _, rfl, .inl (SqL.of (s11 _ _ e2)), fun L2 hL2 => hA _ _ (same_new hL2 _) ⟨L2, rfl, fun z => (by rw [z, hdl] at hL2; cases hL2), upd_same⟩⟩⟩
  have tabL := LTab.of hl8 rz
  refine ⟨_, rfl, dr, _, 1, _, rfl, rfl, SqL.of (s8 _ _ hdr7), at_pos (by decide) rfl, rfl, rfl, fun f1 dx0 hfo hdx0 _ => mk_form (n := n) (R := M) hfo hdx0 tabL.sn dt.sym n10 (by have := dt.l1; omega) (dt.lB.mono (show 20 ≤ 9000 by decide)) (fun H9 s89 hF => ⟨rfl, ?_⟩)⟩
  have F1 := fat_mf hF
  have s79 := s8.trans s89
  have s09 := s07.trans s79
  have s29 := s27.trans s79
  clear hLD rz hl8 tabL hF
  have hdr9 := s79 _ _ hdr7
  have htb9 := LTab.same s79 htb7
  have hkp9 := ((s6.trans s7).trans s79) _ _ hkp5
  have hod9 := ((s6.trans s7).trans s79) _ _ hod5
  have hvl9 := (s7.trans s79) _ _ hvl
  have hoa9 := s79 _ _ hoa
  have hhd9 := (s2.trans s29) _ _ hhd1
  obtain ⟨jo, bn⟩ := dt.jok
  have mB := dt.mB
  have oB' : ∀ i, i < n → B 50 (ptF c2 i) := fun i hi => (oB i hi).mono (by decide)
  have hdt : ∀ {H'}, Same H9 H' → Sn K H' (.ref kp) (.tup ((pv_ m ks).map Td.int)) := fun s => .lst (s _ _ hkp9) (FzAll.of_ints _).sn
  refine ⟨_, rfl, dr, _, 0, _, rfl, rfl, SqL.of hdr9, at_pos (by decide) rfl, tb, n, 900, 2 ^ 70, MF n M l, cutT n M, rfl, ltab_cut htb9, jo, cut_out, cut_B fun i j hi hj => (dt.tB i j hi hj).mono (by decide), ⟨1, GF n M l, by decide, dt.g0, fun i j _ _ => by rw [Int.one_mul, dt.tie]⟩, fun sv H10 s910 hsv => ?_⟩
  rcases hsv with ⟨rl, S1, d1, B1, ps1, rfl, run1, hrl⟩ | ⟨rfl, k1, S1, d1, B1, ps1, hk1, run1, bd1⟩
  case inr =>
    have np : ¬ El.Psd n (MF n M l) := fun psd => by
      obtain ⟨Sx, dx, Bx, px, runx⟩ := psd.run jo.whole.sym (fun i j hj => jo.whole.2 i j hj) n (Nat.le_refl _)
      exact run_not_bd runx hk1 run1 bd1
    refine ⟨rfl, _, rfl, ifT rfl ?_⟩
    refine ⟨_, rfl, _, rfl, f1, .ref kp, n, m, 900, 20, BF n M l, 2 ^ 70, MF n M l, ks, rfl, F1.same s910, hdt s910, hP, jo, bn, fun i j => (mB i j).mono (by decide), dt.b0, dt.bB, by decide, by decide, np, fun z1 H11 s11 bz1 => ?_⟩
    have s911 := s910.trans s11
    refine ⟨_, rfl, _, rfl, kp, _, rfl, .inl ⟨SqL.of (s911 _ _ hkp9), fun t ht => ?_⟩⟩
    have s12 := same_new ht (.tup ((pv_ m ks).map V.int))
    have s912 := s911.trans s12
    refine ⟨_, rfl, f1, .ref t, .ref vl, n, m, 900, BF n M l, 2 ^ 70, MF n M l, ks, ptF c1, rfl, F1.same s912, .tup (SqT.of upd_same) (FzAll.of_ints _).sn, .lst (s912 _ _ hvl9) (FzAll.of_ints _).sn, hP, jo, bn, fun i j => (mB i j).mono (by decide), vB, np, fun z2 H13 s13 bz2 => ?_⟩
    have s913 := s912.trans s13
    refine ⟨two_line, fun LP hLP => ?_⟩
    have sL := same_new hLP (.lst [.ref z1, .ref z2])
    have s914 := s913.trans sL
    have b1 := (bz1.same (s12.trans s13)).same sL
    have b2 := bz2.same sL
    refine ⟨LP, rfl, ⟨_, SqL.of upd_same⟩, ?_⟩
    refine for_list (K := K) (a := LP) (xs := [.ref z1, .ref z2]) (fun i σ H' => ∃ v10 : Option V, σ = [some (.ref a), some (.ref hd), some (.ref dr), some (.int n), some (.ref od), some (.int m), some (.ref kp), some (.ref vl), some (.ref oa), some (.ref f1), v10, none, none, none] ∧ Same (upd H13 LP (.lst [.ref z1, .ref z2])) H') ⟨none, rfl, fun _ _ h => h⟩ (fun i σ H' _ ⟨_, _, sm⟩ => sm.seq (SqL.of upd_same)) ?_ ?_
    · rintro i x σ H14 hx ⟨v10, rfl, sm⟩
      have bx : ∃ z, x = .ref z ∧ Below K (upd H13 LP (.lst [.ref z1, .ref z2])) n (MF n M l) z := by
        match i, hx with
        | 0, hx => cases hx; exact ⟨z1, rfl, b1⟩
        | 1, hx => cases hx; exact ⟨z2, rfl, b2⟩
        | i + 2, hx => simp at hx
      obtain ⟨z, rfl, kx, Sx, dxx, Bx, psx, xx, hkx, runx, badx, htv⟩ := bx
      have hneg := bad_value jo runx hkx badx
      have hneg2 : El.Q n M (setd n psx xx) < 0 := by
        rw [Q_in (fun i j hi hj => dt.gt hi hj)]
        exact Int.mul_neg_of_pos_of_neg dt.g0 hneg
      refine ⟨_, rfl, _, rfl, z, n, setd n psx xx, rfl, Same_seqT sm htv, by omega, fun H15 s15 => ⟨true, rfl, ifF rfl ?_⟩⟩
      have s915 := s914.trans (sm.trans s15)
      refine ⟨_, rfl, dr, _, 0, _, rfl, rfl, SqL.of (s915 _ _ hdr9), at_pos (by decide) rfl, _, rfl, _, rfl, tb, .ref z, n, M, setd n psx xx, rfl, LTab.same s915 htb9, .tup (Same_seqT (sm.trans s15) htv) (FzAll.of_ints _).sn, by omega, fun i j hi hj => (dt.tB i j hi hj).mono (by decide), fun i _ => setd_B jo runx hkx badx i, fun H16 s16 => ⟨_, _, rfl, rfl, _, rfl, ifF (decide_eq_false (by omega)) ⟨_, rfl, sm.trans (s15.trans s16)⟩⟩⟩
    · rintro σ H14 ⟨v10, rfl, sm⟩
      exact q H14
  have psd : El.Psd n (MF n M l) := run1.psd jo.whole.sym
  refine ⟨rfl, _, rfl, ifF rfl ?_⟩
  -- the first question
  have qB : ∀ x : Int, 1 ≤ x → x ≤ 6 → 0 < x ∧ B 10 x := fun x h1 h2 => ⟨by omega, by show x.natAbs < 2 ^ 10; omega⟩
  obtain ⟨qa, qb⟩ := qB (1 + y 3) (by omega) (by omega)
  obtain ⟨q1a, q1b⟩ := qB 1 (by decide) (by decide)
  refine ⟨_, rfl, _, rfl, _, rfl, _, rfl, _, rfl, _, rfl, hd, _, 3, _, rfl, rfl, SqL.of (s910 _ _ hhd9), ixa (k := 3) (by decide) rfl (by decide), _, _, rfl, rfl, f1, dr, tb, oa, .ref kp, .ref vl, n, m, l, 1 + y 3, ptF c1, ptF c2, M, ks, rfl, F1.same s910, s910 _ _ hdr9, LTab.same s910 htb9, hdt s910, .lst (s910 _ _ hvl9) (FzAll.of_ints _).sn, s910 _ _ hoa9, hP, dt, psd, vB, oB', qa, qb, fun H11 s11 => ⟨true, rfl, ifF rfl ?_⟩⟩
  have s911 := s910.trans s11
  -- turned
  refine ⟨_, rfl, kp, _, rfl, SqL.of (s911 _ _ hkp9), fun p1 hp1 => ⟨p1, _, rfl, .inl ⟨SqL.of upd_same, fun t1 ht1 => ?_⟩⟩⟩
  rw [vec_rev]
  rw [vec_rev] at ht1
  have sT1 := (same_new hp1 (.lst ((pv_ m fun a => ks (m - 1 - a)).map V.int))).trans (same_new ht1 (.tup ((pv_ m fun a => ks (m - 1 - a)).map V.int)))
  have hT1 : upd (upd H11 p1 (.lst ((pv_ m fun a => ks (m - 1 - a)).map V.int))) t1 (.tup ((pv_ m fun a => ks (m - 1 - a)).map V.int)) t1 = some (.tup ((pv_ m fun a => ks (m - 1 - a)).map V.int)) := upd_same
  have s912 := s911.trans sT1
  show gName 11 (V.ref t1) _ (upd (upd H11 p1 (.lst ((pv_ m fun a => ks (m - 1 - a)).map V.int))) t1 (.tup ((pv_ m fun a => ks (m - 1 - a)).map V.int))) _
  generalize upd (upd H11 p1 (.lst ((pv_ m fun a => ks (m - 1 - a)).map V.int))) t1 (.tup ((pv_ m fun a => ks (m - 1 - a)).map V.int)) = H12 at *
  refine ⟨_, rfl, _, rfl, _, rfl, _, rfl, vl, _, rfl, SqL.of (s912 _ _ hvl9), fun p2 hp2 => ⟨p2, _, rfl, .inl ⟨SqL.of upd_same, fun t2 ht2 => ?_⟩⟩⟩
  rw [vec_rev]
  rw [vec_rev] at ht2
  have sT2 := (same_new hp2 (.lst ((vec m fun a => ptF c1 (m - 1 - a)).map V.int))).trans (same_new ht2 (.tup ((vec m fun a => ptF c1 (m - 1 - a)).map V.int)))
  have s913 := s912.trans sT2
  refine ⟨_, rfl, f1, dr, tb, oa, .ref t1, .ref t2, n, m, l, 1, (fun a => ptF c1 (m - 1 - a)), ptF c2, M, (fun a => ks (m - 1 - a)), rfl, F1.same s913, s913 _ _ hdr9, LTab.same s913 htb9, .tup (SqT.of (sT2 _ _ hT1)) (FzAll.of_ints _).sn, .tup (SqT.of upd_same) (FzAll.of_ints _).sn, s913 _ _ hoa9, rev_pl hP, dt, psd, fun a ha => vB _ (by omega), oB', q1a, q1b, fun H14 s14 => ⟨true, rfl, ifF rfl ?_⟩⟩
  have s914 := s913.trans s14
  -- the other point's numbers
  refine ⟨_, rfl, _, rfl, _, rfl, kp, _, rfl, .inl ⟨SqL.of (s914 _ _ hkp9), fun t3 ht3 => ?_⟩⟩
  have sT3 := same_new ht3 (.tup ((pv_ m ks).map V.int))
  have s915 := s914.trans sT3
  have hkS := SqL.of (K := K) (s915 _ _ hkp9)
  refine ⟨_, rfl, kp, rfl, ⟨_, hkS⟩, fun D hD => ?_⟩
  refine lc_m (walk_list (K := K) (a := kp) (xs := (pv_ m ks).map V.int)) RI (stb_RI (K := K)) (List.range m) (by rw [vec_lenV, List.length_range]) (by rw [List.length_range]; omega) hD (fun H' s => s.seq hkS) (fun _ _ _ _ => ys_at) (fun a => ptF c2 (ks a)) (fun c i x H16 H17 hc s16 s17 yl A B3 hA => ?_) (fun H16 l16 s16 hl16 rz16 => ?_)
  · obtain ⟨hi, rfl⟩ := in_range hc
    obtain ⟨_, rfl⟩ := pv_el yl.2
    exact ⟨rfl, lc_yes ⟨_, rfl, _, rfl, oa, _, _, _, rfl, rfl, SqL.of ((s915.trans s17) _ _ hoa9), atI_nat (vecV_at (hP.k i hi)), hA _ _ (fun _ _ h => h) rfl⟩⟩
  have hD16 : H16 D = some (.lst ((vec m fun a => ptF c2 (ks a)).map V.int)) := by rw [hl16, rz16.ints]; rfl
  have s916 := s915.trans s16
  refine ⟨_, rfl, f1, dr, tb, oa, .ref t3, .ref D, n, m, l, 1, (fun a => ptF c2 (ks a)), ptF c2, M, ks, rfl, F1.same s916, s916 _ _ hdr9, LTab.same s916 htb9, .tup (Same_seqT s16 (SqT.of upd_same)) (FzAll.of_ints _).sn, .lst hD16 (FzAll.of_ints _).sn, s916 _ _ hoa9, hP, dt, psd, fun a ha => oB _ (hP.k a ha), oB', q1a, q1b, fun H17 s17 => ⟨true, rfl, ifF rfl ?_⟩⟩
  have s917 := s916.trans s17
  -- what was drawn stands
  refine ⟨_, rfl, _, rfl, _, rfl, _, rfl, od, _, rfl, SqL.of (s917 _ _ hod9), fun p4 hp4 => ?_⟩
  rw [cut_hd hmn]
  have sT4 := same_new hp4 (.lst ((pv_ m ks).map V.int))
  have s918 := s917.trans sT4
  refine ⟨.list (ipy (pv_ m ks)), .list (ipy (pv_ m ks)), .lst (SqL.of (s918 _ _ hkp9)) (dp_ints _), .lst (SqL.of upd_same) (dp_ints _), list_shaped _, list_shaped _, ?_⟩
  rw [eqv_self (list_shaped _)]
  refine ⟨_, rfl, ifF rfl ?_⟩
  refine ⟨_, rfl, _, rfl, a, ss, 60, rfl, (s09.trans s918).seq ha, by decide, by decide, _, rfl, kp, _, rfl, .inl (SqL.of (s918 _ _ hkp9)), ?_⟩
  rw [vec_lenV, ← hc1]
  refine ⟨c1, m, rfl, by omega, fun p5 H19 s19 hp5 _ => ?_⟩
  have s919 := s918.trans s19
  refine ⟨.list (ipy (vec m (ptF c1))), .list (ipy (vec m (ptF c1))), .lst (SqL.of (s919 _ _ hvl9)) (dp_ints _), .lst (SqL.of hp5) (dp_ints _), list_shaped _, list_shaped _, ?_⟩
  rw [eqv_self (list_shaped _)]
  refine ⟨_, rfl, ifF rfl ?_⟩
  -- once more
  exact ⟨_, rfl, _, rfl, _, rfl, _, rfl, _, rfl, _, rfl, hd, _, 3, _, rfl, rfl, SqL.of (s919 _ _ hhd9), ixa (k := 3) (by decide) rfl (by decide), _, _, rfl, rfl, f1, dr, tb, oa, .ref kp, .ref vl, n, m, l, 1 + y 3, ptF c1, ptF c2, M, ks, rfl, F1.same s919, s919 _ _ hdr9, LTab.same s919 htb9, hdt s919, .lst (s919 _ _ hvl9) (FzAll.of_ints _).sn, s919 _ _ hoa9, hP, dt, psd, vB, oB', qa, qb, fun H20 _ => q H20⟩
end
end P09
namespace P09
open PySem PySem.Spec PyProof.Rows L2 SX EX WK
section
variable {P : Program} {w : World} {K : PySem.W.Frag} {mg : Str → Option Value} {base : Heap} {f : Addr} {fd : FuncData}
theorem kb_Form (F : FunD K "__init__" "Form.__init__" (defArgs s_iForm) (defBody s_iForm) (defScope s_iForm) [] [("bottom", V.int 1)] f fd) : ∃ g, KBn K fd ["self", "entries", "bottom"] 2 ["bottom"] g (fun vs zs => vs ++ zs) := by
  obtain ⟨mv, h⟩ := F.kbinds0 (ps := ["self", "entries", "bottom"]) 2 ["bottom"] [] (fun a _ c => a ++ c) (by simp) (fun q h => nomatch h) (fun r _ t => r.append t) (fun D doc pm an cdv ct us mv ws h1 h2 h3 => match us, mv, ws, h1, h2, h3 with
    | [_, _], [], [_], _, _, _ => rfl)
  exact ⟨_, h⟩
theorem kb_FormL (F : FunD K "__init__" "Form.__init__" (defArgs s_iForm) (defBody s_iForm) (defScope s_iForm) [] [("bottom", V.int 1)] f fd) : ∃ g, KBn K fd ["self", "entries", "bottom"] 2 [] g (fun vs _ => vs ++ [V.int 1]) := by
  obtain ⟨mv, h⟩ := F.kbinds0 (ps := ["self", "entries", "bottom"]) 2 [] [("bottom", V.int 1)] (fun a m _ => a ++ m) (by simp) (fun q h => h) (fun r m _ => r.append m) (fun D doc pm an cdv ct us mv ws h1 h2 h3 => match us, mv, ws, h1, h2, h3 with
    | [_, _], [_], [], _, _, _ => ⟨_, _, _, _, _, _, rfl, rfl, rfl⟩)
  exact ⟨_, h⟩
theorem funD_of {x qual : Str} {st : Stmt} {D : Addr} {od an : Option Addr} {sl : Array (Option Value)} {oc dc pm cd ct : Value} {tk : Tok} (l : K.lookup f = some ⟨oc, od, .func (PySem.W.fnOf x qual (defArgs st) (defBody st) (defScope st) .none (.ref D) dc pm an cd ct), sl⟩) (c : PySem.W.codeIn K cd qual = true) (k : PySem.W.keepIn K (.ref f) = true)
    (d : PySem.W.nsIn K D "bottom" = some (some (.int 1 tk))) : FunD K x qual (defArgs st) (defBody st) (defScope st) [] [("bottom", V.int 1)] f (PySem.W.fnOf x qual (defArgs st) (defBody st) (defScope st) .none (.ref D) dc pm an cd ct) :=
  ⟨⟨_, _, _, _, _, _, _, _, _, _, rfl, l, c, .inl ⟨rfl, rfl⟩, .inr ⟨D, rfl, fun q hq => by rw [List.mem_singleton.mp hq]; exact ⟨_, d, _, rfl⟩⟩⟩, k⟩
end
end P09
namespace P09
open PySem PySem.Spec PyProof.Rows L2 SX EX WK
theorem all_mk {l : PySem.W.OpenLaw} {w : World} {K : PySem.W.Frag} {h : Heap} {mg : Str → Option Value} {fa f1 f2 f3 f4 f5 f6 f7 f8 f9 f10 f11 f12 f13 f14 f15 f16 f17 f18 f19 f20 f21 f22 f23 f24 f25 f26 f27 f28 f29 f30 f31 f32 f33 f34 f35 f36 f37 f38 f39 f40 f41 f42 f43 f44 f45 f46 f47 f48 f49 f50 f51 c_CableError c_SizesDiffer c_BelowZero c_BadRow c_Form : Addr} (X : K.In h) (G : h.Ns mainGlobals mg) (hfa : mg "law" = some (.ref fa))
    {od1 an1 od2 an2 od3 an3 od4 an4 od5 an5 od6 an6 od7 an7 od8 an8 od9 an9 od10 an10 od11 an11 od12 an12 od13 an13 od14 an14 od15 an15 od16 an16 od17 an17 od18 an18 od19 an19 od20 an20 od21 an21 od22 an22 od23 an23 od24 an24 od25 an25 od26 an26 od27 an27 od28 an28 od29 an29 od30 an30 od31 an31 od32 an32 od33 an33 od34 an34 od35 an35 od36 an36 od37 an37 od38 an38 od39 an39 od40 an40 od41 an41 od42 an42 od43 an43 od44 an44 od45 an45 od46 an46 od47 an47 od48 an48 od49 an49 od50 an50 od51 an51 : Option Addr}
    {sl1 sl2 sl3 sl4 sl5 sl6 sl7 sl8 sl9 sl10 sl11 sl12 sl13 sl14 sl15 sl16 sl17 sl18 sl19 sl20 sl21 sl22 sl23 sl24 sl25 sl26 sl27 sl28 sl29 sl30 sl31 sl32 sl33 sl34 sl35 sl36 sl37 sl38 sl39 sl40 sl41 sl42 sl43 sl44 sl45 sl46 sl47 sl48 sl49 sl50 sl51 : Array (Option Value)} {oc1 kV1 dc1 pm1 cd1 ct1 oc2 kV2 dc2 pm2 cd2 ct2 oc3 kV3 dc3 pm3 cd3 ct3 oc4 kV4 dc4 pm4 cd4 ct4 oc5 kV5 dc5 pm5 cd5 ct5 oc6 kV6 dc6 pm6 cd6 ct6 oc7 kV7 dc7 pm7 cd7 ct7 oc8 kV8 dc8 pm8 cd8 ct8 oc9 kV9 dc9 pm9 cd9 ct9 oc10 kV10 dc10 pm10 cd10 ct10 oc11 kV11 dc11 pm11 cd11 ct11 oc12 kV12 dc12 pm12 cd12 ct12 oc13 kV13 dc13 pm13 cd13 ct13 oc14 kV14 dc14 pm14 cd14 ct14 oc15 kV15 dc15 pm15 cd15 ct15 oc16 kV16 dc16 pm16 cd16 ct16 oc17 kV17 dc17 pm17 cd17 ct17 oc18 kV18 dc18 pm18 cd18 ct18 oc19 kV19 dc19 pm19 cd19 ct19 oc20 kV20 dc20 pm20 cd20 ct20 oc21 kV21 dc21 pm21 cd21 ct21 oc22 kV22 dc22 pm22 cd22 ct22 oc23 kV23 dc23 pm23 cd23 ct23 oc24 kV24 dc24 pm24 cd24 ct24 oc25 kV25 dc25 pm25 cd25 ct25 oc26 kV26 dc26 pm26 cd26 ct26 oc27 kV27 dc27 pm27 cd27 ct27 oc28 kV28 dc28 pm28 cd28 ct28 oc29 kV29 dc29 pm29 cd29 ct29 oc30 kV30 dc30 pm30 cd30 ct30 oc31 kV31 dc31 pm31 cd31 ct31 oc32 kV32 dc32 pm32 cd32 ct32 oc33 kV33 dc33 pm33 cd33 ct33 oc34 kV34 dc34 pm34 cd34 ct34 oc35 kV35 dc35 pm35 cd35 ct35 oc36 kV36 dc36 pm36 cd36 ct36 oc37 kV37 dc37 pm37 cd37 ct37 oc38 kV38 dc38 pm38 cd38 ct38 oc39 kV39 dc39 pm39 cd39 ct39 oc40 kV40 dc40 pm40 cd40 ct40 oc41 kV41 dc41 pm41 cd41 ct41 oc42 kV42 dc42 pm42 cd42 ct42 oc43 kV43 dc43 pm43 cd43 ct43 oc44 kV44 dc44 pm44 cd44 ct44 oc45 kV45 dc45 pm45 cd45 ct45 oc46 kV46 dc46 pm46 cd46 ct46 oc47 kV47 dc47 pm47 cd47 ct47 oc48 kV48 dc48 pm48 cd48 ct48 oc49 kV49 dc49 pm49 cd49 ct49 oc50 kV50 dc50 pm50 cd50 ct50 oc51 kV51 dc51 pm51 cd51 ct51 : Value}
    {nm_BelowZero q_BelowZero : Str} {N_BelowZero : Addr} {bs_BelowZero sub_BelowZero : List Value} {sn_BelowZero : List Str} {ab_BelowZero : Bool} {col_BelowZero : Option Bool} {dd_BelowZero : Option Addr} {m0_BelowZero m1_BelowZero m2_BelowZero m3_BelowZero m5_BelowZero : Option Value}
    {f_BelowZero : Addr} {odi_BelowZero ani_BelowZero : Option Addr} {sli_BelowZero : Array (Option Value)} {oci_BelowZero kVi_BelowZero dci_BelowZero pmi_BelowZero cdi_BelowZero cti_BelowZero : Value}
    {f_Form D_Form : Addr} {odi_Form ani_Form : Option Addr} {sli_Form : Array (Option Value)} {oci_Form dci_Form pmi_Form cdi_Form cti_Form : Value} {tki_Form : Tok}
    {h_mcall : Addr} {odm_mcall anm_mcall : Option Addr} {slm_mcall : Array (Option Value)} {ocm_mcall kVm_mcall dcm_mcall pmm_mcall cdm_mcall ctm_mcall : Value}
    {h_mbetween : Addr} {odm_mbetween anm_mbetween : Option Addr} {slm_mbetween : Array (Option Value)} {ocm_mbetween kVm_mbetween dcm_mbetween pmm_mbetween cdm_mbetween ctm_mbetween : Value}
    {h_mat : Addr} {odm_mat anm_mat : Option Addr} {slm_mat : Array (Option Value)} {ocm_mat kVm_mat dcm_mat pmm_mat cdm_mat ctm_mat : Value}
    (a1 : PySem.W.nsIn K mainGlobals "frozen_numbers" = some (some (.ref f1))) (l1 : K.lookup f1 = some ⟨oc1, od1, .func (PySem.W.fnOf "frozen_numbers" "frozen_numbers" (defArgs s_frozen_numbers) (defBody s_frozen_numbers) (defScope s_frozen_numbers) .none kV1 dc1 pm1 an1 cd1 ct1), sl1⟩) (c1 : PySem.W.codeIn K cd1 "frozen_numbers" = true) (k1 : PySem.W.keepIn K (.ref f1) = true)
    (a2 : PySem.W.nsIn K mainGlobals "frozen_part" = some (some (.ref f2))) (l2 : K.lookup f2 = some ⟨oc2, od2, .func (PySem.W.fnOf "frozen_part" "frozen_part" (defArgs s_frozen_part) (defBody s_frozen_part) (defScope s_frozen_part) .none kV2 dc2 pm2 an2 cd2 ct2), sl2⟩) (c2 : PySem.W.codeIn K cd2 "frozen_part" = true) (k2 : PySem.W.keepIn K (.ref f2) = true)
    (a3 : PySem.W.nsIn K mainGlobals "frozen" = some (some (.ref f3))) (l3 : K.lookup f3 = some ⟨oc3, od3, .func (PySem.W.fnOf "frozen" "frozen" (defArgs s_frozen) (defBody s_frozen) (defScope s_frozen) .none kV3 dc3 pm3 an3 cd3 ct3), sl3⟩) (c3 : PySem.W.codeIn K cd3 "frozen" = true) (k3 : PySem.W.keepIn K (.ref f3) = true)
    (a4 : PySem.W.nsIn K mainGlobals "lowered" = some (some (.ref f4))) (l4 : K.lookup f4 = some ⟨oc4, od4, .func (PySem.W.fnOf "lowered" "lowered" (defArgs s_lowered) (defBody s_lowered) (defScope s_lowered) .none kV4 dc4 pm4 an4 cd4 ct4), sl4⟩) (c4 : PySem.W.codeIn K cd4 "lowered" = true) (k4 : PySem.W.keepIn K (.ref f4) = true)
    (a5 : PySem.W.nsIn K mainGlobals "fraction" = some (some (.ref f5))) (l5 : K.lookup f5 = some ⟨oc5, od5, .func (PySem.W.fnOf "fraction" "fraction" (defArgs s_fraction) (defBody s_fraction) (defScope s_fraction) .none kV5 dc5 pm5 an5 cd5 ct5), sl5⟩) (c5 : PySem.W.codeIn K cd5 "fraction" = true) (k5 : PySem.W.keepIn K (.ref f5) = true)
    (a6 : PySem.W.nsIn K mainGlobals "vector" = some (some (.ref f6))) (l6 : K.lookup f6 = some ⟨oc6, od6, .func (PySem.W.fnOf "vector" "vector" (defArgs s_vector) (defBody s_vector) (defScope s_vector) .none kV6 dc6 pm6 an6 cd6 ct6), sl6⟩) (c6 : PySem.W.codeIn K cd6 "vector" = true) (k6 : PySem.W.keepIn K (.ref f6) = true)
    (a7 : PySem.W.nsIn K mainGlobals "dot" = some (some (.ref f7))) (l7 : K.lookup f7 = some ⟨oc7, od7, .func (PySem.W.fnOf "dot" "dot" (defArgs s_dot) (defBody s_dot) (defScope s_dot) .none kV7 dc7 pm7 an7 cd7 ct7), sl7⟩) (c7 : PySem.W.codeIn K cd7 "dot" = true) (k7 : PySem.W.keepIn K (.ref f7) = true)
    (a8 : PySem.W.nsIn K mainGlobals "check_square" = some (some (.ref f8))) (l8 : K.lookup f8 = some ⟨oc8, od8, .func (PySem.W.fnOf "check_square" "check_square" (defArgs s_check_square) (defBody s_check_square) (defScope s_check_square) .none kV8 dc8 pm8 an8 cd8 ct8), sl8⟩) (c8 : PySem.W.codeIn K cd8 "check_square" = true) (k8 : PySem.W.keepIn K (.ref f8) = true)
    (a9 : PySem.W.nsIn K mainGlobals "check_symmetric" = some (some (.ref f9))) (l9 : K.lookup f9 = some ⟨oc9, od9, .func (PySem.W.fnOf "check_symmetric" "check_symmetric" (defArgs s_check_symmetric) (defBody s_check_symmetric) (defScope s_check_symmetric) .none kV9 dc9 pm9 an9 cd9 ct9), sl9⟩) (c9 : PySem.W.codeIn K cd9 "check_symmetric" = true) (k9 : PySem.W.keepIn K (.ref f9) = true)
    (a10 : PySem.W.nsIn K mainGlobals "check_point" = some (some (.ref f10))) (l10 : K.lookup f10 = some ⟨oc10, od10, .func (PySem.W.fnOf "check_point" "check_point" (defArgs s_check_point) (defBody s_check_point) (defScope s_check_point) .none kV10 dc10 pm10 an10 cd10 ct10), sl10⟩) (c10 : PySem.W.codeIn K cd10 "check_point" = true) (k10 : PySem.W.keepIn K (.ref f10) = true)
    (a11 : PySem.W.nsIn K mainGlobals "unit_point" = some (some (.ref f11))) (l11 : K.lookup f11 = some ⟨oc11, od11, .func (PySem.W.fnOf "unit_point" "unit_point" (defArgs s_unit_point) (defBody s_unit_point) (defScope s_unit_point) .none kV11 dc11 pm11 an11 cd11 ct11), sl11⟩) (c11 : PySem.W.codeIn K cd11 "unit_point" = true) (k11 : PySem.W.keepIn K (.ref f11) = true)
    (a12 : PySem.W.nsIn K mainGlobals "side_index" = some (some (.ref f12))) (l12 : K.lookup f12 = some ⟨oc12, od12, .func (PySem.W.fnOf "side_index" "side_index" (defArgs s_side_index) (defBody s_side_index) (defScope s_side_index) .none kV12 dc12 pm12 an12 cd12 ct12), sl12⟩) (c12 : PySem.W.codeIn K cd12 "side_index" = true) (k12 : PySem.W.keepIn K (.ref f12) = true)
    (a13 : PySem.W.nsIn K mainGlobals "bad_point" = some (some (.ref f13))) (l13 : K.lookup f13 = some ⟨oc13, od13, .func (PySem.W.fnOf "bad_point" "bad_point" (defArgs s_bad_point) (defBody s_bad_point) (defScope s_bad_point) .none kV13 dc13 pm13 an13 cd13 ct13), sl13⟩) (c13 : PySem.W.codeIn K cd13 "bad_point" = true) (k13 : PySem.W.keepIn K (.ref f13) = true)
    (a14 : PySem.W.nsIn K mainGlobals "reduced" = some (some (.ref f14))) (l14 : K.lookup f14 = some ⟨oc14, od14, .func (PySem.W.fnOf "reduced" "reduced" (defArgs s_reduced) (defBody s_reduced) (defScope s_reduced) .none kV14 dc14 pm14 an14 cd14 ct14), sl14⟩) (c14 : PySem.W.codeIn K cd14 "reduced" = true) (k14 : PySem.W.keepIn K (.ref f14) = true)
    (a15 : PySem.W.nsIn K mainGlobals "eliminated" = some (some (.ref f15))) (l15 : K.lookup f15 = some ⟨oc15, od15, .func (PySem.W.fnOf "eliminated" "eliminated" (defArgs s_eliminated) (defBody s_eliminated) (defScope s_eliminated) .none kV15 dc15 pm15 an15 cd15 ct15), sl15⟩) (c15 : PySem.W.codeIn K cd15 "eliminated" = true) (k15 : PySem.W.keepIn K (.ref f15) = true)
    (a16 : PySem.W.nsIn K mainGlobals "settled" = some (some (.ref f16))) (l16 : K.lookup f16 = some ⟨oc16, od16, .func (PySem.W.fnOf "settled" "settled" (defArgs s_settled) (defBody s_settled) (defScope s_settled) .none kV16 dc16 pm16 an16 cd16 ct16), sl16⟩) (c16 : PySem.W.codeIn K cd16 "settled" = true) (k16 : PySem.W.keepIn K (.ref f16) = true)
    (a17 : PySem.W.nsIn K mainGlobals "checked" = some (some (.ref f17))) (l17 : K.lookup f17 = some ⟨oc17, od17, .func (PySem.W.fnOf "checked" "checked" (defArgs s_checked) (defBody s_checked) (defScope s_checked) .none kV17 dc17 pm17 an17 cd17 ct17), sl17⟩) (c17 : PySem.W.codeIn K cd17 "checked" = true) (k17 : PySem.W.keepIn K (.ref f17) = true)
    (a18 : PySem.W.nsIn K mainGlobals "leads" = some (some (.ref f18))) (l18 : K.lookup f18 = some ⟨oc18, od18, .func (PySem.W.fnOf "leads" "leads" (defArgs s_leads) (defBody s_leads) (defScope s_leads) .none kV18 dc18 pm18 an18 cd18 ct18), sl18⟩) (c18 : PySem.W.codeIn K cd18 "leads" = true) (k18 : PySem.W.keepIn K (.ref f18) = true)
    (a19 : PySem.W.nsIn K mainGlobals "cleared" = some (some (.ref f19))) (l19 : K.lookup f19 = some ⟨oc19, od19, .func (PySem.W.fnOf "cleared" "cleared" (defArgs s_cleared) (defBody s_cleared) (defScope s_cleared) .none kV19 dc19 pm19 an19 cd19 ct19), sl19⟩) (c19 : PySem.W.codeIn K cd19 "cleared" = true) (k19 : PySem.W.keepIn K (.ref f19) = true)
    (a20 : PySem.W.nsIn K mainGlobals "block_inverse" = some (some (.ref f20))) (l20 : K.lookup f20 = some ⟨oc20, od20, .func (PySem.W.fnOf "block_inverse" "block_inverse" (defArgs s_block_inverse) (defBody s_block_inverse) (defScope s_block_inverse) .none kV20 dc20 pm20 an20 cd20 ct20), sl20⟩) (c20 : PySem.W.codeIn K cd20 "block_inverse" = true) (k20 : PySem.W.keepIn K (.ref f20) = true)
    (a21 : PySem.W.nsIn K mainGlobals "settling" = some (some (.ref f21))) (l21 : K.lookup f21 = some ⟨oc21, od21, .func (PySem.W.fnOf "settling" "settling" (defArgs s_settling) (defBody s_settling) (defScope s_settling) .none kV21 dc21 pm21 an21 cd21 ct21), sl21⟩) (c21 : PySem.W.codeIn K cd21 "settling" = true) (k21 : PySem.W.keepIn K (.ref f21) = true)
    (a22 : PySem.W.nsIn K mainGlobals "cross" = some (some (.ref f22))) (l22 : K.lookup f22 = some ⟨oc22, od22, .func (PySem.W.fnOf "cross" "cross" (defArgs s_cross) (defBody s_cross) (defScope s_cross) .none kV22 dc22 pm22 an22 cd22 ct22), sl22⟩) (c22 : PySem.W.codeIn K cd22 "cross" = true) (k22 : PySem.W.keepIn K (.ref f22) = true)
    (a23 : PySem.W.nsIn K mainGlobals "seen_from" = some (some (.ref f23))) (l23 : K.lookup f23 = some ⟨oc23, od23, .func (PySem.W.fnOf "seen_from" "seen_from" (defArgs s_seen_from) (defBody s_seen_from) (defScope s_seen_from) .none kV23 dc23 pm23 an23 cd23 ct23), sl23⟩) (c23 : PySem.W.codeIn K cd23 "seen_from" = true) (k23 : PySem.W.keepIn K (.ref f23) = true)
    (a24 : PySem.W.nsIn K mainGlobals "filled" = some (some (.ref f24))) (l24 : K.lookup f24 = some ⟨oc24, od24, .func (PySem.W.fnOf "filled" "filled" (defArgs s_filled) (defBody s_filled) (defScope s_filled) .none kV24 dc24 pm24 an24 cd24 ct24), sl24⟩) (c24 : PySem.W.codeIn K cd24 "filled" = true) (k24 : PySem.W.keepIn K (.ref f24) = true)
    (a25 : PySem.W.nsIn K mainGlobals "_law_whole" = some (some (.ref f25))) (l25 : K.lookup f25 = some ⟨oc25, od25, .func (PySem.W.fnOf "_law_whole" "_law_whole" (defArgs s__law_whole) (defBody s__law_whole) (defScope s__law_whole) .none kV25 dc25 pm25 an25 cd25 ct25), sl25⟩) (c25 : PySem.W.codeIn K cd25 "_law_whole" = true) (k25 : PySem.W.keepIn K (.ref f25) = true)
    (a26 : PySem.W.nsIn K mainGlobals "_law_cell" = some (some (.ref f26))) (l26 : K.lookup f26 = some ⟨oc26, od26, .func (PySem.W.fnOf "_law_cell" "_law_cell" (defArgs s__law_cell) (defBody s__law_cell) (defScope s__law_cell) .none kV26 dc26 pm26 an26 cd26 ct26), sl26⟩) (c26 : PySem.W.codeIn K cd26 "_law_cell" = true) (k26 : PySem.W.keepIn K (.ref f26) = true)
    (a27 : PySem.W.nsIn K mainGlobals "_law_digits" = some (some (.ref f27))) (l27 : K.lookup f27 = some ⟨oc27, od27, .func (PySem.W.fnOf "_law_digits" "_law_digits" (defArgs s__law_digits) (defBody s__law_digits) (defScope s__law_digits) .none kV27 dc27 pm27 an27 cd27 ct27), sl27⟩) (c27 : PySem.W.codeIn K cd27 "_law_digits" = true) (k27 : PySem.W.keepIn K (.ref f27) = true)
    (a28 : PySem.W.nsIn K mainGlobals "_law_gcd" = some (some (.ref f28))) (l28 : K.lookup f28 = some ⟨oc28, od28, .func (PySem.W.fnOf "_law_gcd" "_law_gcd" (defArgs s__law_gcd) (defBody s__law_gcd) (defScope s__law_gcd) .none kV28 dc28 pm28 an28 cd28 ct28), sl28⟩) (c28 : PySem.W.codeIn K cd28 "_law_gcd" = true) (k28 : PySem.W.keepIn K (.ref f28) = true)
    (a29 : PySem.W.nsIn K mainGlobals "_law_is_fraction" = some (some (.ref f29))) (l29 : K.lookup f29 = some ⟨oc29, od29, .func (PySem.W.fnOf "_law_is_fraction" "_law_is_fraction" (defArgs s__law_is_fraction) (defBody s__law_is_fraction) (defScope s__law_is_fraction) .none kV29 dc29 pm29 an29 cd29 ct29), sl29⟩) (c29 : PySem.W.codeIn K cd29 "_law_is_fraction" = true) (k29 : PySem.W.keepIn K (.ref f29) = true)
    (a30 : PySem.W.nsIn K mainGlobals "_law_is_point" = some (some (.ref f30))) (l30 : K.lookup f30 = some ⟨oc30, od30, .func (PySem.W.fnOf "_law_is_point" "_law_is_point" (defArgs s__law_is_point) (defBody s__law_is_point) (defScope s__law_is_point) .none kV30 dc30 pm30 an30 cd30 ct30), sl30⟩) (c30 : PySem.W.codeIn K cd30 "_law_is_point" = true) (k30 : PySem.W.keepIn K (.ref f30) = true)
    (a31 : PySem.W.nsIn K mainGlobals "_law_is_vector" = some (some (.ref f31))) (l31 : K.lookup f31 = some ⟨oc31, od31, .func (PySem.W.fnOf "_law_is_vector" "_law_is_vector" (defArgs s__law_is_vector) (defBody s__law_is_vector) (defScope s__law_is_vector) .none kV31 dc31 pm31 an31 cd31 ct31), sl31⟩) (c31 : PySem.W.codeIn K cd31 "_law_is_vector" = true) (k31 : PySem.W.keepIn K (.ref f31) = true)
    (a32 : PySem.W.nsIn K mainGlobals "_law_dot" = some (some (.ref f32))) (l32 : K.lookup f32 = some ⟨oc32, od32, .func (PySem.W.fnOf "_law_dot" "_law_dot" (defArgs s__law_dot) (defBody s__law_dot) (defScope s__law_dot) .none kV32 dc32 pm32 an32 cd32 ct32), sl32⟩) (c32 : PySem.W.codeIn K cd32 "_law_dot" = true) (k32 : PySem.W.keepIn K (.ref f32) = true)
    (a33 : PySem.W.nsIn K mainGlobals "_law_table" = some (some (.ref f33))) (l33 : K.lookup f33 = some ⟨oc33, od33, .func (PySem.W.fnOf "_law_table" "_law_table" (defArgs s__law_table) (defBody s__law_table) (defScope s__law_table) .none kV33 dc33 pm33 an33 cd33 ct33), sl33⟩) (c33 : PySem.W.codeIn K cd33 "_law_table" = true) (k33 : PySem.W.keepIn K (.ref f33) = true)
    (a34 : PySem.W.nsIn K mainGlobals "_law_value" = some (some (.ref f34))) (l34 : K.lookup f34 = some ⟨oc34, od34, .func (PySem.W.fnOf "_law_value" "_law_value" (defArgs s__law_value) (defBody s__law_value) (defScope s__law_value) .none kV34 dc34 pm34 an34 cd34 ct34), sl34⟩) (c34 : PySem.W.codeIn K cd34 "_law_value" = true) (k34 : PySem.W.keepIn K (.ref f34) = true)
    (a35 : PySem.W.nsIn K mainGlobals "_law_leads" = some (some (.ref f35))) (l35 : K.lookup f35 = some ⟨oc35, od35, .func (PySem.W.fnOf "_law_leads" "_law_leads" (defArgs s__law_leads) (defBody s__law_leads) (defScope s__law_leads) .none kV35 dc35 pm35 an35 cd35 ct35), sl35⟩) (c35 : PySem.W.codeIn K cd35 "_law_leads" = true) (k35 : PySem.W.keepIn K (.ref f35) = true)
    (a36 : PySem.W.nsIn K mainGlobals "_law_draw_row" = some (some (.ref f36))) (l36 : K.lookup f36 = some ⟨oc36, od36, .func (PySem.W.fnOf "_law_draw_row" "_law_draw_row" (defArgs s__law_draw_row) (defBody s__law_draw_row) (defScope s__law_draw_row) .none kV36 dc36 pm36 an36 cd36 ct36), sl36⟩) (c36 : PySem.W.codeIn K cd36 "_law_draw_row" = true) (k36 : PySem.W.keepIn K (.ref f36) = true)
    (a37 : PySem.W.nsIn K mainGlobals "_law_draw_weight" = some (some (.ref f37))) (l37 : K.lookup f37 = some ⟨oc37, od37, .func (PySem.W.fnOf "_law_draw_weight" "_law_draw_weight" (defArgs s__law_draw_weight) (defBody s__law_draw_weight) (defScope s__law_draw_weight) .none kV37 dc37 pm37 an37 cd37 ct37), sl37⟩) (c37 : PySem.W.codeIn K cd37 "_law_draw_weight" = true) (k37 : PySem.W.keepIn K (.ref f37) = true)
    (a38 : PySem.W.nsIn K mainGlobals "_law_draw_long" = some (some (.ref f38))) (l38 : K.lookup f38 = some ⟨oc38, od38, .func (PySem.W.fnOf "_law_draw_long" "_law_draw_long" (defArgs s__law_draw_long) (defBody s__law_draw_long) (defScope s__law_draw_long) .none kV38 dc38 pm38 an38 cd38 ct38), sl38⟩) (c38 : PySem.W.codeIn K cd38 "_law_draw_long" = true) (k38 : PySem.W.keepIn K (.ref f38) = true)
    (a39 : PySem.W.nsIn K mainGlobals "_law_draw_point" = some (some (.ref f39))) (l39 : K.lookup f39 = some ⟨oc39, od39, .func (PySem.W.fnOf "_law_draw_point" "_law_draw_point" (defArgs s__law_draw_point) (defBody s__law_draw_point) (defScope s__law_draw_point) .none kV39 dc39 pm39 an39 cd39 ct39), sl39⟩) (c39 : PySem.W.codeIn K cd39 "_law_draw_point" = true) (k39 : PySem.W.keepIn K (.ref f39) = true)
    (a40 : PySem.W.nsIn K mainGlobals "_law_draw_pairs" = some (some (.ref f40))) (l40 : K.lookup f40 = some ⟨oc40, od40, .func (PySem.W.fnOf "_law_draw_pairs" "_law_draw_pairs" (defArgs s__law_draw_pairs) (defBody s__law_draw_pairs) (defScope s__law_draw_pairs) .none kV40 dc40 pm40 an40 cd40 ct40), sl40⟩) (c40 : PySem.W.codeIn K cd40 "_law_draw_pairs" = true) (k40 : PySem.W.keepIn K (.ref f40) = true)
    (a41 : PySem.W.nsIn K mainGlobals "_law_raw" = some (some (.ref f41))) (l41 : K.lookup f41 = some ⟨oc41, od41, .func (PySem.W.fnOf "_law_raw" "_law_raw" (defArgs s__law_raw) (defBody s__law_raw) (defScope s__law_raw) .none kV41 dc41 pm41 an41 cd41 ct41), sl41⟩) (c41 : PySem.W.codeIn K cd41 "_law_raw" = true) (k41 : PySem.W.keepIn K (.ref f41) = true)
    (a42 : PySem.W.nsIn K mainGlobals "_law_draw_many" = some (some (.ref f42))) (l42 : K.lookup f42 = some ⟨oc42, od42, .func (PySem.W.fnOf "_law_draw_many" "_law_draw_many" (defArgs s__law_draw_many) (defBody s__law_draw_many) (defScope s__law_draw_many) .none kV42 dc42 pm42 an42 cd42 ct42), sl42⟩) (c42 : PySem.W.codeIn K cd42 "_law_draw_many" = true) (k42 : PySem.W.keepIn K (.ref f42) = true)
    (a43 : PySem.W.nsIn K mainGlobals "_law_draw_order" = some (some (.ref f43))) (l43 : K.lookup f43 = some ⟨oc43, od43, .func (PySem.W.fnOf "_law_draw_order" "_law_draw_order" (defArgs s__law_draw_order) (defBody s__law_draw_order) (defScope s__law_draw_order) .none kV43 dc43 pm43 an43 cd43 ct43), sl43⟩) (c43 : PySem.W.codeIn K cd43 "_law_draw_order" = true) (k43 : PySem.W.keepIn K (.ref f43) = true)
    (a44 : PySem.W.nsIn K mainGlobals "_law_seen" = some (some (.ref f44))) (l44 : K.lookup f44 = some ⟨oc44, od44, .func (PySem.W.fnOf "_law_seen" "_law_seen" (defArgs s__law_seen) (defBody s__law_seen) (defScope s__law_seen) .none kV44 dc44 pm44 an44 cd44 ct44), sl44⟩) (c44 : PySem.W.codeIn K cd44 "_law_seen" = true) (k44 : PySem.W.keepIn K (.ref f44) = true)
    (a45 : PySem.W.nsIn K mainGlobals "_law_is_form" = some (some (.ref f45))) (l45 : K.lookup f45 = some ⟨oc45, od45, .func (PySem.W.fnOf "_law_is_form" "_law_is_form" (defArgs s__law_is_form) (defBody s__law_is_form) (defScope s__law_is_form) .none kV45 dc45 pm45 an45 cd45 ct45), sl45⟩) (c45 : PySem.W.codeIn K cd45 "_law_is_form" = true) (k45 : PySem.W.keepIn K (.ref f45) = true)
    (a46 : PySem.W.nsIn K mainGlobals "_law_drawn" = some (some (.ref f46))) (l46 : K.lookup f46 = some ⟨oc46, od46, .func (PySem.W.fnOf "_law_drawn" "_law_drawn" (defArgs s__law_drawn) (defBody s__law_drawn) (defScope s__law_drawn) .none kV46 dc46 pm46 an46 cd46 ct46), sl46⟩) (c46 : PySem.W.codeIn K cd46 "_law_drawn" = true) (k46 : PySem.W.keepIn K (.ref f46) = true)
    (a47 : PySem.W.nsIn K mainGlobals "_law_seen_refused" = some (some (.ref f47))) (l47 : K.lookup f47 = some ⟨oc47, od47, .func (PySem.W.fnOf "_law_seen_refused" "_law_seen_refused" (defArgs s__law_seen_refused) (defBody s__law_seen_refused) (defScope s__law_seen_refused) .none kV47 dc47 pm47 an47 cd47 ct47), sl47⟩) (c47 : PySem.W.codeIn K cd47 "_law_seen_refused" = true) (k47 : PySem.W.keepIn K (.ref f47) = true)
    (a48 : PySem.W.nsIn K mainGlobals "_law_filled_refused" = some (some (.ref f48))) (l48 : K.lookup f48 = some ⟨oc48, od48, .func (PySem.W.fnOf "_law_filled_refused" "_law_filled_refused" (defArgs s__law_filled_refused) (defBody s__law_filled_refused) (defScope s__law_filled_refused) .none kV48 dc48 pm48 an48 cd48 ct48), sl48⟩) (c48 : PySem.W.codeIn K cd48 "_law_filled_refused" = true) (k48 : PySem.W.keepIn K (.ref f48) = true)
    (a49 : PySem.W.nsIn K mainGlobals "_law_is_filling" = some (some (.ref f49))) (l49 : K.lookup f49 = some ⟨oc49, od49, .func (PySem.W.fnOf "_law_is_filling" "_law_is_filling" (defArgs s__law_is_filling) (defBody s__law_is_filling) (defScope s__law_is_filling) .none kV49 dc49 pm49 an49 cd49 ct49), sl49⟩) (c49 : PySem.W.codeIn K cd49 "_law_is_filling" = true) (k49 : PySem.W.keepIn K (.ref f49) = true)
    (a50 : PySem.W.nsIn K mainGlobals "_law_right" = some (some (.ref f50))) (l50 : K.lookup f50 = some ⟨oc50, od50, .func (PySem.W.fnOf "_law_right" "_law_right" (defArgs s__law_right) (defBody s__law_right) (defScope s__law_right) .none kV50 dc50 pm50 an50 cd50 ct50), sl50⟩) (c50 : PySem.W.codeIn K cd50 "_law_right" = true) (k50 : PySem.W.keepIn K (.ref f50) = true)
    (a51 : PySem.W.nsIn K mainGlobals "law" = some (some (.ref f51))) (l51 : K.lookup f51 = some ⟨oc51, od51, .func (PySem.W.fnOf "law" "law" (defArgs s_law) (defBody s_law) (defScope s_law) .none kV51 dc51 pm51 an51 cd51 ct51), sl51⟩) (c51 : PySem.W.codeIn K cd51 "law" = true) (k51 : PySem.W.keepIn K (.ref f51) = true)
    (z0 : PySem.W.nsIn K mainGlobals "len" = some none)
    (z1 : PySem.W.nsIn K mainGlobals "int" = some none)
    (z2 : PySem.W.nsIn K mainGlobals "bool" = some none)
    (z3 : PySem.W.nsIn K mainGlobals "tuple" = some none)
    (z4 : PySem.W.nsIn K mainGlobals "list" = some none)
    (z5 : PySem.W.nsIn K mainGlobals "isinstance" = some none)
    (z6 : PySem.W.nsIn K mainGlobals "range" = some none)
    (z7 : PySem.W.nsIn K mainGlobals "enumerate" = some none)
    (z8 : PySem.W.nsIn K mainGlobals "zip" = some none)
    (z9 : PySem.W.nsIn K mainGlobals "sum" = some none)
    (z10 : PySem.W.nsIn K mainGlobals "min" = some none)
    (z11 : PySem.W.nsIn K mainGlobals "max" = some none)
    (z12 : PySem.W.nsIn K mainGlobals "abs" = some none)
    (z13 : PySem.W.nsIn K mainGlobals "all" = some none)
    (z14 : PySem.W.nsIn K mainGlobals "any" = some none)
    (z15 : PySem.W.nsIn K mainGlobals "reversed" = some none)
    (z16 : PySem.W.nsIn K mainGlobals "ValueError" = some none)
    (g_gcd : PySem.W.nsIn K mainGlobals "gcd" = some (some (.builtin "math.gcd")))
    (a_CableError : PySem.W.nsIn K mainGlobals "CableError" = some (some (.ref c_CableError)))
    (a_SizesDiffer : PySem.W.nsIn K mainGlobals "SizesDiffer" = some (some (.ref c_SizesDiffer)))
    (a_BelowZero : PySem.W.nsIn K mainGlobals "BelowZero" = some (some (.ref c_BelowZero)))
    (a_BadRow : PySem.W.nsIn K mainGlobals "BadRow" = some (some (.ref c_BadRow)))
    (a_Form : PySem.W.nsIn K mainGlobals "Form" = some (some (.ref c_Form)))
    (i_CableError : PySem.W.isClsIn K c_CableError = true)
    (y_CableError : PySem.W.typeIn K (.ref c_CableError) = some (.type "type"))
    (i_SizesDiffer : PySem.W.isClsIn K c_SizesDiffer = true)
    (y_SizesDiffer : PySem.W.typeIn K (.ref c_SizesDiffer) = some (.type "type"))
    (i_BelowZero : PySem.W.isClsIn K c_BelowZero = true)
    (y_BelowZero : PySem.W.typeIn K (.ref c_BelowZero) = some (.type "type"))
    (i_BadRow : PySem.W.isClsIn K c_BadRow = true)
    (y_BadRow : PySem.W.typeIn K (.ref c_BadRow) = some (.type "type"))
    (b_CableError : PySem.W.subIn K (.ref c_CableError) (.type "BaseException") = some true)
    (b_BelowZero : PySem.W.subIn K (.ref c_BelowZero) (.type "BaseException") = some true)
    (xl_BelowZero : K.lookup c_BelowZero = some (excClassObj nm_BelowZero q_BelowZero c_BelowZero N_BelowZero bs_BelowZero [.ref c_CableError, .type "ValueError", .type "Exception", .type "BaseException", .type "object"] true sn_BelowZero sub_BelowZero ab_BelowZero col_BelowZero dd_BelowZero m0_BelowZero m1_BelowZero m2_BelowZero m3_BelowZero m5_BelowZero "ValueError.__new__"))
    (sa_BelowZero : PySem.W.findIn K (.ref c_BelowZero) "__setattr__" = some (some (.builtin "object.__setattr__")))
    (ga_BelowZero : PySem.W.findIn K (.ref c_BelowZero) "__getattribute__" = some (some (.builtin "BaseException.__getattribute__")))
    (gg_BelowZero : PySem.W.findIn K (.ref c_BelowZero) "__getattr__" = some none)
    (ca_BelowZero : PySem.W.findIn K (.ref c_BelowZero) "__class__" = some (some (.builtin "object.__class__")))
    (cm_BelowZero : PySem.W.mroIn K c_BelowZero (.type "object") = some true)
    (hd_BelowZero : PySem.W.hasDictIn K c_BelowZero = true)
    (kp_BelowZero : PySem.W.keepIn K (.ref c_BelowZero) = true)
    (no_BelowZero_point : PySem.W.findIn K (.ref c_BelowZero) "point" = some none)
    (in_BelowZero : PySem.W.findIn K (.ref c_BelowZero) "__init__" = some (some (.ref f_BelowZero)))
    (tf_BelowZero : PySem.W.typeIn K (.ref f_BelowZero) = some (.type "function"))
    (lf_BelowZero : K.lookup f_BelowZero = some ⟨oci_BelowZero, odi_BelowZero, .func (PySem.W.fnOf "__init__" "BelowZero.__init__" (defArgs s_iBZ) (defBody s_iBZ) (defScope s_iBZ) .none kVi_BelowZero dci_BelowZero pmi_BelowZero ani_BelowZero cdi_BelowZero cti_BelowZero), sli_BelowZero⟩)
    (cf_BelowZero : PySem.W.codeIn K cdi_BelowZero "BelowZero.__init__" = true)
    (kf_BelowZero : PySem.W.keepIn K (.ref f_BelowZero) = true)
    (pg_Form : PySem.W.plainGet K c_Form Str.empty = true)
    (hd_Form : PySem.W.hasDictIn K c_Form = true)
    (po_Form : PySem.W.plainOver K c_Form = true)
    (sa_Form : PySem.W.findIn K (.ref c_Form) "__setattr__" = some (some (.builtin "object.__setattr__")))
    (mk_Form : PySem.W.makesIn K c_Form = true)
    (kc_Form : PySem.W.keepIn K (.ref c_Form) = true)
    (na_Form_size : PySem.W.findIn K (.ref c_Form) "size" = some none)
    (na_Form_entries : PySem.W.findIn K (.ref c_Form) "entries" = some none)
    (na_Form_bottom : PySem.W.findIn K (.ref c_Form) "bottom" = some none)
    (in_Form : PySem.W.findIn K (.ref c_Form) "__init__" = some (some (.ref f_Form)))
    (isf_Form : PySem.W.isFn K (.ref f_Form) = true)
    (lf_Form : K.lookup f_Form = some ⟨oci_Form, odi_Form, .func (PySem.W.fnOf "__init__" "Form.__init__" (defArgs s_iForm) (defBody s_iForm) (defScope s_iForm) .none (.ref D_Form) dci_Form pmi_Form ani_Form cdi_Form cti_Form), sli_Form⟩)
    (cf_Form : PySem.W.codeIn K cdi_Form "Form.__init__" = true)
    (kf_Form : PySem.W.keepIn K (.ref f_Form) = true)
    (kd_Form : PySem.W.nsIn K D_Form "bottom" = some (some (.int 1 tki_Form)))
    (me_mcall : PySem.W.findIn K (.ref c_Form) "__call__" = some (some (.ref h_mcall)))
    (mf_mcall : PySem.W.isFn K (.ref h_mcall) = true)
    (ml_mcall : K.lookup h_mcall = some ⟨ocm_mcall, odm_mcall, .func (PySem.W.fnOf "__call__" "Form.__call__" (defArgs s_mcall) (defBody s_mcall) (defScope s_mcall) .none kVm_mcall dcm_mcall pmm_mcall anm_mcall cdm_mcall ctm_mcall), slm_mcall⟩)
    (mc_mcall : PySem.W.codeIn K cdm_mcall "Form.__call__" = true)
    (mp_mcall : PySem.W.keepIn K (.ref h_mcall) = true)
    (mi_mcall : PySem.W.fnIn K h_mcall = true)
    (me_mbetween : PySem.W.findIn K (.ref c_Form) "between" = some (some (.ref h_mbetween)))
    (mf_mbetween : PySem.W.isFn K (.ref h_mbetween) = true)
    (ml_mbetween : K.lookup h_mbetween = some ⟨ocm_mbetween, odm_mbetween, .func (PySem.W.fnOf "between" "Form.between" (defArgs s_mbetween) (defBody s_mbetween) (defScope s_mbetween) .none kVm_mbetween dcm_mbetween pmm_mbetween anm_mbetween cdm_mbetween ctm_mbetween), slm_mbetween⟩)
    (mc_mbetween : PySem.W.codeIn K cdm_mbetween "Form.between" = true)
    (mp_mbetween : PySem.W.keepIn K (.ref h_mbetween) = true)
    (me_mat : PySem.W.findIn K (.ref c_Form) "at" = some (some (.ref h_mat)))
    (mf_mat : PySem.W.isFn K (.ref h_mat) = true)
    (ml_mat : K.lookup h_mat = some ⟨ocm_mat, odm_mat, .func (PySem.W.fnOf "at" "Form.at" (defArgs s_mat) (defBody s_mat) (defScope s_mat) .none kVm_mat dcm_mat pmm_mat anm_mat cdm_mat ctm_mat), slm_mat⟩)
    (mc_mat : PySem.W.codeIn K cdm_mat "Form.at" = true)
    (mp_mat : PySem.W.keepIn K (.ref h_mat) = true)
    (i_Form : PySem.W.isClsIn K c_Form = true)
    (y_Form : PySem.W.typeIn K (.ref c_Form) = some (.type "type"))
    (oc_Form : PySem.W.findIn K (.ref c_Form) "__class__" = some (some (.builtin "object.__class__")))
    (om_Form : PySem.W.mroIn K c_Form (.type "object") = some true)
    (cn0 : PySem.W.specialIn K (.builtin "object.__class__") "__get__" = some (some (.builtin "getset_descriptor.__get__")))
    (ct0 : PySem.W.takesIn K (.builtin "object.__class__") = some true)
    (s_Form_Form : PySem.W.subIn K (.ref c_Form) (.ref c_Form) = some true)
    (s_BelowZero_BelowZero : PySem.W.subIn K (.ref c_BelowZero) (.ref c_BelowZero) = some true)
    (s_BelowZero_CableError : PySem.W.subIn K (.ref c_BelowZero) (.ref c_CableError) = some true)
    (s_BelowZero_SizesDiffer : PySem.W.subIn K (.ref c_BelowZero) (.ref c_SizesDiffer) = some false)
    (s_BelowZero_BadRow : PySem.W.subIn K (.ref c_BelowZero) (.ref c_BadRow) = some false)
    (sb_BelowZero_ValueError : PySem.W.subIn K (.ref c_BelowZero) (.type "ValueError") = some true)
    : ∃ fd : FuncData, (∀ (s : Shared) (v : Value), BindsTo s fd ⟨[v], []⟩ [("script", v)]) ∧ ∀ base : Heap, K.In base → base.Ns mainGlobals mg → FnOk l.prog w K mg base CX0 10 fa fd ["script"] (spLaw K) := by
  have e := hfa.symm.trans (PySem.W.mg_of X G a51)
  cases e
  have T : Txt mg := { b_len := PySem.W.mg_none_of X G z0, b_int := PySem.W.mg_none_of X G z1, b_bool := PySem.W.mg_none_of X G z2, b_tuple := PySem.W.mg_none_of X G z3, b_list := PySem.W.mg_none_of X G z4, b_isinstance := PySem.W.mg_none_of X G z5, b_range := PySem.W.mg_none_of X G z6, b_enumerate := PySem.W.mg_none_of X G z7, b_zip := PySem.W.mg_none_of X G z8, b_sum := PySem.W.mg_none_of X G z9, b_min := PySem.W.mg_none_of X G z10, b_max := PySem.W.mg_none_of X G z11, b_abs := PySem.W.mg_none_of X G z12, b_all := PySem.W.mg_none_of X G z13, b_any := PySem.W.mg_none_of X G z14, b_reversed := PySem.W.mg_none_of X G z15, b_ValueError := PySem.W.mg_none_of X G z16, g_gcd := PySem.W.mg_of X G g_gcd }
  have G_CableError := PySem.W.mg_of X G a_CableError
  have G_SizesDiffer := PySem.W.mg_of X G a_SizesDiffer
  have G_BelowZero := PySem.W.mg_of X G a_BelowZero
  have G_BadRow := PySem.W.mg_of X G a_BadRow
  have G_Form := PySem.W.mg_of X G a_Form
  have X_BelowZero : EX.XCls K c_BelowZero := ⟨i_BelowZero, ga_BelowZero, gg_BelowZero, b_BelowZero, ca_BelowZero, cn0, ct0, cm_BelowZero, hd_BelowZero, y_BelowZero, kp_BelowZero⟩
  have O_BelowZero : OexC K c_BelowZero := ⟨⟨nm_BelowZero, q_BelowZero, N_BelowZero, bs_BelowZero, _, sn_BelowZero, sub_BelowZero, ab_BelowZero, col_BelowZero, dd_BelowZero, m0_BelowZero, m1_BelowZero, m2_BelowZero, m3_BelowZero, m5_BelowZero, xl_BelowZero, by rfl⟩, sa_BelowZero, b_BelowZero, y_BelowZero, kp_BelowZero⟩
  have FI_BelowZero := fun_mk (st := s_iBZ) lf_BelowZero cf_BelowZero kf_BelowZero
  have BI_BelowZero := FI_BelowZero.binds (ps := ["self", "point"]) fun _ _ _ _ _ _ us hl => match us, hl with | [_, _], _ => rfl
  have FO_Form := funD_of (st := s_iForm) lf_Form cf_Form kf_Form kd_Form
  have MK_Form : Mk K c_Form f_Form := ⟨mk_Form, in_Form, isf_Form, kc_Form⟩
  have CL_Form : Cls K c_Form := ⟨pg_Form, hd_Form, po_Form, sa_Form⟩
  have FM_mcall := fun_mk (st := s_mcall) ml_mcall mc_mcall mp_mcall
  have BM_mcall := FM_mcall.binds (ps := ["self", "point"]) fun _ _ _ _ _ _ us hl => match us, hl with | [_, _], _ => rfl
  have FM_mbetween := fun_mk (st := s_mbetween) ml_mbetween mc_mbetween mp_mbetween
  have BM_mbetween := FM_mbetween.binds (ps := ["self", "one", "two"]) fun _ _ _ _ _ _ us hl => match us, hl with | [_, _, _], _ => rfl
  have FM_mat := fun_mk (st := s_mat) ml_mat mc_mat mp_mat
  have BM_mat := FM_mat.binds (ps := ["self", "passed"]) fun _ _ _ _ _ _ us hl => match us, hl with | [_, _], _ => rfl
  have F_frozen_numbers := fun_mk (st := s_frozen_numbers) l1 c1 k1
  have m_frozen_numbers := PySem.W.mg_of X G a1
  have b_frozen_numbers := F_frozen_numbers.binds (ps := ["value"]) fun _ _ _ _ _ _ us hl => match us, hl with | [_], _ => rfl
  have F_frozen_part := fun_mk (st := s_frozen_part) l2 c2 k2
  have m_frozen_part := PySem.W.mg_of X G a2
  have b_frozen_part := F_frozen_part.binds (ps := ["value"]) fun _ _ _ _ _ _ us hl => match us, hl with | [_], _ => rfl
  have F_frozen := fun_mk (st := s_frozen) l3 c3 k3
  have m_frozen := PySem.W.mg_of X G a3
  have b_frozen := F_frozen.binds (ps := ["value"]) fun _ _ _ _ _ _ us hl => match us, hl with | [_], _ => rfl
  have F_lowered := fun_mk (st := s_lowered) l4 c4 k4
  have m_lowered := PySem.W.mg_of X G a4
  have b_lowered := F_lowered.binds (ps := ["numbers", "bottom"]) fun _ _ _ _ _ _ us hl => match us, hl with | [_, _], _ => rfl
  have F_fraction := fun_mk (st := s_fraction) l5 c5 k5
  have m_fraction := PySem.W.mg_of X G a5
  have b_fraction := F_fraction.binds (ps := ["top", "bottom"]) fun _ _ _ _ _ _ us hl => match us, hl with | [_, _], _ => rfl
  have F_vector := fun_mk (st := s_vector) l6 c6 k6
  have m_vector := PySem.W.mg_of X G a6
  have b_vector := F_vector.binds (ps := ["numbers", "bottom"]) fun _ _ _ _ _ _ us hl => match us, hl with | [_, _], _ => rfl
  have F_dot := fun_mk (st := s_dot) l7 c7 k7
  have m_dot := PySem.W.mg_of X G a7
  have b_dot := F_dot.binds (ps := ["one", "two"]) fun _ _ _ _ _ _ us hl => match us, hl with | [_, _], _ => rfl
  have F_check_square := fun_mk (st := s_check_square) l8 c8 k8
  have m_check_square := PySem.W.mg_of X G a8
  have b_check_square := F_check_square.binds (ps := ["lines"]) fun _ _ _ _ _ _ us hl => match us, hl with | [_], _ => rfl
  have F_check_symmetric := fun_mk (st := s_check_symmetric) l9 c9 k9
  have m_check_symmetric := PySem.W.mg_of X G a9
  have b_check_symmetric := F_check_symmetric.binds (ps := ["lines"]) fun _ _ _ _ _ _ us hl => match us, hl with | [_], _ => rfl
  have F_check_point := fun_mk (st := s_check_point) l10 c10 k10
  have m_check_point := PySem.W.mg_of X G a10
  have b_check_point := F_check_point.binds (ps := ["form", "point"]) fun _ _ _ _ _ _ us hl => match us, hl with | [_, _], _ => rfl
  have F_unit_point := fun_mk (st := s_unit_point) l11 c11 k11
  have m_unit_point := PySem.W.mg_of X G a11
  have b_unit_point := F_unit_point.binds (ps := ["size", "index"]) fun _ _ _ _ _ _ us hl => match us, hl with | [_, _], _ => rfl
  have F_side_index := fun_mk (st := s_side_index) l12 c12 k12
  have m_side_index := PySem.W.mg_of X G a12
  have b_side_index := F_side_index.binds (ps := ["line", "index"]) fun _ _ _ _ _ _ us hl => match us, hl with | [_, _], _ => rfl
  have F_bad_point := fun_mk (st := s_bad_point) l13 c13 k13
  have m_bad_point := PySem.W.mg_of X G a13
  have b_bad_point := F_bad_point.binds (ps := ["table", "index"]) fun _ _ _ _ _ _ us hl => match us, hl with | [_, _], _ => rfl
  have F_reduced := fun_mk (st := s_reduced) l14 c14 k14
  have m_reduced := PySem.W.mg_of X G a14
  have b_reduced := F_reduced.binds (ps := ["table", "index", "divisor"]) fun _ _ _ _ _ _ us hl => match us, hl with | [_, _, _], _ => rfl
  have F_eliminated := fun_mk (st := s_eliminated) l15 c15 k15
  have m_eliminated := PySem.W.mg_of X G a15
  have b_eliminated := F_eliminated.binds (ps := ["entries"]) fun _ _ _ _ _ _ us hl => match us, hl with | [_], _ => rfl
  have F_settled := fun_mk (st := s_settled) l16 c16 k16
  have m_settled := PySem.W.mg_of X G a16
  have b_settled := F_settled.binds (ps := ["pivots", "point"]) fun _ _ _ _ _ _ us hl => match us, hl with | [_, _], _ => rfl
  have F_checked := fun_mk (st := s_checked) l17 c17 k17
  have m_checked := PySem.W.mg_of X G a17
  have b_checked := F_checked.binds (ps := ["form"]) fun _ _ _ _ _ _ us hl => match us, hl with | [_], _ => rfl
  have F_leads := fun_mk (st := s_leads) l18 c18 k18
  have m_leads := PySem.W.mg_of X G a18
  have b_leads := F_leads.binds (ps := ["form"]) fun _ _ _ _ _ _ us hl => match us, hl with | [_], _ => rfl
  have F_cleared := fun_mk (st := s_cleared) l19 c19 k19
  have m_cleared := PySem.W.mg_of X G a19
  have b_cleared := F_cleared.binds (ps := ["table", "at", "divisor"]) fun _ _ _ _ _ _ us hl => match us, hl with | [_, _, _], _ => rfl
  have F_block_inverse := fun_mk (st := s_block_inverse) l20 c20 k20
  have m_block_inverse := PySem.W.mg_of X G a20
  have b_block_inverse := F_block_inverse.binds (ps := ["entries", "indexes"]) fun _ _ _ _ _ _ us hl => match us, hl with | [_, _], _ => rfl
  have F_settling := fun_mk (st := s_settling) l21 c21 k21
  have m_settling := PySem.W.mg_of X G a21
  have b_settling := F_settling.binds (ps := ["form", "kept"]) fun _ _ _ _ _ _ us hl => match us, hl with | [_, _], _ => rfl
  have F_cross := fun_mk (st := s_cross) l22 c22 k22
  have m_cross := PySem.W.mg_of X G a22
  have b_cross := F_cross.binds (ps := ["form", "index", "places"]) fun _ _ _ _ _ _ us hl => match us, hl with | [_, _, _], _ => rfl
  have F_seen_from := fun_mk (st := s_seen_from) l23 c23 k23
  have m_seen_from := PySem.W.mg_of X G a23
  have b_seen_from := F_seen_from.binds (ps := ["form", "keep"]) fun _ _ _ _ _ _ us hl => match us, hl with | [_, _], _ => rfl
  have F_filled := fun_mk (st := s_filled) l24 c24 k24
  have m_filled := PySem.W.mg_of X G a24
  have b_filled := F_filled.binds (ps := ["form", "keep", "values"]) fun _ _ _ _ _ _ us hl => match us, hl with | [_, _, _], _ => rfl
  have F__law_whole := fun_mk (st := s__law_whole) l25 c25 k25
  have m__law_whole := PySem.W.mg_of X G a25
  have b__law_whole := F__law_whole.binds (ps := ["value"]) fun _ _ _ _ _ _ us hl => match us, hl with | [_], _ => rfl
  have F__law_cell := fun_mk (st := s__law_cell) l26 c26 k26
  have m__law_cell := PySem.W.mg_of X G a26
  have b__law_cell := F__law_cell.binds (ps := ["script", "k"]) fun _ _ _ _ _ _ us hl => match us, hl with | [_, _], _ => rfl
  have F__law_digits := fun_mk (st := s__law_digits) l27 c27 k27
  have m__law_digits := PySem.W.mg_of X G a27
  have b__law_digits := F__law_digits.binds (ps := ["cell", "sizes"]) fun _ _ _ _ _ _ us hl => match us, hl with | [_, _], _ => rfl
  have F__law_gcd := fun_mk (st := s__law_gcd) l28 c28 k28
  have m__law_gcd := PySem.W.mg_of X G a28
  have b__law_gcd := F__law_gcd.binds (ps := ["one", "two"]) fun _ _ _ _ _ _ us hl => match us, hl with | [_, _], _ => rfl
  have F__law_is_fraction := fun_mk (st := s__law_is_fraction) l29 c29 k29
  have m__law_is_fraction := PySem.W.mg_of X G a29
  have b__law_is_fraction := F__law_is_fraction.binds (ps := ["value"]) fun _ _ _ _ _ _ us hl => match us, hl with | [_], _ => rfl
  have F__law_is_point := fun_mk (st := s__law_is_point) l30 c30 k30
  have m__law_is_point := PySem.W.mg_of X G a30
  have b__law_is_point := F__law_is_point.binds (ps := ["value", "size"]) fun _ _ _ _ _ _ us hl => match us, hl with | [_, _], _ => rfl
  have F__law_is_vector := fun_mk (st := s__law_is_vector) l31 c31 k31
  have m__law_is_vector := PySem.W.mg_of X G a31
  have b__law_is_vector := F__law_is_vector.binds (ps := ["value", "size"]) fun _ _ _ _ _ _ us hl => match us, hl with | [_, _], _ => rfl
  have F__law_dot := fun_mk (st := s__law_dot) l32 c32 k32
  have m__law_dot := PySem.W.mg_of X G a32
  have b__law_dot := F__law_dot.binds (ps := ["one", "two"]) fun _ _ _ _ _ _ us hl => match us, hl with | [_, _], _ => rfl
  have F__law_table := fun_mk (st := s__law_table) l33 c33 k33
  have m__law_table := PySem.W.mg_of X G a33
  have b__law_table := F__law_table.binds (ps := ["size", "pairs"]) fun _ _ _ _ _ _ us hl => match us, hl with | [_, _], _ => rfl
  have F__law_value := fun_mk (st := s__law_value) l34 c34 k34
  have m__law_value := PySem.W.mg_of X G a34
  have b__law_value := F__law_value.binds (ps := ["table", "one", "two"]) fun _ _ _ _ _ _ us hl => match us, hl with | [_, _, _], _ => rfl
  have F__law_leads := fun_mk (st := s__law_leads) l35 c35 k35
  have m__law_leads := PySem.W.mg_of X G a35
  have b__law_leads := F__law_leads.binds (ps := ["table"]) fun _ _ _ _ _ _ us hl => match us, hl with | [_], _ => rfl
  have F__law_draw_row := fun_mk (st := s__law_draw_row) l36 c36 k36
  have m__law_draw_row := PySem.W.mg_of X G a36
  have b__law_draw_row := F__law_draw_row.binds (ps := ["size", "kind", "row"]) fun _ _ _ _ _ _ us hl => match us, hl with | [_, _, _], _ => rfl
  have F__law_draw_weight := fun_mk (st := s__law_draw_weight) l37 c37 k37
  have m__law_draw_weight := PySem.W.mg_of X G a37
  have b__law_draw_weight := F__law_draw_weight.binds (ps := ["kind", "row"]) fun _ _ _ _ _ _ us hl => match us, hl with | [_, _], _ => rfl
  have F__law_draw_long := fun_mk (st := s__law_draw_long) l38 c38 k38
  have m__law_draw_long := PySem.W.mg_of X G a38
  have b__law_draw_long := F__law_draw_long.binds (ps := ["script", "at"]) fun _ _ _ _ _ _ us hl => match us, hl with | [_, _], _ => rfl
  have F__law_draw_point := fun_mk (st := s__law_draw_point) l39 c39 k39
  have m__law_draw_point := PySem.W.mg_of X G a39
  have b__law_draw_point := F__law_draw_point.binds (ps := ["cell", "size"]) fun _ _ _ _ _ _ us hl => match us, hl with | [_, _], _ => rfl
  have F__law_draw_pairs := fun_mk (st := s__law_draw_pairs) l40 c40 k40
  have m__law_draw_pairs := PySem.W.mg_of X G a40
  have b__law_draw_pairs := F__law_draw_pairs.binds (ps := ["script", "at", "size", "many", "kinds"]) fun _ _ _ _ _ _ us hl => match us, hl with | [_, _, _, _, _], _ => rfl
  have F__law_raw := fun_mk (st := s__law_raw) l41 c41 k41
  have m__law_raw := PySem.W.mg_of X G a41
  have b__law_raw := F__law_raw.binds (ps := ["script", "at", "size"]) fun _ _ _ _ _ _ us hl => match us, hl with | [_, _, _], _ => rfl
  have F__law_draw_many := fun_mk (st := s__law_draw_many) l42 c42 k42
  have m__law_draw_many := PySem.W.mg_of X G a42
  have b__law_draw_many := F__law_draw_many.binds (ps := ["row", "size"]) fun _ _ _ _ _ _ us hl => match us, hl with | [_, _], _ => rfl
  have F__law_draw_order := fun_mk (st := s__law_draw_order) l43 c43 k43
  have m__law_draw_order := PySem.W.mg_of X G a43
  have b__law_draw_order := F__law_draw_order.binds (ps := ["cell", "size"]) fun _ _ _ _ _ _ us hl => match us, hl with | [_, _], _ => rfl
  have F__law_seen := fun_mk (st := s__law_seen) l44 c44 k44
  have m__law_seen := PySem.W.mg_of X G a44
  have b__law_seen := F__law_seen.binds (ps := ["table", "keep"]) fun _ _ _ _ _ _ us hl => match us, hl with | [_, _], _ => rfl
  have F__law_is_form := fun_mk (st := s__law_is_form) l45 c45 k45
  have m__law_is_form := PySem.W.mg_of X G a45
  have b__law_is_form := F__law_is_form.binds (ps := ["form", "table", "base"]) fun _ _ _ _ _ _ us hl => match us, hl with | [_, _, _], _ => rfl
  have F__law_drawn := fun_mk (st := s__law_drawn) l46 c46 k46
  have m__law_drawn := PySem.W.mg_of X G a46
  have b__law_drawn := F__law_drawn.binds (ps := ["script", "kind"]) fun _ _ _ _ _ _ us hl => match us, hl with | [_, _], _ => rfl
  have F__law_seen_refused := fun_mk (st := s__law_seen_refused) l47 c47 k47
  have m__law_seen_refused := PySem.W.mg_of X G a47
  have b__law_seen_refused := F__law_seen_refused.binds (ps := ["form", "keep"]) fun _ _ _ _ _ _ us hl => match us, hl with | [_, _], _ => rfl
  have F__law_filled_refused := fun_mk (st := s__law_filled_refused) l48 c48 k48
  have m__law_filled_refused := PySem.W.mg_of X G a48
  have b__law_filled_refused := F__law_filled_refused.binds (ps := ["form", "keep", "values"]) fun _ _ _ _ _ _ us hl => match us, hl with | [_, _, _], _ => rfl
  have F__law_is_filling := fun_mk (st := s__law_is_filling) l49 c49 k49
  have m__law_is_filling := PySem.W.mg_of X G a49
  have b__law_is_filling := F__law_is_filling.binds (ps := ["told", "drawn", "keep", "values", "top", "base"]) fun _ _ _ _ _ _ us hl => match us, hl with | [_, _, _, _, _, _], _ => rfl
  have F__law_right := fun_mk (st := s__law_right) l50 c50 k50
  have m__law_right := PySem.W.mg_of X G a50
  have b__law_right := F__law_right.binds (ps := ["form", "drawn", "keep", "values", "other", "q"]) fun _ _ _ _ _ _ us hl => match us, hl with | [_, _, _, _, _, _], _ => rfl
  have F_law := fun_mk (st := s_law) l51 c51 k51
  have m_law := PySem.W.mg_of X G a51
  refine ⟨PySem.W.fnOf "law" "law" (defArgs s_law) (defBody s_law) (defScope s_law) .none kV51 dc51 pm51 an51 cd51 ct51, fun s v => .of_eq rfl, fun base _ _ => ?_⟩
  have U : Err K mg c_Form c_BelowZero c_CableError c_SizesDiffer c_BadRow f_BelowZero := { g_Form := G_Form, g_BelowZero := G_BelowZero, g_CableError := G_CableError, g_SizesDiffer := G_SizesDiffer, g_BadRow := G_BadRow, o_BelowZero := O_BelowZero, i_BelowZero := in_BelowZero, t_BelowZero := tf_BelowZero, xB := X_BelowZero, no_BelowZero_point := no_BelowZero_point, eBC := EX.exm_sub i_CableError y_CableError b_CableError s_BelowZero_CableError, kBV := EX.kit_blt (by decide +kernel) sb_BelowZero_ValueError, kBS := EX.kit_sub i_SizesDiffer y_SizesDiffer s_BelowZero_SizesDiffer s_BelowZero_BelowZero, kBB := EX.kit_sub i_BelowZero y_BelowZero s_BelowZero_BelowZero s_BelowZero_BelowZero, kBW := EX.kit_sub i_BadRow y_BadRow s_BelowZero_BadRow s_BelowZero_BelowZero }
  have V0 : Frm K mg c_Form := { g_Form := G_Form, kF := EX.kit_sub i_Form y_Form s_Form_Form s_Form_Form, c1 := oc_Form, c2 := cn0, c3 := ct0, c4 := om_Form }
  have INB := ok_iBZ (P := l.prog) (w := w) (base := base) FI_BelowZero T U
  have O : Obs K c_Form c_Form := { clF := CL_Form, F_size := na_Form_size, F_entries := na_Form_entries, F_bottom := na_Form_bottom }
  obtain ⟨gF, kbF⟩ := kb_Form FO_Form
  obtain ⟨gL, kbL⟩ := kb_FormL FO_Form
  have C_frozen_numbers : Cal l.prog w K mg base 1 "frozen_numbers" ["value"] (spFz K 1) := ⟨_, _, ok_frozen_numbers F_frozen_numbers T, m_frozen_numbers, F_frozen_numbers.kp, b_frozen_numbers⟩
  have C_frozen_part : Cal l.prog w K mg base 2 "frozen_part" ["value"] (spFz K 2) := ⟨_, _, ok_frozen_part F_frozen_part T C_frozen_numbers, m_frozen_part, F_frozen_part.kp, b_frozen_part⟩
  have C_frozen : Cal l.prog w K mg base 3 "frozen" ["value"] (spFz K 3) := ⟨_, _, ok_frozen F_frozen T C_frozen_part, m_frozen, F_frozen.kp, b_frozen⟩
  have C_lowered : Cal l.prog w K mg base 1 "lowered" ["numbers", "bottom"] spLow := ⟨_, _, ok_lowered F_lowered T, m_lowered, F_lowered.kp, b_lowered⟩
  have C_fraction : Cal l.prog w K mg base 1 "fraction" ["top", "bottom"] spFraction := ⟨_, _, ok_fraction F_fraction T, m_fraction, F_fraction.kp, b_fraction⟩
  have C_check_square : Cal l.prog w K mg base 1 "check_square" ["lines"] (spSquare K) := ⟨_, _, ok_check_square F_check_square T, m_check_square, F_check_square.kp, b_check_square⟩
  have C_check_symmetric : Cal l.prog w K mg base 1 "check_symmetric" ["lines"] (spSymm K) := ⟨_, _, ok_check_symmetric F_check_symmetric T, m_check_symmetric, F_check_symmetric.kp, b_check_symmetric⟩
  have C_cleared : Cal l.prog w K mg base 1 "cleared" ["table", "at", "divisor"] (spCleared K) := ⟨_, _, ok_cleared F_cleared T, m_cleared, F_cleared.kp, b_cleared⟩
  have C_block_inverse : Cal l.prog w K mg base 2 "block_inverse" ["entries", "indexes"] (spBlock K) := ⟨_, _, ok_block_inverse F_block_inverse T C_cleared, m_block_inverse, F_block_inverse.kp, b_block_inverse⟩
  have C__law_cell : Cal l.prog w K mg base 1 "_law_cell" ["script", "k"] (spCell K) := ⟨_, _, ok__law_cell F__law_cell T, m__law_cell, F__law_cell.kp, b__law_cell⟩
  have C__law_digits : Cal l.prog w K mg base 1 "_law_digits" ["cell", "sizes"] (spDigits K) := ⟨_, _, ok__law_digits F__law_digits T, m__law_digits, F__law_digits.kp, b__law_digits⟩
  have C__law_whole : Cal l.prog w K mg base 1 "_law_whole" ["value"] spLaw_whole := ⟨_, _, ok__law_whole F__law_whole T, m__law_whole, F__law_whole.kp, b__law_whole⟩
  have CH__law_whole : EX.CalH l.prog w K mg base 1 "_law_whole" ["value"] spLaw_whole := ⟨_, _, okH__law_whole F__law_whole T, m__law_whole, F__law_whole.kp, b__law_whole⟩
  have C__law_gcd : Cal l.prog w K mg base 1 "_law_gcd" ["one", "two"] spGcd := ⟨_, _, ok__law_gcd F__law_gcd T, m__law_gcd, F__law_gcd.kp, b__law_gcd⟩
  have C__law_is_point : Cal l.prog w K mg base 2 "_law_is_point" ["value", "size"] (spIsPoint K) := ⟨_, _, ok__law_is_point F__law_is_point T C__law_whole, m__law_is_point, F__law_is_point.kp, b__law_is_point⟩
  have C__law_dot : Cal l.prog w K mg base 1 "_law_dot" ["one", "two"] (spDot K) := ⟨_, _, ok__law_dot F__law_dot T, m__law_dot, F__law_dot.kp, b__law_dot⟩
  have C_unit_point : Cal l.prog w K mg base 1 "unit_point" ["size", "index"] (spUnit K) := ⟨_, _, ok_unit_point F_unit_point T, m_unit_point, F_unit_point.kp, b_unit_point⟩
  have C_side_index : Cal l.prog w K mg base 1 "side_index" ["line", "index"] (spSide K) := ⟨_, _, ok_side_index F_side_index T, m_side_index, F_side_index.kp, b_side_index⟩
  have C_bad_point : Cal l.prog w K mg base 2 "bad_point" ["table", "index"] (spBad K) := ⟨_, _, ok_bad_point F_bad_point T C_unit_point C_side_index, m_bad_point, F_bad_point.kp, b_bad_point⟩
  have C_reduced : Cal l.prog w K mg base 1 "reduced" ["table", "index", "divisor"] (spReduced K) := ⟨_, _, ok_reduced F_reduced T, m_reduced, F_reduced.kp, b_reduced⟩
  have C_eliminated : Cal l.prog w K mg base 3 "eliminated" ["entries"] (spElim K) := ⟨_, _, ok_eliminated F_eliminated T C_bad_point C_reduced, m_eliminated, F_eliminated.kp, b_eliminated⟩
  have C_settled : Cal l.prog w K mg base 1 "settled" ["pivots", "point"] (spSettled K) := ⟨_, _, ok_settled F_settled T, m_settled, F_settled.kp, b_settled⟩
  have C_cross : Cal l.prog w K mg base 1 "cross" ["form", "index", "places"] (spCross K c_Form) := ⟨_, _, ok_cross F_cross T O, m_cross, F_cross.kp, b_cross⟩
  have C_vector : Cal l.prog w K mg base 2 "vector" ["numbers", "bottom"] spLow := ⟨_, _, ok_vector F_vector T C_lowered, m_vector, F_vector.kp, b_vector⟩
  have C_dot : Cal l.prog w K mg base 1 "dot" ["one", "two"] (spDotL K) := ⟨_, _, ok_dot F_dot T, m_dot, F_dot.kp, b_dot⟩
  have C_check_point : Cal l.prog w K mg base 1 "check_point" ["form", "point"] (spPoint K c_Form) := ⟨_, _, ok_check_point F_check_point T O, m_check_point, F_check_point.kp, b_check_point⟩
  have C__law_value : Cal l.prog w K mg base 2 "_law_value" ["table", "one", "two"] (spLawV K) := ⟨_, _, ok__law_value F__law_value T C__law_dot, m__law_value, F__law_value.kp, b__law_value⟩
  have C__law_table : Cal l.prog w K mg base 1 "_law_table" ["size", "pairs"] (spTab K) := ⟨_, _, ok__law_table F__law_table T, m__law_table, F__law_table.kp, b__law_table⟩
  have C__law_draw_row : Cal l.prog w K mg base 1 "_law_draw_row" ["size", "kind", "row"] spDrow := ⟨_, _, ok__law_draw_row F__law_draw_row T, m__law_draw_row, F__law_draw_row.kp, b__law_draw_row⟩
  have C__law_draw_weight : Cal l.prog w K mg base 1 "_law_draw_weight" ["kind", "row"] spWt := ⟨_, _, ok__law_draw_weight F__law_draw_weight T, m__law_draw_weight, F__law_draw_weight.kp, b__law_draw_weight⟩
  have C__law_draw_pairs : Cal l.prog w K mg base 2 "_law_draw_pairs" ["script", "at", "size", "many", "kinds"] (spDps K) := ⟨_, _, ok__law_draw_pairs F__law_draw_pairs T C__law_cell C__law_digits C__law_draw_row C__law_draw_weight, m__law_draw_pairs, F__law_draw_pairs.kp, b__law_draw_pairs⟩
  have C__law_draw_long : Cal l.prog w K mg base 2 "_law_draw_long" ["script", "at"] (spLong K) := ⟨_, _, ok__law_draw_long F__law_draw_long T C__law_cell C__law_digits C__law_draw_row C__law_draw_weight, m__law_draw_long, F__law_draw_long.kp, b__law_draw_long⟩
  have C__law_raw : Cal l.prog w K mg base 2 "_law_raw" ["script", "at", "size"] (spRaw K) := ⟨_, _, ok__law_raw F__law_raw T C__law_cell C__law_digits, m__law_raw, F__law_raw.kp, b__law_raw⟩
  have C__law_is_fraction : Cal l.prog w K mg base 2 "_law_is_fraction" ["value"] spFrac := ⟨_, _, ok__law_is_fraction F__law_is_fraction T C__law_whole C__law_gcd, m__law_is_fraction, F__law_is_fraction.kp, b__law_is_fraction⟩
  have C__law_is_vector : Cal l.prog w K mg base 3 "_law_is_vector" ["value", "size"] (spIsVec K) := ⟨_, _, ok__law_is_vector F__law_is_vector T C__law_is_point C__law_gcd C__law_whole, m__law_is_vector, F__law_is_vector.kp, b__law_is_vector⟩
  have C__law_draw_many : Cal l.prog w K mg base 1 "_law_draw_many" ["row", "size"] (spDmany K) := ⟨_, _, ok__law_draw_many F__law_draw_many T, m__law_draw_many, F__law_draw_many.kp, b__law_draw_many⟩
  have C__law_draw_order : Cal l.prog w K mg base 2 "_law_draw_order" ["cell", "size"] (spDord K) := ⟨_, _, ok__law_draw_order F__law_draw_order T C__law_digits, m__law_draw_order, F__law_draw_order.kp, b__law_draw_order⟩
  have C__law_seen : Cal l.prog w K mg base 2 "_law_seen" ["table", "keep"] (spLSeen K) := ⟨_, _, ok__law_seen F__law_seen T C__law_gcd, m__law_seen, F__law_seen.kp, b__law_seen⟩
  have C__law_leads : Cal l.prog w K mg base 2 "_law_leads" ["table"] (spLeads K) := ⟨_, _, ok__law_leads F__law_leads T C__law_gcd, m__law_leads, F__law_leads.kp, b__law_leads⟩
  have C__law_is_form : Cal l.prog w K mg base 3 "_law_is_form" ["form", "table", "base"] (spIsForm K c_Form) := ⟨_, _, ok__law_is_form F__law_is_form T O V0 C__law_whole C__law_is_point C__law_gcd, m__law_is_form, F__law_is_form.kp, b__law_is_form⟩
  have C__law_drawn : Cal l.prog w K mg base 3 "_law_drawn" ["script", "kind"] (spDrawn K) := ⟨_, _, ok__law_drawn F__law_drawn T C__law_cell C__law_digits C__law_draw_long C__law_draw_pairs C__law_table C__law_raw, m__law_drawn, F__law_drawn.kp, b__law_drawn⟩
  have C__law_is_filling : Cal l.prog w K mg base 4 "_law_is_filling" ["told", "drawn", "keep", "values", "top", "base"] (spFill K) := ⟨_, _, ok__law_is_filling F__law_is_filling T C__law_is_vector C__law_leads C__law_value, m__law_is_filling, F__law_is_filling.kp, b__law_is_filling⟩
  have C_Form : CalK l.prog w K mg base 4 "Form" c_Form 1 ["bottom"] (spForm K c_Form) := ⟨_, _, _, gF, MK_Form, ok_iForm FO_Form T O C_frozen C_check_square C_check_symmetric C_lowered, G_Form, kbF⟩
  have C1_Form : CalK1 l.prog w K mg base 4 "Form" c_Form 1 (spForm K c_Form) := ⟨_, _, _, gL, MK_Form, ok_iForm FO_Form T O C_frozen C_check_square C_check_symmetric C_lowered, G_Form, kbL⟩
  have C_mbetween : CalM l.prog w K mg base 2 c_Form "between" ["self", "one", "two"] (spBetw K c_Form) := ⟨_, _, ok_mbetween FM_mbetween T O C_check_point C_fraction C_dot, ⟨me_mbetween, mf_mbetween, mp_mbetween⟩, BM_mbetween⟩
  have C_mcall : CalI l.prog w K mg base 3 c_Form ["self", "point"] (spCall K c_Form) := ⟨_, _, ok_mcall FM_mcall T O C_mbetween, ⟨me_mcall, mf_mcall, mi_mcall⟩, BM_mcall⟩
  have C_mat : CalM l.prog w K mg base 3 c_Form "at" ["self", "passed"] (spAt K c_Form) := ⟨_, _, ok_mat FM_mat T O C_fraction C_mbetween, ⟨me_mat, mf_mat, mp_mat⟩, BM_mat⟩
  have CF__law_cell : Cal l.prog w K mg base 1 "_law_cell" ["script", "k"] (spCellF K) := ⟨_, _, okF__law_cell F__law_cell T, m__law_cell, F__law_cell.kp, b__law_cell⟩
  have CF__law_digits : Cal l.prog w K mg base 1 "_law_digits" ["cell", "sizes"] (spDigitsF K) := ⟨_, _, okF__law_digits F__law_digits T, m__law_digits, F__law_digits.kp, b__law_digits⟩
  have C_checked : EX.CalX l.prog w K mg base 5 "checked" ["form"] (spChecked K c_Form c_BelowZero) := ⟨_, _, ok_checked F_checked T U O INB BI_BelowZero C_eliminated C_settled, m_checked, F_checked.kp, b_checked⟩
  have C_leads : EX.CalX l.prog w K mg base 6 "leads" ["form"] (spLeadsF K c_Form c_BelowZero) := ⟨_, _, ok_leads F_leads T C_checked, m_leads, F_leads.kp, b_leads⟩
  have C_settling : Cal l.prog w K mg base 7 "settling" ["form", "kept"] (spSettling K c_Form) := ⟨_, _, ok_settling F_settling T O C_leads C1_Form, m_settling, F_settling.kp, b_settling⟩
  have C_seen_from : EX.CalX l.prog w K mg base 8 "seen_from" ["form", "keep"] (spSeen K c_Form c_BelowZero) := ⟨_, _, ok_seen_from F_seen_from T O C_checked C_frozen C_settling C_block_inverse C_cross C_dot C_Form, m_seen_from, F_seen_from.kp, b_seen_from⟩
  have C_filled : EX.CalX l.prog w K mg base 8 "filled" ["form", "keep", "values"] (spFilled K c_Form c_BelowZero) := ⟨_, _, ok_filled F_filled T O C_checked C_frozen C_settling C_block_inverse C_cross C_dot C_vector, m_filled, F_filled.kp, b_filled⟩
  have C__law_draw_point : Cal l.prog w K mg base 2 "_law_draw_point" ["cell", "size"] (spDpt K) := ⟨_, _, ok__law_draw_point F__law_draw_point T CF__law_digits, m__law_draw_point, F__law_draw_point.kp, b__law_draw_point⟩
  have C__law_seen_refused : Cal l.prog w K mg base 9 "_law_seen_refused" ["form", "keep"] (spSR K c_Form) := ⟨_, _, ok__law_seen_refused F__law_seen_refused T U C_seen_from, m__law_seen_refused, F__law_seen_refused.kp, b__law_seen_refused⟩
  have C__law_filled_refused : Cal l.prog w K mg base 9 "_law_filled_refused" ["form", "keep", "values"] (spFR K c_Form) := ⟨_, _, ok__law_filled_refused F__law_filled_refused T U C_filled, m__law_filled_refused, F__law_filled_refused.kp, b__law_filled_refused⟩
  have C__law_right : Cal l.prog w K mg base 9 "_law_right" ["form", "drawn", "keep", "values", "other", "q"] (spRight K c_Form) := ⟨_, _, ok__law_right F__law_right T O C__law_seen C_seen_from C__law_value C__law_is_form C__law_is_filling C__law_is_fraction C_filled C_mcall C_mat, m__law_right, F__law_right.kp, b__law_right⟩
  exact ok_law F_law T O CF__law_cell C__law_digits C__law_drawn C__law_draw_order C__law_draw_many C__law_draw_point C__law_leads C__law_seen_refused C__law_filled_refused C__law_is_point C__law_value C__law_right C_Form
theorem walk {l : PySem.W.OpenLaw} {q : Program} {loose : List Str} {XP : (Str → Option Value) → Heap → Prop} {YP : World → Heap → Prop} {d : DefRec} {K : Params → PySem.W.Frag} (hn : l.most = some 63) (hdf : d.params.defaults = [])
    (hY : ∀ (w : World) (h : Heap), YP w h → (K w.params).In h)
    (F : ∀ (w : World) (mg : Str → Option Value) (fa : Addr) (h : Heap), (K w.params).In h → h.Ns mainGlobals mg → mg d.name = some (.ref fa) →
      ∃ fd : FuncData, (∀ (s : Shared) (u : Value), BindsTo s fd ⟨[u], []⟩ [("script", u)]) ∧ ∀ base : Heap, (K w.params).In base → base.Ns mainGlobals mg → FnOk l.prog w (K w.params) mg base CX0 10 fa fd ["script"] (spLaw (K w.params))) :
    PySem.W.WalkO q loose XP YP l.row.toRowW d [] (fun f vs => PySem.call f vs) :=
  L2.walk_of (n := 63) (k := 10) (x := "script") (CX := fun _ => CX0) (sp := fun w => spLaw (K w.params)) hn (by decide) hdf ⟨rfl, by decide, by decide⟩ hY F (fun _ _ a ns hl _ hS => ⟨a, ns, rfl, hS, hl, fun _ => rfl⟩) fun _ _ _ _ _ z => z
end P09
open PySem PySem.W PyProof.Rows
set_option maxRecDepth 100000 in
set_option maxHeartbeats 0 in
theorem PySem.Challenge.cw_wholecables_k09_seen_least_holds : PySem.Challenge.rw_wholecables_k09_seen_least.Holds := by
  w_on; o_law; k_head; (case hw => w_witness2)
  k_fill
  refine P09.walk (l := PySem.Challenge.rw_wholecables_k09_seen_least) rfl rfl (fun w h Y => PySem.W.kIn_of Y) ?F
  case F =>
    intro w mg fa h KX G hmg
    refine' P09.all_mk KX G hmg ?a1 ?l1 ?c1 ?k1 ?a2 ?l2 ?c2 ?k2 ?a3 ?l3 ?c3 ?k3 ?a4 ?l4 ?c4 ?k4 ?a5 ?l5 ?c5 ?k5 ?a6 ?l6 ?c6 ?k6 ?a7 ?l7 ?c7 ?k7 ?a8 ?l8 ?c8 ?k8 ?a9 ?l9 ?c9 ?k9 ?a10 ?l10 ?c10 ?k10 ?a11 ?l11 ?c11 ?k11 ?a12 ?l12 ?c12 ?k12 ?a13 ?l13 ?c13 ?k13 ?a14 ?l14 ?c14 ?k14 ?a15 ?l15 ?c15 ?k15 ?a16 ?l16 ?c16 ?k16 ?a17 ?l17 ?c17 ?k17 ?a18 ?l18 ?c18 ?k18 ?a19 ?l19 ?c19 ?k19 ?a20 ?l20 ?c20 ?k20 ?a21 ?l21 ?c21 ?k21 ?a22 ?l22 ?c22 ?k22 ?a23 ?l23 ?c23 ?k23 ?a24 ?l24 ?c24 ?k24 ?a25 ?l25 ?c25 ?k25 ?a26 ?l26 ?c26 ?k26 ?a27 ?l27 ?c27 ?k27 ?a28 ?l28 ?c28 ?k28 ?a29 ?l29 ?c29 ?k29 ?a30 ?l30 ?c30 ?k30 ?a31 ?l31 ?c31 ?k31 ?a32 ?l32 ?c32 ?k32 ?a33 ?l33 ?c33 ?k33 ?a34 ?l34 ?c34 ?k34 ?a35 ?l35 ?c35 ?k35 ?a36 ?l36 ?c36 ?k36 ?a37 ?l37 ?c37 ?k37 ?a38 ?l38 ?c38 ?k38 ?a39 ?l39 ?c39 ?k39 ?a40 ?l40 ?c40 ?k40 ?a41 ?l41 ?c41 ?k41 ?a42 ?l42 ?c42 ?k42 ?a43 ?l43 ?c43 ?k43 ?a44 ?l44 ?c44 ?k44 ?a45 ?l45 ?c45 ?k45 ?a46 ?l46 ?c46 ?k46 ?a47 ?l47 ?c47 ?k47 ?a48 ?l48 ?c48 ?k48 ?a49 ?l49 ?c49 ?k49 ?a50 ?l50 ?c50 ?k50 ?a51 ?l51 ?c51 ?k51 ?z0 ?z1 ?z2 ?z3 ?z4 ?z5 ?z6 ?z7 ?z8 ?z9 ?z10 ?z11 ?z12 ?z13 ?z14 ?z15 ?z16 ?g_gcd ?a_CableError ?a_SizesDiffer ?a_BelowZero ?a_BadRow ?a_Form ?i_CableError ?y_CableError ?i_SizesDiffer ?y_SizesDiffer ?i_BelowZero ?y_BelowZero ?i_BadRow ?y_BadRow ?b_CableError ?b_BelowZero ?xl_BelowZero ?sa_BelowZero ?ga_BelowZero ?gg_BelowZero ?ca_BelowZero ?cm_BelowZero ?hd_BelowZero ?kp_BelowZero ?no_BelowZero_point ?in_BelowZero ?tf_BelowZero ?lf_BelowZero ?cf_BelowZero ?kf_BelowZero ?pg_Form ?hd_Form ?po_Form ?sa_Form ?mk_Form ?kc_Form ?na_Form_size ?na_Form_entries ?na_Form_bottom ?in_Form ?isf_Form ?lf_Form ?cf_Form ?kf_Form ?kd_Form ?me_mcall ?mf_mcall ?ml_mcall ?mc_mcall ?mp_mcall ?mi_mcall ?me_mbetween ?mf_mbetween ?ml_mbetween ?mc_mbetween ?mp_mbetween ?me_mat ?mf_mat ?ml_mat ?mc_mat ?mp_mat ?i_Form ?y_Form ?oc_Form ?om_Form ?cn0 ?ct0 ?s_Form_Form ?s_BelowZero_BelowZero ?s_BelowZero_CableError ?s_BelowZero_SizesDiffer ?s_BelowZero_BadRow ?sb_BelowZero_ValueError
    (case a1 => k_is)
    (case l1 => k_is)
    (case c1 => k_is)
    (case k1 => k_is)
    (case a2 => k_is)
    (case l2 => k_is)
    (case c2 => k_is)
    (case k2 => k_is)
    (case a3 => k_is)
    (case l3 => k_is)
    (case c3 => k_is)
    (case k3 => k_is)
    (case a4 => k_is)
    (case l4 => k_is)
    (case c4 => k_is)
    (case k4 => k_is)
    (case a5 => k_is)
    (case l5 => k_is)
    (case c5 => k_is)
    (case k5 => k_is)
    (case a6 => k_is)
    (case l6 => k_is)
    (case c6 => k_is)
    (case k6 => k_is)
    (case a7 => k_is)
    (case l7 => k_is)
    (case c7 => k_is)
    (case k7 => k_is)
    (case a8 => k_is)
    (case l8 => k_is)
    (case c8 => k_is)
    (case k8 => k_is)
    (case a9 => k_is)
    (case l9 => k_is)
    (case c9 => k_is)
    (case k9 => k_is)
    (case a10 => k_is)
    (case l10 => k_is)
    (case c10 => k_is)
    (case k10 => k_is)
    (case a11 => k_is)
    (case l11 => k_is)
    (case c11 => k_is)
    (case k11 => k_is)
    (case a12 => k_is)
    (case l12 => k_is)
    (case c12 => k_is)
    (case k12 => k_is)
    (case a13 => k_is)
    (case l13 => k_is)
    (case c13 => k_is)
    (case k13 => k_is)
    (case a14 => k_is)
    (case l14 => k_is)
    (case c14 => k_is)
    (case k14 => k_is)
    (case a15 => k_is)
    (case l15 => k_is)
    (case c15 => k_is)
    (case k15 => k_is)
    (case a16 => k_is)
    (case l16 => k_is)
    (case c16 => k_is)
    (case k16 => k_is)
    (case a17 => k_is)
    (case l17 => k_is)
    (case c17 => k_is)
    (case k17 => k_is)
    (case a18 => k_is)
    (case l18 => k_is)
    (case c18 => k_is)
    (case k18 => k_is)
    (case a19 => k_is)
    (case l19 => k_is)
    (case c19 => k_is)
    (case k19 => k_is)
    (case a20 => k_is)
    (case l20 => k_is)
    (case c20 => k_is)
    (case k20 => k_is)
    (case a21 => k_is)
    (case l21 => k_is)
    (case c21 => k_is)
    (case k21 => k_is)
    (case a22 => k_is)
    (case l22 => k_is)
    (case c22 => k_is)
    (case k22 => k_is)
    (case a23 => k_is)
    (case l23 => k_is)
    (case c23 => k_is)
    (case k23 => k_is)
    (case a24 => k_is)
    (case l24 => k_is)
    (case c24 => k_is)
    (case k24 => k_is)
    (case a25 => k_is)
    (case l25 => k_is)
    (case c25 => k_is)
    (case k25 => k_is)
    (case a26 => k_is)
    (case l26 => k_is)
    (case c26 => k_is)
    (case k26 => k_is)
    (case a27 => k_is)
    (case l27 => k_is)
    (case c27 => k_is)
    (case k27 => k_is)
    (case a28 => k_is)
    (case l28 => k_is)
    (case c28 => k_is)
    (case k28 => k_is)
    (case a29 => k_is)
    (case l29 => k_is)
    (case c29 => k_is)
    (case k29 => k_is)
    (case a30 => k_is)
    (case l30 => k_is)
    (case c30 => k_is)
    (case k30 => k_is)
    (case a31 => k_is)
    (case l31 => k_is)
    (case c31 => k_is)
    (case k31 => k_is)
    (case a32 => k_is)
    (case l32 => k_is)
    (case c32 => k_is)
    (case k32 => k_is)
    (case a33 => k_is)
    (case l33 => k_is)
    (case c33 => k_is)
    (case k33 => k_is)
    (case a34 => k_is)
    (case l34 => k_is)
    (case c34 => k_is)
    (case k34 => k_is)
    (case a35 => k_is)
    (case l35 => k_is)
    (case c35 => k_is)
    (case k35 => k_is)
    (case a36 => k_is)
    (case l36 => k_is)
    (case c36 => k_is)
    (case k36 => k_is)
    (case a37 => k_is)
    (case l37 => k_is)
    (case c37 => k_is)
    (case k37 => k_is)
    (case a38 => k_is)
    (case l38 => k_is)
    (case c38 => k_is)
    (case k38 => k_is)
    (case a39 => k_is)
    (case l39 => k_is)
    (case c39 => k_is)
    (case k39 => k_is)
    (case a40 => k_is)
    (case l40 => k_is)
    (case c40 => k_is)
    (case k40 => k_is)
    (case a41 => k_is)
    (case l41 => k_is)
    (case c41 => k_is)
    (case k41 => k_is)
    (case a42 => k_is)
    (case l42 => k_is)
    (case c42 => k_is)
    (case k42 => k_is)
    (case a43 => k_is)
    (case l43 => k_is)
    (case c43 => k_is)
    (case k43 => k_is)
    (case a44 => k_is)
    (case l44 => k_is)
    (case c44 => k_is)
    (case k44 => k_is)
    (case a45 => k_is)
    (case l45 => k_is)
    (case c45 => k_is)
    (case k45 => k_is)
    (case a46 => k_is)
    (case l46 => k_is)
    (case c46 => k_is)
    (case k46 => k_is)
    (case a47 => k_is)
    (case l47 => k_is)
    (case c47 => k_is)
    (case k47 => k_is)
    (case a48 => k_is)
    (case l48 => k_is)
    (case c48 => k_is)
    (case k48 => k_is)
    (case a49 => k_is)
    (case l49 => k_is)
    (case c49 => k_is)
    (case k49 => k_is)
    (case a50 => k_is)
    (case l50 => k_is)
    (case c50 => k_is)
    (case k50 => k_is)
    (case a51 => k_is)
    (case l51 => k_is)
    (case c51 => k_is)
    (case k51 => k_is)
    (case z0 => k_is)
    (case z1 => k_is)
    (case z2 => k_is)
    (case z3 => k_is)
    (case z4 => k_is)
    (case z5 => k_is)
    (case z6 => k_is)
    (case z7 => k_is)
    (case z8 => k_is)
    (case z9 => k_is)
    (case z10 => k_is)
    (case z11 => k_is)
    (case z12 => k_is)
    (case z13 => k_is)
    (case z14 => k_is)
    (case z15 => k_is)
    (case z16 => k_is)
    (case g_gcd => k_is)
    (case a_CableError => k_is)
    (case a_SizesDiffer => k_is)
    (case a_BelowZero => k_is)
    (case a_BadRow => k_is)
    (case a_Form => k_is)
    (case i_CableError => k_is)
    (case y_CableError => k_is)
    (case i_SizesDiffer => k_is)
    (case y_SizesDiffer => k_is)
    (case i_BelowZero => k_is)
    (case y_BelowZero => k_is)
    (case i_BadRow => k_is)
    (case y_BadRow => k_is)
    (case b_CableError => k_is)
    (case b_BelowZero => k_is)
    (case xl_BelowZero => k_is)
    (case sa_BelowZero => k_is)
    (case ga_BelowZero => k_is)
    (case gg_BelowZero => k_is)
    (case ca_BelowZero => k_is)
    (case cm_BelowZero => k_is)
    (case hd_BelowZero => k_is)
    (case kp_BelowZero => k_is)
    (case no_BelowZero_point => k_is)
    (case in_BelowZero => k_is)
    (case tf_BelowZero => k_is)
    (case lf_BelowZero => k_is)
    (case cf_BelowZero => k_is)
    (case kf_BelowZero => k_is)
    (case pg_Form => k_is)
    (case hd_Form => k_is)
    (case po_Form => k_is)
    (case sa_Form => k_is)
    (case mk_Form => k_is)
    (case kc_Form => k_is)
    (case na_Form_size => k_is)
    (case na_Form_entries => k_is)
    (case na_Form_bottom => k_is)
    (case in_Form => k_is)
    (case isf_Form => k_is)
    (case lf_Form => k_is)
    (case cf_Form => k_is)
    (case kf_Form => k_is)
    (case kd_Form => k_is)
    (case me_mcall => k_is)
    (case mf_mcall => k_is)
    (case ml_mcall => k_is)
    (case mc_mcall => k_is)
    (case mp_mcall => k_is)
    (case mi_mcall => k_is)
    (case me_mbetween => k_is)
    (case mf_mbetween => k_is)
    (case ml_mbetween => k_is)
    (case mc_mbetween => k_is)
    (case mp_mbetween => k_is)
    (case me_mat => k_is)
    (case mf_mat => k_is)
    (case ml_mat => k_is)
    (case mc_mat => k_is)
    (case mp_mat => k_is)
    (case i_Form => k_is)
    (case y_Form => k_is)
    (case oc_Form => k_is)
    (case om_Form => k_is)
    (case cn0 => k_is)
    (case ct0 => k_is)
    (case s_Form_Form => k_is)
    (case s_BelowZero_BelowZero => k_is)
    (case s_BelowZero_CableError => k_is)
    (case s_BelowZero_SizesDiffer => k_is)
    (case s_BelowZero_BadRow => k_is)
    (case sb_BelowZero_ValueError => k_is)
