import PyProof.Rows.All
import Wide.All
import OpenK.AllK
import Wide.FinOn
import HandS.Base
import HandS.Call
import HandS.List
import HandS.Comp
import HandS.Iter
import HandS.Walk
import HandS.Zip
import HandS.Words
import HandS.TupAny
import KE.GoesMore
import KE.GoesZip
import KE.KCallOwn
import HandS.IsInst
import HandS.Text
import HandS.Dict
import HandS.DictComp
import HandS.Flt
import HandS.TryOnly
import HandS.Ends
import HandS.WordsList
import HandS.Exc
import HandS.ExcOwn
import HandS.ExcCtx
import HandS.ExcInit
import HandS.ExcField
import HandS.ExcIs
import HandS.HotCalls
import HandS.Codes
import KE.KExcIs
import HandS.ExcValue
import KE.KOwnIter
import HandS.OwnEq
import HandS.IterNext
import HandS.Gcd
import HandS.Wide
import HandS.Rev
import HandS.MakeKwOnly
import HandS.Conv
import HandS.Style
import HandS.Defaults
import PySem.Challenge.RW_wholecables_k03_list_value_whole
set_option Elab.async false
set_option linter.all false
set_option maxRecDepth 100000
set_option maxHeartbeats 4000000
set_option maxHeartbeats 2000000
/-! Nests of ints: lists and tuples of any depth, and the same as tuples alone; comprehensions by what each turn gives; a comprehension in a comprehension. -/
namespace WK
open PySem PySem.Spec PyProof.Rows L2
inductive Td where
  | int (i : Int)
  | tup (ts : List Td)
mutual
def Td.dep : Td → Nat
  | .int _ => 0
  | .tup ts => Td.deps ts + 1
def Td.deps : List Td → Nat
  | [] => 0
  | t :: ts => max t.dep (Td.deps ts)
end
mutual
def Td.sm : Td → Prop
  | .int _ => True
  | .tup ts => ts.length ≤ 16000000 ∧ Td.sms ts
def Td.sms : List Td → Prop
  | [] => True
  | t :: ts => t.sm ∧ Td.sms ts
end
mutual
def Td.py : Td → PyData
  | .int i => .int i
  | .tup ts => .tuple (Td.pys ts)
def Td.pys : List Td → List PyData
  | [] => []
  | t :: ts => t.py :: Td.pys ts
end
theorem deps_le {ts : List Td} {t : Td} {n : Nat} (h : Td.deps ts ≤ n) (m : t ∈ ts) : t.dep ≤ n := by
  induction ts with
  | nil => cases m
  | cons x ts ih =>
    simp only [Td.deps] at h
    rcases List.mem_cons.mp m with z | z
    · rw [z]; omega
    · exact ih (by omega) z
theorem sms_of {ts : List Td} {t : Td} (h : Td.sms ts) (m : t ∈ ts) : t.sm := by
  induction ts with
  | nil => cases m
  | cons x ts ih =>
    simp only [Td.sms] at h
    rcases List.mem_cons.mp m with z | z
    · rw [z]; exact h.1
    · exact ih h.2 z
theorem sms_all {ts : List Td} (h : ∀ t ∈ ts, t.sm) : Td.sms ts := by
  induction ts with
  | nil => trivial
  | cons x ts ih => exact ⟨h x List.mem_cons_self, ih fun t m => h t (List.mem_cons_of_mem _ m)⟩
theorem deps_all {ts : List Td} {n : Nat} (h : ∀ t ∈ ts, t.dep ≤ n) : Td.deps ts ≤ n := by
  induction ts with
  | nil => exact Nat.zero_le _
  | cons x ts ih =>
    have h1 := h x List.mem_cons_self
    have h2 := ih fun t m => h t (List.mem_cons_of_mem _ m)
    simp only [Td.deps]
    omega
mutual
inductive Sn (K : PySem.W.Frag) (H : Hp) : V → Td → Prop
  | int (i : Int) : Sn K H (.int i) (.int i)
  | lst {a : Addr} {vs : List V} {ts : List Td} : H a = some (.lst vs) → SnAll K H vs ts → Sn K H (.ref a) (.tup ts)
  | tup {a : Addr} {vs : List V} {ts : List Td} : SqT K H a vs → SnAll K H vs ts → Sn K H (.ref a) (.tup ts)
inductive SnAll (K : PySem.W.Frag) (H : Hp) : List V → List Td → Prop
  | nil : SnAll K H [] []
  | cons {v : V} {vs : List V} {t : Td} {ts : List Td} : Sn K H v t → SnAll K H vs ts → SnAll K H (v :: vs) (t :: ts)
end
mutual
inductive Fz (K : PySem.W.Frag) (H : Hp) : V → Td → Prop
  | int (i : Int) : Fz K H (.int i) (.int i)
  | tup {a : Addr} {vs : List V} {ts : List Td} : SqT K H a vs → FzAll K H vs ts → Fz K H (.ref a) (.tup ts)
inductive FzAll (K : PySem.W.Frag) (H : Hp) : List V → List Td → Prop
  | nil : FzAll K H [] []
  | cons {v : V} {vs : List V} {t : Td} {ts : List Td} : Fz K H v t → FzAll K H vs ts → FzAll K H (v :: vs) (t :: ts)
end
/-- tuples stay -/
def Tk (K : PySem.W.Frag) (H H' : Hp) : Prop := ∀ a xs, SqT K H a xs → SqT K H' a xs
theorem Same_seqT {K : PySem.W.Frag} {H H' : Hp} {a : Addr} {xs : List V} (e : Same H H') (h : SqT K H a xs) : SqT K H' a xs := by
  rcases h with (h | ⟨o, h⟩) | h
  · exact .inl (.inl (e _ _ h))
  · exact .inl (.inr ⟨o, e _ _ h⟩)
  · exact .inr h
theorem Same.tk {K : PySem.W.Frag} {H H' : Hp} (e : Same H H') : Tk K H H' := fun _ _ h => Same_seqT e h
theorem tk_at {K : PySem.W.Frag} {H H' : Hp} {D : Addr} {o : HO} (hD : H D = some o) (no : ∀ xs, o ≠ .tup xs) (nf : ∀ b xs, o ≠ .frz b (.tup xs)) (e : ∀ b o, b ≠ D → H b = some o → H' b = some o) : Tk K H H' := by
  intro a xs h
  rcases h with (h | ⟨b, h⟩) | h
  · exact .inl (.inl (e _ _ (fun z => by rw [z, hD] at h; cases h; exact no _ rfl) h))
  · exact .inl (.inr ⟨b, e _ _ (fun z => by rw [z, hD] at h; cases h; exact nf _ _ rfl) h⟩)
  · exact .inr h
theorem tk_lst {K : PySem.W.Frag} {H H' : Hp} {D : Addr} {l : List V} (hD : H D = some (.lst l)) (e : ∀ b o, b ≠ D → H b = some o → H' b = some o) : Tk K H H' := tk_at hD (fun _ z => by cases z) (fun _ _ z => by cases z) e
theorem tk_ins {K : PySem.W.Frag} {H H' : Hp} {D C : Addr} {dx : Addr} {l : List (Str × V)} (hD : H D = some (.ins C dx l)) (e : ∀ b o, b ≠ D → H b = some o → H' b = some o) : Tk K H H' := tk_at hD (fun _ z => by cases z) (fun _ _ z => by cases z) e
mutual
theorem Sn.same {K : PySem.W.Frag} {H H' : Hp} (e : Same H H') : ∀ {v : V} {t : Td}, Sn K H v t → Sn K H' v t
  | _, _, .int i => .int i
  | _, _, .lst h a => .lst (e _ _ h) (SnAll.same e a)
  | _, _, .tup h a => .tup (Same_seqT e h) (SnAll.same e a)
theorem SnAll.same {K : PySem.W.Frag} {H H' : Hp} (e : Same H H') : ∀ {vs : List V} {ts : List Td}, SnAll K H vs ts → SnAll K H' vs ts
  | _, _, .nil => .nil
  | _, _, .cons h t => .cons (Sn.same e h) (SnAll.same e t)
end
mutual
theorem Fz.tk {K : PySem.W.Frag} {H H' : Hp} (e : Tk K H H') : ∀ {v : V} {t : Td}, Fz K H v t → Fz K H' v t
  | _, _, .int i => .int i
  | _, _, .tup h a => .tup (e _ _ h) (FzAll.tk e a)
theorem FzAll.tk {K : PySem.W.Frag} {H H' : Hp} (e : Tk K H H') : ∀ {vs : List V} {ts : List Td}, FzAll K H vs ts → FzAll K H' vs ts
  | _, _, .nil => .nil
  | _, _, .cons h t => .cons (Fz.tk e h) (FzAll.tk e t)
end
mutual
theorem Fz.sn {K : PySem.W.Frag} {H : Hp} : ∀ {v : V} {t : Td}, Fz K H v t → Sn K H v t
  | _, _, .int i => .int i
  | _, _, .tup h a => .tup h (FzAll.sn a)
theorem FzAll.sn {K : PySem.W.Frag} {H : Hp} : ∀ {vs : List V} {ts : List Td}, FzAll K H vs ts → SnAll K H vs ts
  | _, _, .nil => .nil
  | _, _, .cons h t => .cons (Fz.sn h) (FzAll.sn t)
end
mutual
theorem Fz.dp {K : PySem.W.Frag} {H : Hp} : ∀ {v : V} {t : Td}, Fz K H v t → Dp K H v t.py
  | _, _, .int i => by simp only [Td.py]; exact .int i
  | _, _, .tup h a => by simp only [Td.py]; exact .tup h (FzAll.dp a)
theorem FzAll.dp {K : PySem.W.Frag} {H : Hp} : ∀ {vs : List V} {ts : List Td}, FzAll K H vs ts → DpAll K H vs (Td.pys ts)
  | _, _, .nil => by simp only [Td.pys]; exact .nil
  | _, _, .cons h t => by simp only [Td.pys]; exact .cons (Fz.dp h) (FzAll.dp t)
end
theorem SnAll.len {K : PySem.W.Frag} {H : Hp} {vs : List V} {ts : List Td} (h : SnAll K H vs ts) : vs.length = ts.length := by
  induction vs generalizing ts with
  | nil => cases h; rfl
  | cons v vs ih => cases h with | cons h t => simp only [List.length_cons, ih t]
theorem FzAll.len {K : PySem.W.Frag} {H : Hp} {vs : List V} {ts : List Td} (h : FzAll K H vs ts) : vs.length = ts.length := h.sn.len
theorem SnAll.get {K : PySem.W.Frag} {H : Hp} {vs : List V} {ts : List Td} (h : SnAll K H vs ts) {i : Nat} {v : V} (e : vs[i]? = some v) : ∃ t, ts[i]? = some t ∧ Sn K H v t := by
  induction vs generalizing ts i with
  | nil => simp at e
  | cons x vs ih =>
    cases h with
    | cons h t =>
      cases i with
      | zero => cases e; exact ⟨_, rfl, h⟩
      | succ i => exact ih t e
theorem FzAll.get {K : PySem.W.Frag} {H : Hp} {vs : List V} {ts : List Td} (h : FzAll K H vs ts) {i : Nat} {v : V} (e : vs[i]? = some v) : ∃ t, ts[i]? = some t ∧ Fz K H v t := by
  induction vs generalizing ts i with
  | nil => simp at e
  | cons x vs ih =>
    cases h with
    | cons h t =>
      cases i with
      | zero => cases e; exact ⟨_, rfl, h⟩
      | succ i => exact ih t e
theorem FzAll.ints {K : PySem.W.Frag} {H : Hp} : ∀ {ns : List Int} {vs : List V}, FzAll K H vs (ns.map Td.int) → vs = ns.map V.int
  | [], _, .nil => rfl
  | n :: ns, _, .cons (.int _) t => by rw [FzAll.ints t]; rfl
theorem SnAll.ints {K : PySem.W.Frag} {H : Hp} : ∀ {ns : List Int} {vs : List V}, SnAll K H vs (ns.map Td.int) → vs = ns.map V.int
  | [], _, .nil => rfl
  | n :: ns, _, .cons (.int _) t => by rw [SnAll.ints t]; rfl
theorem FzAll.of_ints {K : PySem.W.Frag} {H : Hp} : ∀ (ns : List Int), FzAll K H (ns.map V.int) (ns.map Td.int)
  | [] => .nil
  | n :: ns => .cons (.int n) (FzAll.of_ints ns)
theorem SnAll.zero {K : PySem.W.Frag} {H : Hp} : ∀ {vs : List V} {ts : List Td}, SnAll K H vs ts → Td.deps ts ≤ 0 → FzAll K H vs ts
  | _, _, .nil, _ => .nil
  | _, _, .cons (.int i) t, h => .cons (.int i) (SnAll.zero t (by simp only [Td.deps] at h; omega))
  | _, _, .cons (.lst _ _) t, h => by simp only [Td.deps, Td.dep] at h; omega
  | _, _, .cons (.tup _ _) t, h => by simp only [Td.deps, Td.dep] at h; omega
/-- lists of things, item by item -/
def Rs {α : Type} (R : Hp → V → α → Prop) (H : Hp) (vs : List V) (zs : List α) : Prop := vs.length = zs.length ∧ ∀ (i : Nat) (v : V) (z : α), vs[i]? = some v → zs[i]? = some z → R H v z
def Stb {α : Type} (K : PySem.W.Frag) (R : Hp → V → α → Prop) : Prop := ∀ H H' v z, Tk K H H' → R H v z → R H' v z
theorem Rs.tk {α : Type} {K : PySem.W.Frag} {R : Hp → V → α → Prop} (s : Stb K R) {H H' : Hp} {vs : List V} {zs : List α} (h : Rs R H vs zs) (e : Tk K H H') : Rs R H' vs zs := ⟨h.1, fun i v z a b => s _ _ _ _ e (h.2 i v z a b)⟩
theorem Rs.nil {α : Type} {R : Hp → V → α → Prop} {H : Hp} : Rs R H [] [] := ⟨rfl, fun i v z h => by simp at h⟩
theorem Rs.snoc {α : Type} {R : Hp → V → α → Prop} {H : Hp} {vs : List V} {zs : List α} {v : V} {z : α} (h : Rs R H vs zs) (r : R H v z) : Rs R H (vs ++ [v]) (zs ++ [z]) := by
  refine ⟨by rw [List.length_append, List.length_append, h.1]; rfl, fun i u y hu hy => ?_⟩
  have hl := h.1
  by_cases hi : i < vs.length
  · rw [List.getElem?_append_left hi] at hu
    rw [List.getElem?_append_left (by omega)] at hy
    exact h.2 i u y hu hy
  · rw [List.getElem?_append_right (by omega)] at hu
    rw [List.getElem?_append_right (by omega)] at hy
    have e1 : i - vs.length = 0 := by
      rcases Nat.eq_zero_or_pos (i - vs.length) with z | z
      · exact z
      · rw [List.getElem?_eq_none (by simp only [List.length_cons, List.length_nil]; omega)] at hu; cases hu
    have e2 : i - zs.length = 0 := by omega
    rw [e1] at hu
    rw [e2] at hy
    cases hu
    cases hy
    exact r
def RI : Hp → V → Int → Prop := fun _ v z => v = .int z
def RB : Hp → V → Bool → Prop := fun _ v z => v = .bl z
theorem stb_RI {K : PySem.W.Frag} : Stb K RI := fun _ _ _ _ _ h => h
theorem stb_RB {K : PySem.W.Frag} : Stb K RB := fun _ _ _ _ _ h => h
theorem stb_Fz {K : PySem.W.Frag} : Stb K (Fz K) := fun _ _ _ _ e h => h.tk e
theorem Rs.maps {α : Type} {R : Hp → V → α → Prop} {f : α → V} (hf : ∀ H v z, R H v z → v = f z) {H : Hp} : ∀ {vs : List V} {zs : List α}, Rs R H vs zs → vs = zs.map f := fun {vs zs} h => by
  refine List.ext_getElem? fun i => ?_
  rw [List.getElem?_map]
  have hl := h.1
  by_cases hi : i < vs.length
  · have hv := List.getElem?_eq_getElem hi
    have hz : zs[i]? = some zs[i] := List.getElem?_eq_getElem (by omega)
    rw [hv, hz, hf _ _ _ (h.2 i _ _ hv hz)]
    rfl
  · rw [List.getElem?_eq_none (by omega), List.getElem?_eq_none (by omega)]
    rfl
theorem Rs.ints {H : Hp} {vs : List V} {zs : List Int} (h : Rs RI H vs zs) : vs = zs.map V.int := h.maps fun _ _ _ e => e
theorem Rs.bls {H : Hp} {vs : List V} {zs : List Bool} (h : Rs RB H vs zs) : vs = zs.map V.bl := h.maps fun _ _ _ e => e
theorem Rs.fz {K : PySem.W.Frag} {H : Hp} : ∀ {vs : List V} {ts : List Td}, Rs (Fz K) H vs ts → FzAll K H vs ts
  | [], [], _ => .nil
  | [], _ :: _, h => by have := h.1; simp at this
  | _ :: _, [], h => by have := h.1; simp at this
  | v :: vs, t :: ts, h => .cons (h.2 0 v t rfl rfl) (Rs.fz ⟨by have := h.1; simp at this; exact this, fun i u z hu hz => h.2 (i + 1) u z hu hz⟩)
theorem new_same {H : Hp} {p : Addr} (h : H p = none) (o : HO) : Same H (upd H p o) := fun b u q => by rw [upd_ne (ne_of_none q h)]; exact q
theorem ys_at {xs : List V} {i : Nat} {H H' : Hp} {x : V} (y : YAt xs i H x H') : Same H H' := by rw [y.1]; exact fun _ _ h => h
theorem ys_fn {f : Nat → V} {i : Nat} {H H' : Hp} {x : V} (y : YFn f i H x H') : Same H H' := by rw [y.1]; exact fun _ _ h => h
theorem ys_pair {xs ys : Nat → Option V} {i : Nat} {H H' : Hp} {x : V} (y : YPair xs ys i H x H') : Same H H' := by
  obtain ⟨T, _, _, _, h1, h2, _⟩ := y
  rw [h2]
  exact new_same h1 _
theorem walk_zT {K : PySem.W.Frag} {a b : Addr} {xs ys : List V} {n : Nat} (hn : n = min xs.length ys.length) : Walk (RZ.ItzT K a b) n (fun H => SqT K H a xs ∧ SqT K H b ys) (YPair (fun i => xs[i]?) (fun i => ys[i]?)) := by
  subst hn
  refine ⟨fun i _ hi q => ?_, fun _ q => ⟨xs, ys, q.1, q.2, by omega⟩, fun i H v H' _ q y => ?_⟩
  · have h1 : i < xs.length := by omega
    have h2 : i < ys.length := by omega
    exact ⟨xs, ys, xs[i], ys[i], q.1, q.2, by simp [h1], by simp [h2]⟩
  · obtain ⟨T, x, z, h1, h2, h3, h4, h5⟩ := y
    exact ⟨T, x, z, h1, h2, h3, h4 xs q.1, h5 ys q.2⟩
theorem sizes {n : Nat} (h : n ≤ 16000000) : n < sizeLine := Nat.lt_of_le_of_lt h (by rw [sizeLine_eq]; decide)
/-- what stays while the list at D grows -/
def StbD {α : Type} (D : Addr) (R : Hp → V → α → Prop) : Prop := ∀ H H' v z, (∃ l, H D = some (.lst l)) → (∀ b o, b ≠ D → H b = some o → H' b = some o) → R H v z → R H' v z
theorem Stb.at {α : Type} {K : PySem.W.Frag} {R : Hp → V → α → Prop} (s : Stb K R) (D : Addr) : StbD D R := fun _ _ _ _ ⟨_, hl⟩ e r => s _ _ _ _ (tk_lst hl e) r
theorem Rs.tkD {α : Type} {D : Addr} {R : Hp → V → α → Prop} (s : StbD D R) {H H' : Hp} {vs : List V} {zs : List α} (h : Rs R H vs zs) (hD : ∃ l, H D = some (.lst l)) (e : ∀ b o, b ≠ D → H b = some o → H' b = some o) : Rs R H' vs zs := ⟨h.1, fun i v z a b => s _ _ _ _ hD e (h.2 i v z a b)⟩
/-- a list of ints apart from D -/
def RL (D : Addr) : Hp → V → List Int → Prop := fun H v r => ∃ p, v = .ref p ∧ p ≠ D ∧ H p = some (.lst (r.map V.int))
theorem stb_RL {D : Addr} : StbD D (RL D) := fun _ _ _ _ _ e ⟨p, h1, h2, h3⟩ => ⟨p, h1, h2, e _ _ h2 h3⟩
/-- a comprehension: each turn gives one thing, or nothing -/
theorem lc_g {α β : Type} {J : It} {n : Nat} {G : Hp → Prop} {Y : Nat → Hp → V → Hp → Prop} (w : Walk J n G Y) {g : TG} {tt : TT} {te : TE} {vs : List Nat} {σ : L2.St} {H1 : Hp} {D : Addr} {Qd : Hp → Prop}
    (R : Hp → V → α → Prop) (st : StbD D R) (xs : List β) (hn : n = xs.length) (hl : xs.length ≤ 16000000) (hD : H1 D = none) (hG : ∀ H, Same H1 H → G H) (hY : ∀ i H x H', Y i H x H' → Same H H') (f : β → Option α)
    (hs : ∀ i b x H H', xs[i]? = some b → Same H1 H → Same H1 H' → Y i H x H' → (∃ l, H' D = some (.lst l)) → ∀ (A : V → Hp → Prop) (B : Hp → Prop), (∀ y z H4, f b = some z → Same H' H4 → R H4 y z → A y H4) → (f b = none → ∀ H4, Same H' H4 → B H4) →
      g x (wipe σ vs) H' fun σ2 H2 => wipe σ2 vs = wipe σ vs ∧ tt σ2 H2 fun b H3 => if b = true then te σ2 H3 A else B H3)
    (hd : ∀ H l, Same H1 H → H D = some (.lst l) → Rs R H l (xs.filterMap f) → Qd H) :
    ∃ W : Nat → Nat → Hp → Prop, (∃ m, W 0 m (upd H1 D (.lst []))) ∧ ∀ i m H, W i m H →
      (J.stop i H ∧ Qd H) ∨ (J.go i H ∧ ∃ Nx : Hp → Prop, (∀ H', Nx H' → ∃ m', m' < m ∧ W (i + 1) m' H') ∧ ∀ x H', J.yld i H x H' → g x (wipe σ vs) H' fun σ2 H2 => wipe σ2 vs = wipe σ vs ∧ tt σ2 H2 fun b H3 =>
        if b = true then te σ2 H3 fun y H4 => ∃ acc, H4 D = some (.lst acc) ∧ acc.length < sizeLine ∧ Nx (upd H4 D (.lst (acc ++ [y]))) else Nx H3) := by
  subst hn
  refine lc_it w (fun i H => Same H1 H ∧ ∃ l, H D = some (.lst l) ∧ Rs R H l ((xs.take i).filterMap f) ∧ l.length ≤ i) ⟨new_same hD _, [], upd_same, by rw [List.take_zero]; exact Rs.nil, Nat.le_refl _⟩ (fun i H _ p => hG H p.1) ?_ ?_
  · rintro i x H H' hi ⟨sm, l, hl1, rs, hlen⟩ y
    have hb : xs[i]? = some xs[i] := List.getElem?_eq_getElem hi
    have sy := hY i H x H' y
    have et : xs.take (i + 1) = xs.take i ++ [xs[i]] := by rw [List.take_add_one, hb]; rfl
    refine hs i _ x H H' hb sm (sm.trans sy) y ⟨l, sy _ _ hl1⟩ _ _ (fun v z H4 hz s4 r => ?_) (fun hz H4 s4 => ?_)
    · have h4 : H4 D = some (.lst l) := s4 _ _ (sy _ _ hl1)
      refine ⟨l, h4, sizes (by omega), fun b o e => ?_, l ++ [v], upd_same, ?_, by rw [List.length_append]; simp only [List.length_cons, List.length_nil]; omega⟩
      · rw [upd_ne (ne_of_none e hD)]
        exact s4 _ _ (sy _ _ (sm _ _ e))
      · rw [et, List.filterMap_append]
        have e1 : [xs[i]].filterMap f = [z] := by rw [List.filterMap_cons, hz]; rfl
        rw [e1]
        refine Rs.snoc (rs.tkD st ⟨l, hl1⟩ fun b o hb e => ?_) (st _ _ _ _ ⟨l, h4⟩ (fun b o hb e => ?_) r)
        · rw [upd_ne hb]
          exact s4 _ _ (sy _ _ e)
        · rw [upd_ne hb]
          exact e
    · refine ⟨sm.trans (sy.trans s4), l, s4 _ _ (sy _ _ hl1), ?_, by omega⟩
      rw [et, List.filterMap_append]
      have e1 : [xs[i]].filterMap f = [] := by rw [List.filterMap_cons, hz]; rfl
      rw [e1, List.append_nil]
      exact rs.tkD st ⟨l, hl1⟩ fun b o _ e => s4 _ _ (sy _ _ e)
  · rintro H ⟨sm, l, hl1, rs, _⟩
    rw [List.take_length] at rs
    exact hd H l sm hl1 rs
/-- the same for what stays while tuples stay -/
theorem lc_f {α β : Type} {K : PySem.W.Frag} {J : It} {n : Nat} {G : Hp → Prop} {Y : Nat → Hp → V → Hp → Prop} (w : Walk J n G Y) {g : TG} {tt : TT} {te : TE} {vs : List Nat} {σ : L2.St} {H1 : Hp} {D : Addr} {Qd : Hp → Prop}
    (R : Hp → V → α → Prop) (st : Stb K R) (xs : List β) (hn : n = xs.length) (hl : xs.length ≤ 16000000) (hD : H1 D = none) (hG : ∀ H, Same H1 H → G H) (hY : ∀ i H x H', Y i H x H' → Same H H') (f : β → Option α)
    (hs : ∀ i b x H H', xs[i]? = some b → Same H1 H → Same H1 H' → Y i H x H' → ∀ (A : V → Hp → Prop) (B : Hp → Prop), (∀ y z H4, f b = some z → Same H' H4 → R H4 y z → A y H4) → (f b = none → ∀ H4, Same H' H4 → B H4) →
      g x (wipe σ vs) H' fun σ2 H2 => wipe σ2 vs = wipe σ vs ∧ tt σ2 H2 fun b H3 => if b = true then te σ2 H3 A else B H3)
    (hd : ∀ H l, Same H1 H → H D = some (.lst l) → Rs R H l (xs.filterMap f) → Qd H) :
    ∃ W : Nat → Nat → Hp → Prop, (∃ m, W 0 m (upd H1 D (.lst []))) ∧ ∀ i m H, W i m H →
      (J.stop i H ∧ Qd H) ∨ (J.go i H ∧ ∃ Nx : Hp → Prop, (∀ H', Nx H' → ∃ m', m' < m ∧ W (i + 1) m' H') ∧ ∀ x H', J.yld i H x H' → g x (wipe σ vs) H' fun σ2 H2 => wipe σ2 vs = wipe σ vs ∧ tt σ2 H2 fun b H3 =>
        if b = true then te σ2 H3 fun y H4 => ∃ acc, H4 D = some (.lst acc) ∧ acc.length < sizeLine ∧ Nx (upd H4 D (.lst (acc ++ [y]))) else Nx H3) := lc_g w R (st.at D) xs hn hl hD hG hY f (fun i b x H H' h1 h2 h3 h4 _ => hs i b x H H' h1 h2 h3 h4) hd
/-- each turn gives one thing -/
theorem lc_m {α β : Type} {K : PySem.W.Frag} {J : It} {n : Nat} {G : Hp → Prop} {Y : Nat → Hp → V → Hp → Prop} (w : Walk J n G Y) {g : TG} {tt : TT} {te : TE} {vs : List Nat} {σ : L2.St} {H1 : Hp} {D : Addr} {Qd : Hp → Prop}
    (R : Hp → V → α → Prop) (st : Stb K R) (xs : List β) (hn : n = xs.length) (hl : xs.length ≤ 16000000) (hD : H1 D = none) (hG : ∀ H, Same H1 H → G H) (hY : ∀ i H x H', Y i H x H' → Same H H') (f : β → α)
    (hs : ∀ i b x H H', xs[i]? = some b → Same H1 H → Same H1 H' → Y i H x H' → ∀ (A : V → Hp → Prop) (B : Hp → Prop), (∀ y H4, Same H' H4 → R H4 y (f b) → A y H4) →
      g x (wipe σ vs) H' fun σ2 H2 => wipe σ2 vs = wipe σ vs ∧ tt σ2 H2 fun b H3 => if b = true then te σ2 H3 A else B H3)
    (hd : ∀ H l, Same H1 H → H D = some (.lst l) → Rs R H l (xs.map f) → Qd H) :
    ∃ W : Nat → Nat → Hp → Prop, (∃ m, W 0 m (upd H1 D (.lst []))) ∧ ∀ i m H, W i m H →
      (J.stop i H ∧ Qd H) ∨ (J.go i H ∧ ∃ Nx : Hp → Prop, (∀ H', Nx H' → ∃ m', m' < m ∧ W (i + 1) m' H') ∧ ∀ x H', J.yld i H x H' → g x (wipe σ vs) H' fun σ2 H2 => wipe σ2 vs = wipe σ vs ∧ tt σ2 H2 fun b H3 =>
        if b = true then te σ2 H3 fun y H4 => ∃ acc, H4 D = some (.lst acc) ∧ acc.length < sizeLine ∧ Nx (upd H4 D (.lst (acc ++ [y]))) else Nx H3) := by
  refine lc_f w R st xs hn hl hD hG hY (fun b => some (f b)) (fun i b x H H' hb s1 s2 y A B ha _ => hs i b x H H' hb s1 s2 y A B fun v H4 s4 r => ha v _ H4 rfl s4 r) fun H l s1 hl1 rs => hd H l s1 hl1 ?_
  rw [show (fun b => some (f b)) = some ∘ f from rfl, List.filterMap_eq_map] at rs
  exact rs
theorem lc_gm {α β : Type} {J : It} {n : Nat} {G : Hp → Prop} {Y : Nat → Hp → V → Hp → Prop} (w : Walk J n G Y) {g : TG} {tt : TT} {te : TE} {vs : List Nat} {σ : L2.St} {H1 : Hp} {D : Addr} {Qd : Hp → Prop}
    (R : Hp → V → α → Prop) (st : StbD D R) (xs : List β) (hn : n = xs.length) (hl : xs.length ≤ 16000000) (hD : H1 D = none) (hG : ∀ H, Same H1 H → G H) (hY : ∀ i H x H', Y i H x H' → Same H H') (f : β → α)
    (hs : ∀ i b x H H', xs[i]? = some b → Same H1 H → Same H1 H' → Y i H x H' → (∃ l, H' D = some (.lst l)) → ∀ (A : V → Hp → Prop) (B : Hp → Prop), (∀ y H4, Same H' H4 → R H4 y (f b) → A y H4) →
      g x (wipe σ vs) H' fun σ2 H2 => wipe σ2 vs = wipe σ vs ∧ tt σ2 H2 fun b H3 => if b = true then te σ2 H3 A else B H3)
    (hd : ∀ H l, Same H1 H → H D = some (.lst l) → Rs R H l (xs.map f) → Qd H) :
    ∃ W : Nat → Nat → Hp → Prop, (∃ m, W 0 m (upd H1 D (.lst []))) ∧ ∀ i m H, W i m H →
      (J.stop i H ∧ Qd H) ∨ (J.go i H ∧ ∃ Nx : Hp → Prop, (∀ H', Nx H' → ∃ m', m' < m ∧ W (i + 1) m' H') ∧ ∀ x H', J.yld i H x H' → g x (wipe σ vs) H' fun σ2 H2 => wipe σ2 vs = wipe σ vs ∧ tt σ2 H2 fun b H3 =>
        if b = true then te σ2 H3 fun y H4 => ∃ acc, H4 D = some (.lst acc) ∧ acc.length < sizeLine ∧ Nx (upd H4 D (.lst (acc ++ [y]))) else Nx H3) := by
  refine lc_g w R st xs hn hl hD hG hY (fun b => some (f b)) (fun i b x H H' hb s1 s2 y hd2 A B ha _ => hs i b x H H' hb s1 s2 y hd2 A B fun v H4 s4 r => ha v _ H4 rfl s4 r) fun H l s1 hl1 rs => hd H l s1 hl1 ?_
  rw [show (fun b => some (f b)) = some ∘ f from rfl, List.filterMap_eq_map] at rs
  exact rs
/-- a comprehension in a comprehension -/
def rl (scope sc : Scope) : Scope := { scope with names := scope.names.map fun (n, k) => if (k == .free && sc.kind == .function && sc.names.lookup n == some .cell) then (n, .cell) else (n, k) }
theorem blk_nest {N : List Str} {scope inner sc0 : Scope} {own : List (Str × Nat)} {cl : List (Str × Addr)} {C : Addr} {env : Env} (e : env.scope = sc0) (h : blkC N (rl scope sc0) inner own = true) : BlkOk N (compEnvC scope cl C env).scope inner own := by
  subst e
  exact blkOk_by h
theorem pi_tupK {X : Cx} {K : PySem.W.Frag} {tg e : Expr} {te : TE} (hK : X.K = K) (h : PE X e te) : PI X tg e (iTup K te) := by
  subst hK
  exact pi_tup h
theorem sl_tupAK {X : Cx} {K : PySem.W.Frag} (hK : X.K = K) : SlR X (rSlA K) := by
  subst hK
  exact sl_tupA
theorem pe_fldK {X : Cx} {K : PySem.W.Frag} {e : Expr} {ta : TE} {f : Str} {p : Pos} (hK : X.K = K) (h : PE X e ta) (hb : attributeBase e f X.env (eval e X.env) = eval e X.env) : PE X (.Attribute e f p) (tFld K ta f) := by
  subst hK
  exact pe_fld h hb
theorem pi_listK {X : Cx} {K : PySem.W.Frag} {tg e : Expr} {te : TE} (hK : X.K = K) (h : PE X e te) : PI X tg e (iList K te) := by
  subst hK
  exact pi_list h
end WK
/-! Ties of a web, their strengths over the common part, rows, matrices. -/
namespace P03
open PySem L2 WK
def gI (t b : Int) : Int := ((Nat.gcd t.natAbs b.natAbs : Nat) : Int)
theorem gI_pos {t b : Int} (ht : 0 < t) : 0 < gI t b := by
  have : 0 < Nat.gcd t.natAbs b.natAbs := Nat.gcd_pos_of_pos_left _ (by omega)
  unfold gI
  omega
theorem gI_pos' {t b : Int} (hb : 0 < b) : 0 < gI t b := by
  have : 0 < Nat.gcd t.natAbs b.natAbs := Nat.gcd_pos_of_pos_right _ (by omega)
  unfold gI
  omega
theorem gI_le {t b : Int} (ht : 0 < t) : gI t b ≤ t := by
  have : Nat.gcd t.natAbs b.natAbs ≤ t.natAbs := Nat.le_of_dvd (by omega) (Nat.gcd_dvd_left _ _)
  unfold gI
  omega
theorem gI_dvd1 {t b : Int} : gI t b ∣ t := by
  unfold gI
  exact Int.ofNat_dvd_left.mpr (Nat.gcd_dvd_left _ _)
theorem gI_dvd2 {t b : Int} : gI t b ∣ b := by
  unfold gI
  exact Int.ofNat_dvd_left.mpr (Nat.gcd_dvd_right _ _)
/-- the common part of a bottom and some numbers -/
def gf (b : Int) (ns : List Int) : Int := ns.foldl gI b
theorem gf_pos {b : Int} (hb : 0 < b) : ∀ (ns : List Int), 0 < gf b ns := fun ns => by
  induction ns generalizing b with
  | nil => exact hb
  | cons n ns ih => exact ih (gI_pos hb)
theorem gf_le {b : Int} (hb : 0 < b) : ∀ (ns : List Int), gf b ns ≤ b := fun ns => by
  induction ns generalizing b with
  | nil => exact Int.le_refl _
  | cons n ns ih => exact Int.le_trans (ih (gI_pos hb)) (gI_le hb)
theorem gf_dvd {b : Int} : ∀ (ns : List Int), gf b ns ∣ b ∧ ∀ n ∈ ns, gf b ns ∣ n := fun ns => by
  induction ns generalizing b with
  | nil => exact ⟨Int.dvd_refl _, fun n h => by cases h⟩
  | cons n ns ih =>
    have h := ih (b := gI b n)
    refine ⟨Int.dvd_trans h.1 gI_dvd1, fun m hm => ?_⟩
    rcases List.mem_cons.mp hm with e | e
    · rw [e]
      exact Int.dvd_trans h.1 gI_dvd2
    · exact h.2 m e
theorem gf_snoc (b : Int) (ns : List Int) (n : Int) : gf b (ns ++ [n]) = gI (gf b ns) n := by
  unfold gf
  rw [List.foldl_append]
  rfl
abbrev B (n : Nat) (x : Int) : Prop := x.natAbs < 2 ^ n
theorem B.mono {m n : Nat} {x : Int} (h : B m x) (hl : m ≤ n) : B n x := Nat.lt_of_lt_of_le h (Nat.pow_le_pow_right (by decide) hl)
theorem B.mul {m n : Nat} {x y : Int} (hx : B m x) (hy : B n y) : B (m + n) (x * y) := by
  show (x * y).natAbs < 2 ^ (m + n)
  rw [Int.natAbs_mul, Nat.pow_add]
  exact Nat.mul_lt_mul'' hx hy
theorem B.le {n : Nat} {x y : Int} (h0 : 0 ≤ x) (h : x ≤ y) (hy : B n y) : B n x := Nat.lt_of_le_of_lt (by omega) hy
theorem B.div {n : Nat} {x g : Int} (hg : 0 < g) (hx : B n x) : B n (x / g) := by
  show (x / g).natAbs < 2 ^ n
  exact Nat.lt_of_le_of_lt (Int.natAbs_ediv_le_natAbs x g) hx
abbrev T3 := Int × Int × Int
def td3 (t : T3) : Td := .tup [.int t.1, .int t.2.1, .int t.2.2]
def imin (i j : Int) : Int := if j < i then j else i
def imax (i j : Int) : Int := if j > i then j else i
def srt (t : T3) : T3 := (imin t.1 t.2.1, imax t.1 t.2.1, t.2.2)
/-- a tie of a web with pl places -/
structure OkT (pl : Int) (t : T3) : Prop where
  ne : t.1 ≠ t.2.1
  a0 : 0 ≤ t.1
  a1 : t.1 < pl
  b0 : 0 ≤ t.2.1
  b1 : t.2.1 < pl
  s1 : 1 ≤ t.2.2
  s2 : B 400 t.2.2
/-- the ties as a web keeps them, and its bottom -/
def wg (ts : List T3) (b : Int) : Int := gf b (ts.map (·.2.2))
def wt (ts : List T3) (b : Int) : List T3 := ts.map fun t => (imin t.1 t.2.1, imax t.1 t.2.1, t.2.2 / wg ts b)
def wb (ts : List T3) (b : Int) : Int := b / wg ts b
/-- the row of a tie -/
def b2 (p : Bool) : Int := if p then 1 else 0
def trow (pl : Int) (t : T3) : List Int := (List.range pl.toNat).map fun (k : Nat) => b2 (decide (V.int (0 + (k : Int)) = V.int t.1)) - b2 (decide (V.int (0 + (k : Int)) = V.int t.2.1))
abbrev RW := List Int × Int
def tdr (p : RW) : Td := .tup [.tup (p.1.map Td.int), .int p.2]
def wsum (ps : List RW) (i j : Nat) : Int := (ps.map fun p => p.2 * p.1.getD i 0 * p.1.getD j 0).sum
def wmat (n : Nat) (ps : List RW) : List (List Int) := (List.range n).map fun i => (List.range n).map fun j => wsum ps i j
def tdm (m : List (List Int)) : Td := .tup (m.map fun r => .tup (r.map Td.int))
theorem wsum_sym (ps : List RW) (i j : Nat) : wsum ps i j = wsum ps j i := by
  unfold wsum
  congr 1
  refine List.map_congr_left fun p _ => ?_
  rw [Int.mul_assoc, Int.mul_comm (p.1.getD i 0), ← Int.mul_assoc]
end P03
set_option maxHeartbeats 2000000
/-! enumerate over a tuple. -/
namespace WE
open PySem PySem.Spec PyProof.Rows L2
/-- enumerate(v): its two new cells -/
theorem meets_enB {v : Value} {o : Obj} {G : Heap → Prop} (B : Begins v o G) :
    Meets (Builtin.«enumerate.__new__» ⟨[.type "enumerate", v], []⟩) (fun _ R s => G s.heap ∧
      R (.ok (.ret (.ref (s.heap.push o).objs.size))) { s with heap := (s.heap.push o).push { cls := .type "enumerate", data := .fields #[.none, .bool false, .ref s.heap.objs.size, rawInt 0, .none, .none] } }) :=
  .of_wp fun prog w A R s h => by
    obtain ⟨hp, g, d, tk, os⟩ := s
    obtain ⟨h1, h⟩ := h
    have hsub := sub_enumerate
    have q1 : ∀ {A' : Around} {E : Value → Shared → Prop} {Q : Value → Shared → Prop}, Q (.ref hp.objs.size) ⟨hp.push o, g, d, tk, os⟩ → wpAny (model prog w) A' (pyIter v) Q E ⟨hp, g, d, tk, os⟩ :=
      fun q => B.iter prog w _ _ ⟨hp, g, d, tk, os⟩ _ h1 q
    wp_walk using q1
    refine wpAny_stack_any fun st => wpAny_pure ?_
    split
    · rename_i c _ _ _ _ _
      cases (c == Value.type "enumerate") <;> (wp_walk using q1; exact ⟨_, rfl, h⟩)
    · wp_walk using q1
      exact ⟨_, rfl, h⟩
theorem enB {prog : Program} {w : World} {A : Around} {E : Value → Shared → Prop} {s : Shared} {v : Value} {o : Obj} {G : Heap → Prop} {Q : Value → Shared → Prop} (B : Begins v o G) (h1 : G s.heap)
    (h : ∀ h', IsEnum h' (s.heap.objs.size + 1) s.heap.objs.size 0 .none → h'.get? s.heap.objs.size = some o → h'.objs.size = s.heap.objs.size + 2 →
      (∀ b o, s.heap.get? b = some o → h'.get? b = some o) → Q (.ref (s.heap.objs.size + 1)) { s with heap := h' }) :
    wpAny (model prog w) A (call (.type "enumerate") [v]) Q E s := by
  refine callType_new F.called_enumerate (by decide) (F.typeCall_enumerate_1 _) (F.newCall_enumerate_1 _) (fun obj => F.args_object_init_2 obj _) F.entry_enumerate_new (meets_enB B) ⟨h1, ?_⟩
  have hz : (s.heap.push o).objs.size = s.heap.objs.size + 1 := Heap.size_push ..
  show _ ∧ _
  rw [hz]
  have he : IsEnum ((s.heap.push o).push { cls := .type "enumerate", data := .fields #[.none, .bool false, .ref s.heap.objs.size, rawInt 0, .none, .none] }) (s.heap.objs.size + 1) s.heap.objs.size 0 .none := by
    have := Heap.get?_push_size (s.heap.push o) (o := { cls := .type "enumerate", data := .fields #[.none, .bool false, .ref s.heap.objs.size, rawInt 0, .none, .none] }) rfl
    rw [hz] at this
    exact this
  exact ⟨⟨_, he, rfl⟩, h _ he (Heap.get?_push_of_some _ (Heap.get?_push_size _ B.free)) (by rw [Heap.size_push, hz]) fun b o x => Heap.get?_push_of_some _ (Heap.get?_push_of_some _ x)⟩
/-- the tuple at a, each item in a new pair with its place -/
def IteT (K : PySem.W.Frag) (a : Addr) : It :=
  ⟨fun i H => ∃ (xs : List V) (x : V), SqT K H a xs ∧ xs[i]? = some x, fun i H v H' => ∃ T x, v = .ref T ∧ H T = none ∧ H' = upd H T (.tup [.int (i : Nat), x]) ∧ ∀ xs, SqT K H a xs → xs[i]? = some x, fun i H => ∃ xs : List V, SqT K H a xs ∧ xs.length ≤ i⟩
theorem turn_enT {P : Program} {w : World} {K : PySem.W.Frag} {elts : List Expr} {kk : Nat} {tpos : Pos} (a e it : Addr) :
    Turn P w K (.Tuple elts kk tpos) (IteT K a) [e, it] e (fun i h => (∃ old, IsEnum h e it ((i : Nat) : Int) old) ∧ h.IsTupleIter it a i ∧ e ≠ it) where
  mem := List.mem_cons_self
  obj := fun i h st b hb => by
    obtain ⟨⟨old, he⟩, ⟨o, ho, hc, hd⟩, _⟩ := st
    rcases List.mem_cons.mp hb with z | z
    · rw [z]
      exact ⟨_, he, fun v q => nomatch q⟩
    · rw [List.mem_singleton.mp z]
      exact ⟨o, ho, fun v q => by rw [hd] at q; cases q⟩
  keep := fun i h h' st k => by
    obtain ⟨⟨old, he⟩, hi, hne⟩ := st
    exact ⟨⟨old, k e (by simp) _ he⟩, hi.at fun o q => k it (by simp) o q, hne⟩
  item := by
    intro X hP hw hK hc i pins s σ H E I hf st hg
    subst hP hw hK
    obtain ⟨⟨old, he⟩, hit, hne⟩ := st
    obtain ⟨xs, x, hq, hx⟩ := hg
    obtain ⟨its, rv, p, hz⟩ := I.tuple hq
    obtain ⟨u, hu, ru⟩ := rv.get hx
    have hel : e < s.heap.objs.size := Heap.lt_size he
    have hil : it < s.heap.objs.size := by
      obtain ⟨_, q, _⟩ := hit
      exact Heap.lt_size q
    have hai : a ≠ it := fun z => by
      obtain ⟨o1, g1, d1, _⟩ := p
      obtain ⟨o2, g2, d2, _⟩ := hit
      rw [z, g2] at g1
      cases g1
      rw [d2] at d1
      injection d1 with d3
      exact absurd d3 (by decide)
    have hae : e ∉ [it, a] := fun z => by
      rcases List.mem_cons.mp z with z | z
      · exact hne z
      · obtain ⟨o1, g1, d1, _⟩ := p
        rw [← List.mem_singleton.mp z, he] at g1
        cases g1
        injection d1 with d3
        exact absurd d3 (by decide)
    have hlt : i < its.toArray.size := by
      rw [List.size_toArray]
      exact (List.getElem?_eq_some_iff.mp hu).1
    refine wpAny_pyNext_enum_itemD (Draws.tuple (prog := X.prog) (w := X.w) (A := X.A.in1) (I.ok.hd hc) it a hai its.toArray) he ⟨hit, p⟩ hlt hne hae fun u' h' tk hP' ho hst hT hsz hk => ?_
    have eu : u' = u := by
      have e1 : its.toArray[i]? = some u := by rw [List.getElem?_toArray]; exact hu
      exact Option.some.inj ((show its.toArray[i]? = some u' from hP').symm.trans e1)
    subst eu
    refine ⟨_, rfl, wpAny_letOwnedTupleGo_enum (s := { s with heap := h', toks := tk + 1 }) ho fun h'' he' sb => ?_⟩
    have hT2 : h''.get? s.heap.objs.size = some { cls := .type "tuple", data := .seq #[.int i tk, u'] } := (sb.2 _ (Nat.ne_of_gt hel)).trans hT
    have new : ObjOk X.prog X.w (upd H s.heap.objs.size (.tup [.int (i : Nat), x])) h'' s.heap.objs.size (.tup [.int (i : Nat), x]) :=
      ⟨by show 2 ≤ sizeLine; decide, [.int i tk, u'], .cons ⟨_, rfl⟩ (.cons ru .nil), ⟨_, hT2, rfl, _, rfl⟩⟩
    have I1 : Inv X pins σ (upd H s.heap.objs.size (.tup [.int (i : Nat), x])) { s with heap := h'', toks := tk + 1 } :=
      I.turnedNew (ch := [e, it]) (fun b ob hb q => (sb.2 b (fun z => hb (by simp [z]))).trans (hk b ob (fun z => hb (by simp [z])) (fun z => hb (by simp [z])) q)) hf (Nat.le_refl _) new
    refine ⟨.ref s.heap.objs.size, _, I1, rfl, ⟨_, x, rfl, I.hok.fresh (Nat.le_refl _), rfl, fun ys hy => by rw [I.tuple_inj hy hq]; exact hx⟩, ⟨⟨u', ?_⟩, hst.1.at fun o q => (sb.2 it (Ne.symm hne)).trans q, hne⟩, fun b hb => ?_⟩
    · have e1 : ((i + 1 : Nat) : Int) = (i : Int) + 1 := by omega
      rw [e1]
      exact he'
    · have hb' : b < s.heap.objs.size := by
        rcases List.mem_cons.mp hb with z | z
        · rw [z]
          exact hel
        · rw [List.mem_singleton.mp z]
          exact hil
      rw [upd_ne (Nat.ne_of_lt hb')]
      exact (hf b hb).1
  done := by
    intro X hP hw hK hc i pins s σ H E I hf st hg
    subst hP hw hK
    obtain ⟨⟨old, he⟩, hit, hne⟩ := st
    obtain ⟨xs, hq, hx⟩ := hg
    obtain ⟨its, rv, p, hz⟩ := I.tuple hq
    obtain ⟨f0, f1, f2, f3, f4, f5⟩ := hf it (by simp)
    have hl := rv.length
    have hT : s.TypeIs (.ref e) "enumerate" := ⟨_, he, rfl⟩
    unfold pyNext
    refine wpAny_bind (wpAny_attempt (wpAny_callSpecial?_slot (name := Str.ofString "__next__") hT F.slot_enumerate_next
      (wpAny_call_entry F.slot_enumerate_next hT F.entry_enumerate_next ?_ (F.args_enumerate_next_1 _))))
    show wpAny _ _ (field (.ref e) 2 >>= _) _ _ _
    refine wpAny_bind (wpAny_field he rfl (x := .ref it) rfl ?_)
    refine wpAny_bind (wpAny_nextOf_tuple_end (I.ok.hd hc) hit p (by simp; omega) fun h' x eb hx' => ?_)
    obtain ⟨o, ho, hcl⟩ := hx'
    refine wpAny_bind (wpAny_isInstance (T := "StopIteration") (b := true) ⟨o, ho, hcl⟩ isSubtype_stop ?_)
    exact wpAny_pure ⟨rfl, I.turned (t' := s.toks) (fun b o hb q => eb b o hb q) f0 f1 f3 f4 f5⟩
  self := fun A i s Q E st h => let ⟨⟨_, he⟩, _⟩ := st; wpAny_pyIter_enum he h
def iEnT (K : PySem.W.Frag) (ta : TA) : TI := fun σ H R => ta σ H fun vs H1 => ∃ a xs, vs = [.ref a] ∧ SqT K H1 a xs ∧ R (IteT K a) H1
theorem pi_enT {X : Cx} {e : Expr} {ta : TA} {p pos tpos : Pos} {elts : List Expr} {kk : Nat} (hg : Gl X "enumerate") (hm : X.mg "enumerate" = none) (ha : PA X [e] ta) (hs : starEach [e] X.env = [(false, eval e X.env)] := by rfl) :
    PI X (.Tuple elts kk tpos) (.Call (.Name "enumerate" p) [e] [] pos) (iEnT X.K ta) := by
  refine ⟨fun pins s σ H R I h => ?_⟩
  refine Call_ (ld_blt I hg hm boot_enumerate (PyProof.Rows.callWith_type1 (thn (ha.run pos pins s σ H _ I h) fun us s1 ⟨vs, H1, I1, r1, q1⟩ => ?_) hs rfl))
  obtain ⟨a, xs, ex, hq, q⟩ := q1
  subst ex
  obtain ⟨u, rfl, ru⟩ := vals1 r1
  cases ru
  obtain ⟨its, rv, p', hz⟩ := I1.tuple hq
  refine enB (begins_tuple a its.toArray) p' fun h' he hit hsz hk => wpAny_pyIter_enum he ?_
  have I2 : Inv X pins σ H1 { s1 with heap := h' } := I1.kept (t' := s1.toks) hk
  refine ⟨s1.heap.objs.size + 1, [s1.heap.objs.size + 1, s1.heap.objs.size], _, _, H1, rfl, I2, turn_enT a (s1.heap.objs.size + 1) s1.heap.objs.size, ⟨⟨.none, he⟩, ⟨_, hit, rfl, rfl⟩, Nat.succ_ne_self _⟩, fun b hb => ?_, q⟩
  have hle : s1.heap.objs.size ≤ b := by
    rcases List.mem_cons.mp hb with z | z
    · rw [z]
      exact Nat.le_add_right _ _
    · rw [List.mem_singleton.mp z]
      exact Nat.le_refl _
  exact I1.fpOk hle (I1.hok.fresh hle)
theorem walk_enT {K : PySem.W.Frag} {a : Addr} {xs : List V} : Walk (IteT K a) xs.length (fun H => SqT K H a xs) (YPair (fun i => some (.int (i : Nat))) (fun i => xs[i]?)) := by
  refine ⟨fun i _ hi q => ⟨xs, xs[i], q, by simp [hi]⟩, fun _ q => ⟨xs, q, Nat.le_refl _⟩, fun i H v H' _ q y => ?_⟩
  obtain ⟨T, x, h1, h2, h3, h4⟩ := y
  exact ⟨T, .int (i : Nat), x, h1, h2, h3, rfl, h4 xs q⟩
end WE
set_option maxHeartbeats 2000000
/-! zip of two sequences, each of them a list or a tuple. -/
namespace WZ
open PySem PySem.Spec PyProof.Rows L2
/-- a list (true) or a tuple (false) -/
def Sq (k : Bool) (K : PySem.W.Frag) (H : Hp) (a : Addr) (xs : List V) : Prop := if k = true then SqL K H a xs else SqT K H a xs
def Ob (k : Bool) (h : Heap) (a : Addr) (its : Array Value) : Prop := if k = true then h.IsList a its else h.IsTuple a its
def Ir (k : Bool) (h : Heap) (it a : Addr) (i : Nat) : Prop := if k = true then h.IsListIter it a i else h.IsTupleIter it a i
def itO (k : Bool) (a : Addr) : Obj := if k = true then { cls := .type "list_iterator", data := .fields #[.ref a, .int 0 0] } else { cls := .type "tuple_iterator", data := .fields #[.ref a, .int 0 0] }
theorem Ir.at {k : Bool} {h h' : Heap} {it a : Addr} {i : Nat} (x : Ir k h it a i) (e : ∀ o, h.get? it = some o → h'.get? it = some o) : Ir k h' it a i := by
  cases k with
  | true => exact (show h.IsListIter it a i from x).at e
  | false => exact (show h.IsTupleIter it a i from x).at e
theorem Ir.obj {k : Bool} {h : Heap} {it a : Addr} {i : Nat} (x : Ir k h it a i) : ∃ o, h.get? it = some o ∧ ∀ v, o.data ≠ .cell v := by
  cases k with
  | true =>
    obtain ⟨o, e, _, d⟩ := (show h.IsListIter it a i from x)
    exact ⟨o, e, fun v q => by rw [d] at q; cases q⟩
  | false =>
    obtain ⟨o, e, _, d⟩ := (show h.IsTupleIter it a i from x)
    exact ⟨o, e, fun v q => by rw [d] at q; cases q⟩
theorem Ob.lt {k : Bool} {h : Heap} {a : Addr} {its : Array Value} (x : Ob k h a its) : a < h.objs.size := by
  cases k with
  | true =>
    obtain ⟨o, e, _⟩ := (show h.IsList a its from x)
    exact Heap.lt_size e
  | false =>
    obtain ⟨o, e, _⟩ := (show h.IsTuple a its from x)
    exact Heap.lt_size e
theorem draw {prog : Program} {w : World} {A : Around} (hh : A.handled = none) (k : Bool) (it a : Addr) (hne : a ≠ it) (items : Array Value) :
    Draws prog w A it [it, a] items.size (fun i v => items[i]? = some v) (fun i h => Ir k h it a i ∧ Ob k h a items) := by
  cases k with
  | true => exact Draws.list hh it a hne items
  | false => exact Draws.tuple hh it a hne items
theorem begin {k : Bool} (a : Addr) (items : Array Value) : Begins (.ref a) (itO k a) fun h => Ob k h a items := by
  cases k with
  | true => exact begins_list a items
  | false => exact begins_tuple a items
theorem obj_of {X : Cx} {pins : List (Addr × Obj)} {σ : L2.St} {H : Hp} {s : Shared} {k : Bool} {a : Addr} {xs : List V} (I : Inv X pins σ H s) (h : Sq k X.K H a xs) : ∃ its : List Value, Vals xs its ∧ Ob k s.heap a its.toArray := by
  cases k with
  | true =>
    obtain ⟨its, rv, p, _⟩ := I.list (show SqL X.K H a xs from h)
    exact ⟨its, rv, p.isList⟩
  | false =>
    obtain ⟨its, rv, p, _⟩ := I.tuple (show SqT X.K H a xs from h)
    exact ⟨its, rv, p⟩
theorem inj {X : Cx} {pins : List (Addr × Obj)} {σ : L2.St} {H : Hp} {s : Shared} {k : Bool} {a : Addr} {xs ys : List V} (I : Inv X pins σ H s) (h : Sq k X.K H a xs) (h' : Sq k X.K H a ys) : xs = ys := by
  cases k with
  | true => exact I.list_inj h h'
  | false => exact I.tuple_inj h h'
/-- the sequences at a and b as they stand at each turn, the items in new pairs -/
def ItzA (K : PySem.W.Frag) (k l : Bool) (a b : Addr) : It :=
  ⟨fun i H => ∃ (xs ys : List V) (x y : V), Sq k K H a xs ∧ Sq l K H b ys ∧ xs[i]? = some x ∧ ys[i]? = some y,
    fun i H v H' => ∃ T x y, v = .ref T ∧ H T = none ∧ H' = upd H T (.tup [x, y]) ∧ (∀ xs, Sq k K H a xs → xs[i]? = some x) ∧ ∀ ys, Sq l K H b ys → ys[i]? = some y,
    fun i H => ∃ xs ys : List V, Sq k K H a xs ∧ Sq l K H b ys ∧ i ≤ xs.length ∧ i ≤ ys.length ∧ (i = xs.length ∨ i = ys.length)⟩
theorem turn_zipA {P : Program} {w : World} {K : PySem.W.Frag} {k l : Bool} {elts : List Expr} {kk : Nat} {tpos : Pos} {a b z TI TO i1 i2 : Addr} (D : ZipSep2 z TI TO i1 i2 [i1, a] [i2, b]) :
    Turn P w K (.Tuple elts kk tpos) (ItzA K k l a b) [z, TI, TO, i1, i2] z (fun i h => IsZip h z TI TO .none ∧ IsTupOf2 h TI (.ref i1) (.ref i2) ∧ (∃ x y, IsTupOf2 h TO x y) ∧ Ir k h i1 a i ∧ Ir l h i2 b i) where
  mem := by simp
  obj := fun i h st c hc => by
    obtain ⟨hz, hTI, ⟨x, y, hTO⟩, h1, h2⟩ := st
    have e' : c = z ∨ c = TI ∨ c = TO ∨ c = i1 ∨ c = i2 := by simpa using hc
    rcases e' with q | q | q | q | q
    · rw [q]; exact ⟨_, hz, fun v q => nomatch q⟩
    · rw [q]; exact ⟨_, hTI, fun v q => nomatch q⟩
    · rw [q]; exact ⟨_, hTO, fun v q => nomatch q⟩
    · rw [q]; exact h1.obj
    · rw [q]; exact h2.obj
  keep := fun i h h' st k => by
    obtain ⟨hz, hTI, ⟨x, y, hTO⟩, h1, h2⟩ := st
    exact ⟨k z (by simp) _ hz, k TI (by simp) _ hTI, ⟨x, y, k TO (by simp) _ hTO⟩, h1.at fun o q => k i1 (by simp) o q, h2.at fun o q => k i2 (by simp) o q⟩
  item := by
    intro X hP hw hK hc i pins s σ H E I hf st hg
    subst hP hw hK
    obtain ⟨hz, hTI, ⟨x0, y0, hTO⟩, h1, h2⟩ := st
    obtain ⟨xs, ys, x, y, hqx, hqy, hx, hy⟩ := hg
    obtain ⟨its, rv, p⟩ := obj_of I hqx
    obtain ⟨its2, rv2, p2⟩ := obj_of I hqy
    obtain ⟨u, hu, ru⟩ := rv.get hx
    obtain ⟨u2, hu2, ru2⟩ := rv2.get hy
    have hzl : z < s.heap.objs.size := Heap.lt_size hz
    have l1 : i < its.toArray.size := by
      rw [List.size_toArray]
      exact (List.getElem?_eq_some_iff.mp hu).1
    have l2 : i < its2.toArray.size := by
      rw [List.size_toArray]
      exact (List.getElem?_eq_some_iff.mp hu2).1
    have n1 : a ≠ i1 := fun e => by
      have := D.sep1_2
      obtain ⟨o, ho, _⟩ := h1.obj
      cases k with
      | true =>
        obtain ⟨o1, g1, c1, d1⟩ := (show s.heap.IsListIter i1 a i from h1)
        obtain ⟨o2, g2, c2, _⟩ := (show s.heap.IsList a its.toArray from p)
        rw [e, g1] at g2
        cases g2
        rw [c1] at c2
        injection c2 with c3
        exact absurd c3 (by decide)
      | false =>
        obtain ⟨o1, g1, c1, d1⟩ := (show s.heap.IsTupleIter i1 a i from h1)
        obtain ⟨o2, g2, c2, _⟩ := (show s.heap.IsTuple a its.toArray from p)
        rw [e, g1] at g2
        cases g2
        rw [c1] at c2
        injection c2 with c3
        exact absurd c3 (by decide)
    have n2 : b ≠ i2 := fun e => by
      cases l with
      | true =>
        obtain ⟨o1, g1, c1, d1⟩ := (show s.heap.IsListIter i2 b i from h2)
        obtain ⟨o2, g2, c2, _⟩ := (show s.heap.IsList b its2.toArray from p2)
        rw [e, g1] at g2
        cases g2
        rw [c1] at c2
        injection c2 with c3
        exact absurd c3 (by decide)
      | false =>
        obtain ⟨o1, g1, c1, d1⟩ := (show s.heap.IsTupleIter i2 b i from h2)
        obtain ⟨o2, g2, c2, _⟩ := (show s.heap.IsTuple b its2.toArray from p2)
        rw [e, g1] at g2
        cases g2
        rw [c1] at c2
        injection c2 with c3
        exact absurd c3 (by decide)
    refine wpAny_pyNext_zipD2_item D (draw (prog := X.prog) (w := X.w) (A := X.A.in1) (I.ok.hd hc) k i1 a n1 its.toArray) (draw (prog := X.prog) (w := X.w) (A := X.A.in1) (I.ok.hd hc) l i2 b n2 its2.toArray) hz hTI hTO ⟨h1, p⟩ ⟨h2, p2⟩ l1 l2 fun x1 x2 h' tk hx1 hx2 z' TO' h1' h2' hT hsz hk => ?_
    have eu : x1 = u := by
      have e1 : its.toArray[i]? = some u := by rw [List.getElem?_toArray]; exact hu
      exact Option.some.inj ((show its.toArray[i]? = some x1 from hx1).symm.trans e1)
    have eu2 : x2 = u2 := by
      have e1 : its2.toArray[i]? = some u2 := by rw [List.getElem?_toArray]; exact hu2
      exact Option.some.inj ((show its2.toArray[i]? = some x2 from hx2).symm.trans e1)
    subst eu eu2
    refine ⟨_, rfl, wpAny_letOwnedTupleGo_zip (s := { s with heap := h', toks := tk }) z' fun h'' z'' sb => ?_⟩
    have hT2 : h''.get? s.heap.objs.size = some { cls := .type "tuple", data := .seq #[x1, x2] } := (sb.2 _ (Nat.ne_of_gt hzl)).trans hT
    have new : ObjOk X.prog X.w (upd H s.heap.objs.size (.tup [x, y])) h'' s.heap.objs.size (.tup [x, y]) :=
      ⟨by show 2 ≤ sizeLine; decide, [x1, x2], .cons ru (.cons ru2 .nil), ⟨_, hT2, rfl, _, rfl⟩⟩
    have I1 : Inv X pins σ (upd H s.heap.objs.size (.tup [x, y])) { s with heap := h'', toks := tk } :=
      I.turnedNew (t' := tk) (ch := [z, TI, TO, i1, i2]) (fun c o hb q => (sb.2 c (fun q' => hb (by simp [q']))).trans (hk c o (fun q' => hb (by simp [q'])) (fun q' => hb (by simp [q'])) (fun q' => hb (by simp [q'])) (fun q' => hb (by simp [q'])) q)) hf (Nat.le_refl _) new
    refine ⟨.ref s.heap.objs.size, _, I1, rfl, ⟨_, x, y, rfl, I.hok.fresh (Nat.le_refl _), rfl, fun l hl => by rw [inj I hl hqx]; exact hx, fun l hl => by rw [inj I hl hqy]; exact hy⟩, ⟨z'', ?_, ⟨x1, x2, ?_⟩, ?_, ?_⟩, fun c hcm => ?_⟩
    · exact (sb.2 _ D.TIz).trans (hk _ _ D.TIz D.TITO D.TIi1 D.TIi2 hTI)
    · exact (sb.2 _ D.TOz).trans TO'
    · exact h1'.1.at fun o q => (sb.2 _ (Ne.symm D.zi1)).trans q
    · exact h2'.1.at fun o q => (sb.2 _ (Ne.symm D.zi2)).trans q
    · have hlt : c < s.heap.objs.size := by
        have e' : c = z ∨ c = TI ∨ c = TO ∨ c = i1 ∨ c = i2 := by simpa using hcm
        rcases e' with q | q | q | q | q
        · rw [q]; exact hzl
        · rw [q]; exact Heap.lt_size hTI
        · rw [q]; exact Heap.lt_size hTO
        · rw [q]; obtain ⟨_, e1, _⟩ := h1.obj; exact Heap.lt_size e1
        · rw [q]; obtain ⟨_, e2, _⟩ := h2.obj; exact Heap.lt_size e2
      rw [upd_ne (Nat.ne_of_lt hlt)]
      exact (hf c hcm).1
  done := by
    intro X hP hw hK hc i pins s σ H E I hf st hg
    subst hP hw hK
    obtain ⟨hz, hTI, ⟨x0, y0, hTO⟩, h1, h2⟩ := st
    obtain ⟨xs, ys, hqx, hqy, g1, g2, hend⟩ := hg
    obtain ⟨its, rv, p⟩ := obj_of I hqx
    obtain ⟨its2, rv2, p2⟩ := obj_of I hqy
    have l1 := rv.length
    have l2 := rv2.length
    have n1 : a ≠ i1 := fun e => by
      cases k with
      | true =>
        obtain ⟨o1, g1, c1, d1⟩ := (show s.heap.IsListIter i1 a i from h1)
        obtain ⟨o2, g2, c2, _⟩ := (show s.heap.IsList a its.toArray from p)
        rw [e, g1] at g2
        cases g2
        rw [c1] at c2
        injection c2 with c3
        exact absurd c3 (by decide)
      | false =>
        obtain ⟨o1, g1, c1, d1⟩ := (show s.heap.IsTupleIter i1 a i from h1)
        obtain ⟨o2, g2, c2, _⟩ := (show s.heap.IsTuple a its.toArray from p)
        rw [e, g1] at g2
        cases g2
        rw [c1] at c2
        injection c2 with c3
        exact absurd c3 (by decide)
    have n2 : b ≠ i2 := fun e => by
      cases l with
      | true =>
        obtain ⟨o1, g1, c1, d1⟩ := (show s.heap.IsListIter i2 b i from h2)
        obtain ⟨o2, g2, c2, _⟩ := (show s.heap.IsList b its2.toArray from p2)
        rw [e, g1] at g2
        cases g2
        rw [c1] at c2
        injection c2 with c3
        exact absurd c3 (by decide)
      | false =>
        obtain ⟨o1, g1, c1, d1⟩ := (show s.heap.IsTupleIter i2 b i from h2)
        obtain ⟨o2, g2, c2, _⟩ := (show s.heap.IsTuple b its2.toArray from p2)
        rw [e, g1] at g2
        cases g2
        rw [c1] at c2
        injection c2 with c3
        exact absurd c3 (by decide)
    refine wpAny_pyNext_zipD2_end D (draw (prog := X.prog) (w := X.w) (A := X.A.in1) (I.ok.hd hc) k i1 a n1 its.toArray) (draw (prog := X.prog) (w := X.w) (A := X.A.in1) (I.ok.hd hc) l i2 b n2 its2.toArray) hz hTI hTO ⟨h1, p⟩ ⟨h2, p2⟩ (by rw [List.size_toArray]; omega) (by rw [List.size_toArray]; omega) (by rw [List.size_toArray, List.size_toArray]; omega) fun h' tk hk => ⟨rfl, I.turnedL (t' := tk) (ch := [z, TI, TO, i1, i2]) (fun c o hb q =>
      hk c o (fun q' => hb (by simp [q'])) (fun q' => hb (by simp [q'])) (fun q' => hb (by simp [q'])) (fun q' => hb (by simp [q'])) q) hf⟩
  self := fun A i s Q E st h => wpAny_pyIter_zip st.1 h
theorem sep {n a b : Nat} (la : a < n) (lb : b < n) : ZipSep2 (n + 4) (n + 2) (n + 3) n (n + 1) [n, a] [n + 1, b] := by
  constructor
  all_goals
    try simp only [List.mem_cons, List.not_mem_nil, or_false, not_or, ne_eq, true_or]
    try simp only [Nat.add_right_inj, Nat.reduceEqDiff, not_false_eq_true]
    try first | (refine ⟨True.intro, fun (h : n + 4 = b) => by omega⟩) | (refine ⟨True.intro, fun (h : n + 3 = b) => by omega⟩) | exact fun (h : n = n + 1) => by omega | (refine ⟨fun (h : n + 4 = n) => by omega, fun (h : n + 4 = a) => by omega⟩) | (refine ⟨fun (h : n + 3 = n) => by omega, fun (h : n + 3 = a) => by omega⟩) | (refine ⟨fun (h : n + 4 = n + 1) => by omega, fun (h : n + 4 = b) => by omega⟩) | (refine ⟨fun (h : n + 3 = n + 1) => by omega, fun (h : n + 3 = b) => by omega⟩) | (refine ⟨fun (h : n = n + 1) => by omega, fun (h : n = b) => by omega⟩) | (refine ⟨fun (h : n + 1 = n) => by omega, fun (h : n + 1 = a) => by omega⟩) | exact fun (h : n + 2 = n) => by omega | exact fun (h : n + 2 = n + 1) => by omega | exact fun (h : n + 2 = n + 4) => by omega | exact fun (h : n + 3 = n + 4) => by omega | exact fun (h : n + 2 = n + 3) => by omega
theorem walk_zA {K : PySem.W.Frag} {k l : Bool} {a b : Addr} {xs ys : List V} {n : Nat} (hx : n = xs.length) (hy : n = ys.length) : Walk (ItzA K k l a b) n (fun H => Sq k K H a xs ∧ Sq l K H b ys) (YPair (fun i => xs[i]?) (fun i => ys[i]?)) := by
  subst hx
  refine ⟨fun i _ hi q => ?_, fun _ q => ⟨xs, ys, q.1, q.2, Nat.le_refl _, by omega, .inl rfl⟩, fun i H v H' _ q y => ?_⟩
  · have h1 : i < xs.length := by omega
    have h2 : i < ys.length := by omega
    exact ⟨xs, ys, xs[i], ys[i], q.1, q.2, by simp [h1], by simp [h2]⟩
  · obtain ⟨T, x, z, h1, h2, h3, h4, h5⟩ := y
    exact ⟨T, x, z, h1, h2, h3, h4 xs q.1, h5 ys q.2⟩
def iZipB (K : PySem.W.Frag) (ta : TA) : TI := fun σ H R => ta σ H fun vs H1 => ∃ (k l : Bool) (a b : Addr) (xs ys : List V), vs = [.ref a, .ref b] ∧ Sq k K H1 a xs ∧ Sq l K H1 b ys ∧ R (ItzA K k l a b) H1
theorem pi_zipB {X : Cx} {e e2 : Expr} {ta : TA} {p pos tpos : Pos} {elts : List Expr} {kk : Nat} (hg : Gl X "zip") (hm : X.mg "zip" = none) (ha : PA X [e, e2] ta)
    (hs : starEach [e, e2] X.env = (false, eval e X.env) :: starEach [e2] X.env := by rfl) (hpl : (backTo pos (starEach [e2] X.env)).any (·.1) = false := by rfl) :
    PI X (.Tuple elts kk tpos) (.Call (.Name "zip" p) [e, e2] [] pos) (iZipB X.K ta) := by
  refine ⟨fun pins s σ H R I h => ?_⟩
  refine Call_ (ld_blt I hg hm PyProof.Rows.boot_zip (PyProof.Rows.callWith_type1 (thn (ha.run pos pins s σ H _ I h) fun us s1 ⟨vs, H1, I1, r1, q1⟩ => ?_) hs hpl))
  obtain ⟨k, l, a, b, xs, ys, ex, hqx, hqy, q⟩ := q1
  subst ex
  cases r1 with
  | cons r rr =>
    cases rr with
    | cons r' rr =>
      cases rr
      cases r
      cases r'
      obtain ⟨its, rv, p1⟩ := obj_of I1 hqx
      obtain ⟨its2, rv2, p2⟩ := obj_of I1 hqy
      have la := p1.lt
      have lb := p2.lt
      refine zip_begins2 (begin (k := k) a its.toArray) (begin (k := l) b its2.toArray) p1 p2 fun h' hz hTI hTO h1 h2 hsz hk => wpAny_pyIter_zip hz ?_
      have I2 : Inv X pins σ H1 { s1 with heap := h' } := I1.kept (t' := s1.toks) hk
      have D : ZipSep2 (s1.heap.objs.size + 4) (s1.heap.objs.size + 2) (s1.heap.objs.size + 3) s1.heap.objs.size (s1.heap.objs.size + 1) [s1.heap.objs.size, a] [s1.heap.objs.size + 1, b] := by
        exact sep la lb
      refine ⟨s1.heap.objs.size + 4, [s1.heap.objs.size + 4, s1.heap.objs.size + 2, s1.heap.objs.size + 3, s1.heap.objs.size, s1.heap.objs.size + 1], _, _, H1, rfl, I2, turn_zipA (k := k) (l := l) D, ⟨hz, hTI, ⟨_, _, hTO⟩, ?_, ?_⟩, fun c hcm => ?_, q⟩
      · cases k with
        | true => exact ⟨_, h1, rfl, rfl⟩
        | false => exact ⟨_, h1, rfl, rfl⟩
      · cases l with
        | true => exact ⟨_, h2, rfl, rfl⟩
        | false => exact ⟨_, h2, rfl, rfl⟩
      · have hle : s1.heap.objs.size ≤ c := by
          have e' : c = s1.heap.objs.size + 4 ∨ c = s1.heap.objs.size + 2 ∨ c = s1.heap.objs.size + 3 ∨ c = s1.heap.objs.size ∨ c = s1.heap.objs.size + 1 := by simpa using hcm
          rcases e' with z | z | z | z | z
          · rw [z]; exact Nat.le_add_right _ _
          · rw [z]; exact Nat.le_add_right _ _
          · rw [z]; exact Nat.le_add_right _ _
          · rw [z]; exact Nat.le_refl _
          · rw [z]; exact Nat.le_add_right _ _
        exact I1.fpOk hle (I1.hok.fresh hle)
end WZ
set_option maxHeartbeats 2000000
/-! An instance of one's own class is called: x(e, ..), where x is a local name. -/
namespace WC
open PySem PySem.Spec PyProof.Rows L2
theorem keeper_inst {M : Model} {h : Heap} {x : Addr} {o : Obj} (ho : h.get? x = some o) (hd : o.data = .plain) : PySem.W.Looks M h (keeperOf (.ref x)) .caller := by
  refine PySem.W.Looks.andThen (PySem.W.Looks.ld (part := none) ho) ?_
  rw [hd]
  exact PySem.W.Looks.now
theorem callWith_inst {M : Model} {A : Around} {E : Value → Shared → Prop} {s : Shared} {env : Env} {pos : Pos} {x : Addr} {o : Obj} {e : Expr} {es : List Expr} {Q : Value → Shared → Prop} (hd : o.data = .plain)
    (h : wpAny M A (spliced (backTo pos (starEach (e :: es) env))) (fun us s1 => s1.heap.get? x = some o ∧ wpAny M A (call (.ref x) us) Q E s1) E s)
    (he : starEach (e :: es) env = (false, eval e env) :: starEach es env) (hpl : (backTo pos (starEach es env)).any (·.1) = false) :
    wpAny M A (callWith pos (.ref x) [] (backTo pos (starEach (e :: es) env)) []) Q E s := by
  rw [he] at h ⊢
  have hs : ((backTo pos ((false, eval e env) :: starEach es env)).any (·.1) || ([] : List (Option Str × Sem Value)).any (·.1.isNone)) = false := by
    show ((false || (backTo pos (starEach es env)).any (·.1)) || false) = false
    rw [hpl]
    rfl
  unfold callWith
  refine wpAny_bind (wpAny_holding (wpAny_mono (PySem.Calls.evalArgs_plain (Q := fun a s1 => s1.heap.get? x = some o ∧ a.kw = [] ∧ wpAny M A (call (.ref x) a.pos) Q E s1) (wpAny_mono h (fun us s1 z => ⟨z.1, rfl, z.2⟩) fun _ _ y => y)) (fun a s1 z => ?_) fun _ _ y => y))
  obtain ⟨z1, z2, z3⟩ := z
  obtain ⟨ap, ak⟩ := a
  dsimp only at z2 z3
  subst z2
  refine wpAny_bind (wpAny_standAt ?_)
  dsimp only
  simp only [hs]
  refine wpAny_bind ((keeper_inst z1 hd).here ?_)
  refine wpAny_bind (wpAny_mono (wpAny_operateT (m := call (.ref x) ([] ++ ap)) z3) (fun r s2 hr => wpAny_bind (wpAny_holding (wpAny_point (wpAny_pure hr)))) fun _ _ y => y)
/-- what a class must have that its instances may be called -/
structure Cl (K : PySem.W.Frag) (C f : Addr) : Prop where
  at_ : PySem.W.findIn K (.ref C) "__call__" = some (some (.ref f))
  fn : PySem.W.isFn K (.ref f) = true
  fi : PySem.W.fnIn K f = true
/-- the i-th slot holds an instance of the class at C -/
def tCallI (i : Nat) (C : Addr) (sp : Sp) (E : XK) (t : TA) : TE := fun σ H Q => ∃ a dx fs, σ[i]? = some (some (.ref a)) ∧ H a = some (.ins C dx fs) ∧ t σ H fun vs H1 => H1 a = some (.ins C dx fs) ∧ sp (.ref a :: vs) H1 Q E
theorem pe_callI {X : Cx} {CX : CXT} {k i : Nat} {f C : Addr} {fd : FuncData} {ps : List Str} {sp : Sp} {E : XK} {x : Str} {p pos : Pos} {e : Expr} {es : List Expr} {t : TA}
    (F : FnOk X.prog X.w X.K X.mg X.base CX k f fd ps sp) (L : Cl X.K C f) (hr : Room k X.A) (hN : X.N[i]? = some x) (hv : Vis X.env.scope x) (hb : Binds X.K fd ps []) (hx : Passes CX X E) (ha : PA X (e :: es) t)
    (hdb : (x == ("__debug__" : Str)) = false := by decide) (hcd : (x == ("__classdict__" : Str)) = false := by decide)
    (he : starEach (e :: es) X.env = (false, eval e X.env) :: starEach es X.env := by rfl) (hpl : (backTo pos (starEach es X.env)).any (·.1) = false := by rfl) :
    PE X (.Call (.Name x p) (e :: es) [] pos) (tCallI i C sp E t) := by
  refine ⟨fun pins s σ H Q I h => ?_⟩
  obtain ⟨a, dx, fs, hs, hi, ht⟩ := h
  refine wpAny_Call_Name_kw (thn ((pe_var (pos := p) hN hv hdb hcd).run pins s σ H (fun v H1 => v = .ref a ∧ H1 = H) I ⟨.ref a, hs, rfl, rfl⟩) fun u s1 ⟨v, H1, I1, r1, q1⟩ => ?_)
  obtain ⟨rfl, rfl⟩ := q1
  cases r1
  refine callWith_inst (o := PySem.W.instObj C dx) rfl (thn (ha.run pos pins s1 σ _ _ I1 ht) fun us s2 ⟨vs, H2, I2, r, q⟩ => ?_) he hpl
  obtain ⟨q1, q2⟩ := q
  obtain ⟨mA, O, _⟩ := ins_get I2.hok q1
  obtain ⟨od, J, _⟩ := O.look
  refine ⟨O.obj, ?_⟩
  have r3 : Vals (.ref a :: vs) (.ref a :: us) := .cons rfl r
  have hl : ((.ref a :: us) ++ ([] : List Value)).length = ps.length := by rw [List.append_nil, ← r3.length]; exact F.len _ _ _ _ q2
  have run := F.run X.A X.stack s2 H2 ⟨.ref a :: us, []⟩ (.ref a :: us) (.ref a :: vs) Q E hr I2.env0 (by have := hb s2 (.ref a :: us) I2.kIn hl; rw [List.append_nil] at this; exact this) r3 q2
  refine wpAny_call (codeAny_mono (PySem.W.kco_code (a := ⟨us, []⟩) I2.kIn J rfl L.at_ L.fn L.fi run) fun r s' hq => ?_)
  cases r with
  | error e => exact hx pins σ H2 s2 e s' I2 hq
  | ok fl =>
    cases fl with
    | ret u => exact I2.after hq
    | next => exact False.elim hq
    | brk => exact False.elim hq
    | cont => exact False.elim hq
/-- a square of a wide int -/
def CSq (i j : Int) : Prop := j = 2 ∧ i.natAbs < 2 ^ 4000
theorem op_sq {X : Cx} : OpR X (binaryOp .Pow) (rI CSq fun i j => .int (i ^ j.toNat)) := opI fun i j _ _ _ _ _ hc q => by
  have hb := PyProof.Rows.intBits_le hc.2
  exact PyProof.Rows.pow_int (by rw [hc.1]; decide) (by rw [hc.1]; omega) q
end WC
/-! A rule for «match e: case 'a': .. case _: ..» over a text. -/
namespace L2
open PySem PySem.Spec PyProof.Rows
/-- the cases of a match, of a value -/
structure PM (X : Cx) (cs : List MatchCase) (t : V → TS) : Prop where
  run : ∀ (pins : List (Addr × Obj)) (s : Shared) (σ : St) (H : Hp) (D : Ends) (v : V) (u : Value) (first : Bool), Inv X pins σ H s → RelV v u → t v D σ H → wpAny (model X.prog X.w) X.A (matchCases cs X.env u first) (SP X pins D) X.xe s
section
variable {X : Cx}
def tMNil : V → TS := fun _ D σ H => D.nx σ H
def tMStr (x : Str) (tb : TS) (tr : V → TS) : V → TS := fun v D σ H => ∃ y, v = .str y ∧ if decide (y = x) = true then tb D σ H else tr (.str y) D σ H
def tMAny (tb : TS) : V → TS := fun _ D σ H => tb D σ H
theorem pm_nil : PM X [] tMNil := ⟨fun pins s σ H D v u first I r h => wpAny_matchCases_nil ⟨σ, H, I, h⟩⟩
theorem pm_str {x : Str} {j p1 p2} {body : List Stmt} {rest : List MatchCase} {tb : TS} {tr : V → TS} (hb : PSs X body tb) (hr : PM X rest tr) :
    PM X (⟨.MatchValue (.Constant (.str x) j p1) p2, none, body⟩ :: rest) (tMStr x tb tr) := by
  refine ⟨fun pins s σ H D v u first I r h => ?_⟩
  obtain ⟨y, rfl, q⟩ := h
  obtain ⟨t, rfl⟩ := r
  refine wpAny_matchCases_cons (wpAny_matchPattern_Value (Calls.Constant_str ?_))
  refine eq_str ?_
  refine wpAny_truthy_bool ?_
  by_cases e : y = x
  · have e1 : (y == x) = true := by rw [e]; exact beq_self_eq_true x
    rw [if_pos (decide_eq_true e)] at q
    first
      | rw [e1]
      | (rw [decide_eq_true e])
    show wpAny _ X.A (assignInOrder [] []) _ _ _
    exact wpAny_assignInOrder_none (hb.run pins _ σ H D (I.tok _) q)
  · have e1 : (y == x) = false := beq_eq_false_iff_ne.mpr e
    rw [if_neg (by rw [decide_eq_false e]; exact Bool.false_ne_true)] at q
    first
      | rw [e1]
      | (rw [decide_eq_false e])
    exact hr.run pins _ σ H D (.str y) _ false (I.tok _) ⟨t, rfl⟩ q
theorem pm_any {p2} {body : List Stmt} {tb : TS} (hb : PSs X body tb) : PM X [⟨.MatchAs none none p2, none, body⟩] (tMAny tb) := by
  refine ⟨fun pins s σ H D v u first I r h => ?_⟩
  refine wpAny_matchCases_cons (wpAny_matchPattern_Capture ?_)
  show wpAny _ X.A (assignInOrder [] []) _ _ _
  exact wpAny_assignInOrder_none (hb.run pins _ σ H D I h)
def tMatch (te : TE) (t : V → TS) : TS := fun D σ H => te σ H fun v H1 => t v D σ H1
theorem ps_match {e : Expr} {cs : List MatchCase} {pos : Pos} {te : TE} {t : V → TS} (he : PE X e te) (hc : PM X cs t) : PS X (.Match e cs pos) (tMatch te t) := by
  refine ⟨fun pins s σ H D I h => ?_⟩
  refine wpAny_Match (thn (he.run pins s σ H _ I h) fun u s1 ⟨v, H1, I1, r1, q1⟩ => ?_)
  exact hc.run pins s1 σ H1 D v u true I1 r1 q1
/-! the rules that speak of the written part, with K said outright: for a comprehension's block, where the context is bound -/
section
variable {X : Cx}
theorem ix_tupK {K : PySem.W.Frag} (h : X.K = K) : IxR X (rIxT K) := by subst h; exact ix_tup
theorem ix_listK {K : PySem.W.Frag} (h : X.K = K) : IxR X (rIxL K) := by subst h; exact ix_list
theorem sl_listK {K : PySem.W.Frag} (h : X.K = K) : SlR X (rSlL K) := by subst h; exact sl_list
theorem sl_tupK {K : PySem.W.Frag} (h : X.K = K) : SlR X (rSlT K) := by subst h; exact sl_tup
theorem op_in_seqK {K : PySem.W.Frag} (h : X.K = K) : OpR X (compareOp .In) (rIn K false) := by subst h; exact op_in_seq
theorem op_notIn_seqK {K : PySem.W.Frag} (h : X.K = K) : OpR X (compareOp .NotIn) (rIn K true) := by subst h; exact op_notIn_seq
theorem call_len_seqK {K : PySem.W.Frag} (h : X.K = K) : CallR X (.builtin "len") (fun xs H Q => ∃ p ys, xs = [.ref p] ∧ (SqL K H p ys ∨ SqT K H p ys) ∧ Q (.int ys.length) H) := by subst h; exact call_len_seq
theorem call_isiK1 {K : PySem.W.Frag} (h : X.K = K) : CallR X (.builtin "isinstance") (rIsi K) := by subst h; exact call_isi
theorem cr_allK {K : PySem.W.Frag} (h : X.K = K) (hc : X.calm = true) : CallR X (.builtin "all") (rAll K) := by subst h; exact cr_all hc
theorem cr_anyK {K : PySem.W.Frag} (h : X.K = K) (hc : X.calm = true) : CallR X (.builtin "any") (rAny K) := by subst h; exact cr_any hc
theorem cr_sumK {K : PySem.W.Frag} (h : X.K = K) (hc : X.calm = true) : CallR X (.builtin "sum") (rSum K) := by subst h; exact cr_sum hc
end
end
end L2
/-! Rules for «one or the other», max of three ints, the written part's letter said outright. -/
namespace L2
open PySem PySem.Spec PyProof.Rows
section
variable {X : Cx}
theorem pi_or {tg iter : Expr} {w1 w2 : TI} (h1 : PI X tg iter w1) (h2 : PI X tg iter w2) : PI X tg iter (fun σ H R => w1 σ H R ∨ w2 σ H R) :=
  ⟨fun pins s σ H R I h => h.elim (h1.run pins s σ H R I) (h2.run pins s σ H R I)⟩
theorem pg_or {tg : Expr} {g1 g2 : TG} (h1 : PG X tg g1) (h2 : PG X tg g2) : PG X tg (fun v σ H Q => g1 v σ H Q ∨ g2 v σ H Q) :=
  ⟨fun pins s σ H v u Q I r h => h.elim (h1.run pins s σ H v u Q I r) (h2.run pins s σ H v u Q I r)⟩
theorem ix_or : IxR X (fun x y H Q => rIxL X.K x y H Q ∨ rIxT X.K x y H Q) := ix_list.or ix_tup
theorem ix_orK {K : PySem.W.Frag} (h : X.K = K) : IxR X (fun x y H Q => rIxL K x y H Q ∨ rIxT K x y H Q) := by subst h; exact ix_or
theorem call_max3I (hc : X.calm = true) : CallR X (.builtin "max") (fun xs H Q => ∃ i j k : Int, xs = [.int i, .int j, .int k] ∧ Q (.int (if k > (if j > i then j else i) then k else (if j > i then j else i))) H) := by
  intro pins s σ H xs us Q I r h
  obtain ⟨i, j, k, rfl, q⟩ := h
  have e : nuMax3 (.int i) (.int j) (.int k) = some (.int (if k > (if j > i then j else i) then k else (if j > i then j else i))) := by
    have two : ∀ a b : Int, nuMax2 (.int a) (.int b) = some (.int (if b > a then b else a)) := fun a b => by
      show some (if decide (a < b) = true then V.int b else V.int a) = _
      by_cases h : b > a
      · rw [if_pos (decide_eq_true (show a < b from h)), if_pos h]
      · rw [if_neg (by rw [decide_eq_false (show ¬ a < b from h)]; exact Bool.false_ne_true), if_neg h]
    unfold nuMax3
    rw [two i j]
    exact two _ k
  exact call_max3Nu hc pins s σ H _ us Q I r ⟨_, _, _, _, rfl, e, q⟩
theorem call_list_ofK {K : PySem.W.Frag} (h : X.K = K) : CallR X (.type "list") (fun xs H Q => ∃ p ys, xs = [.ref p] ∧ (SqL K H p ys ∨ SqT K H p ys) ∧ ∀ l, H l = none → Q (.ref l) (upd H l (.lst ys))) := by subst h; exact call_list_of
theorem call_tuple_ofK {K : PySem.W.Frag} (h : X.K = K) : CallR X (.type "tuple") (fun xs H Q => ∃ p ys, xs = [.ref p] ∧ ((SqL K H p ys ∧ ∀ l, H l = none → Q (.ref l) (upd H l (.tup ys))) ∨ (SqT K H p ys ∧ Q (.ref p) H))) := by subst h; exact call_tuple_of
theorem pg_tupK {K : PySem.W.Frag} {es : List Expr} {k : Nat} {t : TGs} {n : Nat} {pos : Pos} (hK : X.K = K) (hc : X.calm = true) (h : PGs X es t)
    (hn : (assignEach es X.env).length = n := by rfl) (hst : (assignEach es X.env).findIdx? (·.1) = none := by rfl) : PG X (.Tuple es k pos) (gTup K n t) := by subst hK; exact pg_tup hc h hn hst
theorem pg_lstK {K : PySem.W.Frag} {es : List Expr} {k : Nat} {t : TGs} {n : Nat} {pos : Pos} (hK : X.K = K) (hc : X.calm = true) (h : PGs X es t)
    (hn : (assignEach es X.env).length = n := by rfl) (hst : (assignEach es X.env).findIdx? (·.1) = none := by rfl) : PG X (.Tuple es k pos) (gLst K n t) := by subst hK; exact pg_lst hc h hn hst
end
section
variable {X : Cx}
/-- y = {..}, a dict comprehension stored in its own statement -/
theorem ps_setDc {i : Nat} {y : Str} {py : Pos} {kx vx tg iter : Expr} {ifs : List Expr} {scope : Scope} {own : List (Str × Nat)} {pos spos : Pos} {wi : TI} {g : TG} {tt : TT} {tk tv : TE} (hc : X.calm = true) (hN : X.N.Nodup) (hy : X.N[i]? = some y) (hyl : X.env.scope.names.lookup y = some .local)
    (hsw : swapsWith (.DictComp kx vx [⟨tg, iter, ifs, 0⟩] scope pos) (some (.Name y py)) spos.line X.env = pure true) (hi : PI X tg iter wi) (ok : BlkOk X.N X.env.scope scope own)
    (hg : ∀ (s : Shared) (H : Hp) (C : Addr) (cl : List (Str × Addr)) (fp : List Addr), PG (X.blk s H scope (compEnvC scope cl C X.env) fp) tg g) (ht : ∀ (s : Shared) (H : Hp) (C : Addr) (cl : List (Str × Addr)) (fp : List Addr), PTs (X.blk s H scope (compEnvC scope cl C X.env) fp) ifs tt)
    (hk : ∀ (s : Shared) (H : Hp) (C : Addr) (cl : List (Str × Addr)) (fp : List Addr), PE (X.blk s H scope (compEnvC scope cl C X.env) fp) kx tk)
    (he : ∀ (s : Shared) (H : Hp) (C : Addr) (cl : List (Str × Addr)) (fp : List Addr), PE (X.blk s H scope (compEnvC scope cl C X.env) fp) vx tv) (hs : ∀ x, foldedSetIterable iter X.env x = pure x := by intro _; rfl) :
    PS X (.Assign [.Name y py] (.DictComp kx vx [⟨tg, iter, ifs, 0⟩] scope pos) spos) (tAsg (tDc wi g tt tk tv (own.map (·.2))) (gName i)) := by
  refine ⟨fun pins s σ H D I h => ?_⟩
  rw [exec_Assign_Name_used _ _ _ _ hsw]
  refine wpAny_bind (wpAny_standAt (wpAny_bind ?_))
  show wpAny _ X.A (do let _ ← comprehension (.DictComp kx vx [⟨tg, iter, ifs, 0⟩] scope pos) scope X.env (firstIterPos [⟨tg, iter, ifs, 0⟩] pos) newDict false (eval iter X.env) (some (assign (.Name y py) X.env))) _ _ s
  have h : tDc wi g tt tk tv (own.map (·.2)) σ H (fun x H1 => gName i x σ H1 D.nx) := h
  refine wpAny_bind (thn (dc_core (Qf := fun _ s' => SP X pins D .next s') hc hN I hi ok hg ht hk he hs h fun L C s' m H' I' q hn f => ?_) fun _ s' hq => wpAny_pure (wpAny_pure hq))
  show wpAny _ _ (assign (.Name y py) X.env (.ref L)) _ _ _
  refine wpAny_assign_Name (store_ok2 (v := V.ref L) I' hN hy (.inl hyl) rfl (fun s2 I2 hex => ?_) (.inr hyl))
  obtain ⟨a, sb, ha⟩ := hex
  obtain ⟨f0, f1, f2, f3, f4, f5⟩ := f
  have haC : C ≠ a := ha.elim (fun z => by rw [z]; exact f1) fun z e => f4 y a z e.symm
  exact ⟨m, hn.sameBut sb haC, fun h3 sb3 => ⟨_, H', I2.turned (t' := s2.toks) (fun b o hb e => (sb3.2 b hb).trans e) f0 f1 f3 f4 f5, q⟩⟩
theorem sw_trueD {kx vx : Expr} {gs : List Comprehension} {scope : Scope} {pos py : Pos} {y : Str} {l : Nat} {env : Env} (hk : env.scope.kind = .function) (hy : env.scope.names.lookup y = some .local) (hl : (py.line == pos.line) = true)
    (ha : (scope.names.any fun (n, k) => n == y && (k == .local || k == .cell)) = false) : swapsWith (.DictComp kx vx gs scope pos) (some (.Name y py)) l env = pure true := by
  have ky : env.kindOf y = some .local := hy
  have hb : env.blockKind = .function := by
    unfold Env.blockKind
    rw [hk]
    rfl
  unfold swapsWith
  simp only [hb, ky, ha, Expr.pos, hl]
  rfl
end
/-- a dict comprehension over a list that stays -/
theorem dc_list {K : PySem.W.Frag} {a : Addr} {xs : List V} {g : TG} {tt : TT} {tk tv : TE} {vs : List Nat} {σ : St} {H1 : Hp} {D : Addr} {Qd : Hp → Prop} (Pv : Nat → Hp → Prop) (h0 : Pv 0 (upd H1 D (.dK []))) (hl : ∀ i H, i ≤ xs.length → Pv i H → SqL K H a xs)
    (hs : ∀ i x H, xs[i]? = some x → Pv i H → g x (wipe σ vs) H fun σ2 H2 => wipe σ2 vs = wipe σ vs ∧ tt σ2 H2 fun b H3 =>
      if b = true then tk σ2 H3 fun y H4 => tv σ2 H4 fun z H5 => ∃ kvs k, y = kV k ∧ H5 D = some (.dK kvs) ∧ kvs.length < sizeLine ∧ Pv (i + 1) (upd H5 D (.dK (putK kvs k z))) else Pv (i + 1) H3) (hd : ∀ H, Pv xs.length H → Qd H) :
    ∃ W : Nat → Nat → Hp → Prop, (∃ m, W 0 m (upd H1 D (.dK []))) ∧ ∀ i m H, W i m H →
      ((Itl K a).stop i H ∧ Qd H) ∨ ((Itl K a).go i H ∧ ∃ Nx : Hp → Prop, (∀ H', Nx H' → ∃ m', m' < m ∧ W (i + 1) m' H') ∧ ∀ x H', (Itl K a).yld i H x H' → g x (wipe σ vs) H' fun σ2 H2 => wipe σ2 vs = wipe σ vs ∧ tt σ2 H2 fun b H3 =>
        if b = true then tk σ2 H3 fun y H4 => tv σ2 H4 fun z H5 => ∃ kvs k, y = kV k ∧ H5 D = some (.dK kvs) ∧ kvs.length < sizeLine ∧ Nx (upd H5 D (.dK (putK kvs k z))) else Nx H3) := by
  refine ⟨fun i m H => m = xs.length - i ∧ i ≤ xs.length ∧ Pv i H, ⟨xs.length, by simp, Nat.zero_le _, h0⟩, ?_⟩
  rintro i m H ⟨rfl, hi, p⟩
  have q := hl i H hi p
  rcases Nat.lt_or_ge i xs.length with hlt | hge
  · refine .inr ⟨⟨xs, xs[i], q, by simp [hlt]⟩, Pv (i + 1), fun H' p' => ⟨xs.length - (i + 1), by omega, rfl, hlt, p'⟩, ?_⟩
    rintro x H' ⟨rfl, y⟩
    exact hs i x _ (y xs q) p
  · obtain rfl : i = xs.length := Nat.le_antisymm hi hge
    exact .inl ⟨⟨xs, q, Nat.le_refl _⟩, hd H p⟩
/-- a dict comprehension over the list or the tuple in slot i, which stays -/
theorem tDc_or {K : PySem.W.Frag} {a : Addr} {xs : List V} {i : Nat} {g : TG} {tt : TT} {tk tv : TE} {vs : List Nat} {σ : St} {H : Hp} {Q : VK} (hi : σ[i]? = some (some (V.ref a))) (hx : H a = some (.lst xs) ∨ H a = some (.tup xs)) (Pv : Addr → Nat → Hp → Prop)
    (h0 : ∀ D, H D = none → Pv D 0 (upd H D (.dK []))) (hl : ∀ D, H D = none → ∀ j H', Pv D j H' → ∀ u, H a = some u → H' a = some u)
    (hs : ∀ D, H D = none → ∀ j x H', xs[j]? = some x → Pv D j H' → g x (wipe σ vs) H' fun σ2 H2 => wipe σ2 vs = wipe σ vs ∧ tt σ2 H2 fun b H3 =>
      if b = true then tk σ2 H3 fun y H4 => tv σ2 H4 fun z H5 => ∃ kvs k, y = kV k ∧ H5 D = some (.dK kvs) ∧ kvs.length < sizeLine ∧ Pv D (j + 1) (upd H5 D (.dK (putK kvs k z))) else Pv D (j + 1) H3)
    (hd : ∀ D, H D = none → ∀ H', Pv D xs.length H' → Q (.ref D) H') : tDc (fun σ H R => iList K (tVar i) σ H R ∨ iTup K (tVar i) σ H R) g tt tk tv vs σ H Q := by
  rcases hx with hx | hx
  · exact .inl ⟨_, hi, a, rfl, ⟨_, SqL.of hx⟩, fun D hD => dc_list (K := K) (a := a) (xs := xs) (Pv D) (h0 D hD) (fun j H' _ p => SqL.of (hl D hD j H' p _ hx)) (hs D hD) (hd D hD)⟩
  · exact .inr ⟨_, hi, a, rfl, ⟨_, SqT.of hx⟩, fun D hD => dc_tup (K := K) (a := a) (xs := xs) (Pv D) (h0 D hD) (fun j H' _ p => SqT.of (hl D hD j H' p _ hx)) (hs D hD) (hd D hD)⟩
/-- a loop over the list or the tuple in slot i, which stays -/
theorem tFor_or {K : PySem.W.Frag} {a : Addr} {xs : List V} {i : Nat} {g : TG} {tb : TS} {D : Ends} {σ : St} {H : Hp} (hi : σ[i]? = some (some (V.ref a))) (hx : H a = some (.lst xs) ∨ H a = some (.tup xs)) (Pv : Nat → St → Hp → Prop)
    (h0 : Pv 0 σ H) (hl : ∀ j σ' H', Pv j σ' H' → ∀ u, H a = some u → H' a = some u)
    (hs : ∀ j x σ' H', xs[j]? = some x → Pv j σ' H' → g x σ' H' fun σ2 H2 => tb { D with nx := Pv (j + 1), ct := Pv (j + 1), bk := D.nx } σ2 H2)
    (hd : ∀ σ' H', Pv xs.length σ' H' → D.nx σ' H') : tFor (fun σ H R => iList K (tVar i) σ H R ∨ iTup K (tVar i) σ H R) g tb D σ H := by
  rcases hx with hx | hx
  · exact .inl ⟨_, hi, a, rfl, ⟨_, SqL.of hx⟩, for_list (K := K) (a := a) (xs := xs) Pv h0 (fun j σ' H' _ p => SqL.of (hl j σ' H' p _ hx)) hs hd⟩
  · exact .inr ⟨_, hi, a, rfl, ⟨_, SqT.of hx⟩, for_tup (K := K) (a := a) (xs := xs) Pv h0 (fun j σ' H' _ p => SqT.of (hl j σ' H' p _ hx)) hs hd⟩
/-- a comprehension over the list or the tuple in slot i, which stays -/
theorem tLc_or {K : PySem.W.Frag} {a : Addr} {xs : List V} {i : Nat} {g : TG} {tt : TT} {te : TE} {vs : List Nat} {σ : St} {H : Hp} {Q : VK} (hi : σ[i]? = some (some (V.ref a))) (hx : H a = some (.lst xs) ∨ H a = some (.tup xs)) (Pv : Addr → Nat → Hp → Prop)
    (h0 : ∀ D, H D = none → Pv D 0 (upd H D (.lst []))) (hl : ∀ D, H D = none → ∀ j H', Pv D j H' → ∀ u, H a = some u → H' a = some u)
    (hs : ∀ D, H D = none → ∀ j x H', xs[j]? = some x → Pv D j H' → g x (wipe σ vs) H' fun σ2 H2 => wipe σ2 vs = wipe σ vs ∧ tt σ2 H2 fun b H3 =>
      if b = true then te σ2 H3 fun y H4 => ∃ acc, H4 D = some (.lst acc) ∧ acc.length < sizeLine ∧ Pv D (j + 1) (upd H4 D (.lst (acc ++ [y]))) else Pv D (j + 1) H3)
    (hd : ∀ D, H D = none → ∀ H', Pv D xs.length H' → Q (.ref D) H') : tLc (fun σ H R => iList K (tVar i) σ H R ∨ iTup K (tVar i) σ H R) g tt te vs σ H Q := by
  rcases hx with hx | hx
  · exact .inl ⟨_, hi, a, rfl, ⟨_, SqL.of hx⟩, fun D hD => lc_list (K := K) (a := a) (xs := xs) (Pv D) (h0 D hD) (fun j H' _ p => SqL.of (hl D hD j H' p _ hx)) (hs D hD) (hd D hD)⟩
  · exact .inr ⟨_, hi, a, rfl, ⟨_, SqT.of hx⟩, fun D hD => lc_tup (K := K) (a := a) (xs := xs) (Pv D) (h0 D hD) (fun j H' _ p => SqT.of (hl D hD j H' p _ hx)) (hs D hD) (hd D hD)⟩
end L2
/-! Own errors: made, raised, caught, asked of; defs that raise; defs that are called in a suite. All over the errors whose context is None. -/
namespace EX
open PySem PySem.Spec PyProof.Rows L2
/-- a def that may raise, by its body -/
theorem okR {P : Program} {w : World} {K : PySem.W.Frag} {mg : Str → Option Value} {base : Heap} {x qual : Str} {st : Stmt} {f : Addr} {fd : FuncData} {N ps : List Str} {k : Nat} {sp : Sp} (F : Fun K x qual st f fd) (S : FnScope N ps (defScope st))
    (len : ∀ vs H Q E, sp vs H Q E → vs.length = ps.length)
    (body : ∀ (cdv : Value) (A : Around) (outer : List Env) (s : Shared) (H : Hp) (vs : List V) (Q : VK) (E : XK), Room k (A.deeper (envOfC qual (defScope st) s.heap.objs.size f cdv)) → sp vs H Q E →
      ∃ t, PSs (cxOf (L2N.CX P w) P w K mg base N qual (defScope st) f cdv A outer s H E) (defBody st) t ∧ t { nx := fun _ H' => Q .non H', rt := Q } (start N vs) H) :
    FnOk P w K mg base (L2N.CX P w) (k + 1) f fd ps sp := by
  obtain ⟨oc, od, kV, doc, pm, an, cdv, ct, osl, rfl, lk, hcd⟩ := F.ex
  exact fn_of lk hcd S len fun A outer s H vs Q E hr hsp => body cdv A outer s H vs Q E hr hsp
/-- a def that does not raise, called while an error is handled, by its body -/
theorem okH {P : Program} {w : World} {K : PySem.W.Frag} {mg : Str → Option Value} {base : Heap} {x qual : Str} {st : Stmt} {f : Addr} {fd : FuncData} {N ps : List Str} {k : Nat} {sp : Sp} (F : Fun K x qual st f fd) (S : FnScope N ps (defScope st))
    (len : ∀ vs H Q E, sp vs H Q E → vs.length = ps.length)
    (body : ∀ (cdv : Value) (A : Around) (outer : List Env) (s : Shared) (H : Hp) (vs : List V) (Q : VK) (E : XK) (p : Addr × Obj), L2H.RoomH k (A.deeper (envOfC qual (defScope st) s.heap.objs.size f cdv)) → L2H.Hot1 A p → sp vs H Q E →
      ∃ t, PSs (L2H.cxH CX0 P w K mg base N qual (defScope st) f cdv A outer s H E p).nox (defBody st) t ∧ t { nx := fun _ H' => Q .non H', rt := Q } (start N vs) H) :
    L2H.FnH P w K mg base CX0 (k + 1) f fd ps sp := by
  obtain ⟨oc, od, kV, doc, pm, an, cdv, ct, osl, rfl, lk, hcd⟩ := F.ex
  refine L2H.fn_ofH lk hcd S len fun A outer s H vs Q E p hot hr hsp => ?_
  obtain ⟨t, h, q⟩ := body cdv A outer s H vs Q E p hr hot hsp
  exact ⟨t, h.nox, q⟩
/-- defs as their callers see them: one that may raise; one that is called in a suite -/
def CalX (P : Program) (w : World) (K : PySem.W.Frag) (mg : Str → Option Value) (base : Heap) (k : Nat) (x : Str) (ps : List Str) (sp : Sp) : Prop :=
  ∃ (f : Addr) (fd : FuncData), FnOk P w K mg base (L2N.CX P w) k f fd ps sp ∧ mg x = some (.ref f) ∧ PySem.W.keepIn K (.ref f) = true ∧ Binds K fd ps []
def CalH (P : Program) (w : World) (K : PySem.W.Frag) (mg : Str → Option Value) (base : Heap) (k : Nat) (x : Str) (ps : List Str) (sp : Sp) : Prop :=
  ∃ (f : Addr) (fd : FuncData), L2H.FnH P w K mg base CX0 k f fd ps sp ∧ mg x = some (.ref f) ∧ PySem.W.keepIn K (.ref f) = true ∧ Binds K fd ps []
section
variable {X : Cx} {k : Nat} {x : Str} {ps : List Str} {sp : Sp} {p pos : Pos} {e : Expr} {es : List Expr} {t : TA} {W : WX}
/-- f(..) that may raise; W: what is wished of what is raised -/
theorem pe_calX (C : CalX X.prog X.w X.K X.mg X.base k x ps sp) (hr : Room k X.A) (hg : Gl X x) (tk : L2N.Takes X W) (ha : PA X (e :: es) t)
    (hdb : (x == ("__debug__" : Str)) = false := by decide) (he : starEach (e :: es) X.env = (false, eval e X.env) :: starEach es X.env := by rfl) (hpl : (backTo pos (starEach es X.env)).any (·.1) = false := by rfl) :
    PE X (.Call (.Name x p) (e :: es) [] pos) (tCallS sp (WE W) t) := by
  obtain ⟨f, fd, G, m, kp, b⟩ := C
  exact pe_callS G hr hg m kp b (L2N.passAt tk) ha hdb he hpl
theorem passH {X : Cx} {σ : L2.St} : PassesAt CX0 X σ E0 := fun _ _ _ _ _ _ h => h.elim
/-- f(..) in a suite -/
theorem pe_calH (C : CalH X.prog X.w X.K X.mg X.base k x ps sp) (hr : L2H.RoomH k X.A) (hc : L2H.HotC X) (hg : Gl X x) (ha : PA X (e :: es) t)
    (hdb : (x == ("__debug__" : Str)) = false := by decide) (he : starEach (e :: es) X.env = (false, eval e X.env) :: starEach es X.env := by rfl) (hpl : (backTo pos (starEach es X.env)).any (·.1) = false := by rfl) :
    PE X (.Call (.Name x p) (e :: es) [] pos) (tCallS sp (fun _ => E0) t) := by
  obtain ⟨f, fd, G, m, kp, b⟩ := C
  exact L2H.pe_callH G hr hc hg m kp b (fun _ => passH) ha hdb he hpl
/-- the suite of an error whose context is None bears it -/
theorem hot_of {X : Cx} {a : Addr} {oe : Obj} {cls : Value} {d : Option Addr} {pn : List (Addr × Obj)} (hz : L2N.Zn cls d oe) (hf : ∃ vs, oe.data = .fields vs) : L2H.HotC (X.suite a ((a, oe) :: pn)) := by
  obtain ⟨vs, e⟩ := hf
  exact ⟨(a, oe), ⟨rfl, vs, e, hz.2.2 vs e⟩, List.mem_cons_self⟩
theorem roomS {X : Cx} {k : Nat} {a : Addr} {pn : List (Addr × Obj)} (hr : Room k X.A) : L2H.RoomH k (X.suite a pn).A := ⟨hr.dp, hr.un⟩
/-- nothing is let out -/
theorem takesN {X : Cx} : L2N.Takes X (fun _ _ _ _ => False) := fun _ _ h => by
  obtain ⟨_, _, _, _, _, _, _, _, _, _, _, _, _, _, _, _, z⟩ := h
  exact z.elim
theorem passN {X : Cx} {E : XK} : Passes CX0 X E := fun _ _ _ _ _ _ _ h => h.elim
end
/-! ### making -/
section
variable {X : Cx} {C : Addr} {bmB : List Value} {B newId initId : String}
/-- X(), an own class without an __init__ -/
theorem pmk0 {x : Str} {p pos : Pos} (F : ExcBaseFacts B newId initId bmB) (q : PySem.W.excIn X.K C bmB newId = true) (gC : X.mg x = some (.ref C)) (kC : PySem.W.keepIn X.K (.ref C) = true) (r : Raises X (.ref C)) (hg : Gl X x)
    (hdb : (x == ("__debug__" : Str)) = false := by decide) : L2N.PMk X (.Call (.Name x p) [] [] pos) (fun _ H Q => Q (.ref C) none H) := by
  intro pins s σ H Q I h
  refine wpAny_Call_Name_kw (ld_glob I hg gC (PySem.W.callWith_K0 I.kIn kC ?_) hdb)
  obtain ⟨bm, N, nm, qn, bs, hdct, sn, sub, ab, col, dd, k0, k1, k2, k3, k5, mN, hC, hN, hni, T⟩ := exc_obj I.kIn q
  exact wpAny_call_exc_subT F T hC hN hni (fun h' e hm => L2N.mk_of I hm r h (I.hok.gone hm.new)) (Nat.zero_le _)
/-- X(..), an own class with an __init__ -/
theorem pmkI {CX : CXT} {x : Str} {fI : Addr} {k : Nat} {fd : FuncData} {ps : List Str} {sp : Sp} {e : Expr} {es : List Expr} {ta : TA} {p pos : Pos} (T : OexC X.K C) (iC : PySem.W.findIn X.K (.ref C) "__init__" = some (some (.ref fI)))
    (tI : PySem.W.typeIn X.K (.ref fI) = some (.type "function")) (F1 : FnOk X.prog X.w X.K X.mg X.base CX k fI fd ps sp) (hr : Room (k + 1) X.A) (hb : Binds X.K fd ps []) (hx : Passes CX X (fun _ _ _ => False)) (hg : Gl X x) (hm : X.mg x = some (.ref C)) (ha : PA X (e :: es) ta)
    (hdb : (x == ("__debug__" : Str)) = false := by decide) (he : starEach (e :: es) X.env = (false, eval e X.env) :: starEach es X.env := by rfl) (hpl : (backTo pos (starEach es X.env)).any (·.1) = false := by rfl) :
    L2N.PMk X (.Call (.Name x p) (e :: es) [] pos) (tMkO C sp [] ta) := by
  intro pins s σ H Q I h
  obtain ⟨nm, q, N, bs, bm, sn, sub, ab, col, dd, k0, k1, k2, k3, k5, hC, hbm⟩ := T.cls
  refine wpAny_Call_Name_kw (ld_glob I hg hm (PySem.W.callWith_K (h₀ := X.base) I.ok.mod.kin T.kC (thn (ha.run pos pins s σ H _ I h) fun us s1 hh => ?_) he hpl) hdb)
  obtain ⟨vs, H1, I1, r1, hz, q1⟩ := hh
  refine ⟨I1.kIn, ?_⟩
  show wpAny _ _ (call (.ref C) us) _ _ _
  obtain ⟨hp, g, dr, tk, os⟩ := s1
  have fresh := I1.hok.fresh (Nat.le_succ hp.objs.size)
  have hq := q1 (hp.objs.size + 1) fresh
  rw [List.append_nil] at hq
  generalize eh : (hp.push (PySem.W.kdv_tup us)).push (PySem.HandSPX.excO C hp.objs.size) = hn
  have kk : ∀ b o, hp.get? b = some o → hn.get? b = some o := fun b o z => by
    rw [← eh]
    exact Heap.get?_push_of_some _ (Heap.get?_push_of_some _ z)
  have hget : hn.get? (hp.objs.size + 1) = some (PySem.HandSPX.excO C hp.objs.size) := by
    rw [← eh]
    heap_get
  have I2 : Inv X pins σ (upd H1 (hp.objs.size + 1) (exo (hp.objs.size + 1) C none)) ⟨hn, g, dr, tk, os⟩ := I1.laid (t' := tk) kk (Nat.le_succ _) (exo_ok hget)
  have r2 : Vals (V.ref (hp.objs.size + 1) :: vs) (Value.ref (hp.objs.size + 1) :: us) := .cons rfl r1
  have hl : (Value.ref (hp.objs.size + 1) :: us).length = ps.length := r2.length.symm.trans (F1.len _ _ _ _ hq)
  have hb' := hb _ (Value.ref (hp.objs.size + 1) :: us) I2.kIn (by rw [List.append_nil]; exact hl)
  rw [List.append_nil] at hb'
  have hus : us.length ≤ sizeLine := by
    rw [← Vals.length r1]
    exact Nat.le_trans hz (by rw [sizeLine_eq]; decide)
  have run := F1.run _ X.stack _ _ ⟨Value.ref (hp.objs.size + 1) :: us, []⟩ _ _ _ (fun _ _ _ => False) (hr.make C us []) (I2.env0.make C us []) hb' r2 hq
  rw [← eh] at run
  refine wpAny_call (PySem.HandSPX.call_own F.excBase_ValueError (fun Y => PySem.HandSPX.refsVE_contains Y bm hbm) (I1.kIn _ _ hC) (PySem.W.looks_findIn I1.kIn iC) (fun self => PySem.W.bind_fn I1.kIn self tI) hus (codeAny_mono run fun r s' hq' => ?_))
  rw [eh] at hq'
  cases r with
  | error er => exact hx pins σ _ _ er s' I2 hq'
  | ok fl =>
    cases fl with
    | next => exact hq'.elim
    | brk => exact hq'.elim
    | cont => exact hq'.elim
    | ret u =>
      obtain ⟨v, H2, os2, bare2, un2, hok2, rv, ev, d, fs, ea, ed, hd1, q2⟩ := hq'
      subst ev
      obtain ⟨h2, g2, d2, t2, os'⟩ := s'
      obtain ⟨t0, G, J, kG, ge, hoe, na⟩ := mk_end0 (d2 := d2) (t2 := t2) I1 (Nat.le_succ _) kk un2 hok2 os2 bare2 ea ed hd1
      exact ⟨rv, hp.objs.size + 1, _, _, ⟨G, g2, d2, t2, os'⟩, _, .ref C, some d, rfl, J, kG, ge, hoe, ⟨rfl, rfl, fun vs z => by cases z; rfl⟩, rfl, rfl, na, rfl, bare2, raises_own T.exC T.tyC, q2⟩
end
/-! ### asking of a caught error -/
/-- what the class at C must say for its instances to be asked of -/
structure XCls (K : PySem.W.Frag) (C : Addr) : Prop where
  cl : (PySem.W.clsIn K C).isSome = true
  ga : PySem.W.findIn K (.ref C) "__getattribute__" = some (some (.builtin "BaseException.__getattribute__"))
  gg : PySem.W.findIn K (.ref C) "__getattr__" = some none
  su : PySem.W.subIn K (.ref C) (.type "BaseException") = some true
  ca : PySem.W.findIn K (.ref C) "__class__" = some (some (.builtin "object.__class__"))
  cn : PySem.W.specialIn K (.builtin "object.__class__") "__get__" = some (some (.builtin "getset_descriptor.__get__"))
  ct : PySem.W.takesIn K (.builtin "object.__class__") = some true
  cm : PySem.W.mroIn K C (.type "object") = some true
  hd : PySem.W.hasDictIn K C = true
  ty : PySem.W.typeIn K (.ref C) = some (.type "type")
  kp : PySem.W.keepIn K (.ref C) = true
def xclsB (K : PySem.W.Frag) (C : Addr) : Bool :=
  (PySem.W.clsIn K C).isSome && decide (PySem.W.findIn K (.ref C) "__getattribute__" = some (some (.builtin "BaseException.__getattribute__"))) && decide (PySem.W.findIn K (.ref C) "__getattr__" = some none) &&
  decide (PySem.W.subIn K (.ref C) (.type "BaseException") = some true) && decide (PySem.W.findIn K (.ref C) "__class__" = some (some (.builtin "object.__class__"))) &&
  decide (PySem.W.specialIn K (.builtin "object.__class__") "__get__" = some (some (.builtin "getset_descriptor.__get__"))) && decide (PySem.W.takesIn K (.builtin "object.__class__") = some true) &&
  decide (PySem.W.mroIn K C (.type "object") = some true) && PySem.W.hasDictIn K C && decide (PySem.W.typeIn K (.ref C) = some (.type "type")) && PySem.W.keepIn K (.ref C)
theorem xcls_of {K : PySem.W.Frag} {C : Addr} (h : xclsB K C = true) : XCls K C := by
  unfold xclsB at h
  simp only [Bool.and_eq_true, decide_eq_true_eq] at h
  obtain ⟨⟨⟨⟨⟨⟨⟨⟨⟨⟨a, b⟩, c⟩, d⟩, e⟩, f⟩, g⟩, h⟩, i⟩, j⟩, k⟩ := h
  exact ⟨a, b, c, d, e, f, g, h, i, j, k⟩
theorem XCls.xf {K : PySem.W.Frag} {C : Addr} (T : XCls K C) : XfC K C := ⟨T.ga, T.gg, T.su, T.hd⟩
theorem XCls.raises {X : Cx} {C : Addr} (T : XCls X.K C) : Raises X (.ref C) := raises_own T.su T.ty
theorem XCls.kit {K : PySem.W.Frag} {C x : Addr} {ox : Obj} {od : Option Obj} (T : XCls K C) : PySem.W.KitX K (.ref x) (.ref C) (fun h => PySem.W.InstAt h x ox C od) := PySem.W.kitx_exc T.cl T.ga T.gg T.su T.ca T.cn T.ct T.cm
/-- the class at C beside the class at D, as isinstance and except see them: b tells whether C is D or stands below it -/
structure Below (K : PySem.W.Frag) (C D : Addr) (b : Bool) : Prop where
  one : PySem.W.kitOne K (.ref C) (.ref D) = some b
  exm : PySem.W.exmOne K (.ref C) (.ref D) = some b
theorem exm_kit {K : PySem.W.Frag} {C D : Addr} {b : Bool} (T : XCls K C) (hs : PySem.W.subIn K (.ref C) (.ref D) = some b) (U : XCls K D) (hne : (Value.ref C == Value.ref D) = true → b = true) : Below K C D b := by
  have h2 : ((PySem.W.clsIn K D).isSome && PySem.W.typeIn K (.ref D) == some (.type "type")) = true := by
    rw [U.cl, U.ty]
    rfl
  have h3 : PySem.W.kitCls K (.ref C) (.ref D) = some b := by
    show (if _ then _ else _) = _
    rw [if_pos h2]
    exact hs
  refine ⟨?_, ?_⟩
  · show (if _ then _ else _) = _
    by_cases e : (Value.ref C == Value.ref D) = true
    · rw [if_pos e, hne e]
    · rw [if_neg e]
      exact h3
  · show (if _ then _ else _) = _
    have e : (PySem.W.subIn K (.ref D) (.type "BaseException") == some true) = true := by rw [U.su]; rfl
    rw [if_pos e]
    exact h3
/-- isinstance and except, from what the written part says of two classes -/
theorem kit_sub {K : PySem.W.Frag} {C D : Addr} {b : Bool} (i : PySem.W.isClsIn K D = true) (t : PySem.W.typeIn K (.ref D) = some (.type "type")) (s : PySem.W.subIn K (.ref C) (.ref D) = some b) (r : PySem.W.subIn K (.ref C) (.ref C) = some true) : PySem.W.kitOne K (.ref C) (.ref D) = some b := by
  have h2 : ((PySem.W.clsIn K D).isSome && PySem.W.typeIn K (.ref D) == some (.type "type")) = true := by
    have i' : (PySem.W.clsIn K D).isSome = true := i
    rw [i', t]
    rfl
  show (if _ then _ else _) = _
  by_cases e : (Value.ref C == Value.ref D) = true
  · rw [if_pos e]
    have e' : Value.ref C = Value.ref D := eq_of_beq e
    rw [← e', r] at s
    exact s
  · rw [if_neg e]
    show (if _ then _ else _) = _
    rw [if_pos h2]
    exact s
theorem kit_blt {K : PySem.W.Frag} {C : Addr} {T : String} {b : Bool} (m : PySem.W.kitMeta T = true) (s : PySem.W.subIn K (.ref C) (.type T) = some b) : PySem.W.kitOne K (.ref C) (.type T) = some b := by
  show (if _ then _ else _) = _
  rw [if_neg (by exact Bool.false_ne_true)]
  show (if _ then _ else _) = _
  rw [if_pos m]
  exact s
theorem exm_sub {K : PySem.W.Frag} {C D : Addr} {b : Bool} (i : PySem.W.isClsIn K D = true) (t : PySem.W.typeIn K (.ref D) = some (.type "type")) (e : PySem.W.subIn K (.ref D) (.type "BaseException") = some true) (s : PySem.W.subIn K (.ref C) (.ref D) = some b) : PySem.W.exmOne K (.ref C) (.ref D) = some b := by
  have h2 : ((PySem.W.clsIn K D).isSome && PySem.W.typeIn K (.ref D) == some (.type "type")) = true := by
    have i' : (PySem.W.clsIn K D).isSome = true := i
    rw [i', t]
    rfl
  have h1 : (PySem.W.subIn K (.ref D) (.type "BaseException") == some true) = true := by
    rw [e]
    rfl
  show (if _ then _ else _) = _
  rw [if_pos h1]
  show (if _ then _ else _) = _
  rw [if_pos h2]
  exact s
/-- where the error's own dict stands -/
def DictAt (H : Hp) (d : Option Addr) : Prop := d = none ∨ ∃ (dd : Addr) (fs : List (Str × V)), d = some dd ∧ H dd = some (.xd fs)
theorem inst_of {X : Cx} {pins : List (Addr × Obj)} {σ : L2.St} {H : Hp} {s : Shared} {a D : Addr} {oe : Obj} {d : Option Addr} {pn : List (Addr × Obj)} (I : Inv (X.suite a ((a, oe) :: pn)) pins σ H s) (hz : Zc (.ref D) d oe) (hf : ∃ vs, oe.data = .fields vs) (hd : DictAt H d) :
    ∃ od, PySem.W.InstAt s.heap a oe D od := by
  obtain ⟨hget, _⟩ := I.pin (a, oe) (List.mem_append_left _ List.mem_cons_self)
  obtain ⟨vs, hv⟩ := hf
  have no : PySem.W.notCls oe = true := by unfold PySem.W.notCls; rw [hv]
  rcases hd with rfl | ⟨dd, fs, rfl, hx⟩
  · exact ⟨none, hget, hz.1, no, by rw [hz.2]; trivial⟩
  · have hx : ObjOk X.prog X.w H s.heap dd (.xd fs) := I.hok dd _ hx
    obtain ⟨mA, hns, _⟩ := hx
    obtain ⟨od, ho, _⟩ := lookIn_ns hns
    exact ⟨some od, hget, hz.1, no, by rw [hz.2]; exact ho⟩
/-- isinstance(e, c) -/
def rIsX (K : PySem.W.Frag) (a : Addr) (cls : Value) (d : Option Addr) : List V → Hp → VK → Prop := fun xs H Q => ∃ (D : Addr) (c : V) (cv : Value) (b : Bool), xs = [.ref a, c] ∧ ClsV c cv ∧ cls = .ref D ∧ XCls K D ∧ DictAt H d ∧ PySem.W.kitOne K (.ref D) cv = some b ∧ Q (.bl b) H
/-- isinstance(e, (c, ..)) -/
def rIsXT (K : PySem.W.Frag) (a : Addr) (cls : Value) (d : Option Addr) : List V → Hp → VK → Prop := fun xs H Q => ∃ (D tp : Addr) (cs : List V) (us : List Value) (b : Bool), xs = [.ref a, .ref tp] ∧ H tp = some (.tup cs) ∧ Paired ClsV cs us ∧ cls = .ref D ∧ XCls K D ∧ DictAt H d ∧
  PySem.W.kitAny K (.ref D) us = some b ∧ Q (.bl b) H
section
variable {X : Cx} {a : Addr} {oe : Obj} {cls : Value} {d : Option Addr} {pn : List (Addr × Obj)}
theorem call_isX {K : PySem.W.Frag} (hK : X.K = K) (hz : Zc cls d oe) (hf : ∃ vs, oe.data = .fields vs) : CallR (X.suite a ((a, oe) :: pn)) (.builtin "isinstance") (rIsX K a cls d) := by
  subst hK
  intro pins s σ H xs us Q I r h
  obtain ⟨D, c, cv, b, rfl, k, rfl, T, hd, e, q⟩ := h
  obtain ⟨u1, u2, rfl, r1, r2⟩ := vals2 r
  cases (show u1 = Value.ref a from r1)
  have e2 := k.eq r2
  subst e2
  obtain ⟨od, J⟩ := inst_of I hz hf hd
  exact PySem.W.kia_one T.kit I.kIn J e (fun z => nomatch z) fun tk => ⟨.bl b, H, I.tok tk, rfl, q⟩
theorem call_isXT {K : PySem.W.Frag} (hK : X.K = K) (hz : Zc cls d oe) (hf : ∃ vs, oe.data = .fields vs) : CallR (X.suite a ((a, oe) :: pn)) (.builtin "isinstance") (rIsXT K a cls d) := by
  subst hK
  intro pins s σ H xs us Q I r h
  obtain ⟨D, tp, cs, ws, b, rfl, hT, k, rfl, T, hd, e, q⟩ := h
  obtain ⟨u1, u2, rfl, r1, r2⟩ := vals2 r
  cases (show u1 = Value.ref a from r1)
  cases (show u2 = Value.ref tp from r2)
  obtain ⟨_, its, rv, o, h1, h2, n, h3⟩ := (show ObjOk X.prog X.w H s.heap tp (.tup cs) from I.hok tp _ hT)
  have e3 := ClsV.all k rv
  subst e3
  obtain ⟨oc, od', dt, sl⟩ := o
  simp only at h2 h3
  subst h2 h3
  obtain ⟨od, J⟩ := inst_of I hz hf hd
  exact PySem.W.kia_tup T.kit I.kIn J h1 e (fun z => nomatch z) fun tk => ⟨.bl b, H, I.tok tk, rfl, q⟩
end
end EX
/-! An exception object as a value; a caught error as an argument. -/
namespace EX
open PySem PySem.Spec PyProof.Rows L2
section
variable {X : Cx} {C : Addr} {bmB : List Value} {B newId initId : String}
/-- X() as a value, an own class without an __init__ -/
theorem pe_exc0 {x : Str} {p pos : Pos} (F : ExcBaseFacts B newId initId bmB) (q : PySem.W.excIn X.K C bmB newId = true) (gC : X.mg x = some (.ref C)) (kC : PySem.W.keepIn X.K (.ref C) = true) (hg : Gl X x) (hdb : (x == ("__debug__" : Str)) = false := by decide) :
    PE X (.Call (.Name x p) [] [] pos) (fun _ H Q => ∀ a, H a = none → Q (.ref a) (upd H a (ExO (.ref C) a))) := by
  refine ⟨fun pins s σ H Q I h => ?_⟩
  refine wpAny_Call_Name_kw (ld_glob I hg gC (PySem.W.callWith_K0 I.kIn kC ?_) hdb)
  obtain ⟨bm, N, nm, qn, bs, hdct, sn, sub, ab, col, dd, k0, k1, k2, k3, k5, mN, hC, hN, hni, T⟩ := exc_obj I.kIn q
  refine wpAny_call_exc_subT F T hC hN hni (fun h' e hm => ?_) (Nat.zero_le _)
  have free : H e = none := I.hok.gone hm.new
  obtain ⟨t, there, _, _⟩ := hm.there
  exact ⟨.ref e, _, I.laidN hm.keeps hm.new free (exO_ok there ⟨rfl, rfl⟩ rfl rfl rfl (show 4 < 6 by decide)), rfl, h e free⟩
end
theorem notCls_of {o : Obj} {vs : Array Value} (h : o.data = .fields vs) : PySem.W.notCls o = true := by
  unfold PySem.W.notCls
  rw [h]
/-- isinstance of an exception object that is a value -/
def rIsO (K : PySem.W.Frag) : List V → Hp → VK → Prop := fun xs H Q => ∃ (a D : Addr) (c : V) (cv : Value) (b : Bool), xs = [.ref a, c] ∧ ClsV c cv ∧ H a = some (ExO (.ref D) a) ∧ XCls K D ∧ PySem.W.kitOne K (.ref D) cv = some b ∧ Q (.bl b) H
def rIsOT (K : PySem.W.Frag) : List V → Hp → VK → Prop := fun xs H Q => ∃ (a D tp : Addr) (cs : List V) (us : List Value) (b : Bool), xs = [.ref a, .ref tp] ∧ H tp = some (.tup cs) ∧ Paired ClsV cs us ∧ H a = some (ExO (.ref D) a) ∧ XCls K D ∧ PySem.W.kitAny K (.ref D) us = some b ∧ Q (.bl b) H
section
variable {X : Cx}
theorem inst_O {pins : List (Addr × Obj)} {σ : L2.St} {H : Hp} {s : Shared} {a D : Addr} (I : Inv X pins σ H s) (h : H a = some (ExO (.ref D) a)) : ∃ oe, PySem.W.InstAt s.heap a oe D none := by
  obtain ⟨⟨oe, vs, hget, hz, hd, _⟩, _⟩ := (show ObjOk X.prog X.w H s.heap a (ExO (.ref D) a) from I.hok a _ h)
  exact ⟨oe, hget, hz.1, notCls_of hd, by rw [hz.2]; trivial⟩
theorem call_isO {K : PySem.W.Frag} (hK : X.K = K) : CallR X (.builtin "isinstance") (rIsO K) := by
  subst hK
  intro pins s σ H xs us Q I r h
  obtain ⟨a, D, c, cv, b, rfl, k, ha, T, e, q⟩ := h
  obtain ⟨u1, u2, rfl, r1, r2⟩ := vals2 r
  cases (show u1 = Value.ref a from r1)
  have e2 := k.eq r2
  subst e2
  obtain ⟨oe, J⟩ := inst_O I ha
  exact PySem.W.kia_one T.kit I.kIn J e (fun z => nomatch z) fun tk => ⟨.bl b, H, I.tok tk, rfl, q⟩
theorem call_isOT {K : PySem.W.Frag} (hK : X.K = K) : CallR X (.builtin "isinstance") (rIsOT K) := by
  subst hK
  intro pins s σ H xs us Q I r h
  obtain ⟨a, D, tp, cs, ws, b, rfl, hT, k, ha, T, e, q⟩ := h
  obtain ⟨u1, u2, rfl, r1, r2⟩ := vals2 r
  cases (show u1 = Value.ref a from r1)
  cases (show u2 = Value.ref tp from r2)
  obtain ⟨_, its, rv, o, h1, h2, n, h3⟩ := (show ObjOk X.prog X.w H s.heap tp (.tup cs) from I.hok tp _ hT)
  have e3 := ClsV.all k rv
  subst e3
  obtain ⟨oc, od', dt, sl⟩ := o
  simp only at h2 h3
  subst h2 h3
  obtain ⟨oe, J⟩ := inst_O I ha
  exact PySem.W.kia_tup T.kit I.kIn J h1 e (fun z => nomatch z) fun tk => ⟨.bl b, H, I.tok tk, rfl, q⟩
end
/-! ### isinstance of a pinned error, in any context that bears it -/
def rIsP (K : PySem.W.Frag) (a : Addr) (D : Addr) : List V → Hp → VK → Prop := fun xs H Q => ∃ (c : V) (cv : Value) (b : Bool), xs = [.ref a, c] ∧ ClsV c cv ∧ XCls K D ∧ PySem.W.kitOne K (.ref D) cv = some b ∧ Q (.bl b) H
def rIsPT (K : PySem.W.Frag) (a : Addr) (D : Addr) : List V → Hp → VK → Prop := fun xs H Q => ∃ (tp : Addr) (cs : List V) (us : List Value) (b : Bool), xs = [.ref a, .ref tp] ∧ H tp = some (.tup cs) ∧ Paired ClsV cs us ∧ XCls K D ∧ PySem.W.kitAny K (.ref D) us = some b ∧ Q (.bl b) H
section
variable {X : Cx} {p : Addr × Obj} {D : Addr}
theorem inst_P {pins : List (Addr × Obj)} {σ : L2.St} {H : Hp} {s : Shared} (I : Inv X pins σ H s) (hm : p ∈ X.pn) (hz : Zc (.ref D) none p.2) (hf : ∃ vs, p.2.data = .fields vs) : PySem.W.InstAt s.heap p.1 p.2 D none := by
  obtain ⟨hget, _⟩ := I.pin p (List.mem_append_left _ hm)
  obtain ⟨vs, hv⟩ := hf
  exact ⟨hget, hz.1, notCls_of hv, by rw [hz.2]; trivial⟩
theorem call_isP {K : PySem.W.Frag} (hK : X.K = K) (hm : p ∈ X.pn) (hz : Zc (.ref D) none p.2) (hf : ∃ vs, p.2.data = .fields vs) : CallR X (.builtin "isinstance") (rIsP K p.1 D) := by
  subst hK
  intro pins s σ H xs us Q I r h
  obtain ⟨c, cv, b, rfl, k, T, e, q⟩ := h
  obtain ⟨u1, u2, rfl, r1, r2⟩ := vals2 r
  cases (show u1 = Value.ref p.1 from r1)
  have e2 := k.eq r2
  subst e2
  exact PySem.W.kia_one T.kit I.kIn (inst_P I hm hz hf) e (fun z => nomatch z) fun tk => ⟨.bl b, H, I.tok tk, rfl, q⟩
theorem call_isPT {K : PySem.W.Frag} (hK : X.K = K) (hm : p ∈ X.pn) (hz : Zc (.ref D) none p.2) (hf : ∃ vs, p.2.data = .fields vs) : CallR X (.builtin "isinstance") (rIsPT K p.1 D) := by
  subst hK
  intro pins s σ H xs us Q I r h
  obtain ⟨tp, cs, ws, b, rfl, hT, k, T, e, q⟩ := h
  obtain ⟨u1, u2, rfl, r1, r2⟩ := vals2 r
  cases (show u1 = Value.ref p.1 from r1)
  cases (show u2 = Value.ref tp from r2)
  obtain ⟨_, its, rv, o, h1, h2, n, h3⟩ := (show ObjOk X.prog X.w H s.heap tp (.tup cs) from I.hok tp _ hT)
  have e3 := ClsV.all k rv
  subst e3
  obtain ⟨oc, od', dt, sl⟩ := o
  simp only at h2 h3
  subst h2 h3
  exact PySem.W.kia_tup T.kit I.kIn (inst_P I hm hz hf) h1 e (fun z => nomatch z) fun tk => ⟨.bl b, H, I.tok tk, rfl, q⟩
end
/-! ### a def whose one argument is the error that is handled -/
structure FnE (P : Program) (w : World) (K : PySem.W.Frag) (mg : Str → Option Value) (base : Heap) (k : Nat) (f : Addr) (fd : FuncData) (x : Str) (D : Addr) (v : V) : Prop where
  run : ∀ (A : Around) (outer : List Env) (s : Shared) (H : Hp) (Q : VK) (p : Addr × Obj), L2H.RoomH k A → L2H.Hot1 A p → Zc (.ref D) none p.2 → L2H.PinOk outer H s p → Env0 P w K mg base A outer s H → BindsTo s fd ⟨[.ref p.1], []⟩ [(x, .ref p.1)] → (∀ H', Same H H' → Q v H') →
    codeAny (model P w) A (.call (.ref f) ⟨[.ref p.1], []⟩) (CR CX0 outer P w H s Q (fun _ _ _ => False)) s
def CalE (P : Program) (w : World) (K : PySem.W.Frag) (mg : Str → Option Value) (base : Heap) (k : Nat) (n x : Str) (D : Addr) (v : V) : Prop :=
  ∃ (f : Addr) (fd : FuncData), FnE P w K mg base k f fd x D v ∧ mg n = some (.ref f) ∧ PySem.W.keepIn K (.ref f) = true ∧ Binds K fd [x] []
section
variable {P : Program} {w : World} {K : PySem.W.Frag} {mg : Str → Option Value} {base : Heap} {x n qual : Str} {st : Stmt} {f D : Addr} {fd : FuncData} {N : List Str} {k : Nat} {v : V}
/-- such a def, by its body -/
theorem okE (F : Fun K n qual st f fd) (S : FnScope N [x] (defScope st))
    (body : ∀ (cdv : Value) (A : Around) (outer : List Env) (s : Shared) (H : Hp) (Q : VK) (p : Addr × Obj), L2H.RoomH k (A.deeper (envOfC qual (defScope st) s.heap.objs.size f cdv)) → Zc (.ref D) none p.2 → (∃ vs, p.2.data = .fields vs) → (∀ H', Same H H' → Q v H') →
      ∃ t, PSs (L2H.cxH CX0 P w K mg base N qual (defScope st) f cdv A outer s H (fun _ _ _ => False) p).nox (defBody st) t ∧ t { nx := fun _ H' => Q .non H', rt := Q } (start N [.ref p.1]) H) : FnE P w K mg base (k + 1) f fd x D v := by
  obtain ⟨oc, od, kV, doc, pm, an, cdv, ct, osl, rfl, lk, hcd⟩ := F.ex
  refine ⟨fun A outer s H Q p hr hot hz pin e0 hb q => ?_⟩
  have there : ∀ b o, base.get? b = some o → s.heap.get? b = some o := fun b o e => (e0.bs b o e).1
  have kin : K.In s.heap := e0.mod.kin.keeps there
  have lims := e0.mod.nolimit.keeps there
  have kinds : ∀ y ∈ [(x, Value.ref p.1)], (defScope st).names.lookup y.1 = some .local ∨
      ((defScope st).names.lookup y.1 = some .cell ∧ ((cellsFrom (s.heap.objs.size + 1) (defScope st).names []).lookup y.1).isSome = true) := fun y hy => by
    rw [List.mem_singleton.mp hy]
    exact (S.par x List.mem_cons_self).imp id fun q => ⟨q, PySem.W.cellsFrom_some _ _ _ (.inl q)⟩
  refine codeAny_call_function hr.depth (kin _ _ lk) rfl S.co S.gen rfl
    (PySem.W.codeRec_of kin hcd) (hb _ _ _ _ ?_)
  refine wpAny_newFunctionEnv_cells S.kind kinds fun env he s1 y => ?_
  subst he
  refine ⟨lims.keeps y.toInCall.keep, codeAny_func ?_⟩
  obtain ⟨t, ht, ht2⟩ := body cdv A outer s H Q p (hr.deeper _) hz (hot.2.elim fun a h => ⟨a, h.1⟩) q
  have I := L2H.inv_startH (CX := CX0) (us := [.ref p.1]) (vs := [V.ref p.1]) (E := fun _ _ _ => False) (cd := cdv) S pin e0 rfl (.cons rfl .nil) y
  refine wpAny_mono (ht.nox.run [] s1 (L2.start N [V.ref p.1]) H _ I ht2)
    (fun fl s' hs => ?_) (fun e s' hs => hs)
  match fl, hs with
  | .ret u, ⟨v, σ', H', J, rv, q⟩ => exact ⟨v, H', J.os, J.bare, J.base, J.hok, rv, q⟩
  | .next, ⟨σ', H', J, q⟩ => exact ⟨V.non, H', J.os, J.bare, J.base, J.hok, rfl, q⟩
  | .brk, ⟨_, _, _, q⟩ => exact q.elim
  | .cont, ⟨_, _, _, q⟩ => exact q.elim
end
/-- f(e), e the error that the suite holds -/
def tCallE (D : Addr) (v : V) (a : Addr) (cls : Value) (d : Option Addr) (te : TE) : TE := fun σ H Q => te σ H fun y H1 => y = .ref a ∧ cls = .ref D ∧ d = none ∧ ∀ H', Same H1 H' → Q v H'
theorem pe_callE {X : Cx} {k : Nat} {a D : Addr} {oe : Obj} {cls : Value} {d : Option Addr} {pn : List (Addr × Obj)} {n x : Str} {v : V} {q pos : Pos} {e : Expr} {te : TE} (C : CalE X.prog X.w X.K X.mg X.base k n x D v) (hr : L2H.RoomH k (X.suite a ((a, oe) :: pn)).A) (hz : L2N.Zn cls d oe) (hf : ∃ vs, oe.data = .fields vs)
    (hg : Gl X n) (ha : PE (X.suite a ((a, oe) :: pn)) e te) (hdb : (n == ("__debug__" : Str)) = false := by decide) (he : starEach [e] X.env = [(false, eval e X.env)] := by rfl) (hpl : (backTo pos (starEach ([] : List Expr) X.env)).any (·.1) = false := by rfl) :
    PE (X.suite a ((a, oe) :: pn)) (.Call (.Name n q) [e] [] pos) (tCallE D v a cls d te) := by
  obtain ⟨f, fd, G, hm, hk, hb⟩ := C
  refine ⟨fun pins s σ H Q I h => ?_⟩
  refine wpAny_Call_Name_kw (ld_glob I hg hm ?_ hdb)
  refine PySem.W.callWith_K (h₀ := X.base) I.ok.mod.kin hk ?_ he hpl
  refine thn ((pa_cons (hs := he) ha pa_nil).run pos pins s σ H (fun ys H1 => match ys with | [y] => y = V.ref a ∧ cls = .ref D ∧ d = none ∧ ∀ H', Same H1 H' → Q v H' | _ => False) I h) fun us s1 hh => ?_
  obtain ⟨ys, H1, I1, r, q⟩ := hh
  refine ⟨I1.kIn, ?_⟩
  match ys, us, r, q with
  | [y], [u], r, q1 =>
    obtain ⟨rfl, rfl, rfl, q2⟩ := q1
    obtain rfl : u = Value.ref a := by
      cases r with
      | cons r0 _ => exact r0
    obtain ⟨z1, z2, z3, z4, z5⟩ := I1.pin (a, oe) (List.mem_append_left _ List.mem_cons_self)
    obtain ⟨vs, ev⟩ := id hf
    have pin : L2H.PinOk X.stack H1 s1 (a, oe) := ⟨z1, z2, fun hmem => (List.mem_cons.mp (I1.stkSub a hmem)).elim z3 z4, z5⟩
    have run := G.run (X.suite a ((a, oe) :: pn)).A X.stack s1 H1 Q (a, oe) hr ⟨rfl, vs, ev, hz.2.2 vs ev⟩ hz.zc pin I1.env0 (hb s1 [.ref a] I1.kIn rfl) q2
    refine wpAny_call (codeAny_mono run fun r s' hq => ?_)
    match r, hq with
    | .ok (.ret u), hq => exact I1.after hq
end EX
set_option maxHeartbeats 2000000
/-! Objects of one's own classes: len(o), iter(tuple) in __iter__, a walk over o, o == y with any answer. -/
namespace KO
open PySem PySem.Spec PyProof.Rows L2
/-! ### a promise that knows where the call begins -/
structure FnS (P : Program) (w : World) (K : PySem.W.Frag) (mg : Str → Option Value) (base : Heap) (CX : CXT) (k : Nat) (f : Addr) (fd : FuncData) (ps : List Str) (sp : Nat → Sp) : Prop where
  len : ∀ n vs H Q E, sp n vs H Q E → vs.length = ps.length
  run : ∀ (A : Around) (outer : List Env) (s : Shared) (H : Hp) (args : Args) (us : List Value) (vs : List V) (Q : VK) (E : XK), Room k A → Env0 P w K mg base A outer s H → BindsTo s fd args (ps.zip us) → Vals vs us → sp s.heap.objs.size vs H Q E →
    codeAny (model P w) A (.call (.ref f) args) (CR CX outer P w H s Q E) s
theorem fnS_of {P : Program} {w : World} {K : PySem.W.Frag} {mg : Str → Option Value} {base : Heap} {k : Nat} {f : Addr} {x qual : Str} {st : Stmt} {fd : FuncData} {N ps : List Str} {sp : Nat → Sp} (F : Fun K x qual st f fd) (S : FnScope N ps (defScope st)) (len : ∀ n vs H Q E, sp n vs H Q E → vs.length = ps.length)
    (hbody : ∀ (cdv : Value) (A : Around) (outer : List Env) (s : Shared) (H : Hp) (vs : List V) (Q : VK) (E : XK), Room k (A.deeper (envOfC qual (defScope st) s.heap.objs.size f cdv)) → sp s.heap.objs.size vs H Q E →
      ∃ t, PSs (cxOf CX0 P w K mg base N qual (defScope st) f cdv A outer s H E).nox (defBody st) t ∧ t { nx := fun _ H' => Q .non H', rt := Q } (start N vs) H) : FnS P w K mg base CX0 (k + 1) f fd ps sp := by
  obtain ⟨oc, od, kV, doc, pm, an, cdv, ct, osl, rfl, lk, hcd⟩ := F.ex
  refine ⟨len, fun A outer s H args us vs Q E hr e0 hb r hsp => ?_⟩
  have hl := len _ _ _ _ _ hsp
  have KX : K.In s.heap := e0.mod.kin.keeps fun b o e => (e0.bs b o e).1
  have lim : s.heap.NoLimit := e0.mod.nolimit.keeps fun b o e => (e0.bs b o e).1
  have hkind : ∀ y ∈ ps.zip us, (defScope st).names.lookup y.1 = some .local ∨ ((defScope st).names.lookup y.1 = some .cell ∧ ((cellsFrom (s.heap.objs.size + 1) (defScope st).names []).lookup y.1).isSome = true) := fun ⟨n, v⟩ hy => by
    rcases S.par n (List.of_mem_zip hy).1 with q | q
    · exact .inl q
    · exact .inr ⟨q, PySem.W.cellsFrom_some _ _ _ (.inl q)⟩
  refine codeAny_call_function hr.depth (KX _ _ lk) rfl S.co S.gen rfl (PySem.W.codeRec_of KX hcd) (hb _ _ _ _ ?_)
  refine wpAny_newFunctionEnv_cells S.kind hkind fun env he s1 x => ?_
  subst he
  refine ⟨lim.keeps x.toInCall.keep, codeAny_func ?_⟩
  obtain ⟨t, ht', hq⟩ := hbody cdv A outer s H vs Q E (hr.deeper _) hsp
  have ht : PSs (cxOf CX0 P w K mg base N qual (defScope st) f cdv A outer s H E) (defBody st) t := ht'.nox
  have I : Inv (cxOf CX0 P w K mg base N qual (defScope st) f cdv A outer s H E) [] (start N vs) H s1 := inv_start S hr.hd e0 hl r x
  refine wpAny_mono (ht.run [] s1 (start N vs) H _ I hq) (fun fl s' hs => ?_) fun e s' hs => hs
  have fin : ∀ {σ' : L2.St} {H' : Hp} {v : V} {u : Value}, Inv (cxOf CX0 P w K mg base N qual (defScope st) f cdv A outer s H E) [] σ' H' s' → RelV v u → Q v H' → CE outer P w H s Q u s' :=
    fun {σ' H' v u} J rv q => ⟨v, H', J.os, J.bare, J.base, J.hok, rv, q⟩
  cases fl with
  | ret u =>
    obtain ⟨v, σ', H', J, rv, q⟩ := hs
    exact fin J rv q
  | next =>
    obtain ⟨σ', H', J, q⟩ := hs
    exact fin (v := V.non) (u := Value.none) J rfl q
  | brk =>
    obtain ⟨_, _, _, q⟩ := hs
    exact False.elim q
  | cont =>
    obtain ⟨_, _, _, q⟩ := hs
    exact False.elim q
/-! ### an iterator over a tuple, as a value -/
/-- at it an iterator over the tuple at t, not yet begun -/
def ItT (t it : Addr) : HO := .ext fun h => h.IsTupleIter it t 0
section
variable {X : Cx} {pins : List (Addr × Obj)} {σ : L2.St} {H : Hp} {s : Shared}
theorem itT_ok {P : Program} {w : World} {H : Hp} {h : Heap} {t it : Addr} (e : h.IsTupleIter it t 0) : ObjOk P w H h it (ItT t it) := ⟨e, let ⟨o, ho, _⟩ := e; ⟨o, ho⟩, fun h1 h2 q k => q.at k⟩
/-- iter(t), t a tuple: the new object lies behind all that was there when the def began -/
def rIterT (K : PySem.W.Frag) (n : Nat) : List V → Hp → VK → Prop := fun xs H Q => ∃ (t : Addr) (zs : List V), xs = [.ref t] ∧ SqT K H t zs ∧ ∀ it, H it = none → n ≤ it → Q (.ref it) (upd H it (ItT t it))
theorem call_iterT : CallR X (.builtin "iter") (rIterT X.K X.s_0.heap.objs.size) := by
  intro pins s σ H xs us Q I r h
  obtain ⟨t, zs, rfl, hq, q⟩ := h
  obtain rfl := Vals.ref1 r
  obtain ⟨its, rv, p, hz⟩ := I.tuple hq
  refine Calls.call_function_entry (by decide +kernel) (by decide +kernel) PySem.W.kdk_entry_iter (PySem.W.kdk_args_iter _) ?_
  unfold Builtin.«iter»
  refine wpAny_bind (m := someArgs "iter" 1 2 _) (wpAny_of_eq (a := [Value.ref t]) (by first | rfl | kernel_rfl!) ?_)
  show wpAny _ _ (pyIter (.ref t) >>= _) _ _ _
  refine wpAny_bind (wpAny_pyIter_tuple (show s.heap.IsTuple t its.toArray from p) ?_)
  refine wpAny_pure ⟨_, rfl, ?_⟩
  exact ⟨.ref s.heap.objs.size, _, I.laid (t' := s.toks) (fun b u e => Heap.get?_push_of_some _ e) (Nat.le_refl _) (itT_ok ⟨_, Heap.get?_push_size _ rfl, rfl, rfl⟩), rfl, q _ (I.hok.fresh (Nat.le_refl _)) I.sz⟩
/-- an object that came in this def may be forgotten -/
theorem forget {a : Addr} {φ : Heap → Prop} (I : Inv X pins σ (upd H a (.ext φ)) s) (hn : H a = none) (h0 : X.s_0.heap.objs.size ≤ a) : Inv X pins σ H s := by
  have ne : ∀ {b}, (upd H a (.ext φ)) b = none → H b = none := fun {b} e => by
    by_cases z : b = a
    · rw [z]
      exact hn
    · rw [upd_ne z] at e
      exact e
  have old : ∀ {b o}, X.s_0.heap.get? b = some o → b ≠ a := fun {b o} e z => by
    have := Heap.lt_size e
    rw [z] at this
    exact absurd (Nat.lt_of_lt_of_le this h0) (Nat.lt_irrefl _)
  have some_ : ∀ {b o}, (upd H a (.ext φ)) b = some o → (∀ ψ, o ≠ .ext ψ) → H b = some o := fun {b o} e z => by
    by_cases y : b = a
    · rw [y, upd_same] at e
      cases e
      exact absurd rfl (z _)
    · rw [upd_ne y] at e
      exact e
  refine ⟨I.ok, I.os, I.bare, ⟨I.base.keep, I.base.slot, fun b o e n hx => ne (I.base.free b o e n hx), I.base.there, fun b xs e => ?_, fun b o u e => ?_, fun b ps e => ?_⟩, I.loc, I.cell, ne I.free, fun x c e => ne (I.freeC x c e), fun p hp => ?_, fun b u e => ?_, I.len⟩
  · exact some_ (I.base.tups b xs e) fun ψ z => by cases z
  · exact some_ (I.base.frzs b o u e) fun ψ z => by cases z
  · obtain ⟨m, q⟩ := I.base.tbls b ps e
    exact ⟨m, some_ q fun ψ z => by cases z⟩
  · obtain ⟨e, n, r⟩ := I.pin p hp
    exact ⟨e, ne n, r⟩
  · have hb : b ≠ a := fun z => by
      rw [z, hn] at e
      cases e
    refine (I.hok b u (by rw [upd_ne hb]; exact e)).stay (fun c v hc q => q) (fun c q => ?_) fun c xs q => ?_
    · exact some_ q fun ψ z => by cases z
    · exact some_ q fun ψ z => by cases z
/-! ### a walk over an object whose __iter__ gives an iterator over one of its tuples -/
structure ItC (K : PySem.W.Frag) (C f : Addr) : Prop where
  at_ : PySem.W.findIn K (.ref C) "__iter__" = some (some (.ref f))
  fn : PySem.W.isFn K (.ref f) = true
/-- what such an __iter__ promises -/
def spIter (K : PySem.W.Frag) (C : Addr) (fld : Str) : Nat → Sp := fun n vs H Q _ => ∃ a dx fs t xs, vs = [.ref a] ∧ H a = some (.ins C dx fs) ∧ fs.lookup fld = some (.ref t) ∧ SqT K H t xs ∧ ∀ it, H it = none → n ≤ it → Q (.ref it) (upd H it (ItT t it))
def iOwn (i : Nat) (K : PySem.W.Frag) (C : Addr) (fld : Str) : TI := fun σ H R => ∃ a dx fs t xs, σ[i]? = some (some (.ref a)) ∧ H a = some (.ins C dx fs) ∧ fs.lookup fld = some (.ref t) ∧ SqT K H t xs ∧ R (Itt K t) H
theorem pi_own {i k : Nat} {x fld : Str} {C f : Addr} {fd : FuncData} {tg : Expr} {pos : Pos} (F : FnS X.prog X.w X.K X.mg X.base CX0 k f fd ["self"] (spIter X.K C fld)) (L : ItC X.K C f) (hr : Room k X.A) (hb : Binds X.K fd ["self"] [])
    (hN : X.N[i]? = some x) (hv : Vis X.env.scope x) (hdb : (x == ("__debug__" : Str)) = false := by decide) (hcd : (x == ("__classdict__" : Str)) = false := by decide) : PI X tg (.Name x pos) (iOwn i X.K C fld) := by
  refine ⟨fun pins s σ H R I h => ?_⟩
  obtain ⟨a, dx, fs, t, xs, hs, ha, hf, ht, q⟩ := h
  refine thn ((pe_var (pos := pos) hN hv hdb hcd).run pins s σ H (fun v H1 => v = .ref a ∧ H1 = H) I ⟨.ref a, hs, rfl, rfl⟩) fun u s1 ⟨v, H1, I1, r1, q1⟩ => ?_
  obtain ⟨rfl, rfl⟩ := q1
  cases r1
  obtain ⟨mA, J, _⟩ := ins_get I1.hok ha
  obtain ⟨od, J, _⟩ := J.look
  obtain ⟨m, hF⟩ := I1.fr
  refine PySem.W.owit_iter hF I1.ok.mod.kin J L.at_ L.fn ?_
  have hsp : spIter X.K C fld s1.heap.objs.size [.ref a] H1 (fun v H' => ∃ it, v = .ref it ∧ H1 it = none ∧ s1.heap.objs.size ≤ it ∧ H' = upd H1 it (ItT t it)) (fun _ _ _ => False) := ⟨a, dx, fs, t, xs, rfl, ha, hf, ht, fun it h1 h2 => ⟨it, rfl, h1, h2, rfl⟩⟩
  have r2 : Vals [V.ref a] [Value.ref a] := .cons rfl .nil
  refine wpAny_call (codeAny_mono (F.run X.A X.stack s1 H1 ⟨[.ref a], []⟩ [.ref a] [.ref a] _ _ hr I1.env0 (by
    have := hb s1 [.ref a] I1.kIn rfl
    simpa using this) r2 hsp) fun r s' hq => ?_)
  cases r with
  | error e => exact pass0 pins σ H1 s1 e s' I1 hq
  | ok fl =>
    cases fl with
    | next => exact False.elim hq
    | brk => exact False.elim hq
    | cont => exact False.elim hq
    | ret u =>
      obtain ⟨v, H', I', rv, it, rfl, hn, hsz, rfl⟩ := I1.after hq
      cases rv
      have hit : s'.heap.IsTupleIter it t 0 := (I'.hok it _ upd_same).1
      unfold PySem.W.OwitIt
      refine wpAny_specialOf (name := Str.ofString "__next__") hit.typeIs PySem.F.slot_tuple_iterator_next.lookup ?_
      exact ⟨it, [it], _, _, H1, rfl, forget I' hn (Nat.le_trans I1.sz hsz), turn_tuple t it, hit, fun b hb => by
        have e : b = it := by simpa using hb
        subst e
        exact I1.fpOk hsz hn, q⟩
/-! ### len(o) -/
structure LnC (K : PySem.W.Frag) (C f : Addr) : Prop where
  at_ : PySem.W.findIn K (.ref C) "__len__" = some (some (.ref f))
  fn : PySem.W.isFn K (.ref f) = true
def rLen (C : Addr) (sp : Sp) : List V → Hp → VK → Prop := fun xs H Q => ∃ a dx fs, xs = [.ref a] ∧ H a = some (.ins C dx fs) ∧ sp [.ref a] H (fun v H' => ∃ n : Nat, v = .int n ∧ n < 2 ^ 62 ∧ Q (.int n) H') (fun _ _ _ => False)
theorem call_lenOwn {k : Nat} {C f : Addr} {fd : FuncData} {sp : Sp} (F : FnOk X.prog X.w X.K X.mg X.base CX0 k f fd ["self"] sp) (L : LnC X.K C f) (hr : Room (k + 1) X.A) (hb : Binds X.K fd ["self"] []) : CallR X (.builtin "len") (rLen C sp) := by
  intro pins s σ H xs us Q I r h
  obtain ⟨a, dx, fs, rfl, ha, hsp⟩ := h
  obtain rfl := Vals.ref1 r
  have sb : Sub X k X.A.in1 := Sub.in1 (⟨hr, rfl⟩ : Sub X (k + 1) X.A)
  obtain ⟨mA, J, _⟩ := ins_get I.hok ha
  obtain ⟨od, J, _⟩ := J.look
  refine Calls.call_function_entry kind_len plain_len entry_len (args_len1 _) ?_
  unfold Builtin.«len»
  refine wpAny_bind (m := oneArg "len" _) (wpAny_pure ?_)
  have e0 : Env0 X.prog X.w X.K X.mg X.base X.A.in1 X.stack s H := by
    have e := I.env0
    exact ⟨by rw [sb.fr]; exact e.frames, e.mod, e.bs, e.bsz, e.funs, e.frf, e.hok, e.bare⟩
  have r2 : Vals [V.ref a] [Value.ref a] := .cons rfl .nil
  refine wpAny_bind (m := callSpecial? (.ref a) (PySem.Str.ofString "__len__")) (PySem.W.special_fn I.kIn J L.at_ (beq_iff_eq.mp L.fn) ?_)
  refine wpAny_call (codeAny_mono (F.run X.A.in1 X.stack s H ⟨[.ref a], []⟩ [.ref a] [.ref a] _ _ sb.room e0 (by
    have := hb s [.ref a] I.kIn rfl
    simpa using this) r2 hsp) fun r s' hq => ?_)
  cases r with
  | error e => exact pass0 pins σ H s e s' I hq
  | ok fl =>
    cases fl with
    | next => exact False.elim hq
    | brk => exact False.elim hq
    | cont => exact False.elim hq
    | ret u =>
      obtain ⟨v, H', I', rv, n, rfl, hn, q⟩ := I.after hq
      obtain ⟨tk, rfl⟩ := rv
      refine wpAny_bind (wpAny_holding (wpAny_pure ?_))
      refine wpAny_bind (wpAny_letGo ?_)
      show wpAny _ _ (if ((n : Nat) : Int) < 0 then _ else _) _ _ _
      rw [if_neg (by omega)]
      show wpAny _ _ (if ((n : Nat) : Int) ≥ 2 ^ 63 then _ else _) _ _ _
      rw [if_neg (by omega)]
      exact wpAny_bind (wpAny_mkInt (wpAny_pure ⟨_, rfl, .int n, H', I'.tok _, ⟨_, rfl⟩, q⟩))
/-! ### o == y by the own __eq__, with any answer -/
/-- o of the class at C, y of a type that is no class below C -/
def rOEq (K : PySem.W.Frag) (C : Addr) (sp : Sp) : R2 := fun x y H Q => ∃ a dx fs tb, x = .ref a ∧ H a = some (.ins C dx fs) ∧ TyX K H y tb ∧ PySem.W.notFirst K C tb = true ∧ sp [x, y] H (fun v H' => (∃ b, v = .bl b) ∧ Q v H') (fun _ _ _ => False)
theorem op_oeq {k : Nat} {C f : Addr} {fd : FuncData} {sp : Sp} {ps : List Str}
    (F : FnOk X.prog X.w X.K X.mg X.base CX0 k f fd ps sp) (hs : PySem.W.findIn X.K (.ref C) "__eq__" = some (some (.ref f))) (hf : PySem.W.isFn X.K (.ref f) = true) (hr : Room k X.A) (hb : Binds X.K fd ps []) : OpR X (compareOp .Eq) (rOEq X.K C sp) := by
  intro pins s σ H x y v u Q I rx ry hq
  obtain ⟨a, dx, fs, tb, rfl, ha, hy, hnf, hsp⟩ := hq
  cases rx
  show wpAny (model X.prog X.w) X.A (richCompare .Eq (.ref a) u) (EP X pins σ Q) X.xe s
  obtain ⟨mA, J, _⟩ := ins_get I.hok ha
  obtain ⟨od, J, _⟩ := J.look
  obtain ⟨m, hF⟩ := I.fr
  refine PySem.W.cmp_K (op := .Eq) (tb := tb) hr.units0 hF I.ok.mod.kin J (let ⟨_, kx, p, _⟩ := kit_of I ry hy; kx.ty _ _ I.kIn p) hnf hs hf ?_
  have hl := F.len _ _ _ _ hsp
  have r2 : Vals [V.ref a, y] [Value.ref a, u] := .cons rfl (.cons ry .nil)
  refine wpAny_call (codeAny_mono (F.run X.A X.stack s H ⟨[.ref a, u], []⟩ [.ref a, u] [.ref a, y] _ _ hr I.env0 (by
    have := hb s [.ref a, u] I.kIn (by simpa using hl)
    simpa using this) r2 hsp) fun r s' hq => ?_)
  cases r with
  | error e => exact pass0 pins σ H s e s' I hq
  | ok fl =>
    cases fl with
    | next => exact False.elim hq
    | brk => exact False.elim hq
    | cont => exact False.elim hq
    | ret w =>
      obtain ⟨z, H', I', rz, ⟨b, rfl⟩, q⟩ := I.after hq
      cases rz
      exact ⟨.bl b, H', I', rfl, q⟩
/-! ### o.f(e), where the field f holds an object that may be called -/
theorem getmeth_fld {f : Str} {v : V} {a C dx : Addr} {fs : List (Str × V)} {A : Around} {E : Value → Shared → Prop} {pl : Sem Bool} {Q : Value × List Value → Shared → Prop} (I : Inv X pins σ H s) (e : H a = some (.ins C dx fs)) (c : Cls X.K C) (n : NoAttr X.K C f) (l : fs.lookup f = some v)
    (h : ∀ u s', Inv X pins σ H s' → RelV v u → Q (u, []) s') : wpAny (model X.prog X.w) A (getMethod (.ref a) f pl) Q E s := by
  obtain ⟨mA, O, _⟩ := ins_get I.hok e
  obtain ⟨od, J, _⟩ := O.look
  have hcan := PySem.F.canon_object_ga
  obtain ⟨h1, h2⟩ := PySem.W.plainGet_of (c.get f)
  unfold getMethod specialOf
  refine wpAny_bind (wpAny_bind (J.type.here ((PySem.W.looks_findIn I.kIn h1).here ?_)))
  dsimp only
  rw [hcan, if_neg (by decide)]
  refine wpAny_bind (wpAny_bind (J.type.here ((PySem.W.looks_findIn I.kIn h2).here ?_)))
  refine wpAny_bind (wpAny_bind (J.type.here ((PySem.W.looks_findIn I.kIn n).here ?_)))
  exact wpAny_bind (getattr_ok I e c n l fun u s' I' ru => wpAny_pure (h u s' I' ru))
def tFldCall (C : Addr) (f : Str) (D : Addr) (sp : Sp) (E : XK) (ta : TE) (t : TA) : TE := fun σ H Q => ta σ H fun x H1 => ∃ a dx fs b dy gs, x = .ref a ∧ H1 a = some (.ins C dx fs) ∧ fs.lookup f = some (.ref b) ∧ t σ H1 fun vs H2 => H2 b = some (.ins D dy gs) ∧ sp (.ref b :: vs) H2 Q E
theorem pe_fldCall {CX : CXT} {k : Nat} {fn C D : Addr} {fd : FuncData} {ps : List Str} {sp : Sp} {E : XK} {o : Expr} {m : Str} {apos pos : Pos} {e : Expr} {es : List Expr} {ta : TE} {t : TA} {pl : Sem Bool} (he : PE X o ta) (c : Cls X.K C) (n : NoAttr X.K C m)
    (F : FnOk X.prog X.w X.K X.mg X.base CX k fn fd ps sp) (L : WC.Cl X.K D fn) (hr : Room k X.A) (hb : Binds X.K fd ps []) (hx : Passes CX X E) (ha : PA X (e :: es) t)
    (hst : starEach (e :: es) X.env = (false, eval e X.env) :: starEach es X.env := by rfl) (hpl : (backTo pos (starEach es X.env)).any (·.1) = false := by rfl)
    (ht : eval (.Call (.Attribute o m apos) (e :: es) [] pos) X.env = (do
      let ov ← eval o X.env
      standAt apos.atName
      let (f, first) ← holding [ov] (getMethod ov m pl)
      callWith pos f first (backTo pos (starEach (e :: es) X.env)) (backToKw pos (keywordEach [] X.env))) := by rfl) :
    PE X (.Call (.Attribute o m apos) (e :: es) [] pos) (tFldCall C m D sp E ta t) := by
  refine ⟨fun pins s σ H Q I h => ?_⟩
  refine PySem.W.methodCall_KW (pl := pl) (thn (he.run pins s σ H _ I h) fun u s1 ⟨x, H1, I1, rx, a, dx, fs, b, dy, gs, ex, ea, l, q⟩ => ?_) ht
  subst ex
  obtain rfl : u = Value.ref a := rx
  refine getmeth_fld I1 ea c n l fun u2 s2 I2 ru2 => ?_
  obtain rfl : u2 = Value.ref b := ru2
  refine WC.callWith_inst (o := PySem.W.instObj D dy) rfl (thn (ha.run pos pins s2 σ _ _ I2 q) fun us s3 ⟨vs, H3, I3, r, q3⟩ => ?_) hst hpl
  obtain ⟨q1, q2⟩ := q3
  obtain ⟨mA, O, _⟩ := ins_get I3.hok q1
  obtain ⟨od, J, _⟩ := O.look
  refine ⟨O.obj, ?_⟩
  have r3 : Vals (.ref b :: vs) (.ref b :: us) := .cons rfl r
  have hl : ((.ref b :: us) ++ ([] : List Value)).length = ps.length := by rw [List.append_nil, ← r3.length]; exact F.len _ _ _ _ q2
  have run := F.run X.A X.stack s3 H3 ⟨.ref b :: us, []⟩ (.ref b :: us) (.ref b :: vs) Q E hr I3.env0 (by have := hb s3 (.ref b :: us) I3.kIn hl; rw [List.append_nil] at this; exact this) r3 q2
  refine wpAny_call (codeAny_mono (PySem.W.kco_code (a := ⟨us, []⟩) I3.kIn J rfl L.at_ L.fn L.fi run) fun r s' hq => ?_)
  cases r with
  | error e => exact hx pins σ H3 s3 e s' I3 hq
  | ok fl =>
    cases fl with
    | ret u => exact I3.after hq
    | next => exact False.elim hq
    | brk => exact False.elim hq
    | cont => exact False.elim hq
/-! ### o + y by the own __add__, both of one class -/
def rOAdd (C : Addr) (sp : Sp) (E : XK) : R2 := fun x y H Q => ∃ a dx fs b dy gs, x = .ref a ∧ H a = some (.ins C dx fs) ∧ y = .ref b ∧ H b = some (.ins C dy gs) ∧ sp [x, y] H (fun v H' => (∃ p, v = .ref p) ∧ Q v H') E
theorem op_oadd {CX : CXT} {k : Nat} {C f : Addr} {fd : FuncData} {sp : Sp} {ps : List Str} {E : XK} (F : FnOk X.prog X.w X.K X.mg X.base CX k f fd ps sp) (hc : PySem.W.selfFirst X.K C = true) (hs : PySem.W.findIn X.K (.ref C) "__add__" = some (some (.ref f))) (hf : PySem.W.isFn X.K (.ref f) = true)
    (hr : Room k X.A) (hb : Binds X.K fd ps []) (hx : Passes CX X E) : OpR X (binaryOp .Add) (rOAdd C sp E) := by
  intro pins s σ H x y v u Q I rx ry hq
  obtain ⟨a, dx, fs, b, dy, gs, rfl, ha, rfl, hb2, hsp⟩ := hq
  cases rx
  cases ry
  obtain ⟨mA, J, _⟩ := ins_get I.hok ha
  obtain ⟨od, J, _⟩ := J.look
  obtain ⟨mB, J', _⟩ := ins_get I.hok hb2
  obtain ⟨od', J', _⟩ := J'.look
  obtain ⟨m, hF⟩ := I.fr
  refine PySem.W.binop_K (op := .Add) hF I.ok.mod.kin J J'.type hc hs hf ?_
  have hl := F.len _ _ _ _ hsp
  have r2 : Vals [V.ref a, V.ref b] [Value.ref a, Value.ref b] := .cons rfl (.cons rfl .nil)
  refine wpAny_call (codeAny_mono (F.run X.A X.stack s H ⟨[.ref a, .ref b], []⟩ [.ref a, .ref b] [.ref a, .ref b] _ E hr I.env0 (by
    have := hb s [.ref a, .ref b] I.kIn (by simpa using hl)
    simpa using this) r2 hsp) fun r s' hq => ?_)
  cases r with
  | error e => exact hx pins σ H s e s' I hq
  | ok fl =>
    cases fl with
    | next => exact False.elim hq
    | brk => exact False.elim hq
    | cont => exact False.elim hq
    | ret w =>
      obtain ⟨z, H', I', rz, ⟨p, rfl⟩, q⟩ := I.after hq
      cases rz
      exact ⟨.ref p, H', I', rfl, q⟩
end
end KO
/-! What the walks share. -/
namespace P03
open PySem PySem.Spec PyProof.Rows L2 SX EX WK
def top (i : Nat) : Stmt := PySem.Challenge.pw_wholecables_k03_list_value_whole.main.body.getD i (.Pass ⟨0, 0, 0, 0⟩)
def clsBody : Stmt → List Stmt
  | .ClassDef _ _ _ b _ _ _ _ _ _ _ => b
  | _ => []
def mth (i j : Nat) : Stmt := (clsBody (top i)).getD j (.Pass ⟨0, 0, 0, 0⟩)
/-- a def as its callers see it -/
def Cal (P : Program) (w : World) (K : PySem.W.Frag) (mg : Str → Option Value) (base : Heap) (k : Nat) (x : Str) (ps : List Str) (sp : Sp) : Prop :=
  ∃ (f : Addr) (fd : FuncData), FnOk P w K mg base CX0 k f fd ps sp ∧ mg x = some (.ref f) ∧ PySem.W.keepIn K (.ref f) = true ∧ Binds K fd ps []
theorem pe_cal {X : Cx} {k : Nat} {x : Str} {ps : List Str} {sp : Sp} {p pos : Pos} {e : Expr} {es : List Expr} {t : TA} (C : Cal X.prog X.w X.K X.mg X.base k x ps sp) (hr : Room k X.A) (hg : Gl X x) (ha : PA X (e :: es) t)
    (hdb : (x == ("__debug__" : Str)) = false := by decide) (he : starEach (e :: es) X.env = (false, eval e X.env) :: starEach es X.env := by rfl) (hpl : (backTo pos (starEach es X.env)).any (·.1) = false := by rfl) :
    PE X (.Call (.Name x p) (e :: es) [] pos) (tCall sp [] E0 t) := by
  obtain ⟨f, fd, G, m, kp, b⟩ := C
  exact pe_call G hr hg m kp b .nil pass0 ha hdb he hpl
/-- a class as its makers see it: n values and keywords ks -/
def CalK (P : Program) (w : World) (K : PySem.W.Frag) (mg : Str → Option Value) (base : Heap) (k : Nat) (x : Str) (C : Addr) (n : Nat) (ks : List Str) (sp : Sp) : Prop :=
  ∃ (f : Addr) (fd : FuncData) (ps : List Str) (g : List Value → List Value → List Value), Mk K C f ∧ FnOk P w K mg base CX0 k f fd ps sp ∧ mg x = some (.ref C) ∧ KBn K fd ps (n + 1) ks g (fun vs zs => vs ++ zs)
theorem pe_calK {X : Cx} {k n : Nat} {C : Addr} {x : Str} {ks : List Str} {sp : Sp} {p pos : Pos} {e : Expr} {es : List Expr} {kws : List Keyword} {t tk : TA} (M : CalK X.prog X.w X.K X.mg X.base k x C n ks sp) (hr : Room (k + 1) X.A) (hg : Gl X x) (ha : PA X (e :: es) t) (hkw : PK X kws tk)
    (hall : (backToKw pos (keywordEach kws X.env)).all (·.1.isSome) = true := by rfl) (hks : (backToKw pos (keywordEach kws X.env)).filterMap (·.1) = ks := by rfl) (hdb : (x == ("__debug__" : Str)) = false := by decide)
    (he : starEach (e :: es) X.env = (false, eval e X.env) :: starEach es X.env := by rfl) (hpl : ((backTo pos (starEach (e :: es) X.env)).any (·.1) || (backToKw pos (keywordEach kws X.env)).any (·.1.isNone)) = false := by rfl) :
    PE X (.Call (.Name x p) (e :: es) kws pos) (tMakeK C n ks.length sp (fun vs zs => vs ++ zs) E0 t tk) := by
  obtain ⟨f, fd, ps, g, M, F, hm, hb⟩ := M
  exact pe_makeK M F hr hg hm hb pass0 ha hkw hall hks hdb he hpl
/-- a method as its callers see it -/
def CalM (P : Program) (w : World) (K : PySem.W.Frag) (mg : Str → Option Value) (base : Heap) (k : Nat) (C : Addr) (m : Str) (ps : List Str) (sp : Sp) : Prop :=
  ∃ (f : Addr) (fd : FuncData), FnOk P w K mg base CX0 k f fd ps sp ∧ Meth K C m f ∧ Binds K fd ps []
theorem pe_calM {X : Cx} {k : Nat} {C : Addr} {m : Str} {ps : List Str} {sp : Sp} {apos pos : Pos} {o e : Expr} {es : List Expr} {ta : TE} {t : TA} {pl : Sem Bool} (c : Cls X.K C) (M : CalM X.prog X.w X.K X.mg X.base k C m ps sp) (hr : Room k X.A) (he : PE X o ta) (ha : PA X (e :: es) t)
    (hst : starEach (e :: es) X.env = (false, eval e X.env) :: starEach es X.env := by rfl) (hpl : (backTo pos (starEach es X.env)).any (·.1) = false := by rfl)
    (ht : eval (.Call (.Attribute o m apos) (e :: es) [] pos) X.env = (do
      let ov ← eval o X.env
      standAt apos.atName
      let (f, first) ← holding [ov] (getMethod ov m pl)
      callWith pos f first (backTo pos (starEach (e :: es) X.env)) (backToKw pos (keywordEach [] X.env))) := by rfl) :
    PE X (.Call (.Attribute o m apos) (e :: es) [] pos) (tMeth C m sp [] E0 ta t) := by
  obtain ⟨f, fd, F, hm, hb⟩ := M
  exact pe_meth he c hm F hr hb .nil pass0 ha hst hpl ht
/-- an instance of the class at C as its callers see it -/
def CalI (P : Program) (w : World) (K : PySem.W.Frag) (mg : Str → Option Value) (base : Heap) (k : Nat) (C : Addr) (ps : List Str) (sp : Sp) : Prop :=
  ∃ (f : Addr) (fd : FuncData), FnOk P w K mg base CX0 k f fd ps sp ∧ WC.Cl K C f ∧ Binds K fd ps []
theorem pe_calI {X : Cx} {k i : Nat} {C : Addr} {x : Str} {ps : List Str} {sp : Sp} {p pos : Pos} {e : Expr} {es : List Expr} {t : TA} (M : CalI X.prog X.w X.K X.mg X.base k C ps sp) (hr : Room k X.A) (hN : X.N[i]? = some x) (hv : Vis X.env.scope x) (ha : PA X (e :: es) t)
    (hdb : (x == ("__debug__" : Str)) = false := by decide) (hcd : (x == ("__classdict__" : Str)) = false := by decide)
    (he : starEach (e :: es) X.env = (false, eval e X.env) :: starEach es X.env := by rfl) (hpl : (backTo pos (starEach es X.env)).any (·.1) = false := by rfl) :
    PE X (.Call (.Name x p) (e :: es) [] pos) (WC.tCallI i C sp E0 t) := by
  obtain ⟨f, fd, F, hm, hb⟩ := M
  exact WC.pe_callI F hm hr hN hv hb pass0 ha hdb hcd he hpl
/-- the built-in names that the text asks for are the built-in ones -/
structure Txt (mg : Str → Option Value) : Prop where
  b_len : mg "len" = none
  b_int : mg "int" = none
  b_bool : mg "bool" = none
  b_tuple : mg "tuple" = none
  b_list : mg "list" = none
  b_isinstance : mg "isinstance" = none
  b_range : mg "range" = none
  b_enumerate : mg "enumerate" = none
  b_zip : mg "zip" = none
  b_sum : mg "sum" = none
  b_min : mg "min" = none
  b_abs : mg "abs" = none
  b_all : mg "all" = none
  b_iter : mg "iter" = none
  b_ValueError : mg "ValueError" = none
  g_gcd : mg "gcd" = some (.builtin "math.gcd")
/-- the classes of the text -/
structure Obs (K : PySem.W.Frag) (cF cR : Addr) : Prop where
  clF : Cls K cF
  F_size : NoAttr K cF "size"
  F_entries : NoAttr K cF "entries"
  F_bottom : NoAttr K cF "bottom"
  clR : Cls K cR
  R_size : NoAttr K cR "size"
  R_pairs : NoAttr K cR "pairs"
  R_bottom : NoAttr K cR "bottom"
  R_form : NoAttr K cR "form"
theorem line_ge {n : Nat} (h : n ≤ 100000) : n ≤ sizeLine := Nat.le_trans h (by rw [sizeLine_eq]; decide)
theorem two_line : 2 ≤ sizeLine := line_ge (by omega)
theorem three_line : 3 ≤ sizeLine := line_ge (by omega)
theorem at_pos {α : Type} {xs : List α} {z : Int} {v : α} (h0 : 0 ≤ z) (h : xs[z.toNat]? = some v) : atI xs z = some v := by
  have e : z = ((z.toNat : Nat) : Int) := by omega
  rw [e]
  exact atI_nat h
theorem same_new {H : Hp} {p : Addr} (h : H p = none) (o : HO) : Same H (upd H p o) := new_same h o
theorem lc_yes {σ : L2.St} {H : Hp} {A B : Hp → Prop} (h : A H) : tYes σ H (fun b H3 => if b = true then A H3 else B H3) := by
  show (if true = true then A H else B H)
  exact iteT h
theorem ifT {c : Bool} {A B : Prop} (hc : c = true) (h : A) : if c = true then A else B := by rw [if_pos hc]; exact h
theorem ifF {c : Bool} {A B : Prop} (hc : c = false) (h : B) : if c = true then A else B := by rw [hc, if_neg Bool.false_ne_true]; exact h
theorem dec_ne {a b : V} (h : a ≠ b) : decide (a = b) = false := decide_eq_false h
theorem int_ne {a b : Int} (h : a ≠ b) : decide (V.int a = V.int b) = false := decide_eq_false fun e => h (V.int.inj e)
theorem int_eq {a b : Int} (h : a = b) : decide (V.int a = V.int b) = true := decide_eq_true (by rw [h])
theorem same_at {H H' : Hp} {D : Addr} {o : HO} (e : Same H H') (h : H D = none) : Same H (upd H' D o) := fun b u q => by
  have hne : b ≠ D := fun z => by
    rw [z, h] at q
    cases q
  rw [upd_ne hne]
  exact e _ _ q
theorem dec_lt {a b : Int} (h : decide (a < b) = true) : a < b := of_decide_eq_true h
theorem not_lt {a b : Int} (h : ¬ decide (a < b) = true) : ¬ a < b := of_decide_eq_false (Bool.eq_false_iff.mpr h)
theorem kitLT {K : PySem.W.Frag} : PySem.W.kitOne K (.type "list") (.type "list") = some true := kit_ty (by decide +kernel)
theorem wmul {m n : Nat} {x y : Int} (hx : B m x) (hy : B n y) (h0 : 0 < m) (h1 : 0 < n) (h : m + n ≤ 1000000) : CMulW x y := wide_mul hx hy h0 h1 h
theorem wdiv {n : Nat} {x g : Int} (hg : 0 < g) (h : B n g) (h0 : 0 < n) (h9 : n ≤ 9000) : CDivW x g := wide_div hg h h0 h9
theorem lk_hit {n : Str} {v : V} {l : List (Str × V)} : ((n, v) :: l).lookup n = some v := by rw [List.lookup_cons, beq_self_eq_true]
theorem lk_skip {n m : Str} {v : V} {l : List (Str × V)} (h : ¬ m = n) : ((n, v) :: l).lookup m = l.lookup m := by
  rw [List.lookup_cons]
  have : (m == n) = false := beq_eq_false_iff_ne.mpr h
  rw [this]
/-- a pair of ints -/
def FrAt (H : Hp) (a : Addr) (t b : Int) : Prop := H a = some (.tup [.int t, .int b])
theorem FrAt.same {H H' : Hp} {a : Addr} {t b : Int} (e : Same H H') (h : FrAt H a t b) : FrAt H' a t b := e _ _ h
end P03
namespace P03
open PySem PySem.Spec PyProof.Rows L2 SX EX WK
theorem kLT {K : PySem.W.Frag} : PySem.W.kitAny K (.type "list") [.type "list", .type "tuple"] = some true := by
  unfold PySem.W.kitAny
  rw [show PySem.W.kitOne K (.type "list") (.type "list") = some true from kit_ty (by decide +kernel)]
theorem kTT {K : PySem.W.Frag} : PySem.W.kitAny K (.type "tuple") [.type "list", .type "tuple"] = some true := by
  unfold PySem.W.kitAny
  rw [show PySem.W.kitOne K (.type "tuple") (.type "list") = some false from kit_ty (by decide +kernel)]
  unfold PySem.W.kitAny
  rw [show PySem.W.kitOne K (.type "tuple") (.type "tuple") = some true from kit_ty (by decide +kernel)]
theorem kIT {K : PySem.W.Frag} : PySem.W.kitAny K (.type "int") [.type "list", .type "tuple"] = some false := by
  unfold PySem.W.kitAny
  rw [show PySem.W.kitOne K (.type "int") (.type "list") = some false from kit_ty (by decide +kernel)]
  unfold PySem.W.kitAny
  rw [show PySem.W.kitOne K (.type "int") (.type "tuple") = some false from kit_ty (by decide +kernel)]
  rfl
theorem ty_tup {K : PySem.W.Frag} {H : Hp} {a : Addr} {xs : List V} (h : SqT K H a xs) : TyX K H (.ref a) (.type "tuple") := by
  rcases h with (h | ⟨o, h⟩) | ⟨o, its, n, h, c, _⟩
  · exact .base (.tup h)
  · exact .fTuple h
  · exact .kTuple h c
def spFz (K : PySem.W.Frag) (n : Nat) : Sp := fun vs H Q _ => ∃ (v : V) (t : Td), vs = [v] ∧ Sn K H v t ∧ t.dep ≤ n ∧ t.sm ∧ ∀ v' H', Same H H' → Fz K H' v' t → Q v' H'
theorem pairLT : Paired ClsV [V.ty "list", V.ty "tuple"] [.type "list", .type "tuple"] := .cons (.ty _) (.cons (.ty _) .nil)
section
variable {P : Program} {w : World} {K : PySem.W.Frag} {mg : Str → Option Value} {base : Heap} {f : Addr} {fd : FuncData}
abbrev s_frozen_numbers : Stmt := top 15
abbrev N_frozen_numbers : List Str := ["value"]
theorem sc_frozen_numbers : FnScope N_frozen_numbers ["value"] (defScope s_frozen_numbers) := ⟨rfl, rfl, rfl, by decide +kernel, rfl, by decide +kernel, by decide +kernel⟩
theorem ok_frozen_numbers (F : Fun K "frozen_numbers" "frozen_numbers" s_frozen_numbers f fd) (T : Txt mg) : FnOk P w K mg base CX0 1 f fd ["value"] (spFz K 1) := by
  refine F.ok sc_frozen_numbers (fun vs H Q E h => ?_) (fun cdv A outer s H vs Q E hr h => ?_)
  · obtain ⟨v, t, rfl, _⟩ := h
    rfl
  obtain ⟨v, t, rfl, hs, hd, hm, q⟩ := h
  refine ⟨_, (pss_cons (ps_if (pt_val (pe_callB call_isiT (by rfl) T.b_isinstance (by decide +kernel) (pa_cons (pv 0) (pa_cons (pe_tup (pa_cons (pe_bltn (v := .ty "list") (by rfl) T.b_list (by decide +kernel) rfl) (pa_cons (pe_bltn (v := .ty "tuple") (by rfl) T.b_tuple (by decide +kernel) rfl) pa_nil))) pa_nil)))) (pss_one (ps_ret (pe_callTy call_tuple_of (by rfl) T.b_tuple (by decide +kernel) (pa_cons (pv 0) pa_nil)))) pss_nil)
  (pss_one (ps_ret (pv 0)))), ?_⟩
  refine ⟨_, rfl, two_line, fun tp htp => ?_⟩
  have g := same_new htp (.tup [V.ty "list", V.ty "tuple"])
  have hs' := hs.same g
  cases hs' with
  | int i => exact ⟨_, tp, _, _, _, _, rfl, upd_same, pairLT, .base (.int i), kIT, _, rfl, ifF rfl ⟨_, rfl, q _ _ g (.int i)⟩⟩
  | @lst a vs ts ha hall =>
    simp only [Td.dep] at hd
    refine ⟨_, tp, _, _, _, _, rfl, upd_same, pairLT, .base (.lst ha), kLT, _, rfl, ifT rfl ⟨_, rfl, a, _, rfl, .inl ⟨SqL.of ha, fun l hl => ?_⟩⟩⟩
    have g2 := same_new hl (.tup vs)
    exact q _ _ (g.trans g2) (.tup (SqT.of upd_same) ((hall.zero (by omega)).tk (WK.Same.tk g2)))
  | @tup a vs ts ha hall =>
    simp only [Td.dep] at hd
    exact ⟨_, tp, _, _, _, _, rfl, upd_same, pairLT, ty_tup ha, kTT, _, rfl, ifT rfl ⟨_, rfl, a, _, rfl, .inr ⟨ha, q _ _ g (.tup ha (hall.zero (by omega)))⟩⟩⟩
abbrev s_frozen_part : Stmt := top 16
abbrev N_frozen_part : List Str := ["value", "part"]
theorem sc_frozen_part : FnScope N_frozen_part ["value"] (defScope s_frozen_part) := ⟨rfl, rfl, rfl, by decide +kernel, rfl, by decide +kernel, by decide +kernel⟩
theorem ok_frozen_part (F : Fun K "frozen_part" "frozen_part" s_frozen_part f fd) (T : Txt mg) (C_frozen_numbers : Cal P w K mg base 1 "frozen_numbers" ["value"] (spFz K 1)) : FnOk P w K mg base CX0 2 f fd ["value"] (spFz K 2) := by
  refine F.ok sc_frozen_part (fun vs H Q E h => ?_) (fun cdv A outer s H vs Q E hr h => ?_)
  · obtain ⟨v, t, rfl, _⟩ := h
    rfl
  obtain ⟨v, t, rfl, hs, hd, hm, q⟩ := h
  refine ⟨_, (pss_cons (ps_if (pt_val (pe_callB call_isiT (by rfl) T.b_isinstance (by decide +kernel) (pa_cons (pv 0) (pa_cons (pe_tup (pa_cons (pe_bltn (v := .ty "list") (by rfl) T.b_list (by decide +kernel) rfl) (pa_cons (pe_bltn (v := .ty "tuple") (by rfl) T.b_tuple (by decide +kernel) rfl) pa_nil))) pa_nil)))) (pss_one (ps_ret (pe_callTy call_tuple_of (by rfl) T.b_tuple (by decide +kernel) (pa_cons (pe_lc (own := [("part", 1)]) (g := gName 1) (tt := tYes) (by rfl) sc_frozen_part.nd (pi_or (pi_list (pv 0)) (pi_tup (pv 0))) (blkOk_by (N := N_frozen_part) (sc := defScope s_frozen_part) (by decide +kernel)) (fun _ _ _ _ _ => (pg_name (i := 1) sc_frozen_part.nd rfl (Or.inl rfl))) (fun _ _ _ _ _ => pts_nil) (fun _ _ _ _ _ => (pe_cal C_frozen_numbers (hr.mono (by omega)) rfl (pa_cons (pv 1) pa_nil)))) pa_nil)))) pss_nil)
  (pss_one (ps_ret (pv 0)))), ?_⟩
  refine ⟨_, rfl, two_line, fun tp htp => ?_⟩
  have g := same_new htp (.tup [V.ty "list", V.ty "tuple"])
  have hs' := hs.same g
  cases hs' with
  | int i => exact ⟨_, tp, _, _, _, _, rfl, upd_same, pairLT, .base (.int i), kIT, _, rfl, ifF rfl ⟨_, rfl, q _ _ g (.int i)⟩⟩
  | @lst a vs ts ha hall =>
    simp only [Td.dep] at hd
    simp only [Td.sm] at hm
    have hl := hall.len
    refine ⟨_, tp, _, _, _, _, rfl, upd_same, pairLT, .base (.lst ha), kLT, _, rfl, ifT rfl (.inl ⟨_, rfl, a, rfl, ⟨_, SqL.of ha⟩, fun D hD => ?_⟩)⟩
    refine lc_m (walk_list (K := K) (a := a) (xs := vs)) (Fz K) stb_Fz ts hl hm.1 hD (fun H' s => s.seq (SqL.of ha)) (fun _ _ _ _ => ys_at) id (fun i b x H1 H2 hb s1 s2 y A B hA => ?_) (fun H' l s1 hl1 rs => ?_)
    · obtain ⟨t1, ht1, hx⟩ := hall.get y.2
      rw [hb] at ht1
      cases ht1
      have mb := List.mem_of_getElem? hb
      exact ⟨rfl, lc_yes ⟨_, rfl, _, b, rfl, hx.same s2, Nat.le_trans (deps_le (n := 1) (by omega) mb) (Nat.le_refl _), sms_of hm.2 mb, fun v' H' s h => hA _ _ s h⟩⟩
    · rw [List.map_id] at rs
      refine ⟨D, l, rfl, .inl ⟨SqL.of hl1, fun l2 hl2 => ?_⟩⟩
      have g2 := same_new hl2 (.tup l)
      exact q _ _ (g.trans (s1.trans g2)) (.tup (SqT.of upd_same) (rs.fz.tk (WK.Same.tk g2)))
  | @tup a vs ts ha hall =>
    simp only [Td.dep] at hd
    simp only [Td.sm] at hm
    have hl := hall.len
    refine ⟨_, tp, _, _, _, _, rfl, upd_same, pairLT, ty_tup ha, kTT, _, rfl, ifT rfl (.inr ⟨_, rfl, a, rfl, ⟨_, ha⟩, fun D hD => ?_⟩)⟩
    refine lc_m (walk_tup (K := K) (a := a) (xs := vs)) (Fz K) stb_Fz ts hl hm.1 hD (fun H' s => Same_seqT s ha) (fun _ _ _ _ => ys_at) id (fun i b x H1 H2 hb s1 s2 y A B hA => ?_) (fun H' l s1 hl1 rs => ?_)
    · obtain ⟨t1, ht1, hx⟩ := hall.get y.2
      rw [hb] at ht1
      cases ht1
      have mb := List.mem_of_getElem? hb
      exact ⟨rfl, lc_yes ⟨_, rfl, _, b, rfl, hx.same s2, Nat.le_trans (deps_le (n := 1) (by omega) mb) (Nat.le_refl _), sms_of hm.2 mb, fun v' H' s h => hA _ _ s h⟩⟩
    · rw [List.map_id] at rs
      refine ⟨D, l, rfl, .inl ⟨SqL.of hl1, fun l2 hl2 => ?_⟩⟩
      have g2 := same_new hl2 (.tup l)
      exact q _ _ (g.trans (s1.trans g2)) (.tup (SqT.of upd_same) (rs.fz.tk (WK.Same.tk g2)))
abbrev s_frozen : Stmt := top 17
abbrev N_frozen : List Str := ["value", "part"]
theorem sc_frozen : FnScope N_frozen ["value"] (defScope s_frozen) := ⟨rfl, rfl, rfl, by decide +kernel, rfl, by decide +kernel, by decide +kernel⟩
theorem ok_frozen (F : Fun K "frozen" "frozen" s_frozen f fd) (T : Txt mg) (C_frozen_part : Cal P w K mg base 2 "frozen_part" ["value"] (spFz K 2)) : FnOk P w K mg base CX0 3 f fd ["value"] (spFz K 3) := by
  refine F.ok sc_frozen (fun vs H Q E h => ?_) (fun cdv A outer s H vs Q E hr h => ?_)
  · obtain ⟨v, t, rfl, _⟩ := h
    rfl
  obtain ⟨v, t, rfl, hs, hd, hm, q⟩ := h
  refine ⟨_, (pss_cons (ps_if (pt_val (pe_callB call_isiT (by rfl) T.b_isinstance (by decide +kernel) (pa_cons (pv 0) (pa_cons (pe_tup (pa_cons (pe_bltn (v := .ty "list") (by rfl) T.b_list (by decide +kernel) rfl) (pa_cons (pe_bltn (v := .ty "tuple") (by rfl) T.b_tuple (by decide +kernel) rfl) pa_nil))) pa_nil)))) (pss_one (ps_ret (pe_callTy call_tuple_of (by rfl) T.b_tuple (by decide +kernel) (pa_cons (pe_lc (own := [("part", 1)]) (g := gName 1) (tt := tYes) (by rfl) sc_frozen.nd (pi_or (pi_list (pv 0)) (pi_tup (pv 0))) (blkOk_by (N := N_frozen) (sc := defScope s_frozen) (by decide +kernel)) (fun _ _ _ _ _ => (pg_name (i := 1) sc_frozen.nd rfl (Or.inl rfl))) (fun _ _ _ _ _ => pts_nil) (fun _ _ _ _ _ => (pe_cal C_frozen_part (hr.mono (by omega)) rfl (pa_cons (pv 1) pa_nil)))) pa_nil)))) pss_nil)
  (pss_one (ps_ret (pv 0)))), ?_⟩
  refine ⟨_, rfl, two_line, fun tp htp => ?_⟩
  have g := same_new htp (.tup [V.ty "list", V.ty "tuple"])
  have hs' := hs.same g
  cases hs' with
  | int i => exact ⟨_, tp, _, _, _, _, rfl, upd_same, pairLT, .base (.int i), kIT, _, rfl, ifF rfl ⟨_, rfl, q _ _ g (.int i)⟩⟩
  | @lst a vs ts ha hall =>
    simp only [Td.dep] at hd
    simp only [Td.sm] at hm
    have hl := hall.len
    refine ⟨_, tp, _, _, _, _, rfl, upd_same, pairLT, .base (.lst ha), kLT, _, rfl, ifT rfl (.inl ⟨_, rfl, a, rfl, ⟨_, SqL.of ha⟩, fun D hD => ?_⟩)⟩
    refine lc_m (walk_list (K := K) (a := a) (xs := vs)) (Fz K) stb_Fz ts hl hm.1 hD (fun H' s => s.seq (SqL.of ha)) (fun _ _ _ _ => ys_at) id (fun i b x H1 H2 hb s1 s2 y A B hA => ?_) (fun H' l s1 hl1 rs => ?_)
    · obtain ⟨t1, ht1, hx⟩ := hall.get y.2
      rw [hb] at ht1
      cases ht1
      have mb := List.mem_of_getElem? hb
      exact ⟨rfl, lc_yes ⟨_, rfl, _, b, rfl, hx.same s2, Nat.le_trans (deps_le (n := 2) (by omega) mb) (Nat.le_refl _), sms_of hm.2 mb, fun v' H' s h => hA _ _ s h⟩⟩
    · rw [List.map_id] at rs
      refine ⟨D, l, rfl, .inl ⟨SqL.of hl1, fun l2 hl2 => ?_⟩⟩
      have g2 := same_new hl2 (.tup l)
      exact q _ _ (g.trans (s1.trans g2)) (.tup (SqT.of upd_same) (rs.fz.tk (WK.Same.tk g2)))
  | @tup a vs ts ha hall =>
    simp only [Td.dep] at hd
    simp only [Td.sm] at hm
    have hl := hall.len
    refine ⟨_, tp, _, _, _, _, rfl, upd_same, pairLT, ty_tup ha, kTT, _, rfl, ifT rfl (.inr ⟨_, rfl, a, rfl, ⟨_, ha⟩, fun D hD => ?_⟩)⟩
    refine lc_m (walk_tup (K := K) (a := a) (xs := vs)) (Fz K) stb_Fz ts hl hm.1 hD (fun H' s => Same_seqT s ha) (fun _ _ _ _ => ys_at) id (fun i b x H1 H2 hb s1 s2 y A B hA => ?_) (fun H' l s1 hl1 rs => ?_)
    · obtain ⟨t1, ht1, hx⟩ := hall.get y.2
      rw [hb] at ht1
      cases ht1
      have mb := List.mem_of_getElem? hb
      exact ⟨rfl, lc_yes ⟨_, rfl, _, b, rfl, hx.same s2, Nat.le_trans (deps_le (n := 2) (by omega) mb) (Nat.le_refl _), sms_of hm.2 mb, fun v' H' s h => hA _ _ s h⟩⟩
    · rw [List.map_id] at rs
      refine ⟨D, l, rfl, .inl ⟨SqL.of hl1, fun l2 hl2 => ?_⟩⟩
      have g2 := same_new hl2 (.tup l)
      exact q _ _ (g.trans (s1.trans g2)) (.tup (SqT.of upd_same) (rs.fz.tk (WK.Same.tk g2)))
end
end P03
namespace P03
open PySem PySem.Spec PyProof.Rows L2 SX EX WK
theorem take_one {α : Type} {xs : List α} {i : Nat} {x : α} (h : xs[i]? = some x) : xs.take (i + 1) = xs.take i ++ [x] := by
  rw [List.take_add_one, h]
  rfl
theorem ints_at {ns : List Int} {i : Nat} {x : V} (h : (ns.map V.int)[i]? = some x) : ∃ n, ns[i]? = some n ∧ x = V.int n := by
  rw [List.getElem?_map] at h
  cases e : ns[i]? with
  | none => rw [e] at h; cases h
  | some n => rw [e] at h; exact ⟨n, rfl, (Option.some.inj h).symm⟩
def spLow : Sp := fun vs H Q _ => ∃ (l : Addr) (ns : List Int) (b : Int), vs = [.ref l, .int b] ∧ H l = some (.lst (ns.map V.int)) ∧ 0 < b ∧ B 9000 b ∧ ns.length ≤ 16000000 ∧
  ∀ r t H', Same H H' → H' r = some (.tup [.ref t, .int (b / gf b ns)]) → H' t = some (.tup ((ns.map fun n => n / gf b ns).map V.int)) → Q (.ref r) H'
section
variable {P : Program} {w : World} {K : PySem.W.Frag} {mg : Str → Option Value} {base : Heap} {f : Addr} {fd : FuncData}
abbrev s_lowered : Stmt := top 18
abbrev N_lowered : List Str := ["numbers", "bottom", "shared", "number"]
theorem sc_lowered : FnScope N_lowered ["numbers", "bottom"] (defScope s_lowered) := ⟨rfl, rfl, rfl, by decide +kernel, rfl, by decide +kernel, by decide +kernel⟩
theorem ok_lowered (F : Fun K "lowered" "lowered" s_lowered f fd) (T : Txt mg) : FnOk P w K mg base CX0 1 f fd ["numbers", "bottom"] spLow := by
  refine F.ok sc_lowered (fun vs H Q E h => ?_) (fun cdv A outer s H vs Q E hr h => ?_)
  · obtain ⟨l, ns, b, rfl, _⟩ := h
    rfl
  obtain ⟨l, ns, b, rfl, hl, hb, hB, hn, q⟩ := h
  refine ⟨_, (pss_cons (ps_set (i := 2) sc_lowered.nd rfl (Or.inr rfl) (pv 1))
  (pss_cons (ps_for PassesOwn.never rfl (pi_list (pv 0)) (pg_name (i := 3) sc_lowered.nd rfl (Or.inl rfl)) (pss_one (ps_set (i := 2) sc_lowered.nd rfl (Or.inr rfl) (pe_callBfun cr_gcd rfl T.g_gcd (pa_cons (pv 2) (pa_cons (pv 3) pa_nil))))))
  (pss_one (ps_ret (pe_tup (pa_cons (pe_callTy call_tuple_of (by rfl) T.b_tuple (by decide +kernel) (pa_cons (pe_lc (own := [("number", 3)]) (g := gName 3) (tt := tYes) (by rfl) sc_lowered.nd (pi_list (pv 0)) (blkOk_by (N := N_lowered) (sc := defScope s_lowered) (by decide +kernel)) (fun _ _ _ _ _ => (pg_name (i := 3) sc_lowered.nd rfl (Or.inl rfl))) (fun _ _ _ _ _ => pts_nil) (fun _ _ _ _ _ => (pe_op op_fdivW (pv 3) (pv 2)))) pa_nil)) (pa_cons (pe_op op_fdivW (pv 1) (pv 2)) pa_nil))))))), ?_⟩
  have hg := gf_pos hb ns
  have hgB : B 9000 (gf b ns) := B.le (Int.le_of_lt hg) (gf_le hb ns) hB
  refine ⟨_, rfl, _, rfl, l, rfl, ⟨_, SqL.of hl⟩, for_list (K := K) (a := l) (xs := ns.map V.int) (fun i σ H' => ∃ v : Option V, σ = [some (.ref l), some (.int b), some (.int (gf b (ns.take i))), v] ∧ H' = H)
    ⟨none, rfl, rfl⟩ (fun i σ H' _ ⟨_, _, e⟩ => by rw [e]; exact SqL.of hl) ?_ ?_⟩
  · rintro i x σ H' hi ⟨v, rfl, rfl⟩
    obtain ⟨n, hni, rfl⟩ := ints_at hi
    refine ⟨_, rfl, _, rfl, _, _, rfl, some (V.int n), ?_, rfl⟩
    rw [take_one hni, gf_snoc]
    rfl
  · rintro σ H' ⟨v, rfl, rfl⟩
    rw [List.length_map, List.take_length]
    refine ⟨_, rfl, l, rfl, ⟨_, SqL.of hl⟩, fun D hD => ?_⟩
    refine lc_m (walk_list (K := K) (a := l) (xs := ns.map V.int)) RI (stb_RI (K := K)) ns (List.length_map ..) (by omega) hD (fun H' s => s.seq (SqL.of hl)) (fun _ _ _ _ => ys_at) (fun n => n / gf b ns) (fun i n x H1 H2 hb s1 s2 y A B hA => ?_) (fun H2 l1 s1 hl1 rs => ?_)
    · obtain ⟨n', hn', rfl⟩ := ints_at y.2
      rw [hb] at hn'
      cases hn'
      exact ⟨rfl, lc_yes ⟨_, rfl, _, rfl, _, _, rfl, rfl, wdiv hg hgB (by decide) (by decide), hA _ _ (fun _ _ h => h) rfl⟩⟩
    · refine ⟨D, l1, rfl, .inl ⟨SqL.of hl1, fun t ht => ?_⟩⟩
      refine ⟨_, rfl, _, rfl, _, _, rfl, rfl, wdiv hg hgB (by decide) (by decide), two_line, fun r hr' => ?_⟩
      refine q r t _ (s1.trans ((same_new ht _).trans (same_new hr' _))) upd_same ?_
      rw [upd_ne (ne_of_none (upd_same (H := H2) (a := t)) hr'), upd_same, rs.ints]
/-! ### fractions -/
def spFraction : Sp := fun vs H Q _ => ∃ t b : Int, vs = [.int t, .int b] ∧ 0 < b ∧ B 9000 b ∧ ∀ r H', Same H H' → FrAt H' r (t / gI t b) (b / gI t b) → Q (.ref r) H'
abbrev s_fraction : Stmt := top 19
abbrev N_fraction : List Str := ["top", "bottom", "shared"]
theorem sc_fraction : FnScope N_fraction ["top", "bottom"] (defScope s_fraction) := ⟨rfl, rfl, rfl, by decide +kernel, rfl, by decide +kernel, by decide +kernel⟩
theorem ok_fraction (F : Fun K "fraction" "fraction" s_fraction f fd) (T : Txt mg) : FnOk P w K mg base CX0 1 f fd ["top", "bottom"] spFraction := by
  refine F.ok sc_fraction (fun vs H Q E h => ?_) (fun cdv A outer s H vs Q E hr h => ?_)
  · obtain ⟨t, b, rfl, _⟩ := h
    rfl
  obtain ⟨t, b, rfl, hb, hB, q⟩ := h
  refine ⟨_, (pss_cons (ps_if (pt_cmpR op_eq (pv 1) pe_int (nomark _)) (pss_one ps_never) pss_nil)
  (pss_cons (ps_set (i := 2) sc_fraction.nd rfl (Or.inl rfl) (pe_callBfun cr_gcd rfl T.g_gcd (pa_cons (pv 0) (pa_cons (pv 1) pa_nil))))
  (pss_cons (ps_if (pt_cmpR op_lt (pv 1) pe_int (nomark _)) (pss_one (ps_set (i := 2) sc_fraction.nd rfl (Or.inl rfl) (pe_un un_neg (pv 2)))) pss_nil)
  (pss_one (ps_ret (pe_tup (pa_cons (pe_op op_fdivW (pv 0) (pv 2)) (pa_cons (pe_op op_fdivW (pv 1) (pv 2)) pa_nil)))))))), ?_⟩
  refine ⟨_, rfl, rfl, _, rfl, ifF (int_ne (by omega)) ?_⟩
  refine ⟨_, rfl, _, rfl, t, b, rfl, ?_⟩
  refine ⟨_, rfl, _, _, rfl, rfl, _, rfl, ifF (decide_eq_false (by omega)) ?_⟩
  have g := gI_pos' (t := t) hb
  have gB : B 9000 (gI t b) := B.le (Int.le_of_lt g) (by
    have : Nat.gcd t.natAbs b.natAbs ≤ b.natAbs := Nat.le_of_dvd (by omega) (Nat.gcd_dvd_right _ _)
    unfold gI
    omega) hB
  refine ⟨_, rfl, _, rfl, _, _, rfl, rfl, wdiv g gB (by decide) (by decide), _, rfl, _, rfl, _, _, rfl, rfl, wdiv g gB (by decide) (by decide), two_line, fun r hr' => q r _ (same_new hr' _) upd_same⟩
end
end P03
namespace P03
open PySem PySem.Spec PyProof.Rows L2 SX EX WK
theorem inV_ints (x : Int) (ns : List Int) : inV (.int x) (ns.map V.int) = decide (x ∈ ns) := by
  unfold inV
  rw [Bool.eq_iff_iff, List.any_eq_true, decide_eq_true_iff]
  constructor
  · rintro ⟨v, hv, e⟩
    obtain ⟨n, hn, rfl⟩ := List.mem_map.mp hv
    have e1 : (n == x) = true := e
    rw [← eq_of_beq e1]
    exact hn
  · intro h
    exact ⟨.int x, List.mem_map.mpr ⟨x, h, rfl⟩, by show (x == x) = true; exact beq_self_eq_true x⟩
theorem flat_ints (ns : List Int) : (ns.map V.int).all flatV = true := by
  rw [List.all_eq_true]
  intro v hv
  obtain ⟨n, _, rfl⟩ := List.mem_map.mp hv
  rfl
/-- the matrix at v -/
theorem fz_mat {K : PySem.W.Frag} {H : Hp} {v : V} {m : List (List Int)} (h : Fz K H v (tdm m)) : ∃ (a : Addr) (vs : List V), v = .ref a ∧ SqT K H a vs ∧ vs.length = m.length ∧ ∀ (i : Nat) (r : List Int), m[i]? = some r → ∃ p : Addr, vs[i]? = some (.ref p) ∧ SqT K H p (r.map V.int) := by
  cases h with
  | @tup a vs ts ha hall =>
    have hl : vs.length = m.length := by rw [hall.len, List.length_map]
    refine ⟨a, vs, rfl, ha, hl, fun i r hr => ?_⟩
    have hi : i < vs.length := by
      have := (List.getElem?_eq_some_iff.mp hr).1
      omega
    obtain ⟨t, ht, hz⟩ := hall.get (List.getElem?_eq_getElem hi)
    rw [List.getElem?_map, hr] at ht
    cases ht
    generalize hv : vs[i] = u at hz
    cases hz with
    | @tup p us ts hp hq =>
      refine ⟨p, by rw [List.getElem?_eq_getElem hi, hv], ?_⟩
      rw [← hq.ints]
      exact hp
/-- the pairs at v -/
theorem fz_prs {K : PySem.W.Frag} {H : Hp} {v : V} {ps : List RW} (h : Fz K H v (.tup (ps.map tdr))) : ∃ (a : Addr) (vs : List V), v = .ref a ∧ SqT K H a vs ∧ vs.length = ps.length ∧ ∀ (i : Nat) (p : RW), ps[i]? = some p → ∃ q r : Addr, vs[i]? = some (.ref q) ∧ SqT K H q [.ref r, .int p.2] ∧ SqT K H r (p.1.map V.int) := by
  cases h with
  | @tup a vs ts ha hall =>
    have hl : vs.length = ps.length := by rw [hall.len, List.length_map]
    refine ⟨a, vs, rfl, ha, hl, fun i p hp => ?_⟩
    have hi : i < vs.length := by
      have := (List.getElem?_eq_some_iff.mp hp).1
      omega
    obtain ⟨t, ht, hz⟩ := hall.get (List.getElem?_eq_getElem hi)
    rw [List.getElem?_map, hp] at ht
    cases ht
    generalize hv : vs[i] = u at hz
    cases hz with
    | @tup q us ts hq hal =>
      cases hal with
      | cons h1 h2 =>
        cases h2 with
        | cons h3 h4 =>
          cases h4
          cases h3
          cases h1 with
          | @tup r rs ts hr hrs =>
            refine ⟨q, r, by rw [List.getElem?_eq_getElem hi, hv], hq, ?_⟩
            rw [← hrs.ints]
            exact hr
/-- three ints at v -/
theorem fz_tie {K : PySem.W.Frag} {H : Hp} {v : V} {t : T3} (h : Fz K H v (td3 t)) : ∃ a, v = .ref a ∧ SqT K H a [.int t.1, .int t.2.1, .int t.2.2] := by
  cases h with
  | @tup a vs ts ha hall =>
    cases hall with
    | cons h1 h2 =>
      cases h2 with
      | cons h3 h4 =>
        cases h4 with
        | cons h5 h6 =>
          cases h6
          cases h1
          cases h3
          cases h5
          exact ⟨a, rfl, ha⟩
theorem fz_ints {K : PySem.W.Frag} {H : Hp} {v : V} {ns : List Int} (h : Fz K H v (.tup (ns.map Td.int))) : ∃ a, v = .ref a ∧ SqT K H a (ns.map V.int) := by
  cases h with
  | @tup a vs ts ha hall =>
    rw [← hall.ints]
    exact ⟨a, rfl, ha⟩
def Sqr (m : List (List Int)) : Prop := ∀ r ∈ m, r.length = m.length
def ent (m : List (List Int)) (i j : Nat) : Int := (m.getD i []).getD j 0
def Sym (m : List (List Int)) : Prop := ∀ i j, ent m i j = ent m j i
section
variable {P : Program} {w : World} {K : PySem.W.Frag} {mg : Str → Option Value} {base : Heap} {f : Addr} {fd : FuncData}
def spSquare (K : PySem.W.Frag) : Sp := fun vs H Q _ => ∃ (v : V) (m : List (List Int)), vs = [v] ∧ Fz K H v (tdm m) ∧ Sqr m ∧ ∀ H', Same H H' → Q .non H'
abbrev s_check_square : Stmt := top 22
abbrev N_check_square : List Str := ["lines", "row", "line"]
theorem sc_check_square : FnScope N_check_square ["lines"] (defScope s_check_square) := ⟨rfl, rfl, rfl, by decide +kernel, rfl, by decide +kernel, by decide +kernel⟩
theorem ok_check_square (F : Fun K "check_square" "check_square" s_check_square f fd) (T : Txt mg) : FnOk P w K mg base CX0 1 f fd ["lines"] (spSquare K) := by
  refine F.ok sc_check_square (fun vs H Q E h => ?_) (fun cdv A outer s H vs Q E hr h => ?_)
  · obtain ⟨v, m, rfl, _⟩ := h
    rfl
  obtain ⟨v, m, rfl, hz, hs, q⟩ := h
  obtain ⟨a, vs, rfl, ha, hl, hrow⟩ := fz_mat hz
  refine ⟨_, (pss_one (ps_for PassesOwn.never rfl (WE.pi_enT (by rfl) T.b_enumerate (pa_cons (pv 0) pa_nil)) (pg_tup rfl (pgs_cons (pg_name (i := 1) sc_check_square.nd rfl (Or.inl rfl)) (pgs_cons (pg_name (i := 2) sc_check_square.nd rfl (Or.inl rfl)) pgs_nil))) (pss_one (ps_if (pt_cmpR op_ne (pe_callB call_len_seq (by rfl) T.b_len PySem.boot_len (pa_cons (pv 2) pa_nil)) (pe_callB call_len_seq (by rfl) T.b_len PySem.boot_len (pa_cons (pv 0) pa_nil)) (nomark _)) (pss_one ps_never) pss_nil)))), ?_⟩
  refine ⟨_, rfl, a, vs, rfl, ha, for_it (WE.walk_enT (K := K) (a := a) (xs := vs)) (fun i σ H' => ∃ v1 v2 : Option V, σ = [some (.ref a), v1, v2] ∧ Same H H') ⟨none, none, rfl, fun _ _ h => h⟩ (fun i σ H' _ ⟨_, _, _, s⟩ => Same_seqT s ha) ?_ ?_⟩
  · rintro i x σ H1 H2 hi ⟨v1, v2, rfl, s1⟩ y
    have s2 := ys_pair y
    obtain ⟨Tp, x1, x2, rfl, hT, rfl, e1, e2⟩ := y
    cases e1
    obtain ⟨r, hr1⟩ : ∃ r, m[i]? = some r := ⟨_, List.getElem?_eq_getElem (by omega)⟩
    obtain ⟨p, hp, hpr⟩ := hrow i r hr1
    rw [show vs[i]? = some x2 from e2] at hp
    cases hp
    have s3 := s1.trans s2
    refine ⟨_, _, rfl, SqT.of upd_same, rfl, _, _, rfl, _, _, rfl, rfl, ?_⟩
    refine ⟨_, rfl, _, _, rfl, .inr (Same_seqT s3 hpr), _, rfl, _, _, rfl, .inr (Same_seqT s3 ha), rfl, _, rfl, ifF ?_ ⟨_, _, rfl, s3⟩⟩
    have e : (((r.map V.int).length : Nat) : Int) = ((vs.length : Nat) : Int) := by rw [List.length_map, hl, hs r (List.mem_of_getElem? hr1)]
    rw [e]
    simp
  · rintro σ H' ⟨_, _, rfl, s1⟩
    exact q H' s1
def spSymm (K : PySem.W.Frag) : Sp := fun vs H Q _ => ∃ (v : V) (m : List (List Int)), vs = [v] ∧ Fz K H v (tdm m) ∧ Sqr m ∧ Sym m ∧ m.length ≤ 1000 ∧ Q .non H
theorem ent_at {m : List (List Int)} {i j : Nat} {r : List Int} (h : m[i]? = some r) (hj : j < r.length) : r[j]? = some (ent m i j) := by
  unfold ent
  rw [show m.getD i [] = r from by rw [List.getD_eq_getElem?_getD, h]; rfl, List.getD_eq_getElem?_getD, List.getElem?_eq_getElem hj]
  rfl
theorem at_int {ns : List Int} {j : Nat} {x : Int} (h : ns[j]? = some x) : (ns.map V.int)[j]? = some (.int x) := by
  rw [List.getElem?_map, h]
  rfl
abbrev s_check_symmetric : Stmt := top 23
abbrev N_check_symmetric : List Str := ["lines", "row", "column"]
theorem sc_check_symmetric : FnScope N_check_symmetric ["lines"] (defScope s_check_symmetric) := ⟨rfl, rfl, rfl, by decide +kernel, rfl, by decide +kernel, by decide +kernel⟩
theorem ok_check_symmetric (F : Fun K "check_symmetric" "check_symmetric" s_check_symmetric f fd) (T : Txt mg) : FnOk P w K mg base CX0 1 f fd ["lines"] (spSymm K) := by
  refine F.ok sc_check_symmetric (fun vs H Q E h => ?_) (fun cdv A outer s H vs Q E hr h => ?_)
  · obtain ⟨v, m, rfl, _⟩ := h
    rfl
  obtain ⟨v, m, rfl, hz, hs, hsy, h1000, q⟩ := h
  obtain ⟨a, vs, rfl, ha, hl, hrow⟩ := fz_mat hz
  refine ⟨_, (pss_one (ps_for PassesOwn.never rfl (pi_range1 (by rfl) T.b_range (pa_cons (pe_callB call_len_seq (by rfl) T.b_len PySem.boot_len (pa_cons (pv 0) pa_nil)) pa_nil)) (pg_name (i := 1) sc_check_symmetric.nd rfl (Or.inl rfl)) (pss_one (ps_for PassesOwn.never rfl (pi_range2 (by rfl) T.b_range (pa_cons (pe_op op_add (pv 1) pe_int) (pa_cons (pe_callB call_len_seq (by rfl) T.b_len PySem.boot_len (pa_cons (pv 0) pa_nil)) pa_nil))) (pg_name (i := 2) sc_check_symmetric.nd rfl (Or.inl rfl)) (pss_one (ps_if (pt_cmpR op_ne (pe_ix ix_tup (pe_ix ix_tup (pv 0) (pv 1) (fun _ _ => rfl)) (pv 2) (fun _ _ => rfl)) (pe_ix ix_tup (pe_ix ix_tup (pv 0) (pv 2) (fun _ _ => rfl)) (pv 1) (fun _ _ => rfl)) (nomark _)) (pss_one ps_never) pss_nil)))))), ?_⟩
  have row : ∀ i, i < m.length → ∃ (p : Addr) (r : List Int), vs[i]? = some (.ref p) ∧ SqT K H p (r.map V.int) ∧ ∀ j, j < m.length → r[j]? = some (ent m i j) := fun i hi => by
    have e := List.getElem?_eq_getElem hi
    obtain ⟨p, h1, h2⟩ := hrow i _ e
    exact ⟨p, _, h1, h2, fun j hj => ent_at e (by rw [hs _ (List.mem_of_getElem? e)]; exact hj)⟩
  refine ⟨_, rfl, _, _, rfl, .inr ha, (m.length : Int), by rw [hl], by omega, by omega, for_range (lo := 0) (n := m.length) (fun i σ H' => ∃ v1 v2 : Option V, σ = [some (.ref a), v1, v2] ∧ H' = H) ⟨none, none, rfl, rfl⟩ ?_ ?_⟩
  · rintro i σ H' hi ⟨v1, v2, rfl, rfl⟩
    obtain ⟨p, r, hp, hpr, hent⟩ := row i hi
    refine ⟨_, rfl, _, _, rfl, rfl, _, rfl, _, _, rfl, .inr ha, 0 + (i : Int) + 1, (m.length : Int), by rw [hl], ⟨by omega, by omega, by omega, by omega⟩, ?_⟩
    refine for_range (lo := 0 + (i : Int) + 1) (n := ((m.length : Int) - (0 + (i : Int) + 1)).toNat) (fun j σ H1 => ∃ v2 : Option V, σ = [some (.ref a), some (.int (0 + (i : Int))), v2] ∧ H1 = H') ⟨v2, rfl, rfl⟩ ?_ ?_
    · rintro j σ H1 hj ⟨v2, rfl, rfl⟩
      have hk : i + 1 + j < m.length := by omega
      obtain ⟨p2, r2, hp2, hpr2, hent2⟩ := row (i + 1 + j) hk
      have ei : (0 + (i : Int)).toNat = i := by omega
      have ej : (0 + (i : Int) + 1 + (j : Int)).toNat = i + 1 + j := by omega
      refine ⟨_, rfl, _, rfl, a, _, _, _, rfl, rfl, ha, at_pos (by omega) (by rw [ei]; exact hp), _, rfl, p, _, _, _, rfl, rfl, hpr, at_pos (by omega) (by rw [ej]; exact at_int (hent _ hk)), ?_⟩
      refine ⟨_, rfl, _, rfl, a, _, _, _, rfl, rfl, ha, at_pos (by omega) (by rw [ej]; exact hp2), _, rfl, p2, _, _, _, rfl, rfl, hpr2, at_pos (by omega) (by rw [ei]; exact at_int (hent2 _ hi)), ?_⟩
      refine ⟨rfl, _, rfl, ifF ?_ ⟨_, rfl, rfl⟩⟩
      rw [hsy i (i + 1 + j)]
      simp
    · rintro σ H1 ⟨v2, rfl, rfl⟩
      exact ⟨_, _, rfl, rfl⟩
  · rintro σ H' ⟨_, _, rfl, rfl⟩
    exact q
def spPairs (K : PySem.W.Frag) : Sp := fun vs H Q _ => ∃ (n : Nat) (v : V) (ps : List RW), vs = [.int n, v] ∧ Fz K H v (.tup (ps.map tdr)) ∧ (∀ p ∈ ps, p.1.length = n ∧ 1 ≤ p.2) ∧ ∀ H', Same H H' → Q .non H'
abbrev s_check_pairs : Stmt := top 29
abbrev N_check_pairs : List Str := ["size", "pairs", "index", "row", "weight"]
theorem sc_check_pairs : FnScope N_check_pairs ["size", "pairs"] (defScope s_check_pairs) := ⟨rfl, rfl, rfl, by decide +kernel, rfl, by decide +kernel, by decide +kernel⟩
theorem ok_check_pairs (F : Fun K "check_pairs" "check_pairs" s_check_pairs f fd) (T : Txt mg) : FnOk P w K mg base CX0 1 f fd ["size", "pairs"] (spPairs K) := by
  refine F.ok sc_check_pairs (fun vs H Q E h => ?_) (fun cdv A outer s H vs Q E hr h => ?_)
  · obtain ⟨n, v, ps, rfl, _⟩ := h
    rfl
  obtain ⟨n, v, ps, rfl, hz, hs, q⟩ := h
  obtain ⟨a, vs, rfl, ha, hl, hrow⟩ := fz_prs hz
  refine ⟨_, (pss_one (ps_for PassesOwn.never rfl (WE.pi_enT (by rfl) T.b_enumerate (pa_cons (pv 1) pa_nil)) (pg_tup rfl (pgs_cons (pg_name (i := 2) sc_check_pairs.nd rfl (Or.inl rfl)) (pgs_cons (pg_tup rfl (pgs_cons (pg_name (i := 3) sc_check_pairs.nd rfl (Or.inl rfl)) (pgs_cons (pg_name (i := 4) sc_check_pairs.nd rfl (Or.inl rfl)) pgs_nil))) pgs_nil))) (pss_cons (ps_if (pt_cmpR op_ne (pe_callB call_len_seq (by rfl) T.b_len PySem.boot_len (pa_cons (pv 3) pa_nil)) (pv 0) (nomark _)) (pss_one ps_never) pss_nil)
  (pss_one (ps_if (pt_cmpR op_lt (pv 4) pe_int (nomark _)) (pss_one ps_never) pss_nil))))), ?_⟩
  refine ⟨_, rfl, a, vs, rfl, ha, for_it (WE.walk_enT (K := K) (a := a) (xs := vs)) (fun i σ H' => ∃ v1 v2 v3 : Option V, σ = [some (.int n), some (.ref a), v1, v2, v3] ∧ Same H H') ⟨none, none, none, rfl, fun _ _ h => h⟩ (fun i σ H' _ ⟨_, _, _, _, s⟩ => Same_seqT s ha) ?_ ?_⟩
  · rintro i x σ H1 H2 hi ⟨v1, v2, v3, rfl, s1⟩ y
    have s2 := ys_pair y
    obtain ⟨Tp, x1, x2, rfl, hT, rfl, e1, e2⟩ := y
    cases e1
    obtain ⟨p, hp⟩ : ∃ p, ps[i]? = some p := ⟨_, List.getElem?_eq_getElem (by omega)⟩
    obtain ⟨q1, r1, hq1, hq2, hq3⟩ := hrow i p hp
    rw [show vs[i]? = some x2 from e2] at hq1
    cases hq1
    have s3 := s1.trans s2
    obtain ⟨h1, h2⟩ := hs p (List.mem_of_getElem? hp)
    refine ⟨_, _, rfl, SqT.of upd_same, rfl, _, _, rfl, _, _, rfl, ⟨_, _, rfl, Same_seqT s3 hq2, rfl, _, _, rfl, _, _, rfl, rfl, rfl, ?_⟩⟩
    refine ⟨_, rfl, _, _, rfl, .inr (Same_seqT s3 hq3), _, rfl, rfl, _, rfl, ifF ?_ ?_⟩
    · rw [List.length_map, h1]
      simp
    · exact ⟨_, rfl, _, _, rfl, rfl, _, rfl, ifF (decide_eq_false (by omega)) ⟨_, _, _, rfl, s3⟩⟩
  · rintro σ H' ⟨_, _, _, rfl, s1⟩
    exact q H' s1
end
end P03
namespace P03
open PySem PySem.Spec PyProof.Rows L2 SX EX WK
theorem getD_at {ns : List Int} {j : Nat} (h : j < ns.length) : (ns.map V.int)[j]? = some (.int (ns.getD j 0)) := by
  rw [List.getElem?_map, List.getD_eq_getElem?_getD, List.getElem?_eq_getElem h]
  rfl
/-- rows of n small numbers, weights from 1 on -/
def Prs (n : Nat) (ps : List RW) : Prop := ps.length ≤ 1000 ∧ ∀ p ∈ ps, p.1.length = n ∧ 1 ≤ p.2 ∧ B 1400 p.2 ∧ ∀ x ∈ p.1, B 1400 x
theorem Prs.get {n : Nat} {ps : List RW} (h : Prs n ps) {p : RW} (m : p ∈ ps) {j : Nat} (hj : j < n) : B 1400 (p.1.getD j 0) := by
  obtain ⟨h1, _, _, h4⟩ := h.2 p m
  have hl : j < p.1.length := by omega
  rw [List.getD_eq_getElem?_getD, List.getElem?_eq_getElem hl]
  exact h4 _ (List.getElem_mem hl)
section
variable {P : Program} {w : World} {K : PySem.W.Frag} {mg : Str → Option Value} {base : Heap} {f : Addr} {fd : FuncData}
def spWsum (K : PySem.W.Frag) : Sp := fun vs H Q _ => ∃ (v : V) (n i j : Nat) (ps : List RW), vs = [v, .int i, .int j] ∧ Fz K H v (.tup (ps.map tdr)) ∧ Prs n ps ∧ i < n ∧ j < n ∧ ∀ H', Same H H' → Q (.int (wsum ps i j)) H'
abbrev s_weighted_sum : Stmt := top 30
abbrev N_weighted_sum : List Str := ["pairs", "one", "two", "row", "weight"]
theorem sc_weighted_sum : FnScope N_weighted_sum ["pairs", "one", "two"] (defScope s_weighted_sum) := ⟨rfl, rfl, rfl, by decide +kernel, rfl, by decide +kernel, by decide +kernel⟩
theorem ok_weighted_sum (F : Fun K "weighted_sum" "weighted_sum" s_weighted_sum f fd) (T : Txt mg) : FnOk P w K mg base CX0 1 f fd ["pairs", "one", "two"] (spWsum K) := by
  refine F.ok sc_weighted_sum (fun vs H Q E h => ?_) (fun cdv A outer s H vs Q E hr h => ?_)
  · obtain ⟨v, n, i, j, ps, rfl, _⟩ := h
    rfl
  obtain ⟨v, n, i, j, ps, rfl, hz, hp, hi, hj, q⟩ := h
  obtain ⟨a, vs, rfl, ha, hl, hrow⟩ := fz_prs hz
  refine ⟨_, (pss_one (ps_ret (pe_callB (cr_sum rfl) (by rfl) T.b_sum (by decide +kernel) (pa_cons (pe_lc (own := [("row", 3), ("weight", 4)]) (tt := tYes) (by rfl) sc_weighted_sum.nd (pi_tup (pv 0)) (blkOk_by (N := N_weighted_sum) (sc := defScope s_weighted_sum) (by decide +kernel)) (fun _ _ _ _ _ => (pg_tupK (K := K) (n := 2) rfl rfl (pgs_cons (pg_name (i := 3) sc_weighted_sum.nd rfl (Or.inl rfl)) (pgs_cons (pg_name (i := 4) sc_weighted_sum.nd rfl (Or.inl rfl)) pgs_nil)))) (fun _ _ _ _ _ => pts_nil) (fun _ _ _ _ _ => (pe_op op_mulW (pe_op op_mulW (pv 4) (pe_ix (ix_tupK (K := K) rfl) (pv 3) (pv 1) (fun _ _ => rfl))) (pe_ix (ix_tupK (K := K) rfl) (pv 3) (pv 2) (fun _ _ => rfl))))) pa_nil)))), ?_⟩
  refine ⟨_, rfl, a, rfl, ⟨_, ha⟩, fun D hD => ?_⟩
  refine lc_m (walk_tup (K := K) (a := a) (xs := vs)) RI (stb_RI (K := K)) ps hl (by have := hp.1; omega) hD (fun H' s => Same_seqT s ha) (fun _ _ _ _ => ys_at) (fun p => p.2 * p.1.getD i 0 * p.1.getD j 0) (fun k p x H1 H2 hb s1 s2 y A B hA => ?_) (fun H' l s1 hl1 rs => ?_)
  · obtain ⟨q1, r1, hq1, hq2, hq3⟩ := hrow k p hb
    rw [y.2] at hq1
    cases hq1
    have m := List.mem_of_getElem? hb
    obtain ⟨h1, h2, h3, h4⟩ := hp.2 p m
    refine ⟨_, _, rfl, Same_seqT s2 hq2, rfl, _, _, rfl, _, _, rfl, rfl, rfl, lc_yes ?_⟩
    refine ⟨_, rfl, _, rfl, _, rfl, r1, _, _, _, rfl, rfl, Same_seqT s2 hq3, at_pos (by omega) (by rw [Int.toNat_natCast]; exact getD_at (by omega)), _, _, rfl, rfl, wmul h3 (hp.get m hi) (by decide) (by decide) (by decide), ?_⟩
    refine ⟨_, rfl, _, rfl, r1, _, _, _, rfl, rfl, Same_seqT s2 hq3, at_pos (by omega) (by rw [Int.toNat_natCast]; exact getD_at (by omega)), _, _, rfl, rfl, wmul (h3.mul (hp.get m hi)) (hp.get m hj) (by decide) (by decide) (by decide), hA _ _ (fun _ _ h => h) rfl⟩
  · exact ⟨D, _, rfl, SqL.of (by rw [hl1, rs.ints]), q H' s1⟩
def spWmat (K : PySem.W.Frag) : Sp := fun vs H Q _ => ∃ (v : V) (n : Nat) (ps : List RW), vs = [.int n, v] ∧ Fz K H v (.tup (ps.map tdr)) ∧ Prs n ps ∧ n ≤ 1000 ∧ ∀ r H', Same H H' → Sn K H' (.ref r) (tdm (wmat n ps)) → Q (.ref r) H'
theorem rl_sn {K : PySem.W.Frag} {H : Hp} {D : Addr} : ∀ {l : List V} {m : List (List Int)}, Rs (RL D) H l m → SnAll K H l (m.map fun r => .tup (r.map Td.int))
  | [], [], _ => .nil
  | [], _ :: _, h => by have := h.1; simp at this
  | _ :: _, [], h => by have := h.1; simp at this
  | v :: vs, r :: m, h => by
    obtain ⟨p, e, _, hp⟩ := h.2 0 v r rfl rfl
    refine .cons ?_ (rl_sn ⟨by have := h.1; simp at this; exact this, fun i u z hu hz => h.2 (i + 1) u z hu hz⟩)
    rw [e]
    exact .lst hp (FzAll.of_ints r).sn
abbrev s_weighted_matrix : Stmt := top 31
abbrev N_weighted_matrix : List Str := ["size", "pairs", "line", "column"]
theorem sc_weighted_matrix : FnScope N_weighted_matrix ["size", "pairs"] (defScope s_weighted_matrix) := ⟨rfl, rfl, rfl, by decide +kernel, rfl, by decide +kernel, by decide +kernel⟩
theorem ok_weighted_matrix (F : Fun K "weighted_matrix" "weighted_matrix" s_weighted_matrix f fd) (T : Txt mg) (C_weighted_sum : Cal P w K mg base 1 "weighted_sum" ["pairs", "one", "two"] (spWsum K)) : FnOk P w K mg base CX0 2 f fd ["size", "pairs"] (spWmat K) := by
  refine F.ok sc_weighted_matrix (fun vs H Q E h => ?_) (fun cdv A outer s H vs Q E hr h => ?_)
  · obtain ⟨v, n, ps, rfl, _⟩ := h
    rfl
  obtain ⟨v, n, ps, rfl, hz, hp, hn, q⟩ := h
  refine ⟨_, (pss_one (ps_ret (pe_lc (own := [("line", 2)]) (g := gName 2) (tt := tYes) (by rfl) sc_weighted_matrix.nd (pi_range1 (by rfl) T.b_range (pa_cons (pv 0) pa_nil)) (blkOk_by (N := N_weighted_matrix) (sc := defScope s_weighted_matrix) (by decide +kernel)) (fun _ _ _ _ _ => (pg_name (i := 2) sc_weighted_matrix.nd rfl (Or.inr rfl))) (fun _ _ _ _ _ => pts_nil) (fun _ _ _ _ _ => (pe_lc (own := [("column", 3)]) (g := gName 3) (tt := tYes) (by rfl) sc_weighted_matrix.nd (pi_range1 (by rfl) T.b_range (pa_cons (pv 0) pa_nil)) (blk_nest (N := N_weighted_matrix) (sc0 := defScope s_weighted_matrix) rfl (by decide +kernel)) (fun _ _ _ _ _ => (pg_name (i := 3) sc_weighted_matrix.nd rfl (Or.inl rfl))) (fun _ _ _ _ _ => pts_nil) (fun _ _ _ _ _ => (pe_cal C_weighted_sum (hr.mono (by omega)) rfl (pa_cons (pv 1) (pa_cons (pv 2) (pa_cons (pv 3) pa_nil)))))))))), ?_⟩
  refine ⟨_, rfl, n, rfl, by omega, by omega, fun D hD => ?_⟩
  refine lc_gm (walk_range (lo := 0) (n := n)) (RL D) stb_RL (List.range n) (by rw [List.length_range]) (by rw [List.length_range]; omega) hD (fun _ _ => trivial) (fun _ _ _ _ => ys_fn) (fun i => (List.range n).map fun j => wsum ps i j) (fun k i x H1 H2 hb s1 s2 y hdl A B hA => ?_) (fun H' l s1 hl1 rs => ?_)
  · have ek : k < n ∧ i = k := by
      have h1 := (List.getElem?_eq_some_iff.mp hb).1
      rw [List.length_range] at h1
      rw [List.getElem?_range h1] at hb
      exact ⟨h1, (Option.some.inj hb).symm⟩
    obtain ⟨hk, rfl⟩ := ek
    rw [y.2]
    refine ⟨rfl, lc_yes ⟨_, rfl, n, rfl, by omega, by omega, fun D2 hD2 => ?_⟩⟩
    refine lc_m (walk_range (lo := 0) (n := n)) RI (stb_RI (K := K)) (List.range n) (by rw [List.length_range]) (by rw [List.length_range]; omega) hD2 (fun _ _ => trivial) (fun _ _ _ _ => ys_fn) (fun j => wsum ps i j) (fun k2 j x2 H3 H4 hb2 s3 s4 y2 A2 B2 hA2 => ?_) (fun H' l s3 hl1 rs => ?_)
    · have ek : k2 < n ∧ j = k2 := by
        have h1 := (List.getElem?_eq_some_iff.mp hb2).1
        rw [List.length_range] at h1
        rw [List.getElem?_range h1] at hb2
        exact ⟨h1, (Option.some.inj hb2).symm⟩
      obtain ⟨hk2, rfl⟩ := ek
      rw [y2.2]
      refine ⟨rfl, lc_yes ⟨_, rfl, _, rfl, _, rfl, v, n, i, j, ps, ?_, hz.tk (WK.Same.tk (s2.trans s4)), hp, hk, hk2, fun H' s => hA2 _ _ s rfl⟩⟩
      show [v, V.int (0 + (i : Int)), V.int (0 + (j : Int))] = _
      rw [Int.zero_add, Int.zero_add]
    · refine hA _ _ s3 ⟨D2, rfl, fun z => ?_, by rw [hl1, rs.ints]⟩
      obtain ⟨l0, h0⟩ := hdl
      rw [← z, hD2] at h0
      cases h0
  · refine q D H' s1 (.lst hl1 ?_)
    have e : (wmat n ps) = (List.range n).map fun i => (List.range n).map fun j => wsum ps i j := rfl
    rw [e]
    exact rl_sn rs
end
end P03
namespace P03
open PySem PySem.Spec PyProof.Rows L2 SX EX WK
theorem putF_ne {f g : Str} {x v : V} {r : List (Str × V)} (h : ¬ g = f) : putF f v ((g, x) :: r) = (g, x) :: putF f v r := if_neg h
theorem flF (n e b : V) : putF "bottom" b (putF "entries" e (putF "size" n [])) = ([("size", n), ("entries", e), ("bottom", b)] : List (Str × V)) := by
  show putF "bottom" b (putF "entries" e [("size", n)]) = _
  rw [putF_ne (by decide +kernel)]
  show putF "bottom" b [("size", n), ("entries", e)] = _
  rw [putF_ne (by decide +kernel), putF_ne (by decide +kernel)]
  rfl
theorem dep_tdm {m : List (List Int)} : (tdm m).dep ≤ 2 := by
  simp only [tdm, Td.dep]
  have : Td.deps (m.map fun r => .tup (r.map Td.int)) ≤ 1 := deps_all fun t h => by
    obtain ⟨r, _, rfl⟩ := List.mem_map.mp h
    simp only [Td.dep]
    have : Td.deps (r.map Td.int) ≤ 0 := deps_all fun t h => by
      obtain ⟨n, _, rfl⟩ := List.mem_map.mp h
      exact Nat.le_refl _
    omega
  omega
theorem sm_ints {ns : List Int} (h : ns.length ≤ 16000000) : (Td.tup (ns.map Td.int)).sm := by
  simp only [Td.sm]
  refine ⟨by rw [List.length_map]; exact h, sms_all fun t h => ?_⟩
  obtain ⟨n, _, rfl⟩ := List.mem_map.mp h
  simp only [Td.sm]
theorem sm_tdm {m : List (List Int)} (h : m.length ≤ 16000000) (hr : ∀ r ∈ m, r.length ≤ 16000000) : (tdm m).sm := by
  simp only [tdm, Td.sm]
  refine ⟨by rw [List.length_map]; exact h, sms_all fun t h => ?_⟩
  obtain ⟨r, hm, rfl⟩ := List.mem_map.mp h
  exact sm_ints (hr r hm)
theorem flat_len {n : Nat} : ∀ {m : List (List Int)}, (∀ r ∈ m, r.length = n) → m.flatten.length = m.length * n
  | [], _ => by simp
  | r :: m, h => by
    rw [List.flatten_cons, List.length_append, flat_len fun x hx => h x (List.mem_cons_of_mem _ hx), h r List.mem_cons_self, List.length_cons, Nat.succ_mul]
    omega
theorem flat_row {n : Nat} : ∀ {m : List (List Int)} {i : Nat} {r : List Int}, (∀ r ∈ m, r.length = n) → m[i]? = some r → (m.flatten.drop (i * n)).take n = r
  | [], i, r, _, h => by simp at h
  | x :: m, 0, r, hl, h => by
    cases h
    rw [Nat.zero_mul, List.drop_zero, List.flatten_cons, List.take_left' (hl x List.mem_cons_self)]
  | x :: m, i + 1, r, hl, h => by
    have hx := hl x List.mem_cons_self
    rw [List.flatten_cons, Nat.succ_mul, Nat.add_comm, List.drop_append, List.drop_of_length_le (by omega), List.nil_append]
    have e : n + i * n - x.length = i * n := by omega
    rw [e]
    exact flat_row (fun y hy => hl y (List.mem_cons_of_mem _ hy)) (by simpa using h)
theorem flat_take {m : List (List Int)} {i : Nat} {r : List Int} (h : m[i]? = some r) : (m.take (i + 1)).flatten = (m.take i).flatten ++ r := by
  rw [take_one h, List.flatten_append]
  simp
/-- a form -/
def FormAt (K : PySem.W.Frag) (H : Hp) (C p : Addr) (n : Nat) (m : List (List Int)) (b : Int) : Prop := ∃ dx e, H p = some (.ins C dx [("size", .int n), ("entries", .ref e), ("bottom", .int b)]) ∧ Fz K H (.ref e) (tdm m)
/-- all but the thing at a stays -/
def But (a : Addr) (H H' : Hp) : Prop := ∀ c o, H c = some o → c ≠ a → H' c = some o
theorem But.of {a : Addr} {H H' : Hp} (s : Same H H') : But a H H' := fun c o e _ => s c o e
theorem But.put {a : Addr} {H H' : Hp} (s : But a H H') (o : HO) : But a H (upd H' a o) := fun c u e h => by rw [upd_ne h]; exact s c u e h
theorem But.then {a : Addr} {H H' H2 : Hp} (s : But a H H') (t : Same H' H2) : But a H H2 := fun c u e h => t c u (s c u e h)
def dm (m : List (List Int)) (g : Int) : List (List Int) := m.map fun r => r.map fun x => x / g
theorem sIx_of {n d : Nat} {z : Int} {k : Nat} (e : z = (k : Int)) (h : k ≤ n) : HT.sIx n d (some z) = k := by
  rw [e, HT.sIx_nat]
  omega
def spForm (K : PySem.W.Frag) (C : Addr) : Sp := fun vs H Q _ => ∃ (a dx : Addr) (v : V) (m : List (List Int)) (b : Int), vs = [.ref a, v, .int b] ∧ H a = some (.ins C dx []) ∧ Sn K H v (tdm m) ∧ Sqr m ∧ Sym m ∧ m.length ≤ 300 ∧ 0 < b ∧ B 9000 b ∧
  ∀ H', FormAt K H' C a m.length (dm m (gf b m.flatten)) (b / gf b m.flatten) → But a H H' → Q .non H'
section
variable {P : Program} {w : World} {K : PySem.W.Frag} {mg : Str → Option Value} {base : Heap} {f : Addr} {fd : FuncData} {cF cR : Addr}
abbrev s_iForm : Stmt := mth 27 0
abbrev N_iForm : List Str := ["self", "entries", "bottom", "lines", "size", "numbers", "least_bottom", "line", "number", "row"]
theorem sc_iForm : FnScope N_iForm ["self", "entries", "bottom"] (defScope s_iForm) := ⟨rfl, rfl, rfl, by decide +kernel, rfl, by decide +kernel, by decide +kernel⟩
theorem ok_iForm {kws : List (Str × V)} (F : FunD K "__init__" "Form.__init__" (defArgs s_iForm) (defBody s_iForm) (defScope s_iForm) [] kws f fd) (T : Txt mg) (O : Obs K cF cR) (C_frozen : Cal P w K mg base 3 "frozen" ["value"] (spFz K 3)) (C_check_square : Cal P w K mg base 1 "check_square" ["lines"] (spSquare K))
    (C_check_symmetric : Cal P w K mg base 1 "check_symmetric" ["lines"] (spSymm K)) (C_lowered : Cal P w K mg base 1 "lowered" ["numbers", "bottom"] spLow) : FnOk P w K mg base CX0 4 f fd ["self", "entries", "bottom"] (spForm K cF) := by
  refine F.ok sc_iForm (fun vs H Q E h => ?_) (fun cdv A outer s H vs Q E hr h => ?_)
  · obtain ⟨a, dx, v, m, b, rfl, _⟩ := h
    rfl
  obtain ⟨a, dx, v, m, b, rfl, hself, hv, hsq, hsy, hn, hb, hB, q⟩ := h
  refine ⟨_, (pss_cons (ps_set (i := 3) sc_iForm.nd rfl (Or.inl rfl) (pe_cal C_frozen (hr.mono (by omega)) rfl (pa_cons (pv 1) pa_nil)))
  (pss_cons (ps_expr (pe_cal C_check_square (hr.mono (by omega)) rfl (pa_cons (pv 3) pa_nil)))
  (pss_cons (ps_expr (pe_cal C_check_symmetric (hr.mono (by omega)) rfl (pa_cons (pv 3) pa_nil)))
  (pss_cons (ps_set (i := 4) sc_iForm.nd rfl (Or.inr rfl) (pe_callB call_len_seq (by rfl) T.b_len PySem.boot_len (pa_cons (pv 3) pa_nil)))
  (pss_cons (ps_asg (pe_cal C_lowered (hr.mono (by omega)) rfl (pa_cons (pe_lc2 (own := [("line", 7), ("number", 8)]) (vs1 := [8]) (g := gName 7) (tt := tYes) (g1 := gName 8) (tt1 := tYes) (by rfl) sc_iForm.nd (pi_tup (pv 3)) (blkOk_by (N := N_iForm) (sc := defScope s_iForm) (by decide +kernel)) (by decide) (fun _ _ _ _ _ => (pg_name (i := 7) sc_iForm.nd rfl (Or.inl rfl))) (fun _ _ _ _ _ => pts_nil) (fun _ _ _ _ _ => (pi_tupK (K := K) rfl (pv 7))) (fun _ _ _ _ _ => (pg_name (i := 8) sc_iForm.nd rfl (Or.inl rfl))) (fun _ _ _ _ _ => pts_nil) (fun _ _ _ _ _ => (pv 8))) (pa_cons (pv 2) pa_nil))) (pg_tup rfl (pgs_cons (pg_name (i := 5) sc_iForm.nd rfl (Or.inr rfl)) (pgs_cons (pg_name (i := 6) sc_iForm.nd rfl (Or.inl rfl)) pgs_nil))))
  (pss_cons (ps_fld (pv 0) (pv 4) rfl)
  (pss_cons (ps_fld (pv 0) (pe_callTy call_tuple_of (by rfl) T.b_tuple (by decide +kernel) (pa_cons (pe_lc (own := [("row", 9)]) (g := gName 9) (tt := tYes) (by rfl) sc_iForm.nd (pi_range1 (by rfl) T.b_range (pa_cons (pv 4) pa_nil)) (blkOk_by (N := N_iForm) (sc := defScope s_iForm) (by decide +kernel)) (fun _ _ _ _ _ => (pg_name (i := 9) sc_iForm.nd rfl (Or.inl rfl))) (fun _ _ _ _ _ => pts_nil) (fun _ _ _ _ _ => (pe_slice (sl_tupAK (K := K) rfl) (pv 5) (po_some (pe_op op_mulW (pv 9) (pv 4))) (po_some (pe_op op_add (pe_op op_mulW (pv 9) (pv 4)) (pv 4)))))) pa_nil)) rfl)
  (pss_one (ps_fld (pv 0) (pv 6) rfl))))))))), ?_⟩
  have hrl : ∀ r ∈ m, r.length ≤ 16000000 := fun r hr => by rw [hsq r hr]; omega
  refine ⟨_, rfl, _, tdm m, rfl, hv, Nat.le_trans dep_tdm (by omega), sm_tdm (by omega) hrl, fun v1 H1 s1 hz1 => ?_⟩
  refine ⟨_, rfl, _, m, rfl, hz1, hsq, fun H2 s2 => ?_⟩
  have hz2 := hz1.tk (WK.Same.tk s2)
  refine ⟨_, rfl, _, m, rfl, hz2, hsq, hsy, by omega, ?_⟩
  obtain ⟨e, vs, rfl, he, hl, hrow⟩ := fz_mat hz2
  refine ⟨_, rfl, _, _, rfl, .inr he, ?_⟩
  have hfl := flat_len hsq
  have hfn : m.flatten.length ≤ 16000000 := by
    rw [hfl]
    exact Nat.le_trans (Nat.mul_le_mul hn hn) (by decide)
  refine ⟨_, rfl, e, rfl, ⟨_, he⟩, fun D hD => ?_⟩
  refine ⟨fun i k H3 => k = m.length - i ∧ i ≤ m.length ∧ Same H2 H3 ∧ H3 D = some (.lst (((m.take i).flatten).map V.int)), ⟨_, rfl, Nat.zero_le _, same_new hD _, by rw [upd_same, List.take_zero]; rfl⟩, ?_⟩
  rintro i k H3 ⟨rfl, hi, s3, h3⟩
  by_cases hlt : i < m.length
  · obtain ⟨r, hr1⟩ : ∃ r, m[i]? = some r := ⟨_, List.getElem?_eq_getElem hlt⟩
    obtain ⟨p, hp, hpr⟩ := hrow i r hr1
    have hrn := hsq r (List.mem_of_getElem? hr1)
    refine .inr ⟨⟨vs, _, Same_seqT s3 he, hp⟩, fun H4 => Same H2 H4 ∧ H4 D = some (.lst (((m.take (i + 1)).flatten).map V.int)), fun H4 h4 => ⟨_, by omega, rfl, hlt, h4.1, h4.2⟩, ?_⟩
    rintro x H4 ⟨rfl, hx⟩
    have hx2 := hx vs (Same_seqT s3 he)
    rw [hp] at hx2
    cases hx2
    refine ⟨rfl, lc_yes ⟨_, rfl, p, rfl, ⟨_, Same_seqT s3 hpr⟩, ?_⟩⟩
    refine ⟨fun j k H5 => k = r.length - j ∧ j ≤ r.length ∧ Same H2 H5 ∧ H5 D = some (.lst (((m.take i).flatten ++ r.take j).map V.int)), ⟨_, rfl, Nat.zero_le _, s3, by rw [List.take_zero, List.append_nil]; exact h3⟩, ?_⟩
    rintro j k H5 ⟨rfl, hj, s5, h5⟩
    by_cases hjlt : j < r.length
    · have hy : r[j]? = some r[j] := List.getElem?_eq_getElem hjlt
      refine .inr ⟨⟨r.map V.int, .int r[j], Same_seqT s5 hpr, at_int hy⟩, fun H6 => Same H2 H6 ∧ H6 D = some (.lst (((m.take i).flatten ++ r.take (j + 1)).map V.int)), fun H6 h6 => ⟨_, by omega, rfl, hjlt, h6.1, h6.2⟩, ?_⟩
      rintro x H6 ⟨rfl, hx⟩
      have hx2 := hx _ (Same_seqT s5 hpr)
      rw [at_int hy] at hx2
      cases hx2
      refine ⟨rfl, lc_yes ⟨_, rfl, _, h5, ?_, same_at s5 hD, ?_⟩⟩
      · refine sizes (Nat.le_trans ?_ hfn)
        rw [List.length_map, List.length_append, List.length_take, flat_len (n := m.length) (fun x hx => hsq x (List.mem_of_mem_take hx)), List.length_take, hfl]
        have h1 : (min i m.length + 1) * m.length ≤ m.length * m.length := Nat.mul_le_mul_right _ (by omega)
        rw [Nat.add_mul, Nat.one_mul] at h1
        omega
      · rw [upd_same, take_one hy, ← List.append_assoc, List.map_append (l₂ := [r[j]])]
        rfl
    · have ej : j = r.length := by omega
      refine .inl ⟨⟨_, Same_seqT s5 hpr, by rw [List.length_map, ej]; exact Nat.le_refl _⟩, s5, ?_⟩
      rw [h5, ej, List.take_length, flat_take hr1]
  · have ei : i = m.length := by omega
    refine .inl ⟨⟨vs, Same_seqT s3 he, by omega⟩, ?_⟩
    rw [ei, List.take_length] at h3
    clear hlt hi
    refine ⟨_, rfl, D, m.flatten, b, rfl, h3, hb, hB, hfn, fun r t H5 s5 hr5 ht5 => ?_⟩
    have hg := gf_pos hb m.flatten
    refine ⟨_, _, rfl, SqT.of hr5, rfl, _, _, rfl, _, _, rfl, rfl, ?_⟩
    have sA : Same H H5 := s1.trans (s2.trans (s3.trans s5))
    refine ⟨_, rfl, _, rfl, a, cF, dx, _, rfl, sA _ _ hself, O.clF, O.F_size, (by show 0 < 1000; decide), ?_⟩
    generalize hH6 : upd H5 a _ = H6
    have hs6 : H6 a = some (.ins cF dx (putF "size" (.int (vs.length : Nat)) [])) := by rw [← hH6, upd_same]
    have b6 : But a H H6 := by rw [← hH6]; exact (But.of sA).put _
    have ht6 : SqT K H6 t ((m.flatten.map fun n => n / gf b m.flatten).map V.int) := by
      refine .inl (.inl ?_)
      rw [← hH6, upd_ne (ne_of ht5 (sA _ _ hself) (by intro z; cases z))]
      exact ht5
    refine ⟨_, rfl, _, rfl, by omega, by omega, fun D2 hD2 => ?_⟩
    refine lc_m (walk_range (lo := 0) (n := (vs.length : Int).toNat)) (Fz K) stb_Fz (List.range m.length) (by rw [List.length_range]; omega) (by rw [List.length_range]; omega) hD2 (fun _ _ => trivial) (fun _ _ _ _ => ys_fn) (fun i => .tup (((dm m (gf b m.flatten)).getD i []).map Td.int)) (fun k i x H7 H8 hb2 s7 s8 y A2 B2 hA => ?_) (fun H7 l s7 hl7 rs => ?_)
    · have ek : k < m.length ∧ i = k := by
        have h1 := (List.getElem?_eq_some_iff.mp hb2).1
        rw [List.length_range] at h1
        rw [List.getElem?_range h1] at hb2
        exact ⟨h1, (Option.some.inj hb2).symm⟩
      obtain ⟨hk, rfl⟩ := ek
      rw [y.2]
      have cm : CMulW (0 + (i : Int)) ((vs.length : Nat) : Int) := wmul (m := 20) (n := 20) (by show (0 + (i : Int)).natAbs < 2 ^ 20; omega) (by show ((vs.length : Nat) : Int).natAbs < 2 ^ 20; omega) (by decide) (by decide) (by decide)
      refine ⟨rfl, lc_yes ⟨_, rfl, _, rfl, _, rfl, _, _, rfl, rfl, cm, _, rfl, _, rfl, _, rfl, _, _, rfl, rfl, cm, _, rfl, _, _, rfl, rfl, _, rfl, ?_⟩⟩
      have hdr : (dm m (gf b m.flatten))[i]? = some (((m[i]).map fun x => x / gf b m.flatten)) := by
        unfold dm
        rw [List.getElem?_map, List.getElem?_eq_getElem hk]
        rfl
      have hdl : ∀ r ∈ dm m (gf b m.flatten), r.length = m.length := fun r hr => by
        obtain ⟨r0, h0, rfl⟩ := List.mem_map.mp hr
        rw [List.length_map]
        exact hsq r0 h0
      have hfr := flat_row hdl hdr
      have hff : (dm m (gf b m.flatten)).flatten = m.flatten.map fun n => n / gf b m.flatten := by
        unfold dm
        rw [List.map_flatten]
      rw [hff] at hfr
      have hgd : (dm m (gf b m.flatten)).getD i [] = (m[i]).map fun x => x / gf b m.flatten := by
        rw [List.getD_eq_getElem?_getD, hdr]
        rfl
      have hN : ((m.flatten.map fun n => n / gf b m.flatten).map V.int).length = m.length * m.length := by rw [List.length_map, List.length_map, hfl]
      have hmul : i * m.length + m.length ≤ m.length * m.length := by
        have h1 : (i + 1) * m.length ≤ m.length * m.length := Nat.mul_le_mul_right _ hk
        rw [Nat.add_mul, Nat.one_mul] at h1
        exact h1
      have e1 : HT.sIx ((m.flatten.map fun n => n / gf b m.flatten).map V.int).length 0 (some ((0 + (i : Int)) * ((vs.length : Nat) : Int))) = i * m.length := sIx_of (by rw [hl, Int.zero_add]; exact (Int.natCast_mul _ _).symm) (by rw [hN]; omega)
      have e2 : HT.sIx ((m.flatten.map fun n => n / gf b m.flatten).map V.int).length ((m.flatten.map fun n => n / gf b m.flatten).map V.int).length (some ((0 + (i : Int)) * ((vs.length : Nat) : Int) + ((vs.length : Nat) : Int))) = i * m.length + m.length := sIx_of (by rw [hl, Int.zero_add, ← Int.natCast_mul, ← Int.natCast_add]) (by rw [hN]; exact hmul)
      have hcut : cutV ((m.flatten.map fun n => n / gf b m.flatten).map V.int) (some ((0 + (i : Int)) * ((vs.length : Nat) : Int))) (some ((0 + (i : Int)) * ((vs.length : Nat) : Int) + ((vs.length : Nat) : Int))) = ((m[i]).map fun x => x / gf b m.flatten).map V.int := by
        unfold cutV
        rw [e1, e2, Nat.add_sub_cancel_left, ← List.map_drop, ← List.map_take, hfr]
      have hfz : ∀ {H9 : Hp} {p : Addr}, SqT K H9 p (((m[i]).map fun x => x / gf b m.flatten).map V.int) → Fz K H9 (.ref p) (.tup (((dm m (gf b m.flatten)).getD i []).map Td.int)) := fun h => by
        rw [hgd]
        exact .tup h (FzAll.of_ints _)
      refine ⟨t, _, rfl, Same_seqT s8 ht6, fun hw => ?_, fun _ p hp => ?_⟩
      · refine hA _ _ (fun _ _ h => h) (hfz ?_)
        rw [e1, e2] at hw
        rw [← hcut]
        unfold cutV
        rw [e1, e2, hw.2, hw.1, List.drop_zero, Nat.sub_zero, List.take_length]
        exact Same_seqT s8 ht6
      · refine hA _ _ (same_new hp _) (hfz (SqT.of ?_))
        rw [upd_same, hcut]
    · refine ⟨D2, l, rfl, .inl ⟨SqL.of hl7, fun t2 ht2 => ?_⟩⟩
      have sB : Same H6 (upd H7 t2 (.tup l)) := s7.trans (same_new ht2 _)
      refine ⟨_, rfl, a, cF, dx, _, rfl, sB _ _ hs6, O.clF, O.F_entries, (by show 1 < 1000; decide), ?_⟩
      refine ⟨_, rfl, _, rfl, a, cF, dx, _, rfl, upd_same, O.clF, O.F_bottom, (by show 2 < 1000; decide), ?_⟩
      have hfz : FzAll K H7 l ((dm m (gf b m.flatten)).map fun r => .tup (r.map Td.int)) := by
        have e : ((List.range m.length).map fun i => Td.tup (((dm m (gf b m.flatten)).getD i []).map Td.int)) = (dm m (gf b m.flatten)).map fun r => .tup (r.map Td.int) := by
          refine List.ext_getElem? fun i => ?_
          rw [List.getElem?_map, List.getElem?_map]
          have hdl : (dm m (gf b m.flatten)).length = m.length := by unfold dm; rw [List.length_map]
          by_cases hi : i < m.length
          · rw [List.getElem?_range hi, List.getElem?_eq_getElem (by omega : i < (dm m (gf b m.flatten)).length)]
            show some (Td.tup (((dm m (gf b m.flatten)).getD i []).map Td.int)) = _
            rw [List.getD_eq_getElem?_getD, List.getElem?_eq_getElem (by omega : i < (dm m (gf b m.flatten)).length)]
            rfl
          · rw [List.getElem?_eq_none (by rw [List.length_range]; omega), List.getElem?_eq_none (by omega)]
            rfl
        rw [← e]
        exact rs.fz
      have tkB : Tk K H7 (upd (upd (upd H7 t2 (.tup l)) a (.ins cF dx (putF "entries" (.ref t2) (putF "size" (.int (vs.length : Nat)) [])))) a (.ins cF dx (putF "bottom" (.int (b / gf b m.flatten)) (putF "entries" (.ref t2) (putF "size" (.int (vs.length : Nat)) []))))) := fun x ys h => by
        have h1 := Same_seqT (same_new ht2 (.tup l)) h
        have h2 : (upd H7 t2 (.tup l)) a = some (.ins cF dx (putF "size" (.int (vs.length : Nat)) [])) := sB _ _ hs6
        have h3 := tk_ins (K := K) h2 (H' := upd (upd H7 t2 (.tup l)) a (.ins cF dx (putF "entries" (.ref t2) (putF "size" (.int (vs.length : Nat)) [])))) (fun c o hc e => by rw [upd_ne hc]; exact e) _ _ h1
        exact tk_ins (K := K) (upd_same (H := upd H7 t2 (.tup l)) (a := a)) (fun c o hc e => by rw [upd_ne hc]; exact e) _ _ h3
      refine q _ ⟨dx, t2, ?_, .tup ?_ (hfz.tk tkB)⟩ (((b6.then sB).put _).put _)
      · rw [upd_same, hl, flF]
      · have h1 : SqT K (upd H7 t2 (.tup l)) t2 l := SqT.of upd_same
        have h2 : (upd H7 t2 (.tup l)) a = some (.ins cF dx (putF "size" (.int (vs.length : Nat)) [])) := sB _ _ hs6
        have h3 := tk_ins (K := K) h2 (H' := upd (upd H7 t2 (.tup l)) a (.ins cF dx (putF "entries" (.ref t2) (putF "size" (.int (vs.length : Nat)) [])))) (fun c o hc e => by rw [upd_ne hc]; exact e) _ _ h1
        exact tk_ins (K := K) (upd_same (H := upd H7 t2 (.tup l)) (a := a)) (fun c o hc e => by rw [upd_ne hc]; exact e) _ _ h3
end
end P03
namespace P03
open PySem PySem.Spec PyProof.Rows L2 SX EX WK
theorem flR (n e b F : V) : putF "form" F (putF "bottom" b (putF "pairs" e (putF "size" n []))) = ([("size", n), ("pairs", e), ("bottom", b), ("form", F)] : List (Str × V)) := by
  show putF "form" F (putF "bottom" b (putF "pairs" e [("size", n)])) = _
  rw [putF_ne (by decide +kernel)]
  show putF "form" F (putF "bottom" b [("size", n), ("pairs", e)]) = _
  rw [putF_ne (by decide +kernel), putF_ne (by decide +kernel)]
  show putF "form" F [("size", n), ("pairs", e), ("bottom", b)] = _
  rw [putF_ne (by decide +kernel), putF_ne (by decide +kernel), putF_ne (by decide +kernel)]
  rfl
def ws (ps : List RW) : List Int := ps.map (·.2)
def dp (ps : List RW) (g : Int) : List RW := ps.map fun p => (p.1, p.2 / g)
theorem quot_pos {x g : Int} (hg : 0 < g) (hd : g ∣ x) (hx : 1 ≤ x) : 1 ≤ x / g := by
  obtain ⟨k, rfl⟩ := hd
  rw [Int.mul_ediv_cancel_left _ (by omega)]
  rcases Int.lt_or_le k 1 with h | h
  · have : g * k ≤ 0 := Int.mul_nonpos_of_nonneg_of_nonpos (by omega) (by omega)
    omega
  · exact h
theorem prs_dp {n : Nat} {ps : List RW} {b : Int} (h : Prs n ps) (hb : 0 < b) : Prs n (dp ps (gf b (ws ps))) := by
  refine ⟨by unfold dp; rw [List.length_map]; exact h.1, fun p hp => ?_⟩
  obtain ⟨p0, h0, rfl⟩ := List.mem_map.mp hp
  obtain ⟨h1, h2, h3, h4⟩ := h.2 p0 h0
  exact ⟨h1, quot_pos (gf_pos hb _) ((gf_dvd _).2 _ (List.mem_map.mpr ⟨p0, h0, rfl⟩)) h2, B.div (gf_pos hb _) h3, h4⟩
theorem dep_prs {ps : List RW} : (Td.tup (ps.map tdr)).dep ≤ 3 := by
  simp only [Td.dep]
  have : Td.deps (ps.map tdr) ≤ 2 := deps_all fun t h => by
    obtain ⟨p, _, rfl⟩ := List.mem_map.mp h
    simp only [tdr, Td.dep, Td.deps]
    have : Td.deps (p.1.map Td.int) ≤ 0 := deps_all fun t h => by
      obtain ⟨n, _, rfl⟩ := List.mem_map.mp h
      exact Nat.le_refl _
    omega
  omega
theorem sm_prs {ps : List RW} (h : ps.length ≤ 16000000) (hr : ∀ p ∈ ps, p.1.length ≤ 16000000) : (Td.tup (ps.map tdr)).sm := by
  simp only [Td.sm]
  refine ⟨by rw [List.length_map]; exact h, sms_all fun t h => ?_⟩
  obtain ⟨p, hm, rfl⟩ := List.mem_map.mp h
  show (Td.tup [.tup (p.1.map Td.int), .int p.2]).sm
  simp only [Td.sm, Td.sms]
  have := sm_ints (hr p hm)
  simp only [Td.sm] at this
  exact ⟨by simp, this, trivial, trivial⟩
/-- the form of a row list -/
def fmat (n : Nat) (ps : List RW) (b : Int) : List (List Int) := dm (wmat n ps) (gf b (wmat n ps).flatten)
def fbot (n : Nat) (ps : List RW) (b : Int) : Int := b / gf b (wmat n ps).flatten
theorem wmat_len {n : Nat} {ps : List RW} : (wmat n ps).length = n := by unfold wmat; rw [List.length_map, List.length_range]
theorem wmat_sqr {n : Nat} {ps : List RW} : Sqr (wmat n ps) := fun r hr => by
  rw [wmat_len]
  obtain ⟨i, _, rfl⟩ := List.mem_map.mp hr
  rw [List.length_map, List.length_range]
theorem wmat_ent {n : Nat} {ps : List RW} {i j : Nat} : ent (wmat n ps) i j = if i < n ∧ j < n then wsum ps i j else 0 := by
  unfold ent wmat
  by_cases hi : i < n
  · have e : ((List.range n).map fun i => (List.range n).map fun j => wsum ps i j).getD i [] = (List.range n).map fun j => wsum ps i j := by
      rw [List.getD_eq_getElem?_getD, List.getElem?_map, List.getElem?_range hi]
      rfl
    rw [e]
    by_cases hj : j < n
    · rw [List.getD_eq_getElem?_getD, List.getElem?_map, List.getElem?_range hj, if_pos ⟨hi, hj⟩]
      rfl
    · rw [List.getD_eq_getElem?_getD, List.getElem?_eq_none (by rw [List.length_map, List.length_range]; omega), if_neg (fun h => hj h.2)]
      rfl
  · rw [if_neg (fun h => hi h.1), show ((List.range n).map fun i => (List.range n).map fun j => wsum ps i j).getD i [] = [] from by
      rw [List.getD_eq_getElem?_getD, List.getElem?_eq_none (by rw [List.length_map, List.length_range]; omega)]
      rfl]
    rfl
theorem wmat_sym {n : Nat} {ps : List RW} : Sym (wmat n ps) := fun i j => by
  rw [wmat_ent, wmat_ent, wsum_sym]
  by_cases h : i < n ∧ j < n
  · rw [if_pos h, if_pos ⟨h.2, h.1⟩]
  · rw [if_neg h, if_neg fun g => h ⟨g.2, g.1⟩]
/-- a row list -/
def RowsAt (K : PySem.W.Frag) (H : Hp) (cF cR p : Addr) (n : Nat) (ps : List RW) (b : Int) : Prop := ∃ dx q F, H p = some (.ins cR dx [("size", .int n), ("pairs", .ref q), ("bottom", .int b), ("form", .ref F)]) ∧ Fz K H (.ref q) (.tup (ps.map tdr)) ∧ FormAt K H cF F n (fmat n ps b) (fbot n ps b)
theorem But.tk {K : PySem.W.Frag} {a C dx : Addr} {l : List (Str × V)} {H H' : Hp} (h : H a = some (.ins C dx l)) (e : But a H H') : Tk K H H' := tk_ins h fun b o hb eo => e b o eo hb
theorem But.trans {a : Addr} {H H' H2 : Hp} (s : But a H H') (t : But a H' H2) : But a H H2 := fun c u e h => t c u (s c u e h) h
theorem FormAt.at {K : PySem.W.Frag} {H H' : Hp} {C p : Addr} {n : Nat} {m : List (List Int)} {b : Int} (h : FormAt K H C p n m b) (e : ∀ o, H p = some o → H' p = some o) (t : Tk K H H') : FormAt K H' C p n m b := by
  obtain ⟨dx, q, h1, h2⟩ := h
  exact ⟨dx, q, e _ h1, h2.tk t⟩
theorem RowsAt.at {K : PySem.W.Frag} {H H' : Hp} {cF cR p : Addr} {n : Nat} {ps : List RW} {b : Int} (h : RowsAt K H cF cR p n ps b) (e : Same H H') : RowsAt K H' cF cR p n ps b := by
  obtain ⟨dx, q, F, h1, h2, h3⟩ := h
  exact ⟨dx, q, F, e _ _ h1, h2.tk (WK.Same.tk e), h3.at (fun o => e _ _) (WK.Same.tk e)⟩
/-- a new thing is made and filled -/
theorem made_same {H H' : Hp} {x dx : Addr} {u o : HO} (hx : H x = none) (hd : H dx = none) (e : But x (upd (upd H dx u) x o) H') : Same H H' := fun c v h => by
  have h1 := ne_of_none h hx
  refine e c v ?_ h1
  rw [upd_ne h1, upd_ne (ne_of_none h hd)]
  exact h
theorem new_two {H : Hp} {x dx : Addr} {u o : HO} (hx : H x = none) (hd : H dx = none) : Same H (upd (upd H dx u) x o) := fun c v h => by
  rw [upd_ne (ne_of_none h hx), upd_ne (ne_of_none h hd)]
  exact h
def spRows (K : PySem.W.Frag) (cF cR : Addr) : Sp := fun vs H Q _ => ∃ (a dx : Addr) (v : V) (n : Nat) (ps : List RW) (b : Int), vs = [.ref a, .int n, v, .int b] ∧ H a = some (.ins cR dx []) ∧ Sn K H v (.tup (ps.map tdr)) ∧ Prs n ps ∧ n ≤ 300 ∧ 0 < b ∧ B 9000 b ∧
  ∀ H', RowsAt K H' cF cR a n (dp ps (gf b (ws ps))) (b / gf b (ws ps)) → But a H H' → Q .non H'
section
variable {P : Program} {w : World} {K : PySem.W.Frag} {mg : Str → Option Value} {base : Heap} {f : Addr} {fd : FuncData} {cF cR : Addr}
abbrev s_iRowList : Stmt := mth 32 0
abbrev N_iRowList : List Str := ["self", "size", "pairs", "bottom", "passed", "weights", "least_bottom", "pair", "weight"]
theorem sc_iRowList : FnScope N_iRowList ["self", "size", "pairs", "bottom"] (defScope s_iRowList) := ⟨rfl, rfl, rfl, by decide +kernel, rfl, by decide +kernel, by decide +kernel⟩
theorem ok_iRowList {kws : List (Str × V)} (F : FunD K "__init__" "RowList.__init__" (defArgs s_iRowList) (defBody s_iRowList) (defScope s_iRowList) [] kws f fd) (T : Txt mg) (O : Obs K cF cR) (C_frozen : Cal P w K mg base 3 "frozen" ["value"] (spFz K 3)) (C_check_pairs : Cal P w K mg base 1 "check_pairs" ["size", "pairs"] (spPairs K))
    (C_lowered : Cal P w K mg base 1 "lowered" ["numbers", "bottom"] spLow) (C_weighted_matrix : Cal P w K mg base 2 "weighted_matrix" ["size", "pairs"] (spWmat K)) (C_Form : CalK P w K mg base 4 "Form" cF 1 ["bottom"] (spForm K cF)) : FnOk P w K mg base CX0 6 f fd ["self", "size", "pairs", "bottom"] (spRows K cF cR) := by
  refine F.ok sc_iRowList (fun vs H Q E h => ?_) (fun cdv A outer s H vs Q E hr h => ?_)
  · obtain ⟨a, dx, v, n, ps, b, rfl, _⟩ := h
    rfl
  obtain ⟨a, dx, v, n, ps, b, rfl, hself, hv, hps, hn, hb, hB, q⟩ := h
  refine ⟨_, (pss_cons (ps_set (i := 4) sc_iRowList.nd rfl (Or.inl rfl) (pe_cal C_frozen (hr.mono (by omega)) rfl (pa_cons (pv 2) pa_nil)))
  (pss_cons (ps_expr (pe_cal C_check_pairs (hr.mono (by omega)) rfl (pa_cons (pv 1) (pa_cons (pv 4) pa_nil))))
  (pss_cons (ps_asg (pe_cal C_lowered (hr.mono (by omega)) rfl (pa_cons (pe_lc (own := [("pair", 7)]) (g := gName 7) (tt := tYes) (by rfl) sc_iRowList.nd (pi_tup (pv 4)) (blkOk_by (N := N_iRowList) (sc := defScope s_iRowList) (by decide +kernel)) (fun _ _ _ _ _ => (pg_name (i := 7) sc_iRowList.nd rfl (Or.inl rfl))) (fun _ _ _ _ _ => pts_nil) (fun _ _ _ _ _ => (pe_ix (ix_tupK (K := K) rfl) (pv 7) pe_int (fun _ _ => rfl)))) (pa_cons (pv 3) pa_nil))) (pg_tup rfl (pgs_cons (pg_name (i := 5) sc_iRowList.nd rfl (Or.inl rfl)) (pgs_cons (pg_name (i := 6) sc_iRowList.nd rfl (Or.inl rfl)) pgs_nil))))
  (pss_cons (ps_fld (pv 0) (pv 1) rfl)
  (pss_cons (ps_fld (pv 0) (pe_callTy call_tuple_of (by rfl) T.b_tuple (by decide +kernel) (pa_cons (pe_lc (own := [("pair", 7), ("weight", 8)]) (tt := tYes) (by rfl) sc_iRowList.nd (RZ.pi_zipA (by rfl) T.b_zip (pa_cons (pv 4) (pa_cons (pv 5) pa_nil))) (blkOk_by (N := N_iRowList) (sc := defScope s_iRowList) (by decide +kernel)) (fun _ _ _ _ _ => (pg_tupK (K := K) (n := 2) rfl rfl (pgs_cons (pg_name (i := 7) sc_iRowList.nd rfl (Or.inl rfl)) (pgs_cons (pg_name (i := 8) sc_iRowList.nd rfl (Or.inl rfl)) pgs_nil)))) (fun _ _ _ _ _ => pts_nil) (fun _ _ _ _ _ => (pe_tup (pa_cons (pe_ix (ix_tupK (K := K) rfl) (pv 7) pe_int (fun _ _ => rfl)) (pa_cons (pv 8) pa_nil))))) pa_nil)) rfl)
  (pss_cons (ps_fld (pv 0) (pv 6) rfl)
  (pss_one (ps_fld (pv 0) (pe_calK C_Form (hr.mono (by omega)) rfl (pa_cons (pe_cal C_weighted_matrix (hr.mono (by omega)) rfl (pa_cons (pv 1) (pa_cons (pe_fld (pv 0) rfl) pa_nil))) pa_nil) (pk_cons (pv 6) pk_nil)) rfl)))))))), ?_⟩
  have hpl := hps.1
  refine ⟨_, rfl, _, _, rfl, hv, dep_prs, sm_prs (by omega) (fun p hp => by rw [(hps.2 p hp).1]; omega), fun v1 H1 s1 hz1 => ?_⟩
  refine ⟨_, rfl, _, rfl, n, _, ps, rfl, hz1, fun p hp => ⟨(hps.2 p hp).1, (hps.2 p hp).2.1⟩, fun H2 s2 => ?_⟩
  have hz2 := hz1.tk (WK.Same.tk s2)
  obtain ⟨e, vs, rfl, he, hl, hrow⟩ := fz_prs hz2
  refine ⟨_, rfl, e, rfl, ⟨_, he⟩, fun D hD => ?_⟩
  refine lc_m (walk_tup (K := K) (a := e) (xs := vs)) RI (stb_RI (K := K)) ps hl (by omega) hD (fun H' s => Same_seqT s he) (fun _ _ _ _ => ys_at) (·.2) (fun k p x H3 H4 hb1 s3 s4 y A B hA => ?_) (fun H3 l s3 hl3 rs => ?_)
  · obtain ⟨q1, r1, hq1, hq2, hq3⟩ := hrow k p hb1
    rw [y.2] at hq1
    cases hq1
    exact ⟨rfl, lc_yes ⟨_, rfl, q1, _, 1, _, rfl, rfl, Same_seqT s4 hq2, at_pos (by decide) rfl, hA _ _ (fun _ _ h => h) rfl⟩⟩
  refine ⟨_, rfl, D, ws ps, b, rfl, by rw [hl3, rs.ints]; rfl, hb, hB, by unfold ws; rw [List.length_map]; omega, fun r t H5 s5 hr5 ht5 => ?_⟩
  have hg := gf_pos hb (ws ps)
  refine ⟨_, _, rfl, SqT.of hr5, rfl, _, _, rfl, _, _, rfl, rfl, ?_⟩
  have sA : Same H H5 := s1.trans (s2.trans (s3.trans s5))
  refine ⟨_, rfl, _, rfl, a, cR, dx, _, rfl, sA _ _ hself, O.clR, O.R_size, (by show 0 < 1000; decide), ?_⟩
  generalize hH6 : upd H5 a _ = H6
  have hs6 : H6 a = some (.ins cR dx (putF "size" (.int n) [])) := by rw [← hH6, upd_same]
  have b6 : But a H H6 := by rw [← hH6]; exact (But.of sA).put _
  have t56 : Tk K H5 H6 := But.tk (sA _ _ hself) (by rw [← hH6]; exact (But.of fun _ _ h => h).put _)
  have ht6 : SqT K H6 t (((ws ps).map fun n => n / gf b (ws ps)).map V.int) := t56 _ _ (SqT.of ht5)
  have tk26 : Tk K H2 H6 := fun x ys h => t56 _ _ (Same_seqT (s3.trans s5) h)
  have he6 : SqT K H6 e vs := tk26 _ _ he
  refine ⟨_, rfl, _, rfl, e, t, vs, _, rfl, .inr ⟨he6, ht6, fun D2 hD2 => ?_⟩⟩
  have hwl : (((ws ps).map fun n => n / gf b (ws ps)).map V.int).length = ps.length := by unfold ws; rw [List.length_map, List.length_map, List.length_map]
  refine lc_m (walk_zT (K := K) (a := e) (b := t) (xs := vs) (ys := ((ws ps).map fun n => n / gf b (ws ps)).map V.int) (n := ps.length) (by rw [hwl, hl]; omega)) (Fz K) stb_Fz ps rfl (by omega) hD2 (fun H' s => ⟨Same_seqT s he6, Same_seqT s ht6⟩) (fun _ _ _ _ => ys_pair) (fun p => tdr (p.1, p.2 / gf b (ws ps))) (fun k p x H7 H8 hb2 s7 s8 y A2 B2 hA => ?_) (fun H7 l s7 hl7 rs2 => ?_)
  · obtain ⟨q1, r1, hq1, hq2, hq3⟩ := hrow k p hb2
    obtain ⟨Tp, x1, x2, rfl, hT, rfl, e1, e2⟩ := y
    rw [show vs[k]? = some x1 from e1] at hq1
    cases hq1
    have e3 : (((ws ps).map fun n => n / gf b (ws ps)).map V.int)[k]? = some (.int (p.2 / gf b (ws ps))) := by
      unfold ws
      rw [List.getElem?_map, List.getElem?_map, List.getElem?_map, hb2]
      rfl
    rw [show (((ws ps).map fun n => n / gf b (ws ps)).map V.int)[k]? = some x2 from e2] at e3
    cases e3
    have tk8 : Tk K H2 (upd H7 Tp (.tup [.ref q1, .int (p.2 / gf b (ws ps))])) := fun x ys h => Same_seqT s8 (tk26 _ _ h)
    refine ⟨_, _, rfl, SqT.of upd_same, rfl, _, _, rfl, _, _, rfl, rfl, rfl, lc_yes ?_⟩
    refine ⟨_, rfl, q1, _, 0, _, rfl, rfl, tk8 _ _ hq2, at_pos (by decide) rfl, _, rfl, two_line, fun z hz => hA _ _ (same_new hz _) ?_⟩
    refine .tup (SqT.of upd_same) (.cons (.tup (Same_seqT (same_new hz _) (tk8 _ _ hq3)) (FzAll.of_ints _)) (.cons (.int _) .nil))
  refine ⟨D2, l, rfl, .inl ⟨SqL.of hl7, fun t2 ht2 => ?_⟩⟩
  have sB : Same H6 (upd H7 t2 (.tup l)) := s7.trans (same_new ht2 _)
  have hps8 : FzAll K H7 l ((dp ps (gf b (ws ps))).map tdr) := by
    have := rs2.fz
    unfold dp
    rw [List.map_map]
    exact this
  have hp8 : Fz K (upd H7 t2 (.tup l)) (.ref t2) (.tup ((dp ps (gf b (ws ps))).map tdr)) := .tup (SqT.of upd_same) (hps8.tk (WK.Same.tk (same_new ht2 _)))
  refine ⟨_, rfl, a, cR, dx, _, rfl, sB _ _ hs6, O.clR, O.R_pairs, (by show 1 < 1000; decide), ?_⟩
  generalize hH9 : upd (upd H7 t2 (.tup l)) a _ = H9
  have b9 : But a (upd H7 t2 (.tup l)) H9 := by rw [← hH9]; exact (But.of fun _ _ h => h).put _
  have hs9 : H9 a = some (.ins cR dx (putF "pairs" (.ref t2) (putF "size" (.int n) []))) := by rw [← hH9, upd_same]
  have hp9 := hp8.tk (But.tk (sB _ _ hs6) b9)
  refine ⟨_, rfl, _, rfl, a, cR, dx, _, rfl, hs9, O.clR, O.R_bottom, (by show 2 < 1000; decide), ?_⟩
  generalize hH10 : upd H9 a _ = H10
  have b10 : But a H9 H10 := by rw [← hH10]; exact (But.of fun _ _ h => h).put _
  have hs10 : H10 a = some (.ins cR dx (putF "bottom" (.int (b / gf b (ws ps))) (putF "pairs" (.ref t2) (putF "size" (.int n) [])))) := by rw [← hH10, upd_same]
  have hp10 := hp9.tk (But.tk hs9 b10)
  have bb : But a H H10 := ((b6.then sB).trans b9).trans b10
  have hlk : (putF "bottom" (.int (b / gf b (ws ps))) (putF "pairs" (.ref t2) (putF "size" (.int n) []))).lookup ("pairs" : Str) = some (.ref t2) := by
    rw [lookup_putF, if_neg (by decide +kernel), lookup_putF, if_pos rfl]
  have hpd := prs_dp hps hb
  refine ⟨_, rfl, _, rfl, a, cR, dx, _, _, rfl, hs10, O.clR, O.R_pairs, hlk, _, n, _, rfl, hp10, hpd, by omega, fun r2 H11 s11 hsn => ?_⟩
  refine ⟨_, rfl, rfl, rfl, fun x dx2 hx hdx hne => ?_⟩
  have hb2 : 0 < b / gf b (ws ps) := quot_pos hg (gf_dvd _).1 (by omega)
  refine ⟨x, dx2, _, wmat n (dp ps (gf b (ws ps))), b / gf b (ws ps), rfl, upd_same, hsn.same (new_two hx hdx), wmat_sqr, wmat_sym, by rw [wmat_len]; exact hn, hb2, B.div hg hB, fun H12 hF hbut => ⟨rfl, ?_⟩⟩
  have s12 : Same H11 H12 := made_same hx hdx hbut
  have s1012 := s11.trans s12
  refine ⟨_, rfl, a, cR, dx, _, rfl, s1012 _ _ hs10, O.clR, O.R_form, (by show 3 < 1000; decide), ?_⟩
  have b13 : But a H12 (upd H12 a (.ins cR dx (putF "form" (.ref x) (putF "bottom" (.int (b / gf b (ws ps))) (putF "pairs" (.ref t2) (putF "size" (.int n) [])))))) := (But.of fun _ _ h => h).put _
  have t13 := But.tk (K := K) (s1012 _ _ hs10) b13
  have hxa : x ≠ a := fun z => by rw [z, s11 _ _ hs10] at hx; cases hx
  rw [wmat_len] at hF
  refine q _ ⟨dx, t2, x, by rw [upd_same, flR], (hp10.tk (WK.Same.tk s1012)).tk t13, hF.at (fun o e => b13 _ _ e hxa) t13⟩ ((bb.then s1012).trans b13)
end
end P03
/-! Sums, square tables as functions, lowest terms. -/
namespace P03
open PySem PySem.Spec PyProof.Rows L2 SX EX WK
def Ls {α : Type} (l : List α) (f : α → Int) : Int := (l.map f).sum
theorem Ls_nil {α : Type} (f : α → Int) : Ls [] f = 0 := rfl
theorem Ls_cons {α : Type} (a : α) (l : List α) (f : α → Int) : Ls (a :: l) f = f a + Ls l f := by
  unfold Ls
  rw [List.map_cons, List.sum_cons]
theorem Ls_snoc {α : Type} (l : List α) (a : α) (f : α → Int) : Ls (l ++ [a]) f = Ls l f + f a := by
  unfold Ls
  rw [List.map_append, List.sum_append]
  simp
theorem Ls_congr {α : Type} {l : List α} {f g : α → Int} (h : ∀ a ∈ l, f a = g a) : Ls l f = Ls l g := by
  unfold Ls
  rw [List.map_congr_left h]
theorem Ls_zero {α : Type} (l : List α) : Ls l (fun _ => 0) = 0 := by
  induction l with
  | nil => rfl
  | cons a l ih => rw [Ls_cons, ih]; rfl
theorem Ls_add {α : Type} (l : List α) (f g : α → Int) : Ls l (fun a => f a + g a) = Ls l f + Ls l g := by
  induction l with
  | nil => rfl
  | cons a l ih => rw [Ls_cons, Ls_cons, Ls_cons, ih]; omega
theorem Ls_mul {α : Type} (c : Int) (l : List α) (f : α → Int) : Ls l (fun a => c * f a) = c * Ls l f := by
  induction l with
  | nil => simp [Ls_nil]
  | cons a l ih => rw [Ls_cons, Ls_cons, ih, Int.mul_add]
theorem Ls_mulr {α : Type} (c : Int) (l : List α) (f : α → Int) : Ls l (fun a => f a * c) = Ls l f * c := by
  rw [Int.mul_comm, ← Ls_mul]
  exact Ls_congr fun a _ => Int.mul_comm _ _
theorem Ls_swap {α β : Type} (l : List α) (m : List β) (f : α → β → Int) : Ls l (fun a => Ls m (f a)) = Ls m fun b => Ls l fun a => f a b := by
  induction l with
  | nil =>
    rw [Ls_nil]
    exact (Ls_zero m).symm
  | cons a l ih =>
    rw [Ls_cons, ih, ← Ls_add]
    exact Ls_congr fun b _ => (Ls_cons a l fun a => f a b).symm
abbrev S (n : Nat) (f : Nat → Int) : Int := Ls (List.range n) f
theorem S_congr {n : Nat} {f g : Nat → Int} (h : ∀ i, i < n → f i = g i) : S n f = S n g := Ls_congr fun i hi => h i (List.mem_range.mp hi)
theorem S_congr2 {n m : Nat} {f g : Nat → Nat → Int} (h : ∀ i j, i < n → j < m → f i j = g i j) : S n (fun i => S m (f i)) = S n (fun i => S m (g i)) := S_congr fun i hi => S_congr fun j hj => h i j hi hj
theorem S_succ (n : Nat) (f : Nat → Int) : S (n + 1) f = S n f + f n := by
  show Ls (List.range (n + 1)) f = _
  rw [List.range_succ, Ls_snoc]
theorem BS {k c n : Nat} {f : Nat → Int} (h : ∀ i, i < n → B k (f i)) (hn : n ≤ 2 ^ c) : B (k + c) (S n f) := by
  have e : ∀ m, m ≤ n → (S m f).natAbs + m ≤ m * 2 ^ k := fun m hm => by
    induction m with
    | zero =>
      rw [show S 0 f = 0 from rfl]
      simp
    | succ m ih =>
      rw [S_succ, Nat.succ_mul]
      have h1 := ih (by omega)
      have h2 : (f m).natAbs < 2 ^ k := h m (by omega)
      have h3 := Int.natAbs_add_le (S m f) (f m)
      omega
  have h0 := e n (Nat.le_refl _)
  show (S n f).natAbs < 2 ^ (k + c)
  have p : 0 < 2 ^ k := Nat.two_pow_pos k
  rw [Nat.pow_add]
  have h1 : n * 2 ^ k ≤ 2 ^ k * 2 ^ c := by
    rw [Nat.mul_comm]
    exact Nat.mul_le_mul_left _ hn
  have p2 : 0 < 2 ^ k * 2 ^ c := Nat.mul_pos p (Nat.two_pow_pos c)
  rcases Nat.eq_zero_or_pos n with z | z
  · subst z
    show (Ls [] f).natAbs < _
    rw [Ls_nil]
    exact p2
  · omega
theorem BLs {α : Type} {k c : Nat} {l : List α} {f : α → Int} (h : ∀ a ∈ l, B k (f a)) (hn : l.length ≤ 2 ^ c) : B (k + c) (Ls l f) := by
  have e : ∀ m : List α, (∀ a ∈ m, a ∈ l) → (Ls m f).natAbs + m.length ≤ m.length * 2 ^ k := fun m hm => by
    induction m with
    | nil => simp [Ls_nil]
    | cons a m ih =>
      rw [Ls_cons, List.length_cons, Nat.succ_mul]
      have h1 := ih (fun a ha => hm a (List.mem_cons_of_mem _ ha))
      have h2 : (f a).natAbs < 2 ^ k := h a (hm a List.mem_cons_self)
      have h3 := Int.natAbs_add_le (f a) (Ls m f)
      omega
  have h0 := e l fun _ h => h
  show (Ls l f).natAbs < 2 ^ (k + c)
  have p : 0 < 2 ^ k := Nat.two_pow_pos k
  rw [Nat.pow_add]
  have h1 : l.length * 2 ^ k ≤ 2 ^ k * 2 ^ c := by
    rw [Nat.mul_comm]
    exact Nat.mul_le_mul_left _ hn
  have p2 : 0 < 2 ^ k * 2 ^ c := Nat.mul_pos p (Nat.two_pow_pos c)
  cases l with
  | nil =>
    rw [Ls_nil]
    exact p2
  | cons a l =>
    rw [List.length_cons] at h0 h1
    omega
/-! ### vectors, tables -/
def vec (n : Nat) (x : Nat → Int) : List Int := (List.range n).map x
def mat (n : Nat) (f : Nat → Nat → Int) : List (List Int) := (List.range n).map fun i => vec n (f i)
theorem vec_len {n : Nat} {x : Nat → Int} : (vec n x).length = n := by unfold vec; rw [List.length_map, List.length_range]
theorem mat_len {n : Nat} {f : Nat → Nat → Int} : (mat n f).length = n := by unfold mat; rw [List.length_map, List.length_range]
theorem vec_at {n i : Nat} {x : Nat → Int} (h : i < n) : (vec n x)[i]? = some (x i) := by
  unfold vec
  rw [List.getElem?_map, List.getElem?_range h]
  rfl
theorem vecV_at {n i : Nat} {x : Nat → Int} (h : i < n) : ((vec n x).map V.int)[i]? = some (.int (x i)) := by
  rw [List.getElem?_map, vec_at h]
  rfl
theorem mat_at {n i : Nat} {f : Nat → Nat → Int} (h : i < n) : (mat n f)[i]? = some (vec n (f i)) := by
  unfold mat
  rw [List.getElem?_map, List.getElem?_range h]
  rfl
theorem vec_congr {n : Nat} {x y : Nat → Int} (h : ∀ i, i < n → x i = y i) : vec n x = vec n y := List.map_congr_left fun i hi => h i (List.mem_range.mp hi)
theorem mat_congr {n : Nat} {f g : Nat → Nat → Int} (h : ∀ i j, i < n → j < n → f i j = g i j) : mat n f = mat n g := List.map_congr_left fun i hi => vec_congr fun j hj => h i j (List.mem_range.mp hi) hj
theorem vec_of {n : Nat} {ns : List Int} (h : ns.length = n) : ns = vec n fun i => ns.getD i 0 := by
  refine List.ext_getElem? fun i => ?_
  by_cases hi : i < n
  · rw [vec_at hi, List.getD_eq_getElem?_getD, List.getElem?_eq_getElem (by omega)]
    rfl
  · rw [List.getElem?_eq_none (by omega), List.getElem?_eq_none (by rw [vec_len]; omega)]
theorem mat_sqr {n : Nat} {f : Nat → Nat → Int} : Sqr (mat n f) := fun r hr => by
  rw [mat_len]
  obtain ⟨i, _, rfl⟩ := List.mem_map.mp hr
  exact vec_len
theorem mat_ent {n : Nat} {f : Nat → Nat → Int} {i j : Nat} : ent (mat n f) i j = if i < n ∧ j < n then f i j else 0 := by
  unfold ent
  by_cases hi : i < n
  · rw [show (mat n f).getD i [] = vec n (f i) from by rw [List.getD_eq_getElem?_getD, mat_at hi]; rfl]
    by_cases hj : j < n
    · rw [List.getD_eq_getElem?_getD, vec_at hj, if_pos ⟨hi, hj⟩]
      rfl
    · rw [List.getD_eq_getElem?_getD, List.getElem?_eq_none (by rw [vec_len]; omega), if_neg (fun h => hj h.2)]
      rfl
  · rw [if_neg (fun h => hi h.1), show (mat n f).getD i [] = [] from by
      rw [List.getD_eq_getElem?_getD, List.getElem?_eq_none (by rw [mat_len]; omega)]
      rfl]
    rfl
theorem mat_sym {n : Nat} {f : Nat → Nat → Int} (h : ∀ i j, i < n → j < n → f i j = f j i) : Sym (mat n f) := fun i j => by
  rw [mat_ent, mat_ent]
  by_cases c : i < n ∧ j < n
  · rw [if_pos c, if_pos ⟨c.2, c.1⟩, h i j c.1 c.2]
  · rw [if_neg c, if_neg fun g => c ⟨g.2, g.1⟩]
theorem mat_mem {n : Nat} {f : Nat → Nat → Int} {i j : Nat} (hi : i < n) (hj : j < n) : f i j ∈ (mat n f).flatten :=
  List.mem_flatten.mpr ⟨_, List.mem_of_getElem? (mat_at hi), List.mem_of_getElem? (vec_at hj)⟩
theorem dm_mat {n : Nat} {f : Nat → Nat → Int} {g : Int} : dm (mat n f) g = mat n fun i j => f i j / g := by
  unfold dm mat vec
  rw [List.map_map]
  refine List.map_congr_left fun i _ => ?_
  show ((List.range n).map (f i)).map _ = _
  rw [List.map_map]
  rfl
/-! ### lowest terms -/
theorem gI_one {t b : Int} (hb : 0 < b) : gI (t / gI t b) (b / gI t b) = 1 := by
  have g := gI_pos' (t := t) hb
  have g2 : 0 < Nat.gcd t.natAbs b.natAbs := Nat.gcd_pos_of_pos_right _ (by omega)
  have e1 : (t / gI t b).natAbs = t.natAbs / Nat.gcd t.natAbs b.natAbs := by
    unfold gI
    obtain ⟨k, hk⟩ := (gI_dvd1 : gI t b ∣ t)
    unfold gI at hk
    generalize Nat.gcd t.natAbs b.natAbs = d at *
    subst hk
    rw [Int.mul_ediv_cancel_left _ (by omega), Int.natAbs_mul, Int.natAbs_natCast, Nat.mul_div_cancel_left _ g2]
  have e2 : (b / gI t b).natAbs = b.natAbs / Nat.gcd t.natAbs b.natAbs := by
    unfold gI
    obtain ⟨k, hk⟩ := (gI_dvd2 : gI t b ∣ b)
    unfold gI at hk
    generalize Nat.gcd t.natAbs b.natAbs = d at *
    subst hk
    rw [Int.mul_ediv_cancel_left _ (by omega), Int.natAbs_mul, Int.natAbs_natCast, Nat.mul_div_cancel_left _ g2]
  show ((Nat.gcd (t / gI t b).natAbs (b / gI t b).natAbs : Nat) : Int) = 1
  rw [e1, e2, Nat.gcd_div_gcd_div_gcd_of_pos_right (by omega)]
  rfl
theorem cross {t b g : Int} (hg : 0 < g) (h1 : g ∣ t) (h2 : g ∣ b) : t / g * b = t * (b / g) := by
  obtain ⟨k, rfl⟩ := h1
  obtain ⟨l, rfl⟩ := h2
  rw [Int.mul_ediv_cancel_left _ (by omega), Int.mul_ediv_cancel_left _ (by omega), Int.mul_comm g k, Int.mul_assoc]
/-- two quotients of the same number -/
theorem cross2 {t b g u v : Int} (hg : 0 < g) (h1 : g ∣ t) (h2 : g ∣ b) (h : t * v = u * b) : t / g * v = u * (b / g) := by
  obtain ⟨k, rfl⟩ := h1
  obtain ⟨l, rfl⟩ := h2
  rw [Int.mul_ediv_cancel_left _ (by omega), Int.mul_ediv_cancel_left _ (by omega)]
  have e : g * (k * v) = g * (u * l) := by
    rw [← Int.mul_assoc, h, Int.mul_left_comm]
  exact Int.eq_of_mul_eq_mul_left (by omega) e
theorem gI_scale {t b g : Int} (hg : 0 < g) (h1 : g ∣ t) (h2 : g ∣ b) : gI t b = g * gI (t / g) (b / g) := by
  obtain ⟨k, rfl⟩ := h1
  obtain ⟨l, rfl⟩ := h2
  rw [Int.mul_ediv_cancel_left _ (by omega), Int.mul_ediv_cancel_left _ (by omega)]
  unfold gI
  rw [Int.natAbs_mul, Int.natAbs_mul, Nat.gcd_mul_left]
  have : ((g.natAbs : Nat) : Int) = g := by omega
  rw [Int.natCast_mul, this]
theorem gf_scale {g : Int} (hg : 0 < g) : ∀ {ns : List Int} {b : Int}, g ∣ b → (∀ n ∈ ns, g ∣ n) → gf b ns = g * gf (b / g) (ns.map (· / g))
  | [], b, h, _ => by
    obtain ⟨k, rfl⟩ := h
    show g * k = g * (g * k / g)
    rw [Int.mul_ediv_cancel_left _ (by omega)]
  | n :: ns, b, h, hn => by
    have h1 := hn n List.mem_cons_self
    have e := gI_scale hg h h1
    have hd : g ∣ gI b n := ⟨_, e⟩
    show gf (gI b n) ns = g * gf (gI (b / g) (n / g)) (ns.map (· / g))
    rw [gf_scale hg hd fun m hm => hn m (List.mem_cons_of_mem _ hm)]
    congr 2
    rw [e, Int.mul_ediv_cancel_left _ (by omega)]
theorem gf_one {b : Int} (hb : 0 < b) (ns : List Int) : gf (b / gf b ns) (ns.map (· / gf b ns)) = 1 := by
  have hg := gf_pos hb ns
  have h := gf_scale hg (ns := ns) (b := b) (gf_dvd ns).1 (gf_dvd ns).2
  have e : gf b ns * 1 = gf b ns * gf (b / gf b ns) (ns.map (· / gf b ns)) := by rw [Int.mul_one]; exact h
  exact (Int.eq_of_mul_eq_mul_left (by omega) e).symm
theorem flat_mat {n : Nat} {f : Nat → Nat → Int} {g : Int} : (mat n fun i j => f i j / g).flatten = (mat n f).flatten.map (· / g) := by
  rw [← dm_mat]
  unfold dm
  rw [List.map_flatten]
/-- a form in lowest terms, of T over U -/
structure Red (n : Nat) (f : Nat → Nat → Int) (b : Int) (k : Nat) : Prop where
  pos : 0 < b
  bb : B k b
  fb : ∀ i j, i < n → j < n → B k (f i j)
  sym : ∀ i j, i < n → j < n → f i j = f j i
  one : gf b (mat n f).flatten = 1
def Is (n : Nat) (f : Nat → Nat → Int) (b : Int) (T : Nat → Nat → Int) (U : Int) : Prop := ∀ i j, i < n → j < n → f i j * U = T i j * b
theorem red_of {n k : Nat} {T : Nat → Nat → Int} {U : Int} (hU : 0 < U) (hB : B k U) (hT : ∀ i j, i < n → j < n → B k (T i j)) (hs : ∀ i j, i < n → j < n → T i j = T j i) :
    Red n (fun i j => T i j / gf U (mat n T).flatten) (U / gf U (mat n T).flatten) k ∧ Is n (fun i j => T i j / gf U (mat n T).flatten) (U / gf U (mat n T).flatten) T U := by
  have hg := gf_pos hU (mat n T).flatten
  have hd := gf_dvd (b := U) (mat n T).flatten
  refine ⟨⟨quot_pos hg hd.1 (by omega), B.div hg hB, fun i j hi hj => B.div hg (hT i j hi hj), fun i j hi hj => by rw [hs i j hi hj], ?_⟩, fun i j hi hj => cross hg (hd.2 _ (mat_mem hi hj)) hd.1⟩
  rw [flat_mat]
  exact gf_one hU _
/-- the same form by other terms -/
theorem Is.of {n : Nat} {f T T' : Nat → Nat → Int} {b U U' : Int} (h : Is n f b T U) (hU : 0 < U) (e : ∀ i j, i < n → j < n → T i j * U' = T' i j * U) : Is n f b T' U' := fun i j hi hj => by
  have h1 := h i j hi hj
  have h2 := e i j hi hj
  have e1 : U * (f i j * U') = U * (T' i j * b) := by
    have a1 : U * (f i j * U') = f i j * U * U' := by rw [Int.mul_left_comm, Int.mul_assoc]
    have a2 : U * (T' i j * b) = T' i j * U * b := by rw [Int.mul_left_comm, Int.mul_assoc]
    rw [a1, a2, h1, ← h2, Int.mul_assoc, Int.mul_assoc, Int.mul_comm b]
  exact Int.eq_of_mul_eq_mul_left (by omega) e1
end P03
namespace P03
open PySem PySem.Spec PyProof.Rows L2 SX EX WK
/-- a vector, a table: lists or tuples -/
abbrev tv (n : Nat) (x : Nat → Int) : Td := .tup ((vec n x).map Td.int)
abbrev tm (n : Nat) (f : Nat → Nat → Int) : Td := tdm (mat n f)
theorem sq_same {K : PySem.W.Frag} {H H' : Hp} {k : Bool} {a : Addr} {xs : List V} (s : Same H H') (h : WZ.Sq k K H a xs) : WZ.Sq k K H' a xs := by
  cases k with
  | true => exact s.seq h
  | false => exact Same_seqT s h
theorem sq_or {K : PySem.W.Frag} {H : Hp} {k : Bool} {a : Addr} {xs : List V} (h : WZ.Sq k K H a xs) : SqL K H a xs ∨ SqT K H a xs := by
  cases k with
  | true => exact .inl h
  | false => exact .inr h
theorem sn_ints {K : PySem.W.Frag} {H : Hp} {v : V} {ns : List Int} (h : Sn K H v (.tup (ns.map Td.int))) : ∃ (k : Bool) (a : Addr), v = .ref a ∧ WZ.Sq k K H a (ns.map V.int) := by
  cases h with
  | @lst a vs ts ha hall =>
    rw [hall.ints] at ha
    exact ⟨true, a, rfl, SqL.of ha⟩
  | @tup a vs ts ha hall =>
    rw [hall.ints] at ha
    exact ⟨false, a, rfl, ha⟩
theorem sn_mat {K : PySem.W.Frag} {H : Hp} {v : V} {n : Nat} {f : Nat → Nat → Int} (h : Sn K H v (tm n f)) : ∃ (k : Bool) (a : Addr) (vs : List V), v = .ref a ∧ WZ.Sq k K H a vs ∧ vs.length = n ∧ ∀ i, i < n → ∃ u, vs[i]? = some u ∧ Sn K H u (tv n (f i)) := by
  have row : ∀ {vs : List V}, SnAll K H vs ((mat n f).map fun r => .tup (r.map Td.int)) → vs.length = n ∧ ∀ i, i < n → ∃ u, vs[i]? = some u ∧ Sn K H u (tv n (f i)) := fun {vs} hall => by
    have hl : vs.length = n := by rw [hall.len, List.length_map, mat_len]
    refine ⟨hl, fun i hi => ?_⟩
    have e := List.getElem?_eq_getElem (l := vs) (i := i) (by omega)
    obtain ⟨t, ht, hz⟩ := hall.get e
    rw [List.getElem?_map, mat_at hi] at ht
    cases ht
    exact ⟨_, e, hz⟩
  cases h with
  | @lst a vs ts ha hall => exact ⟨true, a, vs, rfl, SqL.of ha, row hall⟩
  | @tup a vs ts ha hall => exact ⟨false, a, vs, rfl, ha, row hall⟩
theorem in_range {n c i : Nat} (h : (List.range n)[c]? = some i) : c < n ∧ i = c := by
  have h1 := (List.getElem?_eq_some_iff.mp h).1
  rw [List.length_range] at h1
  rw [List.getElem?_range h1] at h
  exact ⟨h1, (Option.some.inj h).symm⟩
theorem vec_lenV {n : Nat} {x : Nat → Int} : ((vec n x).map V.int).length = n := by rw [List.length_map, vec_len]
section
variable {P : Program} {w : World} {K : PySem.W.Frag} {mg : Str → Option Value} {base : Heap} {f : Addr} {fd : FuncData} {cF cR : Addr}
def spDot (K : PySem.W.Frag) : Sp := fun vs H Q _ => ∃ (v1 v2 : V) (n k1 k2 : Nat) (x y : Nat → Int), vs = [v1, v2] ∧ Sn K H v1 (tv n x) ∧ Sn K H v2 (tv n y) ∧ n ≤ 1000 ∧ (∀ i, i < n → B k1 (x i)) ∧ (∀ i, i < n → B k2 (y i)) ∧ 0 < k1 ∧ 0 < k2 ∧ k1 + k2 ≤ 100000 ∧
  ∀ H', Same H H' → Q (.int (S n fun i => x i * y i)) H'
abbrev s_dot : Stmt := top 20
abbrev N_dot : List Str := ["one", "two", "first", "second"]
theorem sc_dot : FnScope N_dot ["one", "two"] (defScope s_dot) := ⟨rfl, rfl, rfl, by decide +kernel, rfl, by decide +kernel, by decide +kernel⟩
theorem ok_dot (F : Fun K "dot" "dot" s_dot f fd) (T : Txt mg) : FnOk P w K mg base CX0 1 f fd ["one", "two"] (spDot K) := by
  refine F.ok sc_dot (fun vs H Q E h => ?_) (fun cdv A outer s H vs Q E hr h => ?_)
  · obtain ⟨v1, v2, n, k1, k2, x, y, rfl, _⟩ := h
    rfl
  obtain ⟨v1, v2, n, k1, k2, x, y, rfl, h1, h2, hn, hx, hy, p1, p2, hk, q⟩ := h
  refine ⟨_, (pss_one (ps_ret (pe_callB (cr_sum rfl) (by rfl) T.b_sum (by decide +kernel) (pa_cons (pe_lc (own := [("first", 2), ("second", 3)]) (tt := tYes) (by rfl) sc_dot.nd (WZ.pi_zipB (by rfl) T.b_zip (pa_cons (pv 0) (pa_cons (pv 1) pa_nil))) (blkOk_by (N := N_dot) (sc := defScope s_dot) (by decide +kernel)) (fun _ _ _ _ _ => (pg_tupK (K := K) (n := 2) rfl rfl (pgs_cons (pg_name (i := 2) sc_dot.nd rfl (Or.inl rfl)) (pgs_cons (pg_name (i := 3) sc_dot.nd rfl (Or.inl rfl)) pgs_nil)))) (fun _ _ _ _ _ => pts_nil) (fun _ _ _ _ _ => (pe_op op_mulW (pv 2) (pv 3)))) pa_nil)))), ?_⟩
  obtain ⟨k, a, rfl, ha⟩ := sn_ints h1
  obtain ⟨l, b, rfl, hb⟩ := sn_ints h2
  refine ⟨_, rfl, _, rfl, k, l, a, b, _, _, rfl, ha, hb, fun D hD => ?_⟩
  refine lc_m (WZ.walk_zA (K := K) (k := k) (l := l) (a := a) (b := b) (xs := (vec n x).map V.int) (ys := (vec n y).map V.int) (n := n) vec_lenV.symm vec_lenV.symm) RI (stb_RI (K := K)) (List.range n) (by rw [List.length_range]) (by rw [List.length_range]; omega) hD (fun H' s => ⟨sq_same s ha, sq_same s hb⟩) (fun _ _ _ _ => ys_pair) (fun i => x i * y i) (fun c i v H1 H2 hc s1 s2 yl A B hA => ?_) (fun H' l1 s1 hl1 rs => ?_)
  · obtain ⟨hc1, rfl⟩ := in_range hc
    obtain ⟨Tp, x1, x2, rfl, hT, rfl, e1, e2⟩ := yl
    have e3 := (show ((vec n x).map V.int)[i]? = some x1 from e1).symm.trans (vecV_at hc1)
    have e4 := (show ((vec n y).map V.int)[i]? = some x2 from e2).symm.trans (vecV_at hc1)
    cases e3
    cases e4
    exact ⟨_, _, rfl, SqT.of upd_same, rfl, _, _, rfl, _, _, rfl, rfl, rfl, lc_yes ⟨_, rfl, _, rfl, _, _, rfl, rfl, wmul (hx i hc1) (hy i hc1) p1 p2 (by omega), hA _ _ (fun _ _ h => h) rfl⟩⟩
  · exact ⟨D, _, rfl, SqL.of (by rw [hl1, rs.ints]), q H' s1⟩
theorem lkFs (n e b : V) : ([("size", n), ("entries", e), ("bottom", b)] : List (Str × V)).lookup ("size" : Str) = some n := by rw [lk_hit]
theorem lkFe (n e b : V) : ([("size", n), ("entries", e), ("bottom", b)] : List (Str × V)).lookup ("entries" : Str) = some e := by rw [lk_skip (by decide +kernel), lk_hit]
theorem lkFb (n e b : V) : ([("size", n), ("entries", e), ("bottom", b)] : List (Str × V)).lookup ("bottom" : Str) = some b := by rw [lk_skip (by decide +kernel), lk_skip (by decide +kernel), lk_hit]
theorem lkFx {x : Str} (n e b : V) (h1 : ¬ x = ("size" : Str)) (h2 : ¬ x = ("entries" : Str)) (h3 : ¬ x = ("bottom" : Str)) : ([("size", n), ("entries", e), ("bottom", b)] : List (Str × V)).lookup x = none := by
  rw [lk_skip h1, lk_skip h2, lk_skip h3]
  rfl
def spPoint (K : PySem.W.Frag) (cF : Addr) : Sp := fun vs H Q _ => ∃ (p : Addr) (v : V) (n : Nat) (m : List (List Int)) (b : Int) (ns : List Int), vs = [.ref p, v] ∧ FormAt K H cF p n m b ∧ Sn K H v (.tup (ns.map Td.int)) ∧ ns.length = n ∧ Q .non H
abbrev s_check_point : Stmt := top 25
abbrev N_check_point : List Str := ["form", "point"]
theorem sc_check_point : FnScope N_check_point ["form", "point"] (defScope s_check_point) := ⟨rfl, rfl, rfl, by decide +kernel, rfl, by decide +kernel, by decide +kernel⟩
theorem ok_check_point (F : Fun K "check_point" "check_point" s_check_point f fd) (T : Txt mg) (O : Obs K cF cR) : FnOk P w K mg base CX0 1 f fd ["form", "point"] (spPoint K cF) := by
  refine F.ok sc_check_point (fun vs H Q E h => ?_) (fun cdv A outer s H vs Q E hr h => ?_)
  · obtain ⟨p, v, n, m, b, ns, rfl, _⟩ := h
    rfl
  obtain ⟨p, v, n, m, b, ns, rfl, hp, hv, hn, q⟩ := h
  refine ⟨_, (pss_one (ps_if (pt_cmpR op_ne (pe_callB call_len_seq (by rfl) T.b_len PySem.boot_len (pa_cons (pv 1) pa_nil)) (pe_fld (pv 0) rfl) (nomark _)) (pss_one ps_never) pss_nil)), ?_⟩
  obtain ⟨k, a, rfl, ha⟩ := sn_ints hv
  obtain ⟨dx, e, h1, h2⟩ := hp
  refine ⟨_, rfl, _, _, rfl, sq_or ha, _, rfl, p, cF, dx, _, _, rfl, h1, O.clF, O.F_size, lkFs _ _ _, rfl, _, rfl, ifF ?_ q⟩
  rw [List.length_map, hn]
  simp
/-- the value between two points -/
def bil (n : Nat) (f : Nat → Nat → Int) (x y : Nat → Int) : Int := S n fun i => x i * S n fun j => f i j * y j
def spBetw (K : PySem.W.Frag) (cF : Addr) : Sp := fun vs H Q _ => ∃ (p : Addr) (v1 v2 : V) (n : Nat) (g : Nat → Nat → Int) (b : Int) (x y : Nat → Int), vs = [.ref p, v1, v2] ∧ FormAt K H cF p n (mat n g) b ∧ Sn K H v1 (tv n x) ∧ Sn K H v2 (tv n y) ∧ n ≤ 16 ∧ 0 < b ∧ B 9000 b ∧
  (∀ i, i < n → B 8000 (x i)) ∧ (∀ i, i < n → B 8000 (y i)) ∧ (∀ i j, i < n → j < n → B 8000 (g i j)) ∧ ∀ r H', Same H H' → FrAt H' r (bil n g x y / gI (bil n g x y) b) (b / gI (bil n g x y) b) → Q (.ref r) H'
abbrev s_mbetween : Stmt := mth 27 7
abbrev N_mbetween : List Str := ["self", "one", "two", "line"]
theorem sc_mbetween : FnScope N_mbetween ["self", "one", "two"] (defScope s_mbetween) := ⟨rfl, rfl, rfl, by decide +kernel, rfl, by decide +kernel, by decide +kernel⟩
theorem ok_mbetween (F : Fun K "between" "Form.between" s_mbetween f fd) (T : Txt mg) (O : Obs K cF cR) (C_check_point : Cal P w K mg base 1 "check_point" ["form", "point"] (spPoint K cF)) (C_fraction : Cal P w K mg base 1 "fraction" ["top", "bottom"] spFraction) (C_dot : Cal P w K mg base 1 "dot" ["one", "two"] (spDot K)) :
    FnOk P w K mg base CX0 2 f fd ["self", "one", "two"] (spBetw K cF) := by
  refine F.ok sc_mbetween (fun vs H Q E h => ?_) (fun cdv A outer s H vs Q E hr h => ?_)
  · obtain ⟨p, v1, v2, n, g, b, x, y, rfl, _⟩ := h
    rfl
  obtain ⟨p, v1, v2, n, g, b, x, y, rfl, hp, h1, h2, hn, hb, hB, bx, by_, bg, q⟩ := h
  refine ⟨_, (pss_cons (ps_expr (pe_cal C_check_point (hr.mono (by omega)) rfl (pa_cons (pv 0) (pa_cons (pv 1) pa_nil))))
  (pss_cons (ps_expr (pe_cal C_check_point (hr.mono (by omega)) rfl (pa_cons (pv 0) (pa_cons (pv 2) pa_nil))))
  (pss_one (ps_ret (pe_cal C_fraction (hr.mono (by omega)) rfl (pa_cons (pe_cal C_dot (hr.mono (by omega)) rfl (pa_cons (pv 1) (pa_cons (pe_lc (own := [("line", 3)]) (g := gName 3) (tt := tYes) (by rfl) sc_mbetween.nd (pi_tup (pe_fld (pv 0) rfl)) (blkOk_by (N := N_mbetween) (sc := defScope s_mbetween) (by decide +kernel)) (fun _ _ _ _ _ => (pg_name (i := 3) sc_mbetween.nd rfl (Or.inl rfl))) (fun _ _ _ _ _ => pts_nil) (fun _ _ _ _ _ => (pe_cal C_dot (hr.mono (by omega)) rfl (pa_cons (pv 3) (pa_cons (pv 2) pa_nil))))) pa_nil))) (pa_cons (pe_fld (pv 0) rfl) pa_nil))))))), ?_⟩
  refine ⟨_, rfl, _, rfl, p, v1, n, _, b, _, rfl, hp, h1, vec_len, ?_⟩
  refine ⟨_, rfl, _, rfl, p, v2, n, _, b, _, rfl, hp, h2, vec_len, ?_⟩
  obtain ⟨dx, e, hi, hz⟩ := hp
  obtain ⟨a, vs, ea, he, hl, hrow⟩ := fz_mat hz
  cases ea
  rw [mat_len] at hl
  refine ⟨_, rfl, _, rfl, p, cF, dx, _, _, rfl, hi, O.clF, O.F_entries, lkFe _ _ _, e, rfl, ⟨_, he⟩, fun D hD => ?_⟩
  refine lc_m (walk_tup (K := K) (a := e) (xs := vs)) RI (stb_RI (K := K)) (List.range n) (by rw [hl, List.length_range]) (by rw [List.length_range]; omega) hD (fun H' s => Same_seqT s he) (fun _ _ _ _ => ys_at) (fun i => S n fun j => g i j * y j) (fun c i v H1 H2 hc s1 s2 yl A B hA => ?_) (fun H3 l1 s3 hl1 rs => ?_)
  · obtain ⟨hc1, rfl⟩ := in_range hc
    obtain ⟨p1, hp1, hp2⟩ := hrow i _ (mat_at hc1)
    rw [yl.2] at hp1
    cases hp1
    exact ⟨rfl, lc_yes ⟨_, rfl, _, rfl, _, _, n, 8000, 8000, g i, y, rfl, .tup (Same_seqT s2 hp2) (FzAll.of_ints _).sn, h2.same s2, by omega, fun j hj => bg i j hc1 hj, by_, by decide, by decide, by decide, fun H' s => hA _ _ s rfl⟩⟩
  · have hD2 : H3 D = some (.lst ((vec n fun i => S n fun j => g i j * y j).map V.int)) := by rw [hl1, rs.ints]; rfl
    refine ⟨_, _, n, 8000, 16004, x, _, rfl, h1.same s3, .lst hD2 (FzAll.of_ints _).sn, by omega, bx, fun i hi => ?_, by decide, by decide, by decide, fun H4 s4 => ?_⟩
    · exact BS (k := 16000) (c := 4) (fun j hj => B.mul (m := 8000) (n := 8000) (bg i j hi hj) (by_ j hj)) hn
    · refine ⟨_, rfl, p, cF, dx, _, _, rfl, s4 _ _ (s3 _ _ hi), O.clF, O.F_bottom, lkFb _ _ _, _, _, rfl, hb, hB, fun r H5 s5 hr => q r H5 (s3.trans (s4.trans s5)) hr⟩
end
end P03
namespace P03
open PySem PySem.Spec PyProof.Rows L2 SX EX WK
section
variable {P : Program} {w : World} {K : PySem.W.Frag} {mg : Str → Option Value} {base : Heap} {f : Addr} {fd : FuncData} {cF cR : Addr}
def spCall (K : PySem.W.Frag) (cF : Addr) : Sp := fun vs H Q _ => ∃ (p : Addr) (v1 : V) (n : Nat) (g : Nat → Nat → Int) (b : Int) (x : Nat → Int), vs = [.ref p, v1] ∧ FormAt K H cF p n (mat n g) b ∧ Sn K H v1 (tv n x) ∧ n ≤ 16 ∧ 0 < b ∧ B 9000 b ∧
  (∀ i, i < n → B 8000 (x i)) ∧ (∀ i j, i < n → j < n → B 8000 (g i j)) ∧ ∀ r H', Same H H' → FrAt H' r (bil n g x x / gI (bil n g x x) b) (b / gI (bil n g x x) b) → Q (.ref r) H'
abbrev s_mcall : Stmt := mth 27 6
abbrev N_mcall : List Str := ["self", "point"]
theorem sc_mcall : FnScope N_mcall ["self", "point"] (defScope s_mcall) := ⟨rfl, rfl, rfl, by decide +kernel, rfl, by decide +kernel, by decide +kernel⟩
theorem ok_mcall (F : Fun K "__call__" "Form.__call__" s_mcall f fd) (T : Txt mg) (O : Obs K cF cR) (C_mbetween : CalM P w K mg base 2 cF "between" ["self", "one", "two"] (spBetw K cF)) : FnOk P w K mg base CX0 3 f fd ["self", "point"] (spCall K cF) := by
  refine F.ok sc_mcall (fun vs H Q E h => ?_) (fun cdv A outer s H vs Q E hr h => ?_)
  · obtain ⟨p, v1, n, g, b, x, rfl, _⟩ := h
    rfl
  obtain ⟨p, v1, n, g, b, x, rfl, hp, h1, hn, hb, hB, bx, bg, q⟩ := h
  refine ⟨_, (pss_one (ps_ret (pe_calM O.clF C_mbetween (hr.mono (by omega)) (pv 0) (pa_cons (pv 1) (pa_cons (pv 1) pa_nil))))), ?_⟩
  obtain ⟨dx, e, hi, hz⟩ := id hp
  exact ⟨_, rfl, p, dx, _, rfl, hi, lkFx _ _ _ (by decide +kernel) (by decide +kernel) (by decide +kernel), _, rfl, _, rfl, p, v1, v1, n, g, b, x, x, rfl, hp, h1, h1, hn, hb, hB, bx, bx, bg, q⟩
end
end P03
namespace P03
open PySem PySem.Spec PyProof.Rows L2 SX EX WK
/-! ### the steps of the greatest common divisor -/
/-- behind i steps from (a0, b0): (a, b) -/
def Eu (a0 b0 : Nat) (i a b : Nat) : Prop := Nat.gcd a b = Nat.gcd a0 b0 ∧ ((i = 0 ∧ a = a0 ∧ b = b0) ∨ (1 ≤ i ∧ b < a ∧ a * b * 2 ^ (i - 1) ≤ 2 ^ 13000))
theorem eu_start {a0 b0 : Nat} : Eu a0 b0 0 a0 b0 := ⟨rfl, .inl ⟨rfl, rfl, rfl⟩⟩
theorem eu_step {a0 b0 i a b : Nat} (hb0 : b0 < 2 ^ 6500) (h : Eu a0 b0 i a b) (hb : b ≠ 0) : Eu a0 b0 (i + 1) b (a % b) := by
  obtain ⟨g, h⟩ := h
  have hlt : a % b < b := Nat.mod_lt _ (by omega)
  refine ⟨by rw [← g, Nat.gcd_comm b, ← Nat.gcd_rec b a, Nat.gcd_comm], .inr ⟨by omega, hlt, ?_⟩⟩
  rw [show i + 1 - 1 = i by omega]
  rcases h with ⟨rfl, rfl, rfl⟩ | ⟨hi, hab, hm⟩
  · have h1 : b * (a % b) ≤ b * b := Nat.mul_le_mul_left b (by omega)
    have h2 : b * b ≤ 2 ^ 6500 * 2 ^ 6500 := Nat.mul_le_mul (by omega) (by omega)
    rw [← Nat.pow_add] at h2
    rw [Nat.pow_zero, Nat.mul_one]
    exact Nat.le_trans h1 h2
  · have h1 : 2 * (a % b) ≤ a := by
      have e := Nat.div_add_mod a b
      have q : 1 ≤ a / b := Nat.div_pos (by omega) (by omega)
      have := Nat.mul_le_mul_left b q
      omega
    have h2 : b * (a % b) * 2 ≤ a * b := by
      rw [Nat.mul_assoc, Nat.mul_comm a b, Nat.mul_comm (a % b) 2]
      exact Nat.mul_le_mul_left b h1
    have e : 2 ^ i = 2 * 2 ^ (i - 1) := by
      rw [← Nat.pow_succ', Nat.succ_eq_add_one, show i - 1 + 1 = i by omega]
    rw [e, ← Nat.mul_assoc]
    exact Nat.le_trans (Nat.mul_le_mul_right _ h2) hm
theorem eu_end {a0 b0 a b : Nat} (h : Eu a0 b0 100000 a b) : b = 0 := by
  obtain ⟨_, h⟩ := h
  rcases h with ⟨h, _⟩ | ⟨_, hab, hm⟩
  · exact absurd h (by decide)
  · rcases Nat.eq_zero_or_pos b with h | h
    · exact h
    · exfalso
      have h1 : 1 ≤ a * b := Nat.mul_pos (by omega) h
      have h2 : 2 ^ (100000 - 1) ≤ a * b * 2 ^ (100000 - 1) := Nat.le_mul_of_pos_left _ h1
      have h3 : (2 : Nat) ^ 13000 < 2 ^ (100000 - 1) := Nat.pow_lt_pow_right (by decide) (by decide)
      omega
theorem eu_gcd {a0 b0 i a : Nat} (h : Eu a0 b0 i a 0) : a = Nat.gcd a0 b0 := by
  rw [← h.1, Nat.gcd_zero_right]
theorem gI_leb {t b : Int} (hb : 0 < b) : gI t b ≤ b := by
  have : Nat.gcd t.natAbs b.natAbs ≤ b.natAbs := Nat.le_of_dvd (by omega) (Nat.gcd_dvd_right _ _)
  unfold gI
  omega
theorem seq_asg {te : TE} {i : Nat} {u : TS} {D : Ends} {σ : L2.St} {H : Hp} (h : te σ H fun x H1 => u D (σ.set i (some x)) H1) : tSeq (tAsg te (gName i)) u D σ H := h
theorem kit1 {K : PySem.W.Frag} : PySem.W.kitOne K (.type "int") (.type "int") = some true := kit_ty (by decide +kernel)
theorem kit2 {K : PySem.W.Frag} : PySem.W.kitOne K (.type "int") (.type "bool") = some false := kit_ty (by decide +kernel)
theorem kit6 {K : PySem.W.Frag} : PySem.W.kitOne K (.type "tuple") (.type "tuple") = some true := kit_ty (by decide +kernel)
/-! ### _law_cell: some int -/
def spCell (K : PySem.W.Frag) : Sp := fun vs H Q _ => ∃ (a : Addr) (ns : List Int) (k : Int), vs = [.ref a, .int k] ∧ SqL K H a (ns.map V.int) ∧ 0 ≤ k ∧ k ≤ 1000 ∧ ∀ i : Int, Q (.int i) H
abbrev s__law_cell : Stmt := top 35
abbrev N__law_cell : List Str := ["script", "k", "seed", "cell"]
theorem sc__law_cell : FnScope N__law_cell ["script", "k"] (defScope s__law_cell) := ⟨rfl, rfl, rfl, by decide +kernel, rfl, by decide +kernel, by decide +kernel⟩
/-- digits: each is below its size -/
abbrev Dig (ns zs : List Int) : Prop := Paired (fun n z => 0 ≤ n ∧ n < z) ns zs
theorem Dig.snoc : ∀ {ns zs : List Int} {n z : Int}, Dig ns zs → 0 ≤ n → n < z → Dig (ns ++ [n]) (zs ++ [z])
  | _, _, _, _, .nil, h1, h2 => .cons ⟨h1, h2⟩ .nil
  | _, _, _, _, .cons r t, h1, h2 => .cons r (Dig.snoc t h1 h2)
theorem Dig.get : ∀ {ns zs : List Int} {i : Nat} {z : Int}, Dig ns zs → zs[i]? = some z → ∃ n, ns[i]? = some n ∧ 0 ≤ n ∧ n < z
  | _, _, _, _, .nil, e => by simp at e
  | _, _, 0, _, .cons r _, e => by cases e; exact ⟨_, rfl, r.1, r.2⟩
  | _, _, i + 1, z, .cons _ t, e => by
    obtain ⟨n, h1, h2⟩ := Dig.get (i := i) (z := z) t (by simpa using e)
    exact ⟨n, by simpa using h1, h2⟩
theorem Dig.len {ns zs : List Int} (d : Dig ns zs) : ns.length = zs.length := Paired.length d
theorem take_snoc {α : Type} {l : List α} {i : Nat} {x : α} (h : l[i]? = some x) : l.take (i + 1) = l.take i ++ [x] := by
  rw [List.take_add_one, h]
  rfl
theorem map_int {ns : List Int} {i : Nat} {x : V} (h : (ns.map V.int)[i]? = some x) : ∃ z, ns[i]? = some z ∧ x = .int z := by
  rw [List.getElem?_map] at h
  cases e : ns[i]? with
  | none => rw [e] at h; cases h
  | some z => rw [e] at h; exact ⟨z, rfl, (Option.some.inj h).symm⟩
theorem int_at {ns : List Int} {i : Nat} {z : Int} (h : ns[i]? = some z) : (ns.map V.int)[i]? = some (.int z) := by
  rw [List.getElem?_map, h]
  rfl
theorem snoc_int (ns : List Int) (n : Int) : ns.map V.int ++ [V.int n] = (ns ++ [n]).map V.int := by
  rw [List.map_append]
  rfl
/-! ### _law_digits: one digit for each size -/
def spDigits (K : PySem.W.Frag) : Sp := fun vs H Q _ => ∃ (c : Int) (a : Addr) (zs : List Int), vs = [.int c, .ref a] ∧ SqL K H a (zs.map V.int) ∧ zs.length ≤ 1000 ∧ (∀ z ∈ zs, 0 < z ∧ z.natAbs < 2 ^ 2000) ∧
  ∀ p ns, H p = none → Dig ns zs → Q (.ref p) (upd H p (.lst (ns.map V.int)))
abbrev s__law_digits : Stmt := top 36
abbrev N__law_digits : List Str := ["cell", "sizes", "row", "rest", "size", "seed", "k", "twice"]
theorem sc__law_digits : FnScope N__law_digits ["cell", "sizes"] (defScope s__law_digits) := ⟨rfl, rfl, rfl, by decide +kernel, rfl, by decide +kernel, by decide +kernel⟩
section
variable {P : Program} {w : World} {K : PySem.W.Frag} {mg : Str → Option Value} {base : Heap} {f : Addr} {fd : FuncData}
theorem ok__law_cell (F : Fun K "_law_cell" "_law_cell" s__law_cell f fd) (T : Txt mg) : FnOk P w K mg base CX0 1 f fd ["script", "k"] (spCell K) := by
  refine F.ok sc__law_cell (fun vs H Q E h => ?_) (fun cdv A outer s H vs Q E hr h => ?_)
  · obtain ⟨a, ns, k, rfl, _⟩ := h
    rfl
  obtain ⟨a, ns, k, rfl, hs, h0, h1, q⟩ := h
  refine ⟨_, (pss_cons (ps_if (pt_cmpR op_lt (pv 1) (pe_callB call_len_seq (by rfl) T.b_len PySem.boot_len (pa_cons (pv 0) pa_nil)) (nomark _)) (pss_one (ps_ret (pe_ix ix_list (pv 0) (pv 1) (fun _ _ => rfl)))) pss_nil)
  (pss_cons (ps_set (i := 2) sc__law_cell.nd rfl (Or.inl rfl) pe_int)
  (pss_cons (ps_for PassesOwn.never rfl (pi_list (pv 0)) (pg_name (i := 3) sc__law_cell.nd rfl (Or.inl rfl)) (pss_one (ps_set (i := 2) sc__law_cell.nd rfl (Or.inl rfl) (pe_op op_mod (pe_callTy call_int1 (by rfl) T.b_int (by decide +kernel) (pa_cons (pe_op op_add (pe_op op_mul (pv 2) pe_int) (pe_op op_mod (pe_callTy call_int1 (by rfl) T.b_int (by decide +kernel) (pa_cons (pv 3) pa_nil)) pe_int)) pa_nil)) pe_int))))
  (pss_one (ps_ret (pe_op op_mod (pe_callTy call_int1 (by rfl) T.b_int (by decide +kernel) (pa_cons (pe_op op_mul (pe_op op_mul (pe_op op_add (pv 2) pe_int) (pe_op op_add (pv 1) pe_int)) pe_int) pa_nil)) pe_int)))))), ?_⟩
  refine ⟨_, rfl, _, rfl, a, _, rfl, .inl hs, _, _, rfl, rfl, _, rfl, ?_⟩
  refine ite2 (fun c => ?_) (fun c => ?_)
  · have c' : k < (((ns.map V.int).length : Nat) : Int) := of_decide_eq_true c
    rw [List.length_map] at c'
    obtain ⟨z, hz⟩ : ∃ z, ns[k.toNat]? = some z := ⟨ns[k.toNat]'(by omega), List.getElem?_eq_getElem (by omega)⟩
    exact ⟨_, rfl, _, rfl, a, _, k, _, rfl, rfl, hs, at_pos h0 (int_at hz), q z⟩
  · refine ⟨_, rfl, a, rfl, ⟨_, hs⟩, for_list (K := K) (a := a) (xs := ns.map V.int) (fun i σ H' => ∃ (z : Int) (v : Option V), σ = [some (.ref a), some (.int k), some (.int z), v] ∧ H' = H)
      ⟨17, none, rfl, rfl⟩ (fun i σ H' _ ⟨_, _, _, e⟩ => by rw [e]; exact hs) ?_ ?_⟩
    · rintro i y σ H' hi ⟨z, v, rfl, rfl⟩
      obtain ⟨x, hx, rfl⟩ := map_int hi
      refine ⟨_, rfl, _, _, rfl, rfl, .inr (by decide), _, rfl, .inl ⟨_, rfl, _, _, rfl, rfl, (by show (0 : Int) < 1000003; decide), _, _, rfl, rfl, .inl ⟨_, rfl, _, _, rfl, rfl, (by show (0 : Int) < 1000003; decide), ?_⟩⟩⟩
      exact ⟨_, _, rfl, rfl⟩
    · rintro σ H' ⟨z, v, rfl, rfl⟩
      refine ⟨_, rfl, _, _, rfl, rfl, _, rfl, _, _, rfl, rfl, _, _, rfl, rfl, .inr (by omega), _, _, rfl, rfl, .inr (by decide), .inl ⟨_, rfl, _, _, rfl, rfl, (by show (0 : Int) < 2147483647; decide), ?_⟩⟩
      exact q _
theorem ok__law_digits (F : Fun K "_law_digits" "_law_digits" s__law_digits f fd) (T : Txt mg) : FnOk P w K mg base CX0 1 f fd ["cell", "sizes"] (spDigits K) := by
  refine F.ok sc__law_digits (fun vs H Q E h => ?_) (fun cdv A outer s H vs Q E hr h => ?_)
  · obtain ⟨c, a, zs, rfl, _⟩ := h
    rfl
  obtain ⟨c, a, zs, rfl, hs, hz9, hz, q⟩ := h
  refine ⟨_, (pss_cons (ps_set (i := 2) sc__law_digits.nd rfl (Or.inl rfl) (pe_lst pa_nil))
  (pss_cons (ps_set (i := 3) sc__law_digits.nd rfl (Or.inl rfl) (pe_callTy call_int1 (by rfl) T.b_int (by decide +kernel) (pa_cons (pv 0) pa_nil)))
  (pss_cons (ps_if (pt_cmpR op_ge (pv 3) (pe_op op_pow pe_int pe_int) (nomark _)) (pss_cons (ps_set (i := 3) sc__law_digits.nd rfl (Or.inl rfl) (pe_op op_sub (pv 3) (pe_op op_pow pe_int pe_int)))
  (pss_cons (ps_for PassesOwn.never rfl (pi_list (pv 1)) (pg_name (i := 4) sc__law_digits.nd rfl (Or.inl rfl)) (pss_cons (ps_expr (pe_bm PySem.F.plainAttrs_list PySem.F.slot_list_append PySem.F.type_list_append mt_append (pv 2) (pa_cons (pe_op op_mod (pe_callTy call_int1 (by rfl) T.b_int (by decide +kernel) (pa_cons (pv 3) pa_nil)) (pv 4)) pa_nil)))
  (pss_one (ps_set (i := 3) sc__law_digits.nd rfl (Or.inl rfl) (pe_op op_fdivW (pe_callTy call_int1 (by rfl) T.b_int (by decide +kernel) (pa_cons (pv 3) pa_nil)) (pv 4))))))
  (pss_one (ps_ret (pv 2))))) pss_nil)
  (pss_cons (ps_set (i := 5) sc__law_digits.nd rfl (Or.inl rfl) (pe_op op_mod (pe_callTy call_int1 (by rfl) T.b_int (by decide +kernel) (pa_cons (pv 3) pa_nil)) pe_int))
  (pss_cons (ps_for PassesOwn.never rfl (pi_range1 (by rfl) T.b_range (pa_cons (pe_callB call_len_seq (by rfl) T.b_len PySem.boot_len (pa_cons (pv 1) pa_nil)) pa_nil)) (pg_name (i := 6) sc__law_digits.nd rfl (Or.inl rfl)) (pss_cons (ps_set (i := 5) sc__law_digits.nd rfl (Or.inl rfl) (pe_op op_mod (pe_callTy call_int1 (by rfl) T.b_int (by decide +kernel) (pa_cons (pe_op op_add (pe_op op_add (pe_op op_mul (pv 5) pe_int) (pe_op op_mul pe_int (pv 6))) pe_int) pa_nil)) pe_int))
  (pss_cons (ps_set (i := 7) sc__law_digits.nd rfl (Or.inl rfl) (pe_op op_mod (pe_callTy call_int1 (by rfl) T.b_int (by decide +kernel) (pa_cons (pe_op op_mul (pv 5) (pe_op op_add (pe_op op_fdiv (pv 5) pe_int) pe_int)) pa_nil)) pe_int))
  (pss_one (ps_expr (pe_bm PySem.F.plainAttrs_list PySem.F.slot_list_append PySem.F.type_list_append mt_append (pv 2) (pa_cons (pe_op op_mod (pe_op op_fdiv (pv 7) pe_int) (pe_ix ix_list (pv 1) (pv 6) (fun _ _ => rfl))) pa_nil)))))))
  (pss_one (ps_ret (pv 2)))))))), ?_⟩
  have keep : ∀ {p : Addr} {o : HO}, H p = none → SqL K (upd H p o) a (zs.map V.int) := fun hp => (same_new hp _).seq hs
  refine ⟨(by show 0 ≤ sizeLine; exact Nat.zero_le _), fun p hp => ?_⟩
  refine ⟨_, rfl, .inl ⟨_, rfl, ?_⟩⟩
  refine ⟨_, rfl, _, _, rfl, rfl, ⟨by decide, by decide, by decide⟩, _, _, rfl, rfl, _, rfl, ?_⟩
  refine ite2 (fun _ => ?_) (fun _ => ?_)
  · refine ⟨_, rfl, _, _, rfl, rfl, ⟨by decide, by decide, by decide⟩, _, _, rfl, rfl, ?_⟩
    refine ⟨_, rfl, a, rfl, ⟨_, keep hp⟩, for_list (K := K) (a := a) (xs := zs.map V.int) (fun i σ H' => ∃ (z : Int) (v : Option V) (ns : List Int), σ = [some (.int c), some (.ref a), some (.ref p), some (.int z), v, none, none, none] ∧ H' = upd H p (.lst (ns.map V.int)) ∧ Dig ns (zs.take i))
      ⟨_, none, [], rfl, rfl, .nil⟩ (fun i σ H' _ ⟨_, _, _, _, e, _⟩ => by rw [e]; exact keep hp) ?_ ?_⟩
    · rintro i y σ H' hi ⟨z, v, ns, rfl, rfl, hd⟩
      obtain ⟨x, hx, rfl⟩ := map_int hi
      have hx2 := hz x (List.mem_of_getElem? hx)
      have hlen : ns.length ≤ 1000 := by
        have := hd.len
        rw [List.length_take] at this
        omega
      refine ⟨_, rfl, .inl ⟨rfl, _, SqL.of upd_same⟩, _, rfl, .inl ⟨_, rfl, _, rfl, _, _, rfl, rfl, hx2.1, p, _, _, rfl, rfl, upd_same, by rw [List.length_map]; exact small1000 hlen, ?_⟩⟩
      refine ⟨_, rfl, .inl ⟨_, rfl, _, rfl, _, _, rfl, rfl, wide_div hx2.1 hx2.2 (by decide) (by decide), ?_⟩⟩
      exact ⟨_, _, ns ++ [z % x], rfl, by rw [upd_upd, snoc_int], by rw [take_snoc hx]; exact hd.snoc (Int.emod_nonneg _ (by omega)) (Int.emod_lt_of_pos _ hx2.1)⟩
    · rintro σ H' ⟨z, v, ns, rfl, rfl, hd⟩
      rw [List.length_map, List.take_length] at hd
      exact ⟨_, rfl, q p ns hp hd⟩
  · refine ⟨_, rfl, .inl ⟨_, rfl, _, _, rfl, rfl, (by show (0 : Int) < 2147483629; decide), ?_⟩⟩
    refine ⟨_, rfl, a, _, rfl, .inl (keep hp), _, rfl, by rw [List.length_map]; omega, by rw [List.length_map]; omega, for_range (lo := 0) (n := (((zs.map V.int).length : Nat) : Int).toNat)
      (fun i σ H' => ∃ (sd : Int) (v6 v7 : Option V) (r : Int) (ns : List Int), σ = [some (.int c), some (.ref a), some (.ref p), some (.int r), none, some (.int sd), v6, v7] ∧ 0 ≤ sd ∧ sd < 2147483648 ∧ H' = upd H p (.lst (ns.map V.int)) ∧ Dig ns (zs.take i))
      ⟨_, none, none, _, [], rfl, Int.emod_nonneg _ (by decide), Int.lt_trans (Int.emod_lt_of_pos _ (by decide)) (by decide), rfl, .nil⟩ ?_ ?_⟩
    · rintro i σ H' hi ⟨sd, v6, v7, r, ns, rfl, hs0, hs1, rfl, hd⟩
      rw [Int.toNat_natCast, List.length_map] at hi
      obtain ⟨x, hx⟩ : ∃ x, zs[i]? = some x := ⟨zs[i], List.getElem?_eq_getElem hi⟩
      have hx2 := hz x (List.mem_of_getElem? hx)
      have hlen : ns.length ≤ 1000 := by
        have := hd.len
        rw [List.length_take] at this
        omega
      refine ⟨_, rfl, _, _, rfl, rfl, .inr (by decide), _, rfl, _, _, rfl, rfl, .inl (by decide), _, _, rfl, rfl, _, _, rfl, rfl, .inl ⟨_, rfl, _, _, rfl, rfl, (by show (0 : Int) < 2147483647; decide), ?_⟩⟩
      have b0 : 0 ≤ (sd * 48271 + 974711 * (0 + (i : Int)) + 12345) % 2147483647 := Int.emod_nonneg _ (by decide)
      have b1 : (sd * 48271 + 974711 * (0 + (i : Int)) + 12345) % 2147483647 < 2147483648 := Int.lt_trans (Int.emod_lt_of_pos _ (by decide)) (by decide)
      refine ⟨_, rfl, _, rfl, _, _, rfl, rfl, ⟨by decide, by decide⟩, _, _, rfl, rfl, _, _, rfl, rfl, .inl ⟨Int.lt_of_lt_of_le (by decide) b0, Int.lt_trans b1 (by decide)⟩, .inl ⟨_, rfl, _, _, rfl, rfl, (by show (0 : Int) < 2147483629; decide), ?_⟩⟩
      refine ⟨_, rfl, .inl ⟨rfl, _, SqL.of upd_same⟩, _, rfl, _, _, rfl, rfl, ⟨by decide, by decide⟩, _, rfl, _, rfl, a, _, _, _, rfl, rfl, keep hp, at_pos (by omega) (int_at (by rw [show ((0 : Int) + (i : Nat)).toNat = i by omega]; exact hx)), _, _, rfl, rfl, hx2.1, p, _, _, rfl, rfl, upd_same, by rw [List.length_map]; exact small1000 hlen, ?_⟩
      exact ⟨_, _, _, r, _, rfl, b0, b1, by rw [upd_upd, snoc_int], by rw [take_snoc hx]; exact hd.snoc (Int.emod_nonneg _ (by omega)) (Int.emod_lt_of_pos _ hx2.1)⟩
    · rintro σ H' ⟨sd, v6, v7, r, ns, rfl, hs0, hs1, rfl, hd⟩
      rw [Int.toNat_natCast, List.length_map, List.take_length] at hd
      exact ⟨_, rfl, q p ns hp hd⟩
end
section
variable {P : Program} {w : World} {K : PySem.W.Frag} {mg : Str → Option Value} {base : Heap} {f : Addr} {fd : FuncData}
def spLaw_whole : Sp := fun vs H Q _ => ∃ i : Int, vs = [.int i] ∧ Q (.bl true) H
abbrev s__law_whole : Stmt := top 34
abbrev N__law_whole : List Str := ["value"]
theorem sc__law_whole : FnScope N__law_whole ["value"] (defScope s__law_whole) := ⟨rfl, rfl, rfl, by decide +kernel, rfl, by decide +kernel, by decide +kernel⟩
theorem ok__law_whole (F : Fun K "_law_whole" "_law_whole" s__law_whole f fd) (T : Txt mg) : FnOk P w K mg base CX0 1 f fd ["value"] spLaw_whole := by
  refine F.ok sc__law_whole (fun vs H Q E h => ?_) (fun cdv A outer s H vs Q E hr h => ?_)
  · obtain ⟨i, rfl, _⟩ := h
    rfl
  obtain ⟨i, rfl, q⟩ := h
  refine ⟨_, (pss_one (ps_ret (pe_and (pe_callB call_isi (by rfl) T.b_isinstance (by decide +kernel) (pa_cons (pv 0) (pa_cons (pe_bltn (v := .ty "int") (by rfl) T.b_int (by decide +kernel) rfl) pa_nil))) (pe_one (pe_not (pe_callB call_isi (by rfl) T.b_isinstance (by decide +kernel) (pa_cons (pv 0) (pa_cons (pe_bltn (v := .ty "bool") (by rfl) T.b_bool (by decide +kernel) rfl) pa_nil)))))))), ?_⟩
  refine ⟨_, rfl, _, _, _, _, true, rfl, .ty _, .base (.int i), kit1, true, rfl, ifT rfl ?_⟩
  exact ⟨_, rfl, _, _, _, _, false, rfl, .ty _, .base (.int i), kit2, false, rfl, q⟩
theorem okH__law_whole (F : Fun K "_law_whole" "_law_whole" s__law_whole f fd) (T : Txt mg) : L2H.FnH P w K mg base CX0 1 f fd ["value"] spLaw_whole := by
  refine okH F sc__law_whole (fun vs H Q E h => ?_) (fun cdv A outer s H vs Q E p hr hot h => ?_)
  · obtain ⟨i, rfl, _⟩ := h
    rfl
  obtain ⟨i, rfl, q⟩ := h
  refine ⟨_, (pss_one (ps_ret (pe_and (pe_callB call_isi (by rfl) T.b_isinstance (by decide +kernel) (pa_cons (pv 0) (pa_cons (pe_bltn (v := .ty "int") (by rfl) T.b_int (by decide +kernel) rfl) pa_nil))) (pe_one (pe_not (pe_callB call_isi (by rfl) T.b_isinstance (by decide +kernel) (pa_cons (pv 0) (pa_cons (pe_bltn (v := .ty "bool") (by rfl) T.b_bool (by decide +kernel) rfl) pa_nil)))))))), ?_⟩
  refine ⟨_, rfl, _, _, _, _, true, rfl, .ty _, .base (.int i), kit1, true, rfl, ifT rfl ?_⟩
  exact ⟨_, rfl, _, _, _, _, false, rfl, .ty _, .base (.int i), kit2, false, rfl, q⟩
def spGcd : Sp := fun vs H Q _ => ∃ a b : Int, vs = [.int a, .int b] ∧ B 6500 b ∧ Q (.int (gI a b)) H
abbrev s__law_gcd : Stmt := top 37
abbrev N__law_gcd : List Str := ["one", "two", "turn", "rest"]
theorem sc__law_gcd : FnScope N__law_gcd ["one", "two"] (defScope s__law_gcd) := ⟨rfl, rfl, rfl, by decide +kernel, rfl, by decide +kernel, by decide +kernel⟩
theorem abs_nat (a : Int) : (if a < 0 then -a else a) = ((a.natAbs : Nat) : Int) := by
  split <;> omega
theorem ok__law_gcd (F : Fun K "_law_gcd" "_law_gcd" s__law_gcd f fd) (T : Txt mg) : FnOk P w K mg base CX0 1 f fd ["one", "two"] spGcd := by
  refine F.ok sc__law_gcd (fun vs H Q E h => ?_) (fun cdv A outer s H vs Q E hr h => ?_)
  · obtain ⟨a, b, rfl, _⟩ := h
    rfl
  obtain ⟨a, b, rfl, hB, q⟩ := h
  refine ⟨_, (pss_cons (ps_set (i := 0) sc__law_gcd.nd rfl (Or.inl rfl) (pe_callB call_abs (by rfl) T.b_abs (by decide +kernel) (pa_cons (pv 0) pa_nil)))
  (pss_cons (ps_set (i := 1) sc__law_gcd.nd rfl (Or.inl rfl) (pe_callB call_abs (by rfl) T.b_abs (by decide +kernel) (pa_cons (pv 1) pa_nil)))
  (pss_cons (ps_for PassesOwn.never rfl (pi_range1 (by rfl) T.b_range (pa_cons pe_int pa_nil)) (pg_name (i := 2) sc__law_gcd.nd rfl (Or.inl rfl)) (pss_cons (ps_if (pt_cmpR op_eq (pv 1) pe_int (nomark _)) (pss_one ps_break) pss_nil)
  (pss_cons (ps_set (i := 3) sc__law_gcd.nd rfl (Or.inl rfl) (pe_op op_mod (pe_callTy call_int1 (by rfl) T.b_int (by decide +kernel) (pa_cons (pv 0) pa_nil)) (pv 1)))
  (pss_cons (ps_set (i := 0) sc__law_gcd.nd rfl (Or.inl rfl) (pv 1))
  (pss_one (ps_set (i := 1) sc__law_gcd.nd rfl (Or.inl rfl) (pv 3)))))))
  (pss_one (ps_ret (pv 0)))))), ?_⟩
  refine seq_asg ⟨_, rfl, _, rfl, ?_⟩
  rw [abs_nat a]
  refine seq_asg ⟨_, rfl, _, rfl, ?_⟩
  rw [abs_nat b]
  refine ⟨100000, rfl, by decide, by decide, for_range (lo := 0) (n := (100000 : Int).toNat) (fun i σ H' => ∃ (x y : Nat) (v2 v3 : Option V), σ = [some (.int (x : Nat)), some (.int (y : Nat)), v2, v3] ∧ H' = H ∧ Eu a.natAbs b.natAbs i x y) ⟨a.natAbs, b.natAbs, none, none, rfl, rfl, eu_start⟩ ?_ ?_⟩
  · rintro i σ H' hi ⟨x, y, v2, v3, rfl, rfl, e⟩
    refine ⟨_, rfl, rfl, _, rfl, ?_⟩
    refine ite2 (fun c => ?_) (fun c => ?_)
    · have hy : y = 0 := by
        have := V.int.inj (of_decide_eq_true c)
        omega
      subst hy
      refine ⟨_, rfl, ?_⟩
      rw [eu_gcd e]
      exact q
    · have hy : y ≠ 0 := fun z => c (by subst z; exact decide_eq_true rfl)
      refine ⟨_, rfl, .inl ⟨_, rfl, _, rfl, _, _, rfl, rfl, by omega, ?_⟩⟩
      refine ⟨_, rfl, _, rfl, ?_⟩
      exact ⟨y, x % y, _, _, rfl, rfl, eu_step hB e hy⟩
  · rintro σ H' ⟨x, y, v2, v3, rfl, rfl, e⟩
    have hy := eu_end e
    subst hy
    refine ⟨_, rfl, ?_⟩
    rw [eu_gcd e]
    exact q
/-! ### _law_is_fraction -/
def spFrac : Sp := fun vs H Q _ => ∃ (p : Addr) (t b : Int), vs = [.ref p] ∧ FrAt H p t b ∧ 1 ≤ b ∧ B 6500 b ∧ gI t b = 1 ∧ Q (.bl true) H
abbrev s__law_is_fraction : Stmt := top 40
abbrev N__law_is_fraction : List Str := ["value"]
theorem sc__law_is_fraction : FnScope N__law_is_fraction ["value"] (defScope s__law_is_fraction) := ⟨rfl, rfl, rfl, by decide +kernel, rfl, by decide +kernel, by decide +kernel⟩
theorem ok__law_is_fraction (F : Fun K "_law_is_fraction" "_law_is_fraction" s__law_is_fraction f fd) (T : Txt mg) (C__law_whole : Cal P w K mg base 1 "_law_whole" ["value"] spLaw_whole) (C__law_gcd : Cal P w K mg base 1 "_law_gcd" ["one", "two"] spGcd) : FnOk P w K mg base CX0 2 f fd ["value"] spFrac := by
  refine F.ok sc__law_is_fraction (fun vs H Q E h => ?_) (fun cdv A outer s H vs Q E hr h => ?_)
  · obtain ⟨p, t, b, rfl, _⟩ := h
    rfl
  obtain ⟨p, t, b, rfl, hp, hb, hB, hg, q⟩ := h
  refine ⟨_, (pss_cons (ps_if (PW.pt (pw_or (pt_not (pt_val (pe_callB call_isi (by rfl) T.b_isinstance (by decide +kernel) (pa_cons (pv 0) (pa_cons (pe_bltn (v := .ty "tuple") (by rfl) T.b_tuple (by decide +kernel) rfl) pa_nil))))) (pw_or (pt_cmpR op_ne (pe_callB call_len_seq (by rfl) T.b_len PySem.boot_len (pa_cons (pv 0) pa_nil)) pe_int (nomark _)) (pw_or (pt_not (pt_val (pe_cal C__law_whole (hr.mono (by omega)) rfl (pa_cons (pe_ix ix_tup (pv 0) pe_int (fun _ _ => rfl)) pa_nil)))) (pw_or1 (pt_not (pt_val (pe_cal C__law_whole (hr.mono (by omega)) rfl (pa_cons (pe_ix ix_tup (pv 0) pe_int (fun _ _ => rfl)) pa_nil))))))))) (pss_one (ps_ret pe_bl)) pss_nil)
  (pss_one (ps_ret (pe_and (pe_cmpR op_ge (pe_ix ix_tup (pv 0) pe_int (fun _ _ => rfl)) pe_int (nomark _)) (pe_one (pe_cmpR op_eq (pe_cal C__law_gcd (hr.mono (by omega)) rfl (pa_cons (pe_ix ix_tup (pv 0) pe_int (fun _ _ => rfl)) (pa_cons (pe_ix ix_tup (pv 0) pe_int (fun _ _ => rfl)) pa_nil))) pe_int (nomark _))))))), ?_⟩
  refine ⟨_, rfl, _, _, _, _, true, rfl, .ty _, .base (.tup hp), kit6, true, rfl, ifF rfl ?_⟩
  refine ⟨_, rfl, p, _, rfl, .inr (SqT.of hp), rfl, _, rfl, ifF (by simp) ?_⟩
  refine ⟨_, rfl, p, _, 0, _, rfl, rfl, SqT.of hp, at_pos (by decide) rfl, t, rfl, true, rfl, ifF rfl ?_⟩
  refine ⟨_, rfl, p, _, 1, _, rfl, rfl, SqT.of hp, at_pos (by decide) rfl, b, rfl, true, rfl, ifF rfl ?_⟩
  refine ⟨_, rfl, p, _, 1, _, rfl, rfl, SqT.of hp, at_pos (by decide) rfl, _, _, rfl, rfl, _, rfl, ifT (decide_eq_true hb) ?_⟩
  refine ⟨_, rfl, p, _, 0, _, rfl, rfl, SqT.of hp, at_pos (by decide) rfl, _, rfl, p, _, 1, _, rfl, rfl, SqT.of hp, at_pos (by decide) rfl, t, b, rfl, hB, rfl, ?_⟩
  rw [hg]
  exact q
end
end P03
namespace P03
open PySem PySem.Spec PyProof.Rows L2 SX EX WK
/-- a list of lists -/
def LTab (H : Hp) (a : Addr) (n : Nat) (f : Nat → Nat → Int) : Prop := ∃ rs : List Addr, H a = some (.lst (rs.map V.ref)) ∧ rs.length = n ∧ ∀ i, i < n → ∃ p, rs[i]? = some p ∧ H p = some (.lst ((vec n (f i)).map V.int))
theorem LTab.same {H H' : Hp} {a : Addr} {n : Nat} {f : Nat → Nat → Int} (e : Same H H') (h : LTab H a n f) : LTab H' a n f := by
  obtain ⟨rs, h1, h2, h3⟩ := h
  refine ⟨rs, e _ _ h1, h2, fun i hi => ?_⟩
  obtain ⟨p, h4, h5⟩ := h3 i hi
  exact ⟨p, h4, e _ _ h5⟩
theorem LTab.at {H : Hp} {a : Addr} {n : Nat} {f : Nat → Nat → Int} (h : LTab H a n f) : ∃ vs : List V, H a = some (.lst vs) ∧ vs.length = n ∧ ∀ i, i < n → ∃ p, vs[i]? = some (.ref p) ∧ H p = some (.lst ((vec n (f i)).map V.int)) := by
  obtain ⟨rs, h1, h2, h3⟩ := h
  refine ⟨_, h1, by rw [List.length_map]; exact h2, fun i hi => ?_⟩
  obtain ⟨p, h4, h5⟩ := h3 i hi
  exact ⟨p, by rw [List.getElem?_map, h4]; rfl, h5⟩
theorem snall_of {K : PySem.W.Frag} {H : Hp} : ∀ {vs : List V} {ts : List Td}, vs.length = ts.length → (∀ (i : Nat) (v : V) (t : Td), vs[i]? = some v → ts[i]? = some t → Sn K H v t) → SnAll K H vs ts
  | [], [], _, _ => .nil
  | [], _ :: _, h, _ => by simp at h
  | _ :: _, [], h, _ => by simp at h
  | v :: vs, t :: ts, h, g => .cons (g 0 v t rfl rfl) (snall_of (by simpa using h) fun i v t a b => g (i + 1) v t a b)
theorem LTab.sn {K : PySem.W.Frag} {H : Hp} {a : Addr} {n : Nat} {f : Nat → Nat → Int} (h : LTab H a n f) : Sn K H (.ref a) (tm n f) := by
  obtain ⟨vs, h1, h2, h3⟩ := h.at
  refine .lst h1 (snall_of (by rw [List.length_map, mat_len]; exact h2) fun i v t hv ht => ?_)
  have hi : i < n := by
    have := (List.getElem?_eq_some_iff.mp hv).1
    omega
  obtain ⟨p, h4, h5⟩ := h3 i hi
  rw [hv] at h4
  cases h4
  rw [List.getElem?_map, mat_at hi] at ht
  cases ht
  exact .lst h5 (FzAll.of_ints _).sn
def adr : V → Addr
  | .ref p => p
  | _ => 0
theorem LTab.of {H : Hp} {D : Addr} {l : List V} {n : Nat} {f : Nat → Nat → Int} (h : H D = some (.lst l)) (r : Rs (RL D) H l ((List.range n).map fun i => vec n (f i))) : LTab H D n f := by
  have hl : l.length = n := by rw [r.1, List.length_map, List.length_range]
  have at_ : ∀ i, i < n → ∃ p, l[i]? = some (.ref p) ∧ H p = some (.lst ((vec n (f i)).map V.int)) := fun i hi => by
    have e := List.getElem?_eq_getElem (l := l) (i := i) (by omega)
    obtain ⟨p, h1, _, h2⟩ := r.2 i _ (vec n (f i)) e (by rw [List.getElem?_map, List.getElem?_range hi]; rfl)
    exact ⟨p, by rw [e, h1], h2⟩
  refine ⟨l.map adr, ?_, by rw [List.length_map]; exact hl, fun i hi => ?_⟩
  · rw [h]
    congr 2
    refine List.ext_getElem? fun i => ?_
    rw [List.getElem?_map, List.getElem?_map]
    by_cases hi : i < n
    · obtain ⟨p, h1, _⟩ := at_ i hi
      rw [h1]
      rfl
    · rw [List.getElem?_eq_none (by omega)]
      rfl
  · obtain ⟨p, h1, h2⟩ := at_ i hi
    exact ⟨p, by rw [List.getElem?_map, h1]; rfl, h2⟩
theorem ix_any {K : PySem.W.Frag} {H : Hp} {k : Bool} {a : Addr} {xs : List V} {z : Int} {v : V} {Q : VK} (h : WZ.Sq k K H a xs) (e : atI xs z = some v) (q : Q v H) : rIxL K (.ref a) (.int z) H Q ∨ rIxT K (.ref a) (.int z) H Q := by
  cases k with
  | true => exact .inl ⟨a, xs, z, v, rfl, rfl, h, e, q⟩
  | false => exact .inr ⟨a, xs, z, v, rfl, rfl, h, e, q⟩
theorem ne_T {a b : Int} (h : a ≠ b) : (!decide (V.int a = V.int b)) = true := by rw [int_ne h]; rfl
theorem ne_F {a b : Int} (h : a = b) : (!decide (V.int a = V.int b)) = false := by rw [int_eq h]; rfl
theorem gI_unit (x : Int) : gI 1 x = 1 := by
  unfold gI
  rw [show (1 : Int).natAbs = 1 from rfl, Nat.gcd_one_left]
  rfl
theorem ixv {n i : Nat} {x : Nat → Int} (hi : i < n) : atI ((vec n x).map V.int) (0 + (i : Int)) = some (.int (x i)) := at_pos (by omega) (by rw [show (0 + (i : Int)).toNat = i by omega]; exact vecV_at hi)
section
variable {P : Program} {w : World} {K : PySem.W.Frag} {mg : Str → Option Value} {base : Heap} {f : Addr} {fd : FuncData} {cF cR : Addr}
def spIsPoint (K : PySem.W.Frag) : Sp := fun vs H Q _ => ∃ (a : Addr) (n : Nat) (x : Nat → Int), vs = [.ref a, .int n] ∧ SqT K H a ((vec n x).map V.int) ∧ n ≤ 1000 ∧ ∀ H', Same H H' → Q (.bl true) H'
abbrev s__law_is_point : Stmt := top 39
abbrev N__law_is_point : List Str := ["value", "size", "number"]
theorem sc__law_is_point : FnScope N__law_is_point ["value", "size"] (defScope s__law_is_point) := ⟨rfl, rfl, rfl, by decide +kernel, rfl, by decide +kernel, by decide +kernel⟩
theorem ok__law_is_point (F : Fun K "_law_is_point" "_law_is_point" s__law_is_point f fd) (T : Txt mg) (C__law_whole : Cal P w K mg base 1 "_law_whole" ["value"] spLaw_whole) : FnOk P w K mg base CX0 2 f fd ["value", "size"] (spIsPoint K) := by
  refine F.ok sc__law_is_point (fun vs H Q E h => ?_) (fun cdv A outer s H vs Q E hr h => ?_)
  · obtain ⟨a, n, x, rfl, _⟩ := h
    rfl
  obtain ⟨a, n, x, rfl, ha, hn, q⟩ := h
  refine ⟨_, (pss_one (ps_ret (pe_and (pe_callB call_isi (by rfl) T.b_isinstance (by decide +kernel) (pa_cons (pv 0) (pa_cons (pe_bltn (v := .ty "tuple") (by rfl) T.b_tuple (by decide +kernel) rfl) pa_nil))) (pe_and (pe_cmpR op_eq (pe_callB call_len_seq (by rfl) T.b_len PySem.boot_len (pa_cons (pv 0) pa_nil)) (pv 1) (nomark _)) (pe_one (pe_callB (cr_all rfl) (by rfl) T.b_all (by decide +kernel) (pa_cons (pe_lc (own := [("number", 2)]) (g := gName 2) (tt := tYes) (by rfl) sc__law_is_point.nd (pi_tup (pv 0)) (blkOk_by (N := N__law_is_point) (sc := defScope s__law_is_point) (by decide +kernel)) (fun _ _ _ _ _ => (pg_name (i := 2) sc__law_is_point.nd rfl (Or.inl rfl))) (fun _ _ _ _ _ => pts_nil) (fun _ _ _ _ _ => (pe_cal C__law_whole (hr.mono (by omega)) rfl (pa_cons (pv 2) pa_nil)))) pa_nil))))))), ?_⟩
  refine ⟨_, rfl, _, _, _, _, true, rfl, .ty _, ty_tup ha, kit6, true, rfl, ifT rfl ?_⟩
  refine ⟨_, rfl, a, _, rfl, .inr ha, _, rfl, rfl, _, rfl, ifT (by rw [vec_lenV]; exact int_eq rfl) ?_⟩
  refine ⟨_, rfl, a, rfl, ⟨_, ha⟩, fun D hD => ?_⟩
  refine lc_m (walk_tup (K := K) (a := a) (xs := (vec n x).map V.int)) RB (stb_RB (K := K)) (List.range n) (by rw [vec_lenV, List.length_range]) (by rw [List.length_range]; omega) hD (fun H' s => Same_seqT s ha) (fun _ _ _ _ => ys_at) (fun _ => true) (fun c i v H1 H2 hc s1 s2 y A B hA => ?_) (fun H' l s1 hl1 rs => ?_)
  · obtain ⟨hc1, rfl⟩ := in_range hc
    have e := y.2
    rw [vecV_at hc1] at e
    cases e
    exact ⟨rfl, lc_yes ⟨_, rfl, x i, rfl, hA _ _ (fun _ _ h => h) rfl⟩⟩
  · refine ⟨D, _, rfl, SqL.of (by rw [hl1, rs.bls]), ?_⟩
    have e : (((List.range n).map fun _ => true).all id) = true := by
      rw [List.all_map]
      exact List.all_eq_true.mpr fun _ _ => rfl
    rw [e]
    exact q H' s1
abbrev s__law_dot : Stmt := top 41
abbrev N__law_dot : List Str := ["one", "two", "k"]
theorem sc__law_dot : FnScope N__law_dot ["one", "two"] (defScope s__law_dot) := ⟨rfl, rfl, rfl, by decide +kernel, rfl, by decide +kernel, by decide +kernel⟩
theorem ok__law_dot (F : Fun K "_law_dot" "_law_dot" s__law_dot f fd) (T : Txt mg) : FnOk P w K mg base CX0 1 f fd ["one", "two"] (spDot K) := by
  refine F.ok sc__law_dot (fun vs H Q E h => ?_) (fun cdv A outer s H vs Q E hr h => ?_)
  · obtain ⟨v1, v2, n, k1, k2, x, y, rfl, _⟩ := h
    rfl
  obtain ⟨v1, v2, n, k1, k2, x, y, rfl, h1, h2, hn, hx, hy, p1, p2, hk, q⟩ := h
  refine ⟨_, (pss_one (ps_ret (pe_callB (cr_sum rfl) (by rfl) T.b_sum (by decide +kernel) (pa_cons (pe_lc (own := [("k", 2)]) (g := gName 2) (tt := tYes) (by rfl) sc__law_dot.nd (pi_range1 (by rfl) T.b_range (pa_cons (pe_callB call_len_seq (by rfl) T.b_len PySem.boot_len (pa_cons (pv 0) pa_nil)) pa_nil)) (blkOk_by (N := N__law_dot) (sc := defScope s__law_dot) (by decide +kernel)) (fun _ _ _ _ _ => (pg_name (i := 2) sc__law_dot.nd rfl (Or.inl rfl))) (fun _ _ _ _ _ => pts_nil) (fun _ _ _ _ _ => (pe_op op_mulW (pe_ix (ix_orK (K := K) rfl) (pv 0) (pv 2) (fun _ _ => rfl)) (pe_ix (ix_orK (K := K) rfl) (pv 1) (pv 2) (fun _ _ => rfl))))) pa_nil)))), ?_⟩
  obtain ⟨k, a, rfl, ha⟩ := sn_ints h1
  obtain ⟨l, b, rfl, hb⟩ := sn_ints h2
  refine ⟨_, rfl, _, _, rfl, sq_or ha, (n : Int), by rw [vec_lenV], by omega, by omega, fun D hD => ?_⟩
  refine lc_m (walk_range (lo := 0) (n := n)) RI (stb_RI (K := K)) (List.range n) (by rw [List.length_range]) (by rw [List.length_range]; omega) hD (fun _ _ => trivial) (fun _ _ _ _ => ys_fn) (fun i => x i * y i) (fun c i v H1 H2 hc s1 s2 yl A B hA => ?_) (fun H' l1 s1 hl1 rs => ?_)
  · obtain ⟨hc1, rfl⟩ := in_range hc
    rw [yl.2]
    exact ⟨rfl, lc_yes ⟨_, rfl, _, rfl, ix_any (sq_same s2 ha) (ixv hc1) ⟨_, rfl, _, rfl, ix_any (sq_same s2 hb) (ixv hc1) ⟨_, _, rfl, rfl, wmul (hx i hc1) (hy i hc1) p1 p2 (by omega), hA _ _ (fun _ _ h => h) rfl⟩⟩⟩⟩
  · exact ⟨D, _, rfl, SqL.of (by rw [hl1, rs.ints]), q H' s1⟩
/-! ### the law's own data: lists of [row, weight] -/
def PL : Hp → V → RW → Prop := fun H v q => ∃ p r : Addr, v = .ref p ∧ H p = some (.lst [.ref r, .int q.2]) ∧ H r = some (.lst (q.1.map V.int))
theorem PL.same {H H' : Hp} {v : V} {q : RW} (e : Same H H') (h : PL H v q) : PL H' v q := let ⟨p, r, h1, h2, h3⟩ := h; ⟨p, r, h1, e _ _ h2, e _ _ h3⟩
def PrsL (H : Hp) (a : Addr) (ps : List RW) : Prop := ∃ vs, H a = some (.lst vs) ∧ Rs PL H vs ps
theorem PrsL.same {H H' : Hp} {a : Addr} {ps : List RW} (e : Same H H') (h : PrsL H a ps) : PrsL H' a ps := by
  obtain ⟨vs, h1, h2⟩ := h
  exact ⟨vs, e _ _ h1, h2.1, fun i v z a b => (h2.2 i v z a b).same e⟩
theorem PrsL.at {H : Hp} {a : Addr} {ps : List RW} (h : PrsL H a ps) : ∃ vs : List V, H a = some (.lst vs) ∧ vs.length = ps.length ∧ ∀ (i : Nat) (p : RW), ps[i]? = some p → ∃ q r : Addr, vs[i]? = some (.ref q) ∧ H q = some (.lst [.ref r, .int p.2]) ∧ H r = some (.lst (p.1.map V.int)) := by
  obtain ⟨vs, h1, h2⟩ := h
  refine ⟨vs, h1, h2.1, fun i p hp => ?_⟩
  have hi : i < vs.length := by
    have := (List.getElem?_eq_some_iff.mp hp).1
    have := h2.1
    omega
  obtain ⟨q, r, e1, e2, e3⟩ := h2.2 i _ p (List.getElem?_eq_getElem hi) hp
  exact ⟨q, r, by rw [List.getElem?_eq_getElem hi, e1], e2, e3⟩
/-- a list as the law keeps it: [size, pairs, under] -/
def DueAt (H : Hp) (d : Addr) (n : Nat) (ps : List RW) (b : Int) : Prop := ∃ c, H d = some (.lst [.int (n : Int), .ref c, .int b]) ∧ PrsL H c ps
theorem DueAt.same {H H' : Hp} {d : Addr} {n : Nat} {ps : List RW} {b : Int} (e : Same H H') (h : DueAt H d n ps b) : DueAt H' d n ps b := let ⟨c, h1, h2⟩ := h; ⟨c, e _ _ h1, h2.same e⟩
/-- its numbers: at most m pairs, weights and the bottom below 2 ^ k -/
structure DOk (m k n : Nat) (ps : List RW) (b : Int) : Prop where
  len : ps.length ≤ m
  n10 : n ≤ 10
  row : ∀ p ∈ ps, p.1.length = n ∧ 1 ≤ p.2 ∧ B k p.2 ∧ ∀ x ∈ p.1, B 60 x
  bot : 1 ≤ b
  bB : B k b
theorem DOk.prs {m k n : Nat} {ps : List RW} {b : Int} (h : DOk m k n ps b) (hm : m ≤ 1000) (hk : k ≤ 1400) : Prs n ps := ⟨Nat.le_trans h.len hm, fun p hp => ⟨(h.row p hp).1, (h.row p hp).2.1, (h.row p hp).2.2.1.mono hk, fun x hx => ((h.row p hp).2.2.2 x hx).mono (by decide)⟩⟩
theorem DOk.get {m k n : Nat} {ps : List RW} {b : Int} (h : DOk m k n ps b) {p : RW} (hp : p ∈ ps) (j : Nat) : B 60 (p.1.getD j 0) := by
  rw [List.getD_eq_getElem?_getD]
  cases e : p.1[j]? with
  | none => exact (by decide : (0 : Int).natAbs < 2 ^ 60)
  | some x => exact (h.row p hp).2.2.2 x (List.mem_of_getElem? e)
theorem DOk.mono {m k m' k' n : Nat} {ps : List RW} {b : Int} (h : DOk m k n ps b) (hm : m ≤ m') (hk : k ≤ k') : DOk m' k' n ps b := ⟨Nat.le_trans h.len hm, h.n10, fun p hp => ⟨(h.row p hp).1, (h.row p hp).2.1, (h.row p hp).2.2.1.mono hk, (h.row p hp).2.2.2⟩, h.bot, h.bB.mono hk⟩
/-- the numbers of the list that stands in lowest terms -/
abbrev lg (ps : List RW) (b : Int) : Int := gf b (ws ps)
abbrev lp (ps : List RW) (b : Int) : List RW := dp ps (lg ps b)
abbrev lb (ps : List RW) (b : Int) : Int := b / lg ps b
/-- the list at p is the one of these numbers -/
def Low (K : PySem.W.Frag) (H : Hp) (cF cR p : Addr) (n : Nat) (ps : List RW) (b : Int) : Prop := RowsAt K H cF cR p n (lp ps b) (lb ps b)
theorem Low.same {K : PySem.W.Frag} {H H' : Hp} {cF cR p : Addr} {n : Nat} {ps : List RW} {b : Int} (e : Same H H') (h : Low K H cF cR p n ps b) : Low K H' cF cR p n ps b := h.at e
def sc (g : Int) (ps : List RW) : List RW := ps.map fun p => (p.1, g * p.2)
theorem gI_mul (g x y : Int) (hg : 0 < g) : gI (g * x) (g * y) = g * gI x y := by
  unfold gI
  rw [Int.natAbs_mul, Int.natAbs_mul, Nat.gcd_mul_left, Int.natCast_mul]
  have : ((g.natAbs : Nat) : Int) = g := by omega
  rw [this]
theorem gf_mul (g : Int) (hg : 0 < g) : ∀ (ns : List Int) (b : Int), gf (g * b) (ns.map fun n => g * n) = g * gf b ns
  | [], b => rfl
  | n :: ns, b => by
    show gf (gI (g * b) (g * n)) (ns.map fun n => g * n) = g * gf (gI b n) ns
    rw [gI_mul g b n hg, gf_mul g hg ns]
theorem ws_sc (g : Int) (ps : List RW) : ws (sc g ps) = (ws ps).map fun n => g * n := by
  unfold ws sc
  rw [List.map_map, List.map_map]
  rfl
theorem lg_sc {g b : Int} {ps : List RW} (hg : 0 < g) : lg (sc g ps) (g * b) = g * lg ps b := by
  show gf (g * b) (ws (sc g ps)) = _
  rw [ws_sc, gf_mul g hg]
theorem lp_sc {g b : Int} {ps : List RW} (hg : 0 < g) (hb : 0 < b) : lp (sc g ps) (g * b) = lp ps b := by
  show dp (sc g ps) (lg (sc g ps) (g * b)) = dp ps (lg ps b)
  rw [lg_sc hg]
  unfold dp sc
  rw [List.map_map]
  refine List.map_congr_left fun p _ => ?_
  show (p.1, g * p.2 / (g * lg ps b)) = _
  rw [Int.mul_ediv_mul_of_pos _ _ hg]
theorem lb_sc {g b : Int} {ps : List RW} (hg : 0 < g) (hb : 0 < b) : lb (sc g ps) (g * b) = lb ps b := by
  show g * b / lg (sc g ps) (g * b) = b / lg ps b
  rw [lg_sc hg, Int.mul_ediv_mul_of_pos _ _ hg]
/-- lists of like numbers are alike -/
theorem Low.sc {K : PySem.W.Frag} {H : Hp} {cF cR p : Addr} {n : Nat} {ps : List RW} {b g : Int} (hg : 0 < g) (hb : 0 < b) (h : Low K H cF cR p n ps b) : Low K H cF cR p n (sc g ps) (g * b) := by
  unfold Low
  rw [lp_sc hg hb, lb_sc hg hb]
  exact h
theorem Low.of_sc {K : PySem.W.Frag} {H : Hp} {cF cR p : Addr} {n : Nat} {ps : List RW} {b g : Int} (hg : 0 < g) (hb : 0 < b) (h : Low K H cF cR p n (P03.sc g ps) (g * b)) : Low K H cF cR p n ps b := by
  unfold Low at h
  rw [lp_sc hg hb, lb_sc hg hb] at h
  exact h
theorem dp_sc {g : Int} {ps : List RW} (hg : 0 < g) (hd : ∀ p ∈ ps, g ∣ p.2) : P03.sc g (dp ps g) = ps := by
  unfold P03.sc dp
  rw [List.map_map]
  conv => rhs; rw [← List.map_id ps]
  refine List.map_congr_left fun p hp => ?_
  show (p.1, g * (p.2 / g)) = p
  rw [Int.mul_ediv_cancel' (hd p hp)]
theorem lg_pos {ps : List RW} {b : Int} (hb : 0 < b) : 0 < lg ps b := gf_pos hb _
theorem lg_dvd {ps : List RW} {b : Int} {p : RW} (hp : p ∈ ps) : lg ps b ∣ p.2 := (gf_dvd (ws ps)).2 _ (List.mem_map.mpr ⟨p, hp, rfl⟩)
theorem lg_dvdb {ps : List RW} {b : Int} : lg ps b ∣ b := (gf_dvd (ws ps)).1
theorem lp_back {ps : List RW} {b : Int} (hb : 0 < b) : P03.sc (lg ps b) (lp ps b) = ps := dp_sc (lg_pos hb) fun p hp => lg_dvd hp
theorem lb_back {ps : List RW} {b : Int} : lg ps b * lb ps b = b := Int.mul_ediv_cancel' lg_dvdb
theorem lb_pos {ps : List RW} {b : Int} (hb : 0 < b) : 1 ≤ lb ps b := quot_pos (lg_pos hb) lg_dvdb hb
theorem DOk.low {m k n : Nat} {ps : List RW} {b : Int} (h : DOk m k n ps b) : DOk m k n (lp ps b) (lb ps b) := by
  have hb : 0 < b := h.bot
  have hg := lg_pos (ps := ps) hb
  refine ⟨by show (dp ps _).length ≤ m; unfold dp; rw [List.length_map]; exact h.len, h.n10, fun p hp => ?_, lb_pos hb, B.div hg h.bB⟩
  obtain ⟨q, hq, rfl⟩ := List.mem_map.mp hp
  obtain ⟨h1, h2, h3, h4⟩ := h.row q hq
  exact ⟨h1, quot_pos hg (lg_dvd hq) h2, B.div hg h3, h4⟩
end
end P03
namespace P03
open PySem PySem.Spec PyProof.Rows L2 SX EX WK
/-- a table under work: all that stood at H0 stands -/
structure MT (H0 H : Hp) (a : Addr) (rs : List Addr) (n : Nat) (f : Nat → Nat → Int) : Prop where
  same : Same H0 H
  at_ : H a = some (.lst (rs.map V.ref))
  len : rs.length = n
  nd : rs.Nodup
  na : a ∉ rs
  fr : ∀ r ∈ rs, H0 r = none
  row : ∀ (i : Nat), i < n → ∃ p, rs[i]? = some p ∧ H p = some (.lst ((vec n (f i)).map V.int))
theorem MT.ltab {H0 H : Hp} {a : Addr} {rs : List Addr} {n : Nat} {f : Nat → Nat → Int} (h : MT H0 H a rs n f) : LTab H a n f := ⟨rs, h.at_, h.len, h.row⟩
theorem MT.keep {H0 H H' : Hp} {a : Addr} {rs : List Addr} {n : Nat} {f : Nat → Nat → Int} (h : MT H0 H a rs n f) (s : Same H H') : MT H0 H' a rs n f := by
  refine ⟨h.same.trans s, s _ _ h.at_, h.len, h.nd, h.na, h.fr, fun i hi => ?_⟩
  obtain ⟨p, h1, h2⟩ := h.row i hi
  exact ⟨p, h1, s _ _ h2⟩
theorem MT.congr {H0 H : Hp} {a : Addr} {rs : List Addr} {n : Nat} {f g : Nat → Nat → Int} (h : MT H0 H a rs n f) (e : ∀ i j, i < n → j < n → f i j = g i j) : MT H0 H a rs n g := by
  refine ⟨h.same, h.at_, h.len, h.nd, h.na, h.fr, fun i hi => ?_⟩
  obtain ⟨p, h1, h2⟩ := h.row i hi
  exact ⟨p, h1, by rw [← vec_congr fun j hj => e i j hi hj]; exact h2⟩
def put (f : Nat → Nat → Int) (i j : Nat) (v : Int) : Nat → Nat → Int := fun a b => if a = i ∧ b = j then v else f a b
theorem vec_set {n j : Nat} {x : Nat → Int} {v : Int} (hj : j < n) : ((vec n x).map V.int).set j (.int v) = ((vec n fun b => if b = j then v else x b).map V.int) := by
  refine List.ext_getElem? fun b => ?_
  by_cases hb : b < n
  · rw [vecV_at hb, List.getElem?_set]
    by_cases e : j = b
    · subst e
      rw [if_pos rfl, if_pos rfl, if_pos (by rw [vec_lenV]; exact hb)]
    · rw [if_neg e, vecV_at hb, if_neg (Ne.symm e)]
  · rw [List.getElem?_eq_none (by rw [List.length_set, vec_lenV]; omega), List.getElem?_eq_none (by rw [vec_lenV]; omega)]
theorem MT.set {H0 H : Hp} {a p : Addr} {rs : List Addr} {n i j : Nat} {f : Nat → Nat → Int} {v : Int} (h : MT H0 H a rs n f) (hi : i < n) (hj : j < n) (hp : rs[i]? = some p) : MT H0 (upd H p (.lst (((vec n (f i)).map V.int).set j (.int v)))) a rs n (put f i j v) := by
  have mp := List.mem_of_getElem? hp
  refine ⟨same_at h.same (h.fr p mp), ?_, h.len, h.nd, h.na, h.fr, fun b hb => ?_⟩
  · rw [upd_ne (fun z => h.na (by rw [z]; exact mp))]
    exact h.at_
  · obtain ⟨r, h1, h2⟩ := h.row b hb
    refine ⟨r, h1, ?_⟩
    by_cases e : b = i
    · subst e
      rw [hp] at h1
      cases h1
      rw [upd_same, vec_set hj]
      congr 3
      refine vec_congr fun c hc => ?_
      unfold put
      by_cases ec : c = j
      · rw [if_pos ec, if_pos ⟨rfl, ec⟩]
      · rw [if_neg ec, if_neg fun z => ec z.2]
    · have hr : r ≠ p := fun z => by
        have hib : i < rs.length := (List.getElem?_eq_some_iff.mp hp).1
        have e1 := (List.getElem?_inj hib h.nd).mp (hp.trans (by rw [h1, z]))
        exact e e1.symm
      rw [upd_ne hr, h2]
      congr 3
      refine vec_congr fun c hc => ?_
      unfold put
      rw [if_neg fun z => e z.1]
theorem MT.start {H0 : Hp} {D : Addr} (h : H0 D = none) : MT H0 (upd H0 D (.lst [])) D [] 0 (fun _ _ => 0) := ⟨new_same h _, upd_same, rfl, List.nodup_nil, by simp, by simp, fun i hi => by omega⟩
theorem zero_vec {m n : Nat} {l : List V} {H : Hp} (h : Rs RI H l ((List.range n).map fun _ => (0 : Int))) : l = (vec n fun _ => 0).map V.int := h.ints
section
variable {P : Program} {w : World} {K : PySem.W.Frag} {mg : Str → Option Value} {base : Heap} {f : Addr} {fd : FuncData} {cF cR : Addr}
/-- rows of zeros, so far i of them -/
structure ZT (H0 H : Hp) (a : Addr) (rs : List Addr) (n i : Nat) : Prop where
  same : Same H0 H
  at_ : H a = some (.lst (rs.map V.ref))
  len : rs.length = i
  nd : rs.Nodup
  na : a ∉ rs
  fr : ∀ r ∈ rs, H0 r = none
  row : ∀ r ∈ rs, H r = some (.lst ((vec n fun _ => 0).map V.int))
theorem ZT.mt {H0 H : Hp} {a : Addr} {rs : List Addr} {n : Nat} (h : ZT H0 H a rs n n) : MT H0 H a rs n (fun _ _ => 0) :=
  ⟨h.same, h.at_, h.len, h.nd, h.na, h.fr, fun i hi => ⟨rs[i]'(by rw [h.len]; exact hi), List.getElem?_eq_getElem _, h.row _ (List.getElem_mem _)⟩⟩
theorem ZT.snoc {H0 H H' : Hp} {a p : Addr} {rs : List Addr} {n i : Nat} (h : ZT H0 H a rs n i) (h0 : H0 a = none) (s : Same H H') (hp : H p = none) (hr : H' p = some (.lst ((vec n fun _ => 0).map V.int))) : ZT H0 (upd H' a (.lst (rs.map V.ref ++ [.ref p]))) a (rs ++ [p]) n (i + 1) := by
  have hpa : p ≠ a := fun z => by rw [z, h.at_] at hp; cases hp
  refine ⟨same_at (h.same.trans s) h0, ?_, by rw [List.length_append, h.len]; rfl, ?_, ?_, fun r hr' => ?_, fun r hr' => ?_⟩
  · rw [upd_same, List.map_append]
    rfl
  · refine List.nodup_append.mpr ⟨h.nd, by simp, fun x hx y hy z => ?_⟩
    rw [List.mem_singleton] at hy
    subst hy
    subst z
    rw [h.row _ hx] at hp
    cases hp
  · intro hm
    rcases List.mem_append.mp hm with m | m
    · exact h.na m
    · exact hpa (List.mem_singleton.mp m).symm
  · rcases List.mem_append.mp hr' with m | m
    · exact h.fr r m
    · rw [List.mem_singleton.mp m]
      cases e : H0 p with
      | none => rfl
      | some u => rw [h.same _ _ e] at hp; cases hp
  · rcases List.mem_append.mp hr' with m | m
    · rw [upd_ne (fun z => h.na (by rw [← z]; exact m))]
      exact s _ _ (h.row r m)
    · rw [List.mem_singleton.mp m, upd_ne hpa]
      exact hr
def spTab (K : PySem.W.Frag) : Sp := fun vs H Q _ => ∃ (a : Addr) (n : Nat) (ps : List RW), vs = [.int n, .ref a] ∧ PrsL H a ps ∧ (∃ m k b, DOk m k n ps b ∧ m ≤ 1000 ∧ k ≤ 1400) ∧ ∀ r H', Same H H' → LTab H' r n (wsum ps) → Q (.ref r) H'
theorem wsum_snoc {ps : List RW} {k : Nat} {p : RW} (h : ps[k]? = some p) (i j : Nat) : wsum (ps.take (k + 1)) i j = wsum (ps.take k) i j + p.2 * p.1.getD i 0 * p.1.getD j 0 := by
  unfold wsum
  rw [take_one h, List.map_append, List.sum_append]
  simp
/-- between two states: the rows below i are done, of the row i the first j -/
def mix (f g : Nat → Nat → Int) (i j : Nat) : Nat → Nat → Int := fun a b => if a < i ∨ (a = i ∧ b < j) then g a b else f a b
theorem mix_put (f g : Nat → Nat → Int) (i j : Nat) : ∀ a b, put (mix f g i j) i j (g i j) a b = mix f g i (j + 1) a b := fun a b => by
  unfold put mix
  by_cases h : a = i ∧ b = j
  · rw [if_pos h, if_pos (.inr ⟨h.1, by omega⟩), h.1, h.2]
  · rw [if_neg h]
    by_cases h2 : a < i ∨ (a = i ∧ b < j)
    · rw [if_pos h2, if_pos (by omega)]
    · rw [if_neg h2, if_neg (by omega)]
theorem mix_at (f g : Nat → Nat → Int) (i j : Nat) : mix f g i j i j = f i j := by
  unfold mix
  rw [if_neg (by omega)]
theorem mix_row (f g : Nat → Nat → Int) (n i : Nat) : ∀ a b, a < n → b < n → mix f g i n a b = mix f g (i + 1) 0 a b := fun a b ha hb => by
  unfold mix
  by_cases h : a < i + 1
  · rw [if_pos (by omega), if_pos (by omega)]
  · rw [if_neg (by omega), if_neg (by omega)]
abbrev s__law_table : Stmt := top 42
abbrev N__law_table : List Str := ["size", "pairs", "i", "j", "table", "pair"]
theorem sc__law_table : FnScope N__law_table ["size", "pairs"] (defScope s__law_table) := ⟨rfl, rfl, rfl, by decide +kernel, rfl, by decide +kernel, by decide +kernel⟩
theorem ok__law_table (F : Fun K "_law_table" "_law_table" s__law_table f fd) (T : Txt mg) : FnOk P w K mg base CX0 1 f fd ["size", "pairs"] (spTab K) := by
  refine F.ok sc__law_table (fun vs H Q E h => ?_) (fun cdv A outer s H vs Q E hr h => ?_)
  · obtain ⟨a, n, ps, rfl, _⟩ := h
    rfl
  obtain ⟨a, n, ps, rfl, hps, ⟨mm, kk, bb, hpb, hmm, hkk⟩, q⟩ := h
  have hn := hpb.n10
  refine ⟨_, (pss_cons (ps_setLc (i := 4) (own := [("i", 2)]) (g := gName 2) (tt := tYes) (by rfl) sc__law_table.nd rfl rfl (sw_true rfl rfl rfl (by decide +kernel)) (pi_range1 (by rfl) T.b_range (pa_cons (pv 0) pa_nil)) (blkOk_by (N := N__law_table) (sc := defScope s__law_table) (by decide +kernel)) (fun _ _ _ _ _ => (pg_name (i := 2) sc__law_table.nd rfl (Or.inl rfl))) (fun _ _ _ _ _ => pts_nil) (fun _ _ _ _ _ => (pe_lc (own := [("j", 3)]) (g := gName 3) (tt := tYes) (by rfl) sc__law_table.nd (pi_range1 (by rfl) T.b_range (pa_cons (pv 0) pa_nil)) (blk_nest (N := N__law_table) (sc0 := defScope s__law_table) rfl (by decide +kernel)) (fun _ _ _ _ _ => (pg_name (i := 3) sc__law_table.nd rfl (Or.inl rfl))) (fun _ _ _ _ _ => pts_nil) (fun _ _ _ _ _ => pe_int))))
  (pss_cons (ps_for PassesOwn.never rfl (pi_list (pv 1)) (pg_name (i := 5) sc__law_table.nd rfl (Or.inl rfl)) (pss_one (ps_for PassesOwn.never rfl (pi_range1 (by rfl) T.b_range (pa_cons (pv 0) pa_nil)) (pg_name (i := 2) sc__law_table.nd rfl (Or.inl rfl)) (pss_one (ps_for PassesOwn.never rfl (pi_range1 (by rfl) T.b_range (pa_cons (pv 0) pa_nil)) (pg_name (i := 3) sc__law_table.nd rfl (Or.inl rfl)) (pss_one (ps_asg (pe_op op_add (pe_ix ix_list /-?-/ (pe_ix ix_list (pv 4) (pv 2) (fun _ _ => rfl)) (pv 3) (fun _ _ => rfl)) (pe_op op_mulW (pe_op op_mulW (pe_ix ix_list /-?-/ (pv 5) pe_int (fun _ _ => rfl)) (pe_ix ix_list /-?-/ (pe_ix ix_list /-?-/ (pv 5) pe_int (fun _ _ => rfl)) (pv 2) (fun _ _ => rfl))) (pe_ix ix_list /-?-/ (pe_ix ix_list /-?-/ (pv 5) pe_int (fun _ _ => rfl)) (pv 3) (fun _ _ => rfl)))) (pg_sub (pe_ix ix_list (pv 4) (pv 2) (fun _ _ => rfl)) (pv 3) set_list))))))))
  (pss_one (ps_ret (pv 4))))), ?_⟩
  obtain ⟨vs, ha, hl, hrow⟩ := hps.at
  refine ⟨_, rfl, (n : Int), rfl, by omega, by omega, fun D hD => ?_⟩
  refine ⟨fun i m H' => m = n - i ∧ i ≤ n ∧ ∃ rs, ZT H H' D rs n i, ⟨_, rfl, Nat.zero_le _, [], new_same hD _, upd_same, rfl, List.nodup_nil, by simp, by simp, by simp⟩, ?_⟩
  rintro i m H1 ⟨rfl, hi, rs, z⟩
  by_cases hlt : i < n
  · refine .inr ⟨by show i < (n : Int).toNat; omega, fun H' => ∃ rs, ZT H H' D rs n (i + 1), fun H' h' => ⟨_, by omega, rfl, hlt, h'⟩, ?_⟩
    rintro x H2 ⟨rfl, rfl⟩
    refine ⟨rfl, lc_yes ⟨_, rfl, (n : Int), rfl, by omega, by omega, fun D2 hD2 => ?_⟩⟩
    refine lc_m (walk_range (lo := 0) (n := n)) RI (stb_RI (K := K)) (List.range n) (by rw [List.length_range]) (by rw [List.length_range]; omega) hD2 (fun _ _ => trivial) (fun _ _ _ _ => ys_fn) (fun _ => (0 : Int)) (fun c j x2 H3 H4 hc s3 s4 y A B hA => ?_) (fun H3 l s3 hl3 rs3 => ?_)
    · rw [y.2]
      exact ⟨rfl, lc_yes (hA _ _ (fun _ _ h => h) rfl)⟩
    · have hz := zero_vec (m := n) rs3
      refine ⟨rs.map V.ref, s3 _ _ z.at_, sizes (by rw [List.length_map, z.len]; omega), rs ++ [D2], ?_⟩
      exact z.snoc hD s3 hD2 (by rw [hl3, hz])
  · have ei : i = n := by omega
    subst ei
    refine .inl ⟨by show (i : Int).toNat ≤ i; omega, ?_⟩
    clear hlt
    have mt := z.mt
    refine ⟨_, rfl, a, rfl, ⟨_, SqL.of (mt.same _ _ ha)⟩, for_list (K := K) (a := a) (xs := vs) (fun k σ H' => ∃ v2 v3 v5 : Option V, σ = [some (.int i), some (.ref a), v2, v3, some (.ref D), v5] ∧ MT H H' D rs i (wsum (ps.take k))) ⟨none, none, none, rfl, mt⟩ (fun k σ H' _ ⟨_, _, _, _, s⟩ => SqL.of (s.same _ _ ha)) ?_ ?_⟩
    · rintro k x σ H2 hx ⟨v2, v3, v5, rfl, mt2⟩
      obtain ⟨p, hp⟩ : ∃ p, ps[k]? = some p := ⟨_, List.getElem?_eq_getElem (by have := (List.getElem?_eq_some_iff.mp hx).1; omega)⟩
      obtain ⟨r1, r2, hr1, hr2, hr3⟩ := hrow k p hp
      rw [hx] at hr1
      cases hr1
      have m := List.mem_of_getElem? hp
      refine ⟨_, rfl, (i : Int), rfl, by omega, by omega, for_range (lo := 0) (n := i) (fun r σ H' => ∃ v2 v3 : Option V, σ = [some (.int i), some (.ref a), v2, v3, some (.ref D), some (.ref r1)] ∧ MT H H' D rs i (mix (wsum (ps.take k)) (wsum (ps.take (k + 1))) r 0)) ⟨v2, v3, rfl, mt2.congr fun a b _ _ => by unfold mix; rw [if_neg (by omega)]⟩ ?_ ?_⟩
      · rintro r σ H3 hr ⟨v2, v3, rfl, mt3⟩
        refine ⟨_, rfl, (i : Int), rfl, by omega, by omega, for_range (lo := 0) (n := i) (fun c σ H' => ∃ v3 : Option V, σ = [some (.int i), some (.ref a), some (.int (0 + (r : Int))), v3, some (.ref D), some (.ref r1)] ∧ MT H H' D rs i (mix (wsum (ps.take k)) (wsum (ps.take (k + 1))) r c)) ⟨v3, rfl, mt3⟩ ?_ ?_⟩
        · rintro c σ H4 hc ⟨v3, rfl, mt4⟩
          have hri : r < i := by omega
          have hci : c < i := by omega
          obtain ⟨pr, hpr1, hpr2⟩ := mt4.row r hri
          have er : (0 + (r : Int)).toNat = r := by omega
          have ix : atI (rs.map V.ref) (0 + (r : Int)) = some (.ref pr) := at_pos (by omega) (by rw [er, List.getElem?_map, hpr1]; rfl)
          have t1 := SqL.of (K := K) (mt4.same _ _ hr2)
          have t2 := SqL.of (K := K) (mt4.same _ _ hr3)
          have b1 : B 1400 p.2 := (hpb.row p m).2.2.1.mono hkk
          have hrr : ∀ j, j < i → (p.1.map V.int)[j]? = some (.int (p.1.getD j 0)) := fun j hj => getD_at (by rw [(hpb.row p m).1]; exact hj)
          refine ⟨_, rfl, _, rfl, D, _, _, _, rfl, rfl, SqL.of mt4.at_, ix, _, rfl, pr, _, _, _, rfl, rfl, SqL.of hpr2, ixv hci, ?_⟩
          refine ⟨_, rfl, r1, _, 1, _, rfl, rfl, t1, at_pos (by decide) rfl, _, rfl, r1, _, 0, _, rfl, rfl, t1, at_pos (by decide) rfl, _, rfl, r2, _, _, _, rfl, rfl, t2, at_pos (by omega) (by rw [er]; exact hrr r hri), _, _, rfl, rfl, wmul (m := 1400) (n := 60) b1 (hpb.get m r) (by decide) (by decide) (by decide), ?_⟩
          refine ⟨_, rfl, r1, _, 0, _, rfl, rfl, t1, at_pos (by decide) rfl, _, rfl, r2, _, _, _, rfl, rfl, t2, at_pos (by omega) (by rw [show (0 + (c : Int)).toNat = c by omega]; exact hrr c hci), _, _, rfl, rfl, wmul (m := 1460) (n := 60) (B.mul (m := 1400) (n := 60) b1 (hpb.get m r)) (hpb.get m c) (by decide) (by decide) (by decide), _, _, rfl, rfl, ?_⟩
          refine ⟨_, rfl, _, rfl, D, _, _, _, rfl, rfl, SqL.of mt4.at_, ix, _, rfl, pr, _, _, c, rfl, rfl, hpr2, by rw [vec_lenV]; unfold ixN; rw [if_pos (by omega), if_pos (by omega)]; congr 1; omega, some (.int (0 + (c : Int))), rfl, ?_⟩
          have st := mt4.set (v := mix (wsum (ps.take k)) (wsum (ps.take (k + 1))) r c r c + p.2 * p.1.getD r 0 * p.1.getD c 0) hri hci hpr1
          refine st.congr fun x y _ _ => ?_
          rw [mix_at, ← wsum_snoc hp]
          exact mix_put _ _ _ _ _ _
        · rintro σ H4 ⟨v3, rfl, mt4⟩
          exact ⟨some (.int (0 + (r : Int))), v3, rfl, mt4.congr (mix_row _ _ _ _)⟩
      · rintro σ H3 ⟨v2, v3, rfl, mt3⟩
        refine ⟨v2, v3, some (.ref r1), rfl, mt3.congr fun x y hx hy => ?_⟩
        unfold mix
        rw [if_pos (by omega)]
    · rintro σ H2 ⟨v2, v3, v5, rfl, mt2⟩
      rw [hl, List.take_length] at mt2
      exact ⟨_, rfl, q D H2 mt2.same mt2.ltab⟩
end
end P03
set_option exponentiation.threshold 3000
namespace P03
open PySem PySem.Spec PyProof.Rows L2 SX EX WK
theorem ixa {m k : Nat} {x : Nat → Int} {z : Int} (h0 : 0 ≤ z) (e : z.toNat = k) (hk : k < m) : atI ((vec m x).map V.int) z = some (.int (x k)) := at_pos h0 (by rw [e]; exact vecV_at hk)
theorem p12 : (10 : Int) ^ (12 : Int).toNat = 1000000000000 := by decide
theorem p40 : (10 : Int) ^ (40 : Int).toNat = 10 ^ 40 := rfl
theorem p37 : (10 : Int) ^ (37 : Int).toNat = 10 ^ 37 := rfl
theorem B60 {x : Int} (h : -1000000000000000000 < x ∧ x < 1000000000000000000) : B 60 x := by
  show x.natAbs < 2 ^ 60
  omega
theorem md {x m : Int} (hm : 0 < m) : 0 ≤ x % m ∧ x % m < m := ⟨Int.emod_nonneg _ (by omega), Int.emod_lt_of_pos _ hm⟩
theorem cut_tail {m a b : Nat} {y : Nat → Int} (h : m = a + b) : cutV ((vec m y).map V.int) (some (a : Int)) none = (vec b fun i => y (a + i)).map V.int := by
  subst h
  unfold cutV
  rw [vec_lenV, sIx_of rfl (by omega)]
  have e : HT.sIx (a + b) (a + b) none = a + b := rfl
  rw [e]
  refine List.ext_getElem? fun i => ?_
  by_cases hi : i < b
  · rw [vecV_at hi, List.getElem?_take, if_pos (by omega), List.getElem?_drop, vecV_at (by omega)]
  · rw [List.getElem?_eq_none (by rw [List.length_take, List.length_drop, vec_lenV]; omega), List.getElem?_eq_none (by rw [vec_lenV]; omega)]
theorem cut_head {m a : Nat} {y : Nat → Int} {z : Int} (e : z = (a : Int)) (h : a ≤ m) : cutV ((vec m y).map V.int) none (some z) = (vec a y).map V.int := by
  unfold cutV
  rw [vec_lenV, sIx_of e h]
  have e0 : HT.sIx m 0 none = 0 := rfl
  rw [e0]
  refine List.ext_getElem? fun i => ?_
  by_cases hi : i < a
  · rw [vecV_at hi, List.getElem?_take, if_pos (by omega), List.drop_zero, vecV_at (by omega)]
  · rw [List.getElem?_eq_none (by rw [List.length_take, List.length_drop, vec_lenV]; omega), List.getElem?_eq_none (by rw [vec_lenV]; omega)]
theorem vec_cat {a b : Nat} {x y : Nat → Int} : (vec a x).map V.int ++ (vec b y).map V.int = (vec (a + b) fun i => if i < a then x i else y (i - a)).map V.int := by
  refine List.ext_getElem? fun i => ?_
  by_cases hi : i < a
  · rw [List.getElem?_append_left (by rw [vec_lenV]; exact hi), vecV_at hi, vecV_at (by omega), if_pos hi]
  · rw [List.getElem?_append_right (by rw [vec_lenV]; omega), vec_lenV]
    by_cases h2 : i < a + b
    · rw [vecV_at (by omega), vecV_at h2, if_neg hi]
    · rw [List.getElem?_eq_none (by rw [vec_lenV]; omega), List.getElem?_eq_none (by rw [vec_lenV]; omega)]
theorem dg {ns zs : List Int} {i : Nat} {z : Int} (d : Dig ns zs) (e : zs[i]? = some z) : ∃ n, (ns.map V.int)[i]? = some (.int n) ∧ 0 ≤ n ∧ n < z := by
  obtain ⟨n, h1, h2, h3⟩ := d.get e
  exact ⟨n, at_int h1, h2, h3⟩
theorem Dig.mem {ns zs : List Int} (d : Dig ns zs) {m : Int} (h : ∀ z ∈ zs, z ≤ m) : ∀ n ∈ ns, 0 ≤ n ∧ n < m := fun n hn => by
  obtain ⟨i, hi⟩ := List.mem_iff_getElem?.mp hn
  have hl : i < zs.length := by
    have := (List.getElem?_eq_some_iff.mp hi).1
    have := d.len
    omega
  obtain ⟨n', h1, h2, h3⟩ := d.get (List.getElem?_eq_getElem hl)
  rw [hi] at h1
  cases h1
  have := h _ (List.getElem_mem hl)
  omega
/-- a list that grows -/
structure Gr {α : Type} (R : Hp → V → α → Prop) (H0 : Hp) (D : Addr) (zs : List α) (H : Hp) : Prop where
  same : Same H0 H
  at_ : ∃ vs, H D = some (.lst vs) ∧ Rs R H vs zs
theorem Gr.start {α : Type} {R : Hp → V → α → Prop} {H : Hp} {D : Addr} (h : H D = none) : Gr R H D [] (upd H D (.lst [])) := ⟨new_same h _, [], upd_same, Rs.nil⟩
theorem Gr.keep {α : Type} {R : Hp → V → α → Prop} {H0 H H' : Hp} {D : Addr} {zs : List α} (st : StbD D R) (g : Gr R H0 D zs H) (e : Same H H') : Gr R H0 D zs H' := by
  obtain ⟨s, vs, h1, h2⟩ := g
  exact ⟨s.trans e, vs, e _ _ h1, h2.tkD st ⟨vs, h1⟩ fun b o _ h => e _ _ h⟩
theorem Gr.push {α : Type} {R : Hp → V → α → Prop} {H0 H : Hp} {D : Addr} {zs : List α} {vs : List V} {v : V} {z : α} (st : StbD D R) (s : Same H0 H) (hD : H0 D = none) (h1 : H D = some (.lst vs)) (h2 : Rs R H vs zs) (r : R H v z) : Gr R H0 D (zs ++ [z]) (upd H D (.lst (vs ++ [v]))) := by
  refine ⟨same_at s hD, _, upd_same, Rs.snoc (h2.tkD st ⟨vs, h1⟩ fun b o hb h => ?_) (st _ _ _ _ ⟨vs, h1⟩ (fun b o hb h => ?_) r)⟩
  all_goals
    rw [upd_ne hb]
    exact h
theorem vec_mem {n : Nat} {x : Nat → Int} {k : Nat} (h : ∀ i, i < n → B k (x i)) : ∀ y ∈ vec n x, B k y := fun y hy => by
  obtain ⟨i, hi, rfl⟩ := List.mem_map.mp hy
  exact h i (List.mem_range.mp hi)
def fW (y : Nat → Int) (b k : Nat) : Int := if (y (b + 2 * k) - 1000000) * 1000000 + y (b + 2 * k + 1) < 10 ^ (12 : Int).toNat then (y (b + 2 * k) - 1000000) * 1000000 + y (b + 2 * k + 1) else 10 ^ (12 : Int).toNat
theorem none_of {H H' : Hp} {r : Addr} (s : Same H H') (h : H' r = none) : H r = none := by
  cases e : H r with
  | none => rfl
  | some o => rw [s _ _ e] at h; cases h
section
variable {P : Program} {w : World} {K : PySem.W.Frag} {mg : Str → Option Value} {base : Heap} {f : Addr} {fd : FuncData} {cF cR : Addr}
def spLeast : Sp := fun vs H Q _ => ∃ t b : Int, vs = [.int t, .int b] ∧ 0 < b ∧ B 6500 b ∧ ∀ r H', Same H H' → FrAt H' r (t / gI t b) (b / gI t b) → Q (.ref r) H'
abbrev s__law_least : Stmt := top 38
abbrev N__law_least : List Str := ["top", "under", "shared"]
theorem sc__law_least : FnScope N__law_least ["top", "under"] (defScope s__law_least) := ⟨rfl, rfl, rfl, by decide +kernel, rfl, by decide +kernel, by decide +kernel⟩
theorem ok__law_least (F : Fun K "_law_least" "_law_least" s__law_least f fd) (T : Txt mg) (C__law_gcd : Cal P w K mg base 1 "_law_gcd" ["one", "two"] spGcd) : FnOk P w K mg base CX0 2 f fd ["top", "under"] spLeast := by
  refine F.ok sc__law_least (fun vs H Q E h => ?_) (fun cdv A outer s H vs Q E hr h => ?_)
  · obtain ⟨t, b, rfl, _⟩ := h
    rfl
  obtain ⟨t, b, rfl, hb, hB, q⟩ := h
  refine ⟨_, (pss_cons (ps_set (i := 2) sc__law_least.nd rfl (Or.inl rfl) (pe_cal C__law_gcd (hr.mono (by omega)) rfl (pa_cons (pv 0) (pa_cons (pv 1) pa_nil))))
  (pss_one (ps_ret (pe_tup (pa_cons (pe_op op_fdivW (pv 0) (pv 2)) (pa_cons (pe_op op_fdivW (pv 1) (pv 2)) pa_nil)))))), ?_⟩
  have g := gI_pos' (t := t) hb
  have gB : B 9000 (gI t b) := (B.le (Int.le_of_lt g) (gI_leb hb) hB).mono (by decide)
  refine ⟨_, rfl, _, rfl, t, b, rfl, hB, ?_⟩
  exact ⟨_, rfl, _, rfl, _, _, rfl, rfl, wdiv g gB (by decide) (by decide), _, rfl, _, rfl, _, _, rfl, rfl, wdiv g gB (by decide) (by decide), two_line, fun r hr' => q r _ (same_new hr' _) upd_same⟩
def spWide : Sp := fun vs H Q _ => ∃ (p : Addr) (b n m : Nat) (y : Nat → Int), vs = [.ref p, .int (b : Int), .int (n : Int)] ∧ H p = some (.lst ((vec m y).map V.int)) ∧ b + 2 * n ≤ m ∧ m ≤ 100 ∧ (∀ i, b ≤ i → i < m → 0 ≤ y i ∧ y i < 2000001) ∧
  ∀ r H' x, H r = none → Same H H' → H' r = some (.lst ((vec n x).map V.int)) → (∀ i, i < n → B 60 (x i)) → Q (.ref r) H'
abbrev s__law_wide : Stmt := top 43
abbrev N__law_wide : List Str := ["row", "begin", "size", "k"]
theorem sc__law_wide : FnScope N__law_wide ["row", "begin", "size"] (defScope s__law_wide) := ⟨rfl, rfl, rfl, by decide +kernel, rfl, by decide +kernel, by decide +kernel⟩
theorem ok__law_wide (F : Fun K "_law_wide" "_law_wide" s__law_wide f fd) (T : Txt mg) : FnOk P w K mg base CX0 1 f fd ["row", "begin", "size"] spWide := by
  refine F.ok sc__law_wide (fun vs H Q E h => ?_) (fun cdv A outer s H vs Q E hr h => ?_)
  · obtain ⟨p, b, n, m, y, rfl, _⟩ := h
    rfl
  obtain ⟨p, b, n, m, y, rfl, hp, hm, hm2, hy, q⟩ := h
  refine ⟨_, (pss_one (ps_ret (pe_lc (own := [("k", 3)]) (g := gName 3) (tt := tYes) (by rfl) sc__law_wide.nd (pi_range1 (by rfl) T.b_range (pa_cons (pv 2) pa_nil)) (blkOk_by (N := N__law_wide) (sc := defScope s__law_wide) (by decide +kernel)) (fun _ _ _ _ _ => (pg_name (i := 3) sc__law_wide.nd rfl (Or.inl rfl))) (fun _ _ _ _ _ => pts_nil) (fun _ _ _ _ _ => (pe_callB (call_min2 rfl) (by rfl) T.b_min (by decide +kernel) (pa_cons (pe_op op_pow pe_int pe_int) (pa_cons (pe_op op_add (pe_op op_mulW (pe_op op_sub (pe_ix (ix_listK (K := K) rfl) (pv 0) (pe_op op_add (pv 1) (pe_op op_mulW pe_int (pv 3))) (fun _ _ => rfl)) pe_int) pe_int) (pe_ix (ix_listK (K := K) rfl) (pv 0) (pe_op op_add (pe_op op_add (pv 1) (pe_op op_mulW pe_int (pv 3))) pe_int) (fun _ _ => rfl))) pa_nil))))))), ?_⟩
  refine ⟨_, rfl, (n : Int), rfl, by omega, by omega, fun D hD => ?_⟩
  refine lc_m (walk_range (lo := 0) (n := n)) RI (stb_RI (K := K)) (List.range n) (by rw [List.length_range]) (by rw [List.length_range]; omega) hD (fun _ _ => trivial) (fun _ _ _ _ => ys_fn) (fun k => fW y b k) (fun c i x H1 H2 hc s1 s2 yl A B hA => ?_) (fun H' l s1 hl1 rs => ?_)
  · obtain ⟨hc1, rfl⟩ := in_range hc
    rw [yl.2]
    have b1 := hy (b + 2 * i) (by omega) (by omega)
    have p2 := s2 _ _ hp
    have m2 : CMulW 2 (0 + (i : Int)) := wmul (m := 3) (n := 20) (by decide) (by show (0 + (i : Int)).natAbs < 2 ^ 20; omega) (by decide) (by decide) (by decide)
    refine ⟨rfl, lc_yes ⟨_, _, rfl, rfl, ⟨by decide, by decide, by decide⟩, _, rfl, _, rfl, _, rfl, _, _, rfl, rfl, m2, _, _, rfl, rfl, p, _, _, _, rfl, rfl, SqL.of p2, ixa (k := b + 2 * i) (by omega) (by omega) (by omega), ?_⟩⟩
    refine ⟨_, _, rfl, rfl, _, _, rfl, rfl, wmul (m := 40) (n := 40) (by show (y (b + 2 * i) - 1000000).natAbs < 2 ^ 40; omega) (by decide) (by decide) (by decide) (by decide), ?_⟩
    refine ⟨_, rfl, _, rfl, _, rfl, _, _, rfl, rfl, m2, _, _, rfl, rfl, _, _, rfl, rfl, p, _, _, _, rfl, rfl, SqL.of p2, ixa (k := b + 2 * i + 1) (by omega) (by omega) (by omega), _, _, rfl, rfl, _, _, rfl, ?_⟩
    exact hA _ _ (fun _ _ h => h) rfl
  · refine q D H' _ hD s1 (by rw [hl1, rs.ints]; rfl) fun i hi => B60 ?_
    have b1 := hy (b + 2 * i) (by omega) (by omega)
    have b2 := hy (b + 2 * i + 1) (by omega) (by omega)
    unfold fW
    rw [p12]
    split <;> omega
end
end P03
set_option exponentiation.threshold 3000
namespace P03
open PySem PySem.Spec PyProof.Rows L2 SX EX WK
theorem b2_le (p : Bool) : 0 ≤ b2 p ∧ b2 p ≤ 1 := by cases p <;> decide
theorem b2_01 (p : Bool) : b2 p = 0 ∨ b2 p = 1 := by cases p <;> simp [b2]
theorem bi_le (p : Bool) : 0 ≤ (if p = true then (1 : Int) else 0) ∧ (if p = true then (1 : Int) else 0) ≤ 1 := by cases p <;> decide
theorem mulb {x b : Int} (hx : -1000000000000 < x ∧ x < 1000000000000) (hb : b = 0 ∨ b = 1) : -1000000000000 < x * b ∧ x * b < 1000000000000 := by
  rcases hb with h | h
  · rw [h, Int.mul_zero]
    omega
  · rw [h, Int.mul_one]
    exact hx
theorem bi01 (p : Bool) : (if p = true then (1 : Int) else 0) = 0 ∨ (if p = true then (1 : Int) else 0) = 1 := by cases p <;> simp
section
variable {P : Program} {w : World} {K : PySem.W.Frag} {mg : Str → Option Value} {base : Heap} {f : Addr} {fd : FuncData} {cF cR : Addr}
def spDrow : Sp := fun vs H Q _ => ∃ (p : Addr) (n m : Nat) (k : Int) (z : Nat → Int), vs = [.int (n : Int), .int k, .ref p] ∧ H p = some (.lst ((vec m z).map V.int)) ∧ 15 ≤ m ∧ m ≤ 100 ∧ (∀ i, i < 10 → 0 ≤ z i ∧ z i < 7) ∧ (k = 3 → m = 15 + 2 * n ∧ ∀ i, 15 ≤ i → i < m → 0 ≤ z i ∧ z i < 2000001) ∧ n ≤ 10 ∧
  ∀ r H' x, H r = none → Same H H' → H' r = some (.lst ((vec n x).map V.int)) → (∀ i, i < n → B 60 (x i)) → Q (.ref r) H'
abbrev s__law_draw_row : Stmt := top 44
abbrev N__law_draw_row : List Str := ["size", "kind", "row", "small", "one", "two", "k"]
theorem sc__law_draw_row : FnScope N__law_draw_row ["size", "kind", "row"] (defScope s__law_draw_row) := ⟨rfl, rfl, rfl, by decide +kernel, rfl, by decide +kernel, by decide +kernel⟩
theorem ok__law_draw_row (F : Fun K "_law_draw_row" "_law_draw_row" s__law_draw_row f fd) (T : Txt mg) (C__law_wide : Cal P w K mg base 1 "_law_wide" ["row", "begin", "size"] spWide) : FnOk P w K mg base CX0 2 f fd ["size", "kind", "row"] spDrow := by
  refine F.ok sc__law_draw_row (fun vs H Q E h => ?_) (fun cdv A outer s H vs Q E hr h => ?_)
  · obtain ⟨p, n, m, k, z, rfl, _⟩ := h
    rfl
  obtain ⟨p, n, m, k, z, rfl, hp, hm, hm2, h7, h3, hn, q⟩ := h
  refine ⟨_, (pss_cons (ps_setLc (i := 3) (own := [("k", 6)]) (g := gName 6) (tt := tYes) (by rfl) sc__law_draw_row.nd rfl rfl (sw_true rfl rfl rfl (by decide +kernel)) (pi_range1 (by rfl) T.b_range (pa_cons (pv 0) pa_nil)) (blkOk_by (N := N__law_draw_row) (sc := defScope s__law_draw_row) (by decide +kernel)) (fun _ _ _ _ _ => (pg_name (i := 6) sc__law_draw_row.nd rfl (Or.inl rfl))) (fun _ _ _ _ _ => pts_nil) (fun _ _ _ _ _ => (pe_op op_sub (pe_ix (ix_listK (K := K) rfl) (pv 2) (pv 6) (fun _ _ => rfl)) pe_int)))
  (C8.pss_cut (ps_if (PW.pt (pw_and (pt_cmpR op_gt (pv 0) pe_int (nomark _)) (pw_and1 (pt_cmpR op_eq (pv 1) pe_int (nomark _))))) (pss_cons (ps_set (i := 4) sc__law_draw_row.nd rfl (Or.inr rfl) (pe_op op_mod (pe_callTy call_int1 (by rfl) T.b_int (by decide +kernel) (pa_cons (pe_ix ix_list (pv 2) pe_int (fun _ _ => rfl)) pa_nil)) (pv 0)))
  (pss_cons (ps_set (i := 5) sc__law_draw_row.nd rfl (Or.inr rfl) (pe_op op_mod (pe_callTy call_int1 (by rfl) T.b_int (by decide +kernel) (pa_cons (pe_op op_add (pe_op op_add (pv 4) pe_int) (pe_op op_mod (pe_callTy call_int1 (by rfl) T.b_int (by decide +kernel) (pa_cons (pe_ix ix_list (pv 2) pe_int (fun _ _ => rfl)) pa_nil)) (pe_op op_sub (pv 0) pe_int))) pa_nil)) (pv 0)))
  (pss_one (ps_ret (pe_lc (own := [("k", 6)]) (g := gName 6) (tt := tYes) (by rfl) sc__law_draw_row.nd (pi_range1 (by rfl) T.b_range (pa_cons (pv 0) pa_nil)) (blkOk_by (N := N__law_draw_row) (sc := defScope s__law_draw_row) (by decide +kernel)) (fun _ _ _ _ _ => (pg_name (i := 6) sc__law_draw_row.nd rfl (Or.inl rfl))) (fun _ _ _ _ _ => pts_nil) (fun _ _ _ _ _ => (pe_op op_sub (pe_callTy call_int1 (by rfl) T.b_int (by decide +kernel) (pa_cons (pe_cmpR op_eq (pv 6) (pv 4) (nomark _)) pa_nil)) (pe_callTy call_int1 (by rfl) T.b_int (by decide +kernel) (pa_cons (pe_cmpR op_eq (pv 6) (pv 5) (nomark _)) pa_nil))))))))) pss_nil)
  (C8.pss_cut (ps_if (PW.pt (pw_and (pt_cmpR op_gt (pv 0) pe_int (nomark _)) (pw_and1 (pt_cmpR op_eq (pv 1) pe_int (nomark _))))) (pss_one (ps_ret (pe_op op_cat (pe_slice sl_list (pv 3) po_none (po_some (pe_op op_sub (pv 0) pe_int))) (pe_lst (pa_cons (pe_ix ix_list (pv 3) pe_int (fun _ _ => rfl)) pa_nil))))) pss_nil)
  (pss_cons (ps_if (pt_cmpR op_eq (pv 1) pe_int (nomark _)) (pss_one (ps_ret (pe_cal C__law_wide (hr.mono (by omega)) rfl (pa_cons (pv 2) (pa_cons pe_int (pa_cons (pv 0) pa_nil)))))) pss_nil)
  (C8.pss_cut (ps_if (PW.pt (pw_and (pt_cmpR op_eq (pv 1) pe_int (nomark _)) (pw_and1 (pt_cmpR op_lt (pe_ix ix_list (pv 2) pe_int (fun _ _ => rfl)) pe_int (nomark _))))) (pss_one (ps_ret (pe_lc (own := [("k", 6)]) (g := gName 6) (tt := tYes) (by rfl) sc__law_draw_row.nd (pi_range1 (by rfl) T.b_range (pa_cons (pv 0) pa_nil)) (blkOk_by (N := N__law_draw_row) (sc := defScope s__law_draw_row) (by decide +kernel)) (fun _ _ _ _ _ => (pg_name (i := 6) sc__law_draw_row.nd rfl (Or.inl rfl))) (fun _ _ _ _ _ => pts_nil) (fun _ _ _ _ _ => pe_int)))) pss_nil)
  (pss_cons (ps_if (pt_cmpR op_eq (pv 1) pe_int (nomark _)) (pss_one (ps_ret (pe_lc (own := [("k", 6)]) (g := gName 6) (tt := tYes) (by rfl) sc__law_draw_row.nd (pi_range1 (by rfl) T.b_range (pa_cons (pv 0) pa_nil)) (blkOk_by (N := N__law_draw_row) (sc := defScope s__law_draw_row) (by decide +kernel)) (fun _ _ _ _ _ => (pg_name (i := 6) sc__law_draw_row.nd rfl (Or.inl rfl))) (fun _ _ _ _ _ => pts_nil) (fun _ _ _ _ _ => (pe_op op_mulW (pe_op op_sub (pe_ix (ix_listK (K := K) rfl) (pv 2) (pv 6) (fun _ _ => rfl)) pe_int) (pe_callTy call_int1 (by rfl) T.b_int (by decide +kernel) (pa_cons (pe_cmpR op_ge (pe_ix (ix_listK (K := K) rfl) (pv 2) (pv 6) (fun _ _ => rfl)) pe_int (nomark _)) pa_nil))))))) pss_nil)
  (pss_one (ps_ret (pv 3))))))))), ?_⟩
  have rg : (-(2 ^ 62) : Int) ≤ (n : Int) ∧ (n : Int) < 2 ^ 62 := ⟨by omega, by omega⟩
  refine ⟨_, rfl, (n : Int), rfl, by omega, by omega, fun D hD => ?_⟩
  refine lc_m (walk_range (lo := 0) (n := n)) RI (stb_RI (K := K)) (List.range n) (by rw [List.length_range]) (by rw [List.length_range]; omega) hD (fun _ _ => trivial) (fun _ _ _ _ => ys_fn) (fun k => z k - 3) (fun c i x H1 H2 hc s1 s2 yl A B hA => ?_) (fun H1 l s1 hl1 rs => ?_)
  · obtain ⟨hc1, rfl⟩ := in_range hc
    rw [yl.2]
    exact ⟨rfl, lc_yes ⟨_, rfl, _, rfl, p, _, _, _, rfl, rfl, SqL.of (s2 _ _ hp), ixv (by omega), _, _, rfl, rfl, hA _ _ (fun _ _ h => h) rfl⟩⟩
  have hs : H1 D = some (.lst ((vec n fun k => z k - 3).map V.int)) := by rw [hl1, rs.ints]; rfl
  have bs : ∀ i, i < n → B 60 (z i - 3) := fun i hi => B60 (by have := h7 i (by omega); omega)
  have hp1 := s1 _ _ hp
  -- 1
  refine ⟨fun σ' H' => σ' = [some (.int n), some (.int k), some (.ref p), some (.ref D), none, none, none] ∧ H' = H1, ?_, ?_⟩
  · refine ⟨_, rfl, _, _, rfl, rfl, _, rfl, ite2 (fun c1 => ?_) (fun _ => ⟨rfl, rfl⟩)⟩
    have hn1 : 1 < (n : Int) := of_decide_eq_true c1
    refine ⟨_, rfl, rfl, _, rfl, ite2 (fun _ => ?_) (fun _ => ⟨rfl, rfl⟩)⟩
    refine ⟨_, rfl, p, _, 0, _, rfl, rfl, SqL.of hp1, ixa (k := 0) (by decide) rfl (by omega), .inl ⟨_, rfl, _, rfl, _, _, rfl, rfl, (by show (0 : Int) < n; omega), ?_⟩⟩
    refine ⟨_, rfl, _, _, rfl, rfl, _, rfl, p, _, 1, _, rfl, rfl, SqL.of hp1, ixa (k := 1) (by decide) rfl (by omega), .inl ⟨_, rfl, _, rfl, _, _, rfl, rfl, _, _, rfl, rfl, (by show (0 : Int) < (n : Int) - 1; omega), _, _, rfl, rfl, .inl ⟨_, rfl, _, rfl, _, _, rfl, rfl, (by show (0 : Int) < n; omega), ?_⟩⟩⟩
    refine ⟨_, rfl, (n : Int), rfl, rg.1, rg.2, fun D2 hD2 => ?_⟩
    refine lc_m (walk_range (lo := 0) (n := n)) RI (stb_RI (K := K)) (List.range n) (by rw [List.length_range]) (by rw [List.length_range]; omega) hD2 (fun _ _ => trivial) (fun _ _ _ _ => ys_fn) (fun (i : Nat) => b2 (decide (V.int (0 + (i : Int)) = V.int (z 0 % (n : Int)))) - b2 (decide (V.int (0 + (i : Int)) = V.int ((z 0 % (n : Int) + 1 + z 1 % ((n : Int) - 1)) % (n : Int))))) (fun c i x H3 H4 hc s3 s4 yl A B hA => ?_) (fun H3 l s3 hl3 rs => ?_)
    · obtain ⟨hc1, rfl⟩ := in_range hc
      rw [yl.2]
      exact ⟨rfl, lc_yes ⟨_, rfl, _, rfl, rfl, .inr ⟨_, rfl, _, rfl, _, rfl, rfl, .inr ⟨_, rfl, _, _, rfl, rfl, hA _ _ (fun _ _ h => h) rfl⟩⟩⟩⟩
    · refine q D2 H3 _ (none_of s1 hD2) (s1.trans s3) (by rw [hl3, rs.ints]; rfl) fun i hi => B60 ?_
      have h1 := b2_le (decide (V.int (0 + (i : Int)) = V.int (z 0 % (n : Int))))
      have h2 := b2_le (decide (V.int (0 + (i : Int)) = V.int ((z 0 % (n : Int) + 1 + z 1 % ((n : Int) - 1)) % (n : Int))))
      omega
  rintro σ H' ⟨rfl, rfl⟩
  -- 2
  refine ⟨fun σ' H2 => σ' = [some (.int n), some (.int k), some (.ref p), some (.ref D), none, none, none] ∧ H2 = H', ?_, ?_⟩
  · refine ⟨_, rfl, _, _, rfl, rfl, _, rfl, ite2 (fun c1 => ?_) (fun _ => ⟨rfl, rfl⟩)⟩
    have hn1 : 1 < (n : Int) := of_decide_eq_true c1
    refine ⟨_, rfl, rfl, _, rfl, ite2 (fun _ => ?_) (fun _ => ⟨rfl, rfl⟩)⟩
    refine ⟨_, rfl, _, rfl, _, _, rfl, rfl, _, rfl, D, _, rfl, SqL.of hs, fun l2 hl2 => ?_⟩
    have s2 := same_new (H := H') hl2 (.lst (cutV ((vec n fun k => z k - 3).map V.int) none (some ((n : Int) - 1))))
    refine ⟨_, rfl, D, _, 0, _, rfl, rfl, SqL.of (s2 _ _ hs), ixa (k := 0) (by decide) rfl (by omega), line_ge (by show 1 ≤ 100000; decide), fun l3 hl3 => ?_⟩
    have s3 := same_new hl3 (.lst [V.int (z 0 - 3)])
    have hc := cut_head (m := n) (y := fun k => z k - 3) (a := n - 1) (z := (n : Int) - 1) (by omega) (by omega)
    refine ⟨l2, l3, _, _, rfl, rfl, s3 _ _ upd_same, upd_same, ?_, fun r hr' => ?_⟩
    · rw [hc, vec_lenV]
      exact line_ge (by show n - 1 + 1 ≤ 100000; omega)
    · refine q r _ (fun i => if i < n - 1 then z i - 3 else z 0 - 3) (none_of (s1.trans (s2.trans s3)) hr') (s1.trans (s2.trans (s3.trans (same_new hr' _)))) ?_ fun i hi => ?_
      · rw [upd_same, hc, show [V.int (z 0 - 3)] = (vec 1 fun _ => z 0 - 3).map V.int from rfl, vec_cat, show n - 1 + 1 = n by omega]
      · show B 60 (if i < n - 1 then z i - 3 else z 0 - 3)
        split
        · exact bs i hi
        · exact bs 0 (by omega)
  rintro σ H2 ⟨rfl, rfl⟩
  -- 3
  refine ⟨_, rfl, rfl, _, rfl, ite2 (fun c3 => ?_) (fun _ => ?_)⟩
  · have e3 : k = 3 := V.int.inj (of_decide_eq_true c3)
    obtain ⟨em, hz⟩ := h3 e3
    exact ⟨_, rfl, _, rfl, p, 15, n, m, z, rfl, hp1, by omega, hm2, hz, fun r H4 x hr0 s4 e4 b4 => q r H4 x (none_of s1 hr0) (s1.trans s4) e4 b4⟩
  -- 4
  refine ⟨fun σ' H4 => σ' = [some (.int n), some (.int k), some (.ref p), some (.ref D), none, none, none] ∧ H4 = H2, ?_, ?_⟩
  · refine ⟨_, rfl, rfl, _, rfl, ite2 (fun _ => ?_) (fun _ => ⟨rfl, rfl⟩)⟩
    refine ⟨_, rfl, p, _, 0, _, rfl, rfl, SqL.of hp1, ixa (k := 0) (by decide) rfl (by omega), _, _, rfl, rfl, _, rfl, ite2 (fun _ => ?_) (fun _ => ⟨rfl, rfl⟩)⟩
    refine ⟨_, rfl, (n : Int), rfl, rg.1, rg.2, fun D2 hD2 => ?_⟩
    refine lc_m (walk_range (lo := 0) (n := n)) RI (stb_RI (K := K)) (List.range n) (by rw [List.length_range]) (by rw [List.length_range]; omega) hD2 (fun _ _ => trivial) (fun _ _ _ _ => ys_fn) (fun _ => (0 : Int)) (fun c i x H5 H4 hc s3 s4 yl A B hA => ?_) (fun H4 l s3 hl3 rs => ?_)
    · rw [yl.2]
      exact ⟨rfl, lc_yes (hA _ _ (fun _ _ h => h) rfl)⟩
    · exact q D2 H4 _ (none_of s1 hD2) (s1.trans s3) (by rw [hl3, rs.ints]; rfl) fun i hi => B60 (by decide)
  rintro σ H4 ⟨rfl, rfl⟩
  -- 5
  refine ⟨_, rfl, rfl, _, rfl, ite2 (fun _ => ?_) (fun _ => ⟨_, rfl, q D H4 _ hD s1 hs bs⟩)⟩
  refine ⟨_, rfl, (n : Int), rfl, rg.1, rg.2, fun D2 hD2 => ?_⟩
  refine lc_m (walk_range (lo := 0) (n := n)) RI (stb_RI (K := K)) (List.range n) (by rw [List.length_range]) (by rw [List.length_range]; omega) hD2 (fun _ _ => trivial) (fun _ _ _ _ => ys_fn) (fun i => (z i - 3) * b2 (decide (z i ≥ 4))) (fun c i x H3 H4 hc s3 s4 yl A B hA => ?_) (fun H3 l s3 hl3 rs => ?_)
  · obtain ⟨hc1, rfl⟩ := in_range hc
    rw [yl.2]
    have b1 := h7 i (by omega)
    exact ⟨rfl, lc_yes ⟨_, rfl, _, rfl, p, _, _, _, rfl, rfl, SqL.of (s4 _ _ hp1), ixv (by omega), _, _, rfl, rfl, _, rfl, _, rfl, p, _, _, _, rfl, rfl, SqL.of (s4 _ _ hp1), ixv (by omega), _, _, rfl, rfl, .inr ⟨_, rfl, _, _, rfl, rfl, wmul (m := 40) (n := 40) (by show (z i - 3).natAbs < 2 ^ 40; omega) (by have := bi_le (decide (z i ≥ 4)); show (if decide (z i ≥ 4) = true then (1 : Int) else 0).natAbs < 2 ^ 40; omega) (by decide) (by decide) (by decide), hA _ _ (fun _ _ h => h) rfl⟩⟩⟩
  · refine q D2 H3 _ (none_of s1 hD2) (s1.trans s3) (by rw [hl3, rs.ints]; rfl) fun i hi => B60 ?_
    have b1 := h7 i (by omega)
    have := mulb (x := z i - 3) (by omega) (b2_01 (decide (z i ≥ 4)))
    omega
end
end P03
set_option exponentiation.threshold 3000
namespace P03
open PySem PySem.Spec PyProof.Rows L2 SX EX WK
theorem B.add {n : Nat} {x y : Int} (hx : B n x) (hy : B n y) : B (n + 1) (x + y) := by
  have h := Int.natAbs_add_le x y
  have h1 : x.natAbs < 2 ^ n := hx
  have h2 : y.natAbs < 2 ^ n := hy
  show (x + y).natAbs < 2 ^ (n + 1)
  rw [Nat.pow_succ]
  omega
theorem b_of {x m : Int} {n : Nat} (h0 : 0 ≤ x) (h1 : x < m) (hm : m.natAbs < 2 ^ n) : B n x := Nat.lt_of_le_of_lt (by omega) hm
def zs0 : List Int := [7, 7, 7, 7, 7, 7, 7, 7, 7, 7, 9, 1000, 10 ^ (40 : Int).toNat, 10 ^ (40 : Int).toNat, 10 ^ (37 : Int).toNat]
def zs2 (n : Nat) : List Int := (List.replicate n ([2000001, 1000000] : List Int)).flatten
theorem zs2_len (n : Nat) : (zs2 n).length = 2 * n := by
  unfold zs2
  induction n with
  | zero => rfl
  | succ n ih => rw [List.replicate_succ, List.flatten_cons, List.length_append, ih]; show 2 + 2 * n = _; omega
theorem zs2_mem {n : Nat} {z : Int} (h : z ∈ zs2 n) : z = 2000001 ∨ z = 1000000 := by
  unfold zs2 at h
  obtain ⟨l, hl, hz⟩ := List.mem_flatten.mp h
  rw [(List.mem_replicate.mp hl).2] at hz
  simpa using hz
theorem zs2_map (n : Nat) : (List.replicate n [V.int 2000001, V.int 1000000]).flatten = (zs2 n).map V.int := by
  unfold zs2
  rw [List.map_flatten, List.map_replicate]
  rfl
theorem szs {zs : List Int} (h : zs.all (fun z => decide (0 < z) && decide (z.natAbs < 2 ^ 2000)) = true) : ∀ z ∈ zs, 0 < z ∧ z.natAbs < 2 ^ 2000 := fun z hz => by
  have := List.all_eq_true.mp h z hz
  rw [Bool.and_eq_true] at this
  exact ⟨of_decide_eq_true this.1, of_decide_eq_true this.2⟩
theorem zs0_ok : ∀ z ∈ zs0, 0 < z ∧ z.natAbs < 2 ^ 2000 := szs (by decide +kernel)
theorem zs2_ok (n : Nat) : ∀ z ∈ zs2 n, 0 < z ∧ z.natAbs < 2 ^ 2000 := fun z hz => by
  rcases zs2_mem hz with e | e <;> (rw [e]; decide +kernel)
theorem one_line : 1 ≤ sizeLine := line_ge (by omega)
theorem five_line : 5 ≤ sizeLine := line_ge (by omega)
theorem p40B : ((10 : Int) ^ (40 : Int).toNat).natAbs < 2 ^ 133 := by decide +kernel
theorem p37B : ((10 : Int) ^ (37 : Int).toNat).natAbs < 2 ^ 123 := by decide +kernel
section
variable {P : Program} {w : World} {K : PySem.W.Frag} {mg : Str → Option Value} {base : Heap} {f : Addr} {fd : FuncData} {cF cR : Addr}
def spDpair : Sp := fun vs H Q _ => ∃ (c kind heavy : Int) (n : Nat), vs = [.int c, .int (n : Int), .int kind, .int heavy] ∧ n ≤ 10 ∧
  ∀ (p r : Addr) (q : RW) (H' : Hp), H p = none → H r = none → Same H H' → H' p = some (.lst [.ref r, .int q.2]) → H' r = some (.lst (q.1.map V.int)) → q.1.length = n → 1 ≤ q.2 → B 400 q.2 → (∀ x ∈ q.1, B 60 x) → Q (.ref p) H'
abbrev s__law_draw_pair : Stmt := top 45
abbrev N__law_draw_pair : List Str := ["cell", "size", "kind", "heavy", "sizes", "row", "weight"]
theorem sc__law_draw_pair : FnScope N__law_draw_pair ["cell", "size", "kind", "heavy"] (defScope s__law_draw_pair) := ⟨rfl, rfl, rfl, by decide +kernel, rfl, by decide +kernel, by decide +kernel⟩
theorem ok__law_draw_pair (F : Fun K "_law_draw_pair" "_law_draw_pair" s__law_draw_pair f fd) (T : Txt mg) (C__law_digits : Cal P w K mg base 1 "_law_digits" ["cell", "sizes"] (spDigits K)) (C__law_draw_row : Cal P w K mg base 2 "_law_draw_row" ["size", "kind", "row"] spDrow) :
    FnOk P w K mg base CX0 3 f fd ["cell", "size", "kind", "heavy"] spDpair := by
  refine F.ok sc__law_draw_pair (fun vs H Q E h => ?_) (fun cdv A outer s H vs Q E hr h => ?_)
  · obtain ⟨c, kind, heavy, n, rfl, _⟩ := h
    rfl
  obtain ⟨c, kind, heavy, n, rfl, hn, q⟩ := h
  refine ⟨_, (pss_cons (ps_set (i := 4) sc__law_draw_pair.nd rfl (Or.inl rfl) (pe_op op_cat (pe_op op_rep (pe_lst (pa_cons pe_int pa_nil)) pe_int) (pe_lst (pa_cons pe_int (pa_cons pe_int (pa_cons (pe_op op_pow pe_int pe_int) (pa_cons (pe_op op_pow pe_int pe_int) (pa_cons (pe_op op_pow pe_int pe_int) pa_nil))))))))
  (C8.pss_cut (ps_if (pt_cmpR op_eq (pv 2) pe_int (nomark _)) (pss_one (ps_set (i := 4) sc__law_draw_pair.nd rfl (Or.inl rfl) (pe_op op_cat (pv 4) (pe_op op_rep (pe_lst (pa_cons pe_int (pa_cons pe_int pa_nil))) (pv 1))))) pss_nil)
  (pss_cons (ps_set (i := 5) sc__law_draw_pair.nd rfl (Or.inl rfl) (pe_cal C__law_digits (hr.mono (by omega)) rfl (pa_cons (pv 0) (pa_cons (pv 4) pa_nil))))
  (pss_cons (ps_set (i := 6) sc__law_draw_pair.nd rfl (Or.inl rfl) (pe_op op_add pe_int (pe_ix ix_list (pv 5) pe_int (fun _ _ => rfl))))
  (C8.pss_cut (ps_if (pt_cmpR op_eq (pv 3) pe_int (nomark _)) (pss_one (ps_set (i := 6) sc__law_draw_pair.nd rfl (Or.inl rfl) pe_int)) pss_nil)
  (C8.pss_cut (ps_if (pt_cmpR op_eq (pv 3) pe_int (nomark _)) (pss_one (ps_set (i := 6) sc__law_draw_pair.nd rfl (Or.inl rfl) (pe_op op_add pe_int (pe_ix ix_list (pv 5) pe_int (fun _ _ => rfl))))) pss_nil)
  (C8.pss_cut (ps_if (pt_cmpR op_eq (pv 3) pe_int (nomark _)) (pss_one (ps_set (i := 6) sc__law_draw_pair.nd rfl (Or.inl rfl) (pe_op op_add (pe_op op_add (pe_op op_add pe_int (pe_ix ix_list (pv 5) pe_int (fun _ _ => rfl))) (pe_op op_mulW (pe_ix ix_list (pv 5) pe_int (fun _ _ => rfl)) (pe_op op_pow pe_int pe_int))) (pe_op op_mulW (pe_op op_mulW (pe_ix ix_list (pv 5) pe_int (fun _ _ => rfl)) (pe_op op_pow pe_int pe_int)) (pe_op op_pow pe_int pe_int))))) pss_nil)
  (pss_one (ps_ret (pe_lst (pa_cons (pe_cal C__law_draw_row (hr.mono (by omega)) rfl (pa_cons (pv 1) (pa_cons (pv 2) (pa_cons (pv 5) pa_nil)))) (pa_cons (pv 6) pa_nil)))))))))))), ?_⟩
  refine ⟨one_line, fun l1 hl1 => ⟨l1, 10, _, rfl, rfl, upd_same, by decide, by decide, line_ge (by decide), fun l2 hl2 => ?_⟩⟩
  refine ⟨_, _, rfl, rfl, ⟨by decide, by decide, by decide⟩, _, _, rfl, rfl, ⟨by decide, by decide, by decide⟩, _, _, rfl, rfl, ⟨by decide, by decide, by decide⟩, five_line, fun l3 hl3 => ?_⟩
  refine ⟨l2, l3, _, _, rfl, rfl, same_new hl3 _ _ _ upd_same, upd_same, line_ge (by decide), fun l4 hl4 => ?_⟩
  have s4 := fun o => (same_new hl1 (.lst [V.int 7])).trans ((same_new hl2 (.lst (List.replicate (10 : Int).toNat [V.int 7]).flatten)).trans ((same_new hl3 (.lst [V.int 9, V.int 1000, V.int (10 ^ (40 : Int).toNat), V.int (10 ^ (40 : Int).toNat), V.int (10 ^ (37 : Int).toNat)])).trans (same_new hl4 o)))
  refine ⟨fun σ' H' => ∃ (a : Addr) (t : List Int), σ' = [some (.int c), some (.int (n : Int)), some (.int kind), some (.int heavy), some (.ref a), none, none] ∧ Same H H' ∧ H' a = some (.lst ((zs0 ++ t).map V.int)) ∧ t.length ≤ 50 ∧ (∀ z ∈ t, 0 < z ∧ z.natAbs < 2 ^ 2000) ∧ (kind = 3 → t = zs2 n), ?_, ?_⟩
  · refine ⟨_, rfl, rfl, _, rfl, ite2 (fun _ => ?_) (fun hk => ⟨l4, [], rfl, s4 _, by rw [upd_same, List.append_nil]; rfl, by simp, by simp, fun e => absurd (by rw [e]; exact decide_eq_true rfl) hk⟩)⟩
    refine ⟨_, rfl, two_line, fun l5 hl5 => ⟨_, rfl, l5, (n : Int), _, rfl, rfl, upd_same, by omega, by omega, line_ge (by show 2 * ((n : Int).toNat) ≤ 100000; omega), fun l6 hl6 => ?_⟩⟩
    refine ⟨l4, l6, _, _, rfl, rfl, same_new hl6 _ _ _ (same_new hl5 _ _ _ upd_same), upd_same, ?_, fun l7 hl7 => ?_⟩
    · rw [List.length_flatten]
      refine line_ge ?_
      show 15 + _ ≤ 100000
      simp
      omega
    · refine ⟨l7, zs2 n, rfl, (s4 _).trans ((same_new hl5 _).trans ((same_new hl6 _).trans (same_new hl7 _))), ?_, by rw [zs2_len]; omega, zs2_ok n, fun _ => rfl⟩
      rw [upd_same, List.map_append, ← zs2_map]
      rfl
  rintro σ H1 ⟨a, t, rfl, s1, ha, ht, htz, hk3⟩
  refine ⟨_, rfl, _, rfl, c, a, zs0 ++ t, rfl, SqL.of ha, by rw [List.length_append]; show 15 + t.length ≤ 1000; omega, fun z hz => (List.mem_append.mp hz).elim (zs0_ok z) (htz z), fun b ns hb hd => ?_⟩
  have s2 := s1.trans (same_new hb (.lst (ns.map V.int)))
  have hb2 : (upd H1 b (.lst (ns.map V.int))) b = some (.lst (ns.map V.int)) := upd_same
  have hl : ns.length = 15 + t.length := by rw [hd.len, List.length_append]; rfl
  have dz : ∀ (i : Nat) (z : Int), zs0[i]? = some z → ∃ x : Int, (ns.map V.int)[i]? = some (.int x) ∧ 0 ≤ x ∧ x < z := fun i z h => dg hd (by rw [List.getElem?_append_left (List.getElem?_eq_some_iff.mp h).1]; exact h)
  obtain ⟨w10, e10, _, _⟩ := dz 10 9 rfl
  obtain ⟨w11, e11, _, _⟩ := dz 11 1000 rfl
  obtain ⟨w12, e12, g12, u12⟩ := dz 12 (10 ^ (40 : Int).toNat) rfl
  obtain ⟨w13, e13, g13, u13⟩ := dz 13 (10 ^ (40 : Int).toNat) rfl
  obtain ⟨w14, e14, g14, u14⟩ := dz 14 (10 ^ (37 : Int).toNat) rfl
  generalize upd H1 b (.lst (ns.map V.int)) = H2 at s2 hb2
  have hB := SqL.of (K := K) hb2
  refine ⟨_, rfl, b, _, 10, _, rfl, rfl, hB, at_pos (by decide) e10, _, _, rfl, rfl, ?_⟩
  refine ⟨fun σ' H' => ∃ w, σ' = [some (.int c), some (.int (n : Int)), some (.int kind), some (.int heavy), some (.ref a), some (.ref b), some (.int w)] ∧ H' = H2 ∧ 1 ≤ w ∧ B 400 w, ?_, ?_⟩
  · exact ⟨_, rfl, rfl, _, rfl, ite2 (fun _ => ⟨1, rfl, rfl, by decide, by decide⟩) (fun _ => ⟨_, rfl, rfl, by omega, (B60 (by omega)).mono (by decide)⟩)⟩
  rintro σ H3 ⟨w1, rfl, rfl, hw1, hw1B⟩
  refine ⟨fun σ' H' => ∃ w, σ' = [some (.int c), some (.int (n : Int)), some (.int kind), some (.int heavy), some (.ref a), some (.ref b), some (.int w)] ∧ H' = H3 ∧ 1 ≤ w ∧ B 400 w, ?_, ?_⟩
  · refine ⟨_, rfl, rfl, _, rfl, ite2 (fun _ => ?_) (fun _ => ⟨_, rfl, rfl, hw1, hw1B⟩)⟩
    exact ⟨_, rfl, b, _, 11, _, rfl, rfl, hB, at_pos (by decide) e11, _, _, rfl, rfl, _, rfl, rfl, by omega, (B60 (by omega)).mono (by decide)⟩
  rintro σ H4 ⟨w2, rfl, rfl, hw2, hw2B⟩
  refine ⟨fun σ' H' => ∃ w, σ' = [some (.int c), some (.int (n : Int)), some (.int kind), some (.int heavy), some (.ref a), some (.ref b), some (.int w)] ∧ H' = H4 ∧ 1 ≤ w ∧ B 400 w, ?_, ?_⟩
  · refine ⟨_, rfl, rfl, _, rfl, ite2 (fun _ => ?_) (fun _ => ⟨_, rfl, rfl, hw2, hw2B⟩)⟩
    have p40 : (0 : Int) ≤ 10 ^ (40 : Int).toNat := by decide +kernel
    have b12 : B 133 w12 := b_of g12 u12 p40B
    have b13 : B 133 w13 := b_of g13 u13 p40B
    have b14 : B 123 w14 := b_of g14 u14 p37B
    have bA : B 266 (w13 * 10 ^ (40 : Int).toNat) := B.mul (m := 133) (n := 133) b13 p40B
    have bC : B 256 (w14 * 10 ^ (40 : Int).toNat) := B.mul (m := 123) (n := 133) b14 p40B
    have bD : B 389 (w14 * 10 ^ (40 : Int).toNat * 10 ^ (40 : Int).toNat) := B.mul (m := 256) (n := 133) bC p40B
    have n1 := Int.mul_nonneg g13 p40
    have n2 := Int.mul_nonneg (Int.mul_nonneg g14 p40) p40
    refine ⟨_, rfl, b, _, 12, _, rfl, rfl, hB, at_pos (by decide) e12, _, _, rfl, rfl, ?_⟩
    refine ⟨_, rfl, b, _, 13, _, rfl, rfl, hB, at_pos (by decide) e13, _, _, rfl, rfl, ⟨by decide, by decide, by decide⟩, _, _, rfl, rfl, wmul (m := 133) (n := 133) b13 p40B (by decide) (by decide) (by decide), _, _, rfl, rfl, ?_⟩
    refine ⟨_, rfl, b, _, 14, _, rfl, rfl, hB, at_pos (by decide) e14, _, _, rfl, rfl, ⟨by decide, by decide, by decide⟩, _, _, rfl, rfl, wmul (m := 123) (n := 133) b14 p40B (by decide) (by decide) (by decide), _, _, rfl, rfl, ⟨by decide, by decide, by decide⟩, _, _, rfl, rfl, wmul (m := 256) (n := 133) bC p40B (by decide) (by decide) (by decide), _, _, rfl, rfl, ?_⟩
    refine ⟨_, rfl, rfl, by omega, ?_⟩
    exact ((((by decide : B 390 1).mono (by decide) : B 390 1).add (b12.mono (by decide))).add ((bA.mono (by decide) : B 391 _))).add (bD.mono (by decide)) |>.mono (by decide)
  rintro σ H5 ⟨w3, rfl, rfl, hw3, hw3B⟩
  have ev := vec_of hl
  have yz : ∀ i, i < 15 + t.length → ∃ z, (zs0 ++ t)[i]? = some z ∧ 0 ≤ ns.getD i 0 ∧ ns.getD i 0 < z := fun i hi => by
    have hi2 : i < (zs0 ++ t).length := by rw [List.length_append]; exact hi
    have e := List.getElem?_eq_getElem hi2
    obtain ⟨x, h1, h2, h3⟩ := hd.get e
    exact ⟨_, e, by rw [List.getD_eq_getElem?_getD, h1]; exact h2, by rw [List.getD_eq_getElem?_getD, h1]; exact h3⟩
  refine ⟨_, rfl, _, rfl, _, rfl, b, n, 15 + t.length, kind, (fun i => ns.getD i 0), rfl, by rw [hb2, ← ev], by omega, by omega, fun i hi => ?_, fun e3 => ?_, hn, fun r H6 x hr0 s6 hr6 bx => ?_⟩
  · obtain ⟨z, h1, h2, h3⟩ := yz i (by omega)
    have : ∀ j, j < 10 → zs0[j]? = some (7 : Int) := by decide
    rw [List.getElem?_append_left (by show i < 15; omega), this i hi] at h1
    cases h1
    exact ⟨h2, h3⟩
  · have et := hk3 e3
    refine ⟨by rw [et, zs2_len], fun i h15 hi => ?_⟩
    obtain ⟨z, h1, h2, h3⟩ := yz i hi
    rw [List.getElem?_append_right (by exact h15)] at h1
    have hm := List.mem_of_getElem? h1
    rw [et] at hm
    have h4 : z ≤ 2000001 := by
      rcases zs2_mem hm with e | e <;> omega
    exact ⟨h2, Int.lt_of_lt_of_le h3 h4⟩
  · refine ⟨_, rfl, two_line, fun p hp => ?_⟩
    refine q p r (vec n x, w3) _ (none_of (s2.trans s6) hp) (none_of s2 hr0) ((s2.trans s6).trans (same_new hp _)) upd_same ?_ vec_len hw3 hw3B (vec_mem bx)
    rw [upd_ne (ne_of_none hr6 hp)]
    exact hr6
end
end P03
set_option exponentiation.threshold 3000
namespace P03
open PySem PySem.Spec PyProof.Rows L2 SX EX WK
def zsP : List Int := [8, 21, 21, 21, 21, 21, 21, 21, 21, 21, 21]
theorem zsP_ok : ∀ z ∈ zsP, 0 < z ∧ z.natAbs < 2 ^ 2000 := szs (by decide +kernel)
section
variable {P : Program} {w : World} {K : PySem.W.Frag} {mg : Str → Option Value} {base : Heap} {f : Addr} {fd : FuncData} {cF cR : Addr}
def spDpoint : Sp := fun vs H Q _ => ∃ (c : Int) (n : Nat) (a : Addr) (z : Nat → Int), vs = [.int c, .int (n : Int), .ref a] ∧ n ≤ 10 ∧ H a = some (.lst ((vec n z).map V.int)) ∧ (∀ i, i < n → B 60 (z i)) ∧
  ∀ (r : Addr) (x : Nat → Int) (H' : Hp), Same H H' → H' r = some (.lst ((vec n x).map V.int)) → (∀ i, i < n → B 60 (x i)) → Q (.ref r) H'
abbrev s__law_draw_point : Stmt := top 46
abbrev N__law_draw_point : List Str := ["cell", "size", "row", "plan", "small", "k"]
theorem sc__law_draw_point : FnScope N__law_draw_point ["cell", "size", "row"] (defScope s__law_draw_point) := ⟨rfl, rfl, rfl, by decide +kernel, rfl, by decide +kernel, by decide +kernel⟩
theorem ok__law_draw_point (F : Fun K "_law_draw_point" "_law_draw_point" s__law_draw_point f fd) (T : Txt mg) (C__law_digits : Cal P w K mg base 1 "_law_digits" ["cell", "sizes"] (spDigits K)) (C__law_wide : Cal P w K mg base 1 "_law_wide" ["row", "begin", "size"] spWide) :
    FnOk P w K mg base CX0 2 f fd ["cell", "size", "row"] spDpoint := by
  refine F.ok sc__law_draw_point (fun vs H Q E h => ?_) (fun cdv A outer s H vs Q E hr h => ?_)
  · obtain ⟨c, n, a, z, rfl, _⟩ := h
    rfl
  obtain ⟨c, n, a, z, rfl, hn, ha, bz, q⟩ := h
  refine ⟨_, (pss_cons (ps_set (i := 3) sc__law_draw_point.nd rfl (Or.inr rfl) (pe_cal C__law_digits (hr.mono (by omega)) rfl (pa_cons (pv 0) (pa_cons (pe_op op_cat (pe_op op_cat (pe_lst (pa_cons pe_int pa_nil)) (pe_op op_rep (pe_lst (pa_cons pe_int pa_nil)) pe_int)) (pe_op op_rep (pe_lst (pa_cons pe_int (pa_cons pe_int pa_nil))) (pv 1))) pa_nil))))
  (pss_cons (ps_setLc (i := 4) (own := [("k", 5)]) (g := gName 5) (tt := tYes) (by rfl) sc__law_draw_point.nd rfl rfl (sw_true rfl rfl rfl (by decide +kernel)) (pi_range1 (by rfl) T.b_range (pa_cons (pv 1) pa_nil)) (blkOk_by (N := N__law_draw_point) (sc := defScope s__law_draw_point) (by decide +kernel)) (fun _ _ _ _ _ => (pg_name (i := 5) sc__law_draw_point.nd rfl (Or.inl rfl))) (fun _ _ _ _ _ => pts_nil) (fun _ _ _ _ _ => (pe_op op_sub (pe_ix (ix_listK (K := K) rfl) (pv 3) (pe_op op_add pe_int (pv 5)) (fun _ _ => rfl)) pe_int)))
  (pss_cons (ps_if (pt_cmpR op_eq (pe_ix ix_list (pv 3) pe_int (fun _ _ => rfl)) pe_int (nomark _)) (pss_one (ps_ret (pe_cal C__law_wide (hr.mono (by omega)) rfl (pa_cons (pv 3) (pa_cons pe_int (pa_cons (pv 1) pa_nil)))))) pss_nil)
  (pss_cons (ps_if (pt_cmpR op_eq (pe_ix ix_list (pv 3) pe_int (fun _ _ => rfl)) pe_int (nomark _)) (pss_one (ps_ret (pe_lc (own := [("k", 5)]) (g := gName 5) (tt := tYes) (by rfl) sc__law_draw_point.nd (pi_range1 (by rfl) T.b_range (pa_cons (pv 1) pa_nil)) (blkOk_by (N := N__law_draw_point) (sc := defScope s__law_draw_point) (by decide +kernel)) (fun _ _ _ _ _ => (pg_name (i := 5) sc__law_draw_point.nd rfl (Or.inl rfl))) (fun _ _ _ _ _ => pts_nil) (fun _ _ _ _ _ => (pe_op op_sub (pe_ix (ix_listK (K := K) rfl) (pv 3) pe_int (fun _ _ => rfl)) pe_int))))) pss_nil)
  (C8.pss_cut (ps_if (PW.pt (pw_and (pt_cmpR op_eq (pe_ix ix_list (pv 3) pe_int (fun _ _ => rfl)) pe_int (nomark _)) (pw_and1 (pt_cmpR op_gt (pv 1) pe_int (nomark _))))) (pss_one (ps_ret (pe_lc (own := [("k", 5)]) (g := gName 5) (tt := tYes) (by rfl) sc__law_draw_point.nd (pi_range1 (by rfl) T.b_range (pa_cons (pv 1) pa_nil)) (blkOk_by (N := N__law_draw_point) (sc := defScope s__law_draw_point) (by decide +kernel)) (fun _ _ _ _ _ => (pg_name (i := 5) sc__law_draw_point.nd rfl (Or.inl rfl))) (fun _ _ _ _ _ => pts_nil) (fun _ _ _ _ _ => (pe_op op_sub (pe_callTy call_int1 (by rfl) T.b_int (by decide +kernel) (pa_cons (pe_cmpR op_eq (pv 5) pe_int (nomark _)) pa_nil)) (pe_callTy call_int1 (by rfl) T.b_int (by decide +kernel) (pa_cons (pe_cmpR op_eq (pv 5) (pe_op op_sub (pv 1) pe_int) (nomark _)) pa_nil))))))) pss_nil)
  (C8.pss_cut (ps_if (PW.pt (pw_and (pt_cmpR op_eq (pe_ix ix_list (pv 3) pe_int (fun _ _ => rfl)) pe_int (nomark _)) (pw_and1 (pt_cmpR op_gt (pv 1) pe_int (nomark _))))) (pss_one (ps_ret (pe_op op_cat (pe_lst (pa_cons (pe_un un_neg (pe_ix ix_list (pv 2) pe_int (fun _ _ => rfl))) (pa_cons (pe_ix ix_list (pv 2) pe_int (fun _ _ => rfl)) pa_nil))) (pe_lc (own := [("k", 5)]) (g := gName 5) (tt := tYes) (by rfl) sc__law_draw_point.nd (pi_range1 (by rfl) T.b_range (pa_cons (pe_op op_sub (pv 1) pe_int) pa_nil)) (blkOk_by (N := N__law_draw_point) (sc := defScope s__law_draw_point) (by decide +kernel)) (fun _ _ _ _ _ => (pg_name (i := 5) sc__law_draw_point.nd rfl (Or.inl rfl))) (fun _ _ _ _ _ => pts_nil) (fun _ _ _ _ _ => pe_int))))) pss_nil)
  (pss_cons (ps_if (pt_cmpR op_eq (pe_ix ix_list (pv 3) pe_int (fun _ _ => rfl)) pe_int (nomark _)) (pss_one (ps_ret (pe_lc (own := [("k", 5)]) (g := gName 5) (tt := tYes) (by rfl) sc__law_draw_point.nd (pi_range1 (by rfl) T.b_range (pa_cons (pv 1) pa_nil)) (blkOk_by (N := N__law_draw_point) (sc := defScope s__law_draw_point) (by decide +kernel)) (fun _ _ _ _ _ => (pg_name (i := 5) sc__law_draw_point.nd rfl (Or.inl rfl))) (fun _ _ _ _ _ => pts_nil) (fun _ _ _ _ _ => (pe_callTy call_int1 (by rfl) T.b_int (by decide +kernel) (pa_cons (pe_cmpR op_eq (pv 5) (pe_ix (ix_listK (K := K) rfl) (pv 3) pe_int (fun _ _ => rfl)) (nomark _)) pa_nil)))))) pss_nil)
  (pss_one (ps_ret (pv 4)))))))))), ?_⟩
  have rg : (-(2 ^ 62) : Int) ≤ (n : Int) ∧ (n : Int) < 2 ^ 62 := ⟨by omega, by omega⟩
  refine ⟨_, rfl, one_line, fun l1 hl1 => ⟨one_line, fun l2 hl2 => ⟨l2, 10, _, rfl, rfl, upd_same, by decide, by decide, line_ge (by decide), fun l3 hl3 => ?_⟩⟩⟩
  refine ⟨l1, l3, _, _, rfl, rfl, same_new hl3 _ _ _ (same_new hl2 _ _ _ upd_same), upd_same, line_ge (by decide), fun l4 hl4 => ?_⟩
  refine ⟨two_line, fun l5 hl5 => ⟨_, rfl, l5, (n : Int), _, rfl, rfl, upd_same, by omega, by omega, line_ge (by show 2 * ((n : Int).toNat) ≤ 100000; omega), fun l6 hl6 => ?_⟩⟩
  refine ⟨l4, l6, _, _, rfl, rfl, same_new hl6 _ _ _ (same_new hl5 _ _ _ upd_same), upd_same, ?_, fun l7 hl7 => ?_⟩
  · refine line_ge ?_
    rw [show ((n : Int).toNat) = n by omega, zs2_map, List.length_map, zs2_len]
    show 11 + 2 * n ≤ 100000
    omega
  have s7 := fun o => (same_new hl1 (.lst [V.int 8])).trans ((same_new hl2 (.lst [V.int 21])).trans ((same_new hl3 (.lst (List.replicate (10 : Int).toNat [V.int 21]).flatten)).trans ((same_new hl4 (.lst ([V.int 8] ++ (List.replicate (10 : Int).toNat [V.int 21]).flatten))).trans ((same_new hl5 (.lst [V.int 2000001, V.int 1000000])).trans ((same_new hl6 (.lst (List.replicate (n : Int).toNat [V.int 2000001, V.int 1000000]).flatten)).trans (same_new hl7 o))))))
  refine ⟨c, l7, zsP ++ zs2 n, rfl, SqL.of (by rw [upd_same, show ((n : Int).toNat) = n by omega, zs2_map, List.map_append]; rfl), by rw [List.length_append, zs2_len]; show 11 + 2 * n ≤ 1000; omega, fun z hz => (List.mem_append.mp hz).elim (zsP_ok z) (zs2_ok n z), fun b ns hb hd => ?_⟩
  have s2 := (s7 _).trans (same_new hb (.lst (ns.map V.int)))
  generalize hH2 : upd _ b (.lst (ns.map V.int)) = H2
  rw [hH2] at s2
  have hb2 : H2 b = some (.lst (ns.map V.int)) := by rw [← hH2, upd_same]
  clear hH2
  have hl : ns.length = 11 + 2 * n := by rw [hd.len, List.length_append, zs2_len]; rfl
  have yz : ∀ i, i < 11 + 2 * n → ∃ z, (zsP ++ zs2 n)[i]? = some z ∧ 0 ≤ ns.getD i 0 ∧ ns.getD i 0 < z := fun i hi => by
    have hi2 : i < (zsP ++ zs2 n).length := by rw [List.length_append, zs2_len]; exact hi
    have e := List.getElem?_eq_getElem hi2
    obtain ⟨x, h1, h2, h3⟩ := hd.get e
    exact ⟨_, e, by rw [List.getD_eq_getElem?_getD, h1]; exact h2, by rw [List.getD_eq_getElem?_getD, h1]; exact h3⟩
  have y21 : ∀ i, i < 11 → 0 ≤ ns.getD i 0 ∧ ns.getD i 0 < 21 := fun i hi => by
    obtain ⟨z, h1, h2, h3⟩ := yz i (by omega)
    have : ∀ j, j < 11 → ∃ z, zsP[j]? = some z ∧ z ≤ 21 := fun j hj => by
      have hj2 : j < zsP.length := hj
      have all : ∀ z ∈ zsP, z ≤ 21 := by decide
      exact ⟨_, List.getElem?_eq_getElem hj2, all _ (List.getElem_mem hj2)⟩
    obtain ⟨z2, h4, h5⟩ := this i hi
    rw [List.getElem?_append_left (by show i < 11; exact hi), h4] at h1
    cases h1
    exact ⟨h2, Int.lt_of_lt_of_le h3 h5⟩
  have yw : ∀ i, 11 ≤ i → i < 11 + 2 * n → 0 ≤ ns.getD i 0 ∧ ns.getD i 0 < 2000001 := fun i h11 hi => by
    obtain ⟨z, h1, h2, h3⟩ := yz i hi
    rw [List.getElem?_append_right (by exact h11)] at h1
    have h4 : z ≤ 2000001 := by
      rcases zs2_mem (List.mem_of_getElem? h1) with e | e <;> omega
    exact ⟨h2, Int.lt_of_lt_of_le h3 h4⟩
  have ev := vec_of hl
  rw [ev] at hb2
  generalize hy : (fun i => ns.getD i 0) = y at hb2
  have y21' : ∀ i, i < 11 → 0 ≤ y i ∧ y i < 21 := fun i hi => by rw [← hy]; exact y21 i hi
  have yw' : ∀ i, 11 ≤ i → i < 11 + 2 * n → 0 ≤ y i ∧ y i < 2000001 := fun i h1 hi => by rw [← hy]; exact yw i h1 hi
  clear yz y21 yw hy
  -- small
  refine ⟨_, rfl, (n : Int), rfl, rg.1, rg.2, fun D hD => ?_⟩
  refine lc_m (walk_range (lo := 0) (n := n)) RI (stb_RI (K := K)) (List.range n) (by rw [List.length_range]) (by rw [List.length_range]; omega) hD (fun _ _ => trivial) (fun _ _ _ _ => ys_fn) (fun k => y (1 + k) - 10) (fun c i x H4 H5 hc s1 s3 yl A B hA => ?_) (fun H1 l s1 hl1 rs => ?_)
  · obtain ⟨hc1, rfl⟩ := in_range hc
    rw [yl.2]
    exact ⟨rfl, lc_yes ⟨_, rfl, _, rfl, _, _, rfl, rfl, b, _, _, _, rfl, rfl, SqL.of (s3 _ _ hb2), ixa (k := 1 + i) (by omega) (by omega) (by omega), _, _, rfl, rfl, hA _ _ (fun _ _ h => h) rfl⟩⟩
  have hs : H1 D = some (.lst ((vec n fun k => y (1 + k) - 10).map V.int)) := by rw [hl1, rs.ints]; rfl
  have hb3 := s1 _ _ hb2
  have sA := s2.trans s1
  have ha1 := sA _ _ ha
  have hbS := SqL.of (K := K) hb3
  have e0 : atI ((vec (11 + 2 * n) y).map V.int) 0 = some (.int (y 0)) := ixa (k := 0) (by decide) rfl (by omega)
  have e1 : atI ((vec (11 + 2 * n) y).map V.int) 1 = some (.int (y 1)) := ixa (k := 1) (by decide) rfl (by omega)
  have b1 := y21' 1 (by decide)
  -- 3
  refine ⟨_, rfl, b, _, 0, _, rfl, rfl, hbS, e0, rfl, _, rfl, ite2 (fun _ => ?_) (fun _ => ?_)⟩
  · exact ⟨_, rfl, _, rfl, b, 11, n, 11 + 2 * n, y, rfl, hb3, by omega, by omega, yw', fun r H4 x _ s4 e4 b4 => q r x H4 (sA.trans s4) e4 b4⟩
  -- 4
  refine ⟨_, rfl, b, _, 0, _, rfl, rfl, hbS, e0, rfl, _, rfl, ite2 (fun _ => ?_) (fun _ => ?_)⟩
  · refine ⟨_, rfl, (n : Int), rfl, rg.1, rg.2, fun D2 hD2 => ?_⟩
    refine lc_m (walk_range (lo := 0) (n := n)) RI (stb_RI (K := K)) (List.range n) (by rw [List.length_range]) (by rw [List.length_range]; omega) hD2 (fun _ _ => trivial) (fun _ _ _ _ => ys_fn) (fun _ => y 1 - 10) (fun c i x H5 H4 hc s3 s4 yl A B hA => ?_) (fun H4 l s3 hl3 rs => ?_)
    · rw [yl.2]
      exact ⟨rfl, lc_yes ⟨_, rfl, b, _, 1, _, rfl, rfl, SqL.of (s4 _ _ hb3), e1, _, _, rfl, rfl, hA _ _ (fun _ _ h => h) rfl⟩⟩
    · exact q D2 _ H4 (sA.trans s3) (by rw [hl3, rs.ints]; rfl) fun i hi => B60 (by omega)
  -- 5
  refine ⟨fun σ' H' => σ' = [some (.int c), some (.int (n : Int)), some (.ref a), some (.ref b), some (.ref D), none] ∧ H' = H1, ?_, ?_⟩
  · refine ⟨_, rfl, b, _, 0, _, rfl, rfl, hbS, e0, rfl, _, rfl, ite2 (fun _ => ?_) (fun _ => ⟨rfl, rfl⟩)⟩
    refine ⟨_, rfl, _, _, rfl, rfl, _, rfl, ite2 (fun c1 => ?_) (fun _ => ⟨rfl, rfl⟩)⟩
    refine ⟨_, rfl, (n : Int), rfl, rg.1, rg.2, fun D2 hD2 => ?_⟩
    refine lc_m (walk_range (lo := 0) (n := n)) RI (stb_RI (K := K)) (List.range n) (by rw [List.length_range]) (by rw [List.length_range]; omega) hD2 (fun _ _ => trivial) (fun _ _ _ _ => ys_fn) (fun (i : Nat) => b2 (decide (V.int (0 + (i : Int)) = V.int 0)) - b2 (decide (V.int (0 + (i : Int)) = V.int ((n : Int) - 1)))) (fun c i x H3 H4 hc s3 s4 yl A B hA => ?_) (fun H3 l s3 hl3 rs => ?_)
    · obtain ⟨hc1, rfl⟩ := in_range hc
      rw [yl.2]
      exact ⟨rfl, lc_yes ⟨_, rfl, rfl, .inr ⟨_, rfl, _, rfl, _, rfl, _, _, rfl, rfl, rfl, .inr ⟨_, rfl, _, _, rfl, rfl, hA _ _ (fun _ _ h => h) rfl⟩⟩⟩⟩
    · refine q D2 _ H3 (sA.trans s3) (by rw [hl3, rs.ints]; rfl) fun i hi => B60 ?_
      have h1 := b2_le (decide (V.int (0 + (i : Int)) = V.int 0))
      have h2 := b2_le (decide (V.int (0 + (i : Int)) = V.int ((n : Int) - 1)))
      omega
  rintro σ H' ⟨rfl, rfl⟩
  -- 6
  refine ⟨fun σ' H2 => σ' = [some (.int c), some (.int (n : Int)), some (.ref a), some (.ref b), some (.ref D), none] ∧ H2 = H', ?_, ?_⟩
  · refine ⟨_, rfl, b, _, 0, _, rfl, rfl, hbS, e0, rfl, _, rfl, ite2 (fun _ => ?_) (fun _ => ⟨rfl, rfl⟩)⟩
    refine ⟨_, rfl, _, _, rfl, rfl, _, rfl, ite2 (fun c1 => ?_) (fun _ => ⟨rfl, rfl⟩)⟩
    have hn1 : 1 < (n : Int) := of_decide_eq_true c1
    refine ⟨_, rfl, a, _, 1, _, rfl, rfl, SqL.of ha1, ixa (k := 1) (by decide) rfl (by omega), _, rfl, _, rfl, a, _, 0, _, rfl, rfl, SqL.of ha1, ixa (k := 0) (by decide) rfl (by omega), two_line, fun l8 hl8 => ?_⟩
    refine ⟨_, rfl, _, _, rfl, rfl, (n : Int) - 2, rfl, by omega, by omega, fun D2 hD2 => ?_⟩
    refine lc_m (walk_range (lo := 0) (n := ((n : Int) - 2).toNat)) RI (stb_RI (K := K)) (List.range (n - 2)) (by rw [List.length_range]; omega) (by rw [List.length_range]; omega) hD2 (fun _ _ => trivial) (fun _ _ _ _ => ys_fn) (fun _ => (0 : Int)) (fun c i x H5 H4 hc s3 s4 yl A B hA => ?_) (fun H4 l s3 hl3 rs => ?_)
    · rw [yl.2]
      exact ⟨rfl, lc_yes (hA _ _ (fun _ _ h => h) rfl)⟩
    have hl4 : H4 D2 = some (.lst ((vec (n - 2) fun _ => 0).map V.int)) := by rw [hl3, rs.ints]; rfl
    refine ⟨l8, D2, _, _, rfl, rfl, s3 _ _ upd_same, hl4, ?_, fun r hr' => ?_⟩
    · rw [vec_lenV]
      refine line_ge ?_
      show 2 + (n - 2) ≤ 100000
      omega
    · refine q r (fun i => if i < 2 then (if i = 0 then -z 1 else z 0) else 0) _ (sA.trans ((same_new hl8 _).trans (s3.trans (same_new hr' _)))) ?_ fun i hi => ?_
      · rw [upd_same, show [V.int (-z 1), V.int (z 0)] = (vec 2 fun i => if i = 0 then -z 1 else z 0).map V.int from rfl, vec_cat, show 2 + (n - 2) = n by omega]
      · show B 60 (if i < 2 then (if i = 0 then -z 1 else z 0) else 0)
        split
        · split
          · have := bz 1 (by omega)
            show (-z 1).natAbs < 2 ^ 60
            rw [Int.natAbs_neg]
            exact this
          · exact bz 0 (by omega)
        · decide
  rintro σ H2 ⟨rfl, rfl⟩
  -- 7
  refine ⟨_, rfl, b, _, 0, _, rfl, rfl, hbS, e0, rfl, _, rfl, ite2 (fun _ => ?_) (fun _ => ?_)⟩
  · refine ⟨_, rfl, (n : Int), rfl, rg.1, rg.2, fun D2 hD2 => ?_⟩
    refine lc_m (walk_range (lo := 0) (n := n)) RI (stb_RI (K := K)) (List.range n) (by rw [List.length_range]) (by rw [List.length_range]; omega) hD2 (fun _ _ => trivial) (fun _ _ _ _ => ys_fn) (fun (i : Nat) => b2 (decide (V.int (0 + (i : Int)) = V.int (y 1)))) (fun c i x H3 H4 hc s3 s4 yl A B hA => ?_) (fun H3 l s3 hl3 rs => ?_)
    · obtain ⟨hc1, rfl⟩ := in_range hc
      rw [yl.2]
      exact ⟨rfl, lc_yes ⟨_, rfl, _, rfl, b, _, 1, _, rfl, rfl, SqL.of (s4 _ _ hb3), e1, rfl, .inr ⟨_, rfl, hA _ _ (fun _ _ h => h) rfl⟩⟩⟩
    · refine q D2 _ H3 (sA.trans s3) (by rw [hl3, rs.ints]; rfl) fun i hi => B60 ?_
      have h1 := b2_le (decide (V.int (0 + (i : Int)) = V.int (y 1)))
      omega
  exact ⟨_, rfl, q D _ _ sA hs fun i hi => B60 (by have := y21' (1 + i) (by omega); omega)⟩
end
end P03
set_option exponentiation.threshold 3000
namespace P03
open PySem PySem.Spec PyProof.Rows L2 SX EX WK
theorem lkRs (n e b f : V) : ([("size", n), ("pairs", e), ("bottom", b), ("form", f)] : List (Str × V)).lookup ("size" : Str) = some n := by rw [lk_hit]
theorem lkRp (n e b f : V) : ([("size", n), ("pairs", e), ("bottom", b), ("form", f)] : List (Str × V)).lookup ("pairs" : Str) = some e := by rw [lk_skip (by decide +kernel), lk_hit]
theorem lkRb (n e b f : V) : ([("size", n), ("pairs", e), ("bottom", b), ("form", f)] : List (Str × V)).lookup ("bottom" : Str) = some b := by rw [lk_skip (by decide +kernel), lk_skip (by decide +kernel), lk_hit]
theorem lkRf (n e b f : V) : ([("size", n), ("pairs", e), ("bottom", b), ("form", f)] : List (Str × V)).lookup ("form" : Str) = some f := by rw [lk_skip (by decide +kernel), lk_skip (by decide +kernel), lk_skip (by decide +kernel), lk_hit]
theorem lkRx {x : Str} (n e b f : V) (h1 : ¬ x = ("size" : Str)) (h2 : ¬ x = ("pairs" : Str)) (h3 : ¬ x = ("bottom" : Str)) (h4 : ¬ x = ("form" : Str)) : ([("size", n), ("pairs", e), ("bottom", b), ("form", f)] : List (Str × V)).lookup x = none := by
  rw [lk_skip h1, lk_skip h2, lk_skip h3, lk_skip h4]
  rfl
theorem sc_len (g : Int) (ps : List RW) : (P03.sc g ps).length = ps.length := by unfold P03.sc; rw [List.length_map]
theorem sc_sc (g t : Int) (ps : List RW) : P03.sc g (P03.sc t ps) = P03.sc t (P03.sc g ps) := by
  unfold P03.sc
  rw [List.map_map, List.map_map]
  refine List.map_congr_left fun p _ => ?_
  show (p.1, g * (t * p.2)) = (p.1, t * (g * p.2))
  rw [Int.mul_left_comm]
theorem DOk.sc {m k j n : Nat} {ps : List RW} {b t d : Int} (h : DOk m k n ps b) (ht : 0 < t) (hd : 0 < d) (ht2 : B j t) (hd2 : B j d) : DOk m (k + j) n (P03.sc t ps) (b * d) := by
  refine ⟨by rw [sc_len]; exact h.len, h.n10, fun p hp => ?_, Int.mul_pos h.bot hd, B.mul h.bB hd2⟩
  obtain ⟨q, hq, rfl⟩ := List.mem_map.mp hp
  obtain ⟨h1, h2, h3, h4⟩ := h.row q hq
  refine ⟨h1, Int.mul_pos ht h2, ?_, h4⟩
  show B (k + j) (t * q.2)
  rw [Int.mul_comm]
  exact B.mul h3 ht2
theorem DOk.cat {m1 m2 k1 k2 n : Nat} {ps os : List RW} {b c : Int} (h : DOk m1 k1 n ps b) (g : DOk m2 k2 n os c) : DOk (m1 + m2) (k1 + k2) n (P03.sc c ps ++ P03.sc b os) (b * c) := by
  refine ⟨by rw [List.length_append, sc_len, sc_len]; have := h.len; have := g.len; omega, h.n10, fun p hp => ?_, Int.mul_pos h.bot g.bot, B.mul h.bB g.bB⟩
  rcases List.mem_append.mp hp with hp | hp
  · obtain ⟨q, hq, rfl⟩ := List.mem_map.mp hp
    obtain ⟨h1, h2, h3, h4⟩ := h.row q hq
    refine ⟨h1, Int.mul_pos g.bot h2, ?_, h4⟩
    show B (k1 + k2) (c * q.2)
    rw [Int.mul_comm]
    exact B.mul h3 g.bB
  · obtain ⟨q, hq, rfl⟩ := List.mem_map.mp hp
    obtain ⟨h1, h2, h3, h4⟩ := g.row q hq
    exact ⟨h1, Int.mul_pos h.bot h2, B.mul h.bB h3, h4⟩
theorem DOk.pick {m k n : Nat} {ps os : List RW} {b : Int} (h : DOk m k n ps b) (hs : ∀ p ∈ os, p ∈ ps) {m2 : Nat} (hl : os.length ≤ m2) : DOk m2 k n os b := ⟨hl, h.n10, fun p hp => h.row p (hs p hp), h.bot, h.bB⟩
section
variable {P : Program} {w : World} {K : PySem.W.Frag} {mg : Str → Option Value} {base : Heap} {f : Addr} {fd : FuncData} {cF cR : Addr}
def spLen (K : PySem.W.Frag) (cF cR : Addr) : Sp := fun vs H Q _ => ∃ (p : Addr) (n : Nat) (ps : List RW) (b : Int), vs = [.ref p] ∧ RowsAt K H cF cR p n ps b ∧ Q (.int (ps.length : Nat)) H
abbrev s_mLen : Stmt := mth 32 1
abbrev N_mLen : List Str := ["self"]
theorem sc_mLen : FnScope N_mLen ["self"] (defScope s_mLen) := ⟨rfl, rfl, rfl, by decide +kernel, rfl, by decide +kernel, by decide +kernel⟩
theorem ok_mLen (F : Fun K "__len__" "RowList.__len__" s_mLen f fd) (T : Txt mg) (O : Obs K cF cR) : FnOk P w K mg base CX0 1 f fd ["self"] (spLen K cF cR) := by
  refine F.ok sc_mLen (fun vs H Q E h => ?_) (fun cdv A outer s H vs Q E hr h => ?_)
  · obtain ⟨p, n, ps, b, rfl, _⟩ := h
    rfl
  obtain ⟨p, n, ps, b, rfl, ⟨dx, e, F1, hi, hz, _⟩, q⟩ := h
  refine ⟨_, (pss_one (ps_ret (pe_callB call_len_seq (by rfl) T.b_len PySem.boot_len (pa_cons (pe_fld (pv 0) rfl) pa_nil)))), ?_⟩
  obtain ⟨a, vs, ea, he, hl, _⟩ := fz_prs hz
  cases ea
  refine ⟨_, rfl, p, cR, dx, _, _, rfl, hi, O.clR, O.R_pairs, lkRp _ _ _ _, _, _, rfl, .inr he, ?_⟩
  rw [hl]
  exact q
abbrev s_mIter : Stmt := mth 32 2
abbrev N_mIter : List Str := ["self"]
theorem sc_mIter : FnScope N_mIter ["self"] (defScope s_mIter) := ⟨rfl, rfl, rfl, by decide +kernel, rfl, by decide +kernel, by decide +kernel⟩
theorem ok_mIter (F : Fun K "__iter__" "RowList.__iter__" s_mIter f fd) (T : Txt mg) (O : Obs K cF cR) : KO.FnS P w K mg base CX0 1 f fd ["self"] (KO.spIter K cR "pairs") := by
  refine KO.fnS_of F sc_mIter (fun n vs H Q E h => ?_) (fun cdv A outer s H vs Q E hr h => ?_)
  · obtain ⟨a, dx, fs, t, xs, rfl, _⟩ := h
    rfl
  obtain ⟨a, dx, fs, t, xs, rfl, hi, hl, ht, q⟩ := h
  refine ⟨_, (pss_one (ps_ret (pe_callB KO.call_iterT (by rfl) T.b_iter (by decide +kernel) (pa_cons (pe_fld (pv 0) rfl) pa_nil)))), ?_⟩
  exact ⟨_, rfl, a, cR, dx, _, _, rfl, hi, O.clR, O.R_pairs, hl, t, xs, rfl, ht, fun it h1 h2 => q it h1 h2⟩
/-- what a new list of these pairs is -/
theorem made {H H' H3 : Hp} {x dx : Addr} {n : Nat} {ps : List RW} {b : Int} (hx : H' x = none) (hd : H' dx = none) (s : Same H H') (hR : RowsAt K H3 cF cR x n (dp ps (gf b (ws ps))) (b / gf b (ws ps))) (hb : But x (upd (upd H' dx (.own x)) x (.ins cR dx [])) H3) : Same H H3 ∧ Low K H3 cF cR x n ps b :=
  ⟨s.trans (made_same hx hd hb), hR⟩
def spScaled (K : PySem.W.Frag) (cF cR : Addr) : Sp := fun vs H Q _ => ∃ (p a : Addr) (m k n : Nat) (ps : List RW) (b t d : Int), vs = [.ref p, .ref a] ∧ Low K H cF cR p n ps b ∧ DOk m k n ps b ∧ m ≤ 1000 ∧ k ≤ 1000 ∧ (SqL K H a [.int t, .int d] ∨ SqT K H a [.int t, .int d]) ∧ 0 < t ∧ 0 < d ∧ B 210 t ∧ B 210 d ∧
  ∀ r H', Same H H' → Low K H' cF cR r n (P03.sc t ps) (b * d) → Q (.ref r) H'
abbrev s_mScaled : Stmt := mth 32 5
abbrev N_mScaled : List Str := ["self", "factor", "top", "divisor", "row", "weight"]
theorem sc_mScaled : FnScope N_mScaled ["self", "factor"] (defScope s_mScaled) := ⟨rfl, rfl, rfl, by decide +kernel, rfl, by decide +kernel, by decide +kernel⟩
theorem ok_mScaled (F : Fun K "scaled" "RowList.scaled" s_mScaled f fd) (T : Txt mg) (O : Obs K cF cR) (C_RowList : CalK P w K mg base 6 "RowList" cR 2 ["bottom"] (spRows K cF cR)) : FnOk P w K mg base CX0 8 f fd ["self", "factor"] (spScaled K cF cR) := by
  refine F.ok sc_mScaled (fun vs H Q E h => ?_) (fun cdv A outer s H vs Q E hr h => ?_)
  · obtain ⟨p, a, m, k, n, ps, b, t, d, rfl, _⟩ := h
    rfl
  obtain ⟨p, a, m, k, n, ps, b, t, d, rfl, hlow, hok, hm, hk, ha, ht, hd, htB, hdB, q⟩ := h
  refine ⟨_, (pss_cons (ps_asg (pv 1) (pg_or (pg_lst rfl (pgs_cons (pg_name (i := 2) sc_mScaled.nd rfl (Or.inr rfl)) (pgs_cons (pg_name (i := 3) sc_mScaled.nd rfl (Or.inl rfl)) pgs_nil))) (pg_tup rfl (pgs_cons (pg_name (i := 2) sc_mScaled.nd rfl (Or.inr rfl)) (pgs_cons (pg_name (i := 3) sc_mScaled.nd rfl (Or.inl rfl)) pgs_nil)))))
  (pss_one (ps_ret (pe_calK C_RowList (hr.mono (by omega)) rfl (pa_cons (pe_fld (pv 0) rfl) (pa_cons (pe_lc (own := [("row", 4), ("weight", 5)]) (tt := tYes) (by rfl) sc_mScaled.nd (pi_tup (pe_fld (pv 0) rfl)) (blkOk_by (N := N_mScaled) (sc := defScope s_mScaled) (by decide +kernel)) (fun _ _ _ _ _ => (pg_tupK (K := K) (n := 2) rfl rfl (pgs_cons (pg_name (i := 4) sc_mScaled.nd rfl (Or.inl rfl)) (pgs_cons (pg_name (i := 5) sc_mScaled.nd rfl (Or.inl rfl)) pgs_nil)))) (fun _ _ _ _ _ => pts_nil) (fun _ _ _ _ _ => (pe_tup (pa_cons (pv 4) (pa_cons (pe_op op_mulW (pv 2) (pv 5)) pa_nil))))) pa_nil)) (pk_cons (pe_op op_mulW (pe_fld (pv 0) rfl) (pv 3)) pk_nil))))), ?_⟩
  have hb0 : 0 < b := hok.bot
  have hg := lg_pos (ps := ps) hb0
  have hokL := hok.low
  obtain ⟨dx, e, F1, hi, hz, hF⟩ := id hlow
  obtain ⟨e', vs, ee, he, hl, hrow⟩ := fz_prs hz
  cases ee
  have bt : ∀ p ∈ lp ps b, CMulW t p.2 := fun p hp => wmul (htB.mono (n := 1000) (by decide)) ((hokL.row p hp).2.2.1.mono hk) (by decide) (by decide) (by decide)
  rcases ha with ha | ha
  · refine ⟨_, rfl, .inl ⟨_, _, rfl, ha, rfl, _, _, rfl, _, _, rfl, rfl, ?_⟩⟩
    refine ⟨_, rfl, p, cR, dx, _, _, rfl, hi, O.clR, O.R_size, lkRs _ _ _ _, ?_⟩
    refine ⟨_, rfl, p, cR, dx, _, _, rfl, hi, O.clR, O.R_pairs, lkRp _ _ _ _, _, rfl, ⟨_, he⟩, fun D hD => ?_⟩
    refine lc_m (walk_tup (K := K) (a := e) (xs := vs)) (Fz K) stb_Fz (lp ps b) hl (by have := hokL.len; omega) hD (fun H' s => Same_seqT s he) (fun _ _ _ _ => ys_at) (fun p => tdr (p.1, t * p.2)) (fun i q x H1 H2 hb1 s1 s2 y A B hA => ?_) (fun H1 l s1 hl1 rs => ?_)
    · obtain ⟨q1, r1, hq1, hq2, hq3⟩ := hrow i q hb1
      rw [y.2] at hq1
      cases hq1
      refine ⟨_, _, rfl, Same_seqT s2 hq2, rfl, _, _, rfl, _, _, rfl, rfl, rfl, lc_yes ?_⟩
      refine ⟨_, rfl, _, rfl, _, rfl, _, _, rfl, rfl, bt q (List.mem_of_getElem? hb1), two_line, fun z hz2 => hA _ _ (same_new hz2 _) ?_⟩
      exact .tup (SqT.of upd_same) (.cons (.tup (Same_seqT (same_new hz2 _) (Same_seqT s2 hq3)) (FzAll.of_ints _)) (.cons (.int _) .nil))
    have e1 : ((lp ps b).map fun p => tdr (p.1, t * p.2)) = (P03.sc t (lp ps b)).map tdr := by
      unfold P03.sc
      rw [List.map_map]
      rfl
    have hsn : Sn K H1 (.ref D) (.tup ((P03.sc t (lp ps b)).map tdr)) := by
      rw [← e1]
      exact .lst hl1 rs.fz.sn
    have hok2 := hokL.sc (t := t) (d := d) ht hd htB hdB
    refine ⟨_, rfl, p, cR, dx, _, _, rfl, s1 _ _ hi, O.clR, O.R_bottom, lkRb _ _ _ _, _, rfl, _, _, rfl, rfl, wmul (hokL.bB.mono hk) (hdB.mono (n := 1000) (by decide)) (by decide) (by decide) (by decide), rfl, rfl, fun x dx2 hx hdx hne => ?_⟩
    refine ⟨x, dx2, _, n, _, _, rfl, upd_same, hsn.same (new_two hx hdx), hok2.prs hm (by omega), by have := hok.n10; omega, Int.mul_pos hokL.bot hd, hok2.bB.mono (by omega), fun H3 hR hbut => ⟨rfl, ?_⟩⟩
    obtain ⟨s3, hL⟩ := made hx hdx s1 hR hbut
    refine q x H3 s3 ?_
    have h2 := hL.sc hg (Int.mul_pos hokL.bot hd)
    rw [sc_sc, lp_back hb0, ← Int.mul_assoc, lb_back] at h2
    exact h2
  · refine ⟨_, rfl, .inr ⟨_, _, rfl, ha, rfl, _, _, rfl, _, _, rfl, rfl, ?_⟩⟩
    refine ⟨_, rfl, p, cR, dx, _, _, rfl, hi, O.clR, O.R_size, lkRs _ _ _ _, ?_⟩
    refine ⟨_, rfl, p, cR, dx, _, _, rfl, hi, O.clR, O.R_pairs, lkRp _ _ _ _, _, rfl, ⟨_, he⟩, fun D hD => ?_⟩
    refine lc_m (walk_tup (K := K) (a := e) (xs := vs)) (Fz K) stb_Fz (lp ps b) hl (by have := hokL.len; omega) hD (fun H' s => Same_seqT s he) (fun _ _ _ _ => ys_at) (fun p => tdr (p.1, t * p.2)) (fun i q x H1 H2 hb1 s1 s2 y A B hA => ?_) (fun H1 l s1 hl1 rs => ?_)
    · obtain ⟨q1, r1, hq1, hq2, hq3⟩ := hrow i q hb1
      rw [y.2] at hq1
      cases hq1
      refine ⟨_, _, rfl, Same_seqT s2 hq2, rfl, _, _, rfl, _, _, rfl, rfl, rfl, lc_yes ?_⟩
      refine ⟨_, rfl, _, rfl, _, rfl, _, _, rfl, rfl, bt q (List.mem_of_getElem? hb1), two_line, fun z hz2 => hA _ _ (same_new hz2 _) ?_⟩
      exact .tup (SqT.of upd_same) (.cons (.tup (Same_seqT (same_new hz2 _) (Same_seqT s2 hq3)) (FzAll.of_ints _)) (.cons (.int _) .nil))
    have e1 : ((lp ps b).map fun p => tdr (p.1, t * p.2)) = (P03.sc t (lp ps b)).map tdr := by
      unfold P03.sc
      rw [List.map_map]
      rfl
    have hsn : Sn K H1 (.ref D) (.tup ((P03.sc t (lp ps b)).map tdr)) := by
      rw [← e1]
      exact .lst hl1 rs.fz.sn
    have hok2 := hokL.sc (t := t) (d := d) ht hd htB hdB
    refine ⟨_, rfl, p, cR, dx, _, _, rfl, s1 _ _ hi, O.clR, O.R_bottom, lkRb _ _ _ _, _, rfl, _, _, rfl, rfl, wmul (hokL.bB.mono hk) (hdB.mono (n := 1000) (by decide)) (by decide) (by decide) (by decide), rfl, rfl, fun x dx2 hx hdx hne => ?_⟩
    refine ⟨x, dx2, _, n, _, _, rfl, upd_same, hsn.same (new_two hx hdx), hok2.prs hm (by omega), by have := hok.n10; omega, Int.mul_pos hokL.bot hd, hok2.bB.mono (by omega), fun H3 hR hbut => ⟨rfl, ?_⟩⟩
    obtain ⟨s3, hL⟩ := made hx hdx s1 hR hbut
    refine q x H3 s3 ?_
    have h2 := hL.sc hg (Int.mul_pos hokL.bot hd)
    rw [sc_sc, lp_back hb0, ← Int.mul_assoc, lb_back] at h2
    exact h2
def spPicked (K : PySem.W.Frag) (cF cR : Addr) : Sp := fun vs H Q _ => ∃ (p a : Addr) (m k n : Nat) (ps : List RW) (b : Int) (ks : List Nat), vs = [.ref p, .ref a] ∧ Low K H cF cR p n ps b ∧ DOk m k n ps b ∧ m ≤ 1000 ∧ k ≤ 1400 ∧ (SqL K H a (ks.map fun k => V.int (k : Nat)) ∨ SqT K H a (ks.map fun k => V.int (k : Nat))) ∧ (∀ k ∈ ks, k < ps.length) ∧ ks.length ≤ 1000 ∧
  ∀ r H', Same H H' → Low K H' cF cR r n (ks.map fun k => ps.getD k ([], 0)) b → Q (.ref r) H'
theorem pick_mem {ps : List RW} {ks : List Nat} (h : ∀ k ∈ ks, k < ps.length) : ∀ p ∈ ks.map (fun k => ps.getD k ([], 0)), p ∈ ps := fun p hp => by
  obtain ⟨k, hk, rfl⟩ := List.mem_map.mp hp
  rw [List.getD_eq_getElem?_getD, List.getElem?_eq_getElem (h k hk)]
  exact List.getElem_mem _
theorem pick_sc {g : Int} {ps : List RW} {ks : List Nat} (h : ∀ k ∈ ks, k < ps.length) : P03.sc g (ks.map fun k => ps.getD k ([], 0)) = ks.map fun k => (P03.sc g ps).getD k ([], 0) := by
  unfold P03.sc
  rw [List.map_map]
  refine List.map_congr_left fun k hk => ?_
  show ((ps.getD k ([], 0)).1, g * (ps.getD k ([], 0)).2) = (ps.map fun p => (p.1, g * p.2)).getD k ([], 0)
  rw [List.getD_eq_getElem?_getD, List.getD_eq_getElem?_getD, List.getElem?_map, List.getElem?_eq_getElem (h k hk)]
  rfl
abbrev s_mPicked : Stmt := mth 32 6
abbrev N_mPicked : List Str := ["self", "indexes", "index"]
theorem sc_mPicked : FnScope N_mPicked ["self", "indexes"] (defScope s_mPicked) := ⟨rfl, rfl, rfl, by decide +kernel, rfl, by decide +kernel, by decide +kernel⟩
theorem ok_mPicked (F : Fun K "picked" "RowList.picked" s_mPicked f fd) (T : Txt mg) (O : Obs K cF cR) (C_RowList : CalK P w K mg base 6 "RowList" cR 2 ["bottom"] (spRows K cF cR)) : FnOk P w K mg base CX0 8 f fd ["self", "indexes"] (spPicked K cF cR) := by
  refine F.ok sc_mPicked (fun vs H Q E h => ?_) (fun cdv A outer s H vs Q E hr h => ?_)
  · obtain ⟨p, a, m, k, n, ps, b, ks, rfl, _⟩ := h
    rfl
  obtain ⟨p, a, m, k, n, ps, b, ks, rfl, hlow, hok, hm, hk, ha, hks, hkl, q⟩ := h
  refine ⟨_, (pss_one (ps_ret (pe_calK C_RowList (hr.mono (by omega)) rfl (pa_cons (pe_fld (pv 0) rfl) (pa_cons (pe_lc (own := [("index", 2)]) (g := gName 2) (tt := tYes) (by rfl) sc_mPicked.nd (pi_or (pi_list (pv 1)) (pi_tup (pv 1))) (blkOk_by (N := N_mPicked) (sc := defScope s_mPicked) (by decide +kernel)) (fun _ _ _ _ _ => (pg_name (i := 2) sc_mPicked.nd rfl (Or.inl rfl))) (fun _ _ _ _ _ => pts_nil) (fun _ _ _ _ _ => (pe_ix (ix_tupK (K := K) rfl) (pe_fldK (K := K) rfl (pv 0) rfl) (pv 2) (fun _ _ => rfl)))) pa_nil)) (pk_cons (pe_fld (pv 0) rfl) pk_nil)))), ?_⟩
  have hb0 : 0 < b := hok.bot
  have hg := lg_pos (ps := ps) hb0
  have hokL := hok.low
  obtain ⟨dx, e, F1, hi, hz, hF⟩ := id hlow
  obtain ⟨e', vs, ee, he, hl, hrow⟩ := fz_prs hz
  cases ee
  have hlp : (lp ps b).length = ps.length := by show (dp ps _).length = _; unfold dp; rw [List.length_map]
  refine ⟨_, rfl, p, cR, dx, _, _, rfl, hi, O.clR, O.R_size, lkRs _ _ _ _, ?_⟩
  rcases ha with ha | ha
  · refine .inl ⟨_, rfl, a, rfl, ⟨_, ha⟩, fun D hD => ?_⟩
    refine lc_m (walk_list (K := K) (a := a) (xs := ks.map fun k => V.int (k : Nat))) (Fz K) stb_Fz ks (List.length_map ..) (by omega) hD (fun H' s => s.seq ha) (fun _ _ _ _ => ys_at) (fun k => tdr ((lp ps b).getD k ([], 0))) (fun i j x H1 H2 hb1 s1 s2 y A B hA => ?_) (fun H1 l s1 hl1 rs => ?_)
    · have hj : j < ps.length := hks j (List.mem_of_getElem? hb1)
      have hx : x = V.int (j : Nat) := by
        have e := y.2
        rw [List.getElem?_map, hb1] at e
        exact (Option.some.inj e).symm
      subst hx
      obtain ⟨q0, hq0⟩ : ∃ q0, (lp ps b)[j]? = some q0 := ⟨_, List.getElem?_eq_getElem (by omega)⟩
      obtain ⟨q1, r1, hq1, hq2, hq3⟩ := hrow j q0 hq0
      refine ⟨rfl, lc_yes ⟨_, rfl, p, cR, dx, _, _, rfl, s2 _ _ hi, O.clR, O.R_pairs, lkRp _ _ _ _, _, rfl, e, _, _, _, rfl, rfl, Same_seqT s2 he, at_pos (by omega) (by rw [Int.toNat_natCast]; exact hq1), hA _ _ (fun _ _ h => h) ?_⟩⟩
      show Fz K H2 (.ref q1) (tdr ((lp ps b).getD j ([], 0)))
      rw [List.getD_eq_getElem?_getD, hq0]
      exact .tup (Same_seqT s2 hq2) (.cons (.tup (Same_seqT s2 hq3) (FzAll.of_ints _)) (.cons (.int _) .nil))
    have e1 : (ks.map fun k => tdr ((lp ps b).getD k ([], 0))) = (ks.map fun k => (lp ps b).getD k ([], 0)).map tdr := by
      rw [List.map_map]
      rfl
    have hsn : Sn K H1 (.ref D) (.tup ((ks.map fun k => (lp ps b).getD k ([], 0)).map tdr)) := by
      rw [← e1]
      exact .lst hl1 rs.fz.sn
    have hok2 := hokL.pick (pick_mem (ps := lp ps b) (ks := ks) fun k hk => by rw [hlp]; exact hks k hk) (m2 := 1000) (by rw [List.length_map]; exact hkl)
    refine ⟨_, rfl, p, cR, dx, _, _, rfl, s1 _ _ hi, O.clR, O.R_bottom, lkRb _ _ _ _, rfl, rfl, fun x dx2 hx hdx hne => ?_⟩
    refine ⟨x, dx2, _, n, _, _, rfl, upd_same, hsn.same (new_two hx hdx), hok2.prs (by omega) hk, by have := hok.n10; omega, hokL.bot, hok2.bB.mono (by omega), fun H3 hR hbut => ⟨rfl, ?_⟩⟩
    obtain ⟨s3, hL⟩ := made hx hdx s1 hR hbut
    refine q x H3 s3 ?_
    have h2 := hL.sc hg hokL.bot
    rw [pick_sc (fun k hk => by rw [hlp]; exact hks k hk), lp_back hb0, lb_back] at h2
    exact h2
  · refine .inr ⟨_, rfl, a, rfl, ⟨_, ha⟩, fun D hD => ?_⟩
    refine lc_m (walk_tup (K := K) (a := a) (xs := ks.map fun k => V.int (k : Nat))) (Fz K) stb_Fz ks (List.length_map ..) (by omega) hD (fun H' s => Same_seqT s ha) (fun _ _ _ _ => ys_at) (fun k => tdr ((lp ps b).getD k ([], 0))) (fun i j x H1 H2 hb1 s1 s2 y A B hA => ?_) (fun H1 l s1 hl1 rs => ?_)
    · have hj : j < ps.length := hks j (List.mem_of_getElem? hb1)
      have hx : x = V.int (j : Nat) := by
        have e := y.2
        rw [List.getElem?_map, hb1] at e
        exact (Option.some.inj e).symm
      subst hx
      obtain ⟨q0, hq0⟩ : ∃ q0, (lp ps b)[j]? = some q0 := ⟨_, List.getElem?_eq_getElem (by omega)⟩
      obtain ⟨q1, r1, hq1, hq2, hq3⟩ := hrow j q0 hq0
      refine ⟨rfl, lc_yes ⟨_, rfl, p, cR, dx, _, _, rfl, s2 _ _ hi, O.clR, O.R_pairs, lkRp _ _ _ _, _, rfl, e, _, _, _, rfl, rfl, Same_seqT s2 he, at_pos (by omega) (by rw [Int.toNat_natCast]; exact hq1), hA _ _ (fun _ _ h => h) ?_⟩⟩
      show Fz K H2 (.ref q1) (tdr ((lp ps b).getD j ([], 0)))
      rw [List.getD_eq_getElem?_getD, hq0]
      exact .tup (Same_seqT s2 hq2) (.cons (.tup (Same_seqT s2 hq3) (FzAll.of_ints _)) (.cons (.int _) .nil))
    have e1 : (ks.map fun k => tdr ((lp ps b).getD k ([], 0))) = (ks.map fun k => (lp ps b).getD k ([], 0)).map tdr := by
      rw [List.map_map]
      rfl
    have hsn : Sn K H1 (.ref D) (.tup ((ks.map fun k => (lp ps b).getD k ([], 0)).map tdr)) := by
      rw [← e1]
      exact .lst hl1 rs.fz.sn
    have hok2 := hokL.pick (pick_mem (ps := lp ps b) (ks := ks) fun k hk => by rw [hlp]; exact hks k hk) (m2 := 1000) (by rw [List.length_map]; exact hkl)
    refine ⟨_, rfl, p, cR, dx, _, _, rfl, s1 _ _ hi, O.clR, O.R_bottom, lkRb _ _ _ _, rfl, rfl, fun x dx2 hx hdx hne => ?_⟩
    refine ⟨x, dx2, _, n, _, _, rfl, upd_same, hsn.same (new_two hx hdx), hok2.prs (by omega) hk, by have := hok.n10; omega, hokL.bot, hok2.bB.mono (by omega), fun H3 hR hbut => ⟨rfl, ?_⟩⟩
    obtain ⟨s3, hL⟩ := made hx hdx s1 hR hbut
    refine q x H3 s3 ?_
    have h2 := hL.sc hg hokL.bot
    rw [pick_sc (fun k hk => by rw [hlp]; exact hks k hk), lp_back hb0, lb_back] at h2
    exact h2
end
end P03
set_option exponentiation.threshold 3000
namespace P03
open PySem PySem.Spec PyProof.Rows L2 SX EX WK
/-- the names of the classes -/
structure Gls (mg : Str → Option Value) (cF cR cS cE cW cC cD cB cI cT : Addr) : Prop where
  g_Form : mg "Form" = some (.ref cF)
  g_RowList : mg "RowList" = some (.ref cR)
  g_SizesDiffer : mg "SizesDiffer" = some (.ref cS)
  g_BadRow : mg "BadRow" = some (.ref cE)
  g_BadWeight : mg "BadWeight" = some (.ref cW)
  g_CableError : mg "CableError" = some (.ref cC)
  g_CountsDiffer : mg "CountsDiffer" = some (.ref cD)
  g_BadBundle : mg "BadBundle" = some (.ref cB)
  g_BadIndex : mg "BadIndex" = some (.ref cI)
  g_BadTie : mg "BadTie" = some (.ref cT)
/-- what an object of a class is -/
structure Frm (K : PySem.W.Frag) (cF cR : Addr) : Prop where
  kF : PySem.W.kitOne K (.ref cF) (.ref cF) = some true
  kR : PySem.W.kitOne K (.ref cR) (.ref cR) = some true
  kFR : PySem.W.kitOne K (.ref cF) (.ref cR) = some false
  kTR : PySem.W.kitOne K (.type "tuple") (.ref cR) = some false
  f1 : PySem.W.findIn K (.ref cF) "__class__" = some (some (.builtin "object.__class__"))
  r1 : PySem.W.findIn K (.ref cR) "__class__" = some (some (.builtin "object.__class__"))
  c2 : PySem.W.specialIn K (.builtin "object.__class__") "__get__" = some (some (.builtin "getset_descriptor.__get__"))
  c3 : PySem.W.takesIn K (.builtin "object.__class__") = some true
  f4 : PySem.W.mroIn K cF (.type "object") = some true
  r4 : PySem.W.mroIn K cR (.type "object") = some true
theorem isRows {K : PySem.W.Frag} {cF cR : Addr} (U : Frm K cF cR) (cl : Cls K cR) {H : Hp} {p dx : Addr} {l : List (Str × V)} (h : H p = some (.ins cR dx l)) : TyX K H (.ref p) (.ref cR) := .base (.ins h cl U.r1 U.c2 U.c3 U.r4)
theorem isForm {K : PySem.W.Frag} {cF cR : Addr} (U : Frm K cF cR) (cl : Cls K cF) {H : Hp} {p dx : Addr} {l : List (Str × V)} (h : H p = some (.ins cF dx l)) : TyX K H (.ref p) (.ref cF) := .base (.ins h cl U.f1 U.c2 U.c3 U.f4)
/-! ### data -/
mutual
theorem td_lay : ∀ t : Td, t.py.canLay0 = true
  | .int i => by simp [Td.py, PyData.canLay0]
  | .tup ts => by
    rw [Td.py, PyData.canLay0]
    exact td_lays ts
theorem td_lays : ∀ ts : List Td, PyData.canLayAll0 (Td.pys ts) = true
  | [] => rfl
  | t :: ts => by
    rw [Td.pys, PyData.canLayAll0, td_lay t, td_lays ts]
    rfl
end
mutual
theorem td_dep : ∀ t : Td, t.py.depth ≤ t.dep
  | .int i => by simp [Td.py, PyData.depth]
  | .tup ts => by
    have h := td_deps ts
    simp only [Td.py, PyData.depth, Td.dep]
    omega
theorem td_deps : ∀ ts : List Td, PyData.depthAll (Td.pys ts) ≤ Td.deps ts
  | [] => Nat.zero_le _
  | t :: ts => by
    have h1 := td_dep t
    have h2 := td_deps ts
    simp only [Td.pys, PyData.depthAll, Td.deps]
    omega
end
theorem td_shaped {t : Td} (h : t.dep ≤ 64) : SeqAt.shaped t.py = true := by
  unfold SeqAt.shaped
  rw [td_lay t, decide_eq_true (Nat.le_trans (td_dep t) h)]
  rfl
theorem eqv_self {d : PyData} (h : SeqAt.shaped d = true) : PyData.eqv d d = true := SeqAt.eqv_refl _ (SeqAt.canLay_of_shaped h)
mutual
theorem td_eqv : ∀ t u : Td, (PyData.eqv t.py u.py = true ↔ t = u)
  | .int i, .int j => by
    simp only [Td.py, PyData.eqv, beq_iff_eq, Td.int.injEq]
  | .int i, .tup us => by simp [Td.py, PyData.eqv]
  | .tup ts, .int j => by simp [Td.py, PyData.eqv]
  | .tup ts, .tup us => by
    rw [Td.py, Td.py, PyData.eqv, td_eqvs ts us, Td.tup.injEq]
theorem td_eqvs : ∀ ts us : List Td, (PyData.eqvAll (Td.pys ts) (Td.pys us) = true ↔ ts = us)
  | [], [] => by simp [Td.pys, PyData.eqvAll]
  | [], u :: us => by simp [Td.pys, PyData.eqvAll]
  | t :: ts, [] => by simp [Td.pys, PyData.eqvAll]
  | t :: ts, u :: us => by
    rw [Td.pys, Td.pys, PyData.eqvAll, Bool.and_eq_true, td_eqv t u, td_eqvs ts us, List.cons.injEq]
end
theorem tdr_inj {p q : RW} (h : tdr p = tdr q) : p = q := by
  obtain ⟨a, b⟩ := p
  obtain ⟨c, d⟩ := q
  unfold tdr at h
  simp only [Td.tup.injEq, List.cons.injEq, Td.int.injEq, and_true] at h
  obtain ⟨h1, h2⟩ := h
  have h3 : a = c := by
    have hi : ∀ {a c : List Int}, a.map Td.int = c.map Td.int → a = c := fun {a} => by
      induction a with
      | nil => intro c e; cases c with
        | nil => rfl
        | cons => cases e
      | cons x a ih => intro c e; cases c with
        | nil => cases e
        | cons y c =>
          simp only [List.map_cons, List.cons.injEq, Td.int.injEq] at e
          rw [e.1, ih e.2]
    exact hi h1
  rw [h3, h2]
theorem tdrs_inj {ps qs : List RW} (h : ps.map tdr = qs.map tdr) : ps = qs := by
  induction ps generalizing qs with
  | nil => cases qs with
    | nil => rfl
    | cons => cases h
  | cons p ps ih => cases qs with
    | nil => cases h
    | cons q qs =>
      simp only [List.map_cons, List.cons.injEq] at h
      rw [tdr_inj h.1, ih h.2]
theorem prs_eqv (ps qs : List RW) : PyData.eqv (Td.tup (ps.map tdr)).py (Td.tup (qs.map tdr)).py = decide (ps = qs) := by
  rw [Bool.eq_iff_iff, td_eqv, decide_eq_true_iff, Td.tup.injEq]
  exact ⟨tdrs_inj, fun h => by rw [h]⟩
theorem fz_append {K : PySem.W.Frag} {H : Hp} : ∀ {vs us : List V} {ts ws : List Td}, FzAll K H vs ts → FzAll K H us ws → FzAll K H (vs ++ us) (ts ++ ws)
  | _, _, _, _, .nil, g => g
  | _, _, _, _, .cons a r, g => .cons a (fz_append r g)
theorem sc_mul (a b : Int) (ps : List RW) : P03.sc a (P03.sc b ps) = P03.sc (a * b) ps := by
  unfold P03.sc
  rw [List.map_map]
  refine List.map_congr_left fun p _ => ?_
  show (p.1, a * (b * p.2)) = (p.1, a * b * p.2)
  rw [Int.mul_assoc]
theorem sc_app (a : Int) (ps os : List RW) : P03.sc a (ps ++ os) = P03.sc a ps ++ P03.sc a os := by
  unfold P03.sc
  rw [List.map_append]
section
variable {P : Program} {w : World} {K : PySem.W.Frag} {mg : Str → Option Value} {base : Heap} {f : Addr} {fd : FuncData} {cF cR cS cE cW cC cD cB cI cT : Addr}
def spEqR (K : PySem.W.Frag) (cF cR : Addr) : Sp := fun vs H Q _ => ∃ (p : Addr) (y : V) (n : Nat) (ps : List RW) (b : Int), vs = [.ref p, y] ∧ RowsAt K H cF cR p n ps b ∧
  ((∃ (q : Addr) (n2 : Nat) (os : List RW) (c : Int), y = .ref q ∧ RowsAt K H cF cR q n2 os c ∧ Q (.bl (decide (n = n2 ∧ ps = os ∧ b = c))) H) ∨ (∃ tb, TyX K H y tb ∧ PySem.W.kitOne K tb (.ref cR) = some false ∧ Q (.bl false) H))
abbrev s_mEq : Stmt := mth 32 4
abbrev N_mEq : List Str := ["self", "other"]
theorem sc_mEq : FnScope N_mEq ["self", "other"] (defScope s_mEq) := ⟨rfl, rfl, rfl, by decide +kernel, rfl, by decide +kernel, by decide +kernel⟩
theorem ok_mEq (F : Fun K "__eq__" "RowList.__eq__" s_mEq f fd) (T : Txt mg) (U : Gls mg cF cR cS cE cW cC cD cB cI cT) (O : Obs K cF cR) (V0 : Frm K cF cR) : FnOk P w K mg base CX0 1 f fd ["self", "other"] (spEqR K cF cR) := by
  refine F.ok sc_mEq (fun vs H Q E h => ?_) (fun cdv A outer s H vs Q E hr h => ?_)
  · obtain ⟨a, y, n, ps, b, rfl, _⟩ := h
    rfl
  obtain ⟨a, y, n, ps, b, rfl, ⟨dx, e, F1, h1, hz1, _⟩, h⟩ := h
  refine ⟨_, (pss_one (ps_ret (pe_and (pe_callB call_isi (by rfl) T.b_isinstance (by decide +kernel) (pa_cons (pv 1) (pa_cons (pe_glob (v := .ref _) rfl U.g_RowList rfl) pa_nil))) (pe_and (pe_cmpR op_eq (pe_fld (pv 0) rfl) (pe_fld (pv 1) rfl) (nomark _)) (pe_and (pe_cmpR (op_eqD hr.units) (pe_fld (pv 0) rfl) (pe_fld (pv 1) rfl) (nomark _)) (pe_one (pe_cmpR op_eq (pe_fld (pv 0) rfl) (pe_fld (pv 1) rfl) (nomark _)))))))), ?_⟩
  rcases h with ⟨a2, n2, os, c, rfl, ⟨dy, e2, F2, h2, hz2, _⟩, q⟩ | ⟨tb, ht, hk, q⟩
  · refine ⟨_, rfl, _, _, _, _, true, rfl, .own _, isRows V0 O.clR h2, V0.kR, true, rfl, ifT rfl ?_⟩
    refine ⟨_, rfl, a, cR, dx, _, _, rfl, h1, O.clR, O.R_size, lkRs _ _ _ _, _, rfl, a2, cR, dy, _, _, rfl, h2, O.clR, O.R_size, lkRs _ _ _ _, rfl, _, rfl, ?_⟩
    have hd : ∀ ps : List RW, (Td.tup (ps.map tdr)).dep ≤ 64 := fun ps => Nat.le_trans dep_prs (by omega)
    by_cases hn : n = n2
    · refine ifT (int_eq (by rw [hn])) ?_
      refine ⟨_, rfl, a, cR, dx, _, _, rfl, h1, O.clR, O.R_pairs, lkRp _ _ _ _, _, rfl, a2, cR, dy, _, _, rfl, h2, O.clR, O.R_pairs, lkRp _ _ _ _, _, _, hz1.dp, hz2.dp, td_shaped (hd ps), td_shaped (hd os), _, rfl, ?_⟩
      rw [prs_eqv]
      by_cases hp : ps = os
      · refine ifT (decide_eq_true hp) ?_
        refine ⟨_, rfl, a, cR, dx, _, _, rfl, h1, O.clR, O.R_bottom, lkRb _ _ _ _, _, rfl, a2, cR, dy, _, _, rfl, h2, O.clR, O.R_bottom, lkRb _ _ _ _, rfl, ?_⟩
        have e3 : decide (V.int b = V.int c) = decide (n = n2 ∧ ps = os ∧ b = c) := by
          rw [Bool.eq_iff_iff, decide_eq_true_iff, decide_eq_true_iff]
          exact ⟨fun e => ⟨hn, hp, V.int.inj e⟩, fun e => by rw [e.2.2]⟩
        rw [e3]
        exact q
      · refine ifF (decide_eq_false hp) ?_
        rw [decide_eq_false (fun e => hp e.2.1)] at q
        exact q
    · have e3 : decide (V.int (n : Int) = V.int (n2 : Int)) = false := int_ne fun e => hn (Int.ofNat_inj.mp e)
      refine ifF e3 ?_
      rw [decide_eq_false (fun e => hn e.1)] at q
      exact q
  · exact ⟨_, rfl, _, _, _, _, false, rfl, .own _, ht, hk, false, rfl, ifF rfl q⟩
def spAdd (K : PySem.W.Frag) (cF cR : Addr) : Sp := fun vs H Q _ => ∃ (p p2 : Addr) (m1 m2 k1 k2 n : Nat) (ps os : List RW) (b c : Int), vs = [.ref p, .ref p2] ∧ Low K H cF cR p n ps b ∧ Low K H cF cR p2 n os c ∧ DOk m1 k1 n ps b ∧ DOk m2 k2 n os c ∧ m1 + m2 ≤ 1000 ∧ k1 + k2 ≤ 1400 ∧
  ∀ r H', Same H H' → Low K H' cF cR r n (P03.sc c ps ++ P03.sc b os) (b * c) → Q (.ref r) H'
abbrev s_mAdd : Stmt := mth 32 3
abbrev N_mAdd : List Str := ["self", "other", "first", "second", "row", "weight"]
theorem sc_mAdd : FnScope N_mAdd ["self", "other"] (defScope s_mAdd) := ⟨rfl, rfl, rfl, by decide +kernel, rfl, by decide +kernel, by decide +kernel⟩
theorem ok_mAdd (F : Fun K "__add__" "RowList.__add__" s_mAdd f fd) (T : Txt mg) (O : Obs K cF cR) (C_RowList : CalK P w K mg base 6 "RowList" cR 2 ["bottom"] (spRows K cF cR)) : FnOk P w K mg base CX0 8 f fd ["self", "other"] (spAdd K cF cR) := by
  refine F.ok sc_mAdd (fun vs H Q E h => ?_) (fun cdv A outer s H vs Q E hr h => ?_)
  · obtain ⟨p, p2, m1, m2, k1, k2, n, ps, os, b, c, rfl, _⟩ := h
    rfl
  obtain ⟨p, p2, m1, m2, k1, k2, n, ps, os, b, c, rfl, hl1, hl2, ok1, ok2, hm, hk, q⟩ := h
  refine ⟨_, (pss_cons (ps_if (pt_cmpR op_ne (pe_fld (pv 0) rfl) (pe_fld (pv 1) rfl) (nomark _)) (pss_one ps_never) pss_nil)
  (pss_cons (ps_setLc (i := 2) (own := [("row", 4), ("weight", 5)]) (tt := tYes) (by rfl) sc_mAdd.nd rfl rfl (sw_true rfl rfl rfl (by decide +kernel)) (pi_tup (pe_fld (pv 0) rfl)) (blkOk_by (N := N_mAdd) (sc := defScope s_mAdd) (by decide +kernel)) (fun _ _ _ _ _ => (pg_tupK (K := K) (n := 2) rfl rfl (pgs_cons (pg_name (i := 4) sc_mAdd.nd rfl (Or.inl rfl)) (pgs_cons (pg_name (i := 5) sc_mAdd.nd rfl (Or.inl rfl)) pgs_nil)))) (fun _ _ _ _ _ => pts_nil) (fun _ _ _ _ _ => (pe_tup (pa_cons (pv 4) (pa_cons (pe_op op_mulW (pv 5) (pe_fldK (K := K) rfl (pv 1) rfl)) pa_nil)))))
  (pss_cons (ps_setLc (i := 3) (own := [("row", 4), ("weight", 5)]) (tt := tYes) (by rfl) sc_mAdd.nd rfl rfl (sw_true rfl rfl rfl (by decide +kernel)) (pi_tup (pe_fld (pv 1) rfl)) (blkOk_by (N := N_mAdd) (sc := defScope s_mAdd) (by decide +kernel)) (fun _ _ _ _ _ => (pg_tupK (K := K) (n := 2) rfl rfl (pgs_cons (pg_name (i := 4) sc_mAdd.nd rfl (Or.inl rfl)) (pgs_cons (pg_name (i := 5) sc_mAdd.nd rfl (Or.inl rfl)) pgs_nil)))) (fun _ _ _ _ _ => pts_nil) (fun _ _ _ _ _ => (pe_tup (pa_cons (pv 4) (pa_cons (pe_op op_mulW (pv 5) (pe_fldK (K := K) rfl (pv 0) rfl)) pa_nil)))))
  (pss_one (ps_ret (pe_calK C_RowList (hr.mono (by omega)) rfl (pa_cons (pe_fld (pv 0) rfl) (pa_cons (pe_op op_cat (pv 2) (pv 3)) pa_nil)) (pk_cons (pe_op op_mulW (pe_fld (pv 0) rfl) (pe_fld (pv 1) rfl)) pk_nil))))))), ?_⟩
  have hb0 : 0 < b := ok1.bot
  have hc0 : 0 < c := ok2.bot
  have okA := ok1.low
  have okB := ok2.low
  have hgA := lg_pos (ps := ps) hb0
  have hgB := lg_pos (ps := os) hc0
  obtain ⟨dx, e, F1, hi, hz, _⟩ := id hl1
  obtain ⟨e', vs, ee, he, hle, hrow⟩ := fz_prs hz
  cases ee
  obtain ⟨dy, e2, F2, hi2, hz2, _⟩ := id hl2
  obtain ⟨e2', vs2, ee2, he2, hle2, hrow2⟩ := fz_prs hz2
  cases ee2
  have l1 := okA.len
  have l2 := okB.len
  refine ⟨_, rfl, p, cR, dx, _, _, rfl, hi, O.clR, O.R_size, lkRs _ _ _ _, _, rfl, p2, cR, dy, _, _, rfl, hi2, O.clR, O.R_size, lkRs _ _ _ _, rfl, _, rfl, ifF (by rw [int_eq rfl]; rfl) ?_⟩
  refine ⟨_, rfl, p, cR, dx, _, _, rfl, hi, O.clR, O.R_pairs, lkRp _ _ _ _, _, rfl, ⟨_, he⟩, fun D hD => ?_⟩
  refine lc_m (walk_tup (K := K) (a := e) (xs := vs)) (Fz K) stb_Fz (lp ps b) hle (by omega) hD (fun H' s => Same_seqT s he) (fun _ _ _ _ => ys_at) (fun p => tdr (p.1, p.2 * lb os c)) (fun i q x H1 H2 hb1 s1 s2 y A B hA => ?_) (fun H1 l s1 hl1 rs => ?_)
  · obtain ⟨q1, r1, hq1, hq2, hq3⟩ := hrow i q hb1
    rw [y.2] at hq1
    cases hq1
    refine ⟨_, _, rfl, Same_seqT s2 hq2, rfl, _, _, rfl, _, _, rfl, rfl, rfl, lc_yes ?_⟩
    refine ⟨_, rfl, _, rfl, _, rfl, p2, cR, dy, _, _, rfl, s2 _ _ hi2, O.clR, O.R_bottom, lkRb _ _ _ _, _, _, rfl, rfl, wmul (((okA.row q (List.mem_of_getElem? hb1)).2.2.1).mono (n := 1400) (by omega)) (okB.bB.mono (n := 1400) (by omega)) (by decide) (by decide) (by decide), two_line, fun z hz2 => hA _ _ (same_new hz2 _) ?_⟩
    exact .tup (SqT.of upd_same) (.cons (.tup (Same_seqT (same_new hz2 _) (Same_seqT s2 hq3)) (FzAll.of_ints _)) (.cons (.int _) .nil))
  have he2' : SqT K H1 e2 vs2 := Same_seqT s1 he2
  refine ⟨_, rfl, p2, cR, dy, _, _, rfl, s1 _ _ hi2, O.clR, O.R_pairs, lkRp _ _ _ _, _, rfl, ⟨_, he2'⟩, fun D2 hD2 => ?_⟩
  refine lc_m (walk_tup (K := K) (a := e2) (xs := vs2)) (Fz K) stb_Fz (lp os c) hle2 (by omega) hD2 (fun H' s => Same_seqT s he2') (fun _ _ _ _ => ys_at) (fun p => tdr (p.1, p.2 * lb ps b)) (fun i q x H3 H4 hb1 s3 s4 y A B hA => ?_) (fun H2 lB s2 hlB rsB => ?_)
  · obtain ⟨q1, r1, hq1, hq2, hq3⟩ := hrow2 i q hb1
    rw [y.2] at hq1
    cases hq1
    refine ⟨_, _, rfl, Same_seqT s4 (Same_seqT s1 hq2), rfl, _, _, rfl, _, _, rfl, rfl, rfl, lc_yes ?_⟩
    refine ⟨_, rfl, _, rfl, _, rfl, p, cR, dx, _, _, rfl, s4 _ _ (s1 _ _ hi), O.clR, O.R_bottom, lkRb _ _ _ _, _, _, rfl, rfl, wmul (((okB.row q (List.mem_of_getElem? hb1)).2.2.1).mono (n := 1400) (by omega)) (okA.bB.mono (n := 1400) (by omega)) (by decide) (by decide) (by decide), two_line, fun z hz2 => hA _ _ (same_new hz2 _) ?_⟩
    exact .tup (SqT.of upd_same) (.cons (.tup (Same_seqT (same_new hz2 _) (Same_seqT s4 (Same_seqT s1 hq3))) (FzAll.of_ints _)) (.cons (.int _) .nil))
  have e1 : ∀ (g : Int) (zs : List RW), (zs.map fun p => tdr (p.1, p.2 * g)) = (P03.sc g zs).map tdr := fun g zs => by
    unfold P03.sc
    rw [List.map_map]
    refine List.map_congr_left fun p _ => ?_
    show tdr (p.1, p.2 * g) = tdr (p.1, g * p.2)
    rw [Int.mul_comm]
  have hlD := s2 _ _ hl1
  have sA := s1.trans s2
  refine ⟨_, rfl, p, cR, dx, _, _, rfl, sA _ _ hi, O.clR, O.R_size, lkRs _ _ _ _, _, rfl, _, rfl, D, D2, _, _, rfl, rfl, hlD, hlB, line_ge (by rw [rs.1, rsB.1, List.length_map, List.length_map]; omega), fun l3 hl3 => ?_⟩
  have s3 := same_new hl3 (.lst (l ++ lB))
  have s4 := sA.trans s3
  have hokC := okA.cat okB
  have hsn : Sn K (upd H2 l3 (.lst (l ++ lB))) (.ref l3) (.tup ((P03.sc (lb os c) (lp ps b) ++ P03.sc (lb ps b) (lp os c)).map tdr)) := by
    have a1 : FzAll K (upd H2 l3 (.lst (l ++ lB))) l ((P03.sc (lb os c) (lp ps b)).map tdr) := by
      rw [← e1]
      exact (rs.fz.tk (WK.Same.tk s2)).tk (WK.Same.tk s3)
    have a2 : FzAll K (upd H2 l3 (.lst (l ++ lB))) lB ((P03.sc (lb ps b) (lp os c)).map tdr) := by
      rw [← e1]
      exact rsB.fz.tk (WK.Same.tk s3)
    rw [List.map_append]
    exact .lst upd_same (fz_append a1 a2).sn
  refine ⟨_, rfl, p, cR, dx, _, _, rfl, s4 _ _ hi, O.clR, O.R_bottom, lkRb _ _ _ _, _, rfl, p2, cR, dy, _, _, rfl, s4 _ _ hi2, O.clR, O.R_bottom, lkRb _ _ _ _, _, _, rfl, rfl, wmul (okA.bB.mono (n := 1400) (by omega)) (okB.bB.mono (n := 1400) (by omega)) (by decide) (by decide) (by decide), rfl, rfl, fun x dx2 hx hdx hne => ?_⟩
  refine ⟨x, dx2, _, n, _, _, rfl, upd_same, hsn.same (new_two hx hdx), hokC.prs hm hk, by have := ok1.n10; omega, hokC.bot, hokC.bB.mono (by omega), fun H3 hR hbut => ⟨rfl, ?_⟩⟩
  obtain ⟨s5, hL⟩ := made hx hdx s4 hR hbut
  refine q x H3 s5 ?_
  have h2 := hL.sc (Int.mul_pos hgA hgB) hokC.bot
  have x1 : P03.sc (lg ps b * lg os c) (P03.sc (lb os c) (lp ps b) ++ P03.sc (lb ps b) (lp os c)) = P03.sc c ps ++ P03.sc b os := by
    have y1 : lg ps b * lg os c * lb os c = c * lg ps b := by
      rw [Int.mul_assoc, lb_back, Int.mul_comm]
    have y2 : lg ps b * lg os c * lb ps b = b * lg os c := by
      rw [Int.mul_right_comm, lb_back]
    rw [sc_app, sc_mul, sc_mul, y1, y2, ← sc_mul, ← sc_mul, lp_back hb0, lp_back hc0]
  have x2 : lg ps b * lg os c * (lb ps b * lb os c) = b * c := by
    have z1 : lg ps b * lg os c * (lb ps b * lb os c) = (lg ps b * lb ps b) * (lg os c * lb os c) := by
      simp only [Int.mul_assoc, Int.mul_left_comm]
    rw [z1, lb_back, lb_back]
  rw [x1, x2] at h2
  exact h2
end
end P03
set_option exponentiation.threshold 3000
namespace P03
open PySem PySem.Spec PyProof.Rows L2 SX EX WK
/-- a def with defaults that may raise, by its body -/
theorem okRD {P : Program} {w : World} {K : PySem.W.Frag} {mg : Str → Option Value} {base : Heap} {x qual : Str} {params : Arguments} {body : List Stmt} {scope : Scope} {dvs : List V} {kws : List (Str × V)} {f : Addr} {fd : FuncData} {N ps : List Str} {k : Nat} {sp : Sp} (F : FunD K x qual params body scope dvs kws f fd) (S : FnScope N ps scope)
    (len : ∀ vs H Q E, sp vs H Q E → vs.length = ps.length)
    (hbody : ∀ (cdv : Value) (A : Around) (outer : List Env) (s : Shared) (H : Hp) (vs : List V) (Q : VK) (E : XK), Room k (A.deeper (envOfC qual scope s.heap.objs.size f cdv)) → sp vs H Q E →
      ∃ t, PSs (cxOf (L2N.CX P w) P w K mg base N qual scope f cdv A outer s H E) body t ∧ t { nx := fun _ H' => Q .non H', rt := Q } (start N vs) H) :
    FnOk P w K mg base (L2N.CX P w) (k + 1) f fd ps sp := by
  obtain ⟨oc, od, dV, kV, doc, pm, an, cdv, ct, osl, rfl, lk, hcd, _, _⟩ := F.ex
  exact fn_of lk hcd S len fun A outer s H vs Q E hr hsp => hbody cdv A outer s H vs Q E hr hsp
/-- the errors of the text -/
structure Err (K : PySem.W.Frag) (mg : Str → Option Value) (cF cR cS cE cW cC cD cB cI cT fS fE fW : Addr) : Prop extends Gls mg cF cR cS cE cW cC cD cB cI cT where
  o_SizesDiffer : OexC K cS
  i_SizesDiffer : PySem.W.findIn K (.ref cS) "__init__" = some (some (.ref fS))
  t_SizesDiffer : PySem.W.typeIn K (.ref fS) = some (.type "function")
  xS : XCls K cS
  no_SizesDiffer_one : PySem.W.findIn K (.ref cS) "one" = some none
  no_SizesDiffer_two : PySem.W.findIn K (.ref cS) "two" = some none
  o_BadRow : OexC K cE
  i_BadRow : PySem.W.findIn K (.ref cE) "__init__" = some (some (.ref fE))
  t_BadRow : PySem.W.typeIn K (.ref fE) = some (.type "function")
  xE : XCls K cE
  no_BadRow_index : PySem.W.findIn K (.ref cE) "index" = some none
  o_BadWeight : OexC K cW
  i_BadWeight : PySem.W.findIn K (.ref cW) "__init__" = some (some (.ref fW))
  t_BadWeight : PySem.W.typeIn K (.ref fW) = some (.type "function")
  xW : XCls K cW
  no_BadWeight_index : PySem.W.findIn K (.ref cW) "index" = some none
  eSS : PySem.W.exmOne K (.ref cS) (.ref cS) = some true
  eSC : PySem.W.exmOne K (.ref cS) (.ref cC) = some true
  eEC : PySem.W.exmOne K (.ref cE) (.ref cC) = some true
  eWC : PySem.W.exmOne K (.ref cW) (.ref cC) = some true
  kSE : PySem.W.kitOne K (.ref cS) (.ref cE) = some false
  kSD : PySem.W.kitOne K (.ref cS) (.ref cD) = some false
  kSV : PySem.W.kitOne K (.ref cS) (.type "ValueError") = some true
  kEE : PySem.W.kitOne K (.ref cE) (.ref cE) = some true
  kEW : PySem.W.kitOne K (.ref cE) (.ref cW) = some false
  kEV : PySem.W.kitOne K (.ref cE) (.type "ValueError") = some true
  kEB : PySem.W.kitOne K (.ref cE) (.ref cB) = some false
  kEI : PySem.W.kitOne K (.ref cE) (.ref cI) = some false
  kET : PySem.W.kitOne K (.ref cE) (.ref cT) = some false
  kES : PySem.W.kitOne K (.ref cE) (.ref cS) = some false
  kWE : PySem.W.kitOne K (.ref cW) (.ref cE) = some false
  kWW : PySem.W.kitOne K (.ref cW) (.ref cW) = some true
  kWV : PySem.W.kitOne K (.ref cW) (.type "ValueError") = some true
  kWB : PySem.W.kitOne K (.ref cW) (.ref cB) = some false
  kWI : PySem.W.kitOne K (.ref cW) (.ref cI) = some false
  kWT : PySem.W.kitOne K (.ref cW) (.ref cT) = some false
  kWS : PySem.W.kitOne K (.ref cW) (.ref cS) = some false
section
variable {K : PySem.W.Frag} {mg : Str → Option Value} {cF cR cS cE cW cC cD cB cI cT fS fE fW : Addr}
theorem Err.x_SizesDiffer (U : Err K mg cF cR cS cE cW cC cD cB cI cT fS fE fW) : XfC K cS := U.xS.xf
theorem Err.x_BadRow (U : Err K mg cF cR cS cE cW cC cD cB cI cT fS fE fW) : XfC K cE := U.xE.xf
theorem Err.x_BadWeight (U : Err K mg cF cR cS cE cW cC cD cB cI cT fS fE fW) : XfC K cW := U.xW.xf
end
/-- the first fault of some pairs -/
def fltAt (n : Nat) : Nat → List RW → Option (Bool × Nat)
  | _, [] => none
  | k, p :: ps => if p.1.length ≠ n then some (true, k) else if p.2 < 1 then some (false, k) else fltAt n (k + 1) ps
def fault (n : Nat) (ps : List RW) : Option (Bool × Nat) := fltAt n 0 ps
theorem flt_none {n : Nat} : ∀ {ps : List RW} {k : Nat}, fltAt n k ps = none → ∀ p ∈ ps, p.1.length = n ∧ 1 ≤ p.2
  | [], _, _, p, h => by cases h
  | q :: ps, k, e, p, h => by
    unfold fltAt at e
    split at e
    · cases e
    · split at e
      · cases e
      · rcases List.mem_cons.mp h with rfl | m
        · omega
        · exact flt_none e p m
theorem fault_none {n : Nat} {ps : List RW} (h : fault n ps = none) : ∀ p ∈ ps, p.1.length = n ∧ 1 ≤ p.2 := flt_none h
theorem flt_drop {n i : Nat} {ps : List RW} {p : RW} (h : ps[i]? = some p) : fltAt n i (ps.drop i) = if p.1.length ≠ n then some (true, i) else if p.2 < 1 then some (false, i) else fltAt n (i + 1) (ps.drop (i + 1)) := by
  have hi := (List.getElem?_eq_some_iff.mp h)
  obtain ⟨hl, e⟩ := hi
  rw [List.drop_eq_getElem_cons hl, e]
  rfl
/-- an error of one field, and what stands behind it -/
def Bad (C : Addr) (k : Nat) (H : Hp) (E : XK) : Prop := ∀ d H', Same H H' → H' d = some (.xd [("index", .int (k : Int))]) → E (.ref C) (some d) H'
theorem Bad.same {C : Addr} {k : Nat} {H H' : Hp} {E : XK} (h : Bad C k H E) (s : Same H H') : Bad C k H' E := fun d H2 s2 e => h d H2 (s.trans s2) e
def Shd (cS : Addr) (m n : Int) (H : Hp) (E : XK) : Prop := ∀ d H', Same H H' → H' d = some (.xd [("two", .int n), ("one", .int m)]) → E (.ref cS) (some d) H'
section
variable {P : Program} {w : World} {K : PySem.W.Frag} {mg : Str → Option Value} {base : Heap} {f : Addr} {fd : FuncData} {cF cR cS cE cW cC cD cB cI cT fS fE fW : Addr} {fdS fdE fdW : FuncData}
def spInit2 (C : Addr) : Sp := fun vs H Q _ => ∃ (a : Addr) (v u : V), vs = [.ref a, v, u] ∧ H a = some (exo a C none) ∧ ∀ dx, H dx = none → dx ≠ a → Q .non (upd (upd (upd H dx (exd dx [("one", v)])) a (exo a C (some dx))) dx (exd dx [("two", u), ("one", v)]))
def spInit1 (C : Addr) : Sp := fun vs H Q _ => ∃ (a : Addr) (v : V), vs = [.ref a, v] ∧ H a = some (exo a C none) ∧ ∀ dx, H dx = none → dx ≠ a → Q .non (upd (upd H dx (exd dx [("index", v)])) a (exo a C (some dx)))
abbrev s_iSD : Stmt := mth 7 0
abbrev N_iSD : List Str := ["self", "one", "two"]
theorem sc_iSD : FnScope N_iSD ["self", "one", "two"] (defScope s_iSD) := ⟨rfl, rfl, rfl, by decide +kernel, rfl, by decide +kernel, by decide +kernel⟩
theorem ok_iSD (F : Fun K "__init__" "SizesDiffer.__init__" s_iSD f fd) (U : Err K mg cF cR cS cE cW cC cD cB cI cT fS fE fW) : FnOk P w K mg base CX0 1 f fd ["self", "one", "two"] (spInit2 cS) := by
  refine F.ok sc_iSD (fun vs H Q E h => ?_) (fun cdv A outer s H vs Q E hr h => ?_)
  · obtain ⟨a, v, u, rfl, _⟩ := h
    rfl
  obtain ⟨a, v, u, rfl, ha, q⟩ := h
  refine ⟨_, (pss_cons (ps_ost (pv 0) (pv 1)) (pss_one (ps_ost (pv 0) (pv 2)))), ?_⟩
  exact ⟨_, rfl, _, rfl, a, cS, rfl, U.o_SizesDiffer, U.no_SizesDiffer_one, .inl ⟨ha, fun dx hdx hne => ⟨_, rfl, _, rfl, a, cS, rfl, U.o_SizesDiffer, U.no_SizesDiffer_two, .inr ⟨dx, _, upd_same, by rw [upd_ne hne, upd_same], (by show 1 ≤ 900; decide), q dx hdx hne⟩⟩⟩⟩
abbrev s_iBR : Stmt := mth 8 0
abbrev N_iBR : List Str := ["self", "index"]
theorem sc_iBR : FnScope N_iBR ["self", "index"] (defScope s_iBR) := ⟨rfl, rfl, rfl, by decide +kernel, rfl, by decide +kernel, by decide +kernel⟩
theorem ok_iBR (F : Fun K "__init__" "BadRow.__init__" s_iBR f fd) (U : Err K mg cF cR cS cE cW cC cD cB cI cT fS fE fW) : FnOk P w K mg base CX0 1 f fd ["self", "index"] (spInit1 cE) := by
  refine F.ok sc_iBR (fun vs H Q E h => ?_) (fun cdv A outer s H vs Q E hr h => ?_)
  · obtain ⟨a, v, rfl, _⟩ := h
    rfl
  obtain ⟨a, v, rfl, ha, q⟩ := h
  refine ⟨_, (pss_one (ps_ost (pv 0) (pv 1))), ?_⟩
  exact ⟨_, rfl, _, rfl, a, cE, rfl, U.o_BadRow, U.no_BadRow_index, .inl ⟨ha, q⟩⟩
abbrev s_iBW : Stmt := mth 9 0
abbrev N_iBW : List Str := ["self", "index"]
theorem sc_iBW : FnScope N_iBW ["self", "index"] (defScope s_iBW) := ⟨rfl, rfl, rfl, by decide +kernel, rfl, by decide +kernel, by decide +kernel⟩
theorem ok_iBW (F : Fun K "__init__" "BadWeight.__init__" s_iBW f fd) (U : Err K mg cF cR cS cE cW cC cD cB cI cT fS fE fW) : FnOk P w K mg base CX0 1 f fd ["self", "index"] (spInit1 cW) := by
  refine F.ok sc_iBW (fun vs H Q E h => ?_) (fun cdv A outer s H vs Q E hr h => ?_)
  · obtain ⟨a, v, rfl, _⟩ := h
    rfl
  obtain ⟨a, v, rfl, ha, q⟩ := h
  refine ⟨_, (pss_one (ps_ost (pv 0) (pv 1))), ?_⟩
  exact ⟨_, rfl, _, rfl, a, cW, rfl, U.o_BadWeight, U.no_BadWeight_index, .inl ⟨ha, q⟩⟩
def spPairsX (K : PySem.W.Frag) (cE cW : Addr) : Sp := fun vs H Q E => ∃ (n : Nat) (v : V) (ps : List RW), vs = [.int n, v] ∧ Fz K H v (.tup (ps.map tdr)) ∧ (fault n ps = none → ∀ H', Same H H' → Q .non H') ∧ (∀ k, fault n ps = some (true, k) → Bad cE k H E) ∧ (∀ k, fault n ps = some (false, k) → Bad cW k H E)
theorem okx_check_pairs (F : Fun K "check_pairs" "check_pairs" s_check_pairs f fd) (T : Txt mg) (U : Err K mg cF cR cS cE cW cC cD cB cI cT fS fE fW) (IN_BadRow : FnOk P w K mg base CX0 1 fE fdE ["self", "index"] (spInit1 cE)) (B_BadRow : Binds K fdE ["self", "index"] []) (IN_BadWeight : FnOk P w K mg base CX0 1 fW fdW ["self", "index"] (spInit1 cW)) (B_BadWeight : Binds K fdW ["self", "index"] []) :
    FnOk P w K mg base (L2N.CX P w) 4 f fd ["size", "pairs"] (spPairsX K cE cW) := by
  refine okR F sc_check_pairs (fun vs H Q E h => ?_) (fun cdv A outer s H vs Q E hr h => ?_)
  · obtain ⟨n, v, ps, rfl, _⟩ := h
    rfl
  obtain ⟨n, v, ps, rfl, hz, q, qE, qW⟩ := h
  obtain ⟨a, vs, rfl, ha, hl, hrow⟩ := fz_prs hz
  refine ⟨_, (pss_one (ps_for (passes_of rfl) rfl (WE.pi_enT (by rfl) T.b_enumerate (pa_cons (pv 1) pa_nil)) (pg_tup rfl (pgs_cons (pg_name (i := 2) sc_check_pairs.nd rfl (Or.inl rfl)) (pgs_cons (pg_tup rfl (pgs_cons (pg_name (i := 3) sc_check_pairs.nd rfl (Or.inl rfl)) (pgs_cons (pg_name (i := 4) sc_check_pairs.nd rfl (Or.inl rfl)) pgs_nil))) pgs_nil))) (pss_cons (ps_if (pt_cmpR op_ne (pe_callB call_len_seq (by rfl) T.b_len PySem.boot_len (pa_cons (pv 3) pa_nil)) (pv 0) (nomark _)) (pss_one (L2N.ps_raise rfl (L2N.takes_of rfl rfl rfl rfl) (pmkI U.o_BadRow U.i_BadRow U.t_BadRow IN_BadRow (hr.mono (by omega)) B_BadRow passN rfl U.g_BadRow (pa_cons (pv 2) pa_nil)))) pss_nil)
  (pss_one (ps_if (pt_cmpR op_lt (pv 4) pe_int (nomark _)) (pss_one (L2N.ps_raise rfl (L2N.takes_of rfl rfl rfl rfl) (pmkI U.o_BadWeight U.i_BadWeight U.t_BadWeight IN_BadWeight (hr.mono (by omega)) B_BadWeight passN rfl U.g_BadWeight (pa_cons (pv 2) pa_nil)))) pss_nil))))), ?_⟩
  refine ⟨_, rfl, a, vs, rfl, ha, for_it (WE.walk_enT (K := K) (a := a) (xs := vs)) (fun i σ H' => ∃ v1 v2 v3 : Option V, σ = [some (.int n), some (.ref a), v1, v2, v3] ∧ Same H H' ∧ fault n ps = fltAt n i (ps.drop i)) ⟨none, none, none, rfl, fun _ _ h => h, rfl⟩ (fun i σ H' _ ⟨_, _, _, _, s, _⟩ => Same_seqT s ha) ?_ ?_⟩
  · rintro i x σ H1 H2 hi ⟨v1, v2, v3, rfl, s1, hf⟩ y
    have s2 := ys_pair y
    obtain ⟨Tp, x1, x2, rfl, hT, rfl, e1, e2⟩ := y
    cases e1
    obtain ⟨p, hp⟩ : ∃ p, ps[i]? = some p := ⟨_, List.getElem?_eq_getElem (by omega)⟩
    obtain ⟨q1, r1, hq1, hq2, hq3⟩ := hrow i p hp
    rw [show vs[i]? = some x2 from e2] at hq1
    cases hq1
    have s3 := s1.trans s2
    rw [flt_drop hp] at hf
    refine ⟨_, _, rfl, SqT.of upd_same, rfl, _, _, rfl, _, _, rfl, ⟨_, _, rfl, Same_seqT s3 hq2, rfl, _, _, rfl, _, _, rfl, rfl, rfl, ?_⟩⟩
    refine ⟨_, rfl, _, _, rfl, .inr (Same_seqT s3 hq3), _, rfl, rfl, _, rfl, ?_⟩
    by_cases h1 : p.1.length = n
    · refine ifF (by rw [List.length_map, h1]; simp) ?_
      by_cases h2 : p.2 < 1
      · rw [if_neg (by omega), if_pos h2] at hf
        have qb : Bad cW i _ E := (qW i hf).same s3
        refine ⟨_, rfl, _, _, rfl, rfl, _, rfl, ifT (decide_eq_true h2) ?_⟩
        refine ⟨_, rfl, ?_⟩
        refine ⟨by show 1 ≤ 1000; decide, fun a ha => ?_⟩
        refine ⟨a, _, rfl, upd_same, fun dx hdx hne => ⟨rfl, dx, [("index", V.int (i : Int))], upd_same, ?_, ?_, ?_⟩⟩
        · rw [upd_ne hne, upd_same]
        · have := hdx
          rw [upd_ne hne] at this
          exact this
        · refine qb dx _ (fun b o e => ?_) upd_same
          have h1 : b ≠ a := ne_of_none e ha
          have h2 : b ≠ dx := ne_of_none e (by
            have := hdx
            rw [upd_ne hne] at this
            exact this)
          rw [upd_ne h2, del_ne h1, upd_ne h1, upd_ne h2, upd_ne h1]
          exact e
      · rw [if_neg (by omega), if_neg h2] at hf
        exact ⟨_, rfl, _, _, rfl, rfl, _, rfl, ifF (decide_eq_false (by omega)) ⟨_, _, _, rfl, s3, hf⟩⟩
    · rw [if_pos h1] at hf
      have qb : Bad cE i _ E := (qE i hf).same s3
      refine ifT (by rw [List.length_map]; exact ne_T fun e => h1 (Int.ofNat_inj.mp e)) ?_
      refine ⟨_, rfl, ?_⟩
      refine ⟨by show 1 ≤ 1000; decide, fun a ha => ?_⟩
      refine ⟨a, _, rfl, upd_same, fun dx hdx hne => ⟨rfl, dx, [("index", V.int (i : Int))], upd_same, ?_, ?_, ?_⟩⟩
      · rw [upd_ne hne, upd_same]
      · have := hdx
        rw [upd_ne hne] at this
        exact this
      · refine qb dx _ (fun b o e => ?_) upd_same
        have h1 : b ≠ a := ne_of_none e ha
        have h2 : b ≠ dx := ne_of_none e (by
          have := hdx
          rw [upd_ne hne] at this
          exact this)
        rw [upd_ne h2, del_ne h1, upd_ne h1, upd_ne h2, upd_ne h1]
        exact e
  · rintro σ H' ⟨_, _, _, rfl, s1, hf⟩
    rw [hl, List.drop_length] at hf
    exact q hf H' s1
def spRowsX (K : PySem.W.Frag) (cF cR cE cW : Addr) : Sp := fun vs H Q E => ∃ (a dx : Addr) (v : V) (n : Nat) (ps : List RW) (b : Int), vs = [.ref a, .int n, v, .int b] ∧ H a = some (.ins cR dx []) ∧ Sn K H v (.tup (ps.map tdr)) ∧ ps.length ≤ 1000 ∧ (∀ p ∈ ps, p.1.length ≤ 1000 ∧ B 1400 p.2 ∧ ∀ x ∈ p.1, B 1400 x) ∧ n ≤ 300 ∧ 0 < b ∧ B 9000 b ∧
  (fault n ps = none → ∀ H', RowsAt K H' cF cR a n (dp ps (gf b (ws ps))) (b / gf b (ws ps)) → But a H H' → Q .non H') ∧ (∀ k, fault n ps = some (true, k) → Bad cE k H E) ∧ (∀ k, fault n ps = some (false, k) → Bad cW k H E)
theorem okx_iRowList {kws : List (Str × V)} (F : FunD K "__init__" "RowList.__init__" (defArgs s_iRowList) (defBody s_iRowList) (defScope s_iRowList) [] kws f fd) (T : Txt mg) (O : Obs K cF cR) (C_frozen : Cal P w K mg base 3 "frozen" ["value"] (spFz K 3)) (C_check_pairs : CalX P w K mg base 4 "check_pairs" ["size", "pairs"] (spPairsX K cE cW))
    (C_lowered : Cal P w K mg base 1 "lowered" ["numbers", "bottom"] spLow) (C_weighted_matrix : Cal P w K mg base 2 "weighted_matrix" ["size", "pairs"] (spWmat K)) (C_Form : CalK P w K mg base 4 "Form" cF 1 ["bottom"] (spForm K cF)) : FnOk P w K mg base (L2N.CX P w) 6 f fd ["self", "size", "pairs", "bottom"] (spRowsX K cF cR cE cW) := by
  refine okRD F sc_iRowList (fun vs H Q E h => ?_) (fun cdv A outer s H vs Q E hr h => ?_)
  · obtain ⟨a, dx, v, n, ps, b, rfl, _⟩ := h
    rfl
  obtain ⟨a, dx, v, n, ps, b, rfl, hself, hv, hlen, hb0, hn, hb, hB, q, qE, qW⟩ := h
  refine ⟨_, (pss_cons (ps_set (i := 4) sc_iRowList.nd rfl (Or.inl rfl) (pe_cal C_frozen (hr.mono (by omega)) rfl (pa_cons (pv 2) pa_nil)))
  (pss_cons (ps_expr (pe_calX C_check_pairs (hr.mono (by omega)) rfl (L2N.takes_of rfl rfl rfl rfl) (pa_cons (pv 1) (pa_cons (pv 4) pa_nil))))
  (pss_cons (ps_asg (pe_cal C_lowered (hr.mono (by omega)) rfl (pa_cons (pe_lc (own := [("pair", 7)]) (g := gName 7) (tt := tYes) (by rfl) sc_iRowList.nd (pi_tup (pv 4)) (blkOk_by (N := N_iRowList) (sc := defScope s_iRowList) (by decide +kernel)) (fun _ _ _ _ _ => (pg_name (i := 7) sc_iRowList.nd rfl (Or.inl rfl))) (fun _ _ _ _ _ => pts_nil) (fun _ _ _ _ _ => (pe_ix (ix_tupK (K := K) rfl) (pv 7) pe_int (fun _ _ => rfl)))) (pa_cons (pv 3) pa_nil))) (pg_tup rfl (pgs_cons (pg_name (i := 5) sc_iRowList.nd rfl (Or.inl rfl)) (pgs_cons (pg_name (i := 6) sc_iRowList.nd rfl (Or.inl rfl)) pgs_nil))))
  (pss_cons (ps_fld (pv 0) (pv 1) rfl)
  (pss_cons (ps_fld (pv 0) (pe_callTy call_tuple_of (by rfl) T.b_tuple (by decide +kernel) (pa_cons (pe_lc (own := [("pair", 7), ("weight", 8)]) (tt := tYes) (by rfl) sc_iRowList.nd (RZ.pi_zipA (by rfl) T.b_zip (pa_cons (pv 4) (pa_cons (pv 5) pa_nil))) (blkOk_by (N := N_iRowList) (sc := defScope s_iRowList) (by decide +kernel)) (fun _ _ _ _ _ => (pg_tupK (K := K) (n := 2) rfl rfl (pgs_cons (pg_name (i := 7) sc_iRowList.nd rfl (Or.inl rfl)) (pgs_cons (pg_name (i := 8) sc_iRowList.nd rfl (Or.inl rfl)) pgs_nil)))) (fun _ _ _ _ _ => pts_nil) (fun _ _ _ _ _ => (pe_tup (pa_cons (pe_ix (ix_tupK (K := K) rfl) (pv 7) pe_int (fun _ _ => rfl)) (pa_cons (pv 8) pa_nil))))) pa_nil)) rfl)
  (pss_cons (ps_fld (pv 0) (pv 6) rfl)
  (pss_one (ps_fld (pv 0) (pe_calK C_Form (hr.mono (by omega)) rfl (pa_cons (pe_cal C_weighted_matrix (hr.mono (by omega)) rfl (pa_cons (pv 1) (pa_cons (pe_fld (pv 0) rfl) pa_nil))) pa_nil) (pk_cons (pv 6) pk_nil)) rfl)))))))), ?_⟩
  have hpl := hlen
  refine ⟨_, rfl, _, _, rfl, hv, dep_prs, sm_prs (by omega) (fun p hp => Nat.le_trans (hb0 p hp).1 (by omega)), fun v1 H1 s1 hz1 => ?_⟩
  refine ⟨_, rfl, _, rfl, n, _, ps, rfl, hz1, fun hno H2 s2 => ?_, fun k hk => (qE k hk).same s1, fun k hk => (qW k hk).same s1⟩
  have q := q hno
  have hps : Prs n ps := ⟨hlen, fun p hp => ⟨(fault_none hno p hp).1, (fault_none hno p hp).2, (hb0 p hp).2.1, (hb0 p hp).2.2⟩⟩
  have hz2 := hz1.tk (WK.Same.tk s2)
  obtain ⟨e, vs, rfl, he, hl, hrow⟩ := fz_prs hz2
  refine ⟨_, rfl, e, rfl, ⟨_, he⟩, fun D hD => ?_⟩
  refine lc_m (walk_tup (K := K) (a := e) (xs := vs)) RI (stb_RI (K := K)) ps hl (by omega) hD (fun H' s => Same_seqT s he) (fun _ _ _ _ => ys_at) (·.2) (fun k p x H3 H4 hb1 s3 s4 y A B hA => ?_) (fun H3 l s3 hl3 rs => ?_)
  · obtain ⟨q1, r1, hq1, hq2, hq3⟩ := hrow k p hb1
    rw [y.2] at hq1
    cases hq1
    exact ⟨rfl, lc_yes ⟨_, rfl, q1, _, 1, _, rfl, rfl, Same_seqT s4 hq2, at_pos (by decide) rfl, hA _ _ (fun _ _ h => h) rfl⟩⟩
  refine ⟨_, rfl, D, ws ps, b, rfl, by rw [hl3, rs.ints]; rfl, hb, hB, by unfold ws; rw [List.length_map]; omega, fun r t H5 s5 hr5 ht5 => ?_⟩
  have hg := gf_pos hb (ws ps)
  refine ⟨_, _, rfl, SqT.of hr5, rfl, _, _, rfl, _, _, rfl, rfl, ?_⟩
  have sA : Same H H5 := s1.trans (s2.trans (s3.trans s5))
  refine ⟨_, rfl, _, rfl, a, cR, dx, _, rfl, sA _ _ hself, O.clR, O.R_size, (by show 0 < 1000; decide), ?_⟩
  generalize hH6 : upd H5 a _ = H6
  have hs6 : H6 a = some (.ins cR dx (putF "size" (.int n) [])) := by rw [← hH6, upd_same]
  have b6 : But a H H6 := by rw [← hH6]; exact (But.of sA).put _
  have t56 : Tk K H5 H6 := But.tk (sA _ _ hself) (by rw [← hH6]; exact (But.of fun _ _ h => h).put _)
  have ht6 : SqT K H6 t (((ws ps).map fun n => n / gf b (ws ps)).map V.int) := t56 _ _ (SqT.of ht5)
  have tk26 : Tk K H2 H6 := fun x ys h => t56 _ _ (Same_seqT (s3.trans s5) h)
  have he6 : SqT K H6 e vs := tk26 _ _ he
  refine ⟨_, rfl, _, rfl, e, t, vs, _, rfl, .inr ⟨he6, ht6, fun D2 hD2 => ?_⟩⟩
  have hwl : (((ws ps).map fun n => n / gf b (ws ps)).map V.int).length = ps.length := by unfold ws; rw [List.length_map, List.length_map, List.length_map]
  refine lc_m (walk_zT (K := K) (a := e) (b := t) (xs := vs) (ys := ((ws ps).map fun n => n / gf b (ws ps)).map V.int) (n := ps.length) (by rw [hwl, hl]; omega)) (Fz K) stb_Fz ps rfl (by omega) hD2 (fun H' s => ⟨Same_seqT s he6, Same_seqT s ht6⟩) (fun _ _ _ _ => ys_pair) (fun p => tdr (p.1, p.2 / gf b (ws ps))) (fun k p x H7 H8 hb2 s7 s8 y A2 B2 hA => ?_) (fun H7 l s7 hl7 rs2 => ?_)
  · obtain ⟨q1, r1, hq1, hq2, hq3⟩ := hrow k p hb2
    obtain ⟨Tp, x1, x2, rfl, hT, rfl, e1, e2⟩ := y
    rw [show vs[k]? = some x1 from e1] at hq1
    cases hq1
    have e3 : (((ws ps).map fun n => n / gf b (ws ps)).map V.int)[k]? = some (.int (p.2 / gf b (ws ps))) := by
      unfold ws
      rw [List.getElem?_map, List.getElem?_map, List.getElem?_map, hb2]
      rfl
    rw [show (((ws ps).map fun n => n / gf b (ws ps)).map V.int)[k]? = some x2 from e2] at e3
    cases e3
    have tk8 : Tk K H2 (upd H7 Tp (.tup [.ref q1, .int (p.2 / gf b (ws ps))])) := fun x ys h => Same_seqT s8 (tk26 _ _ h)
    refine ⟨_, _, rfl, SqT.of upd_same, rfl, _, _, rfl, _, _, rfl, rfl, rfl, lc_yes ?_⟩
    refine ⟨_, rfl, q1, _, 0, _, rfl, rfl, tk8 _ _ hq2, at_pos (by decide) rfl, _, rfl, two_line, fun z hz => hA _ _ (same_new hz _) ?_⟩
    refine .tup (SqT.of upd_same) (.cons (.tup (Same_seqT (same_new hz _) (tk8 _ _ hq3)) (FzAll.of_ints _)) (.cons (.int _) .nil))
  refine ⟨D2, l, rfl, .inl ⟨SqL.of hl7, fun t2 ht2 => ?_⟩⟩
  have sB : Same H6 (upd H7 t2 (.tup l)) := s7.trans (same_new ht2 _)
  have hps8 : FzAll K H7 l ((dp ps (gf b (ws ps))).map tdr) := by
    have := rs2.fz
    unfold dp
    rw [List.map_map]
    exact this
  have hp8 : Fz K (upd H7 t2 (.tup l)) (.ref t2) (.tup ((dp ps (gf b (ws ps))).map tdr)) := .tup (SqT.of upd_same) (hps8.tk (WK.Same.tk (same_new ht2 _)))
  refine ⟨_, rfl, a, cR, dx, _, rfl, sB _ _ hs6, O.clR, O.R_pairs, (by show 1 < 1000; decide), ?_⟩
  generalize hH9 : upd (upd H7 t2 (.tup l)) a _ = H9
  have b9 : But a (upd H7 t2 (.tup l)) H9 := by rw [← hH9]; exact (But.of fun _ _ h => h).put _
  have hs9 : H9 a = some (.ins cR dx (putF "pairs" (.ref t2) (putF "size" (.int n) []))) := by rw [← hH9, upd_same]
  have hp9 := hp8.tk (But.tk (sB _ _ hs6) b9)
  refine ⟨_, rfl, _, rfl, a, cR, dx, _, rfl, hs9, O.clR, O.R_bottom, (by show 2 < 1000; decide), ?_⟩
  generalize hH10 : upd H9 a _ = H10
  have b10 : But a H9 H10 := by rw [← hH10]; exact (But.of fun _ _ h => h).put _
  have hs10 : H10 a = some (.ins cR dx (putF "bottom" (.int (b / gf b (ws ps))) (putF "pairs" (.ref t2) (putF "size" (.int n) [])))) := by rw [← hH10, upd_same]
  have hp10 := hp9.tk (But.tk hs9 b10)
  have bb : But a H H10 := ((b6.then sB).trans b9).trans b10
  have hlk : (putF "bottom" (.int (b / gf b (ws ps))) (putF "pairs" (.ref t2) (putF "size" (.int n) []))).lookup ("pairs" : Str) = some (.ref t2) := by
    rw [lookup_putF, if_neg (by decide +kernel), lookup_putF, if_pos rfl]
  have hpd := prs_dp hps hb
  refine ⟨_, rfl, _, rfl, a, cR, dx, _, _, rfl, hs10, O.clR, O.R_pairs, hlk, _, n, _, rfl, hp10, hpd, by omega, fun r2 H11 s11 hsn => ?_⟩
  refine ⟨_, rfl, rfl, rfl, fun x dx2 hx hdx hne => ?_⟩
  have hb2 : 0 < b / gf b (ws ps) := quot_pos hg (gf_dvd _).1 (by omega)
  refine ⟨x, dx2, _, wmat n (dp ps (gf b (ws ps))), b / gf b (ws ps), rfl, upd_same, hsn.same (new_two hx hdx), wmat_sqr, wmat_sym, by rw [wmat_len]; exact hn, hb2, B.div hg hB, fun H12 hF hbut => ⟨rfl, ?_⟩⟩
  have s12 : Same H11 H12 := made_same hx hdx hbut
  have s1012 := s11.trans s12
  refine ⟨_, rfl, a, cR, dx, _, rfl, s1012 _ _ hs10, O.clR, O.R_form, (by show 3 < 1000; decide), ?_⟩
  have b13 : But a H12 (upd H12 a (.ins cR dx (putF "form" (.ref x) (putF "bottom" (.int (b / gf b (ws ps))) (putF "pairs" (.ref t2) (putF "size" (.int n) [])))))) := (But.of fun _ _ h => h).put _
  have t13 := But.tk (K := K) (s1012 _ _ hs10) b13
  have hxa : x ≠ a := fun z => by rw [z, s11 _ _ hs10] at hx; cases hx
  rw [wmat_len] at hF
  refine q _ ⟨dx, t2, x, by rw [upd_same, flR], (hp10.tk (WK.Same.tk s1012)).tk t13, hF.at (fun o e => b13 _ _ e hxa) t13⟩ ((bb.then s1012).trans b13)
def spAddX (K : PySem.W.Frag) (cF cR cS : Addr) : Sp := fun vs H Q E => ∃ (p p2 : Addr) (n n2 : Nat) (ps os : List RW) (b c : Int), vs = [.ref p, .ref p2] ∧ RowsAt K H cF cR p n ps b ∧ RowsAt K H cF cR p2 n2 os c ∧ n ≠ n2 ∧ Shd cS n n2 H E
theorem okx_mAdd (F : Fun K "__add__" "RowList.__add__" s_mAdd f fd) (T : Txt mg) (U : Err K mg cF cR cS cE cW cC cD cB cI cT fS fE fW) (O : Obs K cF cR) (IN_SizesDiffer : FnOk P w K mg base CX0 1 fS fdS ["self", "one", "two"] (spInit2 cS)) (B_SizesDiffer : Binds K fdS ["self", "one", "two"] []) (C_RowList : CalK P w K mg base 6 "RowList" cR 2 ["bottom"] (spRows K cF cR)) :
    FnOk P w K mg base (L2N.CX P w) 8 f fd ["self", "other"] (spAddX K cF cR cS) := by
  refine okR F sc_mAdd (fun vs H Q E h => ?_) (fun cdv A outer s H vs Q E hr h => ?_)
  · obtain ⟨p, p2, n, n2, ps, os, b, c, rfl, _⟩ := h
    rfl
  obtain ⟨p, p2, n, n2, ps, os, b, c, rfl, ⟨dx, e, F1, hi, _⟩, ⟨dy, e2, F2, hi2, _⟩, hne, q⟩ := h
  refine ⟨_, (pss_cons (ps_if (pt_cmpR op_ne (pe_fld (pv 0) rfl) (pe_fld (pv 1) rfl) (nomark _)) (pss_one (L2N.ps_raise rfl (L2N.takes_of rfl rfl rfl rfl) (pmkI U.o_SizesDiffer U.i_SizesDiffer U.t_SizesDiffer IN_SizesDiffer (hr.mono (by omega)) B_SizesDiffer passN rfl U.g_SizesDiffer (pa_cons (pe_fld (pv 0) rfl) (pa_cons (pe_fld (pv 1) rfl) pa_nil))))) pss_nil)
  (pss_cons (ps_setLc (i := 2) (own := [("row", 4), ("weight", 5)]) (tt := tYes) (by rfl) sc_mAdd.nd rfl rfl (sw_true rfl rfl rfl (by decide +kernel)) (pi_tup (pe_fld (pv 0) rfl)) (blkOk_by (N := N_mAdd) (sc := defScope s_mAdd) (by decide +kernel)) (fun _ _ _ _ _ => (pg_tupK (K := K) (n := 2) rfl rfl (pgs_cons (pg_name (i := 4) sc_mAdd.nd rfl (Or.inl rfl)) (pgs_cons (pg_name (i := 5) sc_mAdd.nd rfl (Or.inl rfl)) pgs_nil)))) (fun _ _ _ _ _ => pts_nil) (fun _ _ _ _ _ => (pe_tup (pa_cons (pv 4) (pa_cons (pe_op op_mulW (pv 5) (pe_fldK (K := K) rfl (pv 1) rfl)) pa_nil)))))
  (pss_cons (ps_setLc (i := 3) (own := [("row", 4), ("weight", 5)]) (tt := tYes) (by rfl) sc_mAdd.nd rfl rfl (sw_true rfl rfl rfl (by decide +kernel)) (pi_tup (pe_fld (pv 1) rfl)) (blkOk_by (N := N_mAdd) (sc := defScope s_mAdd) (by decide +kernel)) (fun _ _ _ _ _ => (pg_tupK (K := K) (n := 2) rfl rfl (pgs_cons (pg_name (i := 4) sc_mAdd.nd rfl (Or.inl rfl)) (pgs_cons (pg_name (i := 5) sc_mAdd.nd rfl (Or.inl rfl)) pgs_nil)))) (fun _ _ _ _ _ => pts_nil) (fun _ _ _ _ _ => (pe_tup (pa_cons (pv 4) (pa_cons (pe_op op_mulW (pv 5) (pe_fldK (K := K) rfl (pv 0) rfl)) pa_nil)))))
  (pss_one (ps_ret (pe_calK C_RowList (hr.mono (by omega)) rfl (pa_cons (pe_fld (pv 0) rfl) (pa_cons (pe_op op_cat (pv 2) (pv 3)) pa_nil)) (pk_cons (pe_op op_mulW (pe_fld (pv 0) rfl) (pe_fld (pv 1) rfl)) pk_nil))))))), ?_⟩
  refine ⟨_, rfl, p, cR, dx, _, _, rfl, hi, O.clR, O.R_size, lkRs _ _ _ _, _, rfl, p2, cR, dy, _, _, rfl, hi2, O.clR, O.R_size, lkRs _ _ _ _, rfl, _, rfl, ifT (ne_T fun e => hne (Int.ofNat_inj.mp e)) ?_⟩
  refine ⟨_, rfl, p, cR, dx, _, _, rfl, hi, O.clR, O.R_size, lkRs _ _ _ _, _, rfl, p2, cR, dy, _, _, rfl, hi2, O.clR, O.R_size, lkRs _ _ _ _, ?_⟩
  refine ⟨by show 2 ≤ 1000; decide, fun a ha => ?_⟩
  refine ⟨a, .int n, .int n2, rfl, upd_same, fun d hd hda => ⟨rfl, d, [("two", .int n2), ("one", .int n)], ?_, upd_same, ?_, ?_⟩⟩
  · rw [upd_ne (Ne.symm hda), upd_same]
  · have := hd
    rw [upd_ne hda] at this
    exact this
  · refine q d _ (fun b o e => ?_) upd_same
    have h1 : b ≠ a := fun z => by rw [z, ha] at e; cases e
    have h2 : b ≠ d := fun z => by
      have := hd
      rw [upd_ne hda] at this
      rw [z, this] at e
      cases e
    rw [upd_ne h2, del_ne h1, upd_ne h2, upd_ne h1, upd_ne h2, upd_ne h1]
    exact e
end
end P03
set_option maxHeartbeats 2000000
/-! Making and adding where an error may be caught: what is wished of it knows the state. -/
namespace KO
open PySem PySem.Spec PyProof.Rows L2
theorem pe_either {X : Cx} {e : Expr} {t1 t2 : TE} (h1 : PE X e t1) (h2 : PE X e t2) : PE X e (fun σ H Q => t1 σ H Q ∨ t2 σ H Q) := ⟨fun pins s σ H Q I h => h.elim (h1.run pins s σ H Q I) (h2.run pins s σ H Q I)⟩
def tMakeKS (C : Addr) (n m : Nat) (sp : Sp) (gV : List V → List V → List V) (E : L2.St → XK) (t tk : TA) : TE := fun σ H Q => t σ H fun vs H1 => tk σ H1 fun zs H2 => vs.length = n ∧ zs.length = m ∧ ∀ x dx, H2 x = none → H2 dx = none → dx ≠ x →
  sp (gV (.ref x :: vs) zs) (upd (upd H2 dx (.own x)) x (.ins C dx [])) (fun v H3 => v = .non ∧ Q (.ref x) H3) (E σ)
section
variable {X : Cx} {CX : CXT} {k n : Nat} {f C : Addr} {fd : FuncData} {ps ks : List Str} {sp : Sp} {E : L2.St → XK} {x : Str} {p pos : Pos} {e : Expr} {es : List Expr} {kws : List Keyword} {t tk : TA} {g : List Value → List Value → List Value} {gV : List V → List V → List V}
theorem run_makeKS {pins : List (Addr × Obj)} {σ : L2.St} {H : Hp} {s : Shared} {Q : VK} {us ws : List Value} {vs zs : List V} (M : Mk X.K C f) (F : FnOk X.prog X.w X.K X.mg X.base CX k f fd ps sp) (hr : Room (k + 1) X.A) (hb : KBn X.K fd ps (n + 1) ks g gV) (hx : PassesAt CX X σ (E σ))
    (I : Inv X pins σ H s) (r : Vals vs us) (rz : Vals zs ws) (l1 : vs.length = n) (l2 : zs.length = ks.length)
    (h : ∀ x dx, H x = none → H dx = none → dx ≠ x → sp (gV (.ref x :: vs) zs) (upd (upd H dx (.own x)) x (.ins C dx [])) (fun v H2 => v = .non ∧ Q (.ref x) H2) (E σ)) :
    wpAny (model X.prog X.w) X.A (call (.ref C) us (ks.zip ws)) (EP X pins σ Q) X.xe s := by
  have hq := h (s.heap.objs.size + 1) s.heap.objs.size (I.hok.fresh (Nat.le_succ _)) (I.hok.fresh (Nat.le_refl _)) (Nat.ne_of_lt (Nat.lt_succ_self _))
  have I2 := Inv.made (C := C) I
  have r1 : Vals (V.ref (s.heap.objs.size + 1) :: vs) (Value.ref (s.heap.objs.size + 1) :: us) := .cons rfl r
  have r2 := hb.rel r1 rz
  have n1 : (Value.ref (s.heap.objs.size + 1) :: us).length = n + 1 := by
    rw [List.length_cons, ← r.length, l1]
  refine wpAny_call (make_map (f := f) I.kIn M.makes M.init (beq_iff_eq.mp M.fn) (codeAny_mono (F.run _ X.stack _ _ ⟨Value.ref (s.heap.objs.size + 1) :: us, ks.zip ws⟩ (g (Value.ref (s.heap.objs.size + 1) :: us) ws) _ _ (E σ) (hr.make C us (ks.zip ws))
    (I2.env0.make C us (ks.zip ws)) (hb.to _ (Value.ref (s.heap.objs.size + 1) :: us) ws I2.kIn n1 (rz.length.symm.trans l2)) r2 hq) fun r s' hq' => ?_))
  cases r with
  | error e => exact hx pins _ _ e s' I2 hq'
  | ok fl =>
    cases fl with
    | ret u =>
      obtain ⟨v, H', I3, rv, ev, q3⟩ := I2.after hq'
      subst ev
      exact ⟨rv, ⟨V.ref (s.heap.objs.size + 1), H', I3, rfl, q3⟩⟩
    | next => exact False.elim hq'
    | brk => exact False.elim hq'
    | cont => exact False.elim hq'
/-- C(e, .., k = v, ..) that may raise -/
theorem pe_makeKS (M : Mk X.K C f) (F : FnOk X.prog X.w X.K X.mg X.base CX k f fd ps sp) (hr : Room (k + 1) X.A) (hg : Gl X x) (hm : X.mg x = some (.ref C)) (hb : KBn X.K fd ps (n + 1) ks g gV) (hx : ∀ σ, PassesAt CX X σ (E σ)) (ha : PA X (e :: es) t) (hkw : PK X kws tk)
    (hall : (backToKw pos (keywordEach kws X.env)).all (·.1.isSome) = true := by rfl) (hks : (backToKw pos (keywordEach kws X.env)).filterMap (·.1) = ks := by rfl) (hdb : (x == ("__debug__" : Str)) = false := by decide)
    (he : starEach (e :: es) X.env = (false, eval e X.env) :: starEach es X.env := by rfl) (hpl : ((backTo pos (starEach (e :: es) X.env)).any (·.1) || (backToKw pos (keywordEach kws X.env)).any (·.1.isNone)) = false := by rfl) :
    PE X (.Call (.Name x p) (e :: es) kws pos) (tMakeKS C n ks.length sp gV E t tk) := by
  refine ⟨fun pins s σ H Q I h => ?_⟩
  refine wpAny_Call_Name_kw (ld_glob I hg hm ?_ hdb)
  refine PySem.W.callWith_KW (h₀ := X.base) I.ok.mod.kin M.kp hall (thn (ha.run pos pins s σ H _ I h) fun us s1 ⟨vs, H1, I1, r, q⟩ => ?_) hpl he
  refine thn (hkw.run pos pins s1 σ H1 _ I1 q) fun ws s2 ⟨zs, H2, I2, rz, l1, l2, q2⟩ => ⟨I2.kIn, ?_⟩
  rw [hks]
  exact run_makeKS M F hr hb (hx σ) I2 r rz l1 l2 q2
end
/-! ### o + y that may raise -/
def tOAddS (C : Addr) (sp : Sp) (E : L2.St → XK) (ta tb : TE) : TE := fun σ H Q => ta σ H fun x H1 => tb σ H1 fun y H2 => rOAdd C sp (E σ) x y H2 Q
theorem pe_oaddS {X : Cx} {CX : CXT} {k : Nat} {C f : Addr} {fd : FuncData} {sp : Sp} {ps : List Str} {E : L2.St → XK} {a b : Expr} {ta tb : TE} {pos : Pos} (F : FnOk X.prog X.w X.K X.mg X.base CX k f fd ps sp) (hc : PySem.W.selfFirst X.K C = true) (hs : PySem.W.findIn X.K (.ref C) "__add__" = some (some (.ref f))) (hf : PySem.W.isFn X.K (.ref f) = true)
    (hr : Room k X.A) (hb : Binds X.K fd ps []) (hx : ∀ σ, PassesAt CX X σ (E σ)) (ha : PE X a ta) (hb2 : PE X b tb) : PE X (.BinOp a .Add b pos) (tOAddS C sp E ta tb) := by
  refine ⟨fun pins s0 σ H0 Q I0 h => wpAny_BinOp (binT ha hb2 I0 h fun v u s x y H I rx ry hq => ?_)⟩
  obtain ⟨a, dx, fs, b, dy, gs, rfl, ha, rfl, hb2, hsp⟩ := hq
  cases rx
  cases ry
  obtain ⟨mA, J, _⟩ := ins_get I.hok ha
  obtain ⟨od, J, _⟩ := J.look
  obtain ⟨mB, J', _⟩ := ins_get I.hok hb2
  obtain ⟨od', J', _⟩ := J'.look
  obtain ⟨m, hF⟩ := I.fr
  refine PySem.W.binop_K (op := .Add) hF I.ok.mod.kin J J'.type hc hs hf ?_
  have hl := F.len _ _ _ _ hsp
  have r2 : Vals [V.ref a, V.ref b] [Value.ref a, Value.ref b] := .cons rfl (.cons rfl .nil)
  refine wpAny_call (codeAny_mono (F.run X.A X.stack s H ⟨[.ref a, .ref b], []⟩ [.ref a, .ref b] [.ref a, .ref b] _ (E σ) hr I.env0 (by
    have := hb s [.ref a, .ref b] I.kIn (by simpa using hl)
    simpa using this) r2 hsp) fun r s' hq => ?_)
  cases r with
  | error e => exact hx σ pins H s e s' I hq
  | ok fl =>
    cases fl with
    | next => exact False.elim hq
    | brk => exact False.elim hq
    | cont => exact False.elim hq
    | ret w =>
      obtain ⟨z, H', I', rz, ⟨p, rfl⟩, q⟩ := I.after hq
      cases rz
      exact ⟨.ref p, H', I', rfl, q⟩
end KO
set_option exponentiation.threshold 3000
namespace P03
open PySem PySem.Spec PyProof.Rows L2 SX EX WK
/-- a pair that is not the thing at D -/
def PLD (D : Addr) : Hp → V → RW → Prop := fun H v q => ∃ p r : Addr, v = .ref p ∧ p ≠ D ∧ r ≠ D ∧ H p = some (.lst [.ref r, .int q.2]) ∧ H r = some (.lst (q.1.map V.int))
theorem stb_PLD {D : Addr} : StbD D (PLD D) := fun _ _ _ _ _ e ⟨p, r, h1, h2, h3, h4, h5⟩ => ⟨p, r, h1, h2, h3, e _ _ h2 h4, e _ _ h3 h5⟩
theorem PLD.pl {D : Addr} {H : Hp} {v : V} {q : RW} (h : PLD D H v q) : PL H v q := let ⟨p, r, h1, _, _, h4, h5⟩ := h; ⟨p, r, h1, h4, h5⟩
theorem pld_prs {D : Addr} {H : Hp} {l : List V} {ps : List RW} (h : H D = some (.lst l)) (r : Rs (PLD D) H l ps) : PrsL H D ps := ⟨l, h, r.1, fun i v z a b => (r.2 i v z a b).pl⟩
theorem prsl_sn {K : PySem.W.Frag} {H : Hp} {a : Addr} {ps : List RW} (h : PrsL H a ps) : Sn K H (.ref a) (.tup (ps.map tdr)) := by
  obtain ⟨vs, h1, h2⟩ := h
  refine .lst h1 (snall_of (by rw [List.length_map]; exact h2.1) fun i v t hv ht => ?_)
  rw [List.getElem?_map] at ht
  cases e : ps[i]? with
  | none => rw [e] at ht; cases ht
  | some p =>
    rw [e] at ht
    cases ht
    obtain ⟨q, r, rfl, h4, h5⟩ := h2.2 i v p hv e
    exact .lst h4 (.cons (.lst h5 (FzAll.of_ints _).sn) (.cons (.int _) .nil))
theorem kit4 {K : PySem.W.Frag} {x a b c d : Value} (h1 : PySem.W.kitOne K x a = some false) (h2 : PySem.W.kitOne K x b = some false) (h3 : PySem.W.kitOne K x c = some false) (h4 : PySem.W.kitOne K x d = some false) : PySem.W.kitAny K x [a, b, c, d] = some false := by
  unfold PySem.W.kitAny
  rw [h1]
  unfold PySem.W.kitAny
  rw [h2]
  unfold PySem.W.kitAny
  rw [h3]
  unfold PySem.W.kitAny
  rw [h4]
  rfl
def AddX (P : Program) (w : World) (K : PySem.W.Frag) (mg : Str → Option Value) (base : Heap) (cF cR cS : Addr) : Prop :=
  ∃ (f : Addr) (fd : FuncData), FnOk P w K mg base (L2N.CX P w) 8 f fd ["self", "other"] (spAddX K cF cR cS) ∧ PySem.W.selfFirst K cR = true ∧ PySem.W.findIn K (.ref cR) "__add__" = some (some (.ref f)) ∧ PySem.W.isFn K (.ref f) = true ∧ Binds K fd ["self", "other"] []
theorem pe_addX {X : Cx} {K : PySem.W.Frag} {W : WX} {cF cR cS : Addr} {a b : Expr} {ta tb : TE} {pos : Pos} (hK : X.K = K) (C : AddX X.prog X.w K X.mg X.base cF cR cS) (hr : Room 8 X.A) (tk : L2N.Takes X W) (ha : PE X a ta) (hb : PE X b tb) : PE X (.BinOp a .Add b pos) (KO.tOAddS cR (spAddX K cF cR cS) (WE W) ta tb) := by
  subst hK
  obtain ⟨f, fd, F, h1, h2, h3, h4⟩ := C
  exact KO.pe_oaddS F h1 h2 h3 hr h4 (L2N.passAt tk) ha hb
/-- a class whose __init__ may raise -/
def CalKX (P : Program) (w : World) (K : PySem.W.Frag) (mg : Str → Option Value) (base : Heap) (k : Nat) (x : Str) (C : Addr) (n : Nat) (ks : List Str) (sp : Sp) : Prop :=
  ∃ (f : Addr) (fd : FuncData) (ps : List Str) (g : List Value → List Value → List Value), Mk K C f ∧ FnOk P w K mg base (L2N.CX P w) k f fd ps sp ∧ mg x = some (.ref C) ∧ KBn K fd ps (n + 1) ks g (fun vs zs => vs ++ zs)
theorem pe_calKX {X : Cx} {k n : Nat} {W : WX} {C : Addr} {x : Str} {ks : List Str} {sp : Sp} {p pos : Pos} {e : Expr} {es : List Expr} {kws : List Keyword} {t tk : TA} (M : CalKX X.prog X.w X.K X.mg X.base k x C n ks sp) (hr : Room (k + 1) X.A) (hg : Gl X x) (tk0 : L2N.Takes X W) (ha : PA X (e :: es) t) (hkw : PK X kws tk)
    (hall : (backToKw pos (keywordEach kws X.env)).all (·.1.isSome) = true := by rfl) (hks : (backToKw pos (keywordEach kws X.env)).filterMap (·.1) = ks := by rfl) (hdb : (x == ("__debug__" : Str)) = false := by decide)
    (he : starEach (e :: es) X.env = (false, eval e X.env) :: starEach es X.env := by rfl) (hpl : ((backTo pos (starEach (e :: es) X.env)).any (·.1) || (backToKw pos (keywordEach kws X.env)).any (·.1.isNone)) = false := by rfl) :
    PE X (.Call (.Name x p) (e :: es) kws pos) (KO.tMakeKS C n ks.length sp (fun vs zs => vs ++ zs) (WE W) t tk) := by
  obtain ⟨f, fd, ps, g, M, F, hm, hb⟩ := M
  exact KO.pe_makeKS M F hr hg hm hb (L2N.passAt tk0) ha hkw hall hks hdb he hpl
section
variable {P : Program} {w : World} {K : PySem.W.Frag} {mg : Str → Option Value} {base : Heap} {f : Addr} {fd : FuncData} {cF cR cS cE cW cC cD cB cI cT fS fE fW : Addr} {fdS fdE fdW : FuncData}
def spTold (K : PySem.W.Frag) (cF cR : Addr) : Sp := fun vs H Q _ => ∃ (p p2 : Addr) (n n2 : Nat) (ps os : List RW) (b c : Int), vs = [.ref p, .ref p2] ∧ RowsAt K H cF cR p n ps b ∧ RowsAt K H cF cR p2 n2 os c ∧ n ≠ n2 ∧ ∀ r H', Same H H' → H' r = some (.lst [.int (n : Int), .int (n2 : Int)]) → Q (.ref r) H'
abbrev s__law_told_sizes : Stmt := top 51
abbrev N__law_told_sizes : List Str := ["one", "two", "joined", "e"]
theorem sc__law_told_sizes : FnScope N__law_told_sizes ["one", "two"] (defScope s__law_told_sizes) := ⟨rfl, rfl, rfl, by decide +kernel, rfl, by decide +kernel, by decide +kernel⟩
theorem ok__law_told_sizes (F : Fun K "_law_told_sizes" "_law_told_sizes" s__law_told_sizes f fd) (T : Txt mg) (U : Err K mg cF cR cS cE cW cC cD cB cI cT fS fE fW) (CX_add : AddX P w K mg base cF cR cS) (CH__law_whole : CalH P w K mg base 1 "_law_whole" ["value"] spLaw_whole) : FnOk P w K mg base CX0 10 f fd ["one", "two"] (spTold K cF cR) := by
  refine F.ok sc__law_told_sizes (fun vs H Q E h => ?_) (fun cdv A outer s H vs Q E hr h => ?_)
  · obtain ⟨p, p2, n, n2, ps, os, b, c, rfl, _⟩ := h
    rfl
  obtain ⟨p, p2, n, n2, ps, os, b, c, rfl, hp, hq, hne, q⟩ := h
  refine ⟨_, (pss_cons (L2N.ps_try_as (i := 3) rfl rfl sc__law_told_sizes.nd rfl rfl ⟨rfl, by decide, Or.inl U.g_SizesDiffer⟩ takesN (fun W pn xe tk _ => (pss_one (ps_set (i := 2) sc__law_told_sizes.nd rfl (Or.inl rfl) (pe_addX (K := K) rfl CX_add (hr.mono (by omega)) tk (pv 0) (pv 1))))) (fun a oe cls d pn hz hf => (pss_cons (ps_if (PW.pt (pw_or (pt_val (pe_callB (call_isX (K := K) rfl hz.zc hf) (by rfl) T.b_isinstance (by decide +kernel) (pa_cons (pv 3) (pa_cons (pe_glob (v := .ref _) rfl U.g_BadRow rfl) pa_nil)))) (pw_or (pt_val (pe_callB (call_isX (K := K) rfl hz.zc hf) (by rfl) T.b_isinstance (by decide +kernel) (pa_cons (pv 3) (pa_cons (pe_glob (v := .ref _) rfl U.g_CountsDiffer rfl) pa_nil)))) (pw_or (pt_not (pt_val (pe_calH CH__law_whole ((roomS hr).mono (by omega)) (hot_of hz hf) rfl (pa_cons (pe_xf U.x_SizesDiffer U.no_SizesDiffer_one hz.zc hf (pv 3)) pa_nil)))) (pw_or1 (pt_not (pt_val (pe_calH CH__law_whole ((roomS hr).mono (by omega)) (hot_of hz hf) rfl (pa_cons (pe_xf U.x_SizesDiffer U.no_SizesDiffer_two hz.zc hf (pv 3)) pa_nil))))))))) (pss_one (ps_ret (pe_lst (pa_cons pe_str pa_nil)))) pss_nil)
  (pss_one (ps_ret (pe_lst (pa_cons (pe_xf U.x_SizesDiffer U.no_SizesDiffer_one hz.zc hf (pv 3)) (pa_cons (pe_xf U.x_SizesDiffer U.no_SizesDiffer_two hz.zc hf (pv 3)) pa_nil))))))))
  (pss_one (ps_ret (pe_lst (pa_cons (pe_callB call_len_seq (by rfl) T.b_len PySem.boot_len (pa_cons (pv 2) pa_nil)) (pa_cons pe_str pa_nil)))))), ?_⟩
  obtain ⟨dx, e, F1, hi, hr1⟩ := id hp
  obtain ⟨dy, e2, F2, hi2, hr2⟩ := id hq
  refine ⟨_, rfl, _, rfl, p, dx, _, p2, dy, _, rfl, hi, rfl, hi2, p, p2, n, n2, ps, os, b, c, rfl, hp, hq, hne, fun d H4 g4 hd4 => ?_⟩
  refine ⟨true, U.eSS, fun _ e _ => ?_, fun z => Bool.noConfusion z⟩
  refine ⟨_, rfl, cS, _, _, false, rfl, .own _, rfl, U.xS, .inr ⟨d, _, rfl, hd4⟩, U.kSE, _, rfl, ifF rfl ?_⟩
  refine ⟨_, rfl, cS, _, _, false, rfl, .own _, rfl, U.xS, .inr ⟨d, _, rfl, hd4⟩, U.kSD, _, rfl, ifF rfl ?_⟩
  refine ⟨_, rfl, rfl, rfl, d, _, .int n, rfl, hd4, by rw [lk_skip (by decide +kernel), lk_hit], (n : Int), rfl, true, rfl, ifF rfl ?_⟩
  refine ⟨_, rfl, rfl, rfl, d, _, .int n2, rfl, hd4, lk_hit, (n2 : Int), rfl, true, rfl, ifF rfl ?_⟩
  refine ⟨_, rfl, rfl, rfl, d, _, .int n, rfl, hd4, by rw [lk_skip (by decide +kernel), lk_hit], _, rfl, rfl, rfl, d, _, .int n2, rfl, hd4, lk_hit, two_line, fun r hr' => ?_⟩
  exact q r _ (g4.trans (same_new hr' _)) upd_same
def spCaught (K : PySem.W.Frag) (cF cR : Addr) : Sp := fun vs H Q _ => ∃ (p p2 : Addr) (n n2 : Nat) (ps os : List RW) (b c : Int), vs = [.ref p, .ref p2] ∧ RowsAt K H cF cR p n ps b ∧ RowsAt K H cF cR p2 n2 os c ∧ n ≠ n2 ∧ ∀ H', Same H H' → Q (.bl true) H'
abbrev s__law_caught : Stmt := top 52
abbrev N__law_caught : List Str := ["one", "two", "joined", "e"]
theorem sc__law_caught : FnScope N__law_caught ["one", "two"] (defScope s__law_caught) := ⟨rfl, rfl, rfl, by decide +kernel, rfl, by decide +kernel, by decide +kernel⟩
theorem ok__law_caught (F : Fun K "_law_caught" "_law_caught" s__law_caught f fd) (T : Txt mg) (U : Err K mg cF cR cS cE cW cC cD cB cI cT fS fE fW) (CX_add : AddX P w K mg base cF cR cS) : FnOk P w K mg base CX0 10 f fd ["one", "two"] (spCaught K cF cR) := by
  refine F.ok sc__law_caught (fun vs H Q E h => ?_) (fun cdv A outer s H vs Q E hr h => ?_)
  · obtain ⟨p, p2, n, n2, ps, os, b, c, rfl, _⟩ := h
    rfl
  obtain ⟨p, p2, n, n2, ps, os, b, c, rfl, hp, hq, hne, q⟩ := h
  refine ⟨_, (pss_cons (L2N.ps_try_as (i := 3) rfl rfl sc__law_caught.nd rfl rfl ⟨rfl, by decide, Or.inl U.g_CableError⟩ takesN (fun W pn xe tk _ => (pss_one (ps_set (i := 2) sc__law_caught.nd rfl (Or.inl rfl) (pe_addX (K := K) rfl CX_add (hr.mono (by omega)) tk (pv 0) (pv 1))))) (fun a oe cls d pn hz hf => (pss_one (ps_ret (pe_callB (call_isX (K := K) rfl hz.zc hf) (by rfl) T.b_isinstance (by decide +kernel) (pa_cons (pv 3) (pa_cons (pe_bltn (v := .ty "ValueError") (by rfl) T.b_ValueError (by decide +kernel) rfl) pa_nil)))))))
  (pss_one (ps_ret (pe_cmpR op_lt (pe_callB call_len_seq (by rfl) T.b_len PySem.boot_len (pa_cons (pv 2) pa_nil)) pe_int (nomark _))))), ?_⟩
  obtain ⟨dx, e, F1, hi, hr1⟩ := id hp
  obtain ⟨dy, e2, F2, hi2, hr2⟩ := id hq
  refine ⟨_, rfl, _, rfl, p, dx, _, p2, dy, _, rfl, hi, rfl, hi2, p, p2, n, n2, ps, os, b, c, rfl, hp, hq, hne, fun d H4 g4 hd4 => ?_⟩
  refine ⟨true, U.eSC, fun _ e _ => ?_, fun z => Bool.noConfusion z⟩
  exact ⟨_, rfl, cS, _, _, true, rfl, .ty _, rfl, U.xS, .inr ⟨d, _, rfl, hd4⟩, U.kSV, q _ g4⟩
/-- what is told of the first fault -/
def Flt (n : Nat) (ps : List RW) (H : Hp) (Q : VK) : Prop := (fault n ps = none → ∀ H', Same H H' → Q .non H') ∧ (∀ k, fault n ps = some (true, k) → ∀ r H', Same H H' → H' r = some (.lst [.str "row", .int (k : Int)]) → Q (.ref r) H') ∧ (∀ k, fault n ps = some (false, k) → ∀ r H', Same H H' → H' r = some (.lst [.str "weight", .int (k : Int)]) → Q (.ref r) H')
def spFault : Sp := fun vs H Q _ => ∃ (a : Addr) (n : Nat) (ps : List RW), vs = [.int (n : Int), .ref a] ∧ PrsL H a ps ∧ ps.length ≤ 1000 ∧ Flt n ps H Q
abbrev s__law_fault : Stmt := top 60
abbrev N__law_fault : List Str := ["size", "pairs", "k"]
theorem sc__law_fault : FnScope N__law_fault ["size", "pairs"] (defScope s__law_fault) := ⟨rfl, rfl, rfl, by decide +kernel, rfl, by decide +kernel, by decide +kernel⟩
theorem ok__law_fault (F : Fun K "_law_fault" "_law_fault" s__law_fault f fd) (T : Txt mg) : FnOk P w K mg base CX0 1 f fd ["size", "pairs"] spFault := by
  refine F.ok sc__law_fault (fun vs H Q E h => ?_) (fun cdv A outer s H vs Q E hr h => ?_)
  · obtain ⟨a, n, ps, rfl, _⟩ := h
    rfl
  obtain ⟨a, n, ps, rfl, hps, hlen, q0, qE, qW⟩ := h
  refine ⟨_, (pss_cons (ps_for PassesOwn.never rfl (pi_range1 (by rfl) T.b_range (pa_cons (pe_callB call_len_seq (by rfl) T.b_len PySem.boot_len (pa_cons (pv 1) pa_nil)) pa_nil)) (pg_name (i := 2) sc__law_fault.nd rfl (Or.inl rfl)) (pss_cons (ps_if (pt_cmpR op_ne (pe_callB call_len_seq (by rfl) T.b_len PySem.boot_len (pa_cons (pe_ix ix_list /-?-/ (pe_ix ix_list (pv 1) (pv 2) (fun _ _ => rfl)) pe_int (fun _ _ => rfl)) pa_nil)) (pv 0) (nomark _)) (pss_one (ps_ret (pe_lst (pa_cons pe_str (pa_cons (pv 2) pa_nil))))) pss_nil)
  (pss_one (ps_if (pt_cmpR op_lt (pe_ix ix_list /-?-/ (pe_ix ix_list (pv 1) (pv 2) (fun _ _ => rfl)) pe_int (fun _ _ => rfl)) pe_int (nomark _)) (pss_one (ps_ret (pe_lst (pa_cons pe_str (pa_cons (pv 2) pa_nil))))) pss_nil))))
  (pss_one (ps_ret pe_non))), ?_⟩
  obtain ⟨vs, ha, hl, hrow⟩ := hps.at
  refine ⟨_, rfl, a, _, rfl, .inl (SqL.of ha), (ps.length : Int), by rw [hl], by omega, by omega, for_range (lo := 0) (n := ((ps.length : Nat) : Int).toNat) (fun i σ H' => ∃ v2 : Option V, σ = [some (.int (n : Int)), some (.ref a), v2] ∧ H' = H ∧ fault n ps = fltAt n i (ps.drop i)) ⟨none, rfl, rfl, rfl⟩ ?_ ?_⟩
  · rintro i σ H1 hi ⟨v2, rfl, rfl, hf⟩
    obtain ⟨p, hp⟩ : ∃ p, ps[i]? = some p := ⟨_, List.getElem?_eq_getElem (by omega)⟩
    obtain ⟨q1, r1, hq1, hq2, hq3⟩ := hrow i p hp
    rw [flt_drop hp] at hf
    have hix : atI vs (0 + (i : Int)) = some (.ref q1) := at_pos (by omega) (by rw [show (0 + (i : Int)).toNat = i by omega]; exact hq1)
    refine ⟨_, rfl, _, rfl, a, _, _, _, rfl, rfl, SqL.of ha, hix, q1, _, 0, _, rfl, rfl, SqL.of hq2, at_pos (by decide) rfl, r1, _, rfl, .inl (SqL.of hq3), _, rfl, rfl, _, rfl, ?_⟩
    by_cases h1 : p.1.length = n
    · refine ifF (by rw [List.length_map, h1]; simp) ?_
      refine ⟨_, rfl, _, rfl, a, _, _, _, rfl, rfl, SqL.of ha, hix, q1, _, 1, _, rfl, rfl, SqL.of hq2, at_pos (by decide) rfl, _, _, rfl, rfl, _, rfl, ?_⟩
      by_cases h2 : p.2 < 1
      · rw [if_neg (by omega), if_pos h2] at hf
        refine ifT (decide_eq_true h2) ⟨_, rfl, two_line, fun r hr' => qW i hf r _ (same_new hr' _) ?_⟩
        rw [upd_same, Int.zero_add]
      · rw [if_neg (by omega), if_neg h2] at hf
        exact ifF (decide_eq_false h2) ⟨_, rfl, rfl, hf⟩
    · rw [if_pos h1] at hf
      refine ifT (by rw [List.length_map]; exact ne_T fun e => h1 (Int.ofNat_inj.mp e)) ⟨_, rfl, two_line, fun r hr' => qE i hf r _ (same_new hr' _) ?_⟩
      rw [upd_same, Int.zero_add]
  · rintro σ H1 ⟨v2, rfl, rfl, hf⟩
    rw [Int.toNat_natCast, List.drop_length] at hf
    exact q0 hf _ (fun _ _ h => h)
def spRaised : Sp := fun vs H Q _ => ∃ (a : Addr) (n : Nat) (ps : List RW) (b : Int), vs = [.int (n : Int), .ref a, .int b] ∧ PrsL H a ps ∧ ps.length ≤ 1000 ∧ (∀ p ∈ ps, p.1.length ≤ 1000 ∧ B 1400 p.2 ∧ ∀ x ∈ p.1, B 1400 x) ∧ n ≤ 10 ∧ 0 < b ∧ B 1400 b ∧ Flt n ps H Q
abbrev s__law_raised : Stmt := top 61
abbrev N__law_raised : List Str := ["size", "pairs", "under", "e", "is_row", "pair"]
theorem sc__law_raised : FnScope N__law_raised ["size", "pairs", "under"] (defScope s__law_raised) := ⟨rfl, rfl, rfl, by decide +kernel, rfl, by decide +kernel, by decide +kernel⟩
theorem ok__law_raised (F : Fun K "_law_raised" "_law_raised" s__law_raised f fd) (T : Txt mg) (U : Err K mg cF cR cS cE cW cC cD cB cI cT fS fE fW) (CX_RowList : CalKX P w K mg base 6 "RowList" cR 2 ["bottom"] (spRowsX K cF cR cE cW)) (CH__law_whole : CalH P w K mg base 1 "_law_whole" ["value"] spLaw_whole) :
    FnOk P w K mg base CX0 10 f fd ["size", "pairs", "under"] spRaised := by
  refine F.ok sc__law_raised (fun vs H Q E h => ?_) (fun cdv A outer s H vs Q E hr h => ?_)
  · obtain ⟨a, n, ps, b, rfl, _⟩ := h
    rfl
  obtain ⟨a, n, ps, b, rfl, hps, hlen, hb0, hn, hb, hB, q0, qE, qW⟩ := h
  refine ⟨_, (pss_cons (L2N.ps_try_as (i := 3) rfl rfl sc__law_raised.nd rfl rfl ⟨rfl, by decide, Or.inl U.g_CableError⟩ takesN (fun W pn xe tk _ => (pss_one (ps_expr (pe_calKX CX_RowList (hr.mono (by omega)) rfl tk (pa_cons (pv 0) (pa_cons (pe_lc (own := [("pair", 5)]) (g := gName 5) (tt := tYes) (by rfl) sc__law_raised.nd (pi_listK (K := K) rfl (pv 1)) (blkOk_by (N := N__law_raised) (sc := defScope s__law_raised) (by decide +kernel)) (fun _ _ _ _ _ => (pg_name (i := 5) sc__law_raised.nd rfl (Or.inl rfl))) (fun _ _ _ _ _ => pts_nil) (fun _ _ _ _ _ => (pe_lst (pa_cons (pe_callTy (call_list_ofK (K := K) rfl) (by rfl) T.b_list (by decide +kernel) (pa_cons (pe_ix (ix_listK (K := K) rfl) /-?-/ (pv 5) pe_int (fun _ _ => rfl)) pa_nil)) (pa_cons (pe_ix (ix_listK (K := K) rfl) /-?-/ (pv 5) pe_int (fun _ _ => rfl)) pa_nil))))) pa_nil)) (pk_cons (pv 2) pk_nil))))) (fun a oe cls d pn hz hf => (pss_cons (ps_set (i := 4) sc__law_raised.nd rfl (Or.inl rfl) (pe_callB (call_isX (K := K) rfl hz.zc hf) (by rfl) T.b_isinstance (by decide +kernel) (pa_cons (pv 3) (pa_cons (pe_glob (v := .ref _) rfl U.g_BadRow rfl) pa_nil))))
  (pss_cons (ps_if (PW.pt (pw_or (pt_cmpR op_eq (pv 4) (pe_callB (call_isX (K := K) rfl hz.zc hf) (by rfl) T.b_isinstance (by decide +kernel) (pa_cons (pv 3) (pa_cons (pe_glob (v := .ref _) rfl U.g_BadWeight rfl) pa_nil))) (nomark _)) (pw_or1 (pt_val (pe_callB (call_isXT (K := K) rfl hz.zc hf) (by rfl) T.b_isinstance (by decide +kernel) (pa_cons (pv 3) (pa_cons (pe_tup (pa_cons (pe_glob (v := .ref _) rfl U.g_BadBundle rfl) (pa_cons (pe_glob (v := .ref _) rfl U.g_BadIndex rfl) (pa_cons (pe_glob (v := .ref _) rfl U.g_BadTie rfl) (pa_cons (pe_glob (v := .ref _) rfl U.g_SizesDiffer rfl) pa_nil))))) pa_nil))))))) (pss_one (ps_ret (pe_lst (pa_cons pe_str (pa_cons pe_int pa_nil))))) pss_nil)
  (pss_cons (ps_if (PW.pt (pw_or (pt_not (pt_val (pe_callB (call_isX (K := K) rfl hz.zc hf) (by rfl) T.b_isinstance (by decide +kernel) (pa_cons (pv 3) (pa_cons (pe_bltn (v := .ty "ValueError") (by rfl) T.b_ValueError (by decide +kernel) rfl) pa_nil))))) (pw_or1 (pt_not (pt_val (pe_calH CH__law_whole ((roomS hr).mono (by omega)) (hot_of hz hf) rfl (pa_cons (KO.pe_either (pe_xf U.x_BadRow U.no_BadRow_index hz.zc hf (pv 3)) (pe_xf U.x_BadWeight U.no_BadWeight_index hz.zc hf (pv 3))) pa_nil))))))) (pss_one (ps_ret (pe_lst (pa_cons pe_str (pa_cons pe_int pa_nil))))) pss_nil)
  (pss_one (ps_ret (pe_lst (pa_cons (pe_ix (ix_listK (K := K) rfl) (pe_lst (pa_cons pe_str (pa_cons pe_str pa_nil))) (pe_callTy call_int1 (by rfl) T.b_int (by decide +kernel) (pa_cons (pv 4) pa_nil)) (fun _ _ => rfl)) (pa_cons (KO.pe_either (pe_xf U.x_BadRow U.no_BadRow_index hz.zc hf (pv 3)) (pe_xf U.x_BadWeight U.no_BadWeight_index hz.zc hf (pv 3))) pa_nil))))))))))
  (pss_one (ps_ret pe_non))), ?_⟩
  obtain ⟨vs, ha, hl, hrow⟩ := hps.at
  refine ⟨_, rfl, _, rfl, a, rfl, ⟨_, SqL.of ha⟩, fun D hD => ?_⟩
  refine lc_gm (walk_list (K := K) (a := a) (xs := vs)) (PLD D) stb_PLD ps hl (by omega) hD (fun H' s => s.seq (SqL.of ha)) (fun _ _ _ _ => ys_at) id (fun i p x H1 H2 hb1 s1 s2 y hdl A B hA => ?_) (fun H1 l s1 hl1 rs => ?_)
  · obtain ⟨q1, r1, hq1, hq2, hq3⟩ := hrow i p hb1
    rw [y.2] at hq1
    cases hq1
    obtain ⟨l0, hl0⟩ := hdl
    refine ⟨rfl, lc_yes ⟨_, rfl, q1, _, 0, _, rfl, rfl, SqL.of (s2 _ _ hq2), at_pos (by decide) rfl, r1, _, rfl, .inl (SqL.of (s2 _ _ hq3)), fun l2 hl2 => ?_⟩⟩
    have s3 := same_new hl2 (.lst (p.1.map V.int))
    refine ⟨_, rfl, q1, _, 1, _, rfl, rfl, SqL.of (s3 _ _ (s2 _ _ hq2)), at_pos (by decide) rfl, two_line, fun z hz2 => hA _ _ (s3.trans (same_new hz2 _)) ?_⟩
    refine ⟨z, l2, rfl, fun e => ?_, fun e => ?_, upd_same, ?_⟩
    · rw [e, s3 _ _ hl0] at hz2
      cases hz2
    · rw [e, hl0] at hl2
      cases hl2
    · rw [upd_ne (ne_of_none upd_same hz2), upd_same]
      rfl
  rw [List.map_id] at rs
  have hsn : Sn K H1 (.ref D) (.tup (ps.map tdr)) := prsl_sn (pld_prs hl1 rs)
  refine ⟨_, rfl, rfl, rfl, fun x dx hx hdx hne => ?_⟩
  refine ⟨x, dx, _, n, ps, b, rfl, upd_same, hsn.same (new_two hx hdx), hlen, hb0, by omega, hb, hB.mono (by decide), fun hno H3 hR hbut => ⟨rfl, ?_⟩, fun k hk d H4 g4 hd4 => ?_, fun k hk d H4 g4 hd4 => ?_⟩
  · exact q0 hno _ (s1.trans (made_same hx hdx hbut))
  · have sA := s1.trans ((new_two hx hdx).trans g4)
    refine ⟨true, U.eEC, fun _ e _ => ?_, fun z => Bool.noConfusion z⟩
    have hdd : DictAt H4 (some d) := .inr ⟨d, _, rfl, hd4⟩
    refine ⟨_, rfl, cE, _, _, true, rfl, .own _, rfl, U.xE, hdd, U.kEE, ?_⟩
    refine ⟨_, rfl, _, rfl, cE, _, _, false, rfl, .own _, rfl, U.xE, hdd, U.kEW, rfl, _, rfl, ifF rfl ?_⟩
    refine ⟨_, rfl, line_ge (by show 4 ≤ 100000; omega), fun tp htp => ?_⟩
    have s4 := same_new htp (.tup [.ref cB, .ref cI, .ref cT, .ref cS])
    have hd5 := s4 _ _ hd4
    have hdd5 : DictAt (upd H4 tp (.tup [.ref cB, .ref cI, .ref cT, .ref cS])) (some d) := .inr ⟨d, _, rfl, hd5⟩
    refine ⟨cE, tp, _, [.ref cB, .ref cI, .ref cT, .ref cS], false, rfl, upd_same, .cons (.own _) (.cons (.own _) (.cons (.own _) (.cons (.own _) .nil))), rfl, U.xE, hdd5, kit4 U.kEB U.kEI U.kET U.kES, _, rfl, ifF rfl ?_⟩
    refine ⟨_, rfl, cE, _, _, true, rfl, .ty _, rfl, U.xE, hdd5, U.kEV, _, rfl, ifF rfl ?_⟩
    refine .inl ⟨_, rfl, rfl, rfl, d, _, .int (k : Int), rfl, hd5, lk_hit, (k : Int), rfl, true, rfl, ifF rfl ?_⟩
    refine ⟨two_line, fun l6 hl6 => ?_⟩
    have s6 := same_new hl6 (.lst [V.str "weight", V.str "row"])
    refine ⟨_, rfl, .inr ⟨_, rfl, l6, _, _, _, rfl, rfl, SqL.of upd_same, at_pos (by decide) rfl, ?_⟩⟩
    refine .inl ⟨_, rfl, rfl, rfl, d, _, .int (k : Int), rfl, s6 _ _ hd5, lk_hit, two_line, fun r hr' => ?_⟩
    exact qE k hk r _ (sA.trans (s4.trans (s6.trans (same_new hr' _)))) upd_same
  · have sA := s1.trans ((new_two hx hdx).trans g4)
    refine ⟨true, U.eWC, fun _ e _ => ?_, fun z => Bool.noConfusion z⟩
    have hdd : DictAt H4 (some d) := .inr ⟨d, _, rfl, hd4⟩
    refine ⟨_, rfl, cW, _, _, false, rfl, .own _, rfl, U.xW, hdd, U.kWE, ?_⟩
    refine ⟨_, rfl, _, rfl, cW, _, _, true, rfl, .own _, rfl, U.xW, hdd, U.kWW, rfl, _, rfl, ifF rfl ?_⟩
    refine ⟨_, rfl, line_ge (by show 4 ≤ 100000; omega), fun tp htp => ?_⟩
    have s4 := same_new htp (.tup [.ref cB, .ref cI, .ref cT, .ref cS])
    have hd5 := s4 _ _ hd4
    have hdd5 : DictAt (upd H4 tp (.tup [.ref cB, .ref cI, .ref cT, .ref cS])) (some d) := .inr ⟨d, _, rfl, hd5⟩
    refine ⟨cW, tp, _, [.ref cB, .ref cI, .ref cT, .ref cS], false, rfl, upd_same, .cons (.own _) (.cons (.own _) (.cons (.own _) (.cons (.own _) .nil))), rfl, U.xW, hdd5, kit4 U.kWB U.kWI U.kWT U.kWS, _, rfl, ifF rfl ?_⟩
    refine ⟨_, rfl, cW, _, _, true, rfl, .ty _, rfl, U.xW, hdd5, U.kWV, _, rfl, ifF rfl ?_⟩
    refine .inr ⟨_, rfl, rfl, rfl, d, _, .int (k : Int), rfl, hd5, lk_hit, (k : Int), rfl, true, rfl, ifF rfl ?_⟩
    refine ⟨two_line, fun l6 hl6 => ?_⟩
    have s6 := same_new hl6 (.lst [V.str "weight", V.str "row"])
    refine ⟨_, rfl, .inr ⟨_, rfl, l6, _, _, _, rfl, rfl, SqL.of upd_same, at_pos (by decide) rfl, ?_⟩⟩
    refine .inr ⟨_, rfl, rfl, rfl, d, _, .int (k : Int), rfl, s6 _ _ hd5, lk_hit, two_line, fun r hr' => ?_⟩
    exact qW k hk r _ (sA.trans (s4.trans (s6.trans (same_new hr' _)))) upd_same
end
end P03
set_option exponentiation.threshold 3000
namespace P03
open PySem PySem.Spec PyProof.Rows L2 SX EX WK
theorem cut1 (xs : List V) : cutV xs (some 1) none = xs.drop 1 := by
  unfold cutV
  rw [show (some (1 : Int)) = some ((1 : Nat) : Int) from rfl, HT.sIx_nat]
  have e : HT.sIx xs.length xs.length none = xs.length := rfl
  rw [e]
  cases xs with
  | nil => rfl
  | cons x xs =>
    rw [show min 1 (x :: xs).length = 1 from by rw [List.length_cons]; omega]
    rw [List.length_cons, Nat.add_sub_cancel]
    show List.take xs.length xs = xs
    exact List.take_length
theorem Rs.set {α : Type} {R : Hp → V → α → Prop} {H : Hp} {vs : List V} {zs : List α} {v : V} {z : α} {j : Nat} (h : Rs R H vs zs) (r : R H v z) : Rs R H (vs.set j v) (zs.set j z) := by
  refine ⟨by rw [List.length_set, List.length_set]; exact h.1, fun i u y hu hy => ?_⟩
  rw [List.getElem?_set] at hu hy
  by_cases e : j = i
  · subst e
    rw [if_pos rfl] at hu hy
    split at hu
    · cases hu
      split at hy
      · cases hy
        exact r
      · cases hy
    · cases hu
  · rw [if_neg e] at hu hy
    exact h.2 i u y hu hy
theorem ixN_at {n : Nat} {z : Int} {k : Nat} (e : z = (k : Int)) (h : k < n) : ixN n z = some k := by
  subst e
  unfold ixN
  rw [if_pos (by omega), if_pos (by omega)]
  congr 1
/-- pairs within bounds, perhaps with faults -/
def SpOk (m : Nat) (os : List RW) : Prop := os.length ≤ 61 ∧ ∀ p ∈ os, p.1.length ≤ m ∧ B 410 p.2 ∧ ∀ x ∈ p.1, B 60 x
theorem SpOk.set {m : Nat} {os : List RW} {q : RW} {j : Nat} (h : SpOk m os) (h1 : q.1.length ≤ m + 1) (h2 : B 410 q.2) (h3 : ∀ x ∈ q.1, B 60 x) : SpOk (m + 1) (os.set j q) := by
  refine ⟨by rw [List.length_set]; exact h.1, fun p hp => ?_⟩
  rcases List.mem_or_eq_of_mem_set hp with hp | rfl
  · exact ⟨by have := (h.2 p hp).1; omega, (h.2 p hp).2⟩
  · exact ⟨h1, h2, h3⟩
section
variable {P : Program} {w : World} {K : PySem.W.Frag} {mg : Str → Option Value} {base : Heap} {f : Addr} {fd : FuncData}
def spSpoilt : Sp := fun vs H Q _ => ∃ (a ro : Addr) (n : Nat) (ps : List RW) (b : Int) (ns : List Int), vs = [.int (n : Int), .ref a, .ref ro] ∧ PrsL H a ps ∧ DOk 60 400 n ps b ∧ H ro = some (.lst (ns.map V.int)) ∧ Dig ns [60, 60, 6, 6, 3] ∧
  ∀ r H' os, Same H H' → PrsL H' r os → SpOk 12 os → Q (.ref r) H'
abbrev s__law_spoilt : Stmt := top 59
abbrev N__law_spoilt : List Str := ["size", "pairs", "row", "spoilt", "k", "at", "line", "weight", "pair"]
theorem sc__law_spoilt : FnScope N__law_spoilt ["size", "pairs", "row"] (defScope s__law_spoilt) := ⟨rfl, rfl, rfl, by decide +kernel, rfl, by decide +kernel, by decide +kernel⟩
theorem ok__law_spoilt (F : Fun K "_law_spoilt" "_law_spoilt" s__law_spoilt f fd) (T : Txt mg) : FnOk P w K mg base CX0 1 f fd ["size", "pairs", "row"] spSpoilt := by
  refine F.ok sc__law_spoilt (fun vs H Q E h => ?_) (fun cdv A outer s H vs Q E hr h => ?_)
  · obtain ⟨a, ro, n, ps, b, ns, rfl, _⟩ := h
    rfl
  obtain ⟨a, ro, n, ps, b, ns, rfl, hps, hok, hro, hdg, q⟩ := h
  refine ⟨_, (pss_cons (ps_setLc (i := 3) (own := [("pair", 8)]) (g := gName 8) (tt := tYes) (by rfl) sc__law_spoilt.nd rfl rfl (sw_true rfl rfl rfl (by decide +kernel)) (pi_list (pv 1)) (blkOk_by (N := N__law_spoilt) (sc := defScope s__law_spoilt) (by decide +kernel)) (fun _ _ _ _ _ => (pg_name (i := 8) sc__law_spoilt.nd rfl (Or.inl rfl))) (fun _ _ _ _ _ => pts_nil) (fun _ _ _ _ _ => (pe_lst (pa_cons (pe_callTy (call_list_ofK (K := K) rfl) (by rfl) T.b_list (by decide +kernel) (pa_cons (pe_ix (ix_listK (K := K) rfl) /-?-/ (pv 8) pe_int (fun _ _ => rfl)) pa_nil)) (pa_cons (pe_ix (ix_listK (K := K) rfl) /-?-/ (pv 8) pe_int (fun _ _ => rfl)) pa_nil)))))
  (C8.pss_cut (ps_if (pt_cmpR op_eq (pe_callB call_len_seq (by rfl) T.b_len PySem.boot_len (pa_cons (pv 3) pa_nil)) pe_int (nomark _)) (pss_one (ps_expr (pe_bm PySem.F.plainAttrs_list PySem.F.slot_list_append PySem.F.type_list_append mt_append (pv 3) (pa_cons (pe_lst (pa_cons (pe_lc (own := [("k", 4)]) (g := gName 4) (tt := tYes) (by rfl) sc__law_spoilt.nd (pi_range1 (by rfl) T.b_range (pa_cons (pv 0) pa_nil)) (blkOk_by (N := N__law_spoilt) (sc := defScope s__law_spoilt) (by decide +kernel)) (fun _ _ _ _ _ => (pg_name (i := 4) sc__law_spoilt.nd rfl (Or.inl rfl))) (fun _ _ _ _ _ => pts_nil) (fun _ _ _ _ _ => pe_int)) (pa_cons pe_int pa_nil))) pa_nil)))) pss_nil)
  (pss_cons (ps_for PassesOwn.never rfl (pi_range1 (by rfl) T.b_range (pa_cons (pe_op op_add pe_int (pe_callTy call_int1 (by rfl) T.b_int (by decide +kernel) (pa_cons (pe_cmpR op_eq (pe_ix ix_list (pv 2) pe_int (fun _ _ => rfl)) pe_int (nomark _)) pa_nil))) pa_nil)) (pg_name (i := 4) sc__law_spoilt.nd rfl (Or.inl rfl)) (pss_cons (ps_set (i := 5) sc__law_spoilt.nd rfl (Or.inl rfl) (pe_op op_mod (pe_callTy call_int1 (by rfl) T.b_int (by decide +kernel) (pa_cons (pe_ix ix_list (pv 2) (pv 4) (fun _ _ => rfl)) pa_nil)) (pe_callB call_len_seq (by rfl) T.b_len PySem.boot_len (pa_cons (pv 3) pa_nil))))
  (pss_cons (ps_set (i := 6) sc__law_spoilt.nd rfl (Or.inl rfl) (pe_ix ix_list /-?-/ (pe_ix ix_list (pv 3) (pv 5) (fun _ _ => rfl)) pe_int (fun _ _ => rfl)))
  (C8.pss_cut (ps_if (PW.pt (pw_and (pt_cmpR op_eq (pe_ix ix_list (pv 2) (pe_op op_add pe_int (pv 4)) (fun _ _ => rfl)) pe_int (nomark _)) (pw_and1 (pt_cmpR op_gt (pv 0) pe_int (nomark _))))) (pss_one (ps_set (i := 6) sc__law_spoilt.nd rfl (Or.inl rfl) (pe_slice sl_list /-?-/ (pv 6) (po_some pe_int) po_none))) (pss_one (ps_if (pt_cmpR op_lt (pe_ix ix_list (pv 2) (pe_op op_add pe_int (pv 4)) (fun _ _ => rfl)) pe_int (nomark _)) (pss_one (ps_set (i := 6) sc__law_spoilt.nd rfl (Or.inl rfl) (pe_op op_cat (pv 6) (pe_lst (pa_cons pe_int pa_nil))))) pss_nil)))
  (pss_cons (ps_set (i := 7) sc__law_spoilt.nd rfl (Or.inl rfl) (pe_ix ix_list /-?-/ (pe_ix ix_list (pv 3) (pv 5) (fun _ _ => rfl)) pe_int (fun _ _ => rfl)))
  (pss_one (ps_asg (pe_lst (pa_cons (pv 6) (pa_cons (pe_ix ix_list (pe_lst (pa_cons (pv 7) (pa_cons (pv 7) (pa_cons pe_int (pa_cons pe_int (pa_cons (pe_op op_sub (pe_un un_neg pe_int) (pe_op op_pow pe_int pe_int)) (pa_cons (pv 7) pa_nil))))))) (pe_ix ix_list (pv 2) (pe_op op_add pe_int (pv 4)) (fun _ _ => rfl)) (fun _ _ => rfl)) pa_nil))) (pg_sub (pv 3) (pv 5) set_list))))))))
  (pss_one (ps_ret (pv 3)))))), ?_⟩
  obtain ⟨vs, ha, hl, hrow⟩ := hps.at
  have hlen := hok.len
  have hn := hok.n10
  refine ⟨_, rfl, a, rfl, ⟨_, SqL.of ha⟩, fun D hD => ?_⟩
  refine lc_gm (walk_list (K := K) (a := a) (xs := vs)) (PLD D) stb_PLD ps hl (by omega) hD (fun H' s => s.seq (SqL.of ha)) (fun _ _ _ _ => ys_at) id (fun i p x H1 H2 hb1 s1 s2 y hdl A B hA => ?_) (fun H1 l s1 hl1 rs => ?_)
  · obtain ⟨q1, r1, hq1, hq2, hq3⟩ := hrow i p hb1
    rw [y.2] at hq1
    cases hq1
    obtain ⟨l0, hl0⟩ := hdl
    refine ⟨rfl, lc_yes ⟨_, rfl, q1, _, 0, _, rfl, rfl, SqL.of (s2 _ _ hq2), at_pos (by decide) rfl, r1, _, rfl, .inl (SqL.of (s2 _ _ hq3)), fun l2 hl2 => ?_⟩⟩
    have s3 := same_new hl2 (.lst (p.1.map V.int))
    refine ⟨_, rfl, q1, _, 1, _, rfl, rfl, SqL.of (s3 _ _ (s2 _ _ hq2)), at_pos (by decide) rfl, two_line, fun z hz2 => hA _ _ (s3.trans (same_new hz2 _)) ?_⟩
    refine ⟨z, l2, rfl, fun e => ?_, fun e => ?_, upd_same, ?_⟩
    · rw [e, s3 _ _ hl0] at hz2
      cases hz2
    · rw [e, hl0] at hl2
      cases hl2
    · rw [upd_ne (ne_of_none upd_same hz2), upd_same]
      rfl
  rw [List.map_id] at rs
  have hro1 := s1 _ _ hro
  obtain ⟨x0, e0, g0, _⟩ := dg hdg (i := 0) (z := 60) rfl
  obtain ⟨x1, e1, g1, _⟩ := dg hdg (i := 1) (z := 60) rfl
  obtain ⟨x2, e2, g2, u2⟩ := dg hdg (i := 2) (z := 6) rfl
  obtain ⟨x3, e3, g3, u3⟩ := dg hdg (i := 3) (z := 6) rfl
  obtain ⟨x4, e4, g4, u4⟩ := dg hdg (i := 4) (z := 3) rfl
  have hok0 : SpOk 10 ps := ⟨by omega, fun p hp => ⟨by rw [(hok.row p hp).1]; exact hn, ((hok.row p hp).2.2.1).mono (by decide), (hok.row p hp).2.2.2⟩⟩
  refine ⟨fun σ' H' => σ' = [some (.int (n : Int)), some (.ref a), some (.ref ro), some (.ref D), none, none, none, none, none] ∧ Same H H' ∧ ∃ l os, H' D = some (.lst l) ∧ Rs (PLD D) H' l os ∧ SpOk 10 os ∧ 1 ≤ os.length, ?_, ?_⟩
  · refine ⟨_, rfl, D, _, rfl, .inl (SqL.of hl1), rfl, _, rfl, ite2 (fun _ => ?_) (fun c => ⟨rfl, s1, l, ps, hl1, rs, hok0, ?_⟩)⟩
    · refine ⟨_, rfl, .inl ⟨rfl, _, SqL.of hl1⟩, _, rfl, (n : Int), rfl, by omega, by omega, fun D2 hD2 => ?_⟩
      refine lc_m (walk_range (lo := 0) (n := n)) RI (stb_RI (K := K)) (List.range n) (by rw [List.length_range]) (by rw [List.length_range]; omega) hD2 (fun _ _ => trivial) (fun _ _ _ _ => ys_fn) (fun _ => (5 : Int)) (fun c i x H5 H4 hc s3 s4 yl A B hA => ?_) (fun H4 l2 s3 hl3 rs2 => ?_)
      · rw [yl.2]
        exact ⟨rfl, lc_yes (hA _ _ (fun _ _ h => h) rfl)⟩
      have hl4 : H4 D2 = some (.lst ((vec n fun _ => 5).map V.int)) := by rw [hl3, rs2.ints]; rfl
      have hlD := s3 _ _ hl1
      refine ⟨two_line, fun z hz => ⟨D, _, _, rfl, rfl, same_new hz _ _ _ hlD, small1000 (by rw [rs.1]; omega), ?_⟩⟩
      have sZ := s3.trans (same_new hz (.lst [.ref D2, .int 3]))
      have hDz : (upd H4 z (.lst [.ref D2, .int 3])) D = some (.lst l) := same_new hz _ _ _ hlD
      have zne : z ≠ D := fun e => by rw [e, hlD] at hz; cases hz
      have dne : D2 ≠ D := fun e => by rw [e, hl1] at hD2; cases hD2
      have hr5 : PLD D (upd H4 z (.lst [.ref D2, .int 3])) (.ref z) (vec n fun _ => 5, 3) := ⟨z, D2, rfl, zne, dne, upd_same, by rw [upd_ne (ne_of_none hl4 hz)]; exact hl4⟩
      have st : ∀ b o, b ≠ D → (upd H4 z (.lst [.ref D2, .int 3])) b = some o → (upd (upd H4 z (.lst [.ref D2, .int 3])) D (.lst (l ++ [.ref z]))) b = some o := fun b o hb h => by rw [upd_ne hb]; exact h
      refine ⟨rfl, same_at (s1.trans sZ) hD, _, ps ++ [(vec n fun _ => 5, 3)], upd_same, Rs.snoc ((rs.tkD stb_PLD ⟨l, hl1⟩ fun b o _ h => sZ _ _ h).tkD stb_PLD ⟨l, hDz⟩ st) (stb_PLD _ _ _ _ ⟨l, hDz⟩ st hr5), ?_, by rw [List.length_append]; simp⟩
      refine ⟨by rw [List.length_append]; simp only [List.length_cons, List.length_nil]; omega, fun p hp => ?_⟩
      rcases List.mem_append.mp hp with hp | hp
      · exact hok0.2 p hp
      · rw [List.mem_singleton.mp hp]
        exact ⟨by show (vec n fun _ => 5).length ≤ 10; rw [vec_len]; exact hn, by show B 410 3; decide, vec_mem fun i hi => by decide⟩
    · have h1 := rs.1
      rcases Nat.eq_zero_or_pos ps.length with h | h
      · exact absurd (by rw [h1, h]; exact decide_eq_true rfl) c
      · exact h
  rintro σ H2 ⟨rfl, s2, l2, os, hl2, rs2, hos, hpos⟩
  have hro2 := s2 _ _ hro
  have hR := fun (H' : Hp) (s : Same H H') => SqL.of (K := K) (s _ _ hro)
  refine ⟨_, rfl, ro, _, 4, _, rfl, rfl, SqL.of hro2, at_pos (by decide) e4, rfl, .inr ⟨_, rfl, _, _, rfl, rfl, ?_⟩⟩
  have hmany : 1 + (if decide (V.int x4 = V.int 0) = true then (1 : Int) else 0) ≤ 2 ∧ 0 ≤ 1 + (if decide (V.int x4 = V.int 0) = true then (1 : Int) else 0) := by split <;> omega
  refine ⟨_, rfl, by omega, by omega, for_range (lo := 0) (n := (1 + (if decide (V.int x4 = V.int 0) = true then (1 : Int) else 0)).toNat) (fun i σ H' => ∃ v4 v5 v6 v7 : Option V, σ = [some (.int (n : Int)), some (.ref a), some (.ref ro), some (.ref D), v4, v5, v6, v7, none] ∧ Same H H' ∧ ∃ l os, H' D = some (.lst l) ∧ Rs (PLD D) H' l os ∧ SpOk (10 + i) os ∧ 1 ≤ os.length) ⟨none, none, none, none, rfl, s2, l2, os, hl2, rs2, hos, hpos⟩ ?_ ?_⟩
  · rintro i σ H3 hi ⟨v4, v5, v6, v7, rfl, s3, l3, os3, hl3, rs3, hos3, hpos3⟩
    have hi2 : i < 2 := by omega
    have hix : ∃ z, (ns.map V.int)[i]? = some (.int z) ∧ 0 ≤ z := by
      rcases (by omega : i = 0 ∨ i = 1) with rfl | rfl
      · exact ⟨x0, e0, g0⟩
      · exact ⟨x1, e1, g1⟩
    have hjx : ∃ z, (ns.map V.int)[2 + i]? = some (.int z) ∧ 0 ≤ z ∧ z < 6 := by
      rcases (by omega : i = 0 ∨ i = 1) with rfl | rfl
      · exact ⟨x2, e2, g2, u2⟩
      · exact ⟨x3, e3, g3, u3⟩
    obtain ⟨z, hz, z0⟩ := hix
    obtain ⟨kd, hkd, kd0, kd6⟩ := hjx
    have hkA : atI (ns.map V.int) (2 + (0 + (i : Int))) = some (.int kd) := at_pos (by omega) (by rw [show (2 + (0 + (i : Int))).toNat = 2 + i by omega]; exact hkd)
    have hlp : 0 < ((l3.length : Nat) : Int) := by rw [rs3.1]; omega
    refine ⟨_, rfl, _, rfl, ro, _, _, _, rfl, rfl, hR _ s3, at_pos (by omega) (by rw [show (0 + (i : Int)).toNat = i by omega]; exact hz), .inl ⟨_, rfl, _, rfl, D, _, rfl, .inl (SqL.of hl3), _, _, rfl, rfl, hlp, ?_⟩⟩
    have t0 := Int.emod_nonneg z (show ((l3.length : Nat) : Int) ≠ 0 by omega)
    have t1 := Int.emod_lt_of_pos z hlp
    obtain ⟨p, hp⟩ : ∃ p, os3[(z % ((l3.length : Nat) : Int)).toNat]? = some p := ⟨_, List.getElem?_eq_getElem (by have := rs3.1; omega)⟩
    obtain ⟨u, hu⟩ : ∃ u, l3[(z % ((l3.length : Nat) : Int)).toNat]? = some u := ⟨_, List.getElem?_eq_getElem (by omega)⟩
    obtain ⟨q1, r1, rfl, n1, n2, hq2, hq3⟩ := rs3.2 _ _ _ hu hp
    have hpk := hos3.2 p (List.mem_of_getElem? hp)
    have hDx : atI l3 (z % ((l3.length : Nat) : Int)) = some (.ref q1) := at_pos t0 hu
    refine ⟨_, rfl, _, rfl, D, _, _, _, rfl, rfl, SqL.of hl3, hDx, q1, _, 0, _, rfl, rfl, SqL.of hq2, at_pos (by decide) rfl, ?_⟩
    refine ⟨fun σ' H' => ∃ (r' : Addr) (ys : List Int), σ' = [some (.int (n : Int)), some (.ref a), some (.ref ro), some (.ref D), some (.int (0 + (i : Int))), some (.int (z % ((l3.length : Nat) : Int))), some (.ref r'), v7, none] ∧ Same H3 H' ∧ H' r' = some (.lst (ys.map V.int)) ∧ r' ≠ D ∧ ys.length ≤ 10 + i + 1 ∧ ∀ x ∈ ys, B 60 x, ?_, ?_⟩
    · refine ⟨_, rfl, _, rfl, _, _, rfl, rfl, ro, _, _, _, rfl, rfl, hR _ s3, hkA, rfl, _, rfl, ?_⟩
      refine ite2 (fun _ => ?_) (fun _ => ?_)
      · refine ⟨_, rfl, _, _, rfl, rfl, _, rfl, ite2 (fun _ => ?_) (fun _ => ?_)⟩
        · refine ⟨_, rfl, _, rfl, r1, _, rfl, SqL.of hq3, fun l5 hl5 => ?_⟩
          refine ⟨l5, p.1.drop 1, rfl, same_new hl5 _, ?_, fun e => ?_, ?_, fun x hx => hpk.2.2 x (List.mem_of_mem_drop hx)⟩
          · rw [upd_same, cut1, ← List.map_drop]
          · rw [e, hl3] at hl5
            cases hl5
          · rw [List.length_drop]
            omega
        · refine ⟨_, rfl, _, rfl, _, _, rfl, rfl, ro, _, _, _, rfl, rfl, hR _ s3, hkA, _, _, rfl, rfl, _, rfl, ite2 (fun _ => ?_) (fun _ => ⟨r1, p.1, rfl, fun _ _ h => h, hq3, n2, by omega, hpk.2.2⟩)⟩
          refine ⟨_, rfl, one_line, fun l5 hl5 => ?_⟩
          have s5 := same_new hl5 (.lst [V.int 1])
          refine ⟨r1, l5, _, _, rfl, rfl, s5 _ _ hq3, upd_same, line_ge (by rw [List.length_map]; show p.1.length + 1 ≤ 100000; omega), fun l6 hl6 => ?_⟩
          refine ⟨l6, p.1 ++ [1], rfl, s5.trans (same_new hl6 _), ?_, fun e => ?_, ?_, fun x hx => ?_⟩
          · rw [upd_same, List.map_append]
            rfl
          · rw [e, s5 _ _ hl3] at hl6
            cases hl6
          · rw [List.length_append]
            simp only [List.length_cons, List.length_nil]
            omega
          · rcases List.mem_append.mp hx with hx | hx
            · exact hpk.2.2 x hx
            · rw [List.mem_singleton.mp hx]
              decide
      · refine ⟨_, rfl, _, rfl, _, _, rfl, rfl, ro, _, _, _, rfl, rfl, hR _ s3, hkA, _, _, rfl, rfl, _, rfl, ite2 (fun _ => ?_) (fun _ => ⟨r1, p.1, rfl, fun _ _ h => h, hq3, n2, by omega, hpk.2.2⟩)⟩
        refine ⟨_, rfl, one_line, fun l5 hl5 => ?_⟩
        have s5 := same_new hl5 (.lst [V.int 1])
        refine ⟨r1, l5, _, _, rfl, rfl, s5 _ _ hq3, upd_same, line_ge (by rw [List.length_map]; show p.1.length + 1 ≤ 100000; omega), fun l6 hl6 => ?_⟩
        refine ⟨l6, p.1 ++ [1], rfl, s5.trans (same_new hl6 _), ?_, fun e => ?_, ?_, fun x hx => ?_⟩
        · rw [upd_same, List.map_append]
          rfl
        · rw [e, s5 _ _ hl3] at hl6
          cases hl6
        · rw [List.length_append]
          simp only [List.length_cons, List.length_nil]
          omega
        · rcases List.mem_append.mp hx with hx | hx
          · exact hpk.2.2 x hx
          · rw [List.mem_singleton.mp hx]
            decide
    rintro σ H4 ⟨r4, ys, rfl, s4, hr4, hn4, hy4, by4⟩
    have hl4 := s4 _ _ hl3
    have rs4 := rs3.tkD stb_PLD ⟨l3, hl3⟩ fun b o _ h => s4 _ _ h
    have hq4 := s4 _ _ hq2
    have sA := s3.trans s4
    refine ⟨_, rfl, _, rfl, D, _, _, _, rfl, rfl, SqL.of hl4, hDx, q1, _, 1, _, rfl, rfl, SqL.of hq4, at_pos (by decide) rfl, ?_⟩
    refine ⟨_, rfl, _, rfl, _, rfl, _, rfl, _, _, rfl, rfl, ⟨by decide, by decide, by decide⟩, _, _, rfl, rfl, _, rfl, line_ge (by show 6 ≤ 100000; omega), fun l7 hl7 => ?_⟩
    have s7 := same_new hl7 (.lst [V.int p.2, V.int p.2, V.int 0, V.int 0, V.int (-1 - 10 ^ (30 : Int).toNat), V.int p.2])
    have hv : ∃ v, ([V.int p.2, V.int p.2, V.int 0, V.int 0, V.int (-1 - 10 ^ (30 : Int).toNat), V.int p.2] : List V)[kd.toNat]? = some (V.int v) ∧ B 410 v := by
      have hb30 : B 410 (-1 - 10 ^ (30 : Int).toNat) := by decide +kernel
      rcases (by omega : kd = 0 ∨ kd = 1 ∨ kd = 2 ∨ kd = 3 ∨ kd = 4 ∨ kd = 5) with e | e | e | e | e | e <;> subst e
      · exact ⟨_, rfl, hpk.2.1⟩
      · exact ⟨_, rfl, hpk.2.1⟩
      · exact ⟨_, rfl, by decide⟩
      · exact ⟨_, rfl, by decide⟩
      · exact ⟨_, rfl, hb30⟩
      · exact ⟨_, rfl, hpk.2.1⟩
    obtain ⟨v, hv1, hv2⟩ := hv
    refine ⟨_, rfl, _, rfl, _, _, rfl, rfl, ro, _, _, _, rfl, rfl, hR _ (sA.trans s7), hkA, l7, _, _, _, rfl, rfl, SqL.of upd_same, at_pos kd0 hv1, two_line, fun l8 hl8 => ?_⟩
    have s8 := same_new hl8 (.lst [.ref r4, .int v])
    have s48 := s7.trans s8
    have hlD := s48 _ _ hl4
    refine ⟨_, rfl, _, rfl, D, _, _, (z % ((l3.length : Nat) : Int)).toNat, rfl, rfl, hlD, ixN_at (by omega) (by omega), ?_⟩
    have rs8 := rs4.tkD stb_PLD ⟨l3, hl4⟩ fun b o _ h => s48 _ _ h
    have st : ∀ (o1 : HO) (b : Addr) (o : HO), b ≠ D → (upd (upd H4 l7 (.lst [V.int p.2, V.int p.2, V.int 0, V.int 0, V.int (-1 - 10 ^ (30 : Int).toNat), V.int p.2])) l8 (.lst [.ref r4, .int v])) b = some o → (upd (upd (upd H4 l7 (.lst [V.int p.2, V.int p.2, V.int 0, V.int 0, V.int (-1 - 10 ^ (30 : Int).toNat), V.int p.2])) l8 (.lst [.ref r4, .int v])) D o1) b = some o := fun o1 b o hb h => by rw [upd_ne hb]; exact h
    have n8 : l8 ≠ D := fun e => by rw [e, s7 _ _ hl4] at hl8; cases hl8
    have hp8 : PLD D (upd (upd H4 l7 (.lst [V.int p.2, V.int p.2, V.int 0, V.int 0, V.int (-1 - 10 ^ (30 : Int).toNat), V.int p.2])) l8 (.lst [.ref r4, .int v])) (.ref l8) (ys, v) := ⟨l8, r4, rfl, n8, hn4, upd_same, s48 _ _ hr4⟩
    refine ⟨_, _, _, _, rfl, same_at (sA.trans s48) hD, _, os3.set (z % ((l3.length : Nat) : Int)).toNat (ys, v), upd_same, ?_, ?_, by rw [List.length_set]; exact hpos3⟩
    · exact Rs.set (rs8.tkD stb_PLD ⟨l3, hlD⟩ (st _)) (stb_PLD _ _ _ _ ⟨l3, hlD⟩ (st _) hp8)
    · exact hos3.set hy4 hv2 by4
  · rintro σ H3 ⟨v4, v5, v6, v7, rfl, s3, l3, os3, hl3, rs3, hos3, hpos3⟩
    have hk : (1 + (if decide (V.int x4 = V.int 0) = true then (1 : Int) else 0)).toNat ≤ 2 := by omega
    refine ⟨_, rfl, q D H3 os3 s3 (pld_prs hl3 rs3) ⟨hos3.1, fun p hp => ⟨by have := (hos3.2 p hp).1; omega, (hos3.2 p hp).2⟩⟩⟩
end
end P03
set_option exponentiation.threshold 3000
namespace P03
open PySem PySem.Spec PyProof.Rows L2 SX EX WK
def LenOk (P : Program) (w : World) (K : PySem.W.Frag) (mg : Str → Option Value) (base : Heap) (cF cR : Addr) : Prop :=
  ∃ (f : Addr) (fd : FuncData), FnOk P w K mg base CX0 1 f fd ["self"] (spLen K cF cR) ∧ KO.LnC K cR f ∧ Binds K fd ["self"] []
theorem call_lenR {X : Cx} {cF cR : Addr} (C : LenOk X.prog X.w X.K X.mg X.base cF cR) (hr : Room 2 X.A) : CallR X (.builtin "len") (KO.rLen cR (spLen X.K cF cR)) := by
  obtain ⟨f, fd, F, L, b⟩ := C
  exact KO.call_lenOwn F L hr b
def IterOk (P : Program) (w : World) (K : PySem.W.Frag) (mg : Str → Option Value) (base : Heap) (cR : Addr) : Prop :=
  ∃ (f : Addr) (fd : FuncData), KO.FnS P w K mg base CX0 1 f fd ["self"] (KO.spIter K cR "pairs") ∧ KO.ItC K cR f ∧ Binds K fd ["self"] []
theorem pi_ownR {X : Cx} {i : Nat} {x : Str} {cR : Addr} {tg : Expr} {pos : Pos} (C : IterOk X.prog X.w X.K X.mg X.base cR) (hr : Room 1 X.A)
    (hN : X.N[i]? = some x) (hv : Vis X.env.scope x) (hdb : (x == ("__debug__" : Str)) = false := by decide) (hcd : (x == ("__classdict__" : Str)) = false := by decide) : PI X tg (.Name x pos) (KO.iOwn i X.K cR "pairs") := by
  obtain ⟨f, fd, F, L, b⟩ := C
  exact KO.pi_own F L hr b hN hv hdb hcd
/-- the very thing -/
def RV : Hp → V → V → Prop := fun _ v z => v = z
theorem stb_RV {K : PySem.W.Frag} : Stb K RV := fun _ _ _ _ _ h => h
theorem rs_rv {H : Hp} {vs zs : List V} (h : Rs RV H vs zs) : vs = zs := by
  have := h.maps (f := id) fun _ _ _ e => e
  rw [this, List.map_id]
theorem fz_all {K : PySem.W.Frag} {H : Hp} {e : Addr} {ts : List Td} (h : Fz K H (.ref e) (.tup ts)) : ∃ vs, SqT K H e vs ∧ FzAll K H vs ts := by
  cases h with
  | @tup a vs ts ha hall => exact ⟨vs, ha, hall⟩
theorem prs_at {K : PySem.W.Frag} {H : Hp} {vs : List V} {ps : List RW} (hall : FzAll K H vs (ps.map tdr)) {i : Nat} {p : RW} (hp : ps[i]? = some p) : ∃ q r : Addr, vs[i]? = some (.ref q) ∧ SqT K H q [.ref r, .int p.2] ∧ SqT K H r (p.1.map V.int) := by
  have hl : vs.length = ps.length := by rw [hall.len, List.length_map]
  have hi : i < vs.length := by
    have := (List.getElem?_eq_some_iff.mp hp).1
    omega
  obtain ⟨t, ht, hz⟩ := hall.get (List.getElem?_eq_getElem hi)
  rw [List.getElem?_map, hp] at ht
  cases ht
  generalize hv : vs[i] = u at hz
  cases hz with
  | @tup q us ts hq hal =>
    cases hal with
    | cons h1 h2 =>
      cases h2 with
      | cons h3 h4 =>
        cases h4
        cases h3
        cases h1 with
        | @tup r rs ts hr hrs =>
          refine ⟨q, r, by rw [List.getElem?_eq_getElem hi, hv], hq, ?_⟩
          rw [← hrs.ints]
          exact hr
theorem lp_at {ps : List RW} {b : Int} {i : Nat} {p : RW} (h : ps[i]? = some p) : (lp ps b)[i]? = some (p.1, p.2 / lg ps b) := by
  show (dp ps _)[i]? = _
  unfold dp
  rw [List.getElem?_map, h]
  rfl
theorem lp_len {ps : List RW} {b : Int} : (lp ps b).length = ps.length := by show (dp ps _).length = _; unfold dp; rw [List.length_map]
theorem ws_take {b : Int} {ps : List RW} {i : Nat} {p : RW} (h : ps[i]? = some p) : gf b (ws (ps.take (i + 1))) = gI (gf b (ws (ps.take i))) p.2 := by
  rw [take_one h]
  unfold ws
  rw [List.map_append]
  exact gf_snoc _ _ _
theorem ints_dp {K : PySem.W.Frag} {H : Hp} {t : Addr} {ns : List Int} (h : SqT K H t (ns.map V.int)) : Dp K H (.ref t) (Td.tup (ns.map Td.int)).py := (Fz.tup h (FzAll.of_ints ns)).dp
theorem ints_shaped (ns : List Int) : SeqAt.shaped (Td.tup (ns.map Td.int)).py = true := td_shaped (by
  simp only [Td.dep]
  have : Td.deps (ns.map Td.int) ≤ 0 := deps_all fun t h => by
    obtain ⟨n, _, rfl⟩ := List.mem_map.mp h
    exact Nat.le_refl _
  omega)
section
variable {P : Program} {w : World} {K : PySem.W.Frag} {mg : Str → Option Value} {base : Heap} {f : Addr} {fd : FuncData} {cF cR cS cE cW cC cD cB cI cT : Addr}
def spHasP (K : PySem.W.Frag) (cF cR : Addr) : Sp := fun vs H Q _ => ∃ (p d : Addr) (m k n : Nat) (ps : List RW) (b : Int), vs = [.ref p, .ref d] ∧ Low K H cF cR p n ps b ∧ DueAt H d n ps b ∧ DOk m k n ps b ∧ m ≤ 1000 ∧ k ≤ 1400 ∧ ∀ H', Same H H' → Q (.bl true) H'
abbrev s__law_has_pairs : Stmt := top 47
abbrev N__law_has_pairs : List Str := ["rows", "due", "shared", "pair", "walked", "k", "told"]
theorem sc__law_has_pairs : FnScope N__law_has_pairs ["rows", "due"] (defScope s__law_has_pairs) := ⟨rfl, rfl, rfl, by decide +kernel, rfl, by decide +kernel, by decide +kernel⟩
theorem ok__law_has_pairs (F : Fun K "_law_has_pairs" "_law_has_pairs" s__law_has_pairs f fd) (T : Txt mg) (O : Obs K cF cR) (C_len : LenOk P w K mg base cF cR) (C_iter : IterOk P w K mg base cR) (C__law_whole : Cal P w K mg base 1 "_law_whole" ["value"] spLaw_whole) (C__law_is_point : Cal P w K mg base 2 "_law_is_point" ["value", "size"] (spIsPoint K))
    (C__law_gcd : Cal P w K mg base 1 "_law_gcd" ["one", "two"] spGcd) : FnOk P w K mg base CX0 4 f fd ["rows", "due"] (spHasP K cF cR) := by
  refine F.ok sc__law_has_pairs (fun vs H Q E h => ?_) (fun cdv A outer s H vs Q E hr h => ?_)
  · obtain ⟨p, d, m, k, n, ps, b, rfl, _⟩ := h
    rfl
  obtain ⟨p, d, m, k, n, ps, b, rfl, hlow, ⟨c, hd, hps⟩, hok, hm, hk, q⟩ := h
  refine ⟨_, (pss_cons (ps_set (i := 2) sc__law_has_pairs.nd rfl (Or.inl rfl) (pe_ix ix_list (pv 1) pe_int (fun _ _ => rfl)))
  (pss_cons (ps_for PassesOwn.never rfl (pi_list (pe_ix ix_list (pv 1) pe_int (fun _ _ => rfl))) (pg_name (i := 3) sc__law_has_pairs.nd rfl (Or.inl rfl)) (pss_one (ps_set (i := 2) sc__law_has_pairs.nd rfl (Or.inl rfl) (pe_cal C__law_gcd (hr.mono (by omega)) rfl (pa_cons (pv 2) (pa_cons (pe_ix ix_list /-?-/ (pv 3) pe_int (fun _ _ => rfl)) pa_nil))))))
  (pss_cons (ps_if (PW.pt (pw_or (pt_not (pt_val (pe_cal C__law_whole (hr.mono (by omega)) rfl (pa_cons (pe_fld (pv 0) rfl) pa_nil)))) (pw_or1 (pt_cmpR op_ne (pe_fld (pv 0) rfl) (pe_ix ix_list (pv 1) pe_int (fun _ _ => rfl)) (nomark _))))) (pss_one (ps_ret pe_bl)) pss_nil)
  (pss_cons (ps_if (PW.pt (pw_or (pt_not (pt_val (pe_cal C__law_whole (hr.mono (by omega)) rfl (pa_cons (pe_fld (pv 0) rfl) pa_nil)))) (pw_or1 (pt_cmpR op_ne (pe_fld (pv 0) rfl) (pe_op op_fdivW (pe_ix ix_list (pv 1) pe_int (fun _ _ => rfl)) (pv 2)) (nomark _))))) (pss_one (ps_ret pe_bl)) pss_nil)
  (pss_cons (ps_if (PW.pt (pw_or (pt_not (pt_val (pe_callB call_isi (by rfl) T.b_isinstance (by decide +kernel) (pa_cons (pe_fld (pv 0) rfl) (pa_cons (pe_bltn (v := .ty "tuple") (by rfl) T.b_tuple (by decide +kernel) rfl) pa_nil))))) (pw_or (pt_cmpR op_ne (pe_callB (call_lenR C_len (hr.mono (by omega))) (by rfl) T.b_len PySem.boot_len (pa_cons (pv 0) pa_nil)) (pe_callB call_len_seq (by rfl) T.b_len PySem.boot_len (pa_cons (pe_ix ix_list (pv 1) pe_int (fun _ _ => rfl)) pa_nil)) (nomark _)) (pw_or1 (pt_cmpR op_ne (pe_callB call_len_seq (by rfl) T.b_len PySem.boot_len (pa_cons (pe_fld (pv 0) rfl) pa_nil)) (pe_callB call_len_seq (by rfl) T.b_len PySem.boot_len (pa_cons (pe_ix ix_list (pv 1) pe_int (fun _ _ => rfl)) pa_nil)) (nomark _)))))) (pss_one (ps_ret pe_bl)) pss_nil)
  (pss_cons (ps_setLc (i := 4) (own := [("pair", 3)]) (g := gName 3) (tt := tYes) (by rfl) sc__law_has_pairs.nd rfl rfl (sw_true rfl rfl rfl (by decide +kernel)) (pi_ownR (i := 0) C_iter (hr.mono (by omega)) rfl (Or.inl rfl)) (blkOk_by (N := N__law_has_pairs) (sc := defScope s__law_has_pairs) (by decide +kernel)) (fun _ _ _ _ _ => (pg_name (i := 3) sc__law_has_pairs.nd rfl (Or.inl rfl))) (fun _ _ _ _ _ => pts_nil) (fun _ _ _ _ _ => (pv 3)))
  (pss_cons (ps_if (pt_cmpR (op_neD hr.units) (pe_callTy call_tuple_of (by rfl) T.b_tuple (by decide +kernel) (pa_cons (pv 4) pa_nil)) (pe_fld (pv 0) rfl) (nomark _)) (pss_one (ps_ret pe_bl)) pss_nil)
  (pss_cons (ps_for PassesOwn.never rfl (pi_range1 (by rfl) T.b_range (pa_cons (pe_callB call_len_seq (by rfl) T.b_len PySem.boot_len (pa_cons (pv 4) pa_nil)) pa_nil)) (pg_name (i := 5) sc__law_has_pairs.nd rfl (Or.inl rfl)) (pss_cons (ps_set (i := 6) sc__law_has_pairs.nd rfl (Or.inl rfl) (pe_ix ix_list (pv 4) (pv 5) (fun _ _ => rfl)))
  (pss_cons (ps_if (PW.pt (pw_or (pt_not (pt_val (pe_callB call_isi (by rfl) T.b_isinstance (by decide +kernel) (pa_cons (pv 6) (pa_cons (pe_bltn (v := .ty "tuple") (by rfl) T.b_tuple (by decide +kernel) rfl) pa_nil))))) (pw_or (pt_cmpR op_ne (pe_callB call_len_seq (by rfl) T.b_len PySem.boot_len (pa_cons (pv 6) pa_nil)) pe_int (nomark _)) (pw_or1 (pt_not (pt_val (pe_cal C__law_is_point (hr.mono (by omega)) rfl (pa_cons (pe_ix ix_tup (pv 6) pe_int (fun _ _ => rfl)) (pa_cons (pe_ix ix_list (pv 1) pe_int (fun _ _ => rfl)) pa_nil))))))))) (pss_one (ps_ret pe_bl)) pss_nil)
  (pss_one (ps_if (PW.pt (pw_or (pt_cmpR (op_neD hr.units) (pe_ix ix_tup (pv 6) pe_int (fun _ _ => rfl)) (pe_callTy call_tuple_of (by rfl) T.b_tuple (by decide +kernel) (pa_cons (pe_ix ix_list /-?-/ (pe_ix ix_list /-?-/ (pe_ix ix_list (pv 1) pe_int (fun _ _ => rfl)) (pv 5) (fun _ _ => rfl)) pe_int (fun _ _ => rfl)) pa_nil)) (nomark _)) (pw_or (pt_not (pt_val (pe_cal C__law_whole (hr.mono (by omega)) rfl (pa_cons (pe_ix ix_tup (pv 6) pe_int (fun _ _ => rfl)) pa_nil)))) (pw_or1 (pt_cmpR op_ne (pe_ix ix_tup (pv 6) pe_int (fun _ _ => rfl)) (pe_op op_fdivW (pe_ix ix_list /-?-/ (pe_ix ix_list /-?-/ (pe_ix ix_list (pv 1) pe_int (fun _ _ => rfl)) (pv 5) (fun _ _ => rfl)) pe_int (fun _ _ => rfl)) (pv 2)) (nomark _)))))) (pss_one (ps_ret pe_bl)) pss_nil)))))
  (pss_one (ps_ret pe_bl)))))))))), ?_⟩
  have hb0 : 0 < b := hok.bot
  have hlen := hok.len
  have hn := hok.n10
  obtain ⟨ls, hc, hl, hrow⟩ := hps.at
  obtain ⟨dx, e, F1, hi, hz, hF⟩ := id hlow
  obtain ⟨vs, he, hall⟩ := fz_all hz
  have hvl : vs.length = ps.length := by rw [hall.len, List.length_map, lp_len]
  have hg := lg_pos (ps := ps) hb0
  have gB : B 9000 (lg ps b) := (B.le (Int.le_of_lt hg) (gf_le hb0 _) hok.bB).mono (by omega)
  refine ⟨_, rfl, d, _, 2, _, rfl, rfl, SqL.of hd, at_pos (by decide) rfl, ?_⟩
  refine ⟨_, rfl, d, _, 1, _, rfl, rfl, SqL.of hd, at_pos (by decide) rfl, c, rfl, ⟨_, SqL.of hc⟩, for_list (K := K) (a := c) (xs := ls) (fun i σ H' => ∃ v3 : Option V, σ = [some (.ref p), some (.ref d), some (.int (gf b (ws (ps.take i)))), v3, none, none, none] ∧ H' = H)
    ⟨none, rfl, rfl⟩ (fun i σ H' _ ⟨_, _, e⟩ => by rw [e]; exact SqL.of hc) ?_ ?_⟩
  · rintro i x σ H' hx ⟨v3, rfl, rfl⟩
    obtain ⟨p0, hp0⟩ : ∃ p0, ps[i]? = some p0 := ⟨_, List.getElem?_eq_getElem (by have := (List.getElem?_eq_some_iff.mp hx).1; omega)⟩
    obtain ⟨q1, r1, hq1, hq2, hq3⟩ := hrow i p0 hp0
    rw [hx] at hq1
    cases hq1
    refine ⟨_, rfl, _, rfl, q1, _, 1, _, rfl, rfl, SqL.of hq2, at_pos (by decide) rfl, _, _, rfl, ((hok.row p0 (List.mem_of_getElem? hp0)).2.2.1).mono (by omega), some (.ref q1), ?_, rfl⟩
    rw [ws_take hp0]
    rfl
  rintro σ H' ⟨v3, rfl, rfl⟩
  rw [hl, List.take_length]
  have hsz : ∀ {R : Prop}, R → R := id
  refine ⟨_, rfl, p, cR, dx, _, _, rfl, hi, O.clR, O.R_size, lkRs _ _ _ _, _, rfl, true, rfl, ifF rfl ?_⟩
  refine ⟨_, rfl, p, cR, dx, _, _, rfl, hi, O.clR, O.R_size, lkRs _ _ _ _, _, rfl, d, _, 0, _, rfl, rfl, SqL.of hd, at_pos (by decide) rfl, rfl, _, rfl, ifF (ne_F rfl) ?_⟩
  refine ⟨_, rfl, p, cR, dx, _, _, rfl, hi, O.clR, O.R_bottom, lkRb _ _ _ _, _, rfl, true, rfl, ifF rfl ?_⟩
  refine ⟨_, rfl, p, cR, dx, _, _, rfl, hi, O.clR, O.R_bottom, lkRb _ _ _ _, _, rfl, d, _, 2, _, rfl, rfl, SqL.of hd, at_pos (by decide) rfl, _, rfl, _, _, rfl, rfl, wdiv hg gB (by decide) (by decide), rfl, _, rfl, ifF (ne_F rfl) ?_⟩
  refine ⟨_, rfl, p, cR, dx, _, _, rfl, hi, O.clR, O.R_pairs, lkRp _ _ _ _, _, _, _, _, true, rfl, .ty _, ty_tup he, kit6, true, rfl, ifF rfl ?_⟩
  refine ⟨_, rfl, p, dx, _, rfl, hi, p, n, _, _, rfl, hlow, _, rfl, by rw [lp_len]; omega, _, rfl, d, _, 1, _, rfl, rfl, SqL.of hd, at_pos (by decide) rfl, c, ls, rfl, .inl (SqL.of hc), rfl, _, rfl, ifF (ne_F (by rw [lp_len, hl])) ?_⟩
  refine ⟨_, rfl, p, cR, dx, _, _, rfl, hi, O.clR, O.R_pairs, lkRp _ _ _ _, e, vs, rfl, .inr he, _, rfl, d, _, 1, _, rfl, rfl, SqL.of hd, at_pos (by decide) rfl, c, ls, rfl, .inl (SqL.of hc), rfl, _, rfl, ifF (ne_F (by rw [hvl, hl])) ?_⟩
  refine ⟨p, dx, _, e, vs, rfl, hi, lkRp _ _ _ _, he, fun D hD => ?_⟩
  refine lc_m (walk_tup (K := K) (a := e) (xs := vs)) RV (stb_RV (K := K)) vs rfl (by omega) hD (fun H' s => Same_seqT s he) (fun _ _ _ _ => ys_at) id (fun i z x H1 H2 hb1 s1 s2 y A B hA => ?_) (fun H1 l s1 hl1 rs => ?_)
  · have e2 := y.2
    rw [hb1] at e2
    cases e2
    exact ⟨rfl, lc_yes ⟨_, rfl, hA _ _ (fun _ _ h => h) rfl⟩⟩
  rw [List.map_id] at rs
  have hlv := rs_rv rs
  subst hlv
  have hi1 := s1 _ _ hi
  have hd1 := s1 _ _ hd
  have hc1 := s1 _ _ hc
  have hz1 := hz.tk (WK.Same.tk s1)
  refine ⟨_, rfl, D, _, rfl, .inl ⟨SqL.of hl1, fun t ht => ?_⟩⟩
  have s2 := same_new ht (.tup l)
  have hzt : Fz K (upd H1 t (.tup l)) (.ref t) (.tup ((lp ps b).map tdr)) := .tup (SqT.of upd_same) (hall.tk (WK.Same.tk (s1.trans s2)))
  have hsh : SeqAt.shaped (Td.tup ((lp ps b).map tdr)).py = true := td_shaped (Nat.le_trans dep_prs (by omega))
  refine ⟨_, rfl, p, cR, dx, _, _, rfl, s2 _ _ hi1, O.clR, O.R_pairs, lkRp _ _ _ _, _, _, hzt.dp, (hz1.tk (WK.Same.tk s2)).dp, hsh, hsh, _, rfl, ifF (by rw [eqv_self hsh]; rfl) ?_⟩
  have sA := s1.trans s2
  have hlD := s2 _ _ hl1
  have heA := Same_seqT sA he
  generalize upd H1 t (.tup l) = H2 at sA hlD heA
  refine ⟨_, rfl, D, l, rfl, .inl (SqL.of hlD), _, rfl, by omega, by omega, for_range (lo := 0) (n := ((l.length : Nat) : Int).toNat) (fun i σ H' => ∃ v5 v6 : Option V, σ = [some (.ref p), some (.ref d), some (.int (gf b (ws ps))), v3, some (.ref D), v5, v6] ∧ Same H2 H') ⟨none, none, rfl, fun _ _ h => h⟩ ?_ ?_⟩
  · rintro i σ H3 hi3 ⟨v5, v6, rfl, s3⟩
    obtain ⟨p0, hp0⟩ : ∃ p0, ps[i]? = some p0 := ⟨_, List.getElem?_eq_getElem (by omega)⟩
    obtain ⟨q1, r1, hq1, hq2, hq3⟩ := hrow i p0 hp0
    obtain ⟨t1, u1, ht1, ht2, ht3⟩ := prs_at hall (lp_at (b := b) hp0)
    have s03 := sA.trans s3
    have ei : (0 + (i : Int)).toNat = i := by omega
    have hx : atI l (0 + (i : Int)) = some (.ref t1) := at_pos (by omega) (by rw [ei]; exact ht1)
    have hy : atI ls (0 + (i : Int)) = some (.ref q1) := at_pos (by omega) (by rw [ei]; exact hq1)
    have ht2' := Same_seqT s03 ht2
    have ht3' := Same_seqT s03 ht3
    have hd3 := s03 _ _ hd
    have hc3 := s03 _ _ hc
    have hq2' := s03 _ _ hq2
    have hq3' := s03 _ _ hq3
    have hr0 := hok.row p0 (List.mem_of_getElem? hp0)
    refine ⟨_, rfl, _, rfl, D, _, _, _, rfl, rfl, SqL.of (s3 _ _ hlD), hx, ?_⟩
    refine ⟨_, rfl, _, _, _, _, true, rfl, .ty _, ty_tup ht2', kit6, true, rfl, ifF rfl ?_⟩
    refine ⟨_, rfl, t1, _, rfl, .inr ht2', rfl, _, rfl, ifF rfl ?_⟩
    refine ⟨_, rfl, t1, _, 0, _, rfl, rfl, ht2', at_pos (by decide) rfl, _, rfl, d, _, 0, _, rfl, rfl, SqL.of hd3, at_pos (by decide) rfl, u1, n, (fun j => p0.1.getD j 0), rfl, ?_, by omega, fun H4 s4 => ?_⟩
    · rw [← vec_of hr0.1]
      exact ht3'
    refine ⟨true, rfl, ifF rfl ?_⟩
    have ht24 := Same_seqT s4 ht2'
    refine ⟨_, rfl, t1, _, 0, _, rfl, rfl, ht24, at_pos (by decide) rfl, ?_⟩
    refine ⟨_, rfl, d, _, 1, _, rfl, rfl, SqL.of (s4 _ _ hd3), at_pos (by decide) rfl, _, rfl, c, _, _, _, rfl, rfl, SqL.of (s4 _ _ hc3), hy, q1, _, 0, _, rfl, rfl, SqL.of (s4 _ _ hq2'), at_pos (by decide) rfl, r1, _, rfl, .inl ⟨SqL.of (s4 _ _ hq3'), fun t5 ht5 => ?_⟩⟩
    have s5 := same_new ht5 (.tup (p0.1.map V.int))
    refine ⟨_, _, ints_dp (Same_seqT s5 (Same_seqT s4 ht3')), ints_dp (SqT.of upd_same), ints_shaped _, ints_shaped _, _, rfl, ifF (by rw [eqv_self (ints_shaped _)]; rfl) ?_⟩
    have s45 := s4.trans s5
    have ht25 := Same_seqT s5 ht24
    refine ⟨_, rfl, t1, _, 1, _, rfl, rfl, ht25, at_pos (by decide) rfl, _, rfl, true, rfl, ifF rfl ?_⟩
    refine ⟨_, rfl, t1, _, 1, _, rfl, rfl, ht25, at_pos (by decide) rfl, ?_⟩
    refine ⟨_, rfl, d, _, 1, _, rfl, rfl, SqL.of (s45 _ _ hd3), at_pos (by decide) rfl, _, rfl, c, _, _, _, rfl, rfl, SqL.of (s45 _ _ hc3), hy, q1, _, 1, _, rfl, rfl, SqL.of (s45 _ _ hq2'), at_pos (by decide) rfl, _, rfl, _, _, rfl, rfl, wdiv hg gB (by decide) (by decide), rfl, _, rfl, ifF (ne_F rfl) ?_⟩
    exact ⟨_, _, rfl, s3.trans s45⟩
  · rintro σ H3 ⟨v5, v6, rfl, s3⟩
    exact q H3 (sA.trans s3)
end
end P03
set_option exponentiation.threshold 3000
namespace P03
open PySem PySem.Spec PyProof.Rows L2 SX EX WK
theorem wsum_Ls (ps : List RW) (i j : Nat) : wsum ps i j = Ls ps fun p => p.2 * p.1.getD i 0 * p.1.getD j 0 := rfl
theorem wmat_mat {n : Nat} {ps : List RW} : wmat n ps = mat n (wsum ps) := rfl
theorem DOk.wsum_B {m k n : Nat} {ps : List RW} {b : Int} (h : DOk m k n ps b) (hm : m ≤ 1000) (hk : k ≤ 1400) (i j : Nat) : B 1530 (wsum ps i j) := by
  rw [wsum_Ls]
  exact BLs (k := 1520) (c := 10) (fun p hp => B.mul (m := 1460) (n := 60) (B.mul (m := 1400) (n := 60) ((h.row p hp).2.2.1.mono hk) (h.get hp i)) (h.get hp j)) (Nat.le_trans h.len (Nat.le_trans hm (by decide)))
theorem wsum_sc (g : Int) (ps : List RW) (i j : Nat) : wsum (P03.sc g ps) i j = g * wsum ps i j := by
  rw [wsum_Ls, wsum_Ls, ← Ls_mul]
  unfold Ls P03.sc
  rw [List.map_map]
  congr 1
  refine List.map_congr_left fun p _ => ?_
  show g * p.2 * p.1.getD i 0 * p.1.getD j 0 = g * (p.2 * p.1.getD i 0 * p.1.getD j 0)
  simp only [Int.mul_assoc]
theorem mat_mulf {n : Nat} {f : Nat → Nat → Int} {g : Int} : (mat n fun i j => g * f i j).flatten = (mat n f).flatten.map fun x => g * x := by
  rw [List.map_flatten]
  congr 1
  unfold mat vec
  rw [List.map_map]
  refine List.map_congr_left fun i _ => ?_
  show (List.range n).map _ = ((List.range n).map (f i)).map _
  rw [List.map_map]
  rfl
/-- the common part of a list's form -/
abbrev fg (n : Nat) (ps : List RW) (b : Int) : Int := gf b (mat n (wsum ps)).flatten
theorem fg_low {n : Nat} {ps : List RW} {b : Int} (hb : 0 < b) : fg n ps b = lg ps b * fg n (lp ps b) (lb ps b) := by
  have hg := lg_pos (ps := ps) hb
  have e1 : wsum ps = fun i j => lg ps b * wsum (lp ps b) i j := by
    funext i j
    rw [← wsum_sc, lp_back hb]
  have e2 : fg n ps b = gf (lg ps b * lb ps b) (mat n fun i j => lg ps b * wsum (lp ps b) i j).flatten := by
    rw [lb_back, ← e1]
  rw [e2, mat_mulf, gf_mul _ hg]
theorem fg_pos {n : Nat} {ps : List RW} {b : Int} (hb : 0 < b) : 0 < fg n ps b := gf_pos hb _
theorem fmat_low {n : Nat} {ps : List RW} {b : Int} (hb : 0 < b) : fmat n (lp ps b) (lb ps b) = mat n fun i j => wsum ps i j / fg n ps b := by
  have hg := lg_pos (ps := ps) hb
  unfold fmat
  rw [wmat_mat, dm_mat]
  refine mat_congr fun i j _ _ => ?_
  show wsum (lp ps b) i j / fg n (lp ps b) (lb ps b) = _
  have e1 : wsum ps i j = lg ps b * wsum (lp ps b) i j := by rw [← wsum_sc, lp_back hb]
  rw [fg_low hb, e1, Int.mul_ediv_mul_of_pos _ _ hg]
theorem fbot_low {n : Nat} {ps : List RW} {b : Int} (hb : 0 < b) : fbot n (lp ps b) (lb ps b) = b / fg n ps b := by
  have hg := lg_pos (ps := ps) hb
  show lb ps b / fg n (lp ps b) (lb ps b) = _
  rw [fg_low hb]
  have e1 : b = lg ps b * lb ps b := lb_back.symm
  conv => rhs; rw [show b / (lg ps b * fg n (lp ps b) (lb ps b)) = (lg ps b * lb ps b) / (lg ps b * fg n (lp ps b) (lb ps b)) from by rw [← e1]]
  rw [Int.mul_ediv_mul_of_pos _ _ hg]
theorem flat_takeS {n i : Nat} {g : Nat → Nat → Int} (hi : i < n) : ((mat n g).take (i + 1)).flatten = ((mat n g).take i).flatten ++ vec n (g i) := flat_take (mat_at hi)
section
variable {P : Program} {w : World} {K : PySem.W.Frag} {mg : Str → Option Value} {base : Heap} {f : Addr} {fd : FuncData} {cF cR cS cE cW cC cD cB cI cT : Addr}
def spHasF (K : PySem.W.Frag) (cF : Addr) : Sp := fun vs H Q _ => ∃ (p d : Addr) (m k n : Nat) (ps : List RW) (b : Int), vs = [.ref p, .ref d] ∧ FormAt K H cF p n (fmat n (lp ps b) (lb ps b)) (fbot n (lp ps b) (lb ps b)) ∧ DueAt H d n ps b ∧ DOk m k n ps b ∧ m ≤ 1000 ∧ k ≤ 1400 ∧ ∀ H', Same H H' → Q (.bl true) H'
abbrev s__law_has_form : Stmt := top 48
abbrev N__law_has_form : List Str := ["form", "due", "table", "shared", "line", "number", "k"]
theorem sc__law_has_form : FnScope N__law_has_form ["form", "due"] (defScope s__law_has_form) := ⟨rfl, rfl, rfl, by decide +kernel, rfl, by decide +kernel, by decide +kernel⟩
theorem ok__law_has_form (F : Fun K "_law_has_form" "_law_has_form" s__law_has_form f fd) (T : Txt mg) (U : Gls mg cF cR cS cE cW cC cD cB cI cT) (O : Obs K cF cR) (V0 : Frm K cF cR) (C__law_table : Cal P w K mg base 1 "_law_table" ["size", "pairs"] (spTab K)) (C__law_whole : Cal P w K mg base 1 "_law_whole" ["value"] spLaw_whole) (C__law_is_point : Cal P w K mg base 2 "_law_is_point" ["value", "size"] (spIsPoint K))
    (C__law_gcd : Cal P w K mg base 1 "_law_gcd" ["one", "two"] spGcd) : FnOk P w K mg base CX0 4 f fd ["form", "due"] (spHasF K cF) := by
  refine F.ok sc__law_has_form (fun vs H Q E h => ?_) (fun cdv A outer s H vs Q E hr h => ?_)
  · obtain ⟨p, d, m, k, n, ps, b, rfl, _⟩ := h
    rfl
  obtain ⟨p, d, m, k, n, ps, b, rfl, hform, ⟨c, hd, hps⟩, hok, hm, hk, q⟩ := h
  refine ⟨_, (pss_cons (ps_set (i := 2) sc__law_has_form.nd rfl (Or.inl rfl) (pe_cal C__law_table (hr.mono (by omega)) rfl (pa_cons (pe_ix ix_list (pv 1) pe_int (fun _ _ => rfl)) (pa_cons (pe_ix ix_list (pv 1) pe_int (fun _ _ => rfl)) pa_nil))))
  (pss_cons (ps_set (i := 3) sc__law_has_form.nd rfl (Or.inr rfl) (pe_ix ix_list (pv 1) pe_int (fun _ _ => rfl)))
  (pss_cons (ps_for PassesOwn.never rfl (pi_list (pv 2)) (pg_name (i := 4) sc__law_has_form.nd rfl (Or.inl rfl)) (pss_one (ps_for PassesOwn.never rfl (pi_list (pv 4)) (pg_name (i := 5) sc__law_has_form.nd rfl (Or.inl rfl)) (pss_one (ps_if (pt_cmpR op_ne (pv 3) pe_int (nomark _)) (pss_one (ps_set (i := 3) sc__law_has_form.nd rfl (Or.inr rfl) (pe_cal C__law_gcd (hr.mono (by omega)) rfl (pa_cons (pv 3) (pa_cons (pv 5) pa_nil))))) pss_nil)))))
  (pss_cons (ps_if (PW.pt (pw_or (pt_not (pt_val (pe_callB call_isi (by rfl) T.b_isinstance (by decide +kernel) (pa_cons (pv 0) (pa_cons (pe_glob (v := .ref _) rfl U.g_Form rfl) pa_nil))))) (pw_or (pt_not (pt_val (pe_cal C__law_whole (hr.mono (by omega)) rfl (pa_cons (pe_fld (pv 0) rfl) pa_nil)))) (pw_or1 (pt_cmpR op_ne (pe_fld (pv 0) rfl) (pe_ix ix_list (pv 1) pe_int (fun _ _ => rfl)) (nomark _)))))) (pss_one (ps_ret pe_bl)) pss_nil)
  (pss_cons (ps_if (PW.pt (pw_or (pt_not (pt_val (pe_cal C__law_whole (hr.mono (by omega)) rfl (pa_cons (pe_fld (pv 0) rfl) pa_nil)))) (pw_or1 (pt_cmpR op_ne (pe_fld (pv 0) rfl) (pe_op op_fdivW (pe_ix ix_list (pv 1) pe_int (fun _ _ => rfl)) (pv 3)) (nomark _))))) (pss_one (ps_ret pe_bl)) pss_nil)
  (pss_cons (ps_if (PW.pt (pw_or (pt_not (pt_val (pe_callB call_isi (by rfl) T.b_isinstance (by decide +kernel) (pa_cons (pe_fld (pv 0) rfl) (pa_cons (pe_bltn (v := .ty "tuple") (by rfl) T.b_tuple (by decide +kernel) rfl) pa_nil))))) (pw_or1 (pt_cmpR op_ne (pe_callB call_len_seq (by rfl) T.b_len PySem.boot_len (pa_cons (pe_fld (pv 0) rfl) pa_nil)) (pe_ix ix_list (pv 1) pe_int (fun _ _ => rfl)) (nomark _))))) (pss_one (ps_ret pe_bl)) pss_nil)
  (pss_cons (ps_for PassesOwn.never rfl (pi_range1 (by rfl) T.b_range (pa_cons (pe_ix ix_list (pv 1) pe_int (fun _ _ => rfl)) pa_nil)) (pg_name (i := 6) sc__law_has_form.nd rfl (Or.inl rfl)) (pss_cons (ps_if (pt_not (pt_val (pe_cal C__law_is_point (hr.mono (by omega)) rfl (pa_cons (pe_ix ix_tup (pe_fld (pv 0) rfl) (pv 6) (fun _ _ => rfl)) (pa_cons (pe_ix ix_list (pv 1) pe_int (fun _ _ => rfl)) pa_nil))))) (pss_one (ps_ret pe_bl)) pss_nil)
  (pss_one (ps_if (pt_cmpR (op_neD hr.units) (pe_ix ix_tup (pe_fld (pv 0) rfl) (pv 6) (fun _ _ => rfl)) (pe_callTy call_tuple_of (by rfl) T.b_tuple (by decide +kernel) (pa_cons (pe_lc (own := [("number", 5)]) (g := gName 5) (tt := tYes) (by rfl) sc__law_has_form.nd (pi_list (pe_ix ix_list (pv 2) (pv 6) (fun _ _ => rfl))) (blkOk_by (N := N__law_has_form) (sc := defScope s__law_has_form) (by decide +kernel)) (fun _ _ _ _ _ => (pg_name (i := 5) sc__law_has_form.nd rfl (Or.inl rfl))) (fun _ _ _ _ _ => pts_nil) (fun _ _ _ _ _ => (pe_op op_fdivW (pv 5) (pv 3)))) pa_nil)) (nomark _)) (pss_one (ps_ret pe_bl)) pss_nil))))
  (pss_one (ps_ret pe_bl))))))))), ?_⟩
  have hb0 : 0 < b := hok.bot
  have hn := hok.n10
  rw [fmat_low hb0, fbot_low hb0] at hform
  have wB := hok.wsum_B hm hk
  generalize hW : wsum ps = W at hform wB
  have hG : fg n ps b = gf b (mat n W).flatten := by rw [← hW]
  rw [hG] at hform
  have hg : 0 < gf b (mat n W).flatten := gf_pos hb0 _
  have gB : B 9000 (gf b (mat n W).flatten) := (B.le (Int.le_of_lt hg) (gf_le hb0 _) hok.bB).mono (by omega)
  obtain ⟨dx, e, hi, hz⟩ := id hform
  obtain ⟨e', vs, ee, he, hl, hat⟩ := fz_mat hz
  cases ee
  rw [mat_len] at hl
  refine ⟨_, rfl, d, _, 0, _, rfl, rfl, SqL.of hd, at_pos (by decide) rfl, _, rfl, d, _, 1, _, rfl, rfl, SqL.of hd, at_pos (by decide) rfl, c, n, ps, rfl, hps, ⟨m, k, b, hok, hm, hk⟩, fun tb H1 s1 htab => ?_⟩
  rw [hW] at htab
  obtain ⟨ls, ht, htl, hrow⟩ := htab.at
  have hd1 := s1 _ _ hd
  refine ⟨_, rfl, d, _, 2, _, rfl, rfl, SqL.of hd1, at_pos (by decide) rfl, ?_⟩
  refine ⟨_, rfl, tb, rfl, ⟨_, SqL.of ht⟩, for_list (K := K) (a := tb) (xs := ls) (fun i σ H' => ∃ v4 v5 : Option V, σ = [some (.ref p), some (.ref d), some (.ref tb), some (.int (gf b ((mat n W).take i).flatten)), v4, v5, none] ∧ H' = H1) ⟨none, none, rfl, rfl⟩ (fun i σ H' _ ⟨_, _, _, e⟩ => by rw [e]; exact SqL.of ht) ?_ ?_⟩
  · rintro i x σ H' hx ⟨v4, v5, rfl, rfl⟩
    have hin : i < n := by have := (List.getElem?_eq_some_iff.mp hx).1; omega
    obtain ⟨r, hr1, hr2⟩ := hrow i hin
    rw [hx] at hr1
    cases hr1
    refine ⟨_, rfl, r, rfl, ⟨_, SqL.of hr2⟩, for_list (K := K) (a := r) (xs := (vec n (W i)).map V.int) (fun j σ H2 => ∃ v5 : Option V, σ = [some (.ref p), some (.ref d), some (.ref tb), some (.int (gf b (((mat n W).take i).flatten ++ (vec n (W i)).take j))), some (.ref r), v5, none] ∧ H2 = H') ⟨v5, by rw [List.take_zero, List.append_nil]; rfl, rfl⟩ (fun i σ H' _ ⟨_, _, e⟩ => by rw [e]; exact SqL.of hr2) ?_ ?_⟩
    · rintro j y σ H2 hy ⟨v5, rfl, rfl⟩
      have hjn : j < n := by have := (List.getElem?_eq_some_iff.mp hy).1; rw [vec_lenV] at this; exact this
      have e1 := hy
      rw [vecV_at hjn] at e1
      cases e1
      have e2 : gf b (((mat n W).take i).flatten ++ (vec n (W i)).take (j + 1)) = gI (gf b (((mat n W).take i).flatten ++ (vec n (W i)).take j)) (W i j) := by
        rw [take_one (vec_at hjn), ← List.append_assoc, gf_snoc]
      refine ⟨_, rfl, rfl, _, rfl, ?_⟩
      by_cases h1 : gf b (((mat n W).take i).flatten ++ (vec n (W i)).take j) = 1
      · refine ifF (ne_F h1) ⟨some (.int (W i j)), ?_, rfl⟩
        rw [e2, h1, gI_unit]
        rfl
      · refine ifT (ne_T h1) ⟨_, rfl, _, rfl, _, _, rfl, (wB i j).mono (by decide), some (.int (W i j)), ?_, rfl⟩
        rw [e2]
        rfl
    · rintro σ H2 ⟨v5, rfl, rfl⟩
      refine ⟨some (.ref r), v5, ?_, rfl⟩
      rw [vec_lenV, flat_takeS hin]
      have : (vec n (W i)).take n = vec n (W i) := List.take_of_length_le (by rw [vec_len]; exact Nat.le_refl _)
      rw [this]
  rintro σ H9 ⟨v4, v5, rfl, rfl⟩
  rw [htl]
  have tk : (mat n W).take n = mat n W := List.take_of_length_le (by rw [mat_len]; exact Nat.le_refl _)
  rw [tk]
  have hi1 := s1 _ _ hi
  have he1 := Same_seqT s1 he
  refine ⟨_, rfl, _, _, _, _, true, rfl, .own _, isForm V0 O.clF hi1, V0.kF, true, rfl, ifF rfl ?_⟩
  refine ⟨_, rfl, p, cF, dx, _, _, rfl, hi1, O.clF, O.F_size, lkFs _ _ _, _, rfl, true, rfl, ifF rfl ?_⟩
  refine ⟨_, rfl, p, cF, dx, _, _, rfl, hi1, O.clF, O.F_size, lkFs _ _ _, _, rfl, d, _, 0, _, rfl, rfl, SqL.of hd1, at_pos (by decide) rfl, rfl, _, rfl, ifF (ne_F rfl) ?_⟩
  refine ⟨_, rfl, p, cF, dx, _, _, rfl, hi1, O.clF, O.F_bottom, lkFb _ _ _, _, rfl, true, rfl, ifF rfl ?_⟩
  refine ⟨_, rfl, p, cF, dx, _, _, rfl, hi1, O.clF, O.F_bottom, lkFb _ _ _, _, rfl, d, _, 2, _, rfl, rfl, SqL.of hd1, at_pos (by decide) rfl, _, rfl, _, _, rfl, rfl, wdiv hg gB (by decide) (by decide), rfl, _, rfl, ifF (ne_F rfl) ?_⟩
  refine ⟨_, rfl, p, cF, dx, _, _, rfl, hi1, O.clF, O.F_entries, lkFe _ _ _, _, _, _, _, true, rfl, .ty _, ty_tup he1, kit6, true, rfl, ifF rfl ?_⟩
  refine ⟨_, rfl, p, cF, dx, _, _, rfl, hi1, O.clF, O.F_entries, lkFe _ _ _, e, vs, rfl, .inr he1, _, rfl, d, _, 0, _, rfl, rfl, SqL.of hd1, at_pos (by decide) rfl, rfl, _, rfl, ifF (ne_F (by rw [hl])) ?_⟩
  refine ⟨_, rfl, d, _, 0, _, rfl, rfl, SqL.of hd1, at_pos (by decide) rfl, (n : Int), rfl, by omega, by omega, for_range (lo := 0) (n := ((n : Nat) : Int).toNat) (fun i σ H' => ∃ v6 : Option V, σ = [some (.ref p), some (.ref d), some (.ref tb), some (.int (gf b (mat n W).flatten)), v4, v5, v6] ∧ Same H9 H') ⟨none, rfl, fun _ _ h => h⟩ ?_ ?_⟩
  · rintro i σ H3 hi3 ⟨v6, rfl, s3⟩
    have hin : i < n := by omega
    have s03 := s1.trans s3
    have ei : (0 + (i : Int)).toNat = i := by omega
    obtain ⟨t1, ht1, ht2⟩ := hat i _ (mat_at hin)
    obtain ⟨r, hr1, hr2⟩ := hrow i hin
    have hx : atI vs (0 + (i : Int)) = some (.ref t1) := at_pos (by omega) (by rw [ei]; exact ht1)
    have hy : atI ls (0 + (i : Int)) = some (.ref r) := at_pos (by omega) (by rw [ei]; exact hr1)
    have hi3 := s03 _ _ hi
    have he3 := Same_seqT s03 he
    have hd3 := s03 _ _ hd
    have ht3 := Same_seqT s03 ht2
    have htb3 := s3 _ _ ht
    have hr3 := s3 _ _ hr2
    refine ⟨_, rfl, p, cF, dx, _, _, rfl, hi3, O.clF, O.F_entries, lkFe _ _ _, _, rfl, e, _, _, _, rfl, rfl, he3, hx, _, rfl, d, _, 0, _, rfl, rfl, SqL.of hd3, at_pos (by decide) rfl, t1, n, (fun j => W i j / gf b (mat n W).flatten), rfl, ht3, by omega, fun H4 s4 => ?_⟩
    refine ⟨true, rfl, ifF rfl ?_⟩
    refine ⟨_, rfl, p, cF, dx, _, _, rfl, s4 _ _ hi3, O.clF, O.F_entries, lkFe _ _ _, _, rfl, e, _, _, _, rfl, rfl, Same_seqT s4 he3, hx, ?_⟩
    have hr4 := s4 _ _ hr3
    refine ⟨_, rfl, _, rfl, tb, _, _, _, rfl, rfl, SqL.of (s4 _ _ htb3), hy, r, rfl, ⟨_, SqL.of hr4⟩, fun D hD => ?_⟩
    refine lc_m (walk_list (K := K) (a := r) (xs := (vec n (W i)).map V.int)) RI (stb_RI (K := K)) (List.range n) (by rw [vec_lenV, List.length_range]) (by rw [List.length_range]; omega) hD (fun H' s => s.seq (SqL.of hr4)) (fun _ _ _ _ => ys_at) (fun j => W i j / gf b (mat n W).flatten) (fun c2 j x H5 H6 hc s5 s6 y A B hA => ?_) (fun H5 l s5 hl5 rs => ?_)
    · obtain ⟨hc1, rfl⟩ := in_range hc
      have e2 := y.2
      rw [vecV_at hc1] at e2
      cases e2
      exact ⟨rfl, lc_yes ⟨_, rfl, _, rfl, _, _, rfl, rfl, wdiv hg gB (by decide) (by decide), hA _ _ (fun _ _ h => h) rfl⟩⟩
    have hl5' : H5 D = some (.lst ((vec n fun j => W i j / gf b (mat n W).flatten).map V.int)) := by rw [hl5, rs.ints]; rfl
    refine ⟨D, _, rfl, .inl ⟨SqL.of hl5', fun t5 ht5 => ?_⟩⟩
    have s7 := same_new ht5 (.tup ((vec n fun j => W i j / gf b (mat n W).flatten).map V.int))
    refine ⟨_, _, ints_dp (Same_seqT s7 (Same_seqT s5 (Same_seqT s4 ht3))), ints_dp (SqT.of upd_same), ints_shaped _, ints_shaped _, _, rfl, ifF (by rw [eqv_self (ints_shaped _)]; rfl) ?_⟩
    exact ⟨_, rfl, s3.trans (s4.trans (s5.trans s7))⟩
  · rintro σ H3 ⟨v6, rfl, s3⟩
    exact q H3 (s1.trans s3)
end
end P03
set_option exponentiation.threshold 3000
namespace P03
open PySem PySem.Spec PyProof.Rows L2 SX EX WK
/-- the product of a row and a point; the sum of the weighted squares -/
def pd (n : Nat) (x : Nat → Int) (p : RW) : Int := S n fun i => p.1.getD i 0 * x i
def sqv (n : Nat) (ps : List RW) (x : Nat → Int) : Int := Ls ps fun p => p.2 * pd n x p * pd n x p
theorem bil_wsum (n : Nat) (ps : List RW) (x : Nat → Int) : bil n (wsum ps) x x = sqv n ps x := by
  have h1 : ∀ i, S n (fun j => wsum ps i j * x j) = Ls ps fun p => p.2 * p.1.getD i 0 * pd n x p := fun i => by
    have e1 : ∀ j, wsum ps i j * x j = Ls ps fun p => p.2 * p.1.getD i 0 * (p.1.getD j 0 * x j) := fun j => by
      rw [wsum_Ls, ← Ls_mulr]
      exact Ls_congr fun p _ => Int.mul_assoc _ _ _
    rw [S_congr fun j _ => e1 j]
    refine (Ls_swap (List.range n) ps fun j p => p.2 * p.1.getD i 0 * (p.1.getD j 0 * x j)).trans (Ls_congr fun p _ => ?_)
    exact Ls_mul _ _ _
  show S n (fun i => x i * S n fun j => wsum ps i j * x j) = _
  have h2 : ∀ i, x i * S n (fun j => wsum ps i j * x j) = Ls ps fun p => p.2 * pd n x p * (p.1.getD i 0 * x i) := fun i => by
    rw [h1, ← Ls_mul]
    refine Ls_congr fun p _ => ?_
    simp only [Int.mul_assoc, Int.mul_left_comm, Int.mul_comm]
  rw [S_congr fun i _ => h2 i]
  refine (Ls_swap (List.range n) ps fun i p => p.2 * pd n x p * (p.1.getD i 0 * x i)).trans (Ls_congr fun p _ => ?_)
  exact Ls_mul _ _ _
theorem bil_mul (n : Nat) (g : Int) (f : Nat → Nat → Int) (x y : Nat → Int) : bil n (fun i j => g * f i j) x y = g * bil n f x y := by
  show S n (fun i => x i * S n fun j => g * f i j * y j) = g * S n fun i => x i * S n fun j => f i j * y j
  rw [← Ls_mul]
  refine S_congr fun i _ => ?_
  have : S n (fun j => g * f i j * y j) = g * S n fun j => f i j * y j := by
    rw [← Ls_mul]
    exact S_congr fun j _ => Int.mul_assoc _ _ _
  rw [this, Int.mul_left_comm]
theorem Ls_zero_iff {α : Type} {l : List α} {f : α → Int} (h : ∀ a ∈ l, 0 ≤ f a) : (Ls l f = 0 ↔ ∀ a ∈ l, f a = 0) ∧ 0 ≤ Ls l f := by
  induction l with
  | nil => exact ⟨⟨fun _ a ha => (by cases ha), fun _ => Ls_nil f⟩, by rw [Ls_nil]; exact Int.le_refl _⟩
  | cons a l ih =>
    obtain ⟨h1, h2⟩ := ih fun b hb => h b (List.mem_cons_of_mem _ hb)
    have h3 := h a List.mem_cons_self
    rw [Ls_cons]
    refine ⟨⟨fun e b hb => ?_, fun e => ?_⟩, by omega⟩
    · have e1 : f a = 0 := by omega
      have e2 : Ls l f = 0 := by omega
      rcases List.mem_cons.mp hb with rfl | m
      · exact e1
      · exact h1.mp e2 b m
    · rw [e a List.mem_cons_self, h1.mpr fun b hb => e b (List.mem_cons_of_mem _ hb)]
      rfl
theorem sq_term {w y : Int} (hw : 1 ≤ w) : 0 ≤ w * y * y ∧ (w * y * y = 0 ↔ y = 0) := by
  have h1 : 0 ≤ y * y := by
    rcases Int.le_total 0 y with h | h
    · exact Int.mul_nonneg h h
    · exact Int.mul_nonneg_of_nonpos_of_nonpos h h
  rw [Int.mul_assoc]
  refine ⟨Int.mul_nonneg (by omega) h1, fun e => ?_, fun e => by rw [e, Int.mul_zero, Int.mul_zero]⟩
  rcases Int.mul_eq_zero.mp e with e | e
  · omega
  · rcases Int.mul_eq_zero.mp e with e | e <;> exact e
theorem sqv_zero {n : Nat} {ps : List RW} {x : Nat → Int} (h : ∀ p ∈ ps, 1 ≤ p.2) : (sqv n ps x = 0 ↔ ∀ p ∈ ps, pd n x p = 0) := by
  refine (Ls_zero_iff fun p hp => (sq_term (h p hp)).1).1.trans ⟨fun e p hp => (sq_term (h p hp)).2.mp (e p hp), fun e p hp => (sq_term (h p hp)).2.mpr (e p hp)⟩
theorem quot_zero {t g : Int} (hg : 0 < g) (hd : g ∣ t) : (t / g = 0 ↔ t = 0) := by
  obtain ⟨k, rfl⟩ := hd
  rw [Int.mul_ediv_cancel_left _ (by omega)]
  exact ⟨fun e => by rw [e, Int.mul_zero], fun e => (Int.mul_eq_zero.mp e).resolve_left (by omega)⟩
/-- the same fraction in lowest terms -/
theorem frac_mul {g y c : Int} (hg : 0 < g) : g * y / gI (g * y) (g * c) = y / gI y c ∧ g * c / gI (g * y) (g * c) = c / gI y c := by
  rw [gI_mul g y c hg, Int.mul_ediv_mul_of_pos _ _ hg, Int.mul_ediv_mul_of_pos _ _ hg]
  exact ⟨rfl, rfl⟩
theorem B_pd {n : Nat} {x : Nat → Int} {p : RW} (hn : n ≤ 10) (hx : ∀ i, i < n → B 60 (x i)) (hp : ∀ j, B 60 (p.1.getD j 0)) : B 124 (pd n x p) := BS (k := 120) (c := 4) (fun i hi => B.mul (m := 60) (n := 60) (hp i) (hx i hi)) (by omega)
theorem row_sn {K : PySem.W.Frag} {H : Hp} {r : Addr} {n : Nat} {ns : List Int} (hn : ns.length = n) (h : H r = some (.lst (ns.map V.int))) : Sn K H (.ref r) (tv n fun i => ns.getD i 0) := by
  rw [vec_of hn] at h
  exact .lst h (FzAll.of_ints _).sn
section
variable {P : Program} {w : World} {K : PySem.W.Frag} {mg : Str → Option Value} {base : Heap} {f : Addr} {fd : FuncData} {cF cR cS cE cW cC cD cB cI cT : Addr}
def spVal : Sp := fun vs H Q _ => ∃ (d pt : Addr) (m k n : Nat) (ps : List RW) (b : Int) (x : Nat → Int), vs = [.ref d, .ref pt] ∧ DueAt H d n ps b ∧ DOk m k n ps b ∧ m ≤ 1000 ∧ k ≤ 1400 ∧ H pt = some (.lst ((vec n x).map V.int)) ∧ (∀ i, i < n → B 60 (x i)) ∧
  ∀ r H', Same H H' → FrAt H' r (sqv n ps x / gI (sqv n ps x) b) (b / gI (sqv n ps x) b) → Q (.ref r) H'
abbrev s__law_value : Stmt := top 49
abbrev N__law_value : List Str := ["due", "point", "total", "pair", "product"]
theorem sc__law_value : FnScope N__law_value ["due", "point"] (defScope s__law_value) := ⟨rfl, rfl, rfl, by decide +kernel, rfl, by decide +kernel, by decide +kernel⟩
theorem ok__law_value (F : Fun K "_law_value" "_law_value" s__law_value f fd) (T : Txt mg) (C__law_dot : Cal P w K mg base 1 "_law_dot" ["one", "two"] (spDot K)) (C__law_least : Cal P w K mg base 2 "_law_least" ["top", "under"] spLeast) : FnOk P w K mg base CX0 3 f fd ["due", "point"] spVal := by
  refine F.ok sc__law_value (fun vs H Q E h => ?_) (fun cdv A outer s H vs Q E hr h => ?_)
  · obtain ⟨d, pt, m, k, n, ps, b, x, rfl, _⟩ := h
    rfl
  obtain ⟨d, pt, m, k, n, ps, b, x, rfl, ⟨c, hd, hps⟩, hok, hm, hk, hpt, hx, q⟩ := h
  refine ⟨_, (pss_cons (ps_set (i := 2) sc__law_value.nd rfl (Or.inl rfl) pe_int)
  (pss_cons (ps_for PassesOwn.never rfl (pi_list (pe_ix ix_list (pv 0) pe_int (fun _ _ => rfl))) (pg_name (i := 3) sc__law_value.nd rfl (Or.inl rfl)) (pss_cons (ps_set (i := 4) sc__law_value.nd rfl (Or.inl rfl) (pe_cal C__law_dot (hr.mono (by omega)) rfl (pa_cons (pe_ix ix_list /-?-/ (pv 3) pe_int (fun _ _ => rfl)) (pa_cons (pv 1) pa_nil))))
  (pss_one (ps_set (i := 2) sc__law_value.nd rfl (Or.inl rfl) (pe_op op_add (pv 2) (pe_op op_mulW (pe_op op_mulW (pe_ix ix_list /-?-/ (pv 3) pe_int (fun _ _ => rfl)) (pv 4)) (pv 4)))))))
  (pss_one (ps_ret (pe_cal C__law_least (hr.mono (by omega)) rfl (pa_cons (pv 2) (pa_cons (pe_ix ix_list (pv 0) pe_int (fun _ _ => rfl)) pa_nil))))))), ?_⟩
  have hn := hok.n10
  obtain ⟨ls, hc, hl, hrow⟩ := hps.at
  refine ⟨_, rfl, d, _, 1, _, rfl, rfl, SqL.of hd, at_pos (by decide) rfl, c, rfl, ⟨_, SqL.of hc⟩, for_list (K := K) (a := c) (xs := ls) (fun i σ H' => ∃ v3 v4 : Option V, σ = [some (.ref d), some (.ref pt), some (.int (sqv n (ps.take i) x)), v3, v4] ∧ Same H H')
    ⟨none, none, rfl, fun _ _ h => h⟩ (fun i σ H' _ ⟨_, _, _, s⟩ => SqL.of (s _ _ hc)) ?_ ?_⟩
  · rintro i u σ H1 hu ⟨v3, v4, rfl, s1⟩
    obtain ⟨p, hp⟩ : ∃ p, ps[i]? = some p := ⟨_, List.getElem?_eq_getElem (by have := (List.getElem?_eq_some_iff.mp hu).1; omega)⟩
    obtain ⟨q1, r1, hq1, hq2, hq3⟩ := hrow i p hp
    rw [hu] at hq1
    cases hq1
    have hm0 := List.mem_of_getElem? hp
    have hr0 := hok.row p hm0
    have hg := hok.get hm0
    have hpdB := B_pd (x := x) hn hx hg
    have hwB : B 1400 p.2 := hr0.2.2.1.mono hk
    refine ⟨_, rfl, q1, _, 0, _, rfl, rfl, SqL.of (s1 _ _ hq2), at_pos (by decide) rfl, _, rfl, _, _, n, 60, 60, (fun i => p.1.getD i 0), x, rfl, row_sn hr0.1 (s1 _ _ hq3), .lst (s1 _ _ hpt) (FzAll.of_ints _).sn, by omega, fun i _ => hg i, hx, by decide, by decide, by decide, fun H2 s2 => ?_⟩
    refine ⟨_, rfl, _, rfl, q1, _, 1, _, rfl, rfl, SqL.of ((s1.trans s2) _ _ hq2), at_pos (by decide) rfl, _, rfl, _, _, rfl, rfl, wmul hwB hpdB (by decide) (by decide) (by decide), _, rfl, _, _, rfl, rfl, wmul (m := 1524) (B.mul (m := 1400) (n := 124) hwB hpdB) hpdB (by decide) (by decide) (by decide), _, _, rfl, rfl, ?_⟩
    refine ⟨some (.ref q1), some (.int (pd n x p)), ?_, s1.trans s2⟩
    have e : sqv n (ps.take (i + 1)) x = sqv n (ps.take i) x + p.2 * pd n x p * pd n x p := by
      rw [take_one hp]
      exact Ls_snoc _ _ _
    rw [e]
    rfl
  · rintro σ H1 ⟨v3, v4, rfl, s1⟩
    rw [hl, List.take_length]
    exact ⟨_, rfl, _, rfl, d, _, 2, _, rfl, rfl, SqL.of (s1 _ _ hd), at_pos (by decide) rfl, _, _, rfl, hok.bot, hok.bB.mono (by omega), fun r H2 s2 hr2 => q r H2 (s1.trans s2) hr2⟩
/-- rows.form(point) -/
def CallF (P : Program) (w : World) (K : PySem.W.Frag) (mg : Str → Option Value) (base : Heap) (cF : Addr) : Prop :=
  ∃ (f : Addr) (fd : FuncData), FnOk P w K mg base CX0 3 f fd ["self", "point"] (spCall K cF) ∧ WC.Cl K cF f ∧ Binds K fd ["self", "point"] []
theorem pe_formCall {X : Cx} {cF cR : Addr} {o : Expr} {apos pos : Pos} {e : Expr} {es : List Expr} {ta : TE} {t : TA} {pl : Sem Bool} (C : CallF X.prog X.w X.K X.mg X.base cF) (hc : Cls X.K cR) (hn : NoAttr X.K cR "form") (hr : Room 3 X.A) (he : PE X o ta) (ha : PA X (e :: es) t)
    (hst : starEach (e :: es) X.env = (false, eval e X.env) :: starEach es X.env := by rfl) (hpl : (backTo pos (starEach es X.env)).any (·.1) = false := by rfl)
    (ht : eval (.Call (.Attribute o "form" apos) (e :: es) [] pos) X.env = (do
      let ov ← eval o X.env
      standAt apos.atName
      let (f, first) ← holding [ov] (getMethod ov "form" pl)
      callWith pos f first (backTo pos (starEach (e :: es) X.env)) (backToKw pos (keywordEach [] X.env))) := by rfl) :
    PE X (.Call (.Attribute o "form" apos) (e :: es) [] pos) (KO.tFldCall cR "form" cF (spCall X.K cF) E0 ta t) := by
  obtain ⟨f, fd, F, L, b⟩ := C
  exact KO.pe_fldCall he hc hn F L hr b pass0 ha hst hpl ht
theorem fr_dp {K : PySem.W.Frag} {H : Hp} {r : Addr} {t b : Int} (h : FrAt H r t b) : Dp K H (.ref r) (Td.tup [.int t, .int b]).py := (Fz.tup (SqT.of h) (.cons (.int _) (.cons (.int _) .nil)) : Fz K H (.ref r) (.tup [.int t, .int b])).dp
theorem fr_shaped (t b : Int) : SeqAt.shaped (Td.tup [.int t, .int b]).py = true := td_shaped (by simp [Td.dep, Td.deps])
def spIsL (K : PySem.W.Frag) (cF cR : Addr) : Sp := fun vs H Q _ => ∃ (p d pt : Addr) (m k n : Nat) (ps : List RW) (b : Int) (x : Nat → Int), vs = [.ref p, .ref d, .ref pt] ∧ Low K H cF cR p n ps b ∧ DueAt H d n ps b ∧ DOk m k n ps b ∧ m ≤ 1000 ∧ k ≤ 1400 ∧ H pt = some (.lst ((vec n x).map V.int)) ∧ (∀ i, i < n → B 60 (x i)) ∧ ∀ H', Same H H' → Q (.bl true) H'
abbrev s__law_is_list : Stmt := top 50
abbrev N__law_is_list : List Str := ["rows", "due", "point", "told", "pair"]
theorem sc__law_is_list : FnScope N__law_is_list ["rows", "due", "point"] (defScope s__law_is_list) := ⟨rfl, rfl, rfl, by decide +kernel, rfl, by decide +kernel, by decide +kernel⟩
theorem ok__law_is_list (F : Fun K "_law_is_list" "_law_is_list" s__law_is_list f fd) (T : Txt mg) (O : Obs K cF cR) (C_form : CallF P w K mg base cF) (C__law_has_pairs : Cal P w K mg base 4 "_law_has_pairs" ["rows", "due"] (spHasP K cF cR)) (C__law_has_form : Cal P w K mg base 4 "_law_has_form" ["form", "due"] (spHasF K cF))
    (C__law_is_fraction : Cal P w K mg base 2 "_law_is_fraction" ["value"] spFrac) (C__law_value : Cal P w K mg base 3 "_law_value" ["due", "point"] spVal) (C__law_dot : Cal P w K mg base 1 "_law_dot" ["one", "two"] (spDot K)) : FnOk P w K mg base CX0 5 f fd ["rows", "due", "point"] (spIsL K cF cR) := by
  refine F.ok sc__law_is_list (fun vs H Q E h => ?_) (fun cdv A outer s H vs Q E hr h => ?_)
  · obtain ⟨p, d, pt, m, k, n, ps, b, x, rfl, _⟩ := h
    rfl
  obtain ⟨p, d, pt, m, k, n, ps, b, x, rfl, hlow, hdue, hok, hm, hk, hpt, hx, q⟩ := h
  refine ⟨_, (pss_cons (ps_if (PW.pt (pw_or (pt_not (pt_val (pe_cal C__law_has_pairs (hr.mono (by omega)) rfl (pa_cons (pv 0) (pa_cons (pv 1) pa_nil))))) (pw_or1 (pt_not (pt_val (pe_cal C__law_has_form (hr.mono (by omega)) rfl (pa_cons (pe_fld (pv 0) rfl) (pa_cons (pv 1) pa_nil)))))))) (pss_one (ps_ret pe_bl)) pss_nil)
  (pss_cons (ps_set (i := 3) sc__law_is_list.nd rfl (Or.inl rfl) (pe_formCall C_form O.clR O.R_form (hr.mono (by omega)) (pv 0) (pa_cons (pe_callTy call_tuple_of (by rfl) T.b_tuple (by decide +kernel) (pa_cons (pv 2) pa_nil)) pa_nil)))
  (pss_cons (ps_if (PW.pt (pw_or (pt_not (pt_val (pe_cal C__law_is_fraction (hr.mono (by omega)) rfl (pa_cons (pv 3) pa_nil)))) (pw_or (pt_cmpR (op_neD hr.units) (pv 3) (pe_cal C__law_value (hr.mono (by omega)) rfl (pa_cons (pv 1) (pa_cons (pv 2) pa_nil))) (nomark _)) (pw_or1 (pt_cmpR (op_neD hr.units) (pe_formCall C_form O.clR O.R_form (hr.mono (by omega)) (pv 0) (pa_cons (pe_callTy call_list_of (by rfl) T.b_list (by decide +kernel) (pa_cons (pv 2) pa_nil)) pa_nil)) (pv 3) (nomark _)))))) (pss_one (ps_ret pe_bl)) pss_nil)
  (pss_one (ps_ret (pe_cmpR op_eq (pe_cmpR op_eq (pe_ix ix_tup (pv 3) pe_int (fun _ _ => rfl)) pe_int (nomark _)) (pe_callB (cr_all rfl) (by rfl) T.b_all (by decide +kernel) (pa_cons (pe_lc (own := [("pair", 4)]) (g := gName 4) (tt := tYes) (by rfl) sc__law_is_list.nd (pi_list (pe_ix ix_list (pv 1) pe_int (fun _ _ => rfl))) (blkOk_by (N := N__law_is_list) (sc := defScope s__law_is_list) (by decide +kernel)) (fun _ _ _ _ _ => (pg_name (i := 4) sc__law_is_list.nd rfl (Or.inl rfl))) (fun _ _ _ _ _ => pts_nil) (fun _ _ _ _ _ => (pe_cmpR op_eq (pe_cal C__law_dot (hr.mono (by omega)) rfl (pa_cons (pe_ix (ix_listK (K := K) rfl) /-?-/ (pv 4) pe_int (fun _ _ => rfl)) (pa_cons (pv 2) pa_nil))) pe_int (nomark _)))) pa_nil)) (nomark _))))))), ?_⟩
  have hb0 : 0 < b := hok.bot
  have hn := hok.n10
  have wB := hok.wsum_B hm hk
  have hg0 := fg_pos (n := n) (ps := ps) hb0
  have hgd := gf_dvd (b := b) (mat n (wsum ps)).flatten
  have hV : sqv n ps x = fg n ps b * bil n (fun i j => wsum ps i j / fg n ps b) x x := by
    rw [← bil_wsum, ← bil_mul]
    show S n (fun i => x i * S n fun j => wsum ps i j * x j) = S n fun i => x i * S n fun j => fg n ps b * (wsum ps i j / fg n ps b) * x j
    refine S_congr fun i hi => ?_
    congr 1
    refine S_congr fun j hj => ?_
    rw [Int.mul_ediv_cancel' (hgd.2 _ (mat_mem hi hj))]
  have hbb : b = fg n ps b * (b / fg n ps b) := (Int.mul_ediv_cancel' hgd.1).symm
  generalize hy : bil n (fun i j => wsum ps i j / fg n ps b) x x = y at hV
  have hfr : sqv n ps x / gI (sqv n ps x) b = y / gI y (b / fg n ps b) ∧ b / gI (sqv n ps x) b = (b / fg n ps b) / gI y (b / fg n ps b) := by
    have h := frac_mul (g := fg n ps b) (y := y) (c := b / fg n ps b) hg0
    rw [← hbb, ← hV] at h
    exact h
  have hb1 : 1 ≤ b / fg n ps b := quot_pos hg0 hgd.1 hb0
  have gp := gI_pos' (t := y) (b := b / fg n ps b) (by omega)
  have gq := gI_pos' (t := sqv n ps x) hb0
  have hbq : 1 ≤ b / gI (sqv n ps x) b := quot_pos gq gI_dvd2 hb0
  have one : gI (sqv n ps x / gI (sqv n ps x) b) (b / gI (sqv n ps x) b) = 1 := gI_one hb0
  obtain ⟨dx, e, F1, hi, hz, hF⟩ := id hlow
  refine ⟨_, rfl, _, rfl, p, d, m, k, n, ps, b, rfl, hlow, hdue, hok, hm, hk, fun H1 s1 => ⟨true, rfl, ifF rfl ?_⟩⟩
  have hF1 := hF.at (fun o => s1 _ _) (WK.Same.tk s1)
  refine ⟨_, rfl, p, cR, dx, _, _, rfl, s1 _ _ hi, O.clR, O.R_form, lkRf _ _ _ _, _, rfl, F1, d, m, k, n, ps, b, rfl, hF1, hdue.same s1, hok, hm, hk, fun H2 s2 => ⟨true, rfl, ifF rfl ?_⟩⟩
  have s02 := s1.trans s2
  have hF2 := hF1.at (fun o => s2 _ _) (WK.Same.tk s2)
  rw [fmat_low hb0, fbot_low hb0] at hF2
  have gB8 : ∀ i j, i < n → j < n → B 8000 (wsum ps i j / fg n ps b) := fun i j _ _ => (B.div hg0 (wB i j)).mono (by decide)
  have bB9 : B 9000 (b / fg n ps b) := (B.div hg0 hok.bB).mono (by omega)
  obtain ⟨dF, eF, hFi, hFz⟩ := id hF2
  refine ⟨_, rfl, p, dx, _, F1, dF, _, rfl, s02 _ _ hi, lkRf _ _ _ _, _, rfl, pt, _, rfl, .inl ⟨SqL.of (s02 _ _ hpt), fun t ht => ⟨same_new ht _ _ _ hFi, ?_⟩⟩⟩
  have s3 := same_new ht (.tup ((vec n x).map V.int))
  have hF3 := hF2.at (fun o => s3 _ _) (WK.Same.tk s3)
  refine ⟨F1, .ref t, n, _, _, x, rfl, hF3, .tup (SqT.of upd_same) (FzAll.of_ints _).sn, by omega, by omega, bB9, fun i hi => (hx i hi).mono (by decide), gB8, fun r H4 s4 hr4 => ?_⟩
  rw [hy, ← hfr.1, ← hfr.2] at hr4
  have s34 := s3.trans s4
  have s04 := s02.trans s34
  refine ⟨_, rfl, r, _, _, rfl, hr4, hbq, (B.div gq hok.bB).mono (by omega), one, _, rfl, ifF rfl ?_⟩
  refine ⟨_, rfl, _, rfl, _, rfl, d, pt, m, k, n, ps, b, x, rfl, hdue.same s04, hok, hm, hk, s04 _ _ hpt, hx, fun r5 H5 s5 hr5 => ?_⟩
  have hr45 := hr4.same s5
  refine ⟨_, _, fr_dp hr45, fr_dp hr5, fr_shaped _ _, fr_shaped _ _, _, rfl, ifF (by rw [eqv_self (fr_shaped _ _)]; rfl) ?_⟩
  have s05 := s04.trans s5
  have hF5 := hF3.at (fun o => (s4.trans s5) _ _) (WK.Same.tk (s4.trans s5))
  obtain ⟨dF5, eF5, hFi5, hFz5⟩ := id hF5
  refine ⟨_, rfl, p, dx, _, F1, dF5, _, rfl, s05 _ _ hi, lkRf _ _ _ _, _, rfl, pt, _, rfl, .inl (SqL.of (s05 _ _ hpt)), fun t6 ht6 => ⟨same_new ht6 _ _ _ hFi5, ?_⟩⟩
  have s6 := same_new ht6 (.lst ((vec n x).map V.int))
  have hF6 := hF5.at (fun o => s6 _ _) (WK.Same.tk s6)
  refine ⟨F1, .ref t6, n, _, _, x, rfl, hF6, .lst upd_same (FzAll.of_ints _).sn, by omega, by omega, bB9, fun i hi => (hx i hi).mono (by decide), gB8, fun r7 H7 s7 hr7 => ?_⟩
  rw [hy, ← hfr.1, ← hfr.2] at hr7
  have hr47 := hr45.same (s6.trans s7)
  refine ⟨_, rfl, _, _, fr_dp hr7, fr_dp hr47, fr_shaped _ _, fr_shaped _ _, _, rfl, ifF (by rw [eqv_self (fr_shaped _ _)]; rfl) ?_⟩
  have s07 := s05.trans (s6.trans s7)
  obtain ⟨c, hd7, hps7⟩ := hdue.same s07
  obtain ⟨ls, hc, hl, hrow⟩ := hps7.at
  have hpt7 := s07 _ _ hpt
  refine ⟨_, rfl, r, _, 0, _, rfl, rfl, SqT.of hr47, at_pos (by decide) rfl, rfl, ?_⟩
  refine ⟨_, rfl, d, _, 1, _, rfl, rfl, SqL.of hd7, at_pos (by decide) rfl, c, rfl, ⟨_, SqL.of hc⟩, fun D hD => ?_⟩
  have hlen := hok.len
  refine lc_m (walk_list (K := K) (a := c) (xs := ls)) RB (stb_RB (K := K)) ps hl (by omega) hD (fun H' s => s.seq (SqL.of hc)) (fun _ _ _ _ => ys_at) (fun p => decide (V.int (pd n x p) = V.int 0)) (fun i q0 u H8 H9 hb1 s8 s9 yl A B hA => ?_) (fun H8 l s8 hl8 rs => ?_)
  · obtain ⟨q1, r1, hq1, hq2, hq3⟩ := hrow i q0 hb1
    rw [yl.2] at hq1
    cases hq1
    have hm0 := List.mem_of_getElem? hb1
    have hr0 := hok.row q0 hm0
    refine ⟨rfl, lc_yes ⟨_, rfl, q1, _, 0, _, rfl, rfl, SqL.of (s9 _ _ hq2), at_pos (by decide) rfl, _, rfl, _, _, n, 60, 60, (fun i => q0.1.getD i 0), x, rfl, row_sn hr0.1 (s9 _ _ hq3), .lst (s9 _ _ hpt7) (FzAll.of_ints _).sn, by omega, fun i _ => hok.get hm0 i, hx, by decide, by decide, by decide, fun H' s => ⟨rfl, hA _ _ s rfl⟩⟩⟩
  · refine ⟨D, _, rfl, SqL.of (by rw [hl8, rs.bls]), rfl, ?_⟩
    have hz0 := (quot_zero gq gI_dvd1).trans (sqv_zero (n := n) (x := x) fun p hp => (hok.row p hp).2.1)
    have e2 : decide (V.int (sqv n ps x / gI (sqv n ps x) b) = V.int 0) = ((ps.map fun p => decide (V.int (pd n x p) = V.int 0)).all id) := by
      rw [Bool.eq_iff_iff, decide_eq_true_iff, List.all_map, List.all_eq_true]
      constructor
      · intro h p hp
        exact decide_eq_true (by rw [hz0.mp (V.int.inj h) p hp])
      · intro h
        rw [hz0.mpr fun p hp => V.int.inj (of_decide_eq_true (h p hp))]
    rw [e2, decide_eq_true rfl]
    exact q H8 (s07.trans s8)
end
end P03
set_option exponentiation.threshold 3000
namespace P03
open PySem PySem.Spec PyProof.Rows L2 SX EX WK
theorem sc_comm (g : Int) (ps : List RW) : (ps.map fun p : RW => ((p.1, p.2 * g) : RW)) = P03.sc g ps := by
  unfold P03.sc
  refine List.map_congr_left fun p _ => ?_
  rw [Int.mul_comm]
section
variable {P : Program} {w : World} {K : PySem.W.Frag} {mg : Str → Option Value} {base : Heap} {f : Addr} {fd : FuncData} {cF cR cS cE cW cC cD cB cI cT : Addr}
def spJoin : Sp := fun vs H Q _ => ∃ (d1 d2 : Addr) (m1 k1 m2 k2 n n2 : Nat) (ps os : List RW) (b c : Int), vs = [.ref d1, .ref d2] ∧ DueAt H d1 n ps b ∧ DueAt H d2 n2 os c ∧ DOk m1 k1 n ps b ∧ DOk m2 k2 n2 os c ∧ m1 ≤ 500 ∧ m2 ≤ 500 ∧ k1 ≤ 1400 ∧ k2 ≤ 1400 ∧
  ∀ r H', Same H H' → DueAt H' r n (P03.sc c ps ++ P03.sc b os) (b * c) → Q (.ref r) H'
abbrev s__law_joined : Stmt := top 54
abbrev N__law_joined : List Str := ["one", "two", "first", "pair"]
theorem sc__law_joined : FnScope N__law_joined ["one", "two"] (defScope s__law_joined) := ⟨rfl, rfl, rfl, by decide +kernel, rfl, by decide +kernel, by decide +kernel⟩
theorem ok__law_joined (F : Fun K "_law_joined" "_law_joined" s__law_joined f fd) (T : Txt mg) : FnOk P w K mg base CX0 1 f fd ["one", "two"] spJoin := by
  refine F.ok sc__law_joined (fun vs H Q E h => ?_) (fun cdv A outer s H vs Q E hr h => ?_)
  · obtain ⟨d1, d2, m1, k1, m2, k2, n, n2, ps, os, b, c, rfl, _⟩ := h
    rfl
  obtain ⟨d1, d2, m1, k1, m2, k2, n, n2, ps, os, b, c, rfl, ⟨a1, h1, hps⟩, ⟨a2, h2, hos⟩, ok1, ok2, hm1, hm2, hk1, hk2, q⟩ := h
  refine ⟨_, (pss_cons (ps_setLc (i := 2) (own := [("pair", 3)]) (g := gName 3) (tt := tYes) (by rfl) sc__law_joined.nd rfl rfl (sw_true rfl rfl rfl (by decide +kernel)) (pi_list (pe_ix ix_list (pv 0) pe_int (fun _ _ => rfl))) (blkOk_by (N := N__law_joined) (sc := defScope s__law_joined) (by decide +kernel)) (fun _ _ _ _ _ => (pg_name (i := 3) sc__law_joined.nd rfl (Or.inl rfl))) (fun _ _ _ _ _ => pts_nil) (fun _ _ _ _ _ => (pe_lst (pa_cons (pe_ix (ix_listK (K := K) rfl) /-?-/ (pv 3) pe_int (fun _ _ => rfl)) (pa_cons (pe_op op_mulW (pe_ix (ix_listK (K := K) rfl) /-?-/ (pv 3) pe_int (fun _ _ => rfl)) (pe_ix (ix_listK (K := K) rfl) (pv 1) pe_int (fun _ _ => rfl))) pa_nil)))))
  (pss_one (ps_ret (pe_lst (pa_cons (pe_ix ix_list (pv 0) pe_int (fun _ _ => rfl)) (pa_cons (pe_op op_cat (pv 2) (pe_lc (own := [("pair", 3)]) (g := gName 3) (tt := tYes) (by rfl) sc__law_joined.nd (pi_list (pe_ix ix_list (pv 1) pe_int (fun _ _ => rfl))) (blkOk_by (N := N__law_joined) (sc := defScope s__law_joined) (by decide +kernel)) (fun _ _ _ _ _ => (pg_name (i := 3) sc__law_joined.nd rfl (Or.inl rfl))) (fun _ _ _ _ _ => pts_nil) (fun _ _ _ _ _ => (pe_lst (pa_cons (pe_ix (ix_listK (K := K) rfl) /-?-/ (pv 3) pe_int (fun _ _ => rfl)) (pa_cons (pe_op op_mulW (pe_ix (ix_listK (K := K) rfl) /-?-/ (pv 3) pe_int (fun _ _ => rfl)) (pe_ix (ix_listK (K := K) rfl) (pv 0) pe_int (fun _ _ => rfl))) pa_nil)))))) (pa_cons (pe_op op_mulW (pe_ix ix_list (pv 0) pe_int (fun _ _ => rfl)) (pe_ix ix_list (pv 1) pe_int (fun _ _ => rfl))) pa_nil))))))), ?_⟩
  have l1 := ok1.len
  have l2 := ok2.len
  obtain ⟨ls, hc1, hl1, hrow1⟩ := hps.at
  obtain ⟨ms, hc2, hl2, hrow2⟩ := hos.at
  refine ⟨_, rfl, d1, _, 1, _, rfl, rfl, SqL.of h1, at_pos (by decide) rfl, a1, rfl, ⟨_, SqL.of hc1⟩, fun D hD => ?_⟩
  refine lc_gm (walk_list (K := K) (a := a1) (xs := ls)) (PLD D) stb_PLD ps hl1 (by omega) hD (fun H' s => s.seq (SqL.of hc1)) (fun _ _ _ _ => ys_at) (fun p => (p.1, p.2 * c)) (fun i p x H1 H2 hb1 s1 s2 y hdl A B hA => ?_) (fun H1 l s1 hlD rs => ?_)
  · obtain ⟨q1, r1, hq1, hq2, hq3⟩ := hrow1 i p hb1
    rw [y.2] at hq1
    cases hq1
    obtain ⟨l0, hl0⟩ := hdl
    refine ⟨rfl, lc_yes ⟨_, rfl, q1, _, 0, _, rfl, rfl, SqL.of (s2 _ _ hq2), at_pos (by decide) rfl, _, rfl, q1, _, 1, _, rfl, rfl, SqL.of (s2 _ _ hq2), at_pos (by decide) rfl, _, rfl, d2, _, 2, _, rfl, rfl, SqL.of (s2 _ _ h2), at_pos (by decide) rfl, _, _, rfl, rfl, wmul (((ok1.row p (List.mem_of_getElem? hb1)).2.2.1).mono hk1) (ok2.bB.mono hk2) (by decide) (by decide) (by decide), two_line, fun z hz => hA _ _ (same_new hz _) ?_⟩⟩
    have zne : z ≠ D := fun e => by rw [e, hl0] at hz; cases hz
    have rne : r1 ≠ D := ne_of_none hq3 hD
    refine ⟨z, r1, rfl, zne, rne, upd_same, ?_⟩
    exact same_new hz _ _ _ (s2 _ _ hq3)
  rw [sc_comm] at rs
  have hc2' := s1 _ _ hc2
  refine ⟨_, rfl, d1, _, 0, _, rfl, rfl, SqL.of (s1 _ _ h1), at_pos (by decide) rfl, _, rfl, ?_⟩
  refine ⟨_, rfl, d2, _, 1, _, rfl, rfl, SqL.of (s1 _ _ h2), at_pos (by decide) rfl, a2, rfl, ⟨_, SqL.of hc2'⟩, fun D2 hD2 => ?_⟩
  refine lc_gm (walk_list (K := K) (a := a2) (xs := ms)) (PLD D2) stb_PLD os hl2 (by omega) hD2 (fun H' s => s.seq (SqL.of hc2')) (fun _ _ _ _ => ys_at) (fun p => (p.1, p.2 * b)) (fun i p x H3 H4 hb1 s3 s4 y hdl A B hA => ?_) (fun H2 lB s2 hlB rsB => ?_)
  · obtain ⟨q1, r1, hq1, hq2, hq3⟩ := hrow2 i p hb1
    rw [y.2] at hq1
    cases hq1
    obtain ⟨l0, hl0⟩ := hdl
    have s14 := s1.trans s4
    refine ⟨rfl, lc_yes ⟨_, rfl, q1, _, 0, _, rfl, rfl, SqL.of (s14 _ _ hq2), at_pos (by decide) rfl, _, rfl, q1, _, 1, _, rfl, rfl, SqL.of (s14 _ _ hq2), at_pos (by decide) rfl, _, rfl, d1, _, 2, _, rfl, rfl, SqL.of (s14 _ _ h1), at_pos (by decide) rfl, _, _, rfl, rfl, wmul (((ok2.row p (List.mem_of_getElem? hb1)).2.2.1).mono hk2) (ok1.bB.mono hk1) (by decide) (by decide) (by decide), two_line, fun z hz => hA _ _ (same_new hz _) ?_⟩⟩
    have zne : z ≠ D2 := fun e => by rw [e, hl0] at hz; cases hz
    have rne : r1 ≠ D2 := ne_of_none (s1 _ _ hq3) hD2
    refine ⟨z, r1, rfl, zne, rne, upd_same, ?_⟩
    exact same_new hz _ _ _ (s14 _ _ hq3)
  rw [sc_comm] at rsB
  have s12 := s1.trans s2
  have e1 := rs.1
  have e2 := rsB.1
  rw [sc_len] at e1 e2
  refine ⟨D, D2, _, _, rfl, rfl, s2 _ _ hlD, hlB, line_ge (by omega), fun l3 hl3 => ?_⟩
  have s3 := same_new hl3 (.lst (l ++ lB))
  have s13 := s12.trans s3
  have hcat : PrsL (upd H2 l3 (.lst (l ++ lB))) l3 (P03.sc c ps ++ P03.sc b os) := by
    refine ⟨_, upd_same, by rw [List.length_append, List.length_append, rs.1, rsB.1], fun i v z hv hz => ?_⟩
    by_cases hi : i < l.length
    · rw [List.getElem?_append_left hi] at hv
      rw [List.getElem?_append_left (by rw [← rs.1]; exact hi)] at hz
      exact ((rs.2 i v z hv hz).pl).same (s2.trans s3)
    · rw [List.getElem?_append_right (by omega)] at hv
      rw [List.getElem?_append_right (by rw [← rs.1]; omega), ← rs.1] at hz
      exact ((rsB.2 _ v z hv hz).pl).same s3
  refine ⟨_, rfl, d1, _, 2, _, rfl, rfl, SqL.of (s13 _ _ h1), at_pos (by decide) rfl, _, rfl, d2, _, 2, _, rfl, rfl, SqL.of (s13 _ _ h2), at_pos (by decide) rfl, _, _, rfl, rfl, wmul (ok1.bB.mono hk1) (ok2.bB.mono hk2) (by decide) (by decide) (by decide), three_line, fun r hr' => ?_⟩
  have s4 := same_new hr' (.lst [.int (n : Int), .ref l3, .int (b * c)])
  exact q r _ (s13.trans s4) ⟨l3, upd_same, hcat.same s4⟩
def spScl (K : PySem.W.Frag) : Sp := fun vs H Q _ => ∃ (d1 a : Addr) (m k n : Nat) (ps : List RW) (b t d : Int), vs = [.ref d1, .ref a] ∧ DueAt H d1 n ps b ∧ DOk m k n ps b ∧ m ≤ 500 ∧ k ≤ 1400 ∧ (SqL K H a [.int t, .int d] ∨ SqT K H a [.int t, .int d]) ∧ B 210 t ∧ B 210 d ∧
  ∀ r H', Same H H' → DueAt H' r n (P03.sc t ps) (b * d) → Q (.ref r) H'
theorem or_same {K : PySem.W.Frag} {H H' : Hp} {a : Addr} {xs : List V} (s : Same H H') (h : SqL K H a xs ∨ SqT K H a xs) : SqL K H' a xs ∨ SqT K H' a xs := h.imp (fun h => s.seq h) (fun h => Same_seqT s h)
theorem ix_o {K : PySem.W.Frag} {H : Hp} {a : Addr} {xs : List V} {z : Int} {v : V} {Q : VK} (h : SqL K H a xs ∨ SqT K H a xs) (e : atI xs z = some v) (q : Q v H) : rIxL K (.ref a) (.int z) H Q ∨ rIxT K (.ref a) (.int z) H Q := h.imp (fun h => ⟨a, xs, z, v, rfl, rfl, h, e, q⟩) (fun h => ⟨a, xs, z, v, rfl, rfl, h, e, q⟩)
abbrev s__law_scaled : Stmt := top 55
abbrev N__law_scaled : List Str := ["one", "factor", "pair"]
theorem sc__law_scaled : FnScope N__law_scaled ["one", "factor"] (defScope s__law_scaled) := ⟨rfl, rfl, rfl, by decide +kernel, rfl, by decide +kernel, by decide +kernel⟩
theorem ok__law_scaled (F : Fun K "_law_scaled" "_law_scaled" s__law_scaled f fd) (T : Txt mg) : FnOk P w K mg base CX0 1 f fd ["one", "factor"] (spScl K) := by
  refine F.ok sc__law_scaled (fun vs H Q E h => ?_) (fun cdv A outer s H vs Q E hr h => ?_)
  · obtain ⟨d1, a, m, k, n, ps, b, t, d, rfl, _⟩ := h
    rfl
  obtain ⟨d1, a, m, k, n, ps, b, t, d, rfl, ⟨a1, h1, hps⟩, hok, hm, hk, ha, htB, hdB, q⟩ := h
  refine ⟨_, (pss_one (ps_ret (pe_lst (pa_cons (pe_ix ix_list (pv 0) pe_int (fun _ _ => rfl)) (pa_cons (pe_lc (own := [("pair", 2)]) (g := gName 2) (tt := tYes) (by rfl) sc__law_scaled.nd (pi_list (pe_ix ix_list (pv 0) pe_int (fun _ _ => rfl))) (blkOk_by (N := N__law_scaled) (sc := defScope s__law_scaled) (by decide +kernel)) (fun _ _ _ _ _ => (pg_name (i := 2) sc__law_scaled.nd rfl (Or.inl rfl))) (fun _ _ _ _ _ => pts_nil) (fun _ _ _ _ _ => (pe_lst (pa_cons (pe_ix (ix_listK (K := K) rfl) /-?-/ (pv 2) pe_int (fun _ _ => rfl)) (pa_cons (pe_op op_mulW (pe_ix (ix_listK (K := K) rfl) /-?-/ (pv 2) pe_int (fun _ _ => rfl)) (pe_ix (ix_orK (K := K) rfl) (pv 1) pe_int (fun _ _ => rfl))) pa_nil))))) (pa_cons (pe_op op_mulW (pe_ix ix_list (pv 0) pe_int (fun _ _ => rfl)) (pe_ix ix_or (pv 1) pe_int (fun _ _ => rfl))) pa_nil)))))), ?_⟩
  have l1 := hok.len
  obtain ⟨ls, hc1, hl1, hrow1⟩ := hps.at
  refine ⟨_, rfl, d1, _, 0, _, rfl, rfl, SqL.of h1, at_pos (by decide) rfl, ?_⟩
  refine ⟨_, rfl, d1, _, 1, _, rfl, rfl, SqL.of h1, at_pos (by decide) rfl, a1, rfl, ⟨_, SqL.of hc1⟩, fun D hD => ?_⟩
  refine lc_gm (walk_list (K := K) (a := a1) (xs := ls)) (PLD D) stb_PLD ps hl1 (by omega) hD (fun H' s => s.seq (SqL.of hc1)) (fun _ _ _ _ => ys_at) (fun p => (p.1, p.2 * t)) (fun i p x H1 H2 hb1 s1 s2 y hdl A B hA => ?_) (fun H1 l s1 hlD rs => ?_)
  · obtain ⟨q1, r1, hq1, hq2, hq3⟩ := hrow1 i p hb1
    rw [y.2] at hq1
    cases hq1
    obtain ⟨l0, hl0⟩ := hdl
    refine ⟨rfl, lc_yes ⟨_, rfl, q1, _, 0, _, rfl, rfl, SqL.of (s2 _ _ hq2), at_pos (by decide) rfl, _, rfl, q1, _, 1, _, rfl, rfl, SqL.of (s2 _ _ hq2), at_pos (by decide) rfl, _, rfl, ix_o (or_same s2 ha) (at_pos (by decide) rfl) ⟨_, _, rfl, rfl, wmul (((hok.row p (List.mem_of_getElem? hb1)).2.2.1).mono hk) (htB.mono (n := 1400) (by decide)) (by decide) (by decide) (by decide), two_line, fun z hz => hA _ _ (same_new hz _) ?_⟩⟩⟩
    have zne : z ≠ D := fun e => by rw [e, hl0] at hz; cases hz
    have rne : r1 ≠ D := ne_of_none hq3 hD
    exact ⟨z, r1, rfl, zne, rne, upd_same, same_new hz _ _ _ (s2 _ _ hq3)⟩
  rw [sc_comm] at rs
  refine ⟨_, rfl, d1, _, 2, _, rfl, rfl, SqL.of (s1 _ _ h1), at_pos (by decide) rfl, _, rfl, ix_o (or_same s1 ha) (at_pos (by decide) rfl) ⟨_, _, rfl, rfl, wmul (hok.bB.mono hk) (hdB.mono (n := 1400) (by decide)) (by decide) (by decide) (by decide), three_line, fun r hr' => ?_⟩⟩
  have s4 := same_new hr' (.lst [.int (n : Int), .ref D, .int (b * d)])
  exact q r _ (s1.trans s4) ⟨D, upd_same, (pld_prs hlD rs).same s4⟩
def spPck : Sp := fun vs H Q _ => ∃ (d1 a : Addr) (m k n : Nat) (ps : List RW) (b : Int) (ks : List Nat), vs = [.ref d1, .ref a] ∧ DueAt H d1 n ps b ∧ DOk m k n ps b ∧ m ≤ 500 ∧ H a = some (.lst (ks.map fun k => V.int (k : Nat))) ∧ (∀ k ∈ ks, k < ps.length) ∧ ks.length ≤ 500 ∧
  ∀ r H', Same H H' → DueAt H' r n (ks.map fun k => ps.getD k ([], 0)) b → Q (.ref r) H'
abbrev s__law_picked : Stmt := top 56
abbrev N__law_picked : List Str := ["one", "places", "place"]
theorem sc__law_picked : FnScope N__law_picked ["one", "places"] (defScope s__law_picked) := ⟨rfl, rfl, rfl, by decide +kernel, rfl, by decide +kernel, by decide +kernel⟩
theorem ok__law_picked (F : Fun K "_law_picked" "_law_picked" s__law_picked f fd) (T : Txt mg) : FnOk P w K mg base CX0 1 f fd ["one", "places"] spPck := by
  refine F.ok sc__law_picked (fun vs H Q E h => ?_) (fun cdv A outer s H vs Q E hr h => ?_)
  · obtain ⟨d1, a, m, k, n, ps, b, ks, rfl, _⟩ := h
    rfl
  obtain ⟨d1, a, m, k, n, ps, b, ks, rfl, ⟨a1, h1, hps⟩, hok, hm, ha, hks, hkl, q⟩ := h
  refine ⟨_, (pss_one (ps_ret (pe_lst (pa_cons (pe_ix ix_list (pv 0) pe_int (fun _ _ => rfl)) (pa_cons (pe_lc (own := [("place", 2)]) (g := gName 2) (tt := tYes) (by rfl) sc__law_picked.nd (pi_list (pv 1)) (blkOk_by (N := N__law_picked) (sc := defScope s__law_picked) (by decide +kernel)) (fun _ _ _ _ _ => (pg_name (i := 2) sc__law_picked.nd rfl (Or.inl rfl))) (fun _ _ _ _ _ => pts_nil) (fun _ _ _ _ _ => (pe_ix (ix_listK (K := K) rfl) /-?-/ (pe_ix (ix_listK (K := K) rfl) (pv 0) pe_int (fun _ _ => rfl)) (pv 2) (fun _ _ => rfl)))) (pa_cons (pe_ix ix_list (pv 0) pe_int (fun _ _ => rfl)) pa_nil)))))), ?_⟩
  obtain ⟨ls, hc1, hl1, hrow1⟩ := hps.at
  refine ⟨_, rfl, d1, _, 0, _, rfl, rfl, SqL.of h1, at_pos (by decide) rfl, ?_⟩
  refine ⟨_, rfl, a, rfl, ⟨_, SqL.of ha⟩, fun D hD => ?_⟩
  refine lc_gm (walk_list (K := K) (a := a) (xs := ks.map fun k => V.int (k : Nat))) (PLD D) stb_PLD ks (List.length_map ..) (by omega) hD (fun H' s => s.seq (SqL.of ha)) (fun _ _ _ _ => ys_at) (fun k => ps.getD k ([], 0)) (fun i j x H1 H2 hb1 s1 s2 y hdl A B hA => ?_) (fun H1 l s1 hlD rs => ?_)
  · have hj : j < ps.length := hks j (List.mem_of_getElem? hb1)
    have hx : x = V.int (j : Nat) := by
      have e := y.2
      rw [List.getElem?_map, hb1] at e
      exact (Option.some.inj e).symm
    subst hx
    obtain ⟨p, hp⟩ : ∃ p, ps[j]? = some p := ⟨_, List.getElem?_eq_getElem hj⟩
    obtain ⟨q1, r1, hq1, hq2, hq3⟩ := hrow1 j p hp
    refine ⟨rfl, lc_yes ⟨_, rfl, d1, _, 1, _, rfl, rfl, SqL.of (s2 _ _ h1), at_pos (by decide) rfl, _, rfl, a1, _, _, _, rfl, rfl, SqL.of (s2 _ _ hc1), at_pos (by omega) (by rw [Int.toNat_natCast]; exact hq1), hA _ _ (fun _ _ h => h) ?_⟩⟩
    have e : ps.getD j ([], 0) = p := by rw [List.getD_eq_getElem?_getD, hp]; rfl
    rw [e]
    exact ⟨q1, r1, rfl, ne_of_none hq2 hD, ne_of_none hq3 hD, s2 _ _ hq2, s2 _ _ hq3⟩
  refine ⟨_, rfl, d1, _, 2, _, rfl, rfl, SqL.of (s1 _ _ h1), at_pos (by decide) rfl, three_line, fun r hr' => ?_⟩
  have s4 := same_new hr' (.lst [.int (n : Int), .ref D, .int b])
  exact q r _ (s1.trans s4) ⟨D, upd_same, (pld_prs hlD rs).same s4⟩
def spSays : Sp := fun vs H Q _ => ∃ x : Bool, vs = [.bl x, .bl x] ∧ Q (.bl true) H
abbrev s__law_says : Stmt := top 62
abbrev N__law_says : List Str := ["told", "due"]
theorem sc__law_says : FnScope N__law_says ["told", "due"] (defScope s__law_says) := ⟨rfl, rfl, rfl, by decide +kernel, rfl, by decide +kernel, by decide +kernel⟩
theorem kitB {K : PySem.W.Frag} : PySem.W.kitOne K (.type "bool") (.type "bool") = some true := kit_ty (by decide +kernel)
theorem ok__law_says (F : Fun K "_law_says" "_law_says" s__law_says f fd) (T : Txt mg) : FnOk P w K mg base CX0 1 f fd ["told", "due"] spSays := by
  refine F.ok sc__law_says (fun vs H Q E h => ?_) (fun cdv A outer s H vs Q E hr h => ?_)
  · obtain ⟨x, rfl, _⟩ := h
    rfl
  obtain ⟨x, rfl, q⟩ := h
  refine ⟨_, (pss_one (ps_ret (pe_and (pe_callB call_isi (by rfl) T.b_isinstance (by decide +kernel) (pa_cons (pv 0) (pa_cons (pe_bltn (v := .ty "bool") (by rfl) T.b_bool (by decide +kernel) rfl) pa_nil))) (pe_one (pe_cmpR op_eq (pv 0) (pv 1) (nomark _)))))), ?_⟩
  refine ⟨_, rfl, _, _, _, _, true, rfl, .ty _, .base (.bl x), kitB, true, rfl, ifT rfl ?_⟩
  refine ⟨_, rfl, _, rfl, rfl, ?_⟩
  rw [decide_eq_true rfl]
  exact q
def spFlds : Sp := fun vs H Q _ => ∃ (d : Addr) (m k n : Nat) (ps : List RW) (b : Int), vs = [.ref d] ∧ DueAt H d n ps b ∧ DOk m k n ps b ∧ m ≤ 500 ∧ k ≤ 1400 ∧ ∀ r H', Same H H' → DueAt H' r n (lp ps b) (lb ps b) → Q (.ref r) H'
abbrev s__law_fields : Stmt := top 63
abbrev N__law_fields : List Str := ["due", "shared", "pair"]
theorem sc__law_fields : FnScope N__law_fields ["due"] (defScope s__law_fields) := ⟨rfl, rfl, rfl, by decide +kernel, rfl, by decide +kernel, by decide +kernel⟩
theorem ok__law_fields (F : Fun K "_law_fields" "_law_fields" s__law_fields f fd) (T : Txt mg) (C__law_gcd : Cal P w K mg base 1 "_law_gcd" ["one", "two"] spGcd) : FnOk P w K mg base CX0 2 f fd ["due"] spFlds := by
  refine F.ok sc__law_fields (fun vs H Q E h => ?_) (fun cdv A outer s H vs Q E hr h => ?_)
  · obtain ⟨d, m, k, n, ps, b, rfl, _⟩ := h
    rfl
  obtain ⟨d, m, k, n, ps, b, rfl, ⟨c, hd, hps⟩, hok, hm, hk, q⟩ := h
  refine ⟨_, (pss_cons (ps_set (i := 1) sc__law_fields.nd rfl (Or.inr rfl) (pe_ix ix_list (pv 0) pe_int (fun _ _ => rfl)))
  (pss_cons (ps_for PassesOwn.never rfl (pi_list (pe_ix ix_list (pv 0) pe_int (fun _ _ => rfl))) (pg_name (i := 2) sc__law_fields.nd rfl (Or.inl rfl)) (pss_one (ps_set (i := 1) sc__law_fields.nd rfl (Or.inr rfl) (pe_cal C__law_gcd (hr.mono (by omega)) rfl (pa_cons (pv 1) (pa_cons (pe_ix ix_list /-?-/ (pv 2) pe_int (fun _ _ => rfl)) pa_nil))))))
  (pss_one (ps_ret (pe_lst (pa_cons (pe_ix ix_list (pv 0) pe_int (fun _ _ => rfl)) (pa_cons (pe_lc (own := [("pair", 2)]) (g := gName 2) (tt := tYes) (by rfl) sc__law_fields.nd (pi_list (pe_ix ix_list (pv 0) pe_int (fun _ _ => rfl))) (blkOk_by (N := N__law_fields) (sc := defScope s__law_fields) (by decide +kernel)) (fun _ _ _ _ _ => (pg_name (i := 2) sc__law_fields.nd rfl (Or.inl rfl))) (fun _ _ _ _ _ => pts_nil) (fun _ _ _ _ _ => (pe_lst (pa_cons (pe_callTy (call_list_ofK (K := K) rfl) (by rfl) T.b_list (by decide +kernel) (pa_cons (pe_ix (ix_listK (K := K) rfl) /-?-/ (pv 2) pe_int (fun _ _ => rfl)) pa_nil)) (pa_cons (pe_op op_fdivW (pe_ix (ix_listK (K := K) rfl) /-?-/ (pv 2) pe_int (fun _ _ => rfl)) (pv 1)) pa_nil))))) (pa_cons (pe_op op_fdivW (pe_ix ix_list (pv 0) pe_int (fun _ _ => rfl)) (pv 1)) pa_nil)))))))), ?_⟩
  have hb0 : 0 < b := hok.bot
  have hlen := hok.len
  obtain ⟨ls, hc, hl, hrow⟩ := hps.at
  have hg := lg_pos (ps := ps) hb0
  have gB : B 9000 (lg ps b) := (B.le (Int.le_of_lt hg) (gf_le hb0 _) hok.bB).mono (by omega)
  refine ⟨_, rfl, d, _, 2, _, rfl, rfl, SqL.of hd, at_pos (by decide) rfl, ?_⟩
  refine ⟨_, rfl, d, _, 1, _, rfl, rfl, SqL.of hd, at_pos (by decide) rfl, c, rfl, ⟨_, SqL.of hc⟩, for_list (K := K) (a := c) (xs := ls) (fun i σ H' => ∃ v3 : Option V, σ = [some (.ref d), some (.int (gf b (ws (ps.take i)))), v3] ∧ H' = H)
    ⟨none, rfl, rfl⟩ (fun i σ H' _ ⟨_, _, e⟩ => by rw [e]; exact SqL.of hc) ?_ ?_⟩
  · rintro i x σ H' hx ⟨v3, rfl, rfl⟩
    obtain ⟨p0, hp0⟩ : ∃ p0, ps[i]? = some p0 := ⟨_, List.getElem?_eq_getElem (by have := (List.getElem?_eq_some_iff.mp hx).1; omega)⟩
    obtain ⟨q1, r1, hq1, hq2, hq3⟩ := hrow i p0 hp0
    rw [hx] at hq1
    cases hq1
    refine ⟨_, rfl, _, rfl, q1, _, 1, _, rfl, rfl, SqL.of hq2, at_pos (by decide) rfl, _, _, rfl, ((hok.row p0 (List.mem_of_getElem? hp0)).2.2.1).mono (by omega), some (.ref q1), ?_, rfl⟩
    rw [ws_take hp0]
    rfl
  rintro σ H' ⟨v3, rfl, rfl⟩
  rw [hl, List.take_length]
  refine ⟨_, rfl, d, _, 0, _, rfl, rfl, SqL.of hd, at_pos (by decide) rfl, ?_⟩
  refine ⟨_, rfl, d, _, 1, _, rfl, rfl, SqL.of hd, at_pos (by decide) rfl, c, rfl, ⟨_, SqL.of hc⟩, fun D hD => ?_⟩
  refine lc_gm (walk_list (K := K) (a := c) (xs := ls)) (PLD D) stb_PLD ps hl (by omega) hD (fun H' s => s.seq (SqL.of hc)) (fun _ _ _ _ => ys_at) (fun p => (p.1, p.2 / lg ps b)) (fun i p x H1 H2 hb1 s1 s2 y hdl A B hA => ?_) (fun H1 l s1 hlD rs => ?_)
  · obtain ⟨q1, r1, hq1, hq2, hq3⟩ := hrow i p hb1
    rw [y.2] at hq1
    cases hq1
    obtain ⟨l0, hl0⟩ := hdl
    refine ⟨rfl, lc_yes ⟨_, rfl, q1, _, 0, _, rfl, rfl, SqL.of (s2 _ _ hq2), at_pos (by decide) rfl, r1, _, rfl, .inl (SqL.of (s2 _ _ hq3)), fun l2 hl2 => ?_⟩⟩
    have s3 := same_new hl2 (.lst (p.1.map V.int))
    refine ⟨_, rfl, q1, _, 1, _, rfl, rfl, SqL.of (s3 _ _ (s2 _ _ hq2)), at_pos (by decide) rfl, _, rfl, _, _, rfl, rfl, wdiv hg gB (by decide) (by decide), two_line, fun z hz2 => hA _ _ (s3.trans (same_new hz2 _)) ?_⟩
    refine ⟨z, l2, rfl, fun e => ?_, fun e => ?_, upd_same, ?_⟩
    · rw [e, s3 _ _ hl0] at hz2
      cases hz2
    · rw [e, hl0] at hl2
      cases hl2
    · rw [upd_ne (ne_of_none upd_same hz2), upd_same]
  refine ⟨_, rfl, d, _, 2, _, rfl, rfl, SqL.of (s1 _ _ hd), at_pos (by decide) rfl, _, rfl, _, _, rfl, rfl, wdiv hg gB (by decide) (by decide), three_line, fun r hr' => ?_⟩
  have s4 := same_new hr' (.lst [.int (n : Int), .ref D, .int (b / lg ps b)])
  exact q r _ (s1.trans s4) ⟨D, upd_same, (pld_prs hlD rs).same s4⟩
end
end P03
set_option exponentiation.threshold 3000
namespace P03
open PySem PySem.Spec PyProof.Rows L2 SX EX WK
def zsK : List Int := [8, 61] ++ List.replicate 60 60
/-- a class without its keyword: the bottom is 1 -/
def CalK1 (P : Program) (w : World) (K : PySem.W.Frag) (mg : Str → Option Value) (base : Heap) (k : Nat) (x : Str) (C : Addr) (n : Nat) (sp : Sp) : Prop :=
  ∃ (f : Addr) (fd : FuncData) (ps : List Str) (g : List Value → List Value → List Value), Mk K C f ∧ FnOk P w K mg base CX0 k f fd ps sp ∧ mg x = some (.ref C) ∧ KBn K fd ps (n + 1) [] g (fun vs _ => vs ++ [.int 1])
theorem pe_calK1 {X : Cx} {k n : Nat} {C : Addr} {x : Str} {sp : Sp} {p pos : Pos} {e : Expr} {es : List Expr} {t : TA} (M : CalK1 X.prog X.w X.K X.mg X.base k x C n sp) (hr : Room (k + 1) X.A) (hg : Gl X x) (ha : PA X (e :: es) t)
    (hall : (backToKw pos (keywordEach [] X.env)).all (·.1.isSome) = true := by rfl) (hks : (backToKw pos (keywordEach [] X.env)).filterMap (·.1) = [] := by rfl) (hdb : (x == ("__debug__" : Str)) = false := by decide)
    (he : starEach (e :: es) X.env = (false, eval e X.env) :: starEach es X.env := by rfl) (hpl : ((backTo pos (starEach (e :: es) X.env)).any (·.1) || (backToKw pos (keywordEach [] X.env)).any (·.1.isNone)) = false := by rfl) :
    PE X (.Call (.Name x p) (e :: es) [] pos) (tMakeK C n 0 sp (fun vs _ => vs ++ [.int 1]) E0 t tNil) := by
  obtain ⟨f, fd, ps, g, M, F, hm, hb⟩ := M
  exact pe_makeK M F hr hg hm hb pass0 ha pk_nil hall hks hdb he hpl
/-- changed lists do not change a list of rows -/
theorem RowsAt.lst {K : PySem.W.Frag} {H : Hp} {cF cR p c : Addr} {n : Nat} {ps : List RW} {b : Int} {l l' : List V} (h : RowsAt K H cF cR p n ps b) (hc : H c = some (.lst l)) : RowsAt K (upd H c (.lst l')) cF cR p n ps b := by
  obtain ⟨dx, q, F, h1, h2, h3⟩ := h
  have ne : ∀ {x : Addr} {o : HO}, H x = some o → (∀ l, o ≠ .lst l) → x ≠ c := fun hx ho e => by
    rw [e, hc] at hx
    cases hx
    exact ho _ rfl
  have tk : Tk K H (upd H c (.lst l')) := tk_lst hc fun b o hb e => by rw [upd_ne hb]; exact e
  obtain ⟨dF, eF, g1, g2⟩ := id h3
  refine ⟨dx, q, F, by rw [upd_ne (ne h1 fun l e => by cases e)]; exact h1, h2.tk tk, h3.at (fun o ho => ?_) tk⟩
  rw [g1] at ho
  cases ho
  rw [upd_ne (ne g1 fun l e => by cases e)]
  exact g1
/-- the handed pairs: lists made here, perhaps changed -/
def HP (H0 H : Hp) (D : Addr) (l : List V) (L : Nat) : Prop := ∀ (j : Nat) (v : V), l[j]? = some v → ∃ (q r : Addr) (w : Int) (ns : List Int), v = .ref q ∧ q ≠ D ∧ r ≠ D ∧ H0 q = none ∧ H0 r = none ∧ H q = some (.lst [.ref r, .int w]) ∧ H r = some (.lst (ns.map V.int)) ∧ ns.length ≤ L
theorem no_mix {r : Addr} {w : Int} {ns : List Int} (h : ([V.ref r, V.int w] : List V) = ns.map V.int) : False := by
  cases ns with
  | nil => cases h
  | cons n ns => rw [List.map_cons] at h; injection h with h1 _; cases h1
theorem HP.row {H0 H : Hp} {D r : Addr} {l : List V} {L L' : Nat} {ms ns' : List Int} (h : HP H0 H D l L) (hr : H r = some (.lst (ms.map V.int))) (hL : L ≤ L') (hn : ns'.length ≤ L') : HP H0 (upd H r (.lst (ns'.map V.int))) D l L' := fun j v hv => by
  obtain ⟨q, r1, w, ns, e, h1, h2, h3, h4, h5, h6, h7⟩ := h j v hv
  have hq : q ≠ r := fun z => by
    rw [z, hr] at h5
    injection h5 with h5
    injection h5 with h5
    exact no_mix h5.symm
  by_cases z : r1 = r
  · subst z
    exact ⟨q, r1, w, ns', e, h1, h2, h3, h4, by rw [upd_ne hq]; exact h5, upd_same, hn⟩
  · exact ⟨q, r1, w, ns, e, h1, h2, h3, h4, by rw [upd_ne hq]; exact h5, by rw [upd_ne z]; exact h6, Nat.le_trans h7 hL⟩
theorem HP.pair {H0 H : Hp} {D q0 r0 : Addr} {l : List V} {L : Nat} {w0 w' : Int} (h : HP H0 H D l L) (hq : H q0 = some (.lst [.ref r0, .int w0])) : HP H0 (upd H q0 (.lst [.ref r0, .int w'])) D l L := fun j v hv => by
  obtain ⟨q, r1, w, ns, e, h1, h2, h3, h4, h5, h6, h7⟩ := h j v hv
  have hr : r1 ≠ q0 := fun z => by
    rw [z, hq] at h6
    injection h6 with h6
    injection h6 with h6
    exact no_mix h6
  by_cases z : q = q0
  · subst z
    rw [hq] at h5
    injection h5 with h5
    injection h5 with h5
    injection h5 with h5 h8
    injection h5 with h5
    subst h5
    exact ⟨q, r0, w', ns, e, h1, h2, h3, h4, upd_same, by rw [upd_ne hr]; exact h6, h7⟩
  · exact ⟨q, r1, w, ns, e, h1, h2, h3, h4, by rw [upd_ne z]; exact h5, by rw [upd_ne hr]; exact h6, h7⟩
def PLN (H0 : Hp) (D : Addr) : Hp → V → RW → Prop := fun H v q => ∃ p r : Addr, v = .ref p ∧ p ≠ D ∧ r ≠ D ∧ H0 p = none ∧ H0 r = none ∧ H p = some (.lst [.ref r, .int q.2]) ∧ H r = some (.lst (q.1.map V.int))
theorem stb_PLN {H0 : Hp} {D : Addr} : StbD D (PLN H0 D) := fun _ _ _ _ _ e ⟨p, r, h1, h2, h3, h4, h5, h6, h7⟩ => ⟨p, r, h1, h2, h3, h4, h5, e _ _ h2 h6, e _ _ h3 h7⟩
section
variable {P : Program} {w : World} {K : PySem.W.Frag} {mg : Str → Option Value} {base : Heap} {f : Addr} {fd : FuncData} {cF cR cS cE cW cC cD cB cI cT : Addr}
def spPlaces : Sp := fun vs H Q _ => ∃ (a : Addr) (ns : List Int) (many : Nat), vs = [.ref a, .int (many : Int)] ∧ H a = some (.lst (ns.map V.int)) ∧ Dig ns zsK ∧ many ≤ 60 ∧
  ∀ r H' (ks : List Nat), Same H H' → H' r = some (.lst (ks.map fun k => V.int (k : Nat))) → (∀ k ∈ ks, k < many) → ks.length ≤ 60 → Q (.ref r) H'
abbrev s__law_places : Stmt := top 57
abbrev N__law_places : List Str := ["plan", "many", "count_of", "k"]
theorem sc__law_places : FnScope N__law_places ["plan", "many"] (defScope s__law_places) := ⟨rfl, rfl, rfl, by decide +kernel, rfl, by decide +kernel, by decide +kernel⟩
theorem ok__law_places (F : Fun K "_law_places" "_law_places" s__law_places f fd) (T : Txt mg) : FnOk P w K mg base CX0 1 f fd ["plan", "many"] spPlaces := by
  refine F.ok sc__law_places (fun vs H Q E h => ?_) (fun cdv A outer s H vs Q E hr h => ?_)
  · obtain ⟨a, ns, many, rfl, _⟩ := h
    rfl
  obtain ⟨a, ns, many, rfl, ha, hd, hm, q⟩ := h
  refine ⟨_, (pss_cons (ps_if (pt_cmpR op_eq (pv 1) pe_int (nomark _)) (pss_one (ps_ret (pe_lst pa_nil))) pss_nil)
  (pss_cons (ps_if (pt_cmpR op_eq (pe_ix ix_list (pv 0) pe_int (fun _ _ => rfl)) pe_int (nomark _)) (pss_one (ps_ret (pe_lc (own := [("k", 3)]) (g := gName 3) (tt := tYes) (by rfl) sc__law_places.nd (pi_range1 (by rfl) T.b_range (pa_cons (pv 1) pa_nil)) (blkOk_by (N := N__law_places) (sc := defScope s__law_places) (by decide +kernel)) (fun _ _ _ _ _ => (pg_name (i := 3) sc__law_places.nd rfl (Or.inl rfl))) (fun _ _ _ _ _ => pts_nil) (fun _ _ _ _ _ => (pe_op op_sub (pe_op op_sub (pv 1) pe_int) (pv 3)))))) pss_nil)
  (pss_cons (ps_set (i := 2) sc__law_places.nd rfl (Or.inl rfl) (pe_ix ix_list (pe_lst (pa_cons pe_int (pa_cons pe_int (pa_cons pe_int (pa_cons pe_int (pa_cons pe_int (pa_cons pe_int (pa_cons (pe_ix ix_list (pv 0) pe_int (fun _ _ => rfl)) pa_nil)))))))) (pe_ix ix_list (pv 0) pe_int (fun _ _ => rfl)) (fun _ _ => rfl)))
  (pss_one (ps_ret (pe_lc (own := [("k", 3)]) (g := gName 3) (tt := tYes) (by rfl) sc__law_places.nd (pi_range1 (by rfl) T.b_range (pa_cons (pv 2) pa_nil)) (blkOk_by (N := N__law_places) (sc := defScope s__law_places) (by decide +kernel)) (fun _ _ _ _ _ => (pg_name (i := 3) sc__law_places.nd rfl (Or.inl rfl))) (fun _ _ _ _ _ => pts_nil) (fun _ _ _ _ _ => (pe_op op_mod (pe_callTy call_int1 (by rfl) T.b_int (by decide +kernel) (pa_cons (pe_ix (ix_listK (K := K) rfl) (pv 0) (pe_op op_add pe_int (pv 3)) (fun _ _ => rfl)) pa_nil)) (pv 1))))))))), ?_⟩
  obtain ⟨x0, e0, g0, u0⟩ := dg hd (i := 0) (z := 8) rfl
  obtain ⟨x1, e1, g1, u1⟩ := dg hd (i := 1) (z := 61) rfl
  refine ⟨_, rfl, rfl, _, rfl, ite2 (fun _ => ?_) (fun c0 => ?_)⟩
  · exact ⟨Nat.zero_le _, fun r hr' => q r _ [] (same_new hr' _) upd_same (fun k hk => by cases hk) (by simp)⟩
  have hpos : 0 < many := by
    rcases Nat.eq_zero_or_pos many with h | h
    · exact absurd (by rw [h]; exact decide_eq_true rfl) c0
    · exact h
  have i0 : atI (ns.map V.int) 0 = some (.int x0) := at_pos (by decide) e0
  refine ⟨_, rfl, a, _, 0, _, rfl, rfl, SqL.of ha, i0, rfl, _, rfl, ite2 (fun _ => ?_) (fun c7 => ?_)⟩
  · refine ⟨_, rfl, (many : Int), rfl, by omega, by omega, fun D hD => ?_⟩
    refine lc_m (walk_range (lo := 0) (n := many)) RI (stb_RI (K := K)) (List.range many) (by rw [List.length_range]) (by rw [List.length_range]; omega) hD (fun _ _ => trivial) (fun _ _ _ _ => ys_fn) (fun i => ((many - 1 - i : Nat) : Int)) (fun c i x H1 H2 hc s1 s2 yl A B hA => ?_) (fun H1 l s1 hl1 rs => ?_)
    · obtain ⟨hc1, rfl⟩ := in_range hc
      rw [yl.2]
      refine ⟨rfl, lc_yes ⟨_, rfl, _, _, rfl, rfl, _, rfl, _, _, rfl, rfl, hA _ _ (fun _ _ h => h) ?_⟩⟩
      show V.int ((many : Int) - 1 - (0 + (i : Int))) = V.int ((many - 1 - i : Nat) : Int)
      congr 1
      omega
    · refine q D H1 ((List.range many).map fun i => many - 1 - i) s1 ?_ (fun k hk => ?_) (by rw [List.length_map, List.length_range]; exact hm)
      · rw [hl1, rs.ints, List.map_map, List.map_map]
        rfl
      · obtain ⟨i, hi, rfl⟩ := List.mem_map.mp hk
        omega
  have hx7 : x0 ≠ 7 := fun e => c7 (by rw [e]; exact decide_eq_true rfl)
  refine ⟨_, rfl, a, _, 1, _, rfl, rfl, SqL.of ha, at_pos (by decide) e1, line_ge (by show 7 ≤ 100000; omega), fun l5 hl5 => ?_⟩
  have s5 := same_new hl5 (.lst [.int 0, .int 1, .int 2, .int 3, .int 5, .int 8, .int x1])
  have hcnt : ∃ cn : Int, ([.int 0, .int 1, .int 2, .int 3, .int 5, .int 8, .int x1] : List V)[x0.toNat]? = some (.int cn) ∧ 0 ≤ cn ∧ cn ≤ 60 := by
    rcases (by omega : x0 = 0 ∨ x0 = 1 ∨ x0 = 2 ∨ x0 = 3 ∨ x0 = 4 ∨ x0 = 5 ∨ x0 = 6) with e | e | e | e | e | e | e <;> subst e <;> exact ⟨_, rfl, by omega, by omega⟩
  obtain ⟨cn, hcn, cn0, cn6⟩ := hcnt
  refine ⟨_, rfl, a, _, 0, _, rfl, rfl, SqL.of (s5 _ _ ha), i0, l5, _, _, _, rfl, rfl, SqL.of upd_same, at_pos g0 hcn, ?_⟩
  refine ⟨_, rfl, cn, rfl, by omega, by omega, fun D hD => ?_⟩
  have hl60 : ns.length = 62 := by rw [hd.len]; rfl
  refine lc_m (walk_range (lo := 0) (n := cn.toNat)) RI (stb_RI (K := K)) (List.range cn.toNat) (by rw [List.length_range]) (by rw [List.length_range]; omega) hD (fun _ _ => trivial) (fun _ _ _ _ => ys_fn) (fun i => ((ns.getD (2 + i) 0 % (many : Int)).toNat : Int)) (fun c i x H1 H2 hc s1 s2 yl A B hA => ?_) (fun H1 l s1 hl1 rs => ?_)
  · obtain ⟨hc1, rfl⟩ := in_range hc
    rw [yl.2]
    have ey : (ns.map V.int)[2 + i]? = some (.int (ns.getD (2 + i) 0)) := getD_at (by omega)
    refine ⟨rfl, lc_yes ⟨_, rfl, _, rfl, _, _, rfl, rfl, a, _, _, _, rfl, rfl, SqL.of (s2 _ _ (s5 _ _ ha)), at_pos (by omega) (by rw [show (2 + (0 + (i : Int))).toNat = 2 + i by omega]; exact ey), .inl ⟨_, rfl, _, rfl, _, _, rfl, rfl, (by show (0 : Int) < (many : Int); omega), hA _ _ (fun _ _ h => h) ?_⟩⟩⟩
    have := Int.emod_nonneg (ns.getD (2 + i) 0) (show (many : Int) ≠ 0 by omega)
    show V.int (ns.getD (2 + i) 0 % (many : Int)) = V.int ((ns.getD (2 + i) 0 % (many : Int)).toNat : Int)
    congr 1
    omega
  · refine q D H1 ((List.range cn.toNat).map fun i => (ns.getD (2 + i) 0 % (many : Int)).toNat) (s5.trans s1) ?_ (fun k hk => ?_) (by rw [List.length_map, List.length_range]; omega)
    · rw [hl1, rs.ints, List.map_map, List.map_map]
      rfl
    · obtain ⟨i, hi, rfl⟩ := List.mem_map.mp hk
      have h1 := Int.emod_nonneg (ns.getD (2 + i) 0) (show (many : Int) ≠ 0 by omega)
      have h2 := Int.emod_lt_of_pos (ns.getD (2 + i) 0) (show (0 : Int) < (many : Int) by omega)
      omega
def spMade (K : PySem.W.Frag) (cF cR : Addr) : Sp := fun vs H Q _ => ∃ (d : Addr) (as : Bool) (m k n : Nat) (ps : List RW) (b : Int), vs = [.ref d, .bl as] ∧ DueAt H d n ps b ∧ DOk m k n ps b ∧ m ≤ 500 ∧ k ≤ 1400 ∧ ∀ r H', Same H H' → Low K H' cF cR r n ps b → Q (.ref r) H'
abbrev s__law_made : Stmt := top 53
abbrev N__law_made : List Str := ["due", "as_lists", "passed", "handed", "rows", "k", "pair"]
theorem sc__law_made : FnScope N__law_made ["due", "as_lists"] (defScope s__law_made) := ⟨rfl, rfl, rfl, by decide +kernel, rfl, by decide +kernel, by decide +kernel⟩
theorem ok__law_made (F : Fun K "_law_made" "_law_made" s__law_made f fd) (T : Txt mg) (C_RowList : CalK P w K mg base 6 "RowList" cR 2 ["bottom"] (spRows K cF cR)) (C1_RowList : CalK1 P w K mg base 6 "RowList" cR 2 (spRows K cF cR)) : FnOk P w K mg base CX0 8 f fd ["due", "as_lists"] (spMade K cF cR) := by
  refine F.ok sc__law_made (fun vs H Q E h => ?_) (fun cdv A outer s H vs Q E hr h => ?_)
  · obtain ⟨d, as, m, k, n, ps, b, rfl, _⟩ := h
    rfl
  obtain ⟨d, as, m, k, n, ps, b, rfl, ⟨c, hd, hps⟩, hok, hm, hk, q⟩ := h
  refine ⟨_, (pss_cons (ps_if (pt_not (pt_val (pv 1))) (pss_cons (ps_set (i := 2) sc__law_made.nd rfl (Or.inl rfl) (pe_callTy call_tuple_of (by rfl) T.b_tuple (by decide +kernel) (pa_cons (pe_lc (own := [("pair", 6)]) (g := gName 6) (tt := tYes) (by rfl) sc__law_made.nd (pi_list (pe_ix ix_list (pv 0) pe_int (fun _ _ => rfl))) (blkOk_by (N := N__law_made) (sc := defScope s__law_made) (by decide +kernel)) (fun _ _ _ _ _ => (pg_name (i := 6) sc__law_made.nd rfl (Or.inl rfl))) (fun _ _ _ _ _ => pts_nil) (fun _ _ _ _ _ => (pe_tup (pa_cons (pe_callTy (call_tuple_ofK (K := K) rfl) (by rfl) T.b_tuple (by decide +kernel) (pa_cons (pe_ix (ix_listK (K := K) rfl) /-?-/ (pv 6) pe_int (fun _ _ => rfl)) pa_nil)) (pa_cons (pe_ix (ix_listK (K := K) rfl) /-?-/ (pv 6) pe_int (fun _ _ => rfl)) pa_nil))))) pa_nil)))
  (pss_one (ps_ret (pe_ifExp (pt_cmpR op_eq (pe_ix ix_list (pv 0) pe_int (fun _ _ => rfl)) pe_int (nomark _)) (pe_calK1 C1_RowList (hr.mono (by omega)) rfl (pa_cons (pe_ix ix_list (pv 0) pe_int (fun _ _ => rfl)) (pa_cons (pv 2) pa_nil))) (pe_calK C_RowList (hr.mono (by omega)) rfl (pa_cons (pe_ix ix_list (pv 0) pe_int (fun _ _ => rfl)) (pa_cons (pv 2) pa_nil)) (pk_cons (pe_ix ix_list (pv 0) pe_int (fun _ _ => rfl)) pk_nil)))))) pss_nil)
  (pss_cons (ps_setLc (i := 3) (own := [("pair", 6)]) (g := gName 6) (tt := tYes) (by rfl) sc__law_made.nd rfl rfl (sw_true rfl rfl rfl (by decide +kernel)) (pi_list (pe_ix ix_list (pv 0) pe_int (fun _ _ => rfl))) (blkOk_by (N := N__law_made) (sc := defScope s__law_made) (by decide +kernel)) (fun _ _ _ _ _ => (pg_name (i := 6) sc__law_made.nd rfl (Or.inl rfl))) (fun _ _ _ _ _ => pts_nil) (fun _ _ _ _ _ => (pe_lst (pa_cons (pe_callTy (call_list_ofK (K := K) rfl) (by rfl) T.b_list (by decide +kernel) (pa_cons (pe_ix (ix_listK (K := K) rfl) /-?-/ (pv 6) pe_int (fun _ _ => rfl)) pa_nil)) (pa_cons (pe_ix (ix_listK (K := K) rfl) /-?-/ (pv 6) pe_int (fun _ _ => rfl)) pa_nil)))))
  (pss_cons (ps_set (i := 4) sc__law_made.nd rfl (Or.inl rfl) (pe_calK C_RowList (hr.mono (by omega)) rfl (pa_cons (pe_ix ix_list (pv 0) pe_int (fun _ _ => rfl)) (pa_cons (pv 3) pa_nil)) (pk_cons (pe_ix ix_list (pv 0) pe_int (fun _ _ => rfl)) pk_nil)))
  (pss_cons (ps_for PassesOwn.never rfl (pi_range1 (by rfl) T.b_range (pa_cons (pe_callB call_len_seq (by rfl) T.b_len PySem.boot_len (pa_cons (pv 3) pa_nil)) pa_nil)) (pg_name (i := 5) sc__law_made.nd rfl (Or.inl rfl)) (pss_cons (ps_expr (pe_bm PySem.F.plainAttrs_list PySem.F.slot_list_append PySem.F.type_list_append mt_append (pe_ix ix_list /-?-/ (pe_ix ix_list (pv 3) (pv 5) (fun _ _ => rfl)) pe_int (fun _ _ => rfl)) (pa_cons pe_int pa_nil)))
  (pss_cons (ps_asg (pe_op op_add (pe_ix ix_list /-?-/ (pe_ix ix_list /-?-/ (pe_ix ix_list (pv 3) (pv 5) (fun _ _ => rfl)) pe_int (fun _ _ => rfl)) pe_int (fun _ _ => rfl)) pe_int) (pg_sub (pe_ix ix_list /-?-/ (pe_ix ix_list (pv 3) (pv 5) (fun _ _ => rfl)) pe_int (fun _ _ => rfl)) pe_int set_list))
  (pss_one (ps_asg (pe_op op_add (pe_ix ix_list /-?-/ (pe_ix ix_list (pv 3) (pv 5) (fun _ _ => rfl)) pe_int (fun _ _ => rfl)) pe_int) (pg_sub (pe_ix ix_list (pv 3) (pv 5) (fun _ _ => rfl)) pe_int set_list))))))
  (pss_one (ps_ret (pv 4))))))), ?_⟩
  have hb0 : 0 < b := hok.bot
  have hlen := hok.len
  have hn := hok.n10
  obtain ⟨ls, hc, hl, hrow⟩ := hps.at
  cases as with
  | false =>
    refine ⟨_, rfl, false, rfl, ifT rfl ?_⟩
    refine ⟨_, rfl, d, _, 1, _, rfl, rfl, SqL.of hd, at_pos (by decide) rfl, c, rfl, ⟨_, SqL.of hc⟩, fun D hD => ?_⟩
    refine lc_m (walk_list (K := K) (a := c) (xs := ls)) (Fz K) stb_Fz ps hl (by omega) hD (fun H' s => s.seq (SqL.of hc)) (fun _ _ _ _ => ys_at) tdr (fun i p x H1 H2 hb1 s1 s2 y A B hA => ?_) (fun H1 l s1 hl1 rs => ?_)
    · obtain ⟨q1, r1, hq1, hq2, hq3⟩ := hrow i p hb1
      rw [y.2] at hq1
      cases hq1
      refine ⟨rfl, lc_yes ⟨_, rfl, q1, _, 0, _, rfl, rfl, SqL.of (s2 _ _ hq2), at_pos (by decide) rfl, r1, _, rfl, .inl ⟨SqL.of (s2 _ _ hq3), fun t ht => ?_⟩⟩⟩
      have s3 := same_new ht (.tup (p.1.map V.int))
      refine ⟨_, rfl, q1, _, 1, _, rfl, rfl, SqL.of (s3 _ _ (s2 _ _ hq2)), at_pos (by decide) rfl, two_line, fun z hz => hA _ _ (s3.trans (same_new hz _)) ?_⟩
      exact .tup (SqT.of upd_same) (.cons (.tup (Same_seqT (same_new hz _) (SqT.of upd_same)) (FzAll.of_ints _)) (.cons (.int _) .nil))
    refine ⟨D, l, rfl, .inl ⟨SqL.of hl1, fun t ht => ?_⟩⟩
    have s2 := same_new ht (.tup l)
    have s12 := s1.trans s2
    have hsn : Sn K (upd H1 t (.tup l)) (.ref t) (.tup (ps.map tdr)) := .tup (SqT.of upd_same) (rs.fz.tk (WK.Same.tk s2)).sn
    have hd2 := s12 _ _ hd
    have fin : ∀ {b' : Int}, b' = b → ∀ (x dx : Addr), (upd H1 t (.tup l)) x = none → (upd H1 t (.tup l)) dx = none → dx ≠ x → spRows K cF cR [.ref x, .int (n : Int), .ref t, .int b'] (upd (upd (upd H1 t (.tup l)) dx (.own x)) x (.ins cR dx [])) (fun v H3 => v = .non ∧ Q (.ref x) H3) (fun _ _ _ => False) := fun e x dx hx hdx hne => by
      subst e
      exact ⟨x, dx, _, n, ps, _, rfl, upd_same, hsn.same (new_two hx hdx), hok.prs (by omega) hk, by omega, hb0, hok.bB.mono (by omega), fun H3 hR hbut => ⟨rfl, q x H3 (s12.trans (made_same hx hdx hbut)) hR⟩⟩
    refine ⟨_, rfl, d, _, 2, _, rfl, rfl, SqL.of hd2, at_pos (by decide) rfl, rfl, _, rfl, ?_⟩
    by_cases h1 : b = 1
    · refine ifT (int_eq h1) ?_
      exact ⟨_, rfl, d, _, 0, _, rfl, rfl, SqL.of hd2, at_pos (by decide) rfl, _, rfl, rfl, rfl, fun x dx hx hdx hne => fin h1.symm x dx hx hdx hne⟩
    · refine ifF (int_ne h1) ?_
      exact ⟨_, rfl, d, _, 0, _, rfl, rfl, SqL.of hd2, at_pos (by decide) rfl, _, rfl, _, rfl, d, _, 2, _, rfl, rfl, SqL.of hd2, at_pos (by decide) rfl, rfl, rfl, fun x dx hx hdx hne => fin rfl x dx hx hdx hne⟩
  | true =>
    refine ⟨_, rfl, true, rfl, ifF rfl ?_⟩
    refine ⟨_, rfl, d, _, 1, _, rfl, rfl, SqL.of hd, at_pos (by decide) rfl, c, rfl, ⟨_, SqL.of hc⟩, fun D hD => ?_⟩
    refine lc_gm (walk_list (K := K) (a := c) (xs := ls)) (PLN H D) stb_PLN ps hl (by omega) hD (fun H' s => s.seq (SqL.of hc)) (fun _ _ _ _ => ys_at) id (fun i p x H1 H2 hb1 s1 s2 y hdl A B hA => ?_) (fun H1 l s1 hl1 rs => ?_)
    · obtain ⟨q1, r1, hq1, hq2, hq3⟩ := hrow i p hb1
      rw [y.2] at hq1
      cases hq1
      obtain ⟨l0, hl0⟩ := hdl
      refine ⟨rfl, lc_yes ⟨_, rfl, q1, _, 0, _, rfl, rfl, SqL.of (s2 _ _ hq2), at_pos (by decide) rfl, r1, _, rfl, .inl (SqL.of (s2 _ _ hq3)), fun l2 hl2 => ?_⟩⟩
      have s3 := same_new hl2 (.lst (p.1.map V.int))
      refine ⟨_, rfl, q1, _, 1, _, rfl, rfl, SqL.of (s3 _ _ (s2 _ _ hq2)), at_pos (by decide) rfl, two_line, fun z hz2 => hA _ _ (s3.trans (same_new hz2 _)) ?_⟩
      refine ⟨z, l2, rfl, fun e => ?_, fun e => ?_, none_of (s2.trans s3) hz2, none_of s2 hl2, upd_same, ?_⟩
      · rw [e, s3 _ _ hl0] at hz2
        cases hz2
      · rw [e, hl0] at hl2
        cases hl2
      · rw [upd_ne (ne_of_none upd_same hz2), upd_same]
        rfl
    rw [List.map_id] at rs
    have hprs : PrsL H1 D ps := ⟨l, hl1, rs.1, fun i v z a b => let ⟨p, r, e, _, _, _, _, h4, h5⟩ := rs.2 i v z a b; ⟨p, r, e, h4, h5⟩⟩
    have hsn : Sn K H1 (.ref D) (.tup (ps.map tdr)) := prsl_sn hprs
    have hd1 := s1 _ _ hd
    refine ⟨_, rfl, d, _, 0, _, rfl, rfl, SqL.of hd1, at_pos (by decide) rfl, _, rfl, _, rfl, d, _, 2, _, rfl, rfl, SqL.of hd1, at_pos (by decide) rfl, rfl, rfl, fun x dx hx hdx hne => ?_⟩
    refine ⟨x, dx, _, n, ps, b, rfl, upd_same, hsn.same (new_two hx hdx), hok.prs (by omega) hk, by omega, hb0, hok.bB.mono (by omega), fun H3 hR hbut => ⟨rfl, ?_⟩⟩
    have s3 := made_same hx hdx hbut
    have s13 := s1.trans s3
    have hlD := s3 _ _ hl1
    have hHP : HP H H3 D l 10 := fun j v hv => by
      have hj : j < ps.length := by rw [← rs.1]; exact (List.getElem?_eq_some_iff.mp hv).1
      obtain ⟨p, r, e, h1, h2, h3, h4, h5, h6⟩ := rs.2 j v _ hv (List.getElem?_eq_getElem hj)
      exact ⟨p, r, _, _, e, h1, h2, h3, h4, s3 _ _ h5, s3 _ _ h6, by rw [(hok.row _ (List.getElem_mem hj)).1]; exact hn⟩
    refine ⟨_, rfl, D, l, rfl, .inl (SqL.of hlD), _, rfl, by rw [rs.1]; omega, by rw [rs.1]; omega, for_range (lo := 0) (n := ((l.length : Nat) : Int).toNat) (fun i σ H' => ∃ v5 : Option V, σ = [some (.ref d), some (.bl true), none, some (.ref D), some (.ref x), v5, none] ∧ Same H H' ∧ Low K H' cF cR x n ps b ∧ H' D = some (.lst l) ∧ HP H H' D l (10 + i)) ⟨none, rfl, s13, hR, hlD, hHP⟩ ?_ ?_⟩
    · rintro i σ H4 hi ⟨v5, rfl, s4, hR4, hD4, hP4⟩
      have hil : i < l.length := by omega
      have hlen2 := rs.1
      obtain ⟨q1, r1, w1, ns, ev, n1, n2, n3, n4, hq1, hr1, hns⟩ := hP4 i _ (List.getElem?_eq_getElem hil)
      have hx : atI l (0 + (i : Int)) = some (.ref q1) := at_pos (by omega) (by rw [show (0 + (i : Int)).toNat = i by omega, List.getElem?_eq_getElem hil, ev])
      refine ⟨_, rfl, _, rfl, D, _, _, _, rfl, rfl, SqL.of hD4, hx, q1, _, 0, _, rfl, rfl, SqL.of hq1, at_pos (by decide) rfl, .inl ⟨rfl, _, SqL.of hr1⟩, r1, _, _, rfl, rfl, hr1, small1000 (by rw [List.length_map]; omega), ?_⟩
      have eA : ns.map V.int ++ [V.int 7] = (ns ++ [7]).map V.int := by rw [List.map_append]; rfl
      rw [eA]
      have P5 := hP4.row (ns' := ns ++ [7]) (L' := 10 + (i + 1)) hr1 (by omega) (by rw [List.length_append]; simp only [List.length_cons, List.length_nil]; omega)
      have R5 := hR4.lst (l' := (ns ++ [7]).map V.int) hr1
      have S5 := same_at (o := .lst ((ns ++ [7]).map V.int)) s4 n4
      have D5 : (upd H4 r1 (.lst ((ns ++ [7]).map V.int))) D = some (.lst l) := by rw [upd_ne (Ne.symm n2)]; exact hD4
      have Q5 : (upd H4 r1 (.lst ((ns ++ [7]).map V.int))) q1 = some (.lst [.ref r1, .int w1]) := by
        have hne : q1 ≠ r1 := fun z => by
          rw [z, hr1] at hq1
          injection hq1 with hq1
          injection hq1 with hq1
          exact no_mix hq1.symm
        rw [upd_ne hne]
        exact hq1
      have r5 : (upd H4 r1 (.lst ((ns ++ [7]).map V.int))) r1 = some (.lst ((ns ++ [7]).map V.int)) := upd_same
      generalize upd H4 r1 (.lst ((ns ++ [7]).map V.int)) = H5 at P5 R5 S5 D5 Q5 r5 ⊢
      obtain ⟨y0, hy0⟩ : ∃ y0, (ns ++ [7])[0]? = some y0 := ⟨_, List.getElem?_eq_getElem (by rw [List.length_append]; simp)⟩
      refine ⟨_, rfl, _, rfl, D, _, _, _, rfl, rfl, SqL.of D5, hx, q1, _, 0, _, rfl, rfl, SqL.of Q5, at_pos (by decide) rfl, r1, _, 0, _, rfl, rfl, SqL.of r5, at_pos (by decide) (at_int hy0), _, _, rfl, rfl, ?_⟩
      refine ⟨_, rfl, _, rfl, D, _, _, _, rfl, rfl, SqL.of D5, hx, q1, _, 0, _, rfl, rfl, SqL.of Q5, at_pos (by decide) rfl, r1, _, _, 0, rfl, rfl, r5, ixN_at rfl (by rw [List.length_map, List.length_append]; simp), ?_⟩
      have eB : ((ns ++ [7]).map V.int).set 0 (.int (y0 + 1)) = ((ns ++ [7]).set 0 (y0 + 1)).map V.int := by rw [List.map_set]
      rw [eB]
      have P6 := P5.row (ns' := (ns ++ [7]).set 0 (y0 + 1)) (L' := 10 + (i + 1)) r5 (Nat.le_refl _) (by rw [List.length_set, List.length_append]; simp only [List.length_cons, List.length_nil]; omega)
      have R6 := R5.lst (l' := ((ns ++ [7]).set 0 (y0 + 1)).map V.int) r5
      have S6 := same_at (o := .lst (((ns ++ [7]).set 0 (y0 + 1)).map V.int)) S5 n4
      have D6 : (upd H5 r1 (.lst (((ns ++ [7]).set 0 (y0 + 1)).map V.int))) D = some (.lst l) := by rw [upd_ne (Ne.symm n2)]; exact D5
      have Q6 : (upd H5 r1 (.lst (((ns ++ [7]).set 0 (y0 + 1)).map V.int))) q1 = some (.lst [.ref r1, .int w1]) := by
        have hne : q1 ≠ r1 := fun z => by
          rw [z, r5] at Q5
          injection Q5 with Q5
          injection Q5 with Q5
          exact no_mix Q5.symm
        rw [upd_ne hne]
        exact Q5
      generalize upd H5 r1 (.lst (((ns ++ [7]).set 0 (y0 + 1)).map V.int)) = H6 at P6 R6 S6 D6 Q6 ⊢
      refine ⟨_, rfl, _, rfl, D, _, _, _, rfl, rfl, SqL.of D6, hx, q1, _, 1, _, rfl, rfl, SqL.of Q6, at_pos (by decide) rfl, _, _, rfl, rfl, ?_⟩
      refine ⟨_, rfl, _, rfl, D, _, _, _, rfl, rfl, SqL.of D6, hx, q1, _, _, 1, rfl, rfl, Q6, ixN_at rfl (by simp), ?_⟩
      exact ⟨_, rfl, same_at S6 n3, R6.lst Q6, by rw [upd_ne (Ne.symm n1)]; exact D6, P6.pair Q6⟩
    · rintro σ H4 ⟨v5, rfl, s4, hR4, hD4, hP4⟩
      exact ⟨_, rfl, q x H4 s4 hR4⟩
end
end P03
set_option exponentiation.threshold 3000
namespace P03
open PySem PySem.Spec PyProof.Rows L2 SX EX WK
section
variable {P : Program} {w : World} {K : PySem.W.Frag} {mg : Str → Option Value} {base : Heap} {f : Addr} {fd : FuncData} {cF cR cS cE cW cC cD cB cI cT : Addr}
def spAsk (K : PySem.W.Frag) (cF cR : Addr) : Sp := fun vs H Q _ => ∃ (p d fa pl pt : Addr) (n : Nat) (ps : List RW) (b t d2 : Int) (ks : List Nat) (x : Nat → Int), vs = [.ref p, .ref d, .ref fa, .ref pl, .ref pt] ∧ Low K H cF cR p n ps b ∧ DueAt H d n ps b ∧ DOk 60 400 n ps b ∧ SqT K H fa [.int t, .int d2] ∧ 0 < t ∧ 0 < d2 ∧ B 205 t ∧ B 205 d2 ∧
  H pl = some (.lst (ks.map fun k => V.int (k : Nat))) ∧ (∀ k ∈ ks, k < ps.length) ∧ ks.length ≤ 60 ∧ H pt = some (.lst ((vec n x).map V.int)) ∧ (∀ i, i < n → B 60 (x i)) ∧ ∀ H', Same H H' → Q (.bl true) H'
abbrev s__law_asked_again : Stmt := top 58
abbrev N__law_asked_again : List Str := ["rows", "one", "factor", "places", "point", "others", "other", "k"]
theorem sc__law_asked_again : FnScope N__law_asked_again ["rows", "one", "factor", "places", "point"] (defScope s__law_asked_again) := ⟨rfl, rfl, rfl, by decide +kernel, rfl, by decide +kernel, by decide +kernel⟩
theorem ok__law_asked_again (F : Fun K "_law_asked_again" "_law_asked_again" s__law_asked_again f fd) (T : Txt mg) (O : Obs K cF cR) (C__law_is_list : Cal P w K mg base 5 "_law_is_list" ["rows", "due", "point"] (spIsL K cF cR)) (C_mPicked : CalM P w K mg base 8 cR "picked" ["self", "indexes"] (spPicked K cF cR)) (C_mScaled : CalM P w K mg base 8 cR "scaled" ["self", "factor"] (spScaled K cF cR))
    (C__law_picked : Cal P w K mg base 1 "_law_picked" ["one", "places"] spPck) (C__law_scaled : Cal P w K mg base 1 "_law_scaled" ["one", "factor"] (spScl K)) : FnOk P w K mg base CX0 10 f fd ["rows", "one", "factor", "places", "point"] (spAsk K cF cR) := by
  refine F.ok sc__law_asked_again (fun vs H Q E h => ?_) (fun cdv A outer s H vs Q E hr h => ?_)
  · obtain ⟨p, d, fa, pl, pt, n, ps, b, t, d2, ks, x, rfl, _⟩ := h
    rfl
  obtain ⟨p, d, fa, pl, pt, n, ps, b, t, d2, ks, x, rfl, hlow, hdue, hok, hfa, ht, hd2, htB, hdB, hpl, hks, hkl, hpt, hx, q⟩ := h
  refine ⟨_, (pss_cons (ps_for PassesOwn.never rfl (pi_list (pe_lst (pa_cons (pe_lc (own := [("k", 7)]) (g := gName 7) (tt := tYes) (by rfl) sc__law_asked_again.nd (pi_range1 (by rfl) T.b_range (pa_cons (pe_callB call_len_seq (by rfl) T.b_len PySem.boot_len (pa_cons (pv 3) pa_nil)) pa_nil)) (blkOk_by (N := N__law_asked_again) (sc := defScope s__law_asked_again) (by decide +kernel)) (fun _ _ _ _ _ => (pg_name (i := 7) sc__law_asked_again.nd rfl (Or.inl rfl))) (fun _ _ _ _ _ => pts_nil) (fun _ _ _ _ _ => (pe_ix (ix_listK (K := K) rfl) (pv 3) (pe_op op_sub (pe_op op_sub (pe_callB (call_len_seqK (K := K) rfl) (by rfl) T.b_len PySem.boot_len (pa_cons (pv 3) pa_nil)) pe_int) (pv 7)) (fun _ _ => rfl)))) (pa_cons (pe_listRg rfl rfl T.b_list (prg_2 rfl T.b_range pe_int (pe_callB call_len_seq (by rfl) T.b_len PySem.boot_len (pa_cons (pe_ix ix_list (pv 1) pe_int (fun _ _ => rfl)) pa_nil)))) pa_nil)))) (pg_name (i := 5) sc__law_asked_again.nd rfl (Or.inl rfl)) (pss_one (ps_if (pt_not (pt_val (pe_cal C__law_is_list (hr.mono (by omega)) rfl (pa_cons (pe_calM O.clR C_mPicked (hr.mono (by omega)) (pv 0) (pa_cons (pe_callTy call_list_of (by rfl) T.b_list (by decide +kernel) (pa_cons (pv 5) pa_nil)) pa_nil)) (pa_cons (pe_cal C__law_picked (hr.mono (by omega)) rfl (pa_cons (pv 1) (pa_cons (pv 5) pa_nil))) (pa_cons (pv 4) pa_nil)))))) (pss_one (ps_ret pe_bl)) pss_nil)))
  (pss_cons (ps_for PassesOwn.never rfl (pi_list (pe_lst (pa_cons (pe_lst (pa_cons (pe_ix ix_tup (pv 2) pe_int (fun _ _ => rfl)) (pa_cons (pe_ix ix_tup (pv 2) pe_int (fun _ _ => rfl)) pa_nil))) (pa_cons (pe_lst (pa_cons (pe_ix ix_tup (pv 2) pe_int (fun _ _ => rfl)) (pa_cons (pe_op op_add (pe_ix ix_tup (pv 2) pe_int (fun _ _ => rfl)) (pe_ix ix_tup (pv 2) pe_int (fun _ _ => rfl))) pa_nil))) pa_nil)))) (pg_name (i := 6) sc__law_asked_again.nd rfl (Or.inl rfl)) (pss_one (ps_if (pt_not (pt_val (pe_cal C__law_is_list (hr.mono (by omega)) rfl (pa_cons (pe_calM O.clR C_mScaled (hr.mono (by omega)) (pv 0) (pa_cons (pe_callTy call_list_of (by rfl) T.b_list (by decide +kernel) (pa_cons (pv 6) pa_nil)) pa_nil)) (pa_cons (pe_cal C__law_scaled (hr.mono (by omega)) rfl (pa_cons (pv 1) (pa_cons (pv 6) pa_nil))) (pa_cons (pv 4) pa_nil)))))) (pss_one (ps_ret pe_bl)) pss_nil)))
  (pss_one (ps_ret pe_bl)))), ?_⟩
  have hlen := hok.len
  obtain ⟨c, hd, hps⟩ := id hdue
  obtain ⟨ls, hc, hl, _⟩ := hps.at
  have hN : (ks.map fun k => V.int (k : Nat)).length = ks.length := List.length_map ..
  refine ⟨_, rfl, pl, _, rfl, .inl (SqL.of hpl), _, rfl, by rw [hN]; omega, by rw [hN]; omega, fun D hD => ?_⟩
  refine lc_m (walk_range (lo := 0) (n := (((ks.map fun k => V.int (k : Nat)).length : Nat) : Int).toNat)) RI (stb_RI (K := K)) (List.range ks.length) (by rw [List.length_range, hN]; omega) (by rw [List.length_range]; omega) hD (fun _ _ => trivial) (fun _ _ _ _ => ys_fn) (fun i => ((ks.getD (ks.length - 1 - i) 0 : Nat) : Int)) (fun c2 i u H1 H2 hc2 s1 s2 yl A B hA => ?_) (fun H1 l s1 hl1 rs => ?_)
  · obtain ⟨hc1, rfl⟩ := in_range hc2
    rw [yl.2]
    have e1 : (ks.map fun k => V.int (k : Nat))[ks.length - 1 - i]? = some (.int ((ks.getD (ks.length - 1 - i) 0 : Nat) : Int)) := by
      rw [List.getElem?_map, List.getD_eq_getElem?_getD, List.getElem?_eq_getElem (by omega)]
      rfl
    refine ⟨rfl, lc_yes ⟨_, rfl, _, rfl, pl, _, rfl, .inl (SqL.of (s2 _ _ hpl)), _, _, rfl, rfl, _, rfl, _, _, rfl, rfl, pl, _, _, _, rfl, rfl, SqL.of (s2 _ _ hpl), at_pos (by rw [hN]; omega) (by rw [show ((((ks.map fun k => V.int (k : Nat)).length : Nat) : Int) - 1 - (0 + (i : Int))).toNat = ks.length - 1 - i by rw [hN]; omega]; exact e1), hA _ _ (fun _ _ h => h) rfl⟩⟩
  have hD1 : H1 D = some (.lst (((List.range ks.length).map fun i => ks.getD (ks.length - 1 - i) 0).map fun k => V.int (k : Nat))) := by
    rw [hl1, rs.ints, List.map_map, List.map_map]
    rfl
  refine ⟨_, rfl, d, _, 1, _, rfl, rfl, SqL.of (s1 _ _ hd), at_pos (by decide) rfl, c, ls, rfl, .inl (SqL.of (s1 _ _ hc)), 1, _, rfl, rfl, RgOk.of_le (by omega) (by omega) (by omega) (by omega), fun D2 hD2 => ?_⟩
  have s2 := same_new hD2 (.lst (rgV 1 ((ls.length : Nat) : Int)))
  have hD22 : (upd H1 D2 (.lst (rgV 1 ((ls.length : Nat) : Int)))) D2 = some (.lst (((List.range (ps.length - 1)).map fun i => 1 + i).map fun k => V.int (k : Nat))) := by
    rw [upd_same]
    congr 2
    unfold rgV
    rw [show (((ls.length : Nat) : Int) - 1).toNat = ps.length - 1 by omega, List.map_map]
    refine List.map_congr_left fun i _ => ?_
    show V.int (1 + (i : Int)) = V.int ((1 + i : Nat) : Int)
    congr 1
  refine ⟨two_line, fun L hL => ?_⟩
  have s3 := same_new hL (.lst [.ref D, .ref D2])
  have sA := s1.trans (s2.trans s3)
  have hDA := (s2.trans s3) _ _ hD1
  have hDB := s3 _ _ hD22
  have hLA : (upd (upd H1 D2 (.lst (rgV 1 ((ls.length : Nat) : Int)))) L (.lst [.ref D, .ref D2])) L = some (.lst [.ref D, .ref D2]) := upd_same
  generalize upd (upd H1 D2 (.lst (rgV 1 ((ls.length : Nat) : Int)))) L (.lst [.ref D, .ref D2]) = H3 at sA hDA hDB hLA ⊢
  have hboth : ∀ (i : Nat) (u : V), ([V.ref D, V.ref D2] : List V)[i]? = some u → ∃ (a : Addr) (zs : List Nat), u = .ref a ∧ H3 a = some (.lst (zs.map fun k => V.int (k : Nat))) ∧ (∀ k ∈ zs, k < ps.length) ∧ zs.length ≤ 60 := fun i u hu => by
    rcases (by have := (List.getElem?_eq_some_iff.mp hu).1; simp at this; omega : i = 0 ∨ i = 1) with e | e <;> subst e
    · cases hu
      refine ⟨D, _, rfl, hDA, fun k hk => ?_, by rw [List.length_map, List.length_range]; exact hkl⟩
      obtain ⟨i, hi, rfl⟩ := List.mem_map.mp hk
      have hi2 := List.mem_range.mp hi
      rw [List.getD_eq_getElem?_getD, List.getElem?_eq_getElem (by omega)]
      exact hks _ (List.getElem_mem _)
    · cases hu
      refine ⟨D2, _, rfl, hDB, fun k hk => ?_, by rw [List.length_map, List.length_range]; omega⟩
      obtain ⟨i, hi, rfl⟩ := List.mem_map.mp hk
      have hi2 := List.mem_range.mp hi
      omega
  refine ⟨L, rfl, ⟨_, SqL.of hLA⟩, for_list (K := K) (a := L) (xs := [.ref D, .ref D2]) (fun i σ H' => ∃ v5 : Option V, σ = [some (.ref p), some (.ref d), some (.ref fa), some (.ref pl), some (.ref pt), v5, none, none] ∧ Same H3 H') ⟨none, rfl, fun _ _ h => h⟩ (fun i σ H' _ ⟨_, _, s⟩ => SqL.of (s _ _ hLA)) ?_ ?_⟩
  · rintro i u σ H4 hu ⟨v5, rfl, s4⟩
    obtain ⟨a, zs, rfl, ha, hz1, hz2⟩ := hboth i u hu
    have s04 := sA.trans s4
    have hlow4 := hlow.same s04
    obtain ⟨dx, e, F1, hi, hzz, hF⟩ := id hlow4
    refine ⟨_, rfl, p, dx, _, rfl, hi, lkRx _ _ _ _ (by decide +kernel) (by decide +kernel) (by decide +kernel) (by decide +kernel), _, rfl, a, _, rfl, .inl (SqL.of (s4 _ _ ha)), fun l5 hl5 => ?_⟩
    have s5 := same_new hl5 (.lst (zs.map fun k => V.int (k : Nat)))
    have hok2 := hok.pick (pick_mem hz1) (m2 := 60) (by rw [List.length_map]; exact hz2)
    refine ⟨p, l5, 60, 400, n, ps, b, zs, rfl, hlow4.same s5, hok, by omega, by omega, .inl (SqL.of upd_same), hz1, by omega, fun r H6 s6 hr6 => ?_⟩
    have s56 := s5.trans s6
    have s06 := s04.trans s56
    refine ⟨_, rfl, _, rfl, d, a, 60, 400, n, ps, b, zs, rfl, hdue.same s06, hok, by omega, s56 _ _ (s4 _ _ ha), hz1, by omega, fun r7 H7 s7 hr7 => ?_⟩
    refine ⟨_, rfl, r, r7, pt, 60, 400, n, _, b, x, rfl, hr6.same s7, hr7, hok2, by omega, by omega, (s06.trans s7) _ _ hpt, hx, fun H8 s8 => ⟨true, rfl, ifF rfl ⟨_, rfl, s4.trans (s56.trans (s7.trans s8))⟩⟩⟩
  rintro σ H4 ⟨v5, rfl, s4⟩
  have s04 := sA.trans s4
  have hfa4 := Same_seqT s04 hfa
  refine ⟨_, rfl, fa, _, 1, _, rfl, rfl, hfa4, at_pos (by decide) rfl, _, rfl, fa, _, 0, _, rfl, rfl, hfa4, at_pos (by decide) rfl, two_line, fun g1 hg1 => ?_⟩
  have s5 := same_new hg1 (.lst [.int d2, .int t])
  have hfa5 := Same_seqT s5 hfa4
  refine ⟨_, rfl, fa, _, 0, _, rfl, rfl, hfa5, at_pos (by decide) rfl, _, rfl, fa, _, 0, _, rfl, rfl, hfa5, at_pos (by decide) rfl, _, rfl, fa, _, 1, _, rfl, rfl, hfa5, at_pos (by decide) rfl, _, _, rfl, rfl, two_line, fun g2 hg2 => ?_⟩
  have s6 := same_new hg2 (.lst [.int t, .int (t + d2)])
  refine ⟨two_line, fun L2 hL2 => ?_⟩
  have s7 := same_new hL2 (.lst [.ref g1, .ref g2])
  have s57 := s5.trans (s6.trans s7)
  have hgA : (upd (upd (upd H4 g1 (.lst [.int d2, .int t])) g2 (.lst [.int t, .int (t + d2)])) L2 (.lst [.ref g1, .ref g2])) g1 = some (.lst [.int d2, .int t]) := (s6.trans s7) _ _ upd_same
  have hgB : (upd (upd (upd H4 g1 (.lst [.int d2, .int t])) g2 (.lst [.int t, .int (t + d2)])) L2 (.lst [.ref g1, .ref g2])) g2 = some (.lst [.int t, .int (t + d2)]) := s7 _ _ upd_same
  have hL2A : (upd (upd (upd H4 g1 (.lst [.int d2, .int t])) g2 (.lst [.int t, .int (t + d2)])) L2 (.lst [.ref g1, .ref g2])) L2 = some (.lst [.ref g1, .ref g2]) := upd_same
  generalize upd (upd (upd H4 g1 (.lst [.int d2, .int t])) g2 (.lst [.int t, .int (t + d2)])) L2 (.lst [.ref g1, .ref g2]) = H5 at s57 hgA hgB hL2A ⊢
  have s05 := s04.trans s57
  have hfac : ∀ (i : Nat) (u : V), ([V.ref g1, V.ref g2] : List V)[i]? = some u → ∃ (a : Addr) (y z : Int), u = .ref a ∧ H5 a = some (.lst [.int y, .int z]) ∧ 0 < y ∧ 0 < z ∧ B 206 y ∧ B 206 z := fun i u hu => by
    rcases (by have := (List.getElem?_eq_some_iff.mp hu).1; simp at this; omega : i = 0 ∨ i = 1) with e | e <;> subst e
    · cases hu
      exact ⟨g1, d2, t, rfl, hgA, hd2, ht, hdB.mono (by decide), htB.mono (by decide)⟩
    · cases hu
      exact ⟨g2, t, t + d2, rfl, hgB, ht, by omega, htB.mono (by decide), htB.add hdB⟩
  refine ⟨L2, rfl, ⟨_, SqL.of hL2A⟩, for_list (K := K) (a := L2) (xs := [.ref g1, .ref g2]) (fun i σ H' => ∃ v6 : Option V, σ = [some (.ref p), some (.ref d), some (.ref fa), some (.ref pl), some (.ref pt), v5, v6, none] ∧ Same H5 H') ⟨none, rfl, fun _ _ h => h⟩ (fun i σ H' _ ⟨_, _, s⟩ => SqL.of (s _ _ hL2A)) ?_ ?_⟩
  · rintro i u σ H6 hu ⟨v6, rfl, s6⟩
    obtain ⟨a, y, z, rfl, ha, hy, hz, hyB, hzB⟩ := hfac i u hu
    have s06 := s05.trans s6
    have hlow6 := hlow.same s06
    obtain ⟨dx, e, F1, hi, hzz, hF⟩ := id hlow6
    refine ⟨_, rfl, p, dx, _, rfl, hi, lkRx _ _ _ _ (by decide +kernel) (by decide +kernel) (by decide +kernel) (by decide +kernel), _, rfl, a, _, rfl, .inl (SqL.of (s6 _ _ ha)), fun l7 hl7 => ?_⟩
    have s7 := same_new hl7 (.lst [.int y, .int z])
    have hok2 := hok.sc (t := y) (d := z) hy hz hyB hzB
    refine ⟨p, l7, 60, 400, n, ps, b, y, z, rfl, hlow6.same s7, hok, by omega, by omega, .inl (SqL.of upd_same), hy, hz, hyB.mono (by decide), hzB.mono (by decide), fun r H8 s8 hr8 => ?_⟩
    have s78 := s7.trans s8
    have s08 := s06.trans s78
    refine ⟨_, rfl, _, rfl, d, a, 60, 400, n, ps, b, y, z, rfl, hdue.same s08, hok, by omega, by omega, .inl (SqL.of (s78 _ _ (s6 _ _ ha))), hyB.mono (by decide), hzB.mono (by decide), fun r9 H9 s9 hr9 => ?_⟩
    refine ⟨_, rfl, r, r9, pt, 60, 606, n, _, _, x, rfl, hr8.same s9, hr9, hok2, by omega, by omega, (s08.trans s9) _ _ hpt, hx, fun H10 s10 => ⟨true, rfl, ifF rfl ⟨_, rfl, s6.trans (s78.trans (s9.trans s10))⟩⟩⟩
  · rintro σ H6 ⟨v6, rfl, s6⟩
    exact q H6 (s05.trans s6)
end
end P03
set_option exponentiation.threshold 3000
namespace P03
open PySem PySem.Spec PyProof.Rows L2 SX EX WK
/-! ### the law's lists as data -/
def ipy (ns : List Int) : List PyData := ns.map PyData.int
def lpy (p : RW) : PyData := .list [.list (ipy p.1), .int p.2]
def duePy (n : Nat) (ps : List RW) (b : Int) : PyData := .list [.int (n : Int), .list (ps.map lpy), .int b]
theorem ipy_lay : ∀ ns : List Int, PyData.canLayAll0 (ipy ns) = true
  | [] => by unfold ipy; rw [List.map_nil, PyData.canLayAll0]
  | n :: ns => by
    have h := ipy_lay ns
    unfold ipy at h ⊢
    rw [List.map_cons, PyData.canLayAll0, h, PyData.canLay0]
    rfl
theorem ipy_dep : ∀ ns : List Int, PyData.depthAll (ipy ns) = 0
  | [] => by unfold ipy; rw [List.map_nil, PyData.depthAll]
  | n :: ns => by
    have h := ipy_dep ns
    unfold ipy at h ⊢
    rw [List.map_cons, PyData.depthAll, h, PyData.depth]
    rfl
theorem lpy_lay : ∀ ps : List RW, PyData.canLayAll0 (ps.map lpy) = true
  | [] => by rw [List.map_nil, PyData.canLayAll0]
  | p :: ps => by
    rw [List.map_cons, PyData.canLayAll0, lpy_lay ps]
    unfold lpy
    simp [PyData.canLay0, PyData.canLayAll0, ipy_lay]
theorem lpy_dep : ∀ ps : List RW, PyData.depthAll (ps.map lpy) ≤ 2
  | [] => by rw [List.map_nil, PyData.depthAll]; omega
  | p :: ps => by
    have h := lpy_dep ps
    rw [List.map_cons, PyData.depthAll]
    have h2 : (lpy p).depth ≤ 2 := by
      unfold lpy
      simp [PyData.depth, PyData.depthAll, ipy_dep]
    omega
theorem due_shaped (n : Nat) (ps : List RW) (b : Int) : SeqAt.shaped (duePy n ps b) = true := by
  unfold SeqAt.shaped
  rw [Bool.and_eq_true]
  constructor
  · unfold duePy
    simp [PyData.canLay0, PyData.canLayAll0, lpy_lay]
  · refine decide_eq_true ?_
    have h := lpy_dep ps
    unfold duePy
    simp only [PyData.depth, PyData.depthAll]
    omega
theorem ipy_eqv : ∀ ns ms : List Int, (PyData.eqvAll (ipy ns) (ipy ms) = true ↔ ns = ms)
  | [], [] => by simp [ipy, PyData.eqvAll]
  | [], m :: ms => by simp [ipy, PyData.eqvAll]
  | n :: ns, [] => by simp [ipy, PyData.eqvAll]
  | n :: ns, m :: ms => by
    have h := ipy_eqv ns ms
    unfold ipy at h ⊢
    rw [List.map_cons, List.map_cons, PyData.eqvAll, Bool.and_eq_true, h, PyData.eqv, List.cons.injEq, beq_iff_eq]
theorem lpy_eqv (p q : RW) : (PyData.eqv (lpy p) (lpy q) = true ↔ p = q) := by
  obtain ⟨a, b⟩ := p
  obtain ⟨c, d⟩ := q
  unfold lpy
  simp only [PyData.eqv, PyData.eqvAll, Bool.and_eq_true, ipy_eqv, beq_iff_eq, Prod.mk.injEq, and_true]
theorem lpys_eqv : ∀ ps qs : List RW, (PyData.eqvAll (ps.map lpy) (qs.map lpy) = true ↔ ps = qs)
  | [], [] => by simp [PyData.eqvAll]
  | [], q :: qs => by simp [PyData.eqvAll]
  | p :: ps, [] => by simp [PyData.eqvAll]
  | p :: ps, q :: qs => by
    rw [List.map_cons, List.map_cons, PyData.eqvAll, Bool.and_eq_true, lpy_eqv, lpys_eqv ps qs, List.cons.injEq]
theorem due_eqv (n n2 : Nat) (ps os : List RW) (b c : Int) : PyData.eqv (duePy n ps b) (duePy n2 os c) = decide (n = n2 ∧ ps = os ∧ b = c) := by
  rw [Bool.eq_iff_iff, decide_eq_true_iff]
  unfold duePy
  simp only [PyData.eqv, PyData.eqvAll, Bool.and_eq_true, lpys_eqv, beq_iff_eq, and_true, Int.ofNat_inj]
theorem ints_dpl {K : PySem.W.Frag} {H : Hp} : ∀ ns : List Int, DpAll K H (ns.map V.int) (ipy ns)
  | [] => .nil
  | n :: ns => .cons (.int n) (ints_dpl ns)
theorem dpl_of {K : PySem.W.Frag} {H : Hp} : ∀ {vs : List V} {ps : List RW}, Rs PL H vs ps → DpAll K H vs (ps.map lpy)
  | [], [], _ => .nil
  | [], _ :: _, h => by have := h.1; simp at this
  | _ :: _, [], h => by have := h.1; simp at this
  | v :: vs, p :: ps, h => by
    obtain ⟨q, r, rfl, h1, h2⟩ := h.2 0 v p rfl rfl
    refine .cons (.lst (SqL.of h1) (.cons (.lst (SqL.of h2) (ints_dpl _)) (.cons (.int _) .nil))) (dpl_of ⟨by have := h.1; simp at this; exact this, fun i u z hu hz => h.2 (i + 1) u z hu hz⟩)
theorem due_dp {K : PySem.W.Frag} {H : Hp} {d : Addr} {n : Nat} {ps : List RW} {b : Int} (h : DueAt H d n ps b) : Dp K H (.ref d) (duePy n ps b) := by
  obtain ⟨c, h1, vs, h2, h3⟩ := h
  exact .lst (SqL.of h1) (.cons (.int _) (.cons (.lst (SqL.of h2) (dpl_of h3)) (.cons (.int _) .nil)))
theorem rs_rev {α : Type} {R : Hp → V → α → Prop} {H : Hp} {vs : List V} {zs : List α} (h : Rs R H vs zs) : Rs R H vs.reverse zs.reverse := by
  refine ⟨by rw [List.length_reverse, List.length_reverse]; exact h.1, fun i v z hv hz => ?_⟩
  have hi : i < vs.length := by have := (List.getElem?_eq_some_iff.mp hv).1; rw [List.length_reverse] at this; exact this
  rw [List.getElem?_reverse hi] at hv
  rw [List.getElem?_reverse (by rw [← h.1]; exact hi), ← h.1] at hz
  exact h.2 _ v z hv hz
def bump (ps : List RW) : List RW := (List.range ps.length).map fun i => ((ps.getD i ([], 0)).1, (ps.getD i ([], 0)).2 + (if decide (V.int (0 + (i : Int)) = V.int 0) = true then (1 : Int) else 0))
/-- a pair that is neither of two things -/
def PLE (D L : Addr) : Hp → V → RW → Prop := fun H v q => ∃ p r : Addr, v = .ref p ∧ p ≠ D ∧ r ≠ D ∧ p ≠ L ∧ r ≠ L ∧ H p = some (.lst [.ref r, .int q.2]) ∧ H r = some (.lst (q.1.map V.int))
theorem stb_PLE {D L : Addr} : StbD D (PLE D L) := fun _ _ _ _ _ e ⟨p, r, h1, h2, h3, h4, h5, h6, h7⟩ => ⟨p, r, h1, h2, h3, h4, h5, e _ _ h2 h6, e _ _ h3 h7⟩
theorem bump_mem {ps : List RW} {q : RW} (h : q ∈ bump ps) : ∃ p ∈ ps, q.1 = p.1 ∧ p.2 ≤ q.2 ∧ q.2 ≤ p.2 + 1 := by
  obtain ⟨i, hi, rfl⟩ := List.mem_map.mp h
  have hi2 := List.mem_range.mp hi
  have e : ps.getD i ([], 0) = ps[i] := by rw [List.getD_eq_getElem?_getD, List.getElem?_eq_getElem hi2]; rfl
  refine ⟨ps[i], List.getElem_mem hi2, by rw [e], ?_, ?_⟩
  · show ps[i].2 ≤ (ps.getD i ([], 0)).2 + _
    rw [e]
    split <;> omega
  · show (ps.getD i ([], 0)).2 + _ ≤ _
    rw [e]
    split <;> omega
theorem B.succ {k : Nat} {x y : Int} (h1 : 1 ≤ x) (h2 : x ≤ y) (h3 : y ≤ x + 1) (h : B k x) : B (k + 1) y := by
  have h4 : x.natAbs < 2 ^ k := h
  show y.natAbs < 2 ^ (k + 1)
  rw [Nat.pow_succ]
  omega
theorem DOk.bump {m k n : Nat} {ps : List RW} {b : Int} (h : DOk m k n ps b) : DOk m (k + 1) n (P03.bump ps) b := by
  refine ⟨by unfold P03.bump; rw [List.length_map, List.length_range]; exact h.len, h.n10, fun q hq => ?_, h.bot, h.bB.mono (by omega)⟩
  obtain ⟨p, hp, e1, e2, e3⟩ := bump_mem hq
  obtain ⟨h1, h2, h3, h4⟩ := h.row p hp
  exact ⟨by rw [e1]; exact h1, by omega, B.succ h2 e2 e3 h3, by rw [e1]; exact h4⟩
def EqOk (P : Program) (w : World) (K : PySem.W.Frag) (mg : Str → Option Value) (base : Heap) (cF cR : Addr) : Prop :=
  ∃ (f : Addr) (fd : FuncData), FnOk P w K mg base CX0 1 f fd ["self", "other"] (spEqR K cF cR) ∧ PySem.W.findIn K (.ref cR) "__eq__" = some (some (.ref f)) ∧ PySem.W.isFn K (.ref f) = true ∧ Binds K fd ["self", "other"] []
theorem op_eqR {X : Cx} {cF cR : Addr} (C : EqOk X.prog X.w X.K X.mg X.base cF cR) (hr : Room 1 X.A) : OpR X (compareOp .Eq) (KO.rOEq X.K cR (spEqR X.K cF cR)) := by
  obtain ⟨f, fd, F, h1, h2, b⟩ := C
  exact KO.op_oeq F h1 h2 hr b
structure NF (K : PySem.W.Frag) (cF cR : Addr) : Prop where
  nR : PySem.W.notFirst K cR (.ref cR) = true
  nF : PySem.W.notFirst K cR (.ref cF) = true
  nT : PySem.W.notFirst K cR (.type "tuple") = true
section
variable {P : Program} {w : World} {K : PySem.W.Frag} {mg : Str → Option Value} {base : Heap} {f : Addr} {fd : FuncData} {cF cR cS cE cW cC cD cB cI cT : Addr}
/-- rows == more, both lists of rows -/
theorem eq_rows {p p2 : Addr} {n n2 : Nat} {ps os : List RW} {b c : Int} {H : Hp} {Q : VK} (O : Obs K cF cR) (V0 : Frm K cF cR) (N : NF K cF cR) (h1 : RowsAt K H cF cR p n ps b) (h2 : RowsAt K H cF cR p2 n2 os c) (q : Q (.bl (decide (n = n2 ∧ ps = os ∧ b = c))) H) : KO.rOEq K cR (spEqR K cF cR) (.ref p) (.ref p2) H Q := by
  obtain ⟨dx, e, F1, hi, _⟩ := id h1
  obtain ⟨dy, e2, F2, hi2, _⟩ := id h2
  exact ⟨p, dx, _, .ref cR, rfl, hi, isRows V0 O.clR hi2, N.nR, p, .ref p2, n, ps, b, rfl, h1, .inl ⟨p2, n2, os, c, rfl, h2, ⟨_, rfl⟩, q⟩⟩
def spEqual (K : PySem.W.Frag) (cF cR : Addr) : Sp := fun vs H Q _ => ∃ (p d1 p2 d2 : Addr) (n n2 : Nat) (ps os : List RW) (b c : Int), vs = [.ref p, .ref d1, .ref p2, .ref d2] ∧ Low K H cF cR p n ps b ∧ DueAt H d1 n ps b ∧ DOk 60 400 n ps b ∧ Low K H cF cR p2 n2 os c ∧ DueAt H d2 n2 os c ∧ DOk 60 400 n2 os c ∧ ∀ H', Same H H' → Q (.bl true) H'
abbrev s__law_equal_right : Stmt := top 64
abbrev N__law_equal_right : List Str := ["rows", "one", "more", "two", "alike", "others", "other", "pair", "k"]
theorem sc__law_equal_right : FnScope N__law_equal_right ["rows", "one", "more", "two"] (defScope s__law_equal_right) := ⟨rfl, rfl, rfl, by decide +kernel, rfl, by decide +kernel, by decide +kernel⟩
theorem ok__law_equal_right (F : Fun K "_law_equal_right" "_law_equal_right" s__law_equal_right f fd) (T : Txt mg) (O : Obs K cF cR) (V0 : Frm K cF cR) (N0 : NF K cF cR) (C_eq : EqOk P w K mg base cF cR) (C__law_fields : Cal P w K mg base 2 "_law_fields" ["due"] spFlds) (C__law_says : Cal P w K mg base 1 "_law_says" ["told", "due"] spSays)
    (C__law_made : Cal P w K mg base 8 "_law_made" ["due", "as_lists"] (spMade K cF cR)) : FnOk P w K mg base CX0 10 f fd ["rows", "one", "more", "two"] (spEqual K cF cR) := by
  refine F.ok sc__law_equal_right (fun vs H Q E h => ?_) (fun cdv A outer s H vs Q E hr h => ?_)
  · obtain ⟨p, d1, p2, d2, n, n2, ps, os, b, c, rfl, _⟩ := h
    rfl
  obtain ⟨p, d1, p2, d2, n, n2, ps, os, b, c, rfl, hlow, hdue, hok, hlow2, hdue2, hok2, q⟩ := h
  refine ⟨_, (pss_cons (ps_set (i := 4) sc__law_equal_right.nd rfl (Or.inl rfl) (pe_cmpR (op_eqD hr.units) (pe_cal C__law_fields (hr.mono (by omega)) rfl (pa_cons (pv 1) pa_nil)) (pe_cal C__law_fields (hr.mono (by omega)) rfl (pa_cons (pv 3) pa_nil)) (nomark _)))
  (pss_cons (ps_if (PW.pt (pw_or (pt_not (pt_val (pe_cal C__law_says (hr.mono (by omega)) rfl (pa_cons (pe_cmpR (op_eqR C_eq (hr.mono (by omega))) (pv 0) (pv 2) (nomark _)) (pa_cons (pv 4) pa_nil))))) (pw_or1 (pt_not (pt_val (pe_cal C__law_says (hr.mono (by omega)) rfl (pa_cons (pe_cmpR (op_eqR C_eq (hr.mono (by omega))) (pv 2) (pv 0) (nomark _)) (pa_cons (pv 4) pa_nil)))))))) (pss_one (ps_ret pe_bl)) pss_nil)
  (pss_cons (ps_set (i := 5) sc__law_equal_right.nd rfl (Or.inl rfl) (pe_lst (pa_cons (pe_lst (pa_cons (pe_ix ix_list (pv 1) pe_int (fun _ _ => rfl)) (pa_cons (pe_lc (own := [("pair", 7)]) (g := gName 7) (tt := tYes) (by rfl) sc__law_equal_right.nd (pi_list (pe_ix ix_list (pv 1) pe_int (fun _ _ => rfl))) (blkOk_by (N := N__law_equal_right) (sc := defScope s__law_equal_right) (by decide +kernel)) (fun _ _ _ _ _ => (pg_name (i := 7) sc__law_equal_right.nd rfl (Or.inl rfl))) (fun _ _ _ _ _ => pts_nil) (fun _ _ _ _ _ => (pe_lst (pa_cons (pe_ix (ix_listK (K := K) rfl) /-?-/ (pv 7) pe_int (fun _ _ => rfl)) (pa_cons (pe_op op_mulW pe_int (pe_ix (ix_listK (K := K) rfl) /-?-/ (pv 7) pe_int (fun _ _ => rfl))) pa_nil))))) (pa_cons (pe_op op_mulW pe_int (pe_ix ix_list (pv 1) pe_int (fun _ _ => rfl))) pa_nil)))) (pa_cons (pe_lst (pa_cons (pe_ix ix_list (pv 1) pe_int (fun _ _ => rfl)) (pa_cons (pe_revL (pe_ix ix_list (pv 1) pe_int (fun _ _ => rfl)) /- -/) (pa_cons (pe_ix ix_list (pv 1) pe_int (fun _ _ => rfl)) pa_nil)))) pa_nil))))
  (pss_cons (ps_expr (pe_bm PySem.F.plainAttrs_list PySem.F.slot_list_append PySem.F.type_list_append mt_append (pv 5) (pa_cons (pe_lst (pa_cons (pe_ix ix_list (pv 1) pe_int (fun _ _ => rfl)) (pa_cons (pe_ix ix_list (pv 1) pe_int (fun _ _ => rfl)) (pa_cons (pe_op op_add (pe_ix ix_list (pv 1) pe_int (fun _ _ => rfl)) pe_int) pa_nil)))) pa_nil)))
  (pss_cons (ps_expr (pe_bm PySem.F.plainAttrs_list PySem.F.slot_list_append PySem.F.type_list_append mt_append (pv 5) (pa_cons (pe_lst (pa_cons (pe_ix ix_list (pv 1) pe_int (fun _ _ => rfl)) (pa_cons (pe_lc (own := [("k", 8)]) (g := gName 8) (tt := tYes) (by rfl) sc__law_equal_right.nd (pi_range1 (by rfl) T.b_range (pa_cons (pe_callB call_len_seq (by rfl) T.b_len PySem.boot_len (pa_cons (pe_ix ix_list (pv 1) pe_int (fun _ _ => rfl)) pa_nil)) pa_nil)) (blkOk_by (N := N__law_equal_right) (sc := defScope s__law_equal_right) (by decide +kernel)) (fun _ _ _ _ _ => (pg_name (i := 8) sc__law_equal_right.nd rfl (Or.inl rfl))) (fun _ _ _ _ _ => pts_nil) (fun _ _ _ _ _ => (pe_lst (pa_cons (pe_ix (ix_listK (K := K) rfl) /-?-/ (pe_ix (ix_listK (K := K) rfl) /-?-/ (pe_ix (ix_listK (K := K) rfl) (pv 1) pe_int (fun _ _ => rfl)) (pv 8) (fun _ _ => rfl)) pe_int (fun _ _ => rfl)) (pa_cons (pe_op op_add (pe_ix (ix_listK (K := K) rfl) /-?-/ (pe_ix (ix_listK (K := K) rfl) /-?-/ (pe_ix (ix_listK (K := K) rfl) (pv 1) pe_int (fun _ _ => rfl)) (pv 8) (fun _ _ => rfl)) pe_int (fun _ _ => rfl)) (pe_callTy call_int1 (by rfl) T.b_int (by decide +kernel) (pa_cons (pe_cmpR op_eq (pv 8) pe_int (nomark _)) pa_nil))) pa_nil))))) (pa_cons (pe_ix ix_list (pv 1) pe_int (fun _ _ => rfl)) pa_nil)))) pa_nil)))
  (pss_cons (ps_for PassesOwn.never rfl (pi_list (pv 5)) (pg_name (i := 6) sc__law_equal_right.nd rfl (Or.inl rfl)) (pss_one (ps_if (pt_not (pt_val (pe_cal C__law_says (hr.mono (by omega)) rfl (pa_cons (pe_cmpR (op_eqR C_eq (hr.mono (by omega))) (pv 0) (pe_cal C__law_made (hr.mono (by omega)) rfl (pa_cons (pv 6) (pa_cons pe_bl pa_nil))) (nomark _)) (pa_cons (pe_cmpR (op_eqD hr.units) (pe_cal C__law_fields (hr.mono (by omega)) rfl (pa_cons (pv 6) pa_nil)) (pe_cal C__law_fields (hr.mono (by omega)) rfl (pa_cons (pv 1) pa_nil)) (nomark _)) pa_nil))))) (pss_one (ps_ret pe_bl)) pss_nil)))
  (pss_one (ps_ret (pe_and (pe_cal C__law_says (hr.mono (by omega)) rfl (pa_cons (pe_cmpR (op_eqR C_eq (hr.mono (by omega))) (pv 0) (pe_fld (pv 0) rfl) (nomark _)) (pa_cons pe_bl pa_nil))) (pe_one (pe_cal C__law_says (hr.mono (by omega)) rfl (pa_cons (pe_cmpR (op_eqR C_eq (hr.mono (by omega))) (pv 0) (pe_fld (pv 0) rfl) (nomark _)) (pa_cons pe_bl pa_nil))))))))))))), ?_⟩
  have hb0 : 0 < b := hok.bot
  have hlen := hok.len
  have hn := hok.n10
  refine ⟨_, rfl, d1, 60, 400, n, ps, b, rfl, hdue, hok, by omega, by omega, fun r1 H1 s1 h1 => ?_⟩
  refine ⟨_, rfl, d2, 60, 400, n2, os, c, rfl, hdue2.same s1, hok2, by omega, by omega, fun r2 H2 s2 h2 => ?_⟩
  refine ⟨_, _, due_dp (h1.same s2), due_dp h2, due_shaped _ _ _, due_shaped _ _ _, ?_⟩
  rw [due_eqv]
  have s12 := s1.trans s2
  have hA := hlow.same s12
  have hB := hlow2.same s12
  refine ⟨_, rfl, _, rfl, eq_rows O V0 N0 hA hB ⟨_, rfl, _, rfl, true, rfl, ifF rfl ?_⟩⟩
  have esym : decide (n2 = n ∧ lp os c = lp ps b ∧ lb os c = lb ps b) = decide (n = n2 ∧ lp ps b = lp os c ∧ lb ps b = lb os c) := by
    rw [Bool.eq_iff_iff, decide_eq_true_iff, decide_eq_true_iff]
    exact ⟨fun e => ⟨e.1.symm, e.2.1.symm, e.2.2.symm⟩, fun e => ⟨e.1.symm, e.2.1.symm, e.2.2.symm⟩⟩
  refine ⟨_, rfl, _, rfl, eq_rows O V0 N0 hB hA ⟨_, rfl, _, by rw [esym]; rfl, true, rfl, ifF rfl ?_⟩⟩
  obtain ⟨a, hd, hps⟩ := hdue.same s12
  obtain ⟨ls, hc, hl, hrow⟩ := hps.at
  have hAd := hA
  have hdueA := hdue.same s12
  -- the first
  refine ⟨_, rfl, d1, _, 0, _, rfl, rfl, SqL.of hd, at_pos (by decide) rfl, ?_⟩
  refine ⟨_, rfl, d1, _, 1, _, rfl, rfl, SqL.of hd, at_pos (by decide) rfl, a, rfl, ⟨_, SqL.of hc⟩, fun D hD => ?_⟩
  refine lc_gm (walk_list (K := K) (a := a) (xs := ls)) (PLD D) stb_PLD ps hl (by omega) hD (fun H' s => s.seq (SqL.of hc)) (fun _ _ _ _ => ys_at) (fun p => (p.1, 6 * p.2)) (fun i p0 x H3 H4 hb1 s3 s4 y hdl A B hA => ?_) (fun H3 l s3 hlD rs => ?_)
  · obtain ⟨q1, r1, hq1, hq2, hq3⟩ := hrow i p0 hb1
    rw [y.2] at hq1
    cases hq1
    obtain ⟨l0, hl0⟩ := hdl
    refine ⟨rfl, lc_yes ⟨_, rfl, q1, _, 0, _, rfl, rfl, SqL.of (s4 _ _ hq2), at_pos (by decide) rfl, _, rfl, q1, _, 1, _, rfl, rfl, SqL.of (s4 _ _ hq2), at_pos (by decide) rfl, _, _, rfl, rfl, wmul (m := 3) (by decide) ((hok.row p0 (List.mem_of_getElem? hb1)).2.2.1) (by decide) (by decide) (by decide), two_line, fun z hz => hA _ _ (same_new hz _) ?_⟩⟩
    have zne : z ≠ D := fun e => by rw [e, hl0] at hz; cases hz
    have rne : r1 ≠ D := ne_of_none hq3 hD
    exact ⟨z, r1, rfl, zne, rne, upd_same, same_new hz _ _ _ (s4 _ _ hq3)⟩
  have hd3 := s3 _ _ hd
  have hc3 := s3 _ _ hc
  refine ⟨_, rfl, d1, _, 2, _, rfl, rfl, SqL.of hd3, at_pos (by decide) rfl, _, _, rfl, rfl, wmul (m := 3) (by decide) hok.bB (by decide) (by decide) (by decide), three_line, fun o1 ho1 => ?_⟩
  have s4 := same_new ho1 (.lst [.int (n : Int), .ref D, .int (6 * b)])
  have due1 : DueAt (upd H3 o1 (.lst [.int (n : Int), .ref D, .int (6 * b)])) o1 n (P03.sc 6 ps) (6 * b) := ⟨D, upd_same, (pld_prs hlD rs).same s4⟩
  have hd4 := s4 _ _ hd3
  have hc4 := s4 _ _ hc3
  have s24 := s3.trans s4
  generalize upd H3 o1 (.lst [.int (n : Int), .ref D, .int (6 * b)]) = H4 at due1 hd4 hc4 s24 ⊢
  -- the second
  refine ⟨_, rfl, d1, _, 0, _, rfl, rfl, SqL.of hd4, at_pos (by decide) rfl, ?_⟩
  refine ⟨_, rfl, d1, _, 1, _, rfl, rfl, SqL.of hd4, at_pos (by decide) rfl, a, _, rfl, SqL.of hc4, fun v hv => ?_⟩
  have s5 := same_new hv (.lst ls.reverse)
  refine ⟨_, rfl, d1, _, 2, _, rfl, rfl, SqL.of (s5 _ _ hd4), at_pos (by decide) rfl, three_line, fun o2 ho2 => ?_⟩
  have s6 := same_new ho2 (.lst [.int (n : Int), .ref v, .int b])
  have s46 := s5.trans s6
  have due2 : DueAt (upd (upd H4 v (.lst ls.reverse)) o2 (.lst [.int (n : Int), .ref v, .int b])) o2 n ps.reverse b := by
    obtain ⟨vs, g1, g2⟩ := hps.same (s24.trans s46)
    have e := (s24.trans s46) _ _ hc
    rw [g1] at e
    cases e
    exact ⟨v, upd_same, ls.reverse, s6 _ _ upd_same, rs_rev g2⟩
  have due1' := due1.same s46
  have s26 := s24.trans s46
  generalize upd (upd H4 v (.lst ls.reverse)) o2 (.lst [.int (n : Int), .ref v, .int b]) = H6 at due1' due2 s26 ⊢
  refine ⟨two_line, fun L hL => ?_⟩
  have s7 := same_new hL (.lst [.ref o1, .ref o2])
  have s27 := s26.trans s7
  have hLA : (upd H6 L (.lst [.ref o1, .ref o2])) L = some (.lst [.ref o1, .ref o2]) := upd_same
  have hL2 : H2 L = none := none_of s26 hL
  generalize upd H6 L (.lst [.ref o1, .ref o2]) = H7 at s7 s27 hLA ⊢
  -- the third
  have hd7 := s27 _ _ hd
  refine ⟨_, rfl, .inl ⟨rfl, _, SqL.of hLA⟩, ?_⟩
  refine ⟨_, rfl, d1, _, 0, _, rfl, rfl, SqL.of hd7, at_pos (by decide) rfl, _, rfl, d1, _, 1, _, rfl, rfl, SqL.of hd7, at_pos (by decide) rfl, _, rfl, d1, _, 2, _, rfl, rfl, SqL.of hd7, at_pos (by decide) rfl, _, _, rfl, rfl, three_line, fun o3 ho3 => ?_⟩
  have s8 := same_new ho3 (.lst [.int (n : Int), .ref a, .int (b + 1)])
  have n3 : o3 ≠ L := fun e => by rw [e, hLA] at ho3; cases ho3
  refine ⟨L, _, _, rfl, rfl, s8 _ _ hLA, small1000 (by simp), ?_⟩
  have s68 := same_at (o := .lst ([.ref o1, .ref o2] ++ [.ref o3])) (s7.trans s8) hL
  have hLB : (upd (upd H7 o3 (.lst [.int (n : Int), .ref a, .int (b + 1)])) L (.lst ([.ref o1, .ref o2] ++ [.ref o3]))) L = some (.lst [.ref o1, .ref o2, .ref o3]) := upd_same
  have h3v : (upd (upd H7 o3 (.lst [.int (n : Int), .ref a, .int (b + 1)])) L (.lst ([.ref o1, .ref o2] ++ [.ref o3]))) o3 = some (.lst [.int (n : Int), .ref a, .int (b + 1)]) := by rw [upd_ne n3, upd_same]
  generalize upd (upd H7 o3 (.lst [.int (n : Int), .ref a, .int (b + 1)])) L (.lst ([.ref o1, .ref o2] ++ [.ref o3])) = H8 at s68 hLB h3v ⊢
  -- the fourth
  have s28 := s26.trans s68
  have hd8 := s28 _ _ hd
  have hc8 := s28 _ _ hc
  refine ⟨_, rfl, .inl ⟨rfl, _, SqL.of hLB⟩, ?_⟩
  refine ⟨_, rfl, d1, _, 0, _, rfl, rfl, SqL.of hd8, at_pos (by decide) rfl, ?_⟩
  refine ⟨_, rfl, d1, _, 1, _, rfl, rfl, SqL.of hd8, at_pos (by decide) rfl, a, ls, rfl, .inl (SqL.of hc8), (ps.length : Int), by rw [hl], by omega, by omega, fun D4 hD4 => ?_⟩
  refine lc_gm (walk_range (lo := 0) (n := ((ps.length : Nat) : Int).toNat)) (PLE D4 L) stb_PLE (List.range ps.length) (by rw [List.length_range]; omega) (by rw [List.length_range]; omega) hD4 (fun _ _ => trivial) (fun _ _ _ _ => ys_fn) (fun i => ((ps.getD i ([], 0)).1, (ps.getD i ([], 0)).2 + (if decide (V.int (0 + (i : Int)) = V.int 0) = true then (1 : Int) else 0))) (fun c2 i x H9 H10 hc2 s9 s10 yl hdl A B hA => ?_) (fun H9 l4 s9 hl4 rs4 => ?_)
  · obtain ⟨hc1, rfl⟩ := in_range hc2
    rw [yl.2]
    obtain ⟨l0, hl0⟩ := hdl
    obtain ⟨p0, hp0⟩ : ∃ p0, ps[i]? = some p0 := ⟨_, List.getElem?_eq_getElem hc1⟩
    have ep : ps.getD i ([], 0) = p0 := by rw [List.getD_eq_getElem?_getD, hp0]; rfl
    rw [ep] at hA
    obtain ⟨q1, r1, hq1, hq2, hq3⟩ := hrow i p0 hp0
    have sX := s28.trans s10
    have hx : atI ls (0 + (i : Int)) = some (.ref q1) := at_pos (by omega) (by rw [show (0 + (i : Int)).toNat = i by omega]; exact hq1)
    refine ⟨rfl, lc_yes ?_⟩
    refine ⟨_, rfl, d1, _, 1, _, rfl, rfl, SqL.of (sX _ _ hd), at_pos (by decide) rfl, _, rfl, a, _, _, _, rfl, rfl, SqL.of (sX _ _ hc), hx, q1, _, 0, _, rfl, rfl, SqL.of (sX _ _ hq2), at_pos (by decide) rfl, ?_⟩
    refine ⟨_, rfl, d1, _, 1, _, rfl, rfl, SqL.of (sX _ _ hd), at_pos (by decide) rfl, _, rfl, a, _, _, _, rfl, rfl, SqL.of (sX _ _ hc), hx, q1, _, 1, _, rfl, rfl, SqL.of (sX _ _ hq2), at_pos (by decide) rfl, ?_⟩
    refine ⟨_, rfl, rfl, .inr ⟨_, rfl, _, _, rfl, rfl, two_line, fun z hz => hA _ _ (same_new hz _) ?_⟩⟩
    have zne : z ≠ D4 := fun e => by rw [e, hl0] at hz; cases hz
    have zL : z ≠ L := fun e => by rw [e, s10 _ _ hLB] at hz; cases hz
    exact ⟨z, r1, rfl, zne, ne_of_none (s28 _ _ hq3) hD4, zL, ne_of_none hq3 hL2, upd_same, same_new hz _ _ _ (sX _ _ hq3)⟩
  refine ⟨_, rfl, d1, _, 2, _, rfl, rfl, SqL.of (s9 _ _ hd8), at_pos (by decide) rfl, three_line, fun o4 ho4 => ?_⟩
  have s11 := same_new ho4 (.lst [.int (n : Int), .ref D4, .int b])
  have n4 : o4 ≠ L := fun e => by rw [e, s9 _ _ hLB] at ho4; cases ho4
  have d4 : D4 ≠ L := fun e => by rw [e, hLB] at hD4; cases hD4
  refine ⟨L, _, _, rfl, rfl, s11 _ _ (s9 _ _ hLB), small1000 (by simp), ?_⟩
  have s8C := same_at (o := .lst ([.ref o1, .ref o2, .ref o3] ++ [.ref o4])) (s68.trans (s9.trans s11)) hL
  have due4 : DueAt (upd (upd H9 o4 (.lst [.int (n : Int), .ref D4, .int b])) L (.lst ([.ref o1, .ref o2, .ref o3] ++ [.ref o4]))) o4 n (bump ps) b := by
    refine ⟨D4, by rw [upd_ne n4, upd_same], l4, by rw [upd_ne d4]; exact s11 _ _ hl4, rs4.1, fun i v z hv hz => ?_⟩
    obtain ⟨p, r, e, _, _, g1, g2, g3, g4⟩ := rs4.2 i v z hv hz
    exact ⟨p, r, e, by rw [upd_ne g1]; exact s11 _ _ g3, by rw [upd_ne g2]; exact s11 _ _ g4⟩
  have due3' : DueAt (upd (upd H9 o4 (.lst [.int (n : Int), .ref D4, .int b])) L (.lst ([.ref o1, .ref o2, .ref o3] ++ [.ref o4]))) o3 n ps (b + 1) := by
    exact ⟨a, by rw [upd_ne n3]; exact (s9.trans s11) _ _ h3v, hps.same (s26.trans s8C)⟩
  have hLC : (upd (upd H9 o4 (.lst [.int (n : Int), .ref D4, .int b])) L (.lst ([.ref o1, .ref o2, .ref o3] ++ [.ref o4]))) L = some (.lst [.ref o1, .ref o2, .ref o3, .ref o4]) := upd_same
  generalize upd (upd H9 o4 (.lst [.int (n : Int), .ref D4, .int b])) L (.lst ([.ref o1, .ref o2, .ref o3] ++ [.ref o4])) = H10 at s8C due4 due3' hLC ⊢
  have due1'' := due1'.same s8C
  have due2'' := due2.same s8C
  have s2A := s26.trans s8C
  have k1 : DOk 60 410 n (P03.sc 6 ps) (6 * b) := by
    have h := hok.sc (t := 6) (d := 6) (j := 3) (by decide) (by decide) (by decide) (by decide)
    rw [Int.mul_comm b 6] at h
    exact h.mono (Nat.le_refl _) (by omega)
  have k2 : DOk 60 410 n ps.reverse b := ⟨by rw [List.length_reverse]; exact hlen, hn, fun q hq => by
    obtain ⟨h1, h2, h3, h4⟩ := hok.row q (List.mem_reverse.mp hq)
    exact ⟨h1, h2, h3.mono (by omega), h4⟩, hok.bot, hok.bB.mono (by omega)⟩
  have k3 : DOk 60 410 n ps (b + 1) := ⟨hlen, hn, fun q hq => by
    obtain ⟨h1, h2, h3, h4⟩ := hok.row q hq
    exact ⟨h1, h2, h3.mono (by omega), h4⟩, by have := hok.bot; omega, (B.succ hok.bot (by omega) (by omega) hok.bB).mono (by omega)⟩
  have k4 : DOk 60 410 n (bump ps) b := hok.bump.mono (Nat.le_refl _) (by omega)
  have hall : ∀ (i : Nat) (u : V), ([V.ref o1, V.ref o2, V.ref o3, V.ref o4] : List V)[i]? = some u → ∃ (o : Addr) (zs : List RW) (e : Int), u = .ref o ∧ DueAt H10 o n zs e ∧ DOk 60 410 n zs e := fun i u hu => by
    rcases (by have := (List.getElem?_eq_some_iff.mp hu).1; simp at this; omega : i = 0 ∨ i = 1 ∨ i = 2 ∨ i = 3) with e | e | e | e <;> subst e <;> cases hu
    · exact ⟨o1, _, _, rfl, due1'', k1⟩
    · exact ⟨o2, _, _, rfl, due2'', k2⟩
    · exact ⟨o3, _, _, rfl, due3', k3⟩
    · exact ⟨o4, _, _, rfl, due4, k4⟩
  have hA10 := hAd.same s2A
  have hdue10 := hdueA.same s2A
  refine ⟨_, rfl, L, rfl, ⟨_, SqL.of hLC⟩, for_list (K := K) (a := L) (xs := [.ref o1, .ref o2, .ref o3, .ref o4]) (fun i σ H' => ∃ v6 : Option V, σ = [some (.ref p), some (.ref d1), some (.ref p2), some (.ref d2), some (.bl (decide (n = n2 ∧ lp ps b = lp os c ∧ lb ps b = lb os c))), some (.ref L), v6, none, none] ∧ Same H10 H') ⟨none, rfl, fun _ _ h => h⟩ (fun i σ H' _ ⟨_, _, s⟩ => SqL.of (s _ _ hLC)) ?_ ?_⟩
  · rintro i u σ H11 hu ⟨v6, rfl, s1a⟩
    obtain ⟨o, zs, e, rfl, ho, hk⟩ := hall i u hu
    have hb2 : 0 < e := hk.bot
    refine ⟨_, rfl, _, rfl, o, false, 60, 410, n, zs, e, rfl, ho.same s1a, hk, by omega, by omega, fun r H12 s2a hr2 => ?_⟩
    have sB := s1a.trans s2a
    refine eq_rows O V0 N0 (hA10.same sB) hr2 ?_
    refine ⟨_, rfl, o, 60, 410, n, zs, e, rfl, ho.same sB, hk, by omega, by omega, fun r3 H13 s3a hr3 => ?_⟩
    refine ⟨_, rfl, d1, 60, 400, n, ps, b, rfl, hdue10.same (sB.trans s3a), hok, by omega, by omega, fun r4 H14 s4a hr4 => ?_⟩
    refine ⟨_, _, due_dp (hr3.same s4a), due_dp hr4, due_shaped _ _ _, due_shaped _ _ _, decide (n = n ∧ lp ps b = lp zs e ∧ lb ps b = lb zs e), ?_, true, rfl, ifF rfl ⟨_, rfl, sB.trans (s3a.trans s4a)⟩⟩
    have e2 : decide (n = n ∧ lp zs e = lp ps b ∧ lb zs e = lb ps b) = decide (n = n ∧ lp ps b = lp zs e ∧ lb ps b = lb zs e) := by
      rw [Bool.eq_iff_iff, decide_eq_true_iff, decide_eq_true_iff]
      exact ⟨fun e => ⟨rfl, e.2.1.symm, e.2.2.symm⟩, fun e => ⟨rfl, e.2.1.symm, e.2.2.symm⟩⟩
    rw [due_eqv, e2]
    rfl
  · rintro σ H11 ⟨v6, rfl, s1a⟩
    have hA11 := hA10.same s1a
    obtain ⟨dx, e, F1, hi, hz, dF, eF, hFi, hFz⟩ := id hA11
    obtain ⟨vs, he, _⟩ := fz_all hz
    refine ⟨_, rfl, _, rfl, p, cR, dx, _, _, rfl, hi, O.clR, O.R_pairs, lkRp _ _ _ _, ?_⟩
    refine ⟨p, dx, _, .type "tuple", rfl, hi, ty_tup he, N0.nT, p, .ref e, n, _, _, rfl, hA11, .inr ⟨.type "tuple", ty_tup he, V0.kTR, ⟨_, rfl⟩, ?_⟩⟩
    refine ⟨false, rfl, true, rfl, ifT rfl ?_⟩
    refine ⟨_, rfl, _, rfl, p, cR, dx, _, _, rfl, hi, O.clR, O.R_form, lkRf _ _ _ _, ?_⟩
    refine ⟨p, dx, _, .ref cF, rfl, hi, isForm V0 O.clF hFi, N0.nF, p, .ref F1, n, _, _, rfl, hA11, .inr ⟨.ref cF, isForm V0 O.clF hFi, V0.kFR, ⟨_, rfl⟩, ?_⟩⟩
    exact ⟨false, rfl, q H11 (s12.trans (s2A.trans s1a))⟩
end
end P03
set_option exponentiation.threshold 3000
namespace P03
open PySem PySem.Spec PyProof.Rows L2 SX EX WK
def zsS : List Int := [8, 11, 61, 61, 6, 5, 5, 7, 7, 1000, 1000, 6, 8, 10 ^ (60 : Int).toNat, 10 ^ (60 : Int).toNat, 10 ^ (60 : Int).toNat]
theorem pick {cs : List Int} {d : Int} (h0 : 0 ≤ d) (h1 : d < (cs.length : Nat)) : ∃ x, x ∈ cs ∧ (cs.map V.int)[d.toNat]? = some (.int x) := by
  have hl : d.toNat < cs.length := by omega
  exact ⟨cs[d.toNat], List.getElem_mem hl, at_int (List.getElem?_eq_getElem hl)⟩
theorem p60B : ((10 : Int) ^ (60 : Int).toNat).natAbs < 2 ^ 200 := by decide +kernel
theorem p20B : B 200 (7 * 10 ^ (20 : Int).toNat) := by decide +kernel
theorem draw_step {H0 H5 H6 : Hp} {D p r : Addr} {l : List V} {ps : List RW} {q : RW} (h0 : H0 D = none) (s : Same H0 H5) (hl : H5 D = some (.lst l)) (rs : Rs (PLD D) H5 l ps) (s6 : Same H5 H6) (hp : H5 p = none) (hr : H5 r = none) (ep : H6 p = some (.lst [.ref r, .int q.2])) (er : H6 r = some (.lst (q.1.map V.int))) :
    H6 D = some (.lst l) ∧ Same H0 (upd H6 D (.lst (l ++ [.ref p]))) ∧ (upd H6 D (.lst (l ++ [.ref p]))) D = some (.lst (l ++ [.ref p])) ∧ Rs (PLD D) (upd H6 D (.lst (l ++ [.ref p]))) (l ++ [.ref p]) (ps ++ [q]) := by
  have hl6 := s6 _ _ hl
  have np : p ≠ D := fun e => by rw [e, hl] at hp; cases hp
  have nr : r ≠ D := fun e => by rw [e, hl] at hr; cases hr
  have st : ∀ b o, b ≠ D → H6 b = some o → (upd H6 D (.lst (l ++ [.ref p]))) b = some o := fun b o hb h => by rw [upd_ne hb]; exact h
  exact ⟨hl6, same_at (s.trans s6) h0, upd_same, Rs.snoc ((rs.tkD stb_PLD ⟨l, hl⟩ fun b o _ h => s6 _ _ h).tkD stb_PLD ⟨l, hl6⟩ st) (stb_PLD _ _ _ _ ⟨l, hl6⟩ st ⟨p, r, rfl, np, nr, ep, er⟩)⟩
section
variable {P : Program} {w : World} {K : PySem.W.Frag} {mg : Str → Option Value} {base : Heap} {f : Addr} {fd : FuncData}
def spTwo (K : PySem.W.Frag) : Sp := fun vs H Q _ => ∃ (a sh : Addr) (sc ns : List Int), vs = [.ref a, .ref sh] ∧ SqL K H a (sc.map V.int) ∧ H sh = some (.lst (ns.map V.int)) ∧ Dig ns zsS ∧
  ∀ (r d1 d2 : Addr) (n n2 : Nat) (ps os : List RW) (b c : Int) (H' : Hp), Same H H' → H' r = some (.lst [.ref d1, .ref d2]) → DueAt H' d1 n ps b → DOk 60 400 n ps b → DueAt H' d2 n2 os c → DOk 60 400 n2 os c → n2 ≤ n + 1 → Q (.ref r) H'
abbrev s__law_draw_two : Stmt := top 65
abbrev N__law_draw_two : List Str := ["script", "shape", "size", "many", "more", "other", "pairs", "rest", "unders", "k"]
theorem sc__law_draw_two : FnScope N__law_draw_two ["script", "shape"] (defScope s__law_draw_two) := ⟨rfl, rfl, rfl, by decide +kernel, rfl, by decide +kernel, by decide +kernel⟩
theorem ok__law_draw_two (F : Fun K "_law_draw_two" "_law_draw_two" s__law_draw_two f fd) (T : Txt mg) (C__law_draw_pair : Cal P w K mg base 3 "_law_draw_pair" ["cell", "size", "kind", "heavy"] spDpair) (C__law_cell : Cal P w K mg base 1 "_law_cell" ["script", "k"] (spCell K)) :
    FnOk P w K mg base CX0 4 f fd ["script", "shape"] (spTwo K) := by
  refine F.ok sc__law_draw_two (fun vs H Q E h => ?_) (fun cdv A outer s H vs Q E hr h => ?_)
  · obtain ⟨a, sh, sc, ns, rfl, _⟩ := h
    rfl
  obtain ⟨a, sh, sc, ns, rfl, hs, hsh, hd, q⟩ := h
  refine ⟨_, (C8.pss_cut (ps_set (i := 2) sc__law_draw_two.nd rfl (Or.inr rfl) (pe_ifExp (pt_cmpR op_eq (pe_ix ix_list (pv 1) pe_int (fun _ _ => rfl)) pe_int (nomark _)) (pe_ix ix_list (pv 1) pe_int (fun _ _ => rfl)) (pe_ix ix_list (pe_lst (pa_cons pe_int (pa_cons pe_int (pa_cons pe_int (pa_cons pe_int (pa_cons pe_int (pa_cons pe_int (pa_cons pe_int (pa_cons pe_int (pa_cons pe_int (pa_cons pe_int (pa_cons pe_int pa_nil)))))))))))) (pe_ix ix_list (pv 1) pe_int (fun _ _ => rfl)) (fun _ _ => rfl))))
  (C8.pss_cut (ps_set (i := 3) sc__law_draw_two.nd rfl (Or.inr rfl) (pe_ifExp (pt_cmpR op_ge (pe_ix ix_list (pv 1) pe_int (fun _ _ => rfl)) pe_int (nomark _)) (pe_ix ix_list (pv 1) pe_int (fun _ _ => rfl)) (pe_ix ix_list (pe_lst (pa_cons pe_int (pa_cons pe_int (pa_cons pe_int (pa_cons pe_int (pa_cons pe_int (pa_cons pe_int (pa_cons pe_int (pa_cons pe_int (pa_cons pe_int pa_nil)))))))))) (pe_op op_mod (pe_callTy call_int1 (by rfl) T.b_int (by decide +kernel) (pa_cons (pe_ix ix_list (pv 1) pe_int (fun _ _ => rfl)) pa_nil)) pe_int) (fun _ _ => rfl))))
  (C8.pss_cut (ps_set (i := 4) sc__law_draw_two.nd rfl (Or.inl rfl) (pe_ifExp (pt_cmpR op_ge (pe_ix ix_list (pv 1) pe_int (fun _ _ => rfl)) pe_int (nomark _)) (pe_op op_mod (pe_callTy call_int1 (by rfl) T.b_int (by decide +kernel) (pa_cons (pe_ix ix_list (pv 1) pe_int (fun _ _ => rfl)) pa_nil)) (pe_op op_sub pe_int (pv 3))) (pe_ix ix_list (pe_lst (pa_cons pe_int (pa_cons pe_int (pa_cons pe_int (pa_cons pe_int (pa_cons pe_int (pa_cons pe_int pa_nil))))))) (pe_op op_mod (pe_callTy call_int1 (by rfl) T.b_int (by decide +kernel) (pa_cons (pe_ix ix_list (pv 1) pe_int (fun _ _ => rfl)) pa_nil)) pe_int) (fun _ _ => rfl))))
  (pss_cons (ps_set (i := 5) sc__law_draw_two.nd rfl (Or.inr rfl) (pv 2))
  (C8.pss_cut (ps_if (pt_cmpR op_eq (pe_ix ix_list (pv 1) pe_int (fun _ _ => rfl)) pe_int (nomark _)) (pss_one (ps_set (i := 5) sc__law_draw_two.nd rfl (Or.inr rfl) (pe_ifExp (pt_cmpR op_eq (pv 2) pe_int (nomark _)) pe_int (pe_op op_add (pv 2) pe_int)))) pss_nil)
  (pss_cons (ps_setLc (i := 6) (own := [("k", 9)]) (g := gName 9) (tt := tYes) (by rfl) sc__law_draw_two.nd rfl rfl (sw_true rfl rfl rfl (by decide +kernel)) (pi_range1 (by rfl) T.b_range (pa_cons (pv 3) pa_nil)) (blkOk_by (N := N__law_draw_two) (sc := defScope s__law_draw_two) (by decide +kernel)) (fun _ _ _ _ _ => (pg_name (i := 9) sc__law_draw_two.nd rfl (Or.inl rfl))) (fun _ _ _ _ _ => pts_nil) (fun _ _ _ _ _ => (pe_cal C__law_draw_pair (hr.mono (by omega)) rfl (pa_cons (pe_cal C__law_cell (hr.mono (by omega)) rfl (pa_cons (pv 0) (pa_cons (pe_op op_add pe_int (pv 9)) pa_nil))) (pa_cons (pv 2) (pa_cons (pe_ix (ix_listK (K := K) rfl) (pv 1) pe_int (fun _ _ => rfl)) (pa_cons (pe_ix (ix_listK (K := K) rfl) (pv 1) pe_int (fun _ _ => rfl)) pa_nil)))))))
  (pss_cons (ps_setLc (i := 7) (own := [("k", 9)]) (g := gName 9) (tt := tYes) (by rfl) sc__law_draw_two.nd rfl rfl (sw_true rfl rfl rfl (by decide +kernel)) (pi_range1 (by rfl) T.b_range (pa_cons (pv 4) pa_nil)) (blkOk_by (N := N__law_draw_two) (sc := defScope s__law_draw_two) (by decide +kernel)) (fun _ _ _ _ _ => (pg_name (i := 9) sc__law_draw_two.nd rfl (Or.inl rfl))) (fun _ _ _ _ _ => pts_nil) (fun _ _ _ _ _ => (pe_cal C__law_draw_pair (hr.mono (by omega)) rfl (pa_cons (pe_cal C__law_cell (hr.mono (by omega)) rfl (pa_cons (pv 0) (pa_cons (pe_op op_add (pe_op op_add pe_int (pv 3)) (pv 9)) pa_nil))) (pa_cons (pv 5) (pa_cons (pe_ix (ix_listK (K := K) rfl) (pv 1) pe_int (fun _ _ => rfl)) (pa_cons (pe_ix (ix_listK (K := K) rfl) (pv 1) pe_int (fun _ _ => rfl)) pa_nil)))))))
  (pss_cons (ps_set (i := 8) sc__law_draw_two.nd rfl (Or.inl rfl) (pe_lst (pa_cons pe_int (pa_cons pe_int (pa_cons pe_int (pa_cons pe_int (pa_cons pe_int (pa_cons (pe_op op_mulW pe_int (pe_op op_pow pe_int pe_int)) (pa_cons (pe_op op_add pe_int (pe_ix ix_list (pv 1) pe_int (fun _ _ => rfl))) pa_nil)))))))))
  (pss_one (ps_ret (pe_lst (pa_cons (pe_lst (pa_cons (pv 2) (pa_cons (pv 6) (pa_cons (pe_ix ix_list (pv 8) (pe_ix ix_list (pv 1) pe_int (fun _ _ => rfl)) (fun _ _ => rfl)) pa_nil)))) (pa_cons (pe_lst (pa_cons (pv 5) (pa_cons (pv 7) (pa_cons (pe_ix ix_list (pv 8) (pe_ix ix_list (pv 1) pe_int (fun _ _ => rfl)) (fun _ _ => rfl)) pa_nil)))) pa_nil))))))))))))), ?_⟩
  obtain ⟨x0, e0, g0, u0⟩ := dg hd (i := 0) (z := 8) rfl
  obtain ⟨x1, e1, g1, u1⟩ := dg hd (i := 1) (z := 11) rfl
  obtain ⟨x2, e2, g2, u2⟩ := dg hd (i := 2) (z := 61) rfl
  obtain ⟨x3, e3, g3, u3⟩ := dg hd (i := 3) (z := 61) rfl
  obtain ⟨x4, e4, _, _⟩ := dg hd (i := 4) (z := 6) rfl
  obtain ⟨x5, e5, _, _⟩ := dg hd (i := 5) (z := 5) rfl
  obtain ⟨x6, e6, _, _⟩ := dg hd (i := 6) (z := 5) rfl
  obtain ⟨x7, e7, g7, u7⟩ := dg hd (i := 7) (z := 7) rfl
  obtain ⟨x8, e8, g8, u8⟩ := dg hd (i := 8) (z := 7) rfl
  obtain ⟨x12, e12, g12, u12⟩ := dg hd (i := 12) (z := 8) rfl
  obtain ⟨x13, e13, g13, u13⟩ := dg hd (i := 13) (z := 10 ^ (60 : Int).toNat) rfl
  have s0 : Same H H := fun _ _ h => h
  -- size
  refine ⟨fun σ' H' => ∃ sz : Nat, σ' = [some (.ref a), some (.ref sh), some (.int (sz : Int)), none, none, none, none, none, none, none] ∧ sz ≤ 10 ∧ Same H H', ?_, ?_⟩
  · refine ⟨_, rfl, sh, _, _, _, rfl, rfl, SqL.of (s0 _ _ hsh), at_pos (by decide) e0, ⟨rfl, _, rfl, ite2 (fun _ => ?_) (fun _ => ?_)⟩⟩
    · exact ⟨_, rfl, sh, _, _, _, rfl, rfl, SqL.of (s0 _ _ hsh), at_pos (by decide) e1, ⟨x1.toNat, by rw [show ((x1.toNat : Nat) : Int) = x1 by omega]; rfl, by omega, s0⟩⟩
    · refine ⟨line_ge (by show 11 ≤ 100000; omega), fun l hl => ?_⟩
      obtain ⟨x, hx, hp⟩ := pick (cs := [2, 3, 1, 2, 3, 4, 0, 2, 1, 3, 5]) g1 u1
      have hb : 0 ≤ x ∧ x ≤ 10 := (by decide : ∀ x ∈ ([2, 3, 1, 2, 3, 4, 0, 2, 1, 3, 5] : List Int), 0 ≤ x ∧ x ≤ 10) x hx
      exact ⟨_, rfl, sh, _, _, _, rfl, rfl, SqL.of ((same_new hl _) _ _ hsh), at_pos (by decide) e1, ⟨l, _, _, _, rfl, rfl, SqL.of upd_same, at_pos g1 hp, x.toNat, by rw [show ((x.toNat : Nat) : Int) = x by omega]; rfl, by omega, same_new hl _⟩⟩
  rintro σ H1 ⟨sz, rfl, hsz, s1⟩
  -- many
  refine ⟨fun σ' H' => ∃ mn : Nat, σ' = [some (.ref a), some (.ref sh), some (.int (sz : Int)), some (.int (mn : Int)), none, none, none, none, none, none] ∧ mn ≤ 60 ∧ Same H H', ?_, ?_⟩
  · refine ⟨_, rfl, sh, _, _, _, rfl, rfl, SqL.of (s1 _ _ hsh), at_pos (by decide) e0, ⟨_, _, rfl, rfl, _, rfl, ite2 (fun _ => ?_) (fun _ => ?_)⟩⟩
    · exact ⟨_, rfl, sh, _, _, _, rfl, rfl, SqL.of (s1 _ _ hsh), at_pos (by decide) e2, ⟨x2.toNat, by rw [show ((x2.toNat : Nat) : Int) = x2 by omega]; rfl, by omega, s1⟩⟩
    · refine ⟨line_ge (by show 9 ≤ 100000; omega), fun l hl => ?_⟩
      have t0 := md (x := x2) (m := 9) (by decide)
      obtain ⟨x, hx, hp⟩ := pick (cs := [3, 4, 2, 5, 1, 6, 0, 8, 10]) t0.1 t0.2
      have hb : 0 ≤ x ∧ x ≤ 10 := (by decide : ∀ x ∈ ([3, 4, 2, 5, 1, 6, 0, 8, 10] : List Int), 0 ≤ x ∧ x ≤ 10) x hx
      exact ⟨_, rfl, sh, _, _, _, rfl, rfl, SqL.of ((s1.trans (same_new hl _)) _ _ hsh), at_pos (by decide) e2, (.inl ⟨_, rfl, _, _, rfl, rfl, (by show (0 : Int) < 9; decide), l, _, _, _, rfl, rfl, SqL.of upd_same, at_pos t0.1 hp, x.toNat, by rw [show ((x.toNat : Nat) : Int) = x by omega]; rfl, by omega, s1.trans (same_new hl _)⟩)⟩
  rintro σ H2 ⟨mn, rfl, hmn, s2⟩
  -- more
  refine ⟨fun σ' H' => ∃ mo : Nat, σ' = [some (.ref a), some (.ref sh), some (.int (sz : Int)), some (.int (mn : Int)), some (.int (mo : Int)), none, none, none, none, none] ∧ mo ≤ 60 ∧ Same H H', ?_, ?_⟩
  · refine ⟨_, rfl, sh, _, _, _, rfl, rfl, SqL.of (s2 _ _ hsh), at_pos (by decide) e0, ⟨_, _, rfl, rfl, _, rfl, ite2 (fun _ => ?_) (fun _ => ?_)⟩⟩
    · have t0 := md (x := x3) (m := 61 - (mn : Int)) (by omega)
      exact ⟨_, rfl, sh, _, _, _, rfl, rfl, SqL.of (s2 _ _ hsh), at_pos (by decide) e3, (.inl ⟨_, rfl, _, rfl, _, _, rfl, rfl, _, _, rfl, rfl, (by show (0 : Int) < 61 - (mn : Int); omega), (x3 % (61 - (mn : Int))).toNat, by rw [show (((x3 % (61 - (mn : Int))).toNat : Nat) : Int) = x3 % (61 - (mn : Int)) by omega]; rfl, by omega, s2⟩)⟩
    · refine ⟨line_ge (by show 6 ≤ 100000; omega), fun l hl => ?_⟩
      have t0 := md (x := x3) (m := 6) (by decide)
      obtain ⟨x, hx, hp⟩ := pick (cs := [2, 3, 1, 4, 0, 5]) t0.1 t0.2
      have hb : 0 ≤ x ∧ x ≤ 10 := (by decide : ∀ x ∈ ([2, 3, 1, 4, 0, 5] : List Int), 0 ≤ x ∧ x ≤ 10) x hx
      exact ⟨_, rfl, sh, _, _, _, rfl, rfl, SqL.of ((s2.trans (same_new hl _)) _ _ hsh), at_pos (by decide) e3, (.inl ⟨_, rfl, _, _, rfl, rfl, (by show (0 : Int) < 6; decide), l, _, _, _, rfl, rfl, SqL.of upd_same, at_pos t0.1 hp, x.toNat, by rw [show ((x.toNat : Nat) : Int) = x by omega]; rfl, by omega, s2.trans (same_new hl _)⟩)⟩
  rintro σ H3 ⟨mo, rfl, hmo, s3⟩
  -- other
  refine ⟨_, rfl, ?_⟩
  refine ⟨fun σ' H' => ∃ ot : Nat, σ' = [some (.ref a), some (.ref sh), some (.int (sz : Int)), some (.int (mn : Int)), some (.int (mo : Int)), some (.int (ot : Int)), none, none, none, none] ∧ ot ≤ 10 ∧ ot ≤ sz + 1 ∧ H' = H3, ?_, ?_⟩
  · refine ⟨_, rfl, sh, _, _, _, rfl, rfl, SqL.of (s3 _ _ hsh), at_pos (by decide) e12, ⟨rfl, _, rfl, ite2 (fun _ => ?_) (fun _ => ⟨sz, rfl, hsz, by omega, rfl⟩)⟩⟩
    refine ⟨_, rfl, rfl, _, rfl, ite2 (fun c => ⟨9, rfl, by decide, ?_, rfl⟩) (fun c => ?_)⟩
    · have := V.int.inj (of_decide_eq_true c)
      omega
    · have : (sz : Int) ≠ 10 := fun e => c (decide_eq_true (by rw [e]))
      exact ⟨_, rfl, _, _, rfl, rfl, sz + 1, rfl, by omega, by omega, rfl⟩
  rintro σ H4 ⟨ot, rfl, hot, hot2, rfl⟩
  refine ⟨_, rfl, (mn : Int), rfl, by omega, by omega, fun D hD => ?_⟩
  refine ⟨fun i k H5 => k = mn - i ∧ i ≤ mn ∧ Same H4 H5 ∧ ∃ l ps, H5 D = some (.lst l) ∧ Rs (PLD D) H5 l ps ∧ ps.length = i ∧ ∀ p ∈ ps, p.1.length = sz ∧ 1 ≤ p.2 ∧ B 400 p.2 ∧ ∀ x ∈ p.1, B 60 x, ⟨_, rfl, Nat.zero_le _, same_new hD _, [], [], upd_same, Rs.nil, rfl, by simp⟩, ?_⟩
  rintro i k H5 ⟨rfl, hi, s5, l5, ps5, hl5, rs5, hp5, hb5⟩
  by_cases hlt : i < mn
  · refine .inr ⟨by show i < (mn : Int).toNat; omega, fun H5 => Same H4 H5 ∧ ∃ l ps, H5 D = some (.lst l) ∧ Rs (PLD D) H5 l ps ∧ ps.length = i + 1 ∧ ∀ p ∈ ps, p.1.length = sz ∧ 1 ≤ p.2 ∧ B 400 p.2 ∧ ∀ x ∈ p.1, B 60 x, fun H' h' => ⟨_, by omega, rfl, hlt, h'⟩, ?_⟩
    rintro x H6 ⟨rfl, rfl⟩
    have sh5 := s3.trans s5
    refine ⟨rfl, lc_yes ?_⟩
    refine ⟨_, rfl, _, rfl, _, _, rfl, rfl, a, sc, _, rfl, sh5.seq hs, by omega, by omega, fun ci => ?_⟩
    refine ⟨_, rfl, _, rfl, sh, _, _, _, rfl, rfl, SqL.of (sh5 _ _ hsh), at_pos (by decide) e4, _, rfl, sh, _, _, _, rfl, rfl, SqL.of (sh5 _ _ hsh), at_pos (by decide) e5, ?_⟩
    refine ⟨ci, _, _, sz, rfl, hsz, fun p r q0 H7 hp hr' s7 ep er h1 h2 h3 h4 => ?_⟩
    obtain ⟨w1, w2, w3, w4⟩ := draw_step hD s5 hl5 rs5 s7 hp hr' ep er
    refine ⟨_, w1, sizes (by rw [rs5.1]; omega), w2, _, _, w3, w4, by rw [List.length_append, hp5]; rfl, fun z hz => ?_⟩
    rcases List.mem_append.mp hz with hz | hz
    · exact hb5 z hz
    · rw [List.mem_singleton.mp hz]
      exact ⟨h1, h2, h3, h4⟩
  have mi : i = mn := by omega
  refine .inl ⟨by show (mn : Int).toNat ≤ i; omega, ?_⟩
  clear hlt
  generalize H5 = HB at s5 hl5 rs5 ⊢
  have s35 := s3.trans s5
  refine ⟨_, rfl, (mo : Int), rfl, by omega, by omega, fun D2 hD2 => ?_⟩
  refine ⟨fun i k HC => k = mo - i ∧ i ≤ mo ∧ Same HB HC ∧ ∃ l ps, HC D2 = some (.lst l) ∧ Rs (PLD D2) HC l ps ∧ ps.length = i ∧ ∀ p ∈ ps, p.1.length = ot ∧ 1 ≤ p.2 ∧ B 400 p.2 ∧ ∀ x ∈ p.1, B 60 x, ⟨_, rfl, Nat.zero_le _, same_new hD2 _, [], [], upd_same, Rs.nil, rfl, by simp⟩, ?_⟩
  rintro i k HC ⟨rfl, hi, t5, m5, pt5, hm5, rt5, kp5, kb5⟩
  by_cases hlt : i < mo
  · refine .inr ⟨by show i < (mo : Int).toNat; omega, fun HC => Same HB HC ∧ ∃ l ps, HC D2 = some (.lst l) ∧ Rs (PLD D2) HC l ps ∧ ps.length = i + 1 ∧ ∀ p ∈ ps, p.1.length = ot ∧ 1 ≤ p.2 ∧ B 400 p.2 ∧ ∀ x ∈ p.1, B 60 x, fun H' h' => ⟨_, by omega, rfl, hlt, h'⟩, ?_⟩
    rintro x HD ⟨rfl, rfl⟩
    have sh6 := s35.trans t5
    refine ⟨rfl, lc_yes ?_⟩
    refine ⟨_, rfl, _, rfl, _, _, rfl, rfl, _, rfl, _, _, rfl, rfl, a, sc, _, rfl, sh6.seq hs, by omega, by omega, fun ci => ?_⟩
    refine ⟨_, rfl, _, rfl, sh, _, _, _, rfl, rfl, SqL.of (sh6 _ _ hsh), at_pos (by decide) e4, _, rfl, sh, _, _, _, rfl, rfl, SqL.of (sh6 _ _ hsh), at_pos (by decide) e6, ?_⟩
    refine ⟨ci, _, _, ot, rfl, hot, fun p r q0 HE hp hr' s7 ep er h1 h2 h3 h4 => ?_⟩
    obtain ⟨w1, w2, w3, w4⟩ := draw_step hD2 t5 hm5 rt5 s7 hp hr' ep er
    refine ⟨_, w1, sizes (by rw [rt5.1]; omega), w2, _, _, w3, w4, by rw [List.length_append, kp5]; rfl, fun z hz => ?_⟩
    rcases List.mem_append.mp hz with hz | hz
    · exact kb5 z hz
    · rw [List.mem_singleton.mp hz]
      exact ⟨h1, h2, h3, h4⟩
  have oi : i = mo := by omega
  refine .inl ⟨by show (mo : Int).toNat ≤ i; omega, ?_⟩
  clear hlt
  generalize HC = HF at t5 hm5 rt5 ⊢
  have s3c := s35.trans t5
  have hsF := s3c _ _ hsh
  refine ⟨_, _, rfl, rfl, ⟨by decide, by decide, by decide⟩, _, _, rfl, rfl, wmul (m := 3) (n := 200) (by decide) (by decide +kernel) (by decide) (by decide) (by decide), _, rfl, sh, _, _, _, rfl, rfl, SqL.of hsF, at_pos (by decide) e13, _, _, rfl, rfl, line_ge (by show 7 ≤ 100000; omega), fun lu hlu => ?_⟩
  have u1 := same_new hlu (.lst [.int 1, .int 1, .int 2, .int 12, .int 30, .int (7 * 10 ^ (20 : Int).toNat), .int (1 + x13)])
  have hub : ∀ x ∈ ([1, 1, 2, 12, 30, 7 * 10 ^ (20 : Int).toNat, 1 + x13] : List Int), 1 ≤ x ∧ B 400 x := fun x hx => by
    simp only [List.mem_cons, List.not_mem_nil, or_false] at hx
    have b13 : B 200 x13 := b_of g13 u13 p60B
    rcases hx with rfl | rfl | rfl | rfl | rfl | rfl | rfl
    · decide
    · decide
    · decide
    · decide
    · decide
    · exact ⟨by decide +kernel, p20B.mono (by decide)⟩
    · exact ⟨by omega, ((by decide : B 200 (1 : Int)).add b13).mono (by decide)⟩
  obtain ⟨y7, hy7, ey7⟩ := pick (cs := [1, 1, 2, 12, 30, 7 * 10 ^ (20 : Int).toNat, 1 + x13]) g7 u7
  obtain ⟨y8, hy8, ey8⟩ := pick (cs := [1, 1, 2, 12, 30, 7 * 10 ^ (20 : Int).toNat, 1 + x13]) g8 u8
  have hluF : (upd HF lu (.lst [.int 1, .int 1, .int 2, .int 12, .int 30, .int (7 * 10 ^ (20 : Int).toNat), .int (1 + x13)])) lu = some (.lst [.int 1, .int 1, .int 2, .int 12, .int 30, .int (7 * 10 ^ (20 : Int).toNat), .int (1 + x13)]) := upd_same
  generalize upd HF lu (.lst [.int 1, .int 1, .int 2, .int 12, .int 30, .int (7 * 10 ^ (20 : Int).toNat), .int (1 + x13)]) = HG at u1 hluF ⊢
  have hsG := u1 _ _ hsF
  refine ⟨_, rfl, _, rfl, _, rfl, _, rfl, sh, _, _, _, rfl, rfl, SqL.of hsG, at_pos (by decide) e7, lu, _, _, _, rfl, rfl, SqL.of hluF, at_pos g7 ey7, three_line, fun q1 hq1 => ?_⟩
  have u2 := same_new hq1 (.lst [.int (sz : Int), .ref D, .int y7])
  refine ⟨_, rfl, _, rfl, _, rfl, _, rfl, sh, _, _, _, rfl, rfl, SqL.of (u2 _ _ hsG), at_pos (by decide) e8, lu, _, _, _, rfl, rfl, SqL.of (u2 _ _ hluF), at_pos g8 ey8, three_line, fun q2 hq2 => ?_⟩
  have u3 := same_new hq2 (.lst [.int (ot : Int), .ref D2, .int y8])
  refine ⟨two_line, fun r hr' => ?_⟩
  have u4 := same_new hr' (.lst [.ref q1, .ref q2])
  have hP : PrsL HF D ps5 := (pld_prs hl5 rs5).same t5
  have hO : PrsL HF D2 pt5 := pld_prs hm5 rt5
  have uA := u1.trans (u2.trans (u3.trans u4))
  obtain ⟨k7, k7'⟩ := hub y7 hy7
  obtain ⟨k8, k8'⟩ := hub y8 hy8
  exact q r q1 q2 sz ot ps5 pt5 y7 y8 _ (s3c.trans uA) upd_same ⟨D, (u3.trans u4) _ _ upd_same, hP.same uA⟩ ⟨by omega, hsz, hb5, k7, k7'⟩ ⟨D2, u4 _ _ upd_same, hO.same uA⟩ ⟨by omega, hot, kb5, k8, k8'⟩ hot2
end
end P03
set_option exponentiation.threshold 3000
namespace P03
open PySem PySem.Spec PyProof.Rows L2 SX EX WK
def AddOk (P : Program) (w : World) (K : PySem.W.Frag) (mg : Str → Option Value) (base : Heap) (cF cR : Addr) : Prop :=
  ∃ (f : Addr) (fd : FuncData), FnOk P w K mg base CX0 8 f fd ["self", "other"] (spAdd K cF cR) ∧ PySem.W.selfFirst K cR = true ∧ PySem.W.findIn K (.ref cR) "__add__" = some (some (.ref f)) ∧ PySem.W.isFn K (.ref f) = true ∧ Binds K fd ["self", "other"] []
theorem op_addR {X : Cx} {cF cR : Addr} (C : AddOk X.prog X.w X.K X.mg X.base cF cR) (hr : Room 8 X.A) : OpR X (binaryOp .Add) (KO.rOAdd cR (spAdd X.K cF cR) E0) := by
  obtain ⟨f, fd, F, h1, h2, h3, b⟩ := C
  exact KO.op_oadd F h1 h2 h3 hr b pass0
theorem add_rows {K : PySem.W.Frag} {cF cR p p2 : Addr} {m1 m2 k1 k2 n : Nat} {ps os : List RW} {b c : Int} {H : Hp} {Q : VK} (h1 : Low K H cF cR p n ps b) (h2 : Low K H cF cR p2 n os c) (ok1 : DOk m1 k1 n ps b) (ok2 : DOk m2 k2 n os c) (hm : m1 + m2 ≤ 1000) (hk : k1 + k2 ≤ 1400)
    (q : ∀ r H', Same H H' → Low K H' cF cR r n (P03.sc c ps ++ P03.sc b os) (b * c) → Q (.ref r) H') : KO.rOAdd cR (spAdd K cF cR) E0 (.ref p) (.ref p2) H Q := by
  obtain ⟨dx, e, F1, hi, _⟩ := id h1
  obtain ⟨dy, e2, F2, hi2, _⟩ := id h2
  exact ⟨p, dx, _, p2, dy, _, rfl, hi, rfl, hi2, p, p2, m1, m2, k1, k2, n, ps, os, b, c, rfl, h1, h2, ok1, ok2, hm, hk, fun r H' s hL => ⟨⟨r, rfl⟩, q r H' s hL⟩⟩
theorem zsS_ok : ∀ z ∈ zsS, 0 < z ∧ z.natAbs < 2 ^ 2000 := szs (by decide +kernel)
theorem zsK_ok : ∀ z ∈ zsK, 0 < z ∧ z.natAbs < 2 ^ 2000 := szs (by decide +kernel)
def fpy (s : Str) (k : Nat) : PyData := .list [.str s, .int (k : Int)]
theorem fpy_shaped (s : Str) (k : Nat) (h : PyData.canLay0 (.str s) = true) : SeqAt.shaped (fpy s k) = true := by
  unfold SeqAt.shaped fpy
  rw [Bool.and_eq_true]
  constructor
  · simp only [PyData.canLay0, PyData.canLayAll0, Bool.and_true] at h ⊢
    exact h
  · refine decide_eq_true ?_
    simp only [PyData.depth, PyData.depthAll]
    omega
theorem row_ok : PyData.canLay0 (.str "row") = true := by decide +kernel
theorem weight_ok : PyData.canLay0 (.str "weight") = true := by decide +kernel
theorem non_shaped : SeqAt.shaped .none = true := by decide +kernel
theorem ipy_shaped (ns : List Int) : SeqAt.shaped (.list (ipy ns)) = true := by
  unfold SeqAt.shaped
  rw [Bool.and_eq_true]
  constructor
  · rw [PyData.canLay0]
    exact ipy_lay ns
  · refine decide_eq_true ?_
    simp only [PyData.depth, ipy_dep]
    omega
theorem ks_ints (ks : List Nat) : (ks.map fun k => V.int (k : Nat)) = (ks.map fun k => ((k : Nat) : Int)).map V.int := by
  rw [List.map_map]
  rfl
section
variable {P : Program} {w : World} {K : PySem.W.Frag} {mg : Str → Option Value} {base : Heap} {f : Addr} {fd : FuncData} {cF cR cS cE cW cC cD cB cI cT : Addr}
def spLaw (K : PySem.W.Frag) : Sp := fun vs H Q _ => ∃ (a : Addr) (ns : List Int), vs = [.ref a] ∧ SqL K H a (ns.map V.int) ∧ ns.length ≤ 63 ∧ ∀ H', Q (.bl true) H'
abbrev s_law : Stmt := top 66
abbrev N_law : List Str := ["script", "shape", "lists", "one", "two", "line", "point", "rows", "more", "mixed", "spoilt", "share", "factor", "scaled", "places", "handed", "few", "joined", "turned", "k"]
theorem sc_law : FnScope N_law ["script"] (defScope s_law) := ⟨rfl, rfl, rfl, by decide +kernel, rfl, by decide +kernel, by decide +kernel⟩
theorem ok_law (F : Fun K "law" "law" s_law f fd) (T : Txt mg) (O : Obs K cF cR) (C_add : AddOk P w K mg base cF cR) (C_mPicked : CalM P w K mg base 8 cR "picked" ["self", "indexes"] (spPicked K cF cR)) (C_mScaled : CalM P w K mg base 8 cR "scaled" ["self", "factor"] (spScaled K cF cR))
    (C__law_digits : Cal P w K mg base 1 "_law_digits" ["cell", "sizes"] (spDigits K)) (C__law_cell : Cal P w K mg base 1 "_law_cell" ["script", "k"] (spCell K)) (C__law_draw_two : Cal P w K mg base 4 "_law_draw_two" ["script", "shape"] (spTwo K)) (C__law_draw_point : Cal P w K mg base 2 "_law_draw_point" ["cell", "size", "row"] spDpoint)
    (C__law_made : Cal P w K mg base 8 "_law_made" ["due", "as_lists"] (spMade K cF cR)) (C__law_spoilt : Cal P w K mg base 1 "_law_spoilt" ["size", "pairs", "row"] spSpoilt) (C__law_places : Cal P w K mg base 1 "_law_places" ["plan", "many"] spPlaces) (C__law_joined : Cal P w K mg base 1 "_law_joined" ["one", "two"] spJoin)
    (C__law_is_list : Cal P w K mg base 5 "_law_is_list" ["rows", "due", "point"] (spIsL K cF cR)) (C__law_asked_again : Cal P w K mg base 10 "_law_asked_again" ["rows", "one", "factor", "places", "point"] (spAsk K cF cR)) (C__law_scaled : Cal P w K mg base 1 "_law_scaled" ["one", "factor"] (spScl K)) (C__law_raised : Cal P w K mg base 10 "_law_raised" ["size", "pairs", "under"] spRaised)
    (C__law_fault : Cal P w K mg base 1 "_law_fault" ["size", "pairs"] spFault) (C__law_equal_right : Cal P w K mg base 10 "_law_equal_right" ["rows", "one", "more", "two"] (spEqual K cF cR)) (C__law_picked : Cal P w K mg base 1 "_law_picked" ["one", "places"] spPck) (C__law_caught : Cal P w K mg base 10 "_law_caught" ["one", "two"] (spCaught K cF cR)) (C__law_told_sizes : Cal P w K mg base 10 "_law_told_sizes" ["one", "two"] (spTold K cF cR)) :
    FnOk P w K mg base CX0 12 f fd ["script"] (spLaw K) := by
  refine F.ok sc_law (fun vs H Q E h => ?_) (fun cdv A outer s H vs Q E hr h => ?_)
  · obtain ⟨a, sc, rfl, _⟩ := h
    rfl
  obtain ⟨a, sc, rfl, hs, hlen0, q⟩ := h
  refine ⟨_, (pss_cons (ps_set (i := 1) sc_law.nd rfl (Or.inl rfl) (pe_cal C__law_digits (hr.mono (by omega)) rfl (pa_cons (pe_cal C__law_cell (hr.mono (by omega)) rfl (pa_cons (pv 0) (pa_cons pe_int pa_nil))) (pa_cons (pe_op op_cat (pe_lst (pa_cons pe_int (pa_cons pe_int (pa_cons pe_int (pa_cons pe_int (pa_cons pe_int (pa_cons pe_int (pa_cons pe_int (pa_cons pe_int (pa_cons pe_int (pa_cons pe_int (pa_cons pe_int (pa_cons pe_int (pa_cons pe_int pa_nil)))))))))))))) (pe_op op_rep (pe_lst (pa_cons (pe_op op_pow pe_int pe_int) pa_nil)) pe_int)) pa_nil))))
  (pss_cons (ps_set (i := 2) sc_law.nd rfl (Or.inl rfl) (pe_cal C__law_draw_two (hr.mono (by omega)) rfl (pa_cons (pv 0) (pa_cons (pv 1) pa_nil))))
  (pss_cons (ps_set (i := 3) sc_law.nd rfl (Or.inl rfl) (pe_ix ix_list (pv 2) pe_int (fun _ _ => rfl)))
  (pss_cons (ps_set (i := 4) sc_law.nd rfl (Or.inl rfl) (pe_ix ix_list (pv 2) pe_int (fun _ _ => rfl)))
  (C8.pss_cut (ps_set (i := 5) sc_law.nd rfl (Or.inl rfl) (pe_ifExp (pt_cmpR op_gt (pe_callB call_len_seq (by rfl) T.b_len PySem.boot_len (pa_cons (pe_ix ix_list /-?-/ (pv 3) pe_int (fun _ _ => rfl)) pa_nil)) pe_int (nomark _)) (pe_ix ix_list /-?-/ (pe_ix ix_list /-?-/ (pe_ix ix_list /-?-/ (pv 3) pe_int (fun _ _ => rfl)) pe_int (fun _ _ => rfl)) pe_int (fun _ _ => rfl)) (pe_lc (own := [("k", 19)]) (g := gName 19) (tt := tYes) (by rfl) sc_law.nd (pi_range1 (by rfl) T.b_range (pa_cons (pe_ix ix_list /-?-/ (pv 3) pe_int (fun _ _ => rfl)) pa_nil)) (blkOk_by (N := N_law) (sc := defScope s_law) (by decide +kernel)) (fun _ _ _ _ _ => (pg_name (i := 19) sc_law.nd rfl (Or.inl rfl))) (fun _ _ _ _ _ => pts_nil) (fun _ _ _ _ _ => pe_int))))
  (pss_cons (ps_set (i := 6) sc_law.nd rfl (Or.inl rfl) (pe_cal C__law_draw_point (hr.mono (by omega)) rfl (pa_cons (pe_cal C__law_cell (hr.mono (by omega)) rfl (pa_cons (pv 0) (pa_cons pe_int pa_nil))) (pa_cons (pe_ix ix_list /-?-/ (pv 3) pe_int (fun _ _ => rfl)) (pa_cons (pv 5) pa_nil)))))
  (pss_cons (ps_set (i := 7) sc_law.nd rfl (Or.inl rfl) (pe_cal C__law_made (hr.mono (by omega)) rfl (pa_cons (pv 3) (pa_cons (pe_cmpR op_lt (pe_ix ix_list (pv 1) pe_int (fun _ _ => rfl)) pe_int (nomark _)) pa_nil))))
  (pss_cons (ps_set (i := 8) sc_law.nd rfl (Or.inl rfl) (pe_cal C__law_made (hr.mono (by omega)) rfl (pa_cons (pv 4) (pa_cons (pe_cmpR op_ge (pe_ix ix_list (pv 1) pe_int (fun _ _ => rfl)) pe_int (nomark _)) pa_nil))))
  (pss_cons (ps_if (PW.pt (pw_or (pt_not (pt_val (pe_cal C__law_is_list (hr.mono (by omega)) rfl (pa_cons (pv 7) (pa_cons (pv 3) (pa_cons (pv 6) pa_nil)))))) (pw_or1 (pt_not (pt_val (pe_cal C__law_is_list (hr.mono (by omega)) rfl (pa_cons (pv 8) (pa_cons (pv 4) (pa_cons (pe_slice sl_list (pe_op op_cat (pv 6) (pe_lst (pa_cons pe_int pa_nil))) po_none (po_some (pe_ix ix_list /-?-/ (pv 4) pe_int (fun _ _ => rfl)))) pa_nil))))))))) (pss_one (ps_ret pe_bl)) pss_nil)
  (pss_cons (ps_set (i := 9) sc_law.nd rfl (Or.inl rfl) (pe_op op_mod (pe_callTy call_int1 (by rfl) T.b_int (by decide +kernel) (pa_cons (pe_cal C__law_cell (hr.mono (by omega)) rfl (pa_cons (pv 0) (pa_cons pe_int pa_nil))) pa_nil)) pe_int))
  (pss_cons (ps_set (i := 10) sc_law.nd rfl (Or.inl rfl) (pe_cal C__law_spoilt (hr.mono (by omega)) rfl (pa_cons (pe_ix ix_list /-?-/ (pv 3) pe_int (fun _ _ => rfl)) (pa_cons (pe_ix ix_list /-?-/ (pv 3) pe_int (fun _ _ => rfl)) (pa_cons (pe_cal C__law_digits (hr.mono (by omega)) rfl (pa_cons (pv 9) (pa_cons (pe_lst (pa_cons pe_int (pa_cons pe_int (pa_cons pe_int (pa_cons pe_int (pa_cons pe_int pa_nil)))))) pa_nil))) pa_nil)))))
  (C8.pss_cut (ps_if (PW.pt (pw_or (pt_cmpR (op_neD hr.units) (pe_cal C__law_raised (hr.mono (by omega)) rfl (pa_cons (pe_ix ix_list /-?-/ (pv 3) pe_int (fun _ _ => rfl)) (pa_cons (pv 10) (pa_cons (pe_ix ix_list /-?-/ (pv 3) pe_int (fun _ _ => rfl)) pa_nil)))) (pe_cal C__law_fault (hr.mono (by omega)) rfl (pa_cons (pe_ix ix_list /-?-/ (pv 3) pe_int (fun _ _ => rfl)) (pa_cons (pv 10) pa_nil))) (nomark _)) (pw_or1 (pt_not (pt_val (pe_cal C__law_equal_right (hr.mono (by omega)) rfl (pa_cons (pv 7) (pa_cons (pv 3) (pa_cons (pv 8) (pa_cons (pv 4) pa_nil)))))))))) (pss_one (ps_ret pe_bl)) pss_nil)
  (pss_cons (ps_set (i := 11) sc_law.nd rfl (Or.inl rfl) (pe_ix ix_list (pe_lst (pa_cons pe_int (pa_cons pe_int (pa_cons pe_int (pa_cons pe_int (pa_cons pe_int (pa_cons (pe_op op_pow pe_int pe_int) pa_nil))))))) (pe_ix ix_list (pv 1) pe_int (fun _ _ => rfl)) (fun _ _ => rfl)))
  (pss_cons (ps_set (i := 12) sc_law.nd rfl (Or.inl rfl) (pe_tup (pa_cons (pe_op op_mulW (pe_op op_add pe_int (pe_ix ix_list (pv 1) pe_int (fun _ _ => rfl))) (pv 11)) (pa_cons (pe_op op_mulW (pe_op op_add pe_int (pe_ix ix_list (pv 1) pe_int (fun _ _ => rfl))) (pv 11)) pa_nil))))
  (C8.pss_cut (ps_if (pt_cmpR op_eq (pe_ix ix_list (pv 1) pe_int (fun _ _ => rfl)) pe_int (nomark _)) (pss_one (ps_set (i := 12) sc_law.nd rfl (Or.inl rfl) (pe_tup (pa_cons (pe_op op_add pe_int (pe_ix ix_list (pv 1) pe_int (fun _ _ => rfl))) (pa_cons (pe_op op_add pe_int (pe_ix ix_list (pv 1) pe_int (fun _ _ => rfl))) pa_nil))))) pss_nil)
  (pss_cons (ps_set (i := 13) sc_law.nd rfl (Or.inl rfl) (pe_calM O.clR C_mScaled (hr.mono (by omega)) (pv 7) (pa_cons (pv 12) pa_nil)))
  (pss_cons (ps_if (pt_not (pt_val (pe_cal C__law_is_list (hr.mono (by omega)) rfl (pa_cons (pv 13) (pa_cons (pe_cal C__law_scaled (hr.mono (by omega)) rfl (pa_cons (pv 3) (pa_cons (pv 12) pa_nil))) (pa_cons (pv 6) pa_nil)))))) (pss_one (ps_ret pe_bl)) pss_nil)
  (pss_cons (ps_set (i := 14) sc_law.nd rfl (Or.inl rfl) (pe_cal C__law_places (hr.mono (by omega)) rfl (pa_cons (pe_cal C__law_digits (hr.mono (by omega)) rfl (pa_cons (pe_cal C__law_cell (hr.mono (by omega)) rfl (pa_cons (pv 0) (pa_cons pe_int pa_nil))) (pa_cons (pe_op op_cat (pe_lst (pa_cons pe_int (pa_cons pe_int pa_nil))) (pe_op op_rep (pe_lst (pa_cons pe_int pa_nil)) pe_int)) pa_nil))) (pa_cons (pe_callB call_len_seq (by rfl) T.b_len PySem.boot_len (pa_cons (pe_ix ix_list /-?-/ (pv 3) pe_int (fun _ _ => rfl)) pa_nil)) pa_nil))))
  (pss_cons (ps_set (i := 15) sc_law.nd rfl (Or.inl rfl) (pe_callTy call_list_of (by rfl) T.b_list (by decide +kernel) (pa_cons (pv 14) pa_nil)))
  (pss_cons (ps_if (pt_not (pt_val (pe_cal C__law_is_list (hr.mono (by omega)) rfl (pa_cons (pe_calM O.clR C_mPicked (hr.mono (by omega)) (pv 13) (pa_cons (pv 15) pa_nil)) (pa_cons (pe_cal C__law_picked (hr.mono (by omega)) rfl (pa_cons (pe_cal C__law_scaled (hr.mono (by omega)) rfl (pa_cons (pv 3) (pa_cons (pv 12) pa_nil))) (pa_cons (pv 14) pa_nil))) (pa_cons (pv 6) pa_nil)))))) (pss_one (ps_ret pe_bl)) pss_nil)
  (pss_cons (ps_set (i := 16) sc_law.nd rfl (Or.inl rfl) (pe_calM O.clR C_mPicked (hr.mono (by omega)) (pv 7) (pa_cons (pe_callTy call_tuple_of (by rfl) T.b_tuple (by decide +kernel) (pa_cons (pv 14) pa_nil)) pa_nil)))
  (pss_cons (ps_if (PW.pt (pw_or (pt_cmpR (op_neD hr.units) (pv 15) (pv 14) (nomark _)) (pw_or1 (pt_not (pt_val (pe_cal C__law_is_list (hr.mono (by omega)) rfl (pa_cons (pv 16) (pa_cons (pe_cal C__law_picked (hr.mono (by omega)) rfl (pa_cons (pv 3) (pa_cons (pv 14) pa_nil))) (pa_cons (pv 6) pa_nil))))))))) (pss_one (ps_ret pe_bl)) pss_nil)
  (pss_cons (ps_if (pt_not (pt_val (pe_cal C__law_asked_again (hr.mono (by omega)) rfl (pa_cons (pv 7) (pa_cons (pv 3) (pa_cons (pv 12) (pa_cons (pv 14) (pa_cons (pv 6) pa_nil)))))))) (pss_one (ps_ret pe_bl)) pss_nil)
  (pss_cons (ps_if (PW.pt (pw_or (pt_not (pt_val (pe_cal C__law_is_list (hr.mono (by omega)) rfl (pa_cons (pv 13) (pa_cons (pe_cal C__law_scaled (hr.mono (by omega)) rfl (pa_cons (pv 3) (pa_cons (pv 12) pa_nil))) (pa_cons (pv 6) pa_nil)))))) (pw_or1 (pt_not (pt_val (pe_cal C__law_is_list (hr.mono (by omega)) rfl (pa_cons (pv 16) (pa_cons (pe_cal C__law_picked (hr.mono (by omega)) rfl (pa_cons (pv 3) (pa_cons (pv 14) pa_nil))) (pa_cons (pv 6) pa_nil))))))))) (pss_one (ps_ret pe_bl)) pss_nil)
  (pss_cons (ps_if (pt_cmpR op_ne (pe_ix ix_list /-?-/ (pv 3) pe_int (fun _ _ => rfl)) (pe_ix ix_list /-?-/ (pv 4) pe_int (fun _ _ => rfl)) (nomark _)) (pss_cons (ps_if (PW.pt (pw_or (pt_cmpR (op_neD hr.units) (pe_cal C__law_told_sizes (hr.mono (by omega)) rfl (pa_cons (pv 7) (pa_cons (pv 8) pa_nil))) (pe_lst (pa_cons (pe_ix ix_list /-?-/ (pv 3) pe_int (fun _ _ => rfl)) (pa_cons (pe_ix ix_list /-?-/ (pv 4) pe_int (fun _ _ => rfl)) pa_nil))) (nomark _)) (pw_or1 (pt_cmpR (op_neD hr.units) (pe_cal C__law_told_sizes (hr.mono (by omega)) rfl (pa_cons (pv 8) (pa_cons (pv 7) pa_nil))) (pe_lst (pa_cons (pe_ix ix_list /-?-/ (pv 4) pe_int (fun _ _ => rfl)) (pa_cons (pe_ix ix_list /-?-/ (pv 3) pe_int (fun _ _ => rfl)) pa_nil))) (nomark _))))) (pss_one (ps_ret pe_bl)) pss_nil)
  (pss_one (ps_ret (pe_and (pe_cal C__law_caught (hr.mono (by omega)) rfl (pa_cons (pv 7) (pa_cons (pv 8) pa_nil))) (pe_one (pe_cal C__law_is_list (hr.mono (by omega)) rfl (pa_cons (pv 7) (pa_cons (pv 3) (pa_cons (pv 6) pa_nil))))))))) pss_nil)
  (pss_cons (ps_set (i := 17) sc_law.nd rfl (Or.inl rfl) (pe_op (op_addR C_add (hr.mono (by omega))) (pv 7) (pv 8)))
  (pss_cons (ps_if (pt_not (pt_val (pe_cal C__law_is_list (hr.mono (by omega)) rfl (pa_cons (pv 17) (pa_cons (pe_cal C__law_joined (hr.mono (by omega)) rfl (pa_cons (pv 3) (pa_cons (pv 4) pa_nil))) (pa_cons (pv 6) pa_nil)))))) (pss_one (ps_ret pe_bl)) pss_nil)
  (C8.pss_cut (ps_if (PW.pt (pw_and (pt_cmpR op_le (pe_callB call_len_seq (by rfl) T.b_len PySem.boot_len (pa_cons (pe_ix ix_list /-?-/ (pv 3) pe_int (fun _ _ => rfl)) pa_nil)) pe_int (nomark _)) (pw_and1 (pt_not (pt_val (pe_cal C__law_is_list (hr.mono (by omega)) rfl (pa_cons (pe_op (op_addR C_add (hr.mono (by omega))) (pv 7) (pv 7)) (pa_cons (pe_cal C__law_joined (hr.mono (by omega)) rfl (pa_cons (pv 3) (pa_cons (pv 3) pa_nil))) (pa_cons (pv 6) pa_nil))))))))) (pss_one (ps_ret pe_bl)) pss_nil)
  (pss_cons (ps_set (i := 18) sc_law.nd rfl (Or.inl rfl) (pe_cal C__law_joined (hr.mono (by omega)) rfl (pa_cons (pv 4) (pa_cons (pe_cal C__law_scaled (hr.mono (by omega)) rfl (pa_cons (pv 3) (pa_cons (pv 12) pa_nil))) pa_nil))))
  (pss_cons (ps_if (pt_not (pt_val (pe_cal C__law_is_list (hr.mono (by omega)) rfl (pa_cons (pe_op (op_addR C_add (hr.mono (by omega))) (pv 8) (pe_calM O.clR C_mScaled (hr.mono (by omega)) (pv 7) (pa_cons (pe_callTy call_list_of (by rfl) T.b_list (by decide +kernel) (pa_cons (pv 12) pa_nil)) pa_nil))) (pa_cons (pv 18) (pa_cons (pv 6) pa_nil)))))) (pss_one (ps_ret pe_bl)) pss_nil)
  (pss_cons (ps_if (pt_not (pt_val (pe_cal C__law_is_list (hr.mono (by omega)) rfl (pa_cons (pv 17) (pa_cons (pe_cal C__law_joined (hr.mono (by omega)) rfl (pa_cons (pv 3) (pa_cons (pv 4) pa_nil))) (pa_cons (pv 6) pa_nil)))))) (pss_one (ps_ret pe_bl)) pss_nil)
  (pss_one (ps_ret (pe_and (pe_cal C__law_is_list (hr.mono (by omega)) rfl (pa_cons (pv 7) (pa_cons (pv 3) (pa_cons (pv 6) pa_nil)))) (pe_one (pe_cal C__law_is_list (hr.mono (by omega)) rfl (pa_cons (pv 8) (pa_cons (pv 4) (pa_cons (pv 6) pa_nil))))))))))))))))))))))))))))))))))))))), ?_⟩
  -- shape
  refine ⟨_, rfl, a, sc, 0, rfl, hs, by decide, by decide, fun ci => ?_⟩
  refine ⟨line_ge (by show 13 ≤ 100000; omega), fun l1 hl1 => ⟨_, _, rfl, rfl, ⟨by decide, by decide, by decide⟩, one_line, fun l2 hl2 => ⟨l2, 3, _, rfl, rfl, upd_same, by decide, by decide, line_ge (by decide), fun l3 hl3 => ?_⟩⟩⟩
  refine ⟨l1, l3, _, _, rfl, rfl, same_new hl3 _ _ _ (same_new hl2 _ _ _ upd_same), upd_same, line_ge (by decide), fun l4 hl4 => ?_⟩
  have s4 := fun o => (same_new hl1 (.lst [.int 8, .int 11, .int 61, .int 61, .int 6, .int 5, .int 5, .int 7, .int 7, .int 1000, .int 1000, .int 6, .int 8])).trans ((same_new hl2 (.lst [.int (10 ^ (60 : Int).toNat)])).trans ((same_new hl3 (.lst (List.replicate (3 : Int).toNat [V.int (10 ^ (60 : Int).toNat)]).flatten)).trans (same_new hl4 o)))
  refine ⟨ci, l4, zsS, rfl, SqL.of (by rw [upd_same]; rfl), by decide, zsS_ok, fun sh ns hsh hd => ?_⟩
  have s5 := (s4 _).trans (same_new hsh (.lst (ns.map V.int)))
  generalize hH5 : upd _ sh (.lst (ns.map V.int)) = H5
  rw [hH5] at s5
  have hsh5 : H5 sh = some (.lst (ns.map V.int)) := by rw [← hH5, upd_same]
  clear hH5
  have hs5 := s5.seq hs
  obtain ⟨x9, e9, g9, u9⟩ := dg hd (i := 9) (z := 1000) rfl
  obtain ⟨x10, e10, g10, u10⟩ := dg hd (i := 10) (z := 1000) rfl
  obtain ⟨x11, e11, g11, u11⟩ := dg hd (i := 11) (z := 6) rfl
  obtain ⟨x14, e14, g14, u14⟩ := dg hd (i := 14) (z := 10 ^ (60 : Int).toNat) rfl
  obtain ⟨x15, e15, g15, u15⟩ := dg hd (i := 15) (z := 10 ^ (60 : Int).toNat) rfl
  -- lists
  refine ⟨_, rfl, _, rfl, a, sh, sc, ns, rfl, hs5, hsh5, hd, fun rl d1 d2 n n2 ps os b c H2 s6 hrl due1 ok1 due2 ok2 hn2 => ?_⟩
  have hs2 := s6.seq hs5
  have hsh2 := s6 _ _ hsh5
  have hn := ok1.n10
  have hlen := ok1.len
  have hlen2 := ok2.len
  have hn22 := ok2.n10
  have hb0 : 0 < b := ok1.bot
  have hc0 : 0 < c := ok2.bot
  refine ⟨_, rfl, rl, _, 0, _, rfl, rfl, SqL.of hrl, at_pos (by decide) rfl, ?_⟩
  refine ⟨_, rfl, rl, _, 1, _, rfl, rfl, SqL.of hrl, at_pos (by decide) rfl, ?_⟩
  obtain ⟨a1, h1, hps⟩ := id due1
  obtain ⟨ls, hc1, hl1', hrow⟩ := hps.at
  obtain ⟨a2, h2, hos⟩ := id due2
  clear hl1 hl2 hl3 hl4 s4
  -- line
  refine ⟨fun σ' H' => ∃ (ln : Addr) (y : Nat → Int), σ' = [some (.ref a), some (.ref sh), some (.ref rl), some (.ref d1), some (.ref d2), some (.ref ln), none, none, none, none, none, none, none, none, none, none, none, none, none, none] ∧ Same H2 H' ∧ H' ln = some (.lst ((vec n y).map V.int)) ∧ ∀ i, i < n → B 60 (y i), ?_, ?_⟩
  · refine ⟨_, rfl, d1, _, 1, _, rfl, rfl, SqL.of h1, at_pos (by decide) rfl, a1, ls, rfl, .inl (SqL.of hc1), _, _, rfl, rfl, _, rfl, ite2 (fun cc => ?_) (fun _ => ?_)⟩
    · have hpos : (0 : Int) < ((ls.length : Nat) : Int) := of_decide_eq_true cc
      obtain ⟨p0, hp0⟩ : ∃ p0, ps[0]? = some p0 := ⟨_, List.getElem?_eq_getElem (by omega)⟩
      obtain ⟨q1, r1, hq1, hq2, hq3⟩ := hrow 0 p0 hp0
      have hm0 := List.mem_of_getElem? hp0
      refine ⟨_, rfl, d1, _, 1, _, rfl, rfl, SqL.of h1, at_pos (by decide) rfl, a1, _, _, _, rfl, rfl, SqL.of hc1, at_pos (by decide) hq1, q1, _, 0, _, rfl, rfl, SqL.of hq2, at_pos (by decide) rfl, ?_⟩
      refine ⟨r1, (fun i => p0.1.getD i 0), rfl, fun _ _ h => h, ?_, fun i _ => ok1.get hm0 i⟩
      rw [← vec_of (ok1.row p0 hm0).1]
      exact hq3
    · refine ⟨_, rfl, d1, _, 0, _, rfl, rfl, SqL.of h1, at_pos (by decide) rfl, (n : Int), rfl, by omega, by omega, fun D hD => ?_⟩
      refine lc_m (walk_range (lo := 0) (n := n)) RI (stb_RI (K := K)) (List.range n) (by rw [List.length_range]) (by rw [List.length_range]; omega) hD (fun _ _ => trivial) (fun _ _ _ _ => ys_fn) (fun _ => (0 : Int)) (fun c i x H3 H4 hc s3 s4 yl A B hA => ?_) (fun H3 l s3 hl3 rs => ?_)
      · rw [yl.2]
        exact ⟨rfl, lc_yes (hA _ _ (fun _ _ h => h) rfl)⟩
      · exact ⟨D, fun _ => 0, rfl, s3, by rw [hl3, rs.ints]; rfl, fun i hi => by show B 60 0; decide⟩
  rintro σ H3 ⟨ln, y, rfl, s3, hln, by_⟩
  -- point, rows, more
  refine ⟨_, rfl, a, sc, 1, rfl, s3.seq hs2, by decide, by decide, fun ci2 => ?_⟩
  refine ⟨_, rfl, d1, _, 0, _, rfl, rfl, SqL.of (s3 _ _ h1), at_pos (by decide) rfl, _, rfl, ci2, n, ln, y, rfl, hn, hln, by_, fun pt x H7 s7 hpt hx => ?_⟩
  have t7 := s3.trans s7
  refine ⟨_, rfl, _, rfl, sh, _, _, _, rfl, rfl, SqL.of (t7 _ _ hsh2), at_pos (by decide) e11, _, _, rfl, rfl, d1, _, 60, 400, n, ps, b, rfl, due1.same t7, ok1, by omega, by omega, fun p H8 s8 hp => ?_⟩
  have t8 := t7.trans s8
  refine ⟨_, rfl, _, rfl, sh, _, _, _, rfl, rfl, SqL.of (t8 _ _ hsh2), at_pos (by decide) e11, _, _, rfl, rfl, d2, _, 60, 400, n2, os, c, rfl, due2.same t8, ok2, by omega, by omega, fun p2 H9 s9 hp2 => ?_⟩
  have t9 := t8.trans s9
  have hp9 := hp.same s9
  have hpt9 := (s8.trans s9) _ _ hpt
  have due1' := due1.same t9
  have due2' := due2.same t9
  -- the two lists
  refine ⟨_, rfl, _, rfl, _, rfl, p, d1, pt, 60, 400, n, ps, b, x, rfl, hp9, due1', ok1, by omega, by omega, hpt9, hx, fun HA sA => ⟨true, rfl, ifF rfl ?_⟩⟩
  have tA := t9.trans sA
  refine ⟨_, rfl, _, rfl, _, rfl, one_line, fun l5 hl5 => ⟨pt, l5, _, _, rfl, rfl, (sA.trans (same_new hl5 _)) _ _ hpt9, upd_same, line_ge (by rw [vec_lenV]; show n + 1 ≤ 100000; omega), fun l6 hl6 => ?_⟩⟩
  have sB := (same_new hl5 (.lst [V.int 3])).trans (same_new hl6 (.lst ((vec n x).map V.int ++ [V.int 3])))
  have tB := tA.trans sB
  have e6 : (upd (upd HA l5 (.lst [V.int 3])) l6 (.lst ((vec n x).map V.int ++ [V.int 3]))) l6 = some (.lst ((vec (n + 1) fun i => if i < n then x i else 3).map V.int)) := by
    rw [upd_same, show [V.int 3] = (vec 1 fun _ => 3).map V.int from rfl, vec_cat]
  generalize upd (upd HA l5 (.lst [V.int 3])) l6 (.lst ((vec n x).map V.int ++ [V.int 3])) = HB at sB tB e6 ⊢
  refine ⟨_, rfl, d2, _, 0, _, rfl, rfl, SqL.of (tB _ _ h2), at_pos (by decide) rfl, _, rfl, l6, _, rfl, SqL.of e6, fun l7 hl7 => ?_⟩
  rw [cut_head (m := n + 1) (a := n2) (z := (n2 : Int)) rfl hn2]
  have sC := same_new hl7 (.lst ((vec n2 fun i => if i < n then x i else 3).map V.int))
  refine ⟨p2, d2, l7, 60, 400, n2, os, c, _, rfl, hp2.same (sA.trans (sB.trans sC)), due2.same (tB.trans sC), ok2, by omega, by omega, upd_same, fun i hi => ?_, fun HC sD => ⟨true, rfl, ifF rfl ?_⟩⟩
  · show B 60 (if i < n then x i else 3)
    split
    · exact hx i (by assumption)
    · decide
  have uC := sA.trans (sB.trans (sC.trans sD))
  have tC := t9.trans uC
  clear tB tA hl5 hl6 hl7 e6 sB sA sC sD
  -- mixed, spoilt
  refine ⟨_, rfl, a, sc, 1, rfl, tC.seq hs2, by decide, by decide, fun ci3 => ?_⟩
  refine .inl ⟨_, rfl, _, _, rfl, rfl, (by show (0 : Int) < 1000000007; decide), ?_⟩
  refine ⟨_, rfl, d1, _, 0, _, rfl, rfl, SqL.of (tC _ _ h1), at_pos (by decide) rfl, _, rfl, d1, _, 1, _, rfl, rfl, SqL.of (tC _ _ h1), at_pos (by decide) rfl, _, rfl, five_line, fun l8 hl8 => ?_⟩
  have sE := same_new hl8 (.lst [.int 60, .int 60, .int 6, .int 6, .int 3])
  refine ⟨_, l8, [60, 60, 6, 6, 3], rfl, SqL.of upd_same, by decide, szs (by decide +kernel), fun rd nd hrd hdd => ?_⟩
  have sF := sE.trans (same_new hrd (.lst (nd.map V.int)))
  refine ⟨a1, rd, n, ps, b, nd, rfl, hps.same (tC.trans sF), ok1, upd_same, hdd, fun spo HD zs sG hzs hzk => ?_⟩
  have uD := uC.trans (sF.trans sG)
  have tD := t9.trans uD
  clear hl8 hrd sE
  -- the faults
  refine ⟨fun σ' H' => σ' = [some (.ref a), some (.ref sh), some (.ref rl), some (.ref d1), some (.ref d2), some (.ref ln), some (.ref pt), some (.ref p), some (.ref p2), some (.int (ci3 % 1000000007)), some (.ref spo), none, none, none, none, none, none, none, none, none] ∧ Same HD H', ?_, ?_⟩
  · refine ⟨_, rfl, d1, _, 0, _, rfl, rfl, SqL.of (tD _ _ h1), at_pos (by decide) rfl, _, rfl, _, rfl, d1, _, 2, _, rfl, rfl, SqL.of (tD _ _ h1), at_pos (by decide) rfl, ?_⟩
    have hz2 : ∀ p ∈ zs, p.1.length ≤ 1000 ∧ B 1400 p.2 ∧ ∀ x ∈ p.1, B 1400 x := fun p hp => ⟨by have := (hzk.2 p hp).1; omega, ((hzk.2 p hp).2.1).mono (by decide), fun x hx => ((hzk.2 p hp).2.2 x hx).mono (by decide)⟩
    have hz3 := hzk.1
    have tail : ∀ {HE : Hp}, Same HD HE → ∀ (Q2 : VK), (∀ v HG, Same HE HG → ((fault n zs = none ∧ v = .non) ∨ (∃ k, fault n zs = some (true, k) ∧ ∃ r, v = .ref r ∧ HG r = some (.lst [.str "row", .int (k : Int)])) ∨ (∃ k, fault n zs = some (false, k) ∧ ∃ r, v = .ref r ∧ HG r = some (.lst [.str "weight", .int (k : Int)]))) → Q2 v HG) → Flt n zs HE Q2 := fun {HE} sE Q2 h =>
      ⟨fun hno H' s' => h _ _ s' (.inl ⟨hno, rfl⟩), fun k hk r H' s' hr => h _ _ s' (.inr (.inl ⟨k, hk, r, rfl, hr⟩)), fun k hk r H' s' hr => h _ _ s' (.inr (.inr ⟨k, hk, r, rfl, hr⟩))⟩
    refine ⟨spo, n, zs, b, rfl, hzs, by omega, hz2, hn, hb0, ok1.bB.mono (by decide), tail (fun _ _ h => h) _ fun v HE sE hv => ?_⟩
    refine ⟨_, rfl, d1, _, 0, _, rfl, rfl, SqL.of ((tD.trans sE) _ _ h1), at_pos (by decide) rfl, _, rfl, spo, n, zs, rfl, hzs.same sE, by omega, tail sE _ fun v2 HF2 sF2 hv2 => ?_⟩
    have hvE : (fault n zs = none ∧ v = .non) ∨ (∃ k, fault n zs = some (true, k) ∧ ∃ r, v = .ref r ∧ HF2 r = some (.lst [.str "row", .int (k : Int)])) ∨ (∃ k, fault n zs = some (false, k) ∧ ∃ r, v = .ref r ∧ HF2 r = some (.lst [.str "weight", .int (k : Int)])) := by
      rcases hv with h | ⟨k, hk, r, e, hr⟩ | ⟨k, hk, r, e, hr⟩
      · exact .inl h
      · exact .inr (.inl ⟨k, hk, r, e, sF2 _ _ hr⟩)
      · exact .inr (.inr ⟨k, hk, r, e, sF2 _ _ hr⟩)
    have alike : ∃ dd, Dp K HF2 v dd ∧ Dp K HF2 v2 dd ∧ SeqAt.shaped dd = true := by
      rcases hvE with ⟨h0, rfl⟩ | ⟨k, hk, r, rfl, hr⟩ | ⟨k, hk, r, rfl, hr⟩
      · rcases hv2 with ⟨_, rfl⟩ | ⟨k2, hk2, _⟩ | ⟨k2, hk2, _⟩
        · exact ⟨.none, .non, .non, non_shaped⟩
        · rw [h0] at hk2
          cases hk2
        · rw [h0] at hk2
          cases hk2
      · rcases hv2 with ⟨h0, _⟩ | ⟨k2, hk2, r2, rfl, hr2⟩ | ⟨k2, hk2, _⟩
        · rw [h0] at hk
          cases hk
        · rw [hk] at hk2
          cases hk2
          exact ⟨fpy "row" k, .lst (SqL.of hr) (.cons (.str _) (.cons (.int _) .nil)), .lst (SqL.of hr2) (.cons (.str _) (.cons (.int _) .nil)), fpy_shaped _ _ row_ok⟩
        · rw [hk] at hk2
          cases hk2
      · rcases hv2 with ⟨h0, _⟩ | ⟨k2, hk2, _⟩ | ⟨k2, hk2, r2, rfl, hr2⟩
        · rw [h0] at hk
          cases hk
        · rw [hk] at hk2
          cases hk2
        · rw [hk] at hk2
          cases hk2
          exact ⟨fpy "weight" k, .lst (SqL.of hr) (.cons (.str _) (.cons (.int _) .nil)), .lst (SqL.of hr2) (.cons (.str _) (.cons (.int _) .nil)), fpy_shaped _ _ weight_ok⟩
    obtain ⟨dd, D1, D2, hsh'⟩ := alike
    refine ⟨dd, dd, D1, D2, hsh', hsh', _, rfl, ifF (by rw [eqv_self hsh']; rfl) ?_⟩
    have sF3 := sE.trans sF2
    refine ⟨_, rfl, _, rfl, _, rfl, _, rfl, p, d1, p2, d2, n, n2, ps, os, b, c, rfl, hp9.same (uD.trans sF3), due1.same (tD.trans sF3), ok1, hp2.same (uD.trans sF3), due2.same (tD.trans sF3), ok2, fun HG sG2 => ⟨true, rfl, ifF rfl ⟨rfl, sF3.trans sG2⟩⟩⟩
  rintro σ HE ⟨rfl, sE⟩
  have uE := uD.trans sE
  have tE := tD.trans sE
  -- the factor
  refine ⟨_, _, rfl, rfl, ⟨by decide, by decide, by decide⟩, line_ge (by show 6 ≤ 100000; omega), fun l9 hl9 => ?_⟩
  obtain ⟨shr, hshr, ehr⟩ := pick (cs := [1, 2, 3, 10, 999983, 10 ^ (40 : Int).toNat]) g11 u11
  have hshb : 1 ≤ shr ∧ B 134 shr := (by decide +kernel : ∀ z ∈ ([1, 2, 3, 10, 999983, 10 ^ (40 : Int).toNat] : List Int), 1 ≤ z ∧ B 134 z) shr hshr
  have s9' := same_new hl9 (.lst [.int 1, .int 2, .int 3, .int 10, .int 999983, .int (10 ^ (40 : Int).toNat)])
  refine ⟨_, rfl, sh, _, _, _, rfl, rfl, SqL.of ((tE.trans s9') _ _ hsh2), at_pos (by decide) e11, l9, _, _, _, rfl, rfl, SqL.of upd_same, at_pos g11 ehr, ?_⟩
  have uF := uE.trans s9'
  have tF := tE.trans s9'
  generalize upd HE l9 (.lst [.int 1, .int 2, .int 3, .int 10, .int 999983, .int (10 ^ (40 : Int).toNat)]) = HF at uF tF ⊢
  clear hl9 s9'
  have bx9 : B 12 (1 + x9) := by show (1 + x9).natAbs < 2 ^ 12; omega
  have bx10 : B 12 (1 + x10) := by show (1 + x10).natAbs < 2 ^ 12; omega
  have hsF := tF _ _ hsh2
  refine ⟨_, rfl, sh, _, _, _, rfl, rfl, SqL.of hsF, at_pos (by decide) e9, _, _, rfl, rfl, _, rfl, _, _, rfl, rfl, wmul bx9 hshb.2 (by decide) (by decide) (by decide), ?_⟩
  refine ⟨_, rfl, sh, _, _, _, rfl, rfl, SqL.of hsF, at_pos (by decide) e10, _, _, rfl, rfl, _, rfl, _, _, rfl, rfl, wmul bx10 hshb.2 (by decide) (by decide) (by decide), two_line, fun f1 hf1 => ?_⟩
  have sG1 := same_new hf1 (.tup [.int ((1 + x9) * shr), .int ((1 + x10) * shr)])
  have hfv : (upd HF f1 (.tup [.int ((1 + x9) * shr), .int ((1 + x10) * shr)])) f1 = some (.tup [.int ((1 + x9) * shr), .int ((1 + x10) * shr)]) := upd_same
  have uG := uF.trans sG1
  have tG := tF.trans sG1
  generalize upd HF f1 (.tup [.int ((1 + x9) * shr), .int ((1 + x10) * shr)]) = HG at uG tG hfv ⊢
  refine ⟨fun σ' H' => ∃ (fa : Addr) (t d : Int), σ' = [some (.ref a), some (.ref sh), some (.ref rl), some (.ref d1), some (.ref d2), some (.ref ln), some (.ref pt), some (.ref p), some (.ref p2), some (.int (ci3 % 1000000007)), some (.ref spo), some (.int shr), some (.ref fa), none, none, none, none, none, none, none] ∧ Same HG H' ∧ H' fa = some (.tup [.int t, .int d]) ∧ 0 < t ∧ 0 < d ∧ B 205 t ∧ B 205 d, ?_, ?_⟩
  · refine ⟨_, rfl, sh, _, _, _, rfl, rfl, SqL.of (tG _ _ hsh2), at_pos (by decide) e11, rfl, _, rfl, ite2 (fun _ => ?_) (fun _ => ⟨f1, _, _, rfl, fun _ _ h => h, hfv, Int.mul_pos (by omega) (by omega), Int.mul_pos (by omega) (by omega), (B.mul bx9 hshb.2).mono (by decide), (B.mul bx10 hshb.2).mono (by decide)⟩)⟩
    refine ⟨_, rfl, sh, _, _, _, rfl, rfl, SqL.of (tG _ _ hsh2), at_pos (by decide) e14, _, _, rfl, rfl, _, rfl, sh, _, _, _, rfl, rfl, SqL.of (tG _ _ hsh2), at_pos (by decide) e15, _, _, rfl, rfl, two_line, fun f2 hf2 => ?_⟩
    have b14 : B 200 x14 := b_of g14 u14 p60B
    have b15 : B 200 x15 := b_of g15 u15 p60B
    exact ⟨f2, _, _, rfl, same_new hf2 _, upd_same, by omega, by omega, ((by decide : B 200 (1 : Int)).add b14).mono (by decide), ((by decide : B 200 (1 : Int)).add b15).mono (by decide)⟩
  rintro σ HH ⟨fa, t, d, rfl, sH, hfa, ht, hd0, htB, hdB⟩
  have uH := uG.trans sH
  have tH := tG.trans sH
  have okS := ok1.sc (t := t) (d := d) ht hd0 htB hdB
  have okS' : DOk 60 605 n (P03.sc t ps) (b * d) := okS
  clear hfv sG1 hf1
  -- scaled
  have hpH := hp9.same uH
  obtain ⟨dxp, ep, Fp, hip, _⟩ := id hpH
  refine ⟨_, rfl, p, dxp, _, rfl, hip, lkRx _ _ _ _ (by decide +kernel) (by decide +kernel) (by decide +kernel) (by decide +kernel), _, rfl, p, fa, 60, 400, n, ps, b, t, d, rfl, hpH, ok1, by omega, by omega, .inr (SqT.of hfa), ht, hd0, htB.mono (by decide), hdB.mono (by decide), fun p3 HI sI hp3 => ?_⟩
  have uI := uH.trans sI
  have tI := tH.trans sI
  refine ⟨_, rfl, _, rfl, _, rfl, d1, fa, 60, 400, n, ps, b, t, d, rfl, due1.same tI, ok1, by omega, by omega, .inr (SqT.of (sI _ _ hfa)), htB.mono (by decide), hdB.mono (by decide), fun r1 HJ sJ hr1 => ?_⟩
  refine ⟨_, rfl, p3, r1, pt, 60, 605, n, _, _, x, rfl, hp3.same sJ, hr1, okS', by omega, by omega, (uI.trans sJ) _ _ hpt9, hx, fun HK sK => ⟨true, rfl, ifF rfl ?_⟩⟩
  have vK := sJ.trans sK
  have uK := uI.trans vK
  have tK := tI.trans vK
  -- places
  refine ⟨_, rfl, a, sc, 2, rfl, tK.seq hs2, by decide, by decide, fun ci4 => ?_⟩
  refine ⟨two_line, fun l1 hl1 => ⟨one_line, fun l2 hl2 => ⟨l2, 60, _, rfl, rfl, upd_same, by decide, by decide, line_ge (by decide), fun l3 hl3 => ?_⟩⟩⟩
  refine ⟨l1, l3, _, _, rfl, rfl, same_new hl3 _ _ _ (same_new hl2 _ _ _ upd_same), upd_same, line_ge (by decide), fun l4 hl4 => ?_⟩
  have q4 := fun o => (same_new hl1 (.lst [.int 8, .int 61])).trans ((same_new hl2 (.lst [.int 60])).trans ((same_new hl3 (.lst (List.replicate (60 : Int).toNat [V.int 60]).flatten)).trans (same_new hl4 o)))
  refine ⟨ci4, l4, zsK, rfl, SqL.of (by rw [upd_same]; rfl), by decide, zsK_ok, fun pn npn hpn hdn => ?_⟩
  have q5 := (q4 _).trans (same_new hpn (.lst (npn.map V.int)))
  generalize hHL : upd _ pn (.lst (npn.map V.int)) = HL
  rw [hHL] at q5
  have hpnL : HL pn = some (.lst (npn.map V.int)) := by rw [← hHL, upd_same]
  clear hHL q4 hl1 hl2 hl3 hl4
  have tL := tK.trans q5
  refine ⟨_, rfl, d1, _, 1, _, rfl, rfl, SqL.of (tL _ _ h1), at_pos (by decide) rfl, a1, ls, rfl, .inl (SqL.of (tL _ _ hc1)), ?_⟩
  refine ⟨pn, npn, ps.length, by rw [hl1']; rfl, hpnL, hdn, hlen, fun pl HM ks sM hpl hks hkl => ?_⟩
  have vM := vK.trans (q5.trans sM)
  have uM := uI.trans vM
  have tM := tI.trans vM
  -- handed
  refine ⟨_, rfl, pl, _, rfl, .inl (SqL.of hpl), fun hn' hhn => ?_⟩
  have sN := same_new hhn (.lst (ks.map fun k => V.int (k : Nat)))
  have hnv : (upd HM hn' (.lst (ks.map fun k => V.int (k : Nat)))) hn' = some (.lst (ks.map fun k => V.int (k : Nat))) := upd_same
  have vN := vM.trans sN
  have plN := sN _ _ hpl
  generalize upd HM hn' (.lst (ks.map fun k => V.int (k : Nat))) = HN at sN hnv vN plN ⊢
  have uN := uI.trans vN
  have tN := tI.trans vN
  have hks' : ∀ k ∈ ks, k < (P03.sc t ps).length := fun k hk => by rw [sc_len]; exact hks k hk
  have okP : DOk 60 605 n (ks.map fun k => (P03.sc t ps).getD k ([], 0)) (b * d) := okS'.pick (pick_mem hks') (m2 := 60) (by rw [List.length_map]; exact hkl)
  have okQ : DOk 60 400 n (ks.map fun k => ps.getD k ([], 0)) b := ok1.pick (pick_mem hks) (m2 := 60) (by rw [List.length_map]; exact hkl)
  -- scaled.picked(handed)
  have hp3N := hp3.same vN
  obtain ⟨dx3, ep3, Fp3, hi3, _⟩ := id hp3N
  refine ⟨_, rfl, p3, dx3, _, rfl, hi3, lkRx _ _ _ _ (by decide +kernel) (by decide +kernel) (by decide +kernel) (by decide +kernel), _, rfl, p3, hn', 60, 605, n, _, _, ks, rfl, hp3N, okS', by omega, by omega, .inl (SqL.of hnv), hks', by omega, fun p4 HO sO hp4 => ?_⟩
  have faO := (sI.trans (vN.trans sO)) _ _ hfa
  have tO := tN.trans sO
  refine ⟨_, rfl, _, rfl, d1, fa, 60, 400, n, ps, b, t, d, rfl, due1.same tO, ok1, by omega, by omega, .inr (SqT.of faO), htB.mono (by decide), hdB.mono (by decide), fun r2 HP sP hr2 => ?_⟩
  refine ⟨_, rfl, r2, pl, 60, 605, n, _, _, ks, rfl, hr2, okS', by omega, (sO.trans sP) _ _ plN, hks', by omega, fun r3 HQ sQ hr3 => ?_⟩
  have uQ := uN.trans (sO.trans (sP.trans sQ))
  refine ⟨_, rfl, p4, r3, pt, 60, 605, n, _, _, x, rfl, hp4.same (sP.trans sQ), hr3, okP, by omega, by omega, uQ _ _ hpt9, hx, fun HR sR => ⟨true, rfl, ifF rfl ?_⟩⟩
  have vR := vN.trans (sO.trans (sP.trans (sQ.trans sR)))
  have wR := sO.trans (sP.trans (sQ.trans sR))
  have uR := uI.trans vR
  have tR := tI.trans vR
  have plR := wR _ _ plN
  -- few
  have hpR := hp9.same uR
  obtain ⟨dxr, epr, Fpr, hipr, _⟩ := id hpR
  refine ⟨_, rfl, p, dxr, _, rfl, hipr, lkRx _ _ _ _ (by decide +kernel) (by decide +kernel) (by decide +kernel) (by decide +kernel), _, rfl, pl, _, rfl, .inl ⟨SqL.of plR, fun tp htp => ?_⟩⟩
  have sS0 := same_new htp (.tup (ks.map fun k => V.int (k : Nat)))
  refine ⟨p, tp, 60, 400, n, ps, b, ks, rfl, hpR.same sS0, ok1, by omega, by omega, .inr (SqT.of upd_same), hks, by omega, fun fw HS sS1 hfew => ?_⟩
  have sS := sS0.trans sS1
  have vS := vR.trans sS
  have uS := uI.trans vS
  have tS := tI.trans vS
  have plS := sS _ _ plR
  have hnS := (wR.trans sS) _ _ hnv
  clear sS0 sS1 htp
  refine ⟨_, rfl, _, rfl, .list (ipy (ks.map fun k => ((k : Nat) : Int))), .list (ipy (ks.map fun k => ((k : Nat) : Int))), ?_, ?_, ipy_shaped _, ipy_shaped _, _, rfl, ifF (by rw [eqv_self (ipy_shaped _)]; rfl) ?_⟩
  · rw [ks_ints] at hnS
    exact .lst (SqL.of hnS) (ints_dpl _)
  · rw [ks_ints] at plS
    exact .lst (SqL.of plS) (ints_dpl _)
  refine ⟨_, rfl, _, rfl, _, rfl, d1, pl, 60, 400, n, ps, b, ks, rfl, due1.same tS, ok1, by omega, plS, hks, by omega, fun r4 HT sT hr4 => ?_⟩
  refine ⟨_, rfl, fw, r4, pt, 60, 400, n, _, b, x, rfl, hfew.same sT, hr4, okQ, by omega, by omega, (uS.trans sT) _ _ hpt9, hx, fun HU sU => ⟨true, rfl, ifF rfl ?_⟩⟩
  have vU := sT.trans sU
  have uU := uS.trans vU
  have tU := tS.trans vU
  have faU := (sI.trans (vS.trans vU)) _ _ hfa
  -- asked again
  refine ⟨_, rfl, _, rfl, _, rfl, _, rfl, _, rfl, p, d1, fa, pl, pt, n, ps, b, t, d, ks, x, rfl, hp9.same uU, due1.same tU, ok1, SqT.of faU, ht, hd0, htB, hdB, vU _ _ plS, hks, hkl, uU _ _ hpt9, hx, fun HV sV => ⟨true, rfl, ifF rfl ?_⟩⟩
  have vV := vU.trans sV
  have uV := uS.trans vV
  have tV := tS.trans vV
  have faV := sV _ _ faU
  refine ⟨_, rfl, _, rfl, _, rfl, d1, fa, 60, 400, n, ps, b, t, d, rfl, due1.same tV, ok1, by omega, by omega, .inr (SqT.of faV), htB.mono (by decide), hdB.mono (by decide), fun r5 HW sW hr5 => ?_⟩
  refine ⟨_, rfl, p3, r5, pt, 60, 605, n, _, _, x, rfl, hp3.same (vS.trans (vV.trans sW)), hr5, okS', by omega, by omega, (uV.trans sW) _ _ hpt9, hx, fun HX sX => ⟨true, rfl, ifF rfl ?_⟩⟩
  have vX := vV.trans (sW.trans sX)
  have uX := uS.trans vX
  have tX := tS.trans vX
  refine ⟨_, rfl, _, rfl, _, rfl, d1, pl, 60, 400, n, ps, b, ks, rfl, due1.same tX, ok1, by omega, vX _ _ plS, hks, by omega, fun r6 HY sY hr6 => ?_⟩
  refine ⟨_, rfl, fw, r6, pt, 60, 400, n, _, b, x, rfl, hfew.same (vX.trans sY), hr6, okQ, by omega, by omega, (uX.trans sY) _ _ hpt9, hx, fun HZ sZ => ⟨true, rfl, ifF rfl ?_⟩⟩
  have vZ := vX.trans (sY.trans sZ)
  have uZ := uS.trans vZ
  have tZ := tS.trans vZ
  have faZ := (sW.trans (sX.trans (sY.trans sZ))) _ _ faV
  have hpZ := hp9.same uZ
  have hp2Z := hp2.same uZ
  have ptZ := uZ _ _ hpt9
  have dueZ := due1.same tZ
  have dueZ2 := due2.same tZ
  have h1Z := tZ _ _ h1
  have h2Z := tZ _ _ h2
  have hc1Z := tZ _ _ hc1
  clear vZ uZ tZ vX uX tX vV uV tV faV sW sX sY sZ uU tU faU sV vU sT sU uS tS vS sS hnS plS hfew hipr hpR plR uR tR vR wR sR uQ sQ sP sO faO tO hp3N hi3 uN tN vN plN hnv sN hhn uM tM vM sM hpl tL q5 hpnL hpn hdn uK tK vK sJ sK uI tI sI hp3 hip hpH uH tH sH hfa uG tG uF tF uE tE sE tD uD tC uC sG sF
  refine ⟨_, rfl, d1, _, 0, _, rfl, rfl, SqL.of h1Z, at_pos (by decide) rfl, _, rfl, d2, _, 0, _, rfl, rfl, SqL.of h2Z, at_pos (by decide) rfl, rfl, _, rfl, ?_⟩
  by_cases hnn : n = n2
  · refine ifF (ne_F (by rw [hnn])) ?_
    subst hnn
    have okJ : DOk 120 800 n (P03.sc c ps ++ P03.sc b os) (b * c) := ok1.cat ok2
    have okI : DOk 120 800 n (P03.sc b ps ++ P03.sc b ps) (b * b) := ok1.cat ok1
    have okT : DOk 120 1005 n (P03.sc (b * d) os ++ P03.sc c (P03.sc t ps)) (c * (b * d)) := ok2.cat okS'
    refine ⟨_, rfl, _, rfl, add_rows hpZ hp2Z ok1 ok2 (by omega) (by omega) fun j G1 w1 hj => ?_⟩
    refine ⟨_, rfl, _, rfl, _, rfl, d1, d2, 60, 400, 60, 400, n, n, ps, os, b, c, rfl, dueZ.same w1, dueZ2.same w1, ok1, ok2, by omega, by omega, by omega, by omega, fun r1 G2 w2 hr1 => ?_⟩
    refine ⟨_, rfl, j, r1, pt, 120, 800, n, _, _, x, rfl, hj.same w2, hr1, okJ, by omega, by omega, (w1.trans w2) _ _ ptZ, hx, fun G3 w3 => ⟨true, rfl, ifF rfl ?_⟩⟩
    have w13 := w1.trans (w2.trans w3)
    have hj3 := hj.same (w2.trans w3)
    refine ⟨fun σ' H' => σ' = [some (.ref a), some (.ref sh), some (.ref rl), some (.ref d1), some (.ref d2), some (.ref ln), some (.ref pt), some (.ref p), some (.ref p2), some (.int (ci3 % 1000000007)), some (.ref spo), some (.int shr), some (.ref fa), some (.ref p3), some (.ref pl), some (.ref hn'), some (.ref fw), some (.ref j), none, none] ∧ Same G3 H', ?_, ?_⟩
    · refine ⟨_, rfl, d1, _, 1, _, rfl, rfl, SqL.of (w13 _ _ h1Z), at_pos (by decide) rfl, a1, _, rfl, .inl (SqL.of (w13 _ _ hc1Z)), _, _, rfl, rfl, _, rfl, ite2 (fun _ => ?_) (fun _ => ⟨rfl, fun _ _ h => h⟩)⟩
      refine ⟨_, rfl, _, rfl, add_rows (hpZ.same w13) (hpZ.same w13) ok1 ok1 (by omega) (by omega) fun j2 G4 w4 hj2 => ?_⟩
      refine ⟨_, rfl, _, rfl, d1, d1, 60, 400, 60, 400, n, n, ps, ps, b, b, rfl, dueZ.same (w13.trans w4), dueZ.same (w13.trans w4), ok1, ok1, by omega, by omega, by omega, by omega, fun r2 G5 w5 hr2 => ?_⟩
      exact ⟨_, rfl, j2, r2, pt, 120, 800, n, _, _, x, rfl, hj2.same w5, hr2, okI, by omega, by omega, (w13.trans (w4.trans w5)) _ _ ptZ, hx, fun G6 w6 => ⟨true, rfl, ifF rfl ⟨rfl, w4.trans (w5.trans w6)⟩⟩⟩
    rintro σ G4 ⟨rfl, w4⟩
    have w14 := w13.trans w4
    refine ⟨_, rfl, _, rfl, _, rfl, d1, fa, 60, 400, n, ps, b, t, d, rfl, dueZ.same w14, ok1, by omega, by omega, .inr (SqT.of (w14 _ _ faZ)), htB.mono (by decide), hdB.mono (by decide), fun r3 G5 w5 hr3 => ?_⟩
    refine ⟨d2, r3, 60, 400, 60, 605, n, n, os, _, c, _, rfl, dueZ2.same (w14.trans w5), hr3, ok2, okS', by omega, by omega, by omega, by omega, fun tu G6 w6 htu => ?_⟩
    have w16 := w14.trans (w5.trans w6)
    have hp6 := hpZ.same w16
    obtain ⟨dx6, ep6, Fp6, hi6, _⟩ := id hp6
    refine ⟨_, rfl, _, rfl, p, dx6, _, rfl, hi6, lkRx _ _ _ _ (by decide +kernel) (by decide +kernel) (by decide +kernel) (by decide +kernel), _, rfl, fa, _, rfl, .inr (SqT.of (w16 _ _ faZ)), fun lf hlf => ?_⟩
    have w7 := same_new hlf (.lst [.int t, .int d])
    refine ⟨p, lf, 60, 400, n, ps, b, t, d, rfl, hp6.same w7, ok1, by omega, by omega, .inl (SqL.of upd_same), ht, hd0, htB.mono (by decide), hdB.mono (by decide), fun p5 G8 w8 hp5 => ?_⟩
    have w78 := w7.trans w8
    have w18 := w16.trans w78
    refine add_rows (hp2Z.same w18) hp5 ok2 okS' (by omega) (by omega) fun j5 G9 w9 hj5 => ?_
    refine ⟨_, rfl, _, rfl, j5, tu, pt, 120, 1005, n, _, _, x, rfl, hj5, htu.same (w78.trans w9), okT, by omega, by omega, (w18.trans w9) _ _ ptZ, hx, fun G10 w10 => ⟨true, rfl, ifF rfl ?_⟩⟩
    have w110 := w18.trans (w9.trans w10)
    have hj10 := hj3.same (w4.trans (w5.trans (w6.trans (w78.trans (w9.trans w10)))))
    refine ⟨_, rfl, _, rfl, _, rfl, d1, d2, 60, 400, 60, 400, n, n, ps, os, b, c, rfl, dueZ.same w110, dueZ2.same w110, ok1, ok2, by omega, by omega, by omega, by omega, fun r6 G11 w11 hr6 => ?_⟩
    refine ⟨_, rfl, j, r6, pt, 120, 800, n, _, _, x, rfl, hj10.same w11, hr6, okJ, by omega, by omega, (w110.trans w11) _ _ ptZ, hx, fun G12 w12 => ⟨true, rfl, ifF rfl ?_⟩⟩
    have w112 := w110.trans (w11.trans w12)
    refine ⟨_, rfl, _, rfl, _, rfl, p, d1, pt, 60, 400, n, ps, b, x, rfl, hpZ.same w112, dueZ.same w112, ok1, by omega, by omega, w112 _ _ ptZ, hx, fun G13 w13' => ⟨true, rfl, ifT rfl ?_⟩⟩
    have w113 := w112.trans w13'
    exact ⟨_, rfl, _, rfl, _, rfl, p2, d2, pt, 60, 400, n, os, c, x, rfl, hp2Z.same w113, dueZ2.same w113, ok2, by omega, by omega, w113 _ _ ptZ, hx, fun G14 _ => q G14⟩
  · refine ifT (ne_T fun e => hnn (Int.ofNat_inj.mp e)) ?_
    refine ⟨_, rfl, _, rfl, p, p2, n, n2, _, _, _, _, rfl, hpZ, hp2Z, hnn, fun r7 G1 w1 hr7 => ?_⟩
    refine ⟨_, rfl, d1, _, 0, _, rfl, rfl, SqL.of (w1 _ _ h1Z), at_pos (by decide) rfl, _, rfl, d2, _, 0, _, rfl, rfl, SqL.of (w1 _ _ h2Z), at_pos (by decide) rfl, two_line, fun l1 hl1 => ?_⟩
    have w2 := same_new hl1 (.lst [.int (n : Int), .int (n2 : Int)])
    refine ⟨.list (ipy [(n : Int), (n2 : Int)]), .list (ipy [(n : Int), (n2 : Int)]), .lst (SqL.of (w2 _ _ hr7)) (ints_dpl [(n : Int), (n2 : Int)]), .lst (SqL.of upd_same) (ints_dpl [(n : Int), (n2 : Int)]), ipy_shaped _, ipy_shaped _, _, rfl, ifF (by rw [eqv_self (ipy_shaped _)]; rfl) ?_⟩
    have w12 := w1.trans w2
    refine ⟨_, rfl, _, rfl, p2, p, n2, n, _, _, _, _, rfl, hp2Z.same w12, hpZ.same w12, fun e => hnn e.symm, fun r8 G2 w3 hr8 => ?_⟩
    have w13 := w12.trans w3
    refine ⟨_, rfl, d2, _, 0, _, rfl, rfl, SqL.of (w13 _ _ h2Z), at_pos (by decide) rfl, _, rfl, d1, _, 0, _, rfl, rfl, SqL.of (w13 _ _ h1Z), at_pos (by decide) rfl, two_line, fun l2 hl2 => ?_⟩
    have w4 := same_new hl2 (.lst [.int (n2 : Int), .int (n : Int)])
    refine ⟨.list (ipy [(n2 : Int), (n : Int)]), .list (ipy [(n2 : Int), (n : Int)]), .lst (SqL.of (w4 _ _ hr8)) (ints_dpl [(n2 : Int), (n : Int)]), .lst (SqL.of upd_same) (ints_dpl [(n2 : Int), (n : Int)]), ipy_shaped _, ipy_shaped _, _, rfl, ifF (by rw [eqv_self (ipy_shaped _)]; rfl) ?_⟩
    have w14 := w13.trans w4
    refine ⟨_, rfl, _, rfl, p, p2, n, n2, _, _, _, _, rfl, hpZ.same w14, hp2Z.same w14, hnn, fun G3 w5 => ?_⟩
    have w15 := w14.trans w5
    refine ⟨true, rfl, ifT rfl ?_⟩
    exact ⟨_, rfl, _, rfl, _, rfl, p, d1, pt, 60, 400, n, ps, b, x, rfl, hpZ.same w15, dueZ.same w15, ok1, by omega, by omega, w15 _ _ ptZ, hx, fun G4 _ => q G4⟩
end
end P03
/-! What is bound where a class is made with a keyword. -/
namespace P03
open PySem PySem.Spec PyProof.Rows L2 SX EX WK
section
variable {K : PySem.W.Frag} {f : Addr} {fd : FuncData}
theorem kb_Form (F : FunD K "__init__" "Form.__init__" (defArgs s_iForm) (defBody s_iForm) (defScope s_iForm) [] [("bottom", V.int 1)] f fd) : ∃ g, KBn K fd ["self", "entries", "bottom"] 2 ["bottom"] g (fun vs zs => vs ++ zs) := by
  obtain ⟨mv, h⟩ := F.kbinds0 (ps := ["self", "entries", "bottom"]) 2 ["bottom"] [] (fun a _ c => a ++ c) (by simp) (fun q h => nomatch h) (fun r _ t => r.append t) (fun D doc pm an cdv ct us mv ws h1 h2 h3 => match us, mv, ws, h1, h2, h3 with
    | [_, _], [], [_], _, _, _ => rfl)
  exact ⟨_, h⟩
theorem kb_RowList (F : FunD K "__init__" "RowList.__init__" (defArgs s_iRowList) (defBody s_iRowList) (defScope s_iRowList) [] [("bottom", V.int 1)] f fd) : ∃ g, KBn K fd ["self", "size", "pairs", "bottom"] 3 ["bottom"] g (fun vs zs => vs ++ zs) := by
  obtain ⟨mv, h⟩ := F.kbinds0 (ps := ["self", "size", "pairs", "bottom"]) 3 ["bottom"] [] (fun a _ c => a ++ c) (by simp) (fun q h => nomatch h) (fun r _ t => r.append t) (fun D doc pm an cdv ct us mv ws h1 h2 h3 => match us, mv, ws, h1, h2, h3 with
    | [_, _, _], [], [_], _, _, _ => rfl)
  exact ⟨_, h⟩
theorem kb_RowList1 (F : FunD K "__init__" "RowList.__init__" (defArgs s_iRowList) (defBody s_iRowList) (defScope s_iRowList) [] [("bottom", V.int 1)] f fd) : ∃ g, KBn K fd ["self", "size", "pairs", "bottom"] 3 [] g (fun vs _ => vs ++ [V.int 1]) := by
  obtain ⟨mv, h⟩ := F.kbinds0 (ps := ["self", "size", "pairs", "bottom"]) 3 [] [("bottom", V.int 1)] (fun a m _ => a ++ m) (by simp) (fun q h => h) (fun r m _ => r.append m) (fun D doc pm an cdv ct us mv ws h1 h2 h3 => match us, mv, ws, h1, h2, h3 with
    | [_, _, _], [_], [], _, _, _ => ⟨_, _, _, _, _, _, rfl, rfl, rfl⟩)
  exact ⟨_, h⟩
/-- isinstance of a built-in thing and an own class -/
theorem kit_subT {D : Addr} {T : String} {b : Bool} (i : PySem.W.isClsIn K D = true) (t : PySem.W.typeIn K (.ref D) = some (.type "type")) (s : PySem.W.subIn K (.type T) (.ref D) = some b) : PySem.W.kitOne K (.type T) (.ref D) = some b := by
  have h2 : ((PySem.W.clsIn K D).isSome && PySem.W.typeIn K (.ref D) == some (.type "type")) = true := by
    have i' : (PySem.W.clsIn K D).isSome = true := i
    rw [i', t]
    rfl
  show (if _ then _ else _) = _
  rw [if_neg (by exact Bool.false_ne_true)]
  show (if _ then _ else _) = _
  rw [if_pos h2]
  exact s
/-- what stands of such a def -/
theorem funD_of {x qual : Str} {st : Stmt} {D : Addr} {od an : Option Addr} {sl : Array (Option Value)} {oc dc pm cd ct : Value} {tk : Tok} (l : K.lookup f = some ⟨oc, od, .func (PySem.W.fnOf x qual (defArgs st) (defBody st) (defScope st) .none (.ref D) dc pm an cd ct), sl⟩) (c : PySem.W.codeIn K cd qual = true) (k : PySem.W.keepIn K (.ref f) = true)
    (d : PySem.W.nsIn K D "bottom" = some (some (.int 1 tk))) : FunD K x qual (defArgs st) (defBody st) (defScope st) [] [("bottom", V.int 1)] f (PySem.W.fnOf x qual (defArgs st) (defBody st) (defScope st) .none (.ref D) dc pm an cd ct) :=
  ⟨⟨_, _, _, _, _, _, _, _, _, _, rfl, l, c, .inl ⟨rfl, rfl⟩, .inr ⟨D, rfl, fun q hq => by rw [List.mem_singleton.mp hq]; exact ⟨_, d, _, rfl⟩⟩⟩, k⟩
end
end P03
namespace P03
open PySem PySem.Spec PyProof.Rows L2 SX EX WK
theorem all_mk {l : PySem.W.OpenLaw} {w : World} {K : PySem.W.Frag} {h : Heap} {mg : Str → Option Value} {fa f1 f2 f3 f4 f5 f6 f7 f8 f9 f10 f11 f12 f13 f14 f15 f16 f17 f18 f19 f20 f21 f22 f23 f24 f25 f26 f27 f28 f29 f30 f31 f32 f33 f34 f35 f36 f37 f38 f39 f40 f41 f42 f43 f44 f45 c_CableError c_SizesDiffer c_BadRow c_BadWeight c_BadBundle c_BadIndex c_BadTie c_CountsDiffer c_Form c_RowList : Addr} (X : K.In h) (G : h.Ns mainGlobals mg) (hfa : mg "law" = some (.ref fa))
    {od1 an1 od2 an2 od3 an3 od4 an4 od5 an5 od6 an6 od7 an7 od8 an8 od9 an9 od10 an10 od11 an11 od12 an12 od13 an13 od14 an14 od15 an15 od16 an16 od17 an17 od18 an18 od19 an19 od20 an20 od21 an21 od22 an22 od23 an23 od24 an24 od25 an25 od26 an26 od27 an27 od28 an28 od29 an29 od30 an30 od31 an31 od32 an32 od33 an33 od34 an34 od35 an35 od36 an36 od37 an37 od38 an38 od39 an39 od40 an40 od41 an41 od42 an42 od43 an43 od44 an44 od45 an45 : Option Addr}
    {sl1 sl2 sl3 sl4 sl5 sl6 sl7 sl8 sl9 sl10 sl11 sl12 sl13 sl14 sl15 sl16 sl17 sl18 sl19 sl20 sl21 sl22 sl23 sl24 sl25 sl26 sl27 sl28 sl29 sl30 sl31 sl32 sl33 sl34 sl35 sl36 sl37 sl38 sl39 sl40 sl41 sl42 sl43 sl44 sl45 : Array (Option Value)} {oc1 kV1 dc1 pm1 cd1 ct1 oc2 kV2 dc2 pm2 cd2 ct2 oc3 kV3 dc3 pm3 cd3 ct3 oc4 kV4 dc4 pm4 cd4 ct4 oc5 kV5 dc5 pm5 cd5 ct5 oc6 kV6 dc6 pm6 cd6 ct6 oc7 kV7 dc7 pm7 cd7 ct7 oc8 kV8 dc8 pm8 cd8 ct8 oc9 kV9 dc9 pm9 cd9 ct9 oc10 kV10 dc10 pm10 cd10 ct10 oc11 kV11 dc11 pm11 cd11 ct11 oc12 kV12 dc12 pm12 cd12 ct12 oc13 kV13 dc13 pm13 cd13 ct13 oc14 kV14 dc14 pm14 cd14 ct14 oc15 kV15 dc15 pm15 cd15 ct15 oc16 kV16 dc16 pm16 cd16 ct16 oc17 kV17 dc17 pm17 cd17 ct17 oc18 kV18 dc18 pm18 cd18 ct18 oc19 kV19 dc19 pm19 cd19 ct19 oc20 kV20 dc20 pm20 cd20 ct20 oc21 kV21 dc21 pm21 cd21 ct21 oc22 kV22 dc22 pm22 cd22 ct22 oc23 kV23 dc23 pm23 cd23 ct23 oc24 kV24 dc24 pm24 cd24 ct24 oc25 kV25 dc25 pm25 cd25 ct25 oc26 kV26 dc26 pm26 cd26 ct26 oc27 kV27 dc27 pm27 cd27 ct27 oc28 kV28 dc28 pm28 cd28 ct28 oc29 kV29 dc29 pm29 cd29 ct29 oc30 kV30 dc30 pm30 cd30 ct30 oc31 kV31 dc31 pm31 cd31 ct31 oc32 kV32 dc32 pm32 cd32 ct32 oc33 kV33 dc33 pm33 cd33 ct33 oc34 kV34 dc34 pm34 cd34 ct34 oc35 kV35 dc35 pm35 cd35 ct35 oc36 kV36 dc36 pm36 cd36 ct36 oc37 kV37 dc37 pm37 cd37 ct37 oc38 kV38 dc38 pm38 cd38 ct38 oc39 kV39 dc39 pm39 cd39 ct39 oc40 kV40 dc40 pm40 cd40 ct40 oc41 kV41 dc41 pm41 cd41 ct41 oc42 kV42 dc42 pm42 cd42 ct42 oc43 kV43 dc43 pm43 cd43 ct43 oc44 kV44 dc44 pm44 cd44 ct44 oc45 kV45 dc45 pm45 cd45 ct45 : Value}
    {nm_SizesDiffer q_SizesDiffer : Str} {N_SizesDiffer : Addr} {bs_SizesDiffer sub_SizesDiffer : List Value} {sn_SizesDiffer : List Str} {ab_SizesDiffer : Bool} {col_SizesDiffer : Option Bool} {dd_SizesDiffer : Option Addr} {m0_SizesDiffer m1_SizesDiffer m2_SizesDiffer m3_SizesDiffer m5_SizesDiffer : Option Value}
    {f_SizesDiffer : Addr} {odi_SizesDiffer ani_SizesDiffer : Option Addr} {sli_SizesDiffer : Array (Option Value)} {oci_SizesDiffer kVi_SizesDiffer dci_SizesDiffer pmi_SizesDiffer cdi_SizesDiffer cti_SizesDiffer : Value}
    {nm_BadRow q_BadRow : Str} {N_BadRow : Addr} {bs_BadRow sub_BadRow : List Value} {sn_BadRow : List Str} {ab_BadRow : Bool} {col_BadRow : Option Bool} {dd_BadRow : Option Addr} {m0_BadRow m1_BadRow m2_BadRow m3_BadRow m5_BadRow : Option Value}
    {f_BadRow : Addr} {odi_BadRow ani_BadRow : Option Addr} {sli_BadRow : Array (Option Value)} {oci_BadRow kVi_BadRow dci_BadRow pmi_BadRow cdi_BadRow cti_BadRow : Value}
    {nm_BadWeight q_BadWeight : Str} {N_BadWeight : Addr} {bs_BadWeight sub_BadWeight : List Value} {sn_BadWeight : List Str} {ab_BadWeight : Bool} {col_BadWeight : Option Bool} {dd_BadWeight : Option Addr} {m0_BadWeight m1_BadWeight m2_BadWeight m3_BadWeight m5_BadWeight : Option Value}
    {f_BadWeight : Addr} {odi_BadWeight ani_BadWeight : Option Addr} {sli_BadWeight : Array (Option Value)} {oci_BadWeight kVi_BadWeight dci_BadWeight pmi_BadWeight cdi_BadWeight cti_BadWeight : Value}
    {f_Form D_Form : Addr} {odi_Form ani_Form : Option Addr} {sli_Form : Array (Option Value)} {oci_Form dci_Form pmi_Form cdi_Form cti_Form : Value} {tki_Form : Tok}
    {f_RowList D_RowList : Addr} {odi_RowList ani_RowList : Option Addr} {sli_RowList : Array (Option Value)} {oci_RowList dci_RowList pmi_RowList cdi_RowList cti_RowList : Value} {tki_RowList : Tok}
    {h_mEq : Addr} {odm_mEq anm_mEq : Option Addr} {slm_mEq : Array (Option Value)} {ocm_mEq kVm_mEq dcm_mEq pmm_mEq cdm_mEq ctm_mEq : Value}
    {h_mLen : Addr} {odm_mLen anm_mLen : Option Addr} {slm_mLen : Array (Option Value)} {ocm_mLen kVm_mLen dcm_mLen pmm_mLen cdm_mLen ctm_mLen : Value}
    {h_mIter : Addr} {odm_mIter anm_mIter : Option Addr} {slm_mIter : Array (Option Value)} {ocm_mIter kVm_mIter dcm_mIter pmm_mIter cdm_mIter ctm_mIter : Value}
    {h_mAdd : Addr} {odm_mAdd anm_mAdd : Option Addr} {slm_mAdd : Array (Option Value)} {ocm_mAdd kVm_mAdd dcm_mAdd pmm_mAdd cdm_mAdd ctm_mAdd : Value}
    {h_mScaled : Addr} {odm_mScaled anm_mScaled : Option Addr} {slm_mScaled : Array (Option Value)} {ocm_mScaled kVm_mScaled dcm_mScaled pmm_mScaled cdm_mScaled ctm_mScaled : Value}
    {h_mPicked : Addr} {odm_mPicked anm_mPicked : Option Addr} {slm_mPicked : Array (Option Value)} {ocm_mPicked kVm_mPicked dcm_mPicked pmm_mPicked cdm_mPicked ctm_mPicked : Value}
    {h_mbetween : Addr} {odm_mbetween anm_mbetween : Option Addr} {slm_mbetween : Array (Option Value)} {ocm_mbetween kVm_mbetween dcm_mbetween pmm_mbetween cdm_mbetween ctm_mbetween : Value}
    {h_mcall : Addr} {odm_mcall anm_mcall : Option Addr} {slm_mcall : Array (Option Value)} {ocm_mcall kVm_mcall dcm_mcall pmm_mcall cdm_mcall ctm_mcall : Value}
    (a1 : PySem.W.nsIn K mainGlobals "frozen_numbers" = some (some (.ref f1))) (l1 : K.lookup f1 = some ⟨oc1, od1, .func (PySem.W.fnOf "frozen_numbers" "frozen_numbers" (defArgs s_frozen_numbers) (defBody s_frozen_numbers) (defScope s_frozen_numbers) .none kV1 dc1 pm1 an1 cd1 ct1), sl1⟩) (c1 : PySem.W.codeIn K cd1 "frozen_numbers" = true) (k1 : PySem.W.keepIn K (.ref f1) = true)
    (a2 : PySem.W.nsIn K mainGlobals "frozen_part" = some (some (.ref f2))) (l2 : K.lookup f2 = some ⟨oc2, od2, .func (PySem.W.fnOf "frozen_part" "frozen_part" (defArgs s_frozen_part) (defBody s_frozen_part) (defScope s_frozen_part) .none kV2 dc2 pm2 an2 cd2 ct2), sl2⟩) (c2 : PySem.W.codeIn K cd2 "frozen_part" = true) (k2 : PySem.W.keepIn K (.ref f2) = true)
    (a3 : PySem.W.nsIn K mainGlobals "frozen" = some (some (.ref f3))) (l3 : K.lookup f3 = some ⟨oc3, od3, .func (PySem.W.fnOf "frozen" "frozen" (defArgs s_frozen) (defBody s_frozen) (defScope s_frozen) .none kV3 dc3 pm3 an3 cd3 ct3), sl3⟩) (c3 : PySem.W.codeIn K cd3 "frozen" = true) (k3 : PySem.W.keepIn K (.ref f3) = true)
    (a4 : PySem.W.nsIn K mainGlobals "lowered" = some (some (.ref f4))) (l4 : K.lookup f4 = some ⟨oc4, od4, .func (PySem.W.fnOf "lowered" "lowered" (defArgs s_lowered) (defBody s_lowered) (defScope s_lowered) .none kV4 dc4 pm4 an4 cd4 ct4), sl4⟩) (c4 : PySem.W.codeIn K cd4 "lowered" = true) (k4 : PySem.W.keepIn K (.ref f4) = true)
    (a5 : PySem.W.nsIn K mainGlobals "fraction" = some (some (.ref f5))) (l5 : K.lookup f5 = some ⟨oc5, od5, .func (PySem.W.fnOf "fraction" "fraction" (defArgs s_fraction) (defBody s_fraction) (defScope s_fraction) .none kV5 dc5 pm5 an5 cd5 ct5), sl5⟩) (c5 : PySem.W.codeIn K cd5 "fraction" = true) (k5 : PySem.W.keepIn K (.ref f5) = true)
    (a6 : PySem.W.nsIn K mainGlobals "dot" = some (some (.ref f6))) (l6 : K.lookup f6 = some ⟨oc6, od6, .func (PySem.W.fnOf "dot" "dot" (defArgs s_dot) (defBody s_dot) (defScope s_dot) .none kV6 dc6 pm6 an6 cd6 ct6), sl6⟩) (c6 : PySem.W.codeIn K cd6 "dot" = true) (k6 : PySem.W.keepIn K (.ref f6) = true)
    (a7 : PySem.W.nsIn K mainGlobals "check_square" = some (some (.ref f7))) (l7 : K.lookup f7 = some ⟨oc7, od7, .func (PySem.W.fnOf "check_square" "check_square" (defArgs s_check_square) (defBody s_check_square) (defScope s_check_square) .none kV7 dc7 pm7 an7 cd7 ct7), sl7⟩) (c7 : PySem.W.codeIn K cd7 "check_square" = true) (k7 : PySem.W.keepIn K (.ref f7) = true)
    (a8 : PySem.W.nsIn K mainGlobals "check_symmetric" = some (some (.ref f8))) (l8 : K.lookup f8 = some ⟨oc8, od8, .func (PySem.W.fnOf "check_symmetric" "check_symmetric" (defArgs s_check_symmetric) (defBody s_check_symmetric) (defScope s_check_symmetric) .none kV8 dc8 pm8 an8 cd8 ct8), sl8⟩) (c8 : PySem.W.codeIn K cd8 "check_symmetric" = true) (k8 : PySem.W.keepIn K (.ref f8) = true)
    (a9 : PySem.W.nsIn K mainGlobals "check_point" = some (some (.ref f9))) (l9 : K.lookup f9 = some ⟨oc9, od9, .func (PySem.W.fnOf "check_point" "check_point" (defArgs s_check_point) (defBody s_check_point) (defScope s_check_point) .none kV9 dc9 pm9 an9 cd9 ct9), sl9⟩) (c9 : PySem.W.codeIn K cd9 "check_point" = true) (k9 : PySem.W.keepIn K (.ref f9) = true)
    (a10 : PySem.W.nsIn K mainGlobals "check_pairs" = some (some (.ref f10))) (l10 : K.lookup f10 = some ⟨oc10, od10, .func (PySem.W.fnOf "check_pairs" "check_pairs" (defArgs s_check_pairs) (defBody s_check_pairs) (defScope s_check_pairs) .none kV10 dc10 pm10 an10 cd10 ct10), sl10⟩) (c10 : PySem.W.codeIn K cd10 "check_pairs" = true) (k10 : PySem.W.keepIn K (.ref f10) = true)
    (a11 : PySem.W.nsIn K mainGlobals "weighted_sum" = some (some (.ref f11))) (l11 : K.lookup f11 = some ⟨oc11, od11, .func (PySem.W.fnOf "weighted_sum" "weighted_sum" (defArgs s_weighted_sum) (defBody s_weighted_sum) (defScope s_weighted_sum) .none kV11 dc11 pm11 an11 cd11 ct11), sl11⟩) (c11 : PySem.W.codeIn K cd11 "weighted_sum" = true) (k11 : PySem.W.keepIn K (.ref f11) = true)
    (a12 : PySem.W.nsIn K mainGlobals "weighted_matrix" = some (some (.ref f12))) (l12 : K.lookup f12 = some ⟨oc12, od12, .func (PySem.W.fnOf "weighted_matrix" "weighted_matrix" (defArgs s_weighted_matrix) (defBody s_weighted_matrix) (defScope s_weighted_matrix) .none kV12 dc12 pm12 an12 cd12 ct12), sl12⟩) (c12 : PySem.W.codeIn K cd12 "weighted_matrix" = true) (k12 : PySem.W.keepIn K (.ref f12) = true)
    (a13 : PySem.W.nsIn K mainGlobals "_law_whole" = some (some (.ref f13))) (l13 : K.lookup f13 = some ⟨oc13, od13, .func (PySem.W.fnOf "_law_whole" "_law_whole" (defArgs s__law_whole) (defBody s__law_whole) (defScope s__law_whole) .none kV13 dc13 pm13 an13 cd13 ct13), sl13⟩) (c13 : PySem.W.codeIn K cd13 "_law_whole" = true) (k13 : PySem.W.keepIn K (.ref f13) = true)
    (a14 : PySem.W.nsIn K mainGlobals "_law_cell" = some (some (.ref f14))) (l14 : K.lookup f14 = some ⟨oc14, od14, .func (PySem.W.fnOf "_law_cell" "_law_cell" (defArgs s__law_cell) (defBody s__law_cell) (defScope s__law_cell) .none kV14 dc14 pm14 an14 cd14 ct14), sl14⟩) (c14 : PySem.W.codeIn K cd14 "_law_cell" = true) (k14 : PySem.W.keepIn K (.ref f14) = true)
    (a15 : PySem.W.nsIn K mainGlobals "_law_digits" = some (some (.ref f15))) (l15 : K.lookup f15 = some ⟨oc15, od15, .func (PySem.W.fnOf "_law_digits" "_law_digits" (defArgs s__law_digits) (defBody s__law_digits) (defScope s__law_digits) .none kV15 dc15 pm15 an15 cd15 ct15), sl15⟩) (c15 : PySem.W.codeIn K cd15 "_law_digits" = true) (k15 : PySem.W.keepIn K (.ref f15) = true)
    (a16 : PySem.W.nsIn K mainGlobals "_law_gcd" = some (some (.ref f16))) (l16 : K.lookup f16 = some ⟨oc16, od16, .func (PySem.W.fnOf "_law_gcd" "_law_gcd" (defArgs s__law_gcd) (defBody s__law_gcd) (defScope s__law_gcd) .none kV16 dc16 pm16 an16 cd16 ct16), sl16⟩) (c16 : PySem.W.codeIn K cd16 "_law_gcd" = true) (k16 : PySem.W.keepIn K (.ref f16) = true)
    (a17 : PySem.W.nsIn K mainGlobals "_law_least" = some (some (.ref f17))) (l17 : K.lookup f17 = some ⟨oc17, od17, .func (PySem.W.fnOf "_law_least" "_law_least" (defArgs s__law_least) (defBody s__law_least) (defScope s__law_least) .none kV17 dc17 pm17 an17 cd17 ct17), sl17⟩) (c17 : PySem.W.codeIn K cd17 "_law_least" = true) (k17 : PySem.W.keepIn K (.ref f17) = true)
    (a18 : PySem.W.nsIn K mainGlobals "_law_is_point" = some (some (.ref f18))) (l18 : K.lookup f18 = some ⟨oc18, od18, .func (PySem.W.fnOf "_law_is_point" "_law_is_point" (defArgs s__law_is_point) (defBody s__law_is_point) (defScope s__law_is_point) .none kV18 dc18 pm18 an18 cd18 ct18), sl18⟩) (c18 : PySem.W.codeIn K cd18 "_law_is_point" = true) (k18 : PySem.W.keepIn K (.ref f18) = true)
    (a19 : PySem.W.nsIn K mainGlobals "_law_is_fraction" = some (some (.ref f19))) (l19 : K.lookup f19 = some ⟨oc19, od19, .func (PySem.W.fnOf "_law_is_fraction" "_law_is_fraction" (defArgs s__law_is_fraction) (defBody s__law_is_fraction) (defScope s__law_is_fraction) .none kV19 dc19 pm19 an19 cd19 ct19), sl19⟩) (c19 : PySem.W.codeIn K cd19 "_law_is_fraction" = true) (k19 : PySem.W.keepIn K (.ref f19) = true)
    (a20 : PySem.W.nsIn K mainGlobals "_law_dot" = some (some (.ref f20))) (l20 : K.lookup f20 = some ⟨oc20, od20, .func (PySem.W.fnOf "_law_dot" "_law_dot" (defArgs s__law_dot) (defBody s__law_dot) (defScope s__law_dot) .none kV20 dc20 pm20 an20 cd20 ct20), sl20⟩) (c20 : PySem.W.codeIn K cd20 "_law_dot" = true) (k20 : PySem.W.keepIn K (.ref f20) = true)
    (a21 : PySem.W.nsIn K mainGlobals "_law_table" = some (some (.ref f21))) (l21 : K.lookup f21 = some ⟨oc21, od21, .func (PySem.W.fnOf "_law_table" "_law_table" (defArgs s__law_table) (defBody s__law_table) (defScope s__law_table) .none kV21 dc21 pm21 an21 cd21 ct21), sl21⟩) (c21 : PySem.W.codeIn K cd21 "_law_table" = true) (k21 : PySem.W.keepIn K (.ref f21) = true)
    (a22 : PySem.W.nsIn K mainGlobals "_law_wide" = some (some (.ref f22))) (l22 : K.lookup f22 = some ⟨oc22, od22, .func (PySem.W.fnOf "_law_wide" "_law_wide" (defArgs s__law_wide) (defBody s__law_wide) (defScope s__law_wide) .none kV22 dc22 pm22 an22 cd22 ct22), sl22⟩) (c22 : PySem.W.codeIn K cd22 "_law_wide" = true) (k22 : PySem.W.keepIn K (.ref f22) = true)
    (a23 : PySem.W.nsIn K mainGlobals "_law_draw_row" = some (some (.ref f23))) (l23 : K.lookup f23 = some ⟨oc23, od23, .func (PySem.W.fnOf "_law_draw_row" "_law_draw_row" (defArgs s__law_draw_row) (defBody s__law_draw_row) (defScope s__law_draw_row) .none kV23 dc23 pm23 an23 cd23 ct23), sl23⟩) (c23 : PySem.W.codeIn K cd23 "_law_draw_row" = true) (k23 : PySem.W.keepIn K (.ref f23) = true)
    (a24 : PySem.W.nsIn K mainGlobals "_law_draw_pair" = some (some (.ref f24))) (l24 : K.lookup f24 = some ⟨oc24, od24, .func (PySem.W.fnOf "_law_draw_pair" "_law_draw_pair" (defArgs s__law_draw_pair) (defBody s__law_draw_pair) (defScope s__law_draw_pair) .none kV24 dc24 pm24 an24 cd24 ct24), sl24⟩) (c24 : PySem.W.codeIn K cd24 "_law_draw_pair" = true) (k24 : PySem.W.keepIn K (.ref f24) = true)
    (a25 : PySem.W.nsIn K mainGlobals "_law_draw_point" = some (some (.ref f25))) (l25 : K.lookup f25 = some ⟨oc25, od25, .func (PySem.W.fnOf "_law_draw_point" "_law_draw_point" (defArgs s__law_draw_point) (defBody s__law_draw_point) (defScope s__law_draw_point) .none kV25 dc25 pm25 an25 cd25 ct25), sl25⟩) (c25 : PySem.W.codeIn K cd25 "_law_draw_point" = true) (k25 : PySem.W.keepIn K (.ref f25) = true)
    (a26 : PySem.W.nsIn K mainGlobals "_law_has_pairs" = some (some (.ref f26))) (l26 : K.lookup f26 = some ⟨oc26, od26, .func (PySem.W.fnOf "_law_has_pairs" "_law_has_pairs" (defArgs s__law_has_pairs) (defBody s__law_has_pairs) (defScope s__law_has_pairs) .none kV26 dc26 pm26 an26 cd26 ct26), sl26⟩) (c26 : PySem.W.codeIn K cd26 "_law_has_pairs" = true) (k26 : PySem.W.keepIn K (.ref f26) = true)
    (a27 : PySem.W.nsIn K mainGlobals "_law_has_form" = some (some (.ref f27))) (l27 : K.lookup f27 = some ⟨oc27, od27, .func (PySem.W.fnOf "_law_has_form" "_law_has_form" (defArgs s__law_has_form) (defBody s__law_has_form) (defScope s__law_has_form) .none kV27 dc27 pm27 an27 cd27 ct27), sl27⟩) (c27 : PySem.W.codeIn K cd27 "_law_has_form" = true) (k27 : PySem.W.keepIn K (.ref f27) = true)
    (a28 : PySem.W.nsIn K mainGlobals "_law_value" = some (some (.ref f28))) (l28 : K.lookup f28 = some ⟨oc28, od28, .func (PySem.W.fnOf "_law_value" "_law_value" (defArgs s__law_value) (defBody s__law_value) (defScope s__law_value) .none kV28 dc28 pm28 an28 cd28 ct28), sl28⟩) (c28 : PySem.W.codeIn K cd28 "_law_value" = true) (k28 : PySem.W.keepIn K (.ref f28) = true)
    (a29 : PySem.W.nsIn K mainGlobals "_law_is_list" = some (some (.ref f29))) (l29 : K.lookup f29 = some ⟨oc29, od29, .func (PySem.W.fnOf "_law_is_list" "_law_is_list" (defArgs s__law_is_list) (defBody s__law_is_list) (defScope s__law_is_list) .none kV29 dc29 pm29 an29 cd29 ct29), sl29⟩) (c29 : PySem.W.codeIn K cd29 "_law_is_list" = true) (k29 : PySem.W.keepIn K (.ref f29) = true)
    (a30 : PySem.W.nsIn K mainGlobals "_law_told_sizes" = some (some (.ref f30))) (l30 : K.lookup f30 = some ⟨oc30, od30, .func (PySem.W.fnOf "_law_told_sizes" "_law_told_sizes" (defArgs s__law_told_sizes) (defBody s__law_told_sizes) (defScope s__law_told_sizes) .none kV30 dc30 pm30 an30 cd30 ct30), sl30⟩) (c30 : PySem.W.codeIn K cd30 "_law_told_sizes" = true) (k30 : PySem.W.keepIn K (.ref f30) = true)
    (a31 : PySem.W.nsIn K mainGlobals "_law_caught" = some (some (.ref f31))) (l31 : K.lookup f31 = some ⟨oc31, od31, .func (PySem.W.fnOf "_law_caught" "_law_caught" (defArgs s__law_caught) (defBody s__law_caught) (defScope s__law_caught) .none kV31 dc31 pm31 an31 cd31 ct31), sl31⟩) (c31 : PySem.W.codeIn K cd31 "_law_caught" = true) (k31 : PySem.W.keepIn K (.ref f31) = true)
    (a32 : PySem.W.nsIn K mainGlobals "_law_made" = some (some (.ref f32))) (l32 : K.lookup f32 = some ⟨oc32, od32, .func (PySem.W.fnOf "_law_made" "_law_made" (defArgs s__law_made) (defBody s__law_made) (defScope s__law_made) .none kV32 dc32 pm32 an32 cd32 ct32), sl32⟩) (c32 : PySem.W.codeIn K cd32 "_law_made" = true) (k32 : PySem.W.keepIn K (.ref f32) = true)
    (a33 : PySem.W.nsIn K mainGlobals "_law_joined" = some (some (.ref f33))) (l33 : K.lookup f33 = some ⟨oc33, od33, .func (PySem.W.fnOf "_law_joined" "_law_joined" (defArgs s__law_joined) (defBody s__law_joined) (defScope s__law_joined) .none kV33 dc33 pm33 an33 cd33 ct33), sl33⟩) (c33 : PySem.W.codeIn K cd33 "_law_joined" = true) (k33 : PySem.W.keepIn K (.ref f33) = true)
    (a34 : PySem.W.nsIn K mainGlobals "_law_scaled" = some (some (.ref f34))) (l34 : K.lookup f34 = some ⟨oc34, od34, .func (PySem.W.fnOf "_law_scaled" "_law_scaled" (defArgs s__law_scaled) (defBody s__law_scaled) (defScope s__law_scaled) .none kV34 dc34 pm34 an34 cd34 ct34), sl34⟩) (c34 : PySem.W.codeIn K cd34 "_law_scaled" = true) (k34 : PySem.W.keepIn K (.ref f34) = true)
    (a35 : PySem.W.nsIn K mainGlobals "_law_picked" = some (some (.ref f35))) (l35 : K.lookup f35 = some ⟨oc35, od35, .func (PySem.W.fnOf "_law_picked" "_law_picked" (defArgs s__law_picked) (defBody s__law_picked) (defScope s__law_picked) .none kV35 dc35 pm35 an35 cd35 ct35), sl35⟩) (c35 : PySem.W.codeIn K cd35 "_law_picked" = true) (k35 : PySem.W.keepIn K (.ref f35) = true)
    (a36 : PySem.W.nsIn K mainGlobals "_law_places" = some (some (.ref f36))) (l36 : K.lookup f36 = some ⟨oc36, od36, .func (PySem.W.fnOf "_law_places" "_law_places" (defArgs s__law_places) (defBody s__law_places) (defScope s__law_places) .none kV36 dc36 pm36 an36 cd36 ct36), sl36⟩) (c36 : PySem.W.codeIn K cd36 "_law_places" = true) (k36 : PySem.W.keepIn K (.ref f36) = true)
    (a37 : PySem.W.nsIn K mainGlobals "_law_asked_again" = some (some (.ref f37))) (l37 : K.lookup f37 = some ⟨oc37, od37, .func (PySem.W.fnOf "_law_asked_again" "_law_asked_again" (defArgs s__law_asked_again) (defBody s__law_asked_again) (defScope s__law_asked_again) .none kV37 dc37 pm37 an37 cd37 ct37), sl37⟩) (c37 : PySem.W.codeIn K cd37 "_law_asked_again" = true) (k37 : PySem.W.keepIn K (.ref f37) = true)
    (a38 : PySem.W.nsIn K mainGlobals "_law_spoilt" = some (some (.ref f38))) (l38 : K.lookup f38 = some ⟨oc38, od38, .func (PySem.W.fnOf "_law_spoilt" "_law_spoilt" (defArgs s__law_spoilt) (defBody s__law_spoilt) (defScope s__law_spoilt) .none kV38 dc38 pm38 an38 cd38 ct38), sl38⟩) (c38 : PySem.W.codeIn K cd38 "_law_spoilt" = true) (k38 : PySem.W.keepIn K (.ref f38) = true)
    (a39 : PySem.W.nsIn K mainGlobals "_law_fault" = some (some (.ref f39))) (l39 : K.lookup f39 = some ⟨oc39, od39, .func (PySem.W.fnOf "_law_fault" "_law_fault" (defArgs s__law_fault) (defBody s__law_fault) (defScope s__law_fault) .none kV39 dc39 pm39 an39 cd39 ct39), sl39⟩) (c39 : PySem.W.codeIn K cd39 "_law_fault" = true) (k39 : PySem.W.keepIn K (.ref f39) = true)
    (a40 : PySem.W.nsIn K mainGlobals "_law_raised" = some (some (.ref f40))) (l40 : K.lookup f40 = some ⟨oc40, od40, .func (PySem.W.fnOf "_law_raised" "_law_raised" (defArgs s__law_raised) (defBody s__law_raised) (defScope s__law_raised) .none kV40 dc40 pm40 an40 cd40 ct40), sl40⟩) (c40 : PySem.W.codeIn K cd40 "_law_raised" = true) (k40 : PySem.W.keepIn K (.ref f40) = true)
    (a41 : PySem.W.nsIn K mainGlobals "_law_says" = some (some (.ref f41))) (l41 : K.lookup f41 = some ⟨oc41, od41, .func (PySem.W.fnOf "_law_says" "_law_says" (defArgs s__law_says) (defBody s__law_says) (defScope s__law_says) .none kV41 dc41 pm41 an41 cd41 ct41), sl41⟩) (c41 : PySem.W.codeIn K cd41 "_law_says" = true) (k41 : PySem.W.keepIn K (.ref f41) = true)
    (a42 : PySem.W.nsIn K mainGlobals "_law_fields" = some (some (.ref f42))) (l42 : K.lookup f42 = some ⟨oc42, od42, .func (PySem.W.fnOf "_law_fields" "_law_fields" (defArgs s__law_fields) (defBody s__law_fields) (defScope s__law_fields) .none kV42 dc42 pm42 an42 cd42 ct42), sl42⟩) (c42 : PySem.W.codeIn K cd42 "_law_fields" = true) (k42 : PySem.W.keepIn K (.ref f42) = true)
    (a43 : PySem.W.nsIn K mainGlobals "_law_equal_right" = some (some (.ref f43))) (l43 : K.lookup f43 = some ⟨oc43, od43, .func (PySem.W.fnOf "_law_equal_right" "_law_equal_right" (defArgs s__law_equal_right) (defBody s__law_equal_right) (defScope s__law_equal_right) .none kV43 dc43 pm43 an43 cd43 ct43), sl43⟩) (c43 : PySem.W.codeIn K cd43 "_law_equal_right" = true) (k43 : PySem.W.keepIn K (.ref f43) = true)
    (a44 : PySem.W.nsIn K mainGlobals "_law_draw_two" = some (some (.ref f44))) (l44 : K.lookup f44 = some ⟨oc44, od44, .func (PySem.W.fnOf "_law_draw_two" "_law_draw_two" (defArgs s__law_draw_two) (defBody s__law_draw_two) (defScope s__law_draw_two) .none kV44 dc44 pm44 an44 cd44 ct44), sl44⟩) (c44 : PySem.W.codeIn K cd44 "_law_draw_two" = true) (k44 : PySem.W.keepIn K (.ref f44) = true)
    (a45 : PySem.W.nsIn K mainGlobals "law" = some (some (.ref f45))) (l45 : K.lookup f45 = some ⟨oc45, od45, .func (PySem.W.fnOf "law" "law" (defArgs s_law) (defBody s_law) (defScope s_law) .none kV45 dc45 pm45 an45 cd45 ct45), sl45⟩) (c45 : PySem.W.codeIn K cd45 "law" = true) (k45 : PySem.W.keepIn K (.ref f45) = true)
    (z0 : PySem.W.nsIn K mainGlobals "len" = some none)
    (z1 : PySem.W.nsIn K mainGlobals "int" = some none)
    (z2 : PySem.W.nsIn K mainGlobals "bool" = some none)
    (z3 : PySem.W.nsIn K mainGlobals "tuple" = some none)
    (z4 : PySem.W.nsIn K mainGlobals "list" = some none)
    (z5 : PySem.W.nsIn K mainGlobals "iter" = some none)
    (z6 : PySem.W.nsIn K mainGlobals "isinstance" = some none)
    (z7 : PySem.W.nsIn K mainGlobals "range" = some none)
    (z8 : PySem.W.nsIn K mainGlobals "enumerate" = some none)
    (z9 : PySem.W.nsIn K mainGlobals "zip" = some none)
    (z10 : PySem.W.nsIn K mainGlobals "sum" = some none)
    (z11 : PySem.W.nsIn K mainGlobals "min" = some none)
    (z12 : PySem.W.nsIn K mainGlobals "abs" = some none)
    (z13 : PySem.W.nsIn K mainGlobals "all" = some none)
    (z14 : PySem.W.nsIn K mainGlobals "ValueError" = some none)
    (g_gcd : PySem.W.nsIn K mainGlobals "gcd" = some (some (.builtin "math.gcd")))
    (a_CableError : PySem.W.nsIn K mainGlobals "CableError" = some (some (.ref c_CableError)))
    (a_SizesDiffer : PySem.W.nsIn K mainGlobals "SizesDiffer" = some (some (.ref c_SizesDiffer)))
    (a_BadRow : PySem.W.nsIn K mainGlobals "BadRow" = some (some (.ref c_BadRow)))
    (a_BadWeight : PySem.W.nsIn K mainGlobals "BadWeight" = some (some (.ref c_BadWeight)))
    (a_BadBundle : PySem.W.nsIn K mainGlobals "BadBundle" = some (some (.ref c_BadBundle)))
    (a_BadIndex : PySem.W.nsIn K mainGlobals "BadIndex" = some (some (.ref c_BadIndex)))
    (a_BadTie : PySem.W.nsIn K mainGlobals "BadTie" = some (some (.ref c_BadTie)))
    (a_CountsDiffer : PySem.W.nsIn K mainGlobals "CountsDiffer" = some (some (.ref c_CountsDiffer)))
    (a_Form : PySem.W.nsIn K mainGlobals "Form" = some (some (.ref c_Form)))
    (a_RowList : PySem.W.nsIn K mainGlobals "RowList" = some (some (.ref c_RowList)))
    (i_CableError : PySem.W.isClsIn K c_CableError = true)
    (y_CableError : PySem.W.typeIn K (.ref c_CableError) = some (.type "type"))
    (i_SizesDiffer : PySem.W.isClsIn K c_SizesDiffer = true)
    (y_SizesDiffer : PySem.W.typeIn K (.ref c_SizesDiffer) = some (.type "type"))
    (i_BadRow : PySem.W.isClsIn K c_BadRow = true)
    (y_BadRow : PySem.W.typeIn K (.ref c_BadRow) = some (.type "type"))
    (i_BadWeight : PySem.W.isClsIn K c_BadWeight = true)
    (y_BadWeight : PySem.W.typeIn K (.ref c_BadWeight) = some (.type "type"))
    (i_BadBundle : PySem.W.isClsIn K c_BadBundle = true)
    (y_BadBundle : PySem.W.typeIn K (.ref c_BadBundle) = some (.type "type"))
    (i_BadIndex : PySem.W.isClsIn K c_BadIndex = true)
    (y_BadIndex : PySem.W.typeIn K (.ref c_BadIndex) = some (.type "type"))
    (i_BadTie : PySem.W.isClsIn K c_BadTie = true)
    (y_BadTie : PySem.W.typeIn K (.ref c_BadTie) = some (.type "type"))
    (i_CountsDiffer : PySem.W.isClsIn K c_CountsDiffer = true)
    (y_CountsDiffer : PySem.W.typeIn K (.ref c_CountsDiffer) = some (.type "type"))
    (b_CableError : PySem.W.subIn K (.ref c_CableError) (.type "BaseException") = some true)
    (b_SizesDiffer : PySem.W.subIn K (.ref c_SizesDiffer) (.type "BaseException") = some true)
    (b_BadRow : PySem.W.subIn K (.ref c_BadRow) (.type "BaseException") = some true)
    (b_BadWeight : PySem.W.subIn K (.ref c_BadWeight) (.type "BaseException") = some true)
    (xl_SizesDiffer : K.lookup c_SizesDiffer = some (excClassObj nm_SizesDiffer q_SizesDiffer c_SizesDiffer N_SizesDiffer bs_SizesDiffer [.ref c_CableError, .type "ValueError", .type "Exception", .type "BaseException", .type "object"] true sn_SizesDiffer sub_SizesDiffer ab_SizesDiffer col_SizesDiffer dd_SizesDiffer m0_SizesDiffer m1_SizesDiffer m2_SizesDiffer m3_SizesDiffer m5_SizesDiffer "ValueError.__new__"))
    (sa_SizesDiffer : PySem.W.findIn K (.ref c_SizesDiffer) "__setattr__" = some (some (.builtin "object.__setattr__")))
    (ga_SizesDiffer : PySem.W.findIn K (.ref c_SizesDiffer) "__getattribute__" = some (some (.builtin "BaseException.__getattribute__")))
    (gg_SizesDiffer : PySem.W.findIn K (.ref c_SizesDiffer) "__getattr__" = some none)
    (ca_SizesDiffer : PySem.W.findIn K (.ref c_SizesDiffer) "__class__" = some (some (.builtin "object.__class__")))
    (cm_SizesDiffer : PySem.W.mroIn K c_SizesDiffer (.type "object") = some true)
    (hd_SizesDiffer : PySem.W.hasDictIn K c_SizesDiffer = true)
    (kp_SizesDiffer : PySem.W.keepIn K (.ref c_SizesDiffer) = true)
    (no_SizesDiffer_one : PySem.W.findIn K (.ref c_SizesDiffer) "one" = some none)
    (no_SizesDiffer_two : PySem.W.findIn K (.ref c_SizesDiffer) "two" = some none)
    (in_SizesDiffer : PySem.W.findIn K (.ref c_SizesDiffer) "__init__" = some (some (.ref f_SizesDiffer)))
    (tf_SizesDiffer : PySem.W.typeIn K (.ref f_SizesDiffer) = some (.type "function"))
    (lf_SizesDiffer : K.lookup f_SizesDiffer = some ⟨oci_SizesDiffer, odi_SizesDiffer, .func (PySem.W.fnOf "__init__" "SizesDiffer.__init__" (defArgs s_iSD) (defBody s_iSD) (defScope s_iSD) .none kVi_SizesDiffer dci_SizesDiffer pmi_SizesDiffer ani_SizesDiffer cdi_SizesDiffer cti_SizesDiffer), sli_SizesDiffer⟩)
    (cf_SizesDiffer : PySem.W.codeIn K cdi_SizesDiffer "SizesDiffer.__init__" = true)
    (kf_SizesDiffer : PySem.W.keepIn K (.ref f_SizesDiffer) = true)
    (xl_BadRow : K.lookup c_BadRow = some (excClassObj nm_BadRow q_BadRow c_BadRow N_BadRow bs_BadRow [.ref c_CableError, .type "ValueError", .type "Exception", .type "BaseException", .type "object"] true sn_BadRow sub_BadRow ab_BadRow col_BadRow dd_BadRow m0_BadRow m1_BadRow m2_BadRow m3_BadRow m5_BadRow "ValueError.__new__"))
    (sa_BadRow : PySem.W.findIn K (.ref c_BadRow) "__setattr__" = some (some (.builtin "object.__setattr__")))
    (ga_BadRow : PySem.W.findIn K (.ref c_BadRow) "__getattribute__" = some (some (.builtin "BaseException.__getattribute__")))
    (gg_BadRow : PySem.W.findIn K (.ref c_BadRow) "__getattr__" = some none)
    (ca_BadRow : PySem.W.findIn K (.ref c_BadRow) "__class__" = some (some (.builtin "object.__class__")))
    (cm_BadRow : PySem.W.mroIn K c_BadRow (.type "object") = some true)
    (hd_BadRow : PySem.W.hasDictIn K c_BadRow = true)
    (kp_BadRow : PySem.W.keepIn K (.ref c_BadRow) = true)
    (no_BadRow_index : PySem.W.findIn K (.ref c_BadRow) "index" = some none)
    (in_BadRow : PySem.W.findIn K (.ref c_BadRow) "__init__" = some (some (.ref f_BadRow)))
    (tf_BadRow : PySem.W.typeIn K (.ref f_BadRow) = some (.type "function"))
    (lf_BadRow : K.lookup f_BadRow = some ⟨oci_BadRow, odi_BadRow, .func (PySem.W.fnOf "__init__" "BadRow.__init__" (defArgs s_iBR) (defBody s_iBR) (defScope s_iBR) .none kVi_BadRow dci_BadRow pmi_BadRow ani_BadRow cdi_BadRow cti_BadRow), sli_BadRow⟩)
    (cf_BadRow : PySem.W.codeIn K cdi_BadRow "BadRow.__init__" = true)
    (kf_BadRow : PySem.W.keepIn K (.ref f_BadRow) = true)
    (xl_BadWeight : K.lookup c_BadWeight = some (excClassObj nm_BadWeight q_BadWeight c_BadWeight N_BadWeight bs_BadWeight [.ref c_CableError, .type "ValueError", .type "Exception", .type "BaseException", .type "object"] true sn_BadWeight sub_BadWeight ab_BadWeight col_BadWeight dd_BadWeight m0_BadWeight m1_BadWeight m2_BadWeight m3_BadWeight m5_BadWeight "ValueError.__new__"))
    (sa_BadWeight : PySem.W.findIn K (.ref c_BadWeight) "__setattr__" = some (some (.builtin "object.__setattr__")))
    (ga_BadWeight : PySem.W.findIn K (.ref c_BadWeight) "__getattribute__" = some (some (.builtin "BaseException.__getattribute__")))
    (gg_BadWeight : PySem.W.findIn K (.ref c_BadWeight) "__getattr__" = some none)
    (ca_BadWeight : PySem.W.findIn K (.ref c_BadWeight) "__class__" = some (some (.builtin "object.__class__")))
    (cm_BadWeight : PySem.W.mroIn K c_BadWeight (.type "object") = some true)
    (hd_BadWeight : PySem.W.hasDictIn K c_BadWeight = true)
    (kp_BadWeight : PySem.W.keepIn K (.ref c_BadWeight) = true)
    (no_BadWeight_index : PySem.W.findIn K (.ref c_BadWeight) "index" = some none)
    (in_BadWeight : PySem.W.findIn K (.ref c_BadWeight) "__init__" = some (some (.ref f_BadWeight)))
    (tf_BadWeight : PySem.W.typeIn K (.ref f_BadWeight) = some (.type "function"))
    (lf_BadWeight : K.lookup f_BadWeight = some ⟨oci_BadWeight, odi_BadWeight, .func (PySem.W.fnOf "__init__" "BadWeight.__init__" (defArgs s_iBW) (defBody s_iBW) (defScope s_iBW) .none kVi_BadWeight dci_BadWeight pmi_BadWeight ani_BadWeight cdi_BadWeight cti_BadWeight), sli_BadWeight⟩)
    (cf_BadWeight : PySem.W.codeIn K cdi_BadWeight "BadWeight.__init__" = true)
    (kf_BadWeight : PySem.W.keepIn K (.ref f_BadWeight) = true)
    (pg_Form : PySem.W.plainGet K c_Form Str.empty = true)
    (hd_Form : PySem.W.hasDictIn K c_Form = true)
    (po_Form : PySem.W.plainOver K c_Form = true)
    (sa_Form : PySem.W.findIn K (.ref c_Form) "__setattr__" = some (some (.builtin "object.__setattr__")))
    (mk_Form : PySem.W.makesIn K c_Form = true)
    (kc_Form : PySem.W.keepIn K (.ref c_Form) = true)
    (na_Form_size : PySem.W.findIn K (.ref c_Form) "size" = some none)
    (na_Form_entries : PySem.W.findIn K (.ref c_Form) "entries" = some none)
    (na_Form_bottom : PySem.W.findIn K (.ref c_Form) "bottom" = some none)
    (in_Form : PySem.W.findIn K (.ref c_Form) "__init__" = some (some (.ref f_Form)))
    (isf_Form : PySem.W.isFn K (.ref f_Form) = true)
    (lf_Form : K.lookup f_Form = some ⟨oci_Form, odi_Form, .func (PySem.W.fnOf "__init__" "Form.__init__" (defArgs s_iForm) (defBody s_iForm) (defScope s_iForm) .none (.ref D_Form) dci_Form pmi_Form ani_Form cdi_Form cti_Form), sli_Form⟩)
    (cf_Form : PySem.W.codeIn K cdi_Form "Form.__init__" = true)
    (kf_Form : PySem.W.keepIn K (.ref f_Form) = true)
    (kd_Form : PySem.W.nsIn K D_Form "bottom" = some (some (.int 1 tki_Form)))
    (pg_RowList : PySem.W.plainGet K c_RowList Str.empty = true)
    (hd_RowList : PySem.W.hasDictIn K c_RowList = true)
    (po_RowList : PySem.W.plainOver K c_RowList = true)
    (sa_RowList : PySem.W.findIn K (.ref c_RowList) "__setattr__" = some (some (.builtin "object.__setattr__")))
    (mk_RowList : PySem.W.makesIn K c_RowList = true)
    (kc_RowList : PySem.W.keepIn K (.ref c_RowList) = true)
    (na_RowList_size : PySem.W.findIn K (.ref c_RowList) "size" = some none)
    (na_RowList_pairs : PySem.W.findIn K (.ref c_RowList) "pairs" = some none)
    (na_RowList_bottom : PySem.W.findIn K (.ref c_RowList) "bottom" = some none)
    (na_RowList_form : PySem.W.findIn K (.ref c_RowList) "form" = some none)
    (in_RowList : PySem.W.findIn K (.ref c_RowList) "__init__" = some (some (.ref f_RowList)))
    (isf_RowList : PySem.W.isFn K (.ref f_RowList) = true)
    (lf_RowList : K.lookup f_RowList = some ⟨oci_RowList, odi_RowList, .func (PySem.W.fnOf "__init__" "RowList.__init__" (defArgs s_iRowList) (defBody s_iRowList) (defScope s_iRowList) .none (.ref D_RowList) dci_RowList pmi_RowList ani_RowList cdi_RowList cti_RowList), sli_RowList⟩)
    (cf_RowList : PySem.W.codeIn K cdi_RowList "RowList.__init__" = true)
    (kf_RowList : PySem.W.keepIn K (.ref f_RowList) = true)
    (kd_RowList : PySem.W.nsIn K D_RowList "bottom" = some (some (.int 1 tki_RowList)))
    (me_mEq : PySem.W.findIn K (.ref c_RowList) "__eq__" = some (some (.ref h_mEq)))
    (mf_mEq : PySem.W.isFn K (.ref h_mEq) = true)
    (ml_mEq : K.lookup h_mEq = some ⟨ocm_mEq, odm_mEq, .func (PySem.W.fnOf "__eq__" "RowList.__eq__" (defArgs s_mEq) (defBody s_mEq) (defScope s_mEq) .none kVm_mEq dcm_mEq pmm_mEq anm_mEq cdm_mEq ctm_mEq), slm_mEq⟩)
    (mc_mEq : PySem.W.codeIn K cdm_mEq "RowList.__eq__" = true)
    (mp_mEq : PySem.W.keepIn K (.ref h_mEq) = true)
    (me_mLen : PySem.W.findIn K (.ref c_RowList) "__len__" = some (some (.ref h_mLen)))
    (mf_mLen : PySem.W.isFn K (.ref h_mLen) = true)
    (ml_mLen : K.lookup h_mLen = some ⟨ocm_mLen, odm_mLen, .func (PySem.W.fnOf "__len__" "RowList.__len__" (defArgs s_mLen) (defBody s_mLen) (defScope s_mLen) .none kVm_mLen dcm_mLen pmm_mLen anm_mLen cdm_mLen ctm_mLen), slm_mLen⟩)
    (mc_mLen : PySem.W.codeIn K cdm_mLen "RowList.__len__" = true)
    (mp_mLen : PySem.W.keepIn K (.ref h_mLen) = true)
    (me_mIter : PySem.W.findIn K (.ref c_RowList) "__iter__" = some (some (.ref h_mIter)))
    (mf_mIter : PySem.W.isFn K (.ref h_mIter) = true)
    (ml_mIter : K.lookup h_mIter = some ⟨ocm_mIter, odm_mIter, .func (PySem.W.fnOf "__iter__" "RowList.__iter__" (defArgs s_mIter) (defBody s_mIter) (defScope s_mIter) .none kVm_mIter dcm_mIter pmm_mIter anm_mIter cdm_mIter ctm_mIter), slm_mIter⟩)
    (mc_mIter : PySem.W.codeIn K cdm_mIter "RowList.__iter__" = true)
    (mp_mIter : PySem.W.keepIn K (.ref h_mIter) = true)
    (me_mAdd : PySem.W.findIn K (.ref c_RowList) "__add__" = some (some (.ref h_mAdd)))
    (mf_mAdd : PySem.W.isFn K (.ref h_mAdd) = true)
    (ml_mAdd : K.lookup h_mAdd = some ⟨ocm_mAdd, odm_mAdd, .func (PySem.W.fnOf "__add__" "RowList.__add__" (defArgs s_mAdd) (defBody s_mAdd) (defScope s_mAdd) .none kVm_mAdd dcm_mAdd pmm_mAdd anm_mAdd cdm_mAdd ctm_mAdd), slm_mAdd⟩)
    (mc_mAdd : PySem.W.codeIn K cdm_mAdd "RowList.__add__" = true)
    (mp_mAdd : PySem.W.keepIn K (.ref h_mAdd) = true)
    (me_mScaled : PySem.W.findIn K (.ref c_RowList) "scaled" = some (some (.ref h_mScaled)))
    (mf_mScaled : PySem.W.isFn K (.ref h_mScaled) = true)
    (ml_mScaled : K.lookup h_mScaled = some ⟨ocm_mScaled, odm_mScaled, .func (PySem.W.fnOf "scaled" "RowList.scaled" (defArgs s_mScaled) (defBody s_mScaled) (defScope s_mScaled) .none kVm_mScaled dcm_mScaled pmm_mScaled anm_mScaled cdm_mScaled ctm_mScaled), slm_mScaled⟩)
    (mc_mScaled : PySem.W.codeIn K cdm_mScaled "RowList.scaled" = true)
    (mp_mScaled : PySem.W.keepIn K (.ref h_mScaled) = true)
    (me_mPicked : PySem.W.findIn K (.ref c_RowList) "picked" = some (some (.ref h_mPicked)))
    (mf_mPicked : PySem.W.isFn K (.ref h_mPicked) = true)
    (ml_mPicked : K.lookup h_mPicked = some ⟨ocm_mPicked, odm_mPicked, .func (PySem.W.fnOf "picked" "RowList.picked" (defArgs s_mPicked) (defBody s_mPicked) (defScope s_mPicked) .none kVm_mPicked dcm_mPicked pmm_mPicked anm_mPicked cdm_mPicked ctm_mPicked), slm_mPicked⟩)
    (mc_mPicked : PySem.W.codeIn K cdm_mPicked "RowList.picked" = true)
    (mp_mPicked : PySem.W.keepIn K (.ref h_mPicked) = true)
    (me_mbetween : PySem.W.findIn K (.ref c_Form) "between" = some (some (.ref h_mbetween)))
    (mf_mbetween : PySem.W.isFn K (.ref h_mbetween) = true)
    (ml_mbetween : K.lookup h_mbetween = some ⟨ocm_mbetween, odm_mbetween, .func (PySem.W.fnOf "between" "Form.between" (defArgs s_mbetween) (defBody s_mbetween) (defScope s_mbetween) .none kVm_mbetween dcm_mbetween pmm_mbetween anm_mbetween cdm_mbetween ctm_mbetween), slm_mbetween⟩)
    (mc_mbetween : PySem.W.codeIn K cdm_mbetween "Form.between" = true)
    (mp_mbetween : PySem.W.keepIn K (.ref h_mbetween) = true)
    (me_mcall : PySem.W.findIn K (.ref c_Form) "__call__" = some (some (.ref h_mcall)))
    (mf_mcall : PySem.W.isFn K (.ref h_mcall) = true)
    (ml_mcall : K.lookup h_mcall = some ⟨ocm_mcall, odm_mcall, .func (PySem.W.fnOf "__call__" "Form.__call__" (defArgs s_mcall) (defBody s_mcall) (defScope s_mcall) .none kVm_mcall dcm_mcall pmm_mcall anm_mcall cdm_mcall ctm_mcall), slm_mcall⟩)
    (mc_mcall : PySem.W.codeIn K cdm_mcall "Form.__call__" = true)
    (mp_mcall : PySem.W.keepIn K (.ref h_mcall) = true)
    (mi_mcall : PySem.W.fnIn K h_mcall = true)
    (i_Form : PySem.W.isClsIn K c_Form = true)
    (y_Form : PySem.W.typeIn K (.ref c_Form) = some (.type "type"))
    (oc_Form : PySem.W.findIn K (.ref c_Form) "__class__" = some (some (.builtin "object.__class__")))
    (om_Form : PySem.W.mroIn K c_Form (.type "object") = some true)
    (i_RowList : PySem.W.isClsIn K c_RowList = true)
    (y_RowList : PySem.W.typeIn K (.ref c_RowList) = some (.type "type"))
    (oc_RowList : PySem.W.findIn K (.ref c_RowList) "__class__" = some (some (.builtin "object.__class__")))
    (om_RowList : PySem.W.mroIn K c_RowList (.type "object") = some true)
    (cn0 : PySem.W.specialIn K (.builtin "object.__class__") "__get__" = some (some (.builtin "getset_descriptor.__get__")))
    (ct0 : PySem.W.takesIn K (.builtin "object.__class__") = some true)
    (sf_RowList : PySem.W.selfFirst K c_RowList = true)
    (nR : PySem.W.notFirst K c_RowList (.ref c_RowList) = true)
    (nF : PySem.W.notFirst K c_RowList (.ref c_Form) = true)
    (nT : PySem.W.notFirst K c_RowList (.type "tuple") = true)
    (st_RowList : PySem.W.subIn K (.type "tuple") (.ref c_RowList) = some false)
    (s_SizesDiffer_SizesDiffer : PySem.W.subIn K (.ref c_SizesDiffer) (.ref c_SizesDiffer) = some true)
    (s_SizesDiffer_CableError : PySem.W.subIn K (.ref c_SizesDiffer) (.ref c_CableError) = some true)
    (s_BadRow_CableError : PySem.W.subIn K (.ref c_BadRow) (.ref c_CableError) = some true)
    (s_BadWeight_CableError : PySem.W.subIn K (.ref c_BadWeight) (.ref c_CableError) = some true)
    (s_SizesDiffer_BadRow : PySem.W.subIn K (.ref c_SizesDiffer) (.ref c_BadRow) = some false)
    (s_SizesDiffer_CountsDiffer : PySem.W.subIn K (.ref c_SizesDiffer) (.ref c_CountsDiffer) = some false)
    (s_BadRow_BadRow : PySem.W.subIn K (.ref c_BadRow) (.ref c_BadRow) = some true)
    (s_BadRow_BadWeight : PySem.W.subIn K (.ref c_BadRow) (.ref c_BadWeight) = some false)
    (s_BadWeight_BadRow : PySem.W.subIn K (.ref c_BadWeight) (.ref c_BadRow) = some false)
    (s_BadWeight_BadWeight : PySem.W.subIn K (.ref c_BadWeight) (.ref c_BadWeight) = some true)
    (s_Form_Form : PySem.W.subIn K (.ref c_Form) (.ref c_Form) = some true)
    (s_RowList_RowList : PySem.W.subIn K (.ref c_RowList) (.ref c_RowList) = some true)
    (s_Form_RowList : PySem.W.subIn K (.ref c_Form) (.ref c_RowList) = some false)
    (s_BadRow_BadBundle : PySem.W.subIn K (.ref c_BadRow) (.ref c_BadBundle) = some false)
    (s_BadRow_BadIndex : PySem.W.subIn K (.ref c_BadRow) (.ref c_BadIndex) = some false)
    (s_BadRow_BadTie : PySem.W.subIn K (.ref c_BadRow) (.ref c_BadTie) = some false)
    (s_BadRow_SizesDiffer : PySem.W.subIn K (.ref c_BadRow) (.ref c_SizesDiffer) = some false)
    (s_BadWeight_BadBundle : PySem.W.subIn K (.ref c_BadWeight) (.ref c_BadBundle) = some false)
    (s_BadWeight_BadIndex : PySem.W.subIn K (.ref c_BadWeight) (.ref c_BadIndex) = some false)
    (s_BadWeight_BadTie : PySem.W.subIn K (.ref c_BadWeight) (.ref c_BadTie) = some false)
    (s_BadWeight_SizesDiffer : PySem.W.subIn K (.ref c_BadWeight) (.ref c_SizesDiffer) = some false)
    (sb_SizesDiffer_ValueError : PySem.W.subIn K (.ref c_SizesDiffer) (.type "ValueError") = some true)
    (sb_BadRow_ValueError : PySem.W.subIn K (.ref c_BadRow) (.type "ValueError") = some true)
    (sb_BadWeight_ValueError : PySem.W.subIn K (.ref c_BadWeight) (.type "ValueError") = some true)
    : ∃ fd : FuncData, (∀ (s : Shared) (v : Value), BindsTo s fd ⟨[v], []⟩ [("script", v)]) ∧ ∀ base : Heap, K.In base → base.Ns mainGlobals mg → FnOk l.prog w K mg base CX0 12 fa fd ["script"] (spLaw K) := by
  have e := hfa.symm.trans (PySem.W.mg_of X G a45)
  cases e
  have T : Txt mg := { b_len := PySem.W.mg_none_of X G z0, b_int := PySem.W.mg_none_of X G z1, b_bool := PySem.W.mg_none_of X G z2, b_tuple := PySem.W.mg_none_of X G z3, b_list := PySem.W.mg_none_of X G z4, b_iter := PySem.W.mg_none_of X G z5, b_isinstance := PySem.W.mg_none_of X G z6, b_range := PySem.W.mg_none_of X G z7, b_enumerate := PySem.W.mg_none_of X G z8, b_zip := PySem.W.mg_none_of X G z9, b_sum := PySem.W.mg_none_of X G z10, b_min := PySem.W.mg_none_of X G z11, b_abs := PySem.W.mg_none_of X G z12, b_all := PySem.W.mg_none_of X G z13, b_ValueError := PySem.W.mg_none_of X G z14, g_gcd := PySem.W.mg_of X G g_gcd }
  have G_CableError := PySem.W.mg_of X G a_CableError
  have G_SizesDiffer := PySem.W.mg_of X G a_SizesDiffer
  have G_BadRow := PySem.W.mg_of X G a_BadRow
  have G_BadWeight := PySem.W.mg_of X G a_BadWeight
  have G_BadBundle := PySem.W.mg_of X G a_BadBundle
  have G_BadIndex := PySem.W.mg_of X G a_BadIndex
  have G_BadTie := PySem.W.mg_of X G a_BadTie
  have G_CountsDiffer := PySem.W.mg_of X G a_CountsDiffer
  have G_Form := PySem.W.mg_of X G a_Form
  have G_RowList := PySem.W.mg_of X G a_RowList
  have X_SizesDiffer : EX.XCls K c_SizesDiffer := ⟨i_SizesDiffer, ga_SizesDiffer, gg_SizesDiffer, b_SizesDiffer, ca_SizesDiffer, cn0, ct0, cm_SizesDiffer, hd_SizesDiffer, y_SizesDiffer, kp_SizesDiffer⟩
  have O_SizesDiffer : OexC K c_SizesDiffer := ⟨⟨nm_SizesDiffer, q_SizesDiffer, N_SizesDiffer, bs_SizesDiffer, _, sn_SizesDiffer, sub_SizesDiffer, ab_SizesDiffer, col_SizesDiffer, dd_SizesDiffer, m0_SizesDiffer, m1_SizesDiffer, m2_SizesDiffer, m3_SizesDiffer, m5_SizesDiffer, xl_SizesDiffer, by rfl⟩, sa_SizesDiffer, b_SizesDiffer, y_SizesDiffer, kp_SizesDiffer⟩
  have FI_SizesDiffer := fun_mk (st := s_iSD) lf_SizesDiffer cf_SizesDiffer kf_SizesDiffer
  have BI_SizesDiffer := FI_SizesDiffer.binds (ps := ["self", "one", "two"]) fun _ _ _ _ _ _ us hl => match us, hl with | [_, _, _], _ => rfl
  have X_BadRow : EX.XCls K c_BadRow := ⟨i_BadRow, ga_BadRow, gg_BadRow, b_BadRow, ca_BadRow, cn0, ct0, cm_BadRow, hd_BadRow, y_BadRow, kp_BadRow⟩
  have O_BadRow : OexC K c_BadRow := ⟨⟨nm_BadRow, q_BadRow, N_BadRow, bs_BadRow, _, sn_BadRow, sub_BadRow, ab_BadRow, col_BadRow, dd_BadRow, m0_BadRow, m1_BadRow, m2_BadRow, m3_BadRow, m5_BadRow, xl_BadRow, by rfl⟩, sa_BadRow, b_BadRow, y_BadRow, kp_BadRow⟩
  have FI_BadRow := fun_mk (st := s_iBR) lf_BadRow cf_BadRow kf_BadRow
  have BI_BadRow := FI_BadRow.binds (ps := ["self", "index"]) fun _ _ _ _ _ _ us hl => match us, hl with | [_, _], _ => rfl
  have X_BadWeight : EX.XCls K c_BadWeight := ⟨i_BadWeight, ga_BadWeight, gg_BadWeight, b_BadWeight, ca_BadWeight, cn0, ct0, cm_BadWeight, hd_BadWeight, y_BadWeight, kp_BadWeight⟩
  have O_BadWeight : OexC K c_BadWeight := ⟨⟨nm_BadWeight, q_BadWeight, N_BadWeight, bs_BadWeight, _, sn_BadWeight, sub_BadWeight, ab_BadWeight, col_BadWeight, dd_BadWeight, m0_BadWeight, m1_BadWeight, m2_BadWeight, m3_BadWeight, m5_BadWeight, xl_BadWeight, by rfl⟩, sa_BadWeight, b_BadWeight, y_BadWeight, kp_BadWeight⟩
  have FI_BadWeight := fun_mk (st := s_iBW) lf_BadWeight cf_BadWeight kf_BadWeight
  have BI_BadWeight := FI_BadWeight.binds (ps := ["self", "index"]) fun _ _ _ _ _ _ us hl => match us, hl with | [_, _], _ => rfl
  have FO_Form := funD_of (st := s_iForm) lf_Form cf_Form kf_Form kd_Form
  have MK_Form : Mk K c_Form f_Form := ⟨mk_Form, in_Form, isf_Form, kc_Form⟩
  have CL_Form : Cls K c_Form := ⟨pg_Form, hd_Form, po_Form, sa_Form⟩
  have FO_RowList := funD_of (st := s_iRowList) lf_RowList cf_RowList kf_RowList kd_RowList
  have MK_RowList : Mk K c_RowList f_RowList := ⟨mk_RowList, in_RowList, isf_RowList, kc_RowList⟩
  have CL_RowList : Cls K c_RowList := ⟨pg_RowList, hd_RowList, po_RowList, sa_RowList⟩
  have FM_mEq := fun_mk (st := s_mEq) ml_mEq mc_mEq mp_mEq
  have BM_mEq := FM_mEq.binds (ps := ["self", "other"]) fun _ _ _ _ _ _ us hl => match us, hl with | [_, _], _ => rfl
  have FM_mLen := fun_mk (st := s_mLen) ml_mLen mc_mLen mp_mLen
  have BM_mLen := FM_mLen.binds (ps := ["self"]) fun _ _ _ _ _ _ us hl => match us, hl with | [_], _ => rfl
  have FM_mIter := fun_mk (st := s_mIter) ml_mIter mc_mIter mp_mIter
  have BM_mIter := FM_mIter.binds (ps := ["self"]) fun _ _ _ _ _ _ us hl => match us, hl with | [_], _ => rfl
  have FM_mAdd := fun_mk (st := s_mAdd) ml_mAdd mc_mAdd mp_mAdd
  have BM_mAdd := FM_mAdd.binds (ps := ["self", "other"]) fun _ _ _ _ _ _ us hl => match us, hl with | [_, _], _ => rfl
  have FM_mScaled := fun_mk (st := s_mScaled) ml_mScaled mc_mScaled mp_mScaled
  have BM_mScaled := FM_mScaled.binds (ps := ["self", "factor"]) fun _ _ _ _ _ _ us hl => match us, hl with | [_, _], _ => rfl
  have FM_mPicked := fun_mk (st := s_mPicked) ml_mPicked mc_mPicked mp_mPicked
  have BM_mPicked := FM_mPicked.binds (ps := ["self", "indexes"]) fun _ _ _ _ _ _ us hl => match us, hl with | [_, _], _ => rfl
  have FM_mbetween := fun_mk (st := s_mbetween) ml_mbetween mc_mbetween mp_mbetween
  have BM_mbetween := FM_mbetween.binds (ps := ["self", "one", "two"]) fun _ _ _ _ _ _ us hl => match us, hl with | [_, _, _], _ => rfl
  have FM_mcall := fun_mk (st := s_mcall) ml_mcall mc_mcall mp_mcall
  have BM_mcall := FM_mcall.binds (ps := ["self", "point"]) fun _ _ _ _ _ _ us hl => match us, hl with | [_, _], _ => rfl
  have F_frozen_numbers := fun_mk (st := s_frozen_numbers) l1 c1 k1
  have m_frozen_numbers := PySem.W.mg_of X G a1
  have b_frozen_numbers := F_frozen_numbers.binds (ps := ["value"]) fun _ _ _ _ _ _ us hl => match us, hl with | [_], _ => rfl
  have F_frozen_part := fun_mk (st := s_frozen_part) l2 c2 k2
  have m_frozen_part := PySem.W.mg_of X G a2
  have b_frozen_part := F_frozen_part.binds (ps := ["value"]) fun _ _ _ _ _ _ us hl => match us, hl with | [_], _ => rfl
  have F_frozen := fun_mk (st := s_frozen) l3 c3 k3
  have m_frozen := PySem.W.mg_of X G a3
  have b_frozen := F_frozen.binds (ps := ["value"]) fun _ _ _ _ _ _ us hl => match us, hl with | [_], _ => rfl
  have F_lowered := fun_mk (st := s_lowered) l4 c4 k4
  have m_lowered := PySem.W.mg_of X G a4
  have b_lowered := F_lowered.binds (ps := ["numbers", "bottom"]) fun _ _ _ _ _ _ us hl => match us, hl with | [_, _], _ => rfl
  have F_fraction := fun_mk (st := s_fraction) l5 c5 k5
  have m_fraction := PySem.W.mg_of X G a5
  have b_fraction := F_fraction.binds (ps := ["top", "bottom"]) fun _ _ _ _ _ _ us hl => match us, hl with | [_, _], _ => rfl
  have F_dot := fun_mk (st := s_dot) l6 c6 k6
  have m_dot := PySem.W.mg_of X G a6
  have b_dot := F_dot.binds (ps := ["one", "two"]) fun _ _ _ _ _ _ us hl => match us, hl with | [_, _], _ => rfl
  have F_check_square := fun_mk (st := s_check_square) l7 c7 k7
  have m_check_square := PySem.W.mg_of X G a7
  have b_check_square := F_check_square.binds (ps := ["lines"]) fun _ _ _ _ _ _ us hl => match us, hl with | [_], _ => rfl
  have F_check_symmetric := fun_mk (st := s_check_symmetric) l8 c8 k8
  have m_check_symmetric := PySem.W.mg_of X G a8
  have b_check_symmetric := F_check_symmetric.binds (ps := ["lines"]) fun _ _ _ _ _ _ us hl => match us, hl with | [_], _ => rfl
  have F_check_point := fun_mk (st := s_check_point) l9 c9 k9
  have m_check_point := PySem.W.mg_of X G a9
  have b_check_point := F_check_point.binds (ps := ["form", "point"]) fun _ _ _ _ _ _ us hl => match us, hl with | [_, _], _ => rfl
  have F_check_pairs := fun_mk (st := s_check_pairs) l10 c10 k10
  have m_check_pairs := PySem.W.mg_of X G a10
  have b_check_pairs := F_check_pairs.binds (ps := ["size", "pairs"]) fun _ _ _ _ _ _ us hl => match us, hl with | [_, _], _ => rfl
  have F_weighted_sum := fun_mk (st := s_weighted_sum) l11 c11 k11
  have m_weighted_sum := PySem.W.mg_of X G a11
  have b_weighted_sum := F_weighted_sum.binds (ps := ["pairs", "one", "two"]) fun _ _ _ _ _ _ us hl => match us, hl with | [_, _, _], _ => rfl
  have F_weighted_matrix := fun_mk (st := s_weighted_matrix) l12 c12 k12
  have m_weighted_matrix := PySem.W.mg_of X G a12
  have b_weighted_matrix := F_weighted_matrix.binds (ps := ["size", "pairs"]) fun _ _ _ _ _ _ us hl => match us, hl with | [_, _], _ => rfl
  have F__law_whole := fun_mk (st := s__law_whole) l13 c13 k13
  have m__law_whole := PySem.W.mg_of X G a13
  have b__law_whole := F__law_whole.binds (ps := ["value"]) fun _ _ _ _ _ _ us hl => match us, hl with | [_], _ => rfl
  have F__law_cell := fun_mk (st := s__law_cell) l14 c14 k14
  have m__law_cell := PySem.W.mg_of X G a14
  have b__law_cell := F__law_cell.binds (ps := ["script", "k"]) fun _ _ _ _ _ _ us hl => match us, hl with | [_, _], _ => rfl
  have F__law_digits := fun_mk (st := s__law_digits) l15 c15 k15
  have m__law_digits := PySem.W.mg_of X G a15
  have b__law_digits := F__law_digits.binds (ps := ["cell", "sizes"]) fun _ _ _ _ _ _ us hl => match us, hl with | [_, _], _ => rfl
  have F__law_gcd := fun_mk (st := s__law_gcd) l16 c16 k16
  have m__law_gcd := PySem.W.mg_of X G a16
  have b__law_gcd := F__law_gcd.binds (ps := ["one", "two"]) fun _ _ _ _ _ _ us hl => match us, hl with | [_, _], _ => rfl
  have F__law_least := fun_mk (st := s__law_least) l17 c17 k17
  have m__law_least := PySem.W.mg_of X G a17
  have b__law_least := F__law_least.binds (ps := ["top", "under"]) fun _ _ _ _ _ _ us hl => match us, hl with | [_, _], _ => rfl
  have F__law_is_point := fun_mk (st := s__law_is_point) l18 c18 k18
  have m__law_is_point := PySem.W.mg_of X G a18
  have b__law_is_point := F__law_is_point.binds (ps := ["value", "size"]) fun _ _ _ _ _ _ us hl => match us, hl with | [_, _], _ => rfl
  have F__law_is_fraction := fun_mk (st := s__law_is_fraction) l19 c19 k19
  have m__law_is_fraction := PySem.W.mg_of X G a19
  have b__law_is_fraction := F__law_is_fraction.binds (ps := ["value"]) fun _ _ _ _ _ _ us hl => match us, hl with | [_], _ => rfl
  have F__law_dot := fun_mk (st := s__law_dot) l20 c20 k20
  have m__law_dot := PySem.W.mg_of X G a20
  have b__law_dot := F__law_dot.binds (ps := ["one", "two"]) fun _ _ _ _ _ _ us hl => match us, hl with | [_, _], _ => rfl
  have F__law_table := fun_mk (st := s__law_table) l21 c21 k21
  have m__law_table := PySem.W.mg_of X G a21
  have b__law_table := F__law_table.binds (ps := ["size", "pairs"]) fun _ _ _ _ _ _ us hl => match us, hl with | [_, _], _ => rfl
  have F__law_wide := fun_mk (st := s__law_wide) l22 c22 k22
  have m__law_wide := PySem.W.mg_of X G a22
  have b__law_wide := F__law_wide.binds (ps := ["row", "begin", "size"]) fun _ _ _ _ _ _ us hl => match us, hl with | [_, _, _], _ => rfl
  have F__law_draw_row := fun_mk (st := s__law_draw_row) l23 c23 k23
  have m__law_draw_row := PySem.W.mg_of X G a23
  have b__law_draw_row := F__law_draw_row.binds (ps := ["size", "kind", "row"]) fun _ _ _ _ _ _ us hl => match us, hl with | [_, _, _], _ => rfl
  have F__law_draw_pair := fun_mk (st := s__law_draw_pair) l24 c24 k24
  have m__law_draw_pair := PySem.W.mg_of X G a24
  have b__law_draw_pair := F__law_draw_pair.binds (ps := ["cell", "size", "kind", "heavy"]) fun _ _ _ _ _ _ us hl => match us, hl with | [_, _, _, _], _ => rfl
  have F__law_draw_point := fun_mk (st := s__law_draw_point) l25 c25 k25
  have m__law_draw_point := PySem.W.mg_of X G a25
  have b__law_draw_point := F__law_draw_point.binds (ps := ["cell", "size", "row"]) fun _ _ _ _ _ _ us hl => match us, hl with | [_, _, _], _ => rfl
  have F__law_has_pairs := fun_mk (st := s__law_has_pairs) l26 c26 k26
  have m__law_has_pairs := PySem.W.mg_of X G a26
  have b__law_has_pairs := F__law_has_pairs.binds (ps := ["rows", "due"]) fun _ _ _ _ _ _ us hl => match us, hl with | [_, _], _ => rfl
  have F__law_has_form := fun_mk (st := s__law_has_form) l27 c27 k27
  have m__law_has_form := PySem.W.mg_of X G a27
  have b__law_has_form := F__law_has_form.binds (ps := ["form", "due"]) fun _ _ _ _ _ _ us hl => match us, hl with | [_, _], _ => rfl
  have F__law_value := fun_mk (st := s__law_value) l28 c28 k28
  have m__law_value := PySem.W.mg_of X G a28
  have b__law_value := F__law_value.binds (ps := ["due", "point"]) fun _ _ _ _ _ _ us hl => match us, hl with | [_, _], _ => rfl
  have F__law_is_list := fun_mk (st := s__law_is_list) l29 c29 k29
  have m__law_is_list := PySem.W.mg_of X G a29
  have b__law_is_list := F__law_is_list.binds (ps := ["rows", "due", "point"]) fun _ _ _ _ _ _ us hl => match us, hl with | [_, _, _], _ => rfl
  have F__law_told_sizes := fun_mk (st := s__law_told_sizes) l30 c30 k30
  have m__law_told_sizes := PySem.W.mg_of X G a30
  have b__law_told_sizes := F__law_told_sizes.binds (ps := ["one", "two"]) fun _ _ _ _ _ _ us hl => match us, hl with | [_, _], _ => rfl
  have F__law_caught := fun_mk (st := s__law_caught) l31 c31 k31
  have m__law_caught := PySem.W.mg_of X G a31
  have b__law_caught := F__law_caught.binds (ps := ["one", "two"]) fun _ _ _ _ _ _ us hl => match us, hl with | [_, _], _ => rfl
  have F__law_made := fun_mk (st := s__law_made) l32 c32 k32
  have m__law_made := PySem.W.mg_of X G a32
  have b__law_made := F__law_made.binds (ps := ["due", "as_lists"]) fun _ _ _ _ _ _ us hl => match us, hl with | [_, _], _ => rfl
  have F__law_joined := fun_mk (st := s__law_joined) l33 c33 k33
  have m__law_joined := PySem.W.mg_of X G a33
  have b__law_joined := F__law_joined.binds (ps := ["one", "two"]) fun _ _ _ _ _ _ us hl => match us, hl with | [_, _], _ => rfl
  have F__law_scaled := fun_mk (st := s__law_scaled) l34 c34 k34
  have m__law_scaled := PySem.W.mg_of X G a34
  have b__law_scaled := F__law_scaled.binds (ps := ["one", "factor"]) fun _ _ _ _ _ _ us hl => match us, hl with | [_, _], _ => rfl
  have F__law_picked := fun_mk (st := s__law_picked) l35 c35 k35
  have m__law_picked := PySem.W.mg_of X G a35
  have b__law_picked := F__law_picked.binds (ps := ["one", "places"]) fun _ _ _ _ _ _ us hl => match us, hl with | [_, _], _ => rfl
  have F__law_places := fun_mk (st := s__law_places) l36 c36 k36
  have m__law_places := PySem.W.mg_of X G a36
  have b__law_places := F__law_places.binds (ps := ["plan", "many"]) fun _ _ _ _ _ _ us hl => match us, hl with | [_, _], _ => rfl
  have F__law_asked_again := fun_mk (st := s__law_asked_again) l37 c37 k37
  have m__law_asked_again := PySem.W.mg_of X G a37
  have b__law_asked_again := F__law_asked_again.binds (ps := ["rows", "one", "factor", "places", "point"]) fun _ _ _ _ _ _ us hl => match us, hl with | [_, _, _, _, _], _ => rfl
  have F__law_spoilt := fun_mk (st := s__law_spoilt) l38 c38 k38
  have m__law_spoilt := PySem.W.mg_of X G a38
  have b__law_spoilt := F__law_spoilt.binds (ps := ["size", "pairs", "row"]) fun _ _ _ _ _ _ us hl => match us, hl with | [_, _, _], _ => rfl
  have F__law_fault := fun_mk (st := s__law_fault) l39 c39 k39
  have m__law_fault := PySem.W.mg_of X G a39
  have b__law_fault := F__law_fault.binds (ps := ["size", "pairs"]) fun _ _ _ _ _ _ us hl => match us, hl with | [_, _], _ => rfl
  have F__law_raised := fun_mk (st := s__law_raised) l40 c40 k40
  have m__law_raised := PySem.W.mg_of X G a40
  have b__law_raised := F__law_raised.binds (ps := ["size", "pairs", "under"]) fun _ _ _ _ _ _ us hl => match us, hl with | [_, _, _], _ => rfl
  have F__law_says := fun_mk (st := s__law_says) l41 c41 k41
  have m__law_says := PySem.W.mg_of X G a41
  have b__law_says := F__law_says.binds (ps := ["told", "due"]) fun _ _ _ _ _ _ us hl => match us, hl with | [_, _], _ => rfl
  have F__law_fields := fun_mk (st := s__law_fields) l42 c42 k42
  have m__law_fields := PySem.W.mg_of X G a42
  have b__law_fields := F__law_fields.binds (ps := ["due"]) fun _ _ _ _ _ _ us hl => match us, hl with | [_], _ => rfl
  have F__law_equal_right := fun_mk (st := s__law_equal_right) l43 c43 k43
  have m__law_equal_right := PySem.W.mg_of X G a43
  have b__law_equal_right := F__law_equal_right.binds (ps := ["rows", "one", "more", "two"]) fun _ _ _ _ _ _ us hl => match us, hl with | [_, _, _, _], _ => rfl
  have F__law_draw_two := fun_mk (st := s__law_draw_two) l44 c44 k44
  have m__law_draw_two := PySem.W.mg_of X G a44
  have b__law_draw_two := F__law_draw_two.binds (ps := ["script", "shape"]) fun _ _ _ _ _ _ us hl => match us, hl with | [_, _], _ => rfl
  have F_law := fun_mk (st := s_law) l45 c45 k45
  have m_law := PySem.W.mg_of X G a45
  refine ⟨PySem.W.fnOf "law" "law" (defArgs s_law) (defBody s_law) (defScope s_law) .none kV45 dc45 pm45 an45 cd45 ct45, fun s v => .of_eq rfl, fun base _ _ => ?_⟩
  have U : Err K mg c_Form c_RowList c_SizesDiffer c_BadRow c_BadWeight c_CableError c_CountsDiffer c_BadBundle c_BadIndex c_BadTie f_SizesDiffer f_BadRow f_BadWeight := { g_Form := G_Form, g_RowList := G_RowList, g_SizesDiffer := G_SizesDiffer, g_BadRow := G_BadRow, g_BadWeight := G_BadWeight, g_CableError := G_CableError, g_CountsDiffer := G_CountsDiffer, g_BadBundle := G_BadBundle, g_BadIndex := G_BadIndex, g_BadTie := G_BadTie, o_SizesDiffer := O_SizesDiffer, i_SizesDiffer := in_SizesDiffer, t_SizesDiffer := tf_SizesDiffer, o_BadRow := O_BadRow, i_BadRow := in_BadRow, t_BadRow := tf_BadRow, o_BadWeight := O_BadWeight, i_BadWeight := in_BadWeight, t_BadWeight := tf_BadWeight, xS := X_SizesDiffer, xE := X_BadRow, xW := X_BadWeight, no_SizesDiffer_one := no_SizesDiffer_one, no_SizesDiffer_two := no_SizesDiffer_two, no_BadRow_index := no_BadRow_index, no_BadWeight_index := no_BadWeight_index, eSS := EX.exm_sub i_SizesDiffer y_SizesDiffer b_SizesDiffer s_SizesDiffer_SizesDiffer, eSC := EX.exm_sub i_CableError y_CableError b_CableError s_SizesDiffer_CableError, eEC := EX.exm_sub i_CableError y_CableError b_CableError s_BadRow_CableError, eWC := EX.exm_sub i_CableError y_CableError b_CableError s_BadWeight_CableError, kSE := EX.kit_sub i_BadRow y_BadRow s_SizesDiffer_BadRow s_SizesDiffer_SizesDiffer, kSD := EX.kit_sub i_CountsDiffer y_CountsDiffer s_SizesDiffer_CountsDiffer s_SizesDiffer_SizesDiffer, kSV := EX.kit_blt (by decide +kernel) sb_SizesDiffer_ValueError, kEE := EX.kit_sub i_BadRow y_BadRow s_BadRow_BadRow s_BadRow_BadRow, kEW := EX.kit_sub i_BadWeight y_BadWeight s_BadRow_BadWeight s_BadRow_BadRow, kEB := EX.kit_sub i_BadBundle y_BadBundle s_BadRow_BadBundle s_BadRow_BadRow, kEI := EX.kit_sub i_BadIndex y_BadIndex s_BadRow_BadIndex s_BadRow_BadRow, kET := EX.kit_sub i_BadTie y_BadTie s_BadRow_BadTie s_BadRow_BadRow, kES := EX.kit_sub i_SizesDiffer y_SizesDiffer s_BadRow_SizesDiffer s_BadRow_BadRow, kWE := EX.kit_sub i_BadRow y_BadRow s_BadWeight_BadRow s_BadWeight_BadWeight, kWW := EX.kit_sub i_BadWeight y_BadWeight s_BadWeight_BadWeight s_BadWeight_BadWeight, kWB := EX.kit_sub i_BadBundle y_BadBundle s_BadWeight_BadBundle s_BadWeight_BadWeight, kWI := EX.kit_sub i_BadIndex y_BadIndex s_BadWeight_BadIndex s_BadWeight_BadWeight, kWT := EX.kit_sub i_BadTie y_BadTie s_BadWeight_BadTie s_BadWeight_BadWeight, kWS := EX.kit_sub i_SizesDiffer y_SizesDiffer s_BadWeight_SizesDiffer s_BadWeight_BadWeight, kEV := EX.kit_blt (by decide +kernel) sb_BadRow_ValueError, kWV := EX.kit_blt (by decide +kernel) sb_BadWeight_ValueError }
  have INS := ok_iSD (P := l.prog) (w := w) (base := base) FI_SizesDiffer U
  have INE := ok_iBR (P := l.prog) (w := w) (base := base) FI_BadRow U
  have INW := ok_iBW (P := l.prog) (w := w) (base := base) FI_BadWeight U
  have O : Obs K c_Form c_RowList := { clF := CL_Form, F_size := na_Form_size, F_entries := na_Form_entries, F_bottom := na_Form_bottom, clR := CL_RowList, R_size := na_RowList_size, R_pairs := na_RowList_pairs, R_bottom := na_RowList_bottom, R_form := na_RowList_form }
  have V0 : Frm K c_Form c_RowList := { kF := EX.kit_sub i_Form y_Form s_Form_Form s_Form_Form, kR := EX.kit_sub i_RowList y_RowList s_RowList_RowList s_RowList_RowList, kFR := EX.kit_sub i_RowList y_RowList s_Form_RowList s_Form_Form, kTR := kit_subT i_RowList y_RowList st_RowList, f1 := oc_Form, r1 := oc_RowList, c2 := cn0, c3 := ct0, f4 := om_Form, r4 := om_RowList }
  have N0 : NF K c_Form c_RowList := ⟨nR, nF, nT⟩
  obtain ⟨gF, kbF⟩ := kb_Form FO_Form
  obtain ⟨gR, kbR⟩ := kb_RowList FO_RowList
  obtain ⟨gR1, kbR1⟩ := kb_RowList1 FO_RowList
  have C_frozen_numbers : Cal l.prog w K mg base 1 "frozen_numbers" ["value"] (spFz K 1) := ⟨_, _, ok_frozen_numbers F_frozen_numbers T, m_frozen_numbers, F_frozen_numbers.kp, b_frozen_numbers⟩
  have C_frozen_part : Cal l.prog w K mg base 2 "frozen_part" ["value"] (spFz K 2) := ⟨_, _, ok_frozen_part F_frozen_part T C_frozen_numbers, m_frozen_part, F_frozen_part.kp, b_frozen_part⟩
  have C_frozen : Cal l.prog w K mg base 3 "frozen" ["value"] (spFz K 3) := ⟨_, _, ok_frozen F_frozen T C_frozen_part, m_frozen, F_frozen.kp, b_frozen⟩
  have C_lowered : Cal l.prog w K mg base 1 "lowered" ["numbers", "bottom"] spLow := ⟨_, _, ok_lowered F_lowered T, m_lowered, F_lowered.kp, b_lowered⟩
  have C_fraction : Cal l.prog w K mg base 1 "fraction" ["top", "bottom"] spFraction := ⟨_, _, ok_fraction F_fraction T, m_fraction, F_fraction.kp, b_fraction⟩
  have C_check_square : Cal l.prog w K mg base 1 "check_square" ["lines"] (spSquare K) := ⟨_, _, ok_check_square F_check_square T, m_check_square, F_check_square.kp, b_check_square⟩
  have C_check_symmetric : Cal l.prog w K mg base 1 "check_symmetric" ["lines"] (spSymm K) := ⟨_, _, ok_check_symmetric F_check_symmetric T, m_check_symmetric, F_check_symmetric.kp, b_check_symmetric⟩
  have C_check_pairs : Cal l.prog w K mg base 1 "check_pairs" ["size", "pairs"] (spPairs K) := ⟨_, _, ok_check_pairs F_check_pairs T, m_check_pairs, F_check_pairs.kp, b_check_pairs⟩
  have C_weighted_sum : Cal l.prog w K mg base 1 "weighted_sum" ["pairs", "one", "two"] (spWsum K) := ⟨_, _, ok_weighted_sum F_weighted_sum T, m_weighted_sum, F_weighted_sum.kp, b_weighted_sum⟩
  have C_weighted_matrix : Cal l.prog w K mg base 2 "weighted_matrix" ["size", "pairs"] (spWmat K) := ⟨_, _, ok_weighted_matrix F_weighted_matrix T C_weighted_sum, m_weighted_matrix, F_weighted_matrix.kp, b_weighted_matrix⟩
  have C__law_cell : Cal l.prog w K mg base 1 "_law_cell" ["script", "k"] (spCell K) := ⟨_, _, ok__law_cell F__law_cell T, m__law_cell, F__law_cell.kp, b__law_cell⟩
  have C__law_digits : Cal l.prog w K mg base 1 "_law_digits" ["cell", "sizes"] (spDigits K) := ⟨_, _, ok__law_digits F__law_digits T, m__law_digits, F__law_digits.kp, b__law_digits⟩
  have C__law_whole : Cal l.prog w K mg base 1 "_law_whole" ["value"] spLaw_whole := ⟨_, _, ok__law_whole F__law_whole T, m__law_whole, F__law_whole.kp, b__law_whole⟩
  have C__law_gcd : Cal l.prog w K mg base 1 "_law_gcd" ["one", "two"] spGcd := ⟨_, _, ok__law_gcd F__law_gcd T, m__law_gcd, F__law_gcd.kp, b__law_gcd⟩
  have C__law_is_fraction : Cal l.prog w K mg base 2 "_law_is_fraction" ["value"] spFrac := ⟨_, _, ok__law_is_fraction F__law_is_fraction T C__law_whole C__law_gcd, m__law_is_fraction, F__law_is_fraction.kp, b__law_is_fraction⟩
  have C_dot : Cal l.prog w K mg base 1 "dot" ["one", "two"] (spDot K) := ⟨_, _, ok_dot F_dot T, m_dot, F_dot.kp, b_dot⟩
  have C_check_point : Cal l.prog w K mg base 1 "check_point" ["form", "point"] (spPoint K c_Form) := ⟨_, _, ok_check_point F_check_point T O, m_check_point, F_check_point.kp, b_check_point⟩
  have C__law_is_point : Cal l.prog w K mg base 2 "_law_is_point" ["value", "size"] (spIsPoint K) := ⟨_, _, ok__law_is_point F__law_is_point T C__law_whole, m__law_is_point, F__law_is_point.kp, b__law_is_point⟩
  have C__law_dot : Cal l.prog w K mg base 1 "_law_dot" ["one", "two"] (spDot K) := ⟨_, _, ok__law_dot F__law_dot T, m__law_dot, F__law_dot.kp, b__law_dot⟩
  have C__law_table : Cal l.prog w K mg base 1 "_law_table" ["size", "pairs"] (spTab K) := ⟨_, _, ok__law_table F__law_table T, m__law_table, F__law_table.kp, b__law_table⟩
  have C__law_least : Cal l.prog w K mg base 2 "_law_least" ["top", "under"] spLeast := ⟨_, _, ok__law_least F__law_least T C__law_gcd, m__law_least, F__law_least.kp, b__law_least⟩
  have C__law_wide : Cal l.prog w K mg base 1 "_law_wide" ["row", "begin", "size"] spWide := ⟨_, _, ok__law_wide F__law_wide T, m__law_wide, F__law_wide.kp, b__law_wide⟩
  have C__law_draw_row : Cal l.prog w K mg base 2 "_law_draw_row" ["size", "kind", "row"] spDrow := ⟨_, _, ok__law_draw_row F__law_draw_row T C__law_wide, m__law_draw_row, F__law_draw_row.kp, b__law_draw_row⟩
  have C__law_draw_pair : Cal l.prog w K mg base 3 "_law_draw_pair" ["cell", "size", "kind", "heavy"] spDpair := ⟨_, _, ok__law_draw_pair F__law_draw_pair T C__law_digits C__law_draw_row, m__law_draw_pair, F__law_draw_pair.kp, b__law_draw_pair⟩
  have C__law_draw_point : Cal l.prog w K mg base 2 "_law_draw_point" ["cell", "size", "row"] spDpoint := ⟨_, _, ok__law_draw_point F__law_draw_point T C__law_digits C__law_wide, m__law_draw_point, F__law_draw_point.kp, b__law_draw_point⟩
  have C__law_fault : Cal l.prog w K mg base 1 "_law_fault" ["size", "pairs"] spFault := ⟨_, _, ok__law_fault F__law_fault T, m__law_fault, F__law_fault.kp, b__law_fault⟩
  have C__law_spoilt : Cal l.prog w K mg base 1 "_law_spoilt" ["size", "pairs", "row"] spSpoilt := ⟨_, _, ok__law_spoilt F__law_spoilt T, m__law_spoilt, F__law_spoilt.kp, b__law_spoilt⟩
  have C__law_value : Cal l.prog w K mg base 3 "_law_value" ["due", "point"] spVal := ⟨_, _, ok__law_value F__law_value T C__law_dot C__law_least, m__law_value, F__law_value.kp, b__law_value⟩
  have C__law_joined : Cal l.prog w K mg base 1 "_law_joined" ["one", "two"] spJoin := ⟨_, _, ok__law_joined F__law_joined T, m__law_joined, F__law_joined.kp, b__law_joined⟩
  have C__law_scaled : Cal l.prog w K mg base 1 "_law_scaled" ["one", "factor"] (spScl K) := ⟨_, _, ok__law_scaled F__law_scaled T, m__law_scaled, F__law_scaled.kp, b__law_scaled⟩
  have C__law_picked : Cal l.prog w K mg base 1 "_law_picked" ["one", "places"] spPck := ⟨_, _, ok__law_picked F__law_picked T, m__law_picked, F__law_picked.kp, b__law_picked⟩
  have C__law_says : Cal l.prog w K mg base 1 "_law_says" ["told", "due"] spSays := ⟨_, _, ok__law_says F__law_says T, m__law_says, F__law_says.kp, b__law_says⟩
  have C__law_fields : Cal l.prog w K mg base 2 "_law_fields" ["due"] spFlds := ⟨_, _, ok__law_fields F__law_fields T C__law_gcd, m__law_fields, F__law_fields.kp, b__law_fields⟩
  have C__law_places : Cal l.prog w K mg base 1 "_law_places" ["plan", "many"] spPlaces := ⟨_, _, ok__law_places F__law_places T, m__law_places, F__law_places.kp, b__law_places⟩
  have C__law_draw_two : Cal l.prog w K mg base 4 "_law_draw_two" ["script", "shape"] (spTwo K) := ⟨_, _, ok__law_draw_two F__law_draw_two T C__law_draw_pair C__law_cell, m__law_draw_two, F__law_draw_two.kp, b__law_draw_two⟩
  have C_Form : CalK l.prog w K mg base 4 "Form" c_Form 1 ["bottom"] (spForm K c_Form) := ⟨_, _, _, gF, MK_Form, ok_iForm FO_Form T O C_frozen C_check_square C_check_symmetric C_lowered, G_Form, kbF⟩
  have C_RowList : CalK l.prog w K mg base 6 "RowList" c_RowList 2 ["bottom"] (spRows K c_Form c_RowList) := ⟨_, _, _, gR, MK_RowList, ok_iRowList FO_RowList T O C_frozen C_check_pairs C_lowered C_weighted_matrix C_Form, G_RowList, kbR⟩
  have C1_RowList : CalK1 l.prog w K mg base 6 "RowList" c_RowList 2 (spRows K c_Form c_RowList) := ⟨_, _, _, gR1, MK_RowList, ok_iRowList FO_RowList T O C_frozen C_check_pairs C_lowered C_weighted_matrix C_Form, G_RowList, kbR1⟩
  have CX_check_pairs : EX.CalX l.prog w K mg base 4 "check_pairs" ["size", "pairs"] (spPairsX K c_BadRow c_BadWeight) := ⟨_, _, okx_check_pairs F_check_pairs T U INE BI_BadRow INW BI_BadWeight, m_check_pairs, F_check_pairs.kp, b_check_pairs⟩
  have CX_RowList : CalKX l.prog w K mg base 6 "RowList" c_RowList 2 ["bottom"] (spRowsX K c_Form c_RowList c_BadRow c_BadWeight) := ⟨_, _, _, gR, MK_RowList, okx_iRowList FO_RowList T O C_frozen CX_check_pairs C_lowered C_weighted_matrix C_Form, G_RowList, kbR⟩
  have CX_add : AddX l.prog w K mg base c_Form c_RowList c_SizesDiffer := ⟨_, _, okx_mAdd FM_mAdd T U O INS BI_SizesDiffer C_RowList, sf_RowList, me_mAdd, mf_mAdd, BM_mAdd⟩
  have C_add : AddOk l.prog w K mg base c_Form c_RowList := ⟨_, _, ok_mAdd FM_mAdd T O C_RowList, sf_RowList, me_mAdd, mf_mAdd, BM_mAdd⟩
  have C_len : LenOk l.prog w K mg base c_Form c_RowList := ⟨_, _, ok_mLen FM_mLen T O, ⟨me_mLen, mf_mLen⟩, BM_mLen⟩
  have C_iter : IterOk l.prog w K mg base c_RowList := ⟨_, _, ok_mIter FM_mIter T O, ⟨me_mIter, mf_mIter⟩, BM_mIter⟩
  have C_eq : EqOk l.prog w K mg base c_Form c_RowList := ⟨_, _, ok_mEq FM_mEq T U.toGls O V0, me_mEq, mf_mEq, BM_mEq⟩
  have C_mbetween : CalM l.prog w K mg base 2 c_Form "between" ["self", "one", "two"] (spBetw K c_Form) := ⟨_, _, ok_mbetween FM_mbetween T O C_check_point C_fraction C_dot, ⟨me_mbetween, mf_mbetween, mp_mbetween⟩, BM_mbetween⟩
  have C_form : CallF l.prog w K mg base c_Form := ⟨_, _, ok_mcall FM_mcall T O C_mbetween, ⟨me_mcall, mf_mcall, mi_mcall⟩, BM_mcall⟩
  have C_mScaled : CalM l.prog w K mg base 8 c_RowList "scaled" ["self", "factor"] (spScaled K c_Form c_RowList) := ⟨_, _, ok_mScaled FM_mScaled T O C_RowList, ⟨me_mScaled, mf_mScaled, mp_mScaled⟩, BM_mScaled⟩
  have C_mPicked : CalM l.prog w K mg base 8 c_RowList "picked" ["self", "indexes"] (spPicked K c_Form c_RowList) := ⟨_, _, ok_mPicked FM_mPicked T O C_RowList, ⟨me_mPicked, mf_mPicked, mp_mPicked⟩, BM_mPicked⟩
  have CH__law_whole : EX.CalH l.prog w K mg base 1 "_law_whole" ["value"] spLaw_whole := ⟨_, _, okH__law_whole F__law_whole T, m__law_whole, F__law_whole.kp, b__law_whole⟩
  have C__law_has_form : Cal l.prog w K mg base 4 "_law_has_form" ["form", "due"] (spHasF K c_Form) := ⟨_, _, ok__law_has_form F__law_has_form T U.toGls O V0 C__law_table C__law_whole C__law_is_point C__law_gcd, m__law_has_form, F__law_has_form.kp, b__law_has_form⟩
  have C__law_told_sizes : Cal l.prog w K mg base 10 "_law_told_sizes" ["one", "two"] (spTold K c_Form c_RowList) := ⟨_, _, ok__law_told_sizes F__law_told_sizes T U CX_add CH__law_whole, m__law_told_sizes, F__law_told_sizes.kp, b__law_told_sizes⟩
  have C__law_caught : Cal l.prog w K mg base 10 "_law_caught" ["one", "two"] (spCaught K c_Form c_RowList) := ⟨_, _, ok__law_caught F__law_caught T U CX_add, m__law_caught, F__law_caught.kp, b__law_caught⟩
  have C__law_raised : Cal l.prog w K mg base 10 "_law_raised" ["size", "pairs", "under"] spRaised := ⟨_, _, ok__law_raised F__law_raised T U CX_RowList CH__law_whole, m__law_raised, F__law_raised.kp, b__law_raised⟩
  have C__law_has_pairs : Cal l.prog w K mg base 4 "_law_has_pairs" ["rows", "due"] (spHasP K c_Form c_RowList) := ⟨_, _, ok__law_has_pairs F__law_has_pairs T O C_len C_iter C__law_whole C__law_is_point C__law_gcd, m__law_has_pairs, F__law_has_pairs.kp, b__law_has_pairs⟩
  have C__law_is_list : Cal l.prog w K mg base 5 "_law_is_list" ["rows", "due", "point"] (spIsL K c_Form c_RowList) := ⟨_, _, ok__law_is_list F__law_is_list T O C_form C__law_has_pairs C__law_has_form C__law_is_fraction C__law_value C__law_dot, m__law_is_list, F__law_is_list.kp, b__law_is_list⟩
  have C__law_made : Cal l.prog w K mg base 8 "_law_made" ["due", "as_lists"] (spMade K c_Form c_RowList) := ⟨_, _, ok__law_made F__law_made T C_RowList C1_RowList, m__law_made, F__law_made.kp, b__law_made⟩
  have C__law_asked_again : Cal l.prog w K mg base 10 "_law_asked_again" ["rows", "one", "factor", "places", "point"] (spAsk K c_Form c_RowList) := ⟨_, _, ok__law_asked_again F__law_asked_again T O C__law_is_list C_mPicked C_mScaled C__law_picked C__law_scaled, m__law_asked_again, F__law_asked_again.kp, b__law_asked_again⟩
  have C__law_equal_right : Cal l.prog w K mg base 10 "_law_equal_right" ["rows", "one", "more", "two"] (spEqual K c_Form c_RowList) := ⟨_, _, ok__law_equal_right F__law_equal_right T O V0 N0 C_eq C__law_fields C__law_says C__law_made, m__law_equal_right, F__law_equal_right.kp, b__law_equal_right⟩
  exact ok_law F_law T O C_add C_mPicked C_mScaled C__law_digits C__law_cell C__law_draw_two C__law_draw_point C__law_made C__law_spoilt C__law_places C__law_joined C__law_is_list C__law_asked_again C__law_scaled C__law_raised C__law_fault C__law_equal_right C__law_picked C__law_caught C__law_told_sizes
theorem walk {l : PySem.W.OpenLaw} {q : Program} {loose : List Str} {XP : (Str → Option Value) → Heap → Prop} {YP : World → Heap → Prop} {d : DefRec} {K : Params → PySem.W.Frag} (hn : l.most = some 63) (hdf : d.params.defaults = [])
    (hY : ∀ (w : World) (h : Heap), YP w h → (K w.params).In h)
    (F : ∀ (w : World) (mg : Str → Option Value) (fa : Addr) (h : Heap), (K w.params).In h → h.Ns mainGlobals mg → mg d.name = some (.ref fa) →
      ∃ fd : FuncData, (∀ (s : Shared) (u : Value), BindsTo s fd ⟨[u], []⟩ [("script", u)]) ∧ ∀ base : Heap, (K w.params).In base → base.Ns mainGlobals mg → FnOk l.prog w (K w.params) mg base CX0 12 fa fd ["script"] (spLaw (K w.params))) :
    PySem.W.WalkO q loose XP YP l.row.toRowW d [] (fun f vs => PySem.call f vs) :=
  L2.walk_of (n := 63) (k := 12) (x := "script") (CX := fun _ => CX0) (sp := fun w => spLaw (K w.params)) hn (by decide) hdf ⟨rfl, by decide, by decide⟩ hY F (fun _ _ a ns hl _ hS => ⟨a, ns, rfl, hS, hl, fun _ => rfl⟩) fun _ _ _ _ _ z => z
end P03
open PySem PySem.W PyProof.Rows
set_option maxRecDepth 100000 in
set_option maxHeartbeats 0 in
theorem PySem.Challenge.cw_wholecables_k03_list_value_whole_holds : PySem.Challenge.rw_wholecables_k03_list_value_whole.Holds := by
  w_on; o_law; k_head; (case hw => w_witness2)
  k_fill
  refine P03.walk (l := PySem.Challenge.rw_wholecables_k03_list_value_whole) rfl rfl (fun w h Y => PySem.W.kIn_of Y) ?F
  case F =>
    intro w mg fa h KX G hmg
    refine' P03.all_mk KX G hmg ?a1 ?l1 ?c1 ?k1 ?a2 ?l2 ?c2 ?k2 ?a3 ?l3 ?c3 ?k3 ?a4 ?l4 ?c4 ?k4 ?a5 ?l5 ?c5 ?k5 ?a6 ?l6 ?c6 ?k6 ?a7 ?l7 ?c7 ?k7 ?a8 ?l8 ?c8 ?k8 ?a9 ?l9 ?c9 ?k9 ?a10 ?l10 ?c10 ?k10 ?a11 ?l11 ?c11 ?k11 ?a12 ?l12 ?c12 ?k12 ?a13 ?l13 ?c13 ?k13 ?a14 ?l14 ?c14 ?k14 ?a15 ?l15 ?c15 ?k15 ?a16 ?l16 ?c16 ?k16 ?a17 ?l17 ?c17 ?k17 ?a18 ?l18 ?c18 ?k18 ?a19 ?l19 ?c19 ?k19 ?a20 ?l20 ?c20 ?k20 ?a21 ?l21 ?c21 ?k21 ?a22 ?l22 ?c22 ?k22 ?a23 ?l23 ?c23 ?k23 ?a24 ?l24 ?c24 ?k24 ?a25 ?l25 ?c25 ?k25 ?a26 ?l26 ?c26 ?k26 ?a27 ?l27 ?c27 ?k27 ?a28 ?l28 ?c28 ?k28 ?a29 ?l29 ?c29 ?k29 ?a30 ?l30 ?c30 ?k30 ?a31 ?l31 ?c31 ?k31 ?a32 ?l32 ?c32 ?k32 ?a33 ?l33 ?c33 ?k33 ?a34 ?l34 ?c34 ?k34 ?a35 ?l35 ?c35 ?k35 ?a36 ?l36 ?c36 ?k36 ?a37 ?l37 ?c37 ?k37 ?a38 ?l38 ?c38 ?k38 ?a39 ?l39 ?c39 ?k39 ?a40 ?l40 ?c40 ?k40 ?a41 ?l41 ?c41 ?k41 ?a42 ?l42 ?c42 ?k42 ?a43 ?l43 ?c43 ?k43 ?a44 ?l44 ?c44 ?k44 ?a45 ?l45 ?c45 ?k45 ?z0 ?z1 ?z2 ?z3 ?z4 ?z5 ?z6 ?z7 ?z8 ?z9 ?z10 ?z11 ?z12 ?z13 ?z14 ?g_gcd ?a_CableError ?a_SizesDiffer ?a_BadRow ?a_BadWeight ?a_BadBundle ?a_BadIndex ?a_BadTie ?a_CountsDiffer ?a_Form ?a_RowList ?i_CableError ?y_CableError ?i_SizesDiffer ?y_SizesDiffer ?i_BadRow ?y_BadRow ?i_BadWeight ?y_BadWeight ?i_BadBundle ?y_BadBundle ?i_BadIndex ?y_BadIndex ?i_BadTie ?y_BadTie ?i_CountsDiffer ?y_CountsDiffer ?b_CableError ?b_SizesDiffer ?b_BadRow ?b_BadWeight ?xl_SizesDiffer ?sa_SizesDiffer ?ga_SizesDiffer ?gg_SizesDiffer ?ca_SizesDiffer ?cm_SizesDiffer ?hd_SizesDiffer ?kp_SizesDiffer ?no_SizesDiffer_one ?no_SizesDiffer_two ?in_SizesDiffer ?tf_SizesDiffer ?lf_SizesDiffer ?cf_SizesDiffer ?kf_SizesDiffer ?xl_BadRow ?sa_BadRow ?ga_BadRow ?gg_BadRow ?ca_BadRow ?cm_BadRow ?hd_BadRow ?kp_BadRow ?no_BadRow_index ?in_BadRow ?tf_BadRow ?lf_BadRow ?cf_BadRow ?kf_BadRow ?xl_BadWeight ?sa_BadWeight ?ga_BadWeight ?gg_BadWeight ?ca_BadWeight ?cm_BadWeight ?hd_BadWeight ?kp_BadWeight ?no_BadWeight_index ?in_BadWeight ?tf_BadWeight ?lf_BadWeight ?cf_BadWeight ?kf_BadWeight ?pg_Form ?hd_Form ?po_Form ?sa_Form ?mk_Form ?kc_Form ?na_Form_size ?na_Form_entries ?na_Form_bottom ?in_Form ?isf_Form ?lf_Form ?cf_Form ?kf_Form ?kd_Form ?pg_RowList ?hd_RowList ?po_RowList ?sa_RowList ?mk_RowList ?kc_RowList ?na_RowList_size ?na_RowList_pairs ?na_RowList_bottom ?na_RowList_form ?in_RowList ?isf_RowList ?lf_RowList ?cf_RowList ?kf_RowList ?kd_RowList ?me_mEq ?mf_mEq ?ml_mEq ?mc_mEq ?mp_mEq ?me_mLen ?mf_mLen ?ml_mLen ?mc_mLen ?mp_mLen ?me_mIter ?mf_mIter ?ml_mIter ?mc_mIter ?mp_mIter ?me_mAdd ?mf_mAdd ?ml_mAdd ?mc_mAdd ?mp_mAdd ?me_mScaled ?mf_mScaled ?ml_mScaled ?mc_mScaled ?mp_mScaled ?me_mPicked ?mf_mPicked ?ml_mPicked ?mc_mPicked ?mp_mPicked ?me_mbetween ?mf_mbetween ?ml_mbetween ?mc_mbetween ?mp_mbetween ?me_mcall ?mf_mcall ?ml_mcall ?mc_mcall ?mp_mcall ?mi_mcall ?i_Form ?y_Form ?oc_Form ?om_Form ?i_RowList ?y_RowList ?oc_RowList ?om_RowList ?cn0 ?ct0 ?sf_RowList ?nR ?nF ?nT ?st_RowList ?s_SizesDiffer_SizesDiffer ?s_SizesDiffer_CableError ?s_BadRow_CableError ?s_BadWeight_CableError ?s_SizesDiffer_BadRow ?s_SizesDiffer_CountsDiffer ?s_BadRow_BadRow ?s_BadRow_BadWeight ?s_BadWeight_BadRow ?s_BadWeight_BadWeight ?s_Form_Form ?s_RowList_RowList ?s_Form_RowList ?s_BadRow_BadBundle ?s_BadRow_BadIndex ?s_BadRow_BadTie ?s_BadRow_SizesDiffer ?s_BadWeight_BadBundle ?s_BadWeight_BadIndex ?s_BadWeight_BadTie ?s_BadWeight_SizesDiffer ?sb_SizesDiffer_ValueError ?sb_BadRow_ValueError ?sb_BadWeight_ValueError
    (case a1 => k_is)
    (case l1 => k_is)
    (case c1 => k_is)
    (case k1 => k_is)
    (case a2 => k_is)
    (case l2 => k_is)
    (case c2 => k_is)
    (case k2 => k_is)
    (case a3 => k_is)
    (case l3 => k_is)
    (case c3 => k_is)
    (case k3 => k_is)
    (case a4 => k_is)
    (case l4 => k_is)
    (case c4 => k_is)
    (case k4 => k_is)
    (case a5 => k_is)
    (case l5 => k_is)
    (case c5 => k_is)
    (case k5 => k_is)
    (case a6 => k_is)
    (case l6 => k_is)
    (case c6 => k_is)
    (case k6 => k_is)
    (case a7 => k_is)
    (case l7 => k_is)
    (case c7 => k_is)
    (case k7 => k_is)
    (case a8 => k_is)
    (case l8 => k_is)
    (case c8 => k_is)
    (case k8 => k_is)
    (case a9 => k_is)
    (case l9 => k_is)
    (case c9 => k_is)
    (case k9 => k_is)
    (case a10 => k_is)
    (case l10 => k_is)
    (case c10 => k_is)
    (case k10 => k_is)
    (case a11 => k_is)
    (case l11 => k_is)
    (case c11 => k_is)
    (case k11 => k_is)
    (case a12 => k_is)
    (case l12 => k_is)
    (case c12 => k_is)
    (case k12 => k_is)
    (case a13 => k_is)
    (case l13 => k_is)
    (case c13 => k_is)
    (case k13 => k_is)
    (case a14 => k_is)
    (case l14 => k_is)
    (case c14 => k_is)
    (case k14 => k_is)
    (case a15 => k_is)
    (case l15 => k_is)
    (case c15 => k_is)
    (case k15 => k_is)
    (case a16 => k_is)
    (case l16 => k_is)
    (case c16 => k_is)
    (case k16 => k_is)
    (case a17 => k_is)
    (case l17 => k_is)
    (case c17 => k_is)
    (case k17 => k_is)
    (case a18 => k_is)
    (case l18 => k_is)
    (case c18 => k_is)
    (case k18 => k_is)
    (case a19 => k_is)
    (case l19 => k_is)
    (case c19 => k_is)
    (case k19 => k_is)
    (case a20 => k_is)
    (case l20 => k_is)
    (case c20 => k_is)
    (case k20 => k_is)
    (case a21 => k_is)
    (case l21 => k_is)
    (case c21 => k_is)
    (case k21 => k_is)
    (case a22 => k_is)
    (case l22 => k_is)
    (case c22 => k_is)
    (case k22 => k_is)
    (case a23 => k_is)
    (case l23 => k_is)
    (case c23 => k_is)
    (case k23 => k_is)
    (case a24 => k_is)
    (case l24 => k_is)
    (case c24 => k_is)
    (case k24 => k_is)
    (case a25 => k_is)
    (case l25 => k_is)
    (case c25 => k_is)
    (case k25 => k_is)
    (case a26 => k_is)
    (case l26 => k_is)
    (case c26 => k_is)
    (case k26 => k_is)
    (case a27 => k_is)
    (case l27 => k_is)
    (case c27 => k_is)
    (case k27 => k_is)
    (case a28 => k_is)
    (case l28 => k_is)
    (case c28 => k_is)
    (case k28 => k_is)
    (case a29 => k_is)
    (case l29 => k_is)
    (case c29 => k_is)
    (case k29 => k_is)
    (case a30 => k_is)
    (case l30 => k_is)
    (case c30 => k_is)
    (case k30 => k_is)
    (case a31 => k_is)
    (case l31 => k_is)
    (case c31 => k_is)
    (case k31 => k_is)
    (case a32 => k_is)
    (case l32 => k_is)
    (case c32 => k_is)
    (case k32 => k_is)
    (case a33 => k_is)
    (case l33 => k_is)
    (case c33 => k_is)
    (case k33 => k_is)
    (case a34 => k_is)
    (case l34 => k_is)
    (case c34 => k_is)
    (case k34 => k_is)
    (case a35 => k_is)
    (case l35 => k_is)
    (case c35 => k_is)
    (case k35 => k_is)
    (case a36 => k_is)
    (case l36 => k_is)
    (case c36 => k_is)
    (case k36 => k_is)
    (case a37 => k_is)
    (case l37 => k_is)
    (case c37 => k_is)
    (case k37 => k_is)
    (case a38 => k_is)
    (case l38 => k_is)
    (case c38 => k_is)
    (case k38 => k_is)
    (case a39 => k_is)
    (case l39 => k_is)
    (case c39 => k_is)
    (case k39 => k_is)
    (case a40 => k_is)
    (case l40 => k_is)
    (case c40 => k_is)
    (case k40 => k_is)
    (case a41 => k_is)
    (case l41 => k_is)
    (case c41 => k_is)
    (case k41 => k_is)
    (case a42 => k_is)
    (case l42 => k_is)
    (case c42 => k_is)
    (case k42 => k_is)
    (case a43 => k_is)
    (case l43 => k_is)
    (case c43 => k_is)
    (case k43 => k_is)
    (case a44 => k_is)
    (case l44 => k_is)
    (case c44 => k_is)
    (case k44 => k_is)
    (case a45 => k_is)
    (case l45 => k_is)
    (case c45 => k_is)
    (case k45 => k_is)
    (case z0 => k_is)
    (case z1 => k_is)
    (case z2 => k_is)
    (case z3 => k_is)
    (case z4 => k_is)
    (case z5 => k_is)
    (case z6 => k_is)
    (case z7 => k_is)
    (case z8 => k_is)
    (case z9 => k_is)
    (case z10 => k_is)
    (case z11 => k_is)
    (case z12 => k_is)
    (case z13 => k_is)
    (case z14 => k_is)
    (case g_gcd => k_is)
    (case a_CableError => k_is)
    (case a_SizesDiffer => k_is)
    (case a_BadRow => k_is)
    (case a_BadWeight => k_is)
    (case a_BadBundle => k_is)
    (case a_BadIndex => k_is)
    (case a_BadTie => k_is)
    (case a_CountsDiffer => k_is)
    (case a_Form => k_is)
    (case a_RowList => k_is)
    (case i_CableError => k_is)
    (case y_CableError => k_is)
    (case i_SizesDiffer => k_is)
    (case y_SizesDiffer => k_is)
    (case i_BadRow => k_is)
    (case y_BadRow => k_is)
    (case i_BadWeight => k_is)
    (case y_BadWeight => k_is)
    (case i_BadBundle => k_is)
    (case y_BadBundle => k_is)
    (case i_BadIndex => k_is)
    (case y_BadIndex => k_is)
    (case i_BadTie => k_is)
    (case y_BadTie => k_is)
    (case i_CountsDiffer => k_is)
    (case y_CountsDiffer => k_is)
    (case b_CableError => k_is)
    (case b_SizesDiffer => k_is)
    (case b_BadRow => k_is)
    (case b_BadWeight => k_is)
    (case xl_SizesDiffer => k_is)
    (case sa_SizesDiffer => k_is)
    (case ga_SizesDiffer => k_is)
    (case gg_SizesDiffer => k_is)
    (case ca_SizesDiffer => k_is)
    (case cm_SizesDiffer => k_is)
    (case hd_SizesDiffer => k_is)
    (case kp_SizesDiffer => k_is)
    (case no_SizesDiffer_one => k_is)
    (case no_SizesDiffer_two => k_is)
    (case in_SizesDiffer => k_is)
    (case tf_SizesDiffer => k_is)
    (case lf_SizesDiffer => k_is)
    (case cf_SizesDiffer => k_is)
    (case kf_SizesDiffer => k_is)
    (case xl_BadRow => k_is)
    (case sa_BadRow => k_is)
    (case ga_BadRow => k_is)
    (case gg_BadRow => k_is)
    (case ca_BadRow => k_is)
    (case cm_BadRow => k_is)
    (case hd_BadRow => k_is)
    (case kp_BadRow => k_is)
    (case no_BadRow_index => k_is)
    (case in_BadRow => k_is)
    (case tf_BadRow => k_is)
    (case lf_BadRow => k_is)
    (case cf_BadRow => k_is)
    (case kf_BadRow => k_is)
    (case xl_BadWeight => k_is)
    (case sa_BadWeight => k_is)
    (case ga_BadWeight => k_is)
    (case gg_BadWeight => k_is)
    (case ca_BadWeight => k_is)
    (case cm_BadWeight => k_is)
    (case hd_BadWeight => k_is)
    (case kp_BadWeight => k_is)
    (case no_BadWeight_index => k_is)
    (case in_BadWeight => k_is)
    (case tf_BadWeight => k_is)
    (case lf_BadWeight => k_is)
    (case cf_BadWeight => k_is)
    (case kf_BadWeight => k_is)
    (case pg_Form => k_is)
    (case hd_Form => k_is)
    (case po_Form => k_is)
    (case sa_Form => k_is)
    (case mk_Form => k_is)
    (case kc_Form => k_is)
    (case na_Form_size => k_is)
    (case na_Form_entries => k_is)
    (case na_Form_bottom => k_is)
    (case in_Form => k_is)
    (case isf_Form => k_is)
    (case lf_Form => k_is)
    (case cf_Form => k_is)
    (case kf_Form => k_is)
    (case kd_Form => k_is)
    (case pg_RowList => k_is)
    (case hd_RowList => k_is)
    (case po_RowList => k_is)
    (case sa_RowList => k_is)
    (case mk_RowList => k_is)
    (case kc_RowList => k_is)
    (case na_RowList_size => k_is)
    (case na_RowList_pairs => k_is)
    (case na_RowList_bottom => k_is)
    (case na_RowList_form => k_is)
    (case in_RowList => k_is)
    (case isf_RowList => k_is)
    (case lf_RowList => k_is)
    (case cf_RowList => k_is)
    (case kf_RowList => k_is)
    (case kd_RowList => k_is)
    (case me_mEq => k_is)
    (case mf_mEq => k_is)
    (case ml_mEq => k_is)
    (case mc_mEq => k_is)
    (case mp_mEq => k_is)
    (case me_mLen => k_is)
    (case mf_mLen => k_is)
    (case ml_mLen => k_is)
    (case mc_mLen => k_is)
    (case mp_mLen => k_is)
    (case me_mIter => k_is)
    (case mf_mIter => k_is)
    (case ml_mIter => k_is)
    (case mc_mIter => k_is)
    (case mp_mIter => k_is)
    (case me_mAdd => k_is)
    (case mf_mAdd => k_is)
    (case ml_mAdd => k_is)
    (case mc_mAdd => k_is)
    (case mp_mAdd => k_is)
    (case me_mScaled => k_is)
    (case mf_mScaled => k_is)
    (case ml_mScaled => k_is)
    (case mc_mScaled => k_is)
    (case mp_mScaled => k_is)
    (case me_mPicked => k_is)
    (case mf_mPicked => k_is)
    (case ml_mPicked => k_is)
    (case mc_mPicked => k_is)
    (case mp_mPicked => k_is)
    (case me_mbetween => k_is)
    (case mf_mbetween => k_is)
    (case ml_mbetween => k_is)
    (case mc_mbetween => k_is)
    (case mp_mbetween => k_is)
    (case me_mcall => k_is)
    (case mf_mcall => k_is)
    (case ml_mcall => k_is)
    (case mc_mcall => k_is)
    (case mp_mcall => k_is)
    (case mi_mcall => k_is)
    (case i_Form => k_is)
    (case y_Form => k_is)
    (case oc_Form => k_is)
    (case om_Form => k_is)
    (case i_RowList => k_is)
    (case y_RowList => k_is)
    (case oc_RowList => k_is)
    (case om_RowList => k_is)
    (case cn0 => k_is)
    (case ct0 => k_is)
    (case sf_RowList => k_is)
    (case nR => k_is)
    (case nF => k_is)
    (case nT => k_is)
    (case st_RowList => k_is)
    (case s_SizesDiffer_SizesDiffer => k_is)
    (case s_SizesDiffer_CableError => k_is)
    (case s_BadRow_CableError => k_is)
    (case s_BadWeight_CableError => k_is)
    (case s_SizesDiffer_BadRow => k_is)
    (case s_SizesDiffer_CountsDiffer => k_is)
    (case s_BadRow_BadRow => k_is)
    (case s_BadRow_BadWeight => k_is)
    (case s_BadWeight_BadRow => k_is)
    (case s_BadWeight_BadWeight => k_is)
    (case s_Form_Form => k_is)
    (case s_RowList_RowList => k_is)
    (case s_Form_RowList => k_is)
    (case s_BadRow_BadBundle => k_is)
    (case s_BadRow_BadIndex => k_is)
    (case s_BadRow_BadTie => k_is)
    (case s_BadRow_SizesDiffer => k_is)
    (case s_BadWeight_BadBundle => k_is)
    (case s_BadWeight_BadIndex => k_is)
    (case s_BadWeight_BadTie => k_is)
    (case s_BadWeight_SizesDiffer => k_is)
    (case sb_SizesDiffer_ValueError => k_is)
    (case sb_BadRow_ValueError => k_is)
    (case sb_BadWeight_ValueError => k_is)
